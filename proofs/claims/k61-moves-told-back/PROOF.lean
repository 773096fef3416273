import PyProof.Rows.All
import HandS.ExcCtx
import Wide.All
import OpenK.AllK
import Wide.FinOn
import HandS.ForMost
import HandS.ForExc
import HandS.TupAny
import KE.KDictKeyed
import HandS.Wide
import HandS.TupMul
import HandS.TupLe
import HandS.Defaults
import HandS.Comp
import HandS.IsInst
import HandS.Deep
import HandS.TupSets
import HandS.ReCall
import KE.SortData
import HandS.Iter
import KE.DataMinMax
import HandS.SortKw
import HandS.HeadHook4
import HandS.ExcOwn
import PyProof.ExcBaseAll.ValueError
import HandS.More
import HandS.HeadHook2
import KE.SortKeyHeap
import HandS.Exc
import KE.KDictDisplayH
import HandS.Style
import HandS.Hot
import HandS.HotCalls
import HandS.Zip
import HandS.ExcIs
import HandS.Text
import HandS.SetFor
import HandS.Strs
import HandS.Head0
import HandS.Head1
import HandS.Head2
import HandS.HeadEnd
import HandS.HeadHook1
import HandS.Words
import HandS.WordsExc
import HandS.Codes
import KE.KStateDown
import PySem.Challenge.RW_notechains_k61_moves_told_back
set_option Elab.async false
set_option linter.all false
set_option maxRecDepth 100000
set_option maxHeartbeats 0
namespace Nc
open PySem PySem.Spec L2
open PyProof.Rows hiding St

abbrev D := PyData
/-- who holds an address: frozen data; the slot i of the frame that runs; what is handed back -/
inductive Tag where
  | fz
  | own (i : Nat)
  | res
  deriving DecidableEq
abbrev Gh := Addr → Option Tag
structure Cf where
  P : Program
  w : World
  K : PySem.W.Frag

/-- a key's data as a nested key -/
def keyOf : D → Option NestedKey
  | .none => some .none
  | .int i => some (.num i)
  | .bool b => some (.num (if b then 1 else 0))
  | .str x => some (.text x)
  | .tuple ds => (keysOf ds).map .tup
  | _ => Option.none
where keysOf : List D → Option (List NestedKey)
  | [] => some []
  | d :: ds => (keyOf d).bind fun k => (keysOf ds).map (k :: ·)

abbrev Ent := NestedKey × Addr × V
/-- the dict at a, its entries by key, the key's tuple, value -/
def DicO (c : Cf) (a : Addr) (xs : List Ent) : HO := .ext fun h =>
  (xs.map (·.1)).Nodup ∧ (∀ x ∈ xs, x.1.depth ≤ 8) ∧ xs.length ≤ sizeLine ∧ (a == sysModules) = false ∧
  ∃ (ys : List (NestedKey × Addr × Value)) (o : Obj) (es : Array DictEntry) (ep : Nat), h.get? a = some o ∧ o.ExactDict ∧ o.data = .dict es ep ∧
    es.toList = ys.map (entryOfKey (nestedKind c.P c.w)) ∧ Paired (fun (x : Ent) (y : NestedKey × Addr × Value) => x.1 = y.1 ∧ x.2.1 = y.2.1 ∧ RelV x.2.2 y.2.2) xs ys

mutual
/-- v stands for the data d, all of it frozen -/
inductive Rep (c : Cf) (G : Gh) (H : Hp) : V → D → Prop
  | non : Rep c G H .non .none
  | bl (b : Bool) : Rep c G H (.bl b) (.bool b)
  | int (i : Int) : Rep c G H (.int i) (.int i)
  | str (x : Str) : Rep c G H (.str x) (.str x)
  | tup {a : Addr} {xs : List V} {ds : List D} : SqT c.K H a xs → RepL c G H xs ds → Rep c G H (.ref a) (.tuple ds)
  | lst {a : Addr} {xs : List V} {ds : List D} : G a = some .fz → H a = some (.lst xs) → RepL c G H xs ds → Rep c G H (.ref a) (.list ds)
  | frz {a : Addr} {o : Obj} {xs : List V} {ds : List D} : H a = some (.frz o (.lst xs)) → RepL c G H xs ds → Rep c G H (.ref a) (.list ds)
  | dic {a : Addr} {o : Obj} {xs : List Ent} {kvs : List (D × D)} : H a = some (.frz o (DicO c a xs)) → RepK c G H xs kvs → Rep c G H (.ref a) (.dict kvs)
inductive RepL (c : Cf) (G : Gh) (H : Hp) : List V → List D → Prop
  | nil : RepL c G H [] []
  | cons {v : V} {d : D} {vs : List V} {ds : List D} : Rep c G H v d → RepL c G H vs ds → RepL c G H (v :: vs) (d :: ds)
inductive RepK (c : Cf) (G : Gh) (H : Hp) : List Ent → List (D × D) → Prop
  | nil : RepK c G H [] []
  | cons {k : NestedKey} {b : Addr} {u : V} {kd vd : D} {xs : List Ent} {kvs : List (D × D)} : Rep c G H (.ref b) kd → keyOf kd = some k → Rep c G H u vd → RepK c G H xs kvs →
      RepK c G H ((k, b, u) :: xs) ((kd, vd) :: kvs)
end

def isAtom : D → Bool
  | .list _ => false
  | .dict _ => false
  | _ => true

mutual
/-- .. its lists and dicts down to the depth k stand at the addresses A, each once -/
inductive Tr (c : Cf) (G : Gh) (H : Hp) : Nat → V → D → List Addr → Prop
  | leaf {v : V} {d : D} : Rep c G H v d → Tr c G H 0 v d []
  | atom {k : Nat} {v : V} {d : D} : Rep c G H v d → isAtom d = true → Tr c G H (k + 1) v d []
  | lst {k : Nat} {a : Addr} {xs : List V} {ds : List D} {A : List Addr} : H a = some (.lst xs) → TrL c G H k xs ds A → Tr c G H (k + 1) (.ref a) (.list ds) (a :: A)
  | dic {k : Nat} {a : Addr} {xs : List Ent} {kvs : List (D × D)} {A : List Addr} : H a = some (DicO c a xs) → TrK c G H k xs kvs A → Tr c G H (k + 1) (.ref a) (.dict kvs) (a :: A)
inductive TrL (c : Cf) (G : Gh) (H : Hp) : Nat → List V → List D → List Addr → Prop
  | nil {k : Nat} : TrL c G H k [] [] []
  | cons {k : Nat} {v : V} {d : D} {vs : List V} {ds : List D} {A B : List Addr} : Tr c G H k v d A → TrL c G H k vs ds B → TrL c G H k (v :: vs) (d :: ds) (A ++ B)
inductive TrK (c : Cf) (G : Gh) (H : Hp) : Nat → List Ent → List (D × D) → List Addr → Prop
  | nil {k : Nat} : TrK c G H k [] [] []
  | cons {n : Nat} {k : NestedKey} {b : Addr} {u : V} {kd vd : D} {xs : List Ent} {kvs : List (D × D)} {A B : List Addr} : Rep c G H (.ref b) kd → keyOf kd = some k → Tr c G H n u vd A → TrK c G H n xs kvs B →
      TrK c G H n ((k, b, u) :: xs) ((kd, vd) :: kvs) (A ++ B)
end

/-- a slot: nothing, or data with the depth to which it is the slot's own -/
abbrev Slot := Option (Nat × D)
abbrev Rho := List Slot
structure RE (c : Cf) (G : Gh) (σ : St) (H : Hp) (ρ : Rho) : Prop where
  len : ρ.length = σ.length
  gi : ∀ a, G a ≠ none → H a ≠ none
  at_ : ∀ (i k : Nat) (d : D), ρ[i]? = some (some (k, d)) → ∃ v A, σ[i]? = some (some v) ∧ Tr c G H k v d A ∧ A.Nodup ∧ ∀ a ∈ A, G a = some (.own i)

/-- what one piece of code may do to the heap and to who owns what; io: the slots that a caller lent -/
structure Stp (io : Nat → Bool) (G : Gh) (H : Hp) (G' : Gh) (H' : Hp) : Prop where
  fz : ∀ a, G a = some .fz → G' a = some .fz
  un : ∀ a, H a ≠ none → G a = none → G' a = none
  kp : ∀ a o, H a = some o → (∀ i, G a ≠ some (.own i)) → H' a = some o
  dm : ∀ a, H a ≠ none → H' a ≠ none
  ow : ∀ a i, H a ≠ none → G' a = some (.own i) → G a = some (.own i)
  rt : ∀ a, H a ≠ none → G' a = some .res → G a = some .res ∨ ∃ i, io i = false ∧ G a = some (.own i)
  tp : ∀ a xs, H a = some (.tup xs) → H' a = some (.tup xs)
  fr : ∀ a o u, H a = some (.frz o u) → H' a = some (.frz o u)
/-- .. where nothing that stood is touched -/
structure Ext (G : Gh) (H : Hp) (G' : Gh) (H' : Hp) : Prop where
  h : ∀ a o, H a = some o → H' a = some o
  g : ∀ a, H a ≠ none → G' a = G a

variable {c : Cf} {io : Nat → Bool} {G G1 G2 G' : Gh} {H H1 H2 H' : Hp} {σ : St} {ρ ρ' : Rho}
theorem Stp.refl : Stp io G H G H :=
  ⟨fun _ h => h, fun _ _ h => h, fun _ _ h _ => h, fun _ h => h, fun _ _ _ h => h, fun _ _ h => .inl h, fun _ _ h => h, fun _ _ _ h => h⟩
theorem Stp.trans (a : Stp io G H G1 H1) (b : Stp io G1 H1 G2 H2) : Stp io G H G2 H2 where
  fz := fun x h => b.fz x (a.fz x h)
  un := fun x h h' => b.un x (a.dm x h) (a.un x h h')
  kp := fun x o h n => by
    refine b.kp x o (a.kp x o h n) fun i e => n i (a.ow x i (by rw [h]; simp) e)
  dm := fun x h => b.dm x (a.dm x h)
  ow := fun x i h e => a.ow x i h (b.ow x i (a.dm x h) e)
  rt := fun x h e => by
    rcases b.rt x (a.dm x h) e with q | ⟨i, hi, q⟩
    · exact a.rt x h q
    · exact .inr ⟨i, hi, a.ow x i h q⟩
  tp := fun x xs h => b.tp x xs (a.tp x xs h)
  fr := fun x o u h => b.fr x o u (a.fr x o u h)
theorem Ext.refl : Ext G H G H := ⟨fun _ _ h => h, fun _ _ => rfl⟩
theorem Ext.dm (e : Ext G H G' H') {a : Addr} (h : H a ≠ none) : H' a ≠ none := by
  cases q : H a with
  | none => exact absurd q h
  | some o => rw [e.h a o q]; simp
theorem Ext.trans (a : Ext G H G1 H1) (b : Ext G1 H1 G2 H2) : Ext G H G2 H2 :=
  ⟨fun x o h => b.h x o (a.h x o h), fun x h => (b.g x (a.dm h)).trans (a.g x h)⟩
/-- tags stand on what is there -/
def GI (G : Gh) (H : Hp) : Prop := ∀ a, G a ≠ none → H a ≠ none
theorem Ext.stp (g : GI G H) (e : Ext G H G' H') : Stp io G H G' H' where
  fz := fun a h => by rw [e.g a (g a (by rw [h]; simp))]; exact h
  un := fun a h h' => by rw [e.g a h]; exact h'
  kp := fun a o h _ => e.h a o h
  dm := fun a h => e.dm h
  ow := fun a i h h' => by rw [← e.g a h]; exact h'
  rt := fun a h h' => .inl (by rw [← e.g a h]; exact h')
  tp := fun a xs h => e.h a _ h
  fr := fun a o u h => e.h a _ h

theorem sqT_stp (s : Stp io G H G' H') {K : PySem.W.Frag} {a : Addr} {xs : List V} (h : SqT K H a xs) : SqT K H' a xs := by
  rcases h with (h | ⟨o, h⟩) | h
  · exact .inl (.inl (s.tp _ _ h))
  · exact .inl (.inr ⟨o, s.fr _ _ _ h⟩)
  · exact .inr h

mutual
theorem Rep.stp (s : Stp io G H G' H') : ∀ {v : V} {d : D}, Rep c G H v d → Rep c G' H' v d
  | _, _, .non => .non
  | _, _, .bl b => .bl b
  | _, _, .int i => .int i
  | _, _, .str x => .str x
  | _, _, .tup h r => .tup (sqT_stp s h) (RepL.stp s r)
  | _, _, .lst g h r => .lst (s.fz _ g) (s.kp _ _ h fun i e => by rw [g] at e; cases e) (RepL.stp s r)
  | _, _, .frz h r => .frz (s.fr _ _ _ h) (RepL.stp s r)
  | _, _, .dic h r => .dic (s.fr _ _ _ h) (RepK.stp s r)
theorem RepL.stp (s : Stp io G H G' H') : ∀ {vs : List V} {ds : List D}, RepL c G H vs ds → RepL c G' H' vs ds
  | _, _, .nil => .nil
  | _, _, .cons h r => .cons (Rep.stp s h) (RepL.stp s r)
theorem RepK.stp (s : Stp io G H G' H') : ∀ {xs : List Ent} {kvs : List (D × D)}, RepK c G H xs kvs → RepK c G' H' xs kvs
  | _, _, .nil => .nil
  | _, _, .cons h e u r => .cons (Rep.stp s h) e (Rep.stp s u) (RepK.stp s r)
end

/-- trees whose nodes are kept, whose leaves are frozen -/
structure Kps (G : Gh) (H : Hp) (G' : Gh) (H' : Hp) (A : List Addr) : Prop where
  rep : ∀ {c : Cf} {v : V} {d : D}, Rep c G H v d → Rep c G' H' v d
  nod : ∀ a ∈ A, ∀ o, H a = some o → H' a = some o
theorem Kps.sub {A B : List Addr} (k : Kps G H G' H' A) (h : ∀ a ∈ B, a ∈ A) : Kps G H G' H' B := ⟨k.rep, fun a ha => k.nod a (h a ha)⟩
mutual
theorem Tr.kps : ∀ {k : Nat} {v : V} {d : D} {A : List Addr}, Tr c G H k v d A → Kps G H G' H' A → Tr c G' H' k v d A
  | _, _, _, _, .leaf r, k => .leaf (k.rep r)
  | _, _, _, _, .atom r e, k => .atom (k.rep r) e
  | _, _, _, _, .lst h r, k => .lst (k.nod _ (List.mem_cons_self ..) _ h) (TrL.kps r (k.sub fun _ h => List.mem_cons_of_mem _ h))
  | _, _, _, _, .dic h r, k => .dic (k.nod _ (List.mem_cons_self ..) _ h) (TrK.kps r (k.sub fun _ h => List.mem_cons_of_mem _ h))
theorem TrL.kps : ∀ {k : Nat} {vs : List V} {ds : List D} {A : List Addr}, TrL c G H k vs ds A → Kps G H G' H' A → TrL c G' H' k vs ds A
  | _, _, _, _, .nil, _ => .nil
  | _, _, _, _, .cons h r, k => .cons (Tr.kps h (k.sub fun _ h => List.mem_append_left _ h)) (TrL.kps r (k.sub fun _ h => List.mem_append_right _ h))
theorem TrK.kps : ∀ {k : Nat} {xs : List Ent} {kvs : List (D × D)} {A : List Addr}, TrK c G H k xs kvs A → Kps G H G' H' A → TrK c G' H' k xs kvs A
  | _, _, _, _, .nil, _ => .nil
  | _, _, _, _, .cons h e u r, k => .cons (k.rep h) e (Tr.kps u (k.sub fun _ h => List.mem_append_left _ h)) (TrK.kps r (k.sub fun _ h => List.mem_append_right _ h))
end
theorem Tr.stp {k : Nat} {v : V} {d : D} {A : List Addr} (t : Tr c G H k v d A) (s : Stp io G H G' H') (n : ∀ a ∈ A, ∀ i, G a ≠ some (.own i)) : Tr c G' H' k v d A :=
  t.kps ⟨fun r => r.stp s, fun a ha o h => s.kp a o h (n a ha)⟩
theorem Tr.ext {k : Nat} {v : V} {d : D} {A : List Addr} (t : Tr c G H k v d A) (g : GI G H) (e : Ext G H G' H') : Tr c G' H' k v d A :=
  t.kps ⟨fun r => r.stp (io := fun _ => false) (e.stp g), fun a _ o h => e.h a o h⟩
mutual
theorem Tr.dom : ∀ {k : Nat} {v : V} {d : D} {A : List Addr}, Tr c G H k v d A → ∀ a ∈ A, H a ≠ none
  | _, _, _, _, .leaf _, a, h => by cases h
  | _, _, _, _, .atom _ _, a, h => by cases h
  | _, _, _, _, .lst h r, a, ha => by
    rcases List.mem_cons.mp ha with e | ha
    · rw [e, h]; simp
    · exact TrL.dom r a ha
  | _, _, _, _, .dic h r, a, ha => by
    rcases List.mem_cons.mp ha with e | ha
    · rw [e, h]; simp
    · exact TrK.dom r a ha
theorem TrL.dom : ∀ {k : Nat} {vs : List V} {ds : List D} {A : List Addr}, TrL c G H k vs ds A → ∀ a ∈ A, H a ≠ none
  | _, _, _, _, .nil, a, h => by cases h
  | _, _, _, _, .cons h r, a, ha => (List.mem_append.mp ha).elim (Tr.dom h a) (TrL.dom r a)
theorem TrK.dom : ∀ {k : Nat} {xs : List Ent} {kvs : List (D × D)} {A : List Addr}, TrK c G H k xs kvs A → ∀ a ∈ A, H a ≠ none
  | _, _, _, _, .nil, a, h => by cases h
  | _, _, _, _, .cons _ _ u r, a, ha => (List.mem_append.mp ha).elim (Tr.dom u a) (TrK.dom r a)
end
/-- what can be frozen as it stands -/
def okF : Nat → D → Bool
  | 0, _ => true
  | _ + 1, .dict _ => false
  | k + 1, .list ds => ds.all (okF k)
  | _ + 1, _ => true
/- the nodes of a tree become frozen -/
mutual
theorem Rep.tags (fzs : ∀ a, G a = some .fz → G' a = some .fz) : ∀ {v : V} {d : D}, Rep c G H v d → Rep c G' H v d
  | _, _, .non => .non
  | _, _, .bl b => .bl b
  | _, _, .int i => .int i
  | _, _, .str x => .str x
  | _, _, .tup h r => .tup h (RepL.tags fzs r)
  | _, _, .lst g h r => .lst (fzs _ g) h (RepL.tags fzs r)
  | _, _, .frz h r => .frz h (RepL.tags fzs r)
  | _, _, .dic h r => .dic h (RepK.tags fzs r)
theorem RepL.tags (fzs : ∀ a, G a = some .fz → G' a = some .fz) : ∀ {vs : List V} {ds : List D}, RepL c G H vs ds → RepL c G' H vs ds
  | _, _, .nil => .nil
  | _, _, .cons h r => .cons (Rep.tags fzs h) (RepL.tags fzs r)
theorem RepK.tags (fzs : ∀ a, G a = some .fz → G' a = some .fz) : ∀ {xs : List Ent} {kvs : List (D × D)}, RepK c G H xs kvs → RepK c G' H xs kvs
  | _, _, .nil => .nil
  | _, _, .cons h e u r => .cons (Rep.tags fzs h) e (Rep.tags fzs u) (RepK.tags fzs r)
end
mutual
theorem Tr.freeze (fzs : ∀ a, G a = some .fz → G' a = some .fz) : ∀ {k : Nat} {v : V} {d : D} {A : List Addr}, Tr c G H k v d A → okF k d = true → (∀ a ∈ A, G' a = some .fz) → Rep c G' H v d
  | _, _, _, _, .leaf r, _, _ => Rep.tags fzs r
  | _, _, _, _, .atom r _, _, _ => Rep.tags fzs r
  | _, _, _, _, .lst h r, o, k => .lst (k _ (List.mem_cons_self ..)) h (TrL.freeze fzs r o fun a ha => k a (List.mem_cons_of_mem _ ha))
  | _, _, _, _, .dic h r, o, k => nomatch (show false = true from o)
theorem TrL.freeze (fzs : ∀ a, G a = some .fz → G' a = some .fz) : ∀ {k : Nat} {vs : List V} {ds : List D} {A : List Addr}, TrL c G H k vs ds A → ds.all (okF k) = true → (∀ a ∈ A, G' a = some .fz) → RepL c G' H vs ds
  | _, _, _, _, .nil, _, _ => .nil
  | _, _, _, _, .cons h r, o, k => .cons (Tr.freeze fzs h (Bool.and_eq_true_iff.mp o).1 fun a ha => k a (List.mem_append_left _ ha)) (TrL.freeze fzs r (Bool.and_eq_true_iff.mp o).2 fun a ha => k a (List.mem_append_right _ ha))
end
/-- nothing but untagged lists and dicts may change -/
structure Lk0 (G : Gh) (H H' : Hp) : Prop where
  fz : ∀ a o, G a ≠ none → H a = some o → H' a = some o
  tp : ∀ a xs, H a = some (.tup xs) → H' a = some (.tup xs)
  fr : ∀ a o u, H a = some (.frz o u) → H' a = some (.frz o u)
theorem sqT_lk (l : Lk0 G H H') {K : PySem.W.Frag} {a : Addr} {xs : List V} (h : SqT K H a xs) : SqT K H' a xs := by
  rcases h with (h | ⟨o, h⟩) | h
  · exact .inl (.inl (l.tp _ _ h))
  · exact .inl (.inr ⟨o, l.fr _ _ _ h⟩)
  · exact .inr h
mutual
theorem Rep.lk (l : Lk0 G H H') : ∀ {v : V} {d : D}, Rep c G H v d → Rep c G H' v d
  | _, _, .non => .non
  | _, _, .bl b => .bl b
  | _, _, .int i => .int i
  | _, _, .str x => .str x
  | _, _, .tup h r => .tup (sqT_lk l h) (RepL.lk l r)
  | _, _, .lst g h r => .lst g (l.fz _ _ (by rw [g]; simp) h) (RepL.lk l r)
  | _, _, .frz h r => .frz (l.fr _ _ _ h) (RepL.lk l r)
  | _, _, .dic h r => .dic (l.fr _ _ _ h) (RepK.lk l r)
theorem RepL.lk (l : Lk0 G H H') : ∀ {vs : List V} {ds : List D}, RepL c G H vs ds → RepL c G H' vs ds
  | _, _, .nil => .nil
  | _, _, .cons h r => .cons (Rep.lk l h) (RepL.lk l r)
theorem RepK.lk (l : Lk0 G H H') : ∀ {xs : List Ent} {kvs : List (D × D)}, RepK c G H xs kvs → RepK c G H' xs kvs
  | _, _, .nil => .nil
  | _, _, .cons h e u r => .cons (Rep.lk l h) e (Rep.lk l u) (RepK.lk l r)
end
theorem RE.lk (re : RE c G σ H ρ) (l : Lk0 G H H') : RE c G σ H' ρ := by
  refine ⟨re.len, fun a h => ?_, fun i k d e => ?_⟩
  · cases q : H a with
    | none => exact absurd q (re.gi a h)
    | some o => rw [l.fz a o h q]; simp
  · obtain ⟨v, A, h1, h2, h3, h4⟩ := re.at_ i k d e
    exact ⟨v, A, h1, h2.kps ⟨fun r => r.lk l, fun a ha o h => l.fz a o (by rw [h4 a ha]; simp) h⟩, h3, h4⟩
end Nc
namespace Nc
open PySem PySem.Spec L2
open PyProof.Rows hiding St

/-- what a piece of code ends with: a value; an exception of the class of that name; nothing that is said here -/
inductive R (α : Type) where
  | ok (a : α)
  | exc (x : Str)
  | bad
def R.bind {α β : Type} (r : R α) (f : α → R β) : R β := match r with
  | .ok a => f a
  | .exc x => .exc x
  | .bad => .bad
@[simp] theorem R.bind_ok {α β : Type} (a : α) (f : α → R β) : (R.ok a).bind f = f a := rfl
@[simp] theorem R.bind_exc {α β : Type} (x : Str) (f : α → R β) : (R.exc x).bind f = .exc x := rfl
@[simp] theorem R.bind_bad {α β : Type} (f : α → R β) : (R.bad : R α).bind f = .bad := rfl
/-- out of an option -/
def R.of {α : Type} (o : Option α) (ρ : Rho) : R (α × Rho) := match o with
  | some a => .ok (a, ρ)
  | none => .bad
@[simp] theorem R.of_some {α : Type} (a : α) (ρ : Rho) : R.of (some a) ρ = .ok (a, ρ) := rfl
@[simp] theorem R.of_none {α : Type} (ρ : Rho) : R.of (none : Option α) ρ = .bad := rfl
abbrev M := Rho → R (D × Rho)

/-- borrowed (to be read at once), frozen, new (owned by none, down to the depth k) -/
inductive Cls where
  | b
  | f
  | n (k : Nat)
/-- what can be read as d: its items are frozen -/
inductive Rd1 (c : Cf) (G : Gh) (H : Hp) : V → D → Prop
  | rep {v : V} {d : D} : Rep c G H v d → Rd1 c G H v d
  | lst {a : Addr} {xs : List V} {ds : List D} : H a = some (.lst xs) → RepL c G H xs ds → Rd1 c G H (.ref a) (.list ds)
  | dic {a : Addr} {xs : List Ent} {kvs : List (D × D)} : H a = some (DicO c a xs) → RepK c G H xs kvs → Rd1 c G H (.ref a) (.dict kvs)
def New (c : Cf) (k : Nat) (H0 : Hp) (G : Gh) (H : Hp) (v : V) (d : D) : Prop := ∃ A, Tr c G H k v d A ∧ A.Nodup ∧ ∀ a ∈ A, G a = none ∧ H0 a = none
def Res (c : Cf) (cl : Cls) (H0 : Hp) (G : Gh) (H : Hp) (v : V) (d : D) : Prop := match cl with
  | .b => Rd1 c G H v d
  | .f => Rep c G H v d
  | .n k => New c k H0 G H v d
def StepOf (p : Bool) (io : Nat → Bool) (G : Gh) (H : Hp) (G' : Gh) (H' : Hp) : Prop := if p = true then Ext G H G' H' else Stp io G H G' H'
abbrev cfX (X : Cx) : Cf := ⟨X.prog, X.w, X.K⟩

section
variable {X : Cx} {io : Nat → Bool} {W : WX} {c : Cf} {p p1 p2 : Bool} {cl cl1 cl2 : Cls} {G G1 G2 G' : Gh} {H H0 H1 H2 H' : Hp} {σ : L2.St} {ρ ρ1 ρ2 ρ' : Rho}
theorem StepOf.stp (g : GI G H) (s : StepOf p io G H G' H') : Stp io G H G' H' := by
  cases p with
  | true => exact Ext.stp g s
  | false => exact s
theorem StepOf.refl : StepOf p io G H G H := by
  cases p with
  | true => exact Ext.refl
  | false => exact Stp.refl
theorem StepOf.trans (g : GI G H) (g1 : GI G1 H1) (a : StepOf p1 io G H G1 H1) (b : StepOf p2 io G1 H1 G2 H2) : StepOf (p1 && p2) io G H G2 H2 := by
  cases p1 with
  | false => exact Stp.trans a (b.stp g1)
  | true =>
    cases p2 with
    | true => exact Ext.trans a b
    | false => exact Stp.trans (Ext.stp g a) b
theorem RE.gI (r : RE c G σ H ρ) : GI G H := r.gi

def ExcP (X : Cx) (io : Nat → Bool) (W : WX) (σ : L2.St) (G : Gh) (H : Hp) (x : Str) : Prop :=
  ∀ (C : Addr) (G' : Gh) (H' : Hp), X.mg x = some (.ref C) → Stp io G H G' H' → W (.ref C) none σ H'
/-- what is to hold behind a run whose end is r -/
def Good {β : Type} (X : Cx) (io : Nat → Bool) (W : WX) (p : Bool) (σ : L2.St) (G : Gh) (H : Hp) (r : R (β × Rho)) (k : β → Rho → Gh → Hp → Prop) : Prop := match r with
  | .ok (b, ρ') => ∀ G' H', StepOf p io G H G' H' → RE (cfX X) G' σ H' ρ' → k b ρ' G' H'
  | .exc x => ExcP X io W σ G H x
  | .bad => False
theorem Good.mono {β : Type} {r : R (β × Rho)} {k k' : β → Rho → Gh → Hp → Prop} (h : Good X io W p σ G H r k) (hk : ∀ b ρ' G' H', StepOf p io G H G' H' → RE (cfX X) G' σ H' ρ' → k b ρ' G' H' → k' b ρ' G' H') : Good X io W p σ G H r k' := by
  cases r with
  | ok a =>
    obtain ⟨b, ρ'⟩ := a
    exact fun G' H' s re => hk b ρ' G' H' s re (h G' H' s re)
  | exc x => exact h
  | bad => exact h
theorem Good.bind {β γ : Type} {r : R (β × Rho)} {f : β × Rho → R (γ × Rho)} {k : γ → Rho → Gh → Hp → Prop} (g : GI G H) (h : Good X io W (p1 && p2) σ G H (r.bind f) k) :
    Good X io W p1 σ G H r fun b ρ1 G1 H1 => Good X io W p2 σ G1 H1 (f (b, ρ1)) k := by
  cases r with
  | ok a =>
    obtain ⟨b, ρ1⟩ := a
    intro G1 H1 s1 re1
    have h' : Good X io W (p1 && p2) σ G H (f (b, ρ1)) k := h
    show Good X io W p2 σ G1 H1 (f (b, ρ1)) k
    cases e : f (b, ρ1) with
    | ok a =>
      obtain ⟨y, ρ2⟩ := a
      rw [e] at h'
      exact fun G2 H2 s2 re2 => h' G2 H2 (s1.trans g re1.gi s2) re2
    | exc x =>
      rw [e] at h'
      exact fun C G2 H2 hm s2 => h' C G2 H2 hm ((s1.stp g).trans s2)
    | bad => rw [e] at h'; exact h'
  | exc x => exact h
  | bad => exact h

/-- an expression's reading -/
def tJ (X : Cx) (io : Nat → Bool) (W : WX) (p : Bool) (cl : Cls) (f : M) : TE := fun σ H Q => ∃ G ρ, RE (cfX X) G σ H ρ ∧
  Good X io W p σ G H (f ρ) fun d _ G' H' => ∀ v, Res (cfX X) cl H G' H' v d → Q v H'
structure J (X : Cx) (io : Nat → Bool) (W : WX) (p : Bool) (cl : Cls) (e : Expr) (f : M) : Prop where
  pe : PE X e (tJ X io W p cl f)
  pu : p = true → ∀ ρ d ρ', f ρ = .ok (d, ρ') → ρ' = ρ
theorem peI {e : Expr} {t t' : TE} (h : PE X e t) (i : ∀ σ H Q, t' σ H Q → t σ H Q) : PE X e t' := ⟨fun pins s σ H Q I hq => h.run pins s σ H Q I (i σ H Q hq)⟩
theorem ptI {e : Expr} {t t' : TT} (h : PT X e t) (i : ∀ σ H Q, t' σ H Q → t σ H Q) : PT X e t' := ⟨fun pins s σ H Q I hq => h.run pins s σ H Q I (i σ H Q hq)⟩
/-- a test's -/
abbrev MT := Rho → R (Bool × Rho)
def tJT (X : Cx) (io : Nat → Bool) (W : WX) (p : Bool) (f : MT) : TT := fun σ H Q => ∃ G ρ, RE (cfX X) G σ H ρ ∧
  Good X io W p σ G H (f ρ) fun d _ _ H' => Q d H'
structure JT (X : Cx) (io : Nat → Bool) (W : WX) (p : Bool) (e : Expr) (f : MT) : Prop where
  pt : PT X e (tJT X io W p f)
  pu : p = true → ∀ ρ d ρ', f ρ = .ok (d, ρ') → ρ' = ρ
/-- a test whatever its whole is -/
structure JW (X : Cx) (io : Nat → Bool) (W : WX) (p : Bool) (e : Expr) (f : MT) : Prop where
  pw : PW X e (tJT X io W p f)
  pu : p = true → ∀ ρ d ρ', f ρ = .ok (d, ρ') → ρ' = ρ
theorem JW.t {e : Expr} {f : MT} (h : JW X io W p e f) : JT X io W p e f := ⟨h.pw.pt, h.pu⟩

theorem Rd1.sqL {v : V} {ds : List D} (h : Rd1 c G H v (.list ds)) : ∃ a xs, v = .ref a ∧ SqL c.K H a xs ∧ RepL c G H xs ds := by
  cases h with
  | rep h =>
    cases h with
    | lst _ h r => exact ⟨_, _, rfl, .inl (.inl h), r⟩
    | frz h r => exact ⟨_, _, rfl, .inl (.inr ⟨_, h⟩), r⟩
  | lst h r => exact ⟨_, _, rfl, .inl (.inl h), r⟩
theorem Rd1.sqT {v : V} {ds : List D} (h : Rd1 c G H v (.tuple ds)) : ∃ a xs, v = .ref a ∧ SqT c.K H a xs ∧ RepL c G H xs ds := by
  cases h with
  | rep h =>
    cases h with
    | tup h r => exact ⟨_, _, rfl, h, r⟩
theorem Rd1.dict {v : V} {kvs : List (D × D)} (h : Rd1 c G H v (.dict kvs)) : ∃ a xs, v = .ref a ∧ Rd H a (DicO c a xs) ∧ RepK c G H xs kvs := by
  cases h with
  | rep h =>
    cases h with
    | dic h r => exact ⟨_, _, rfl, .inr ⟨_, h⟩, r⟩
  | dic h r => exact ⟨_, _, rfl, .inl h, r⟩
theorem Rd1.int {v : V} {i : Int} (h : Rd1 c G H v (.int i)) : v = .int i := by
  cases h with
  | rep h => cases h; rfl
theorem Rd1.bool {v : V} {i : Bool} (h : Rd1 c G H v (.bool i)) : v = .bl i := by
  cases h with
  | rep h => cases h; rfl
theorem Rd1.str {v : V} {i : Str} (h : Rd1 c G H v (.str i)) : v = .str i := by
  cases h with
  | rep h => cases h; rfl
theorem Rd1.none {v : V} (h : Rd1 c G H v .none) : v = .non := by
  cases h with
  | rep h => cases h; rfl
theorem Rd1.atom {v : V} {d : D} (h : Rd1 c G H v d) (a : isAtom d = true) : Rep c G H v d := by
  cases h with
  | rep h => exact h
  | lst _ _ => cases a
  | dic _ _ => cases a
theorem Rep.rd {v : V} {d : D} (h : Rep c G H v d) : Rd1 c G H v d := .rep h
theorem RepL.of_tr0 : ∀ {xs : List V} {ds : List D} {A : List Addr}, TrL c G H 0 xs ds A → RepL c G H xs ds ∧ A = []
  | _, _, _, .nil => ⟨.nil, rfl⟩
  | _, _, _, .cons h r => by
    cases h with
    | leaf h => exact ⟨.cons h (RepL.of_tr0 r).1, by rw [(RepL.of_tr0 r).2]; rfl⟩
theorem RepK.of_tr0 : ∀ {xs : List Ent} {ds : List (D × D)} {A : List Addr}, TrK c G H 0 xs ds A → RepK c G H xs ds ∧ A = []
  | _, _, _, .nil => ⟨.nil, rfl⟩
  | _, _, _, .cons k e h r => by
    cases h with
    | leaf h => exact ⟨.cons k e h (RepK.of_tr0 r).1, by rw [(RepK.of_tr0 r).2]; rfl⟩
theorem TrL.of_rep : ∀ {xs : List V} {ds : List D}, RepL c G H xs ds → TrL c G H 0 xs ds []
  | _, _, .nil => .nil
  | _, _, .cons h r => TrL.cons (A := []) (B := []) (.leaf h) (TrL.of_rep r)
theorem TrK.of_rep : ∀ {xs : List Ent} {ds : List (D × D)}, RepK c G H xs ds → TrK c G H 0 xs ds []
  | _, _, .nil => .nil
  | _, _, .cons k e h r => TrK.cons (A := []) (B := []) k e (.leaf h) (TrK.of_rep r)
theorem Tr.rd {k : Nat} {v : V} {d : D} {A : List Addr} (t : Tr c G H k v d A) (hk : k ≤ 1) : Rd1 c G H v d := by
  cases t with
  | leaf h => exact .rep h
  | atom h _ => exact .rep h
  | lst h r =>
    rename_i k _ _ _ _
    have e : k = 0 := by omega
    subst e
    exact .lst h (RepL.of_tr0 r).1
  | dic h r =>
    rename_i k _ _ _ _
    have e : k = 0 := by omega
    subst e
    exact .dic h (RepK.of_tr0 r).1
theorem Rd1.ext (g : GI G H) (e : Ext G H G' H') {v : V} {d : D} (h : Rd1 c G H v d) : Rd1 c G' H' v d := by
  have s : Stp (fun _ => false) G H G' H' := e.stp g
  cases h with
  | rep h => exact .rep (h.stp s)
  | lst h r => exact .lst (e.h _ _ h) (r.stp s)
  | dic h r => exact .dic (e.h _ _ h) (r.stp s)
/-- may it be read behind a further step -/
def Cls.st (cl : Cls) (p : Bool) : Bool := match cl with
  | .b => p
  | .f => true
  | .n k => decide (k ≤ 1)
theorem Res.rd (h : Res c cl H0 G H v d) (hs : cl.st true = true) : Rd1 c G H v d := by
  cases cl with
  | b => exact h
  | f => exact .rep h
  | n k =>
    obtain ⟨A, t, _⟩ := h
    exact t.rd (of_decide_eq_true hs)
theorem Res.step (g : GI G H) (h : Res c cl H0 G H v d) (s : StepOf p io G H G' H') (hs : cl.st p = true) : Rd1 c G' H' v d := by
  cases cl with
  | b =>
    have e : p = true := hs
    subst e
    exact Rd1.ext g s h
  | f => exact .rep (Rep.stp (s.stp g) h)
  | n k =>
    obtain ⟨A, t, _, n⟩ := h
    exact Tr.rd (t.stp (s.stp g) fun a ha i e => by rw [(n a ha).1] at e; cases e) (of_decide_eq_true hs)
/-- new data is frozen -/
theorem RE.tag {A : List Addr} (re : RE c G σ H ρ) (hA : ∀ a ∈ A, G a = none ∧ H a ≠ none) (t : Tag) : RE c (fun a => if a ∈ A then some t else G a) σ H ρ := by
  classical
  have keepN : ∀ a, G a ≠ none → (if a ∈ A then some t else G a) = G a := fun a h => if_neg fun ha => h (hA a ha).1
  refine ⟨re.len, fun a h => ?_, fun i k d e => ?_⟩
  · by_cases ha : a ∈ A
    · exact (hA a ha).2
    · rw [if_neg ha] at h; exact re.gi a h
  · obtain ⟨v, B, h1, h2, h3, h4⟩ := re.at_ i k d e
    refine ⟨v, B, h1, h2.kps ⟨fun r => Rep.tags (fun a h => ?_) r, fun _ _ _ h => h⟩, h3, fun a ha => ?_⟩
    · show (if a ∈ A then some t else G a) = _
      rw [keepN a (by rw [h]; simp)]; exact h
    · show (if a ∈ A then some t else G a) = _
      rw [keepN a (by rw [h4 a ha]; simp)]; exact h4 a ha
theorem StepOf.tag {A : List Addr} (g : GI G H) (s : StepOf p io G H G' H') (hA : ∀ a ∈ A, G' a = none ∧ H a = none) : StepOf p io G H (fun a => if a ∈ A then some .fz else G' a) H' := by
  have ne : ∀ a, H a ≠ none → (if a ∈ A then some Tag.fz else G' a) = G' a := fun a h => if_neg fun ha => h (hA a ha).2
  cases p with
  | true =>
    have s : Ext G H G' H' := s
    exact show Ext _ _ _ _ from ⟨s.h, fun a h => (ne a h).trans (s.g a h)⟩
  | false =>
    have s : Stp io G H G' H' := s
    refine show Stp _ _ _ _ _ from ⟨fun a h => ?_, fun a h h' => (ne a h).trans (s.un a h h'), s.kp, s.dm, fun a i h e => s.ow a i h ((ne a h).symm.trans e), fun a h e => s.rt a h ((ne a h).symm.trans e), s.tp, s.fr⟩
    show (if a ∈ A then some Tag.fz else G' a) = some .fz
    split
    · rfl
    · exact s.fz a h
theorem New.frz {k : Nat} {d : D} (ok : okF k d = true) (re : RE c G' σ H' ρ) (g : GI G H) (s : StepOf p io G H G' H') {v : V} (h : New c k H G' H' v d) :
    ∃ G'', RE c G'' σ H' ρ ∧ StepOf p io G H G'' H' ∧ Rep c G'' H' v d := by
  obtain ⟨A, t, _, n⟩ := h
  refine ⟨_, re.tag (A := A) (fun a ha => ⟨(n a ha).1, t.dom a ha⟩) .fz, s.tag g n, t.freeze (fun a h => ?_) ok fun a ha => if_pos ha⟩
  show (if a ∈ A then some Tag.fz else G' a) = some .fz
  split
  · rfl
  · exact h
theorem ext_un {a : Addr} {o : HO} (e : Ext G H G' H') (hn : H a = none) : Ext G H G' (L2.upd H' a o) :=
  ⟨fun b u h => by rw [upd_ne (fun z => by rw [z, hn] at h; cases h)]; exact e.h b u h, e.g⟩
theorem stp_un {a : Addr} {o : HO} (s : Stp io G H G' H') (hn : H a = none) : Stp io G H G' (L2.upd H' a o) := by
  have ne : ∀ b, H b ≠ none → b ≠ a := fun b h z => h (by rw [z]; exact hn)
  refine ⟨s.fz, s.un, fun b u h n => ?_, fun b h => ?_, s.ow, s.rt, fun b xs h => ?_, fun b q u h => ?_⟩
  · rw [upd_ne (ne b (by rw [h]; simp))]; exact s.kp b u h n
  · rw [upd_ne (ne b h)]; exact s.dm b h
  · rw [upd_ne (ne b (by rw [h]; simp))]; exact s.tp b xs h
  · rw [upd_ne (ne b (by rw [h]; simp))]; exact s.fr b q u h
theorem stepOf_un {a : Addr} {o : HO} (s : StepOf p io G H G' H') (hn : H a = none) : StepOf p io G H G' (L2.upd H' a o) := by
  cases p with
  | true => exact show Ext _ _ _ _ from ext_un s hn
  | false => exact show Stp _ _ _ _ _ from stp_un s hn
theorem lk_lock {a : Addr} {xs : List Ent} {o : HO} (g : G a = none) (h : H a = some (DicO c a xs)) : Lk0 G H (L2.upd H a o) where
  fz := fun b u n e => by rw [upd_ne (fun z => n (by rw [z]; exact g))]; exact e
  tp := fun b ys e => by rw [upd_ne (fun z => by rw [z, h] at e; cases e)]; exact e
  fr := fun b u w e => by rw [upd_ne (fun z => by rw [z, h] at e; cases e)]; exact e
/-- what is new, handed on: frozen (a dict is locked) -/
theorem J.frz {e : Expr} {f : M} (h : J X io W p (.n 1) e f) : J X io W p .f e f := by
  refine ⟨⟨fun pins s σ H Q I q => ?_⟩, h.pu⟩
  obtain ⟨G, ρ, re, q⟩ := q
  refine L2.thn (h.pe.run pins s σ H (fun v H' => ∀ s', Inv X pins σ H' s' → ∃ H'', Inv X pins σ H'' s' ∧ Q v H'') I ⟨G, ρ, re, ?_⟩) fun u s1 q1 => ?_
  · cases e : f ρ with
    | ok a =>
      obtain ⟨d, ρ'⟩ := a
      rw [e] at q
      intro G' H' s re' v r s1 I1
      by_cases ok : okF 1 d = true
      · obtain ⟨G'', re2, s2, rp⟩ := New.frz ok re' re.gi s r
        exact ⟨H', I1, q G'' H' s2 re2 v rp⟩
      · obtain ⟨A, t, nd, n⟩ := r
        cases t with
        | atom r a => exact absurd (by cases d <;> first | rfl | exact nomatch a) ok
        | lst h r => exact absurd (show List.all _ (okF 0) = true from List.all_eq_true.mpr fun _ _ => rfl) ok
        | dic ha hk =>
          rename_i a xs kvs A
          obtain ⟨ga, hn⟩ := n a (List.mem_cons_self ..)
          obtain ⟨od, I2⟩ := I1.lock ha True.intro
          have lk : Lk0 G' H' (L2.upd H' a (.frz od (DicO (cfX X) a xs))) := lk_lock ga ha
          exact ⟨_, I2, q G' _ (stepOf_un s hn) (re'.lk lk) _ (.dic upd_same ((RepK.of_tr0 hk).1.lk lk))⟩
    | exc x => rw [e] at q; exact q
    | bad => rw [e] at q; exact q
  · obtain ⟨x, H1, I1, r1, q1⟩ := q1
    obtain ⟨H2, I2, q2⟩ := q1 s1 I1
    exact ⟨x, H2, I2, r1, q2⟩
theorem J.eff {e : Expr} {f : M} (h : J X io W p cl e f) : J X io W false cl e f := by
  cases p with
  | false => exact h
  | true =>
    refine ⟨peI h.pe fun σ H Q q => ?_, fun z => by cases z⟩
    obtain ⟨G, ρ, re, q⟩ := q
    refine ⟨G, ρ, re, ?_⟩
    cases e : f ρ with
    | ok a =>
      obtain ⟨d, ρ'⟩ := a
      rw [e] at q
      exact fun G' H' s re' v r => q G' H' (StepOf.stp re.gi s) re' v r
    | exc x => rw [e] at q; exact q
    | bad => rw [e] at q; exact q

def mVar (i : Nat) : M := fun ρ => match ρ[i]? with
  | some (some (0, d)) => .ok (d, ρ)
  | _ => .bad
/-- a slot of frozen data -/
theorem j_var (i : Nat) {x : Str} {pos : Pos} (hN : X.N[i]? = some x := by rfl) (hv : Vis X.env.scope x := by first | exact Or.inl rfl | exact Or.inr (Or.inl rfl) | exact Or.inr (Or.inr rfl)) (hd : (x == ("__debug__" : Str)) = false := by decide)
    (hcd : (x == ("__classdict__" : Str)) = false := by decide) : J X io W true .f (.Name x pos) (mVar i) := by
  refine ⟨peI (pe_var (i := i) hN hv hd hcd) fun σ H Q q => ?_, fun _ ρ d ρ' e => ?_⟩
  · obtain ⟨G, ρ, re, q⟩ := q
    unfold mVar at q
    split at q
    · rename_i d e
      obtain ⟨v, A, h1, h2, _⟩ := re.at_ i 0 d e
      cases h2 with
      | leaf r => exact ⟨v, h1, q G H StepOf.refl re v r⟩
    · exact q.elim
  · unfold mVar at e
    split at e
    · cases e; rfl
    · cases e
/-- a slot looked at, not handed on -/
def mPeek (i : Nat) : M := fun ρ => match ρ[i]? with
  | some (some (k, d)) => if k ≤ 1 then .ok (d, ρ) else .bad
  | _ => .bad
theorem j_peek (i : Nat) {x : Str} {pos : Pos} (hN : X.N[i]? = some x := by rfl) (hv : Vis X.env.scope x := by first | exact Or.inl rfl | exact Or.inr (Or.inl rfl) | exact Or.inr (Or.inr rfl)) (hd : (x == ("__debug__" : Str)) = false := by decide)
    (hcd : (x == ("__classdict__" : Str)) = false := by decide) : J X io W true .b (.Name x pos) (mPeek i) := by
  refine ⟨peI (pe_var (i := i) hN hv hd hcd) fun σ H Q q => ?_, fun _ ρ d ρ' e => ?_⟩
  · obtain ⟨G, ρ, re, q⟩ := q
    unfold mPeek at q
    split at q
    · rename_i k d e
      split at q
      · rename_i hk
        obtain ⟨v, A, h1, h2, _⟩ := re.at_ i k d e
        exact ⟨v, h1, q G H StepOf.refl re v (h2.rd hk)⟩
      · exact q.elim
    · exact q.elim
  · unfold mPeek at e
    split at e
    · split at e
      · cases e; rfl
      · cases e
    · cases e
/-- an owned slot handed on: it is frozen from now on -/
def mTake (i : Nat) : M := fun ρ => match ρ[i]? with
  | some (some (k, d)) => if okF k d = true ∨ k = 1 then .ok (d, ρ.set i (some (0, d))) else .bad
  | _ => .bad
theorem RE.freeze {i k : Nat} {d : D} {v : V} {A : List Addr} (ok : okF k d = true) (re : RE c G σ H ρ) (h1 : σ[i]? = some (some v)) (h2 : Tr c G H k v d A) (hA : ∀ a ∈ A, G a = some (.own i)) :
    RE c (fun a => if a ∈ A then some .fz else G a) σ H (ρ.set i (some (0, d))) ∧ Rep c (fun a => if a ∈ A then some .fz else G a) H v d := by
  have fzs : ∀ a, G a = some .fz → (if a ∈ A then some Tag.fz else G a) = some .fz := fun a h => by
    split
    · rfl
    · exact h
  have rp : Rep c (fun a => if a ∈ A then some .fz else G a) H v d := h2.freeze fzs ok fun a ha => if_pos ha
  refine ⟨⟨by rw [List.length_set]; exact re.len, fun a h => ?_, fun j m e q => ?_⟩, rp⟩
  · by_cases ha : a ∈ A
    · exact h2.dom a ha
    · rw [if_neg ha] at h; exact re.gi a h
  · by_cases hj : j = i
    · subst hj
      rw [List.getElem?_set] at q
      simp only [if_true] at q
      split at q
      · cases q
        exact ⟨v, [], h1, .leaf rp, List.nodup_nil, fun a h => by cases h⟩
      · cases q
    · rw [List.getElem?_set_ne (Ne.symm hj)] at q
      obtain ⟨u, B, g1, g2, g3, g4⟩ := re.at_ j m e q
      refine ⟨u, B, g1, g2.kps ⟨fun r => Rep.tags fzs r, fun _ _ _ h => h⟩, g3, fun a ha => ?_⟩
      have na : a ∉ A := fun z => by
        have := (hA a z).symm.trans (g4 a ha)
        cases this
        exact hj rfl
      show (if a ∈ A then some Tag.fz else G a) = _
      rw [if_neg na]; exact g4 a ha
theorem Stp.freeze {i : Nat} {A : List Addr} (hA : ∀ a ∈ A, G a = some (.own i)) : Stp io G H (fun a => if a ∈ A then some .fz else G a) H := by
  refine ⟨fun a h => ?_, fun a h h' => ?_, fun _ _ h _ => h, fun _ h => h, fun a j h e => ?_, fun a h e => ?_, fun _ _ h => h, fun _ _ _ h => h⟩
  · show (if a ∈ A then some Tag.fz else G a) = _
    split
    · rfl
    · exact h
  · show (if a ∈ A then some Tag.fz else G a) = _
    rw [if_neg fun ha => by rw [hA a ha] at h'; cases h']; exact h'
  · by_cases ha : a ∈ A
    · rw [if_pos ha] at e; cases e
    · rw [if_neg ha] at e; exact e
  · by_cases ha : a ∈ A
    · rw [if_pos ha] at e; cases e
    · rw [if_neg ha] at e; exact .inl e
theorem j_take (i : Nat) {x : Str} {pos : Pos} (hN : X.N[i]? = some x := by rfl) (hv : Vis X.env.scope x := by first | exact Or.inl rfl | exact Or.inr (Or.inl rfl) | exact Or.inr (Or.inr rfl)) (hd : (x == ("__debug__" : Str)) = false := by decide)
    (hcd : (x == ("__classdict__" : Str)) = false := by decide) : J X io W false .f (.Name x pos) (mTake i) := by
  refine ⟨⟨fun pins s σ H Q I q => ?_⟩, fun z => by cases z⟩
  obtain ⟨G, ρ, re, q⟩ := q
  unfold mTake at q
  split at q
  · rename_i k d e
    split at q
    · rename_i okk
      obtain ⟨v, A, h1, h2, nd, h4⟩ := re.at_ i k d e
      refine L2.thn ((pe_var (X := X) (pos := pos) (i := i) hN hv hd hcd).run pins s σ H (fun v H' => ∀ s', Inv X pins σ H' s' → ∃ H'', Inv X pins σ H'' s' ∧ Q v H'') I ⟨v, h1, fun s1 I1 => ?_⟩) fun u s1 q1 => ?_
      · by_cases ok : okF k d = true
        · obtain ⟨r1, r2⟩ := re.freeze ok h1 h2 h4
          exact ⟨H, I1, q _ H (Stp.freeze h4) r1 v r2⟩
        · have k1 : k = 1 := okk.resolve_left ok
          subst k1
          cases h2 with
          | atom r a => exact absurd (by cases d <;> first | rfl | exact nomatch a) ok
          | lst h r => exact absurd (show List.all _ (okF 0) = true from List.all_eq_true.mpr fun _ _ => rfl) ok
          | dic ha hk =>
            rename_i a xs kvs A
            have g := h4 a (List.mem_cons_self ..)
            obtain ⟨od, I2⟩ := I1.lock ha True.intro
            have st : Stp io G H (fun b => if b = a then some .fz else G b) (L2.upd H a (.frz od (DicO (cfX X) a xs))) := by
              refine ⟨fun b h => ?_, fun b h h' => ?_, fun b u h n => ?_, fun b h => ?_, fun b j h e => ?_, fun b h e => ?_, fun b ys h => ?_, fun b u w h => ?_⟩
              · by_cases z : b = a
                · rw [z, g] at h; cases h
                · show (if b = a then some Tag.fz else G b) = _
                  rw [if_neg z]; exact h
              · by_cases z : b = a
                · rw [z, g] at h'; cases h'
                · show (if b = a then some Tag.fz else G b) = _
                  rw [if_neg z]; exact h'
              · rw [upd_ne (fun z => n i (by rw [z]; exact g))]; exact h
              · by_cases z : b = a
                · rw [z, upd_same]; simp
                · rw [upd_ne z]; exact h
              · by_cases z : b = a
                · rw [if_pos z] at e; cases e
                · rw [if_neg z] at e; exact e
              · by_cases z : b = a
                · rw [if_pos z] at e; cases e
                · rw [if_neg z] at e; exact .inl e
              · rw [upd_ne (fun z => by rw [z, ha] at h; cases h)]; exact h
              · rw [upd_ne (fun z => by rw [z, ha] at h; cases h)]; exact h
            have rp : Rep (cfX X) (fun b => if b = a then some .fz else G b) (L2.upd H a (.frz od (DicO (cfX X) a xs))) (.ref a) (.dict kvs) := .dic upd_same ((RepK.of_tr0 hk).1.stp st)
            refine ⟨_, I2, q _ _ st ⟨by rw [List.length_set]; exact re.len, fun b h => ?_, fun j m e2 q2 => ?_⟩ _ rp⟩
            · by_cases z : b = a
              · rw [z, upd_same]; simp
              · rw [if_neg z] at h; rw [upd_ne z]; exact re.gi b h
            · by_cases hj : j = i
              · subst hj
                rw [List.getElem?_set] at q2
                simp only [if_true] at q2
                split at q2
                · cases q2
                  exact ⟨_, [], h1, .leaf rp, List.nodup_nil, fun b h => by cases h⟩
                · cases q2
              · rw [List.getElem?_set_ne (Ne.symm hj)] at q2
                obtain ⟨w, B, g1, g2, g3, g4⟩ := re.at_ j m e2 q2
                have nb : ∀ b ∈ B, b ≠ a := fun b hb z => by
                  have := g4 b hb
                  rw [z, g] at this
                  cases this
                  exact hj rfl
                exact ⟨w, B, g1, g2.kps ⟨fun r => r.stp st, fun b hb o h => by rw [upd_ne (nb b hb)]; exact h⟩, g3, fun b hb => by
                  show (if b = a then some Tag.fz else G b) = _
                  rw [if_neg (nb b hb)]; exact g4 b hb⟩
      · obtain ⟨x, H1, I1, r1, q1⟩ := q1
        obtain ⟨H2, I2, q2⟩ := q1 s1 I1
        exact ⟨x, H2, I2, r1, q2⟩
    · exact q.elim
  · exact q.elim
def mC (d : D) : M := fun ρ => .ok (d, ρ)
theorem j_c {e : Expr} {v : V} {d : D} (h : PE X e (tC v)) (r : ∀ G H, Rep (cfX X) G H v d) : J X io W true .f e (mC d) := by
  refine ⟨peI h fun σ H Q q => ?_, fun _ ρ d ρ' e => by cases e; rfl⟩
  obtain ⟨G, ρ, re, q⟩ := q
  exact q G H StepOf.refl re v (r G H)
theorem j_int {i : Int} {j pos} : J X io W true .f (.Constant (.int i) j pos) (mC (.int i)) := j_c pe_int fun _ _ => .int i
theorem j_bool {i : Bool} {j pos} : J X io W true .f (.Constant (.bool i) j pos) (mC (.bool i)) := j_c pe_bl fun _ _ => .bl i
theorem j_none {j pos} : J X io W true .f (.Constant .none j pos) (mC .none) := j_c pe_non fun _ _ => .non
theorem j_str {i : Str} {j pos} : J X io W true .f (.Constant (.str i) j pos) (mC (.str i)) := j_c pe_str fun _ _ => .str i
/-- a whole number of the module -/
theorem j_gint {x : Str} {i : Int} {pos} (hm : ∃ t, X.mg x = some (.int i t)) (hg : Gl X x := by rfl) (hd : (x == ("__debug__" : Str)) = false := by decide) : J X io W true .f (.Name x pos) (mC (.int i)) := by
  obtain ⟨t, hm⟩ := hm
  exact j_c (pe_glob hg hm (v := .int i) ⟨t, rfl⟩ hd) fun _ _ => .int i
end
end Nc
namespace Nc
open PySem PySem.Spec L2
open PyProof.Rows hiding St

section
variable {X : Cx} {io : Nat → Bool} {W : WX} {c : Cf} {p p1 p2 p3 : Bool} {cl cl1 cl2 cl3 : Cls} {G G1 G2 G' : Gh} {H H0 H1 H2 H' : Hp} {σ : L2.St} {ρ ρ1 ρ2 ρ' : Rho}
/-- everything that stood stands -/
def Gr (H H' : Hp) : Prop := ∀ a o, H a = some o → H' a = some o
theorem Gr.refl (H : Hp) : Gr H H := fun _ _ h => h
theorem Gr.dm (g : Gr H H') {a : Addr} (h : H a ≠ none) : H' a ≠ none := by
  cases q : H a with
  | none => exact absurd q h
  | some o => rw [g a o q]; simp
theorem Gr.upd {a : Addr} {o : HO} (h : H a = none) : Gr H (upd H a o) := fun b u e => by
  rw [upd_ne (ne_of_none e h)]; exact e
theorem Gr.ext (g : Gr H H') : Ext G H G H' := ⟨g, fun _ _ => rfl⟩
theorem Gr.gi (g : Gr H H') (i : GI G H) : GI G H' := fun a h => g.dm (i a h)
theorem RE.gr (re : RE c G σ H ρ) (g : Gr H H') : RE c G σ H' ρ :=
  ⟨re.len, g.gi re.gi, fun i k d e => by
    obtain ⟨v, A, h1, h2, h3⟩ := re.at_ i k d e
    exact ⟨v, A, h1, h2.ext re.gi g.ext, h3⟩⟩
theorem GI.none (i : GI G H) {a : Addr} (h : H a = none) : G a = none := by
  cases e : G a with
  | none => rfl
  | some t => exact absurd h (i a (by rw [e]; simp))
theorem New.atom {k : Nat} {v : V} {d : D} (r : Rep c G H v d) (h : isAtom d = true) : New c (k + 1) H0 G H v d := ⟨[], .atom r h, List.nodup_nil, fun a h => by cases h⟩
theorem New.lst1 (i : GI G H) {a : Addr} {xs : List V} {ds : List D} (h : H a = none) (r : RepL c G H xs ds) : New c 1 H G (L2.upd H a (.lst xs)) (.ref a) (.list ds) := by
  refine ⟨[a], .lst (A := []) upd_same (.of_rep (RepL.stp (io := fun _ => false) (Ext.stp i (Gr.upd h).ext) r)), by simp, fun b hb => ?_⟩
  rw [List.mem_singleton.mp hb]; exact ⟨i.none h, h⟩
theorem Rep.newtup (i : GI G H) {a : Addr} {xs : List V} {ds : List D} (h : H a = none) (r : RepL c G H xs ds) : Rep c G (L2.upd H a (.tup xs)) (.ref a) (.tuple ds) :=
  .tup (.of upd_same) (RepL.stp (io := fun _ => false) (Ext.stp i (Gr.upd h).ext) r)
theorem Rep.gr (i : GI G H) (g : Gr H H') {v : V} {d : D} (r : Rep c G H v d) : Rep c G H' v d := Rep.stp (io := fun _ => false) (Ext.stp i g.ext) r
theorem RepL.gr (i : GI G H) (g : Gr H H') {v : List V} {d : List D} (r : RepL c G H v d) : RepL c G H' v d := RepL.stp (io := fun _ => false) (Ext.stp i g.ext) r
theorem New.anti {k : Nat} (g : ∀ a, H0 a ≠ none → H1 a ≠ none) {v : V} {d : D} (h : New c k H1 G H v d) : New c k H0 G H v d := by
  obtain ⟨A, t, n, q⟩ := h
  refine ⟨A, t, n, fun a ha => ⟨(q a ha).1, ?_⟩⟩
  cases e : H0 a with
  | none => rfl
  | some o => exact absurd (q a ha).2 (g a (by rw [e]; simp))
theorem RepL.length : ∀ {vs : List V} {ds : List D}, RepL c G H vs ds → vs.length = ds.length
  | _, _, .nil => rfl
  | _, _, .cons _ r => congrArg Nat.succ (RepL.length r)
theorem RepL.append : ∀ {vs us : List V} {ds es : List D}, RepL c G H vs ds → RepL c G H us es → RepL c G H (vs ++ us) (ds ++ es)
  | _, _, _, _, .nil, q => q
  | _, _, _, _, .cons h r, q => .cons h (RepL.append r q)
theorem RepL.get : ∀ {vs : List V} {ds : List D} {i : Nat} {d : D}, RepL c G H vs ds → ds[i]? = some d → ∃ v, vs[i]? = some v ∧ Rep c G H v d
  | _, _, 0, _, .cons h r, e => by cases e; exact ⟨_, rfl, h⟩
  | _, _, i + 1, _, .cons h r, e => by
    obtain ⟨v, e1, e2⟩ := RepL.get (i := i) r (by simpa using e)
    exact ⟨v, by simpa using e1, e2⟩
  | _, _, _, _, .nil, e => by simp at e
theorem RepL.get' : ∀ {vs : List V} {ds : List D} {i : Nat} {v : V}, RepL c G H vs ds → vs[i]? = some v → ∃ d, ds[i]? = some d ∧ Rep c G H v d
  | _, _, 0, _, .cons h r, e => by cases e; exact ⟨_, rfl, h⟩
  | _, _, i + 1, _, .cons h r, e => by
    obtain ⟨v, e1, e2⟩ := RepL.get' (i := i) r (by simpa using e)
    exact ⟨v, by simpa using e1, e2⟩
  | _, _, _, _, .nil, e => by simp at e
theorem RepL.drop : ∀ (n : Nat) {vs : List V} {ds : List D}, RepL c G H vs ds → RepL c G H (vs.drop n) (ds.drop n)
  | 0, _, _, r => r
  | n + 1, _, _, .nil => .nil
  | n + 1, _, _, .cons _ r => RepL.drop n r
theorem RepL.take : ∀ (n : Nat) {vs : List V} {ds : List D}, RepL c G H vs ds → RepL c G H (vs.take n) (ds.take n)
  | 0, _, _, r => .nil
  | n + 1, _, _, .nil => .nil
  | n + 1, _, _, .cons h r => .cons h (RepL.take n r)
theorem RepL.reverse : ∀ {vs : List V} {ds : List D}, RepL c G H vs ds → RepL c G H vs.reverse ds.reverse
  | _, _, .nil => .nil
  | _, _, .cons h r => by rw [List.reverse_cons, List.reverse_cons]; exact RepL.append (RepL.reverse r) (.cons h .nil)
theorem RepL.set {v : V} {d : D} (h : Rep c G H v d) : ∀ (i : Nat) {vs : List V} {ds : List D}, RepL c G H vs ds → RepL c G H (vs.set i v) (ds.set i d)
  | _, _, _, .nil => .nil
  | 0, _, _, .cons _ r => .cons h r
  | i + 1, _, _, .cons q r => .cons q (RepL.set h i r)
theorem RepL.eraseIdx : ∀ (i : Nat) {vs : List V} {ds : List D}, RepL c G H vs ds → RepL c G H (vs.eraseIdx i) (ds.eraseIdx i)
  | _, _, _, .nil => .nil
  | 0, _, _, .cons _ r => r
  | i + 1, _, _, .cons q r => .cons q (RepL.eraseIdx i r)

/-- a value and a heap that a plain operation leaves -/
def Out (c : Cf) (G : Gh) (H : Hp) (z : D) (Q : VK) : Prop := ∀ v H', Gr H H' → New c 1 H G H' v z → Q v H'
theorem Out.atom {Q : VK} {z : D} (o : Out c G H z Q) {v : V} (r : Rep c G H v z) (h : isAtom z = true) : Q v H := o v H (Gr.refl H) (.atom r h)
theorem Out.int {Q : VK} {i : Int} (o : Out c G H (.int i) Q) : Q (.int i) H := o.atom (.int i) rfl
theorem Out.bool {Q : VK} {i : Bool} (o : Out c G H (.bool i) Q) : Q (.bl i) H := o.atom (.bl i) rfl
theorem Out.str {Q : VK} {i : Str} (o : Out c G H (.str i) Q) : Q (.str i) H := o.atom (.str i) rfl
theorem Out.none {Q : VK} (o : Out c G H .none Q) : Q .non H := o.atom .non rfl
theorem Out.lst {Q : VK} {ds : List D} (o : Out c G H (.list ds) Q) (i : GI G H) {a : Addr} {xs : List V} (h : H a = Option.none) (r : RepL c G H xs ds) : Q (.ref a) (L2.upd H a (.lst xs)) :=
  o _ _ (Gr.upd h) (.lst1 i h r)
theorem Out.tup {Q : VK} {ds : List D} (o : Out c G H (.tuple ds) Q) (i : GI G H) {a : Addr} {xs : List V} (h : H a = Option.none) (r : RepL c G H xs ds) : Q (.ref a) (L2.upd H a (.tup xs)) :=
  o _ _ (Gr.upd h) (.atom (.newtup i h r) rfl)
/-- what a plain two-place operation does to data -/
def rD (c : Cf) (g : D → D → Option D) : R2 := fun x y H Q => ∃ G d e z, GI G H ∧ Rd1 c G H x d ∧ Rd1 c G H y e ∧ g d e = some z ∧ Out c G H z Q
def rD1 (c : Cf) (g : D → Option D) : V → Hp → VK → Prop := fun x H Q => ∃ G d z, GI G H ∧ Rd1 c G H x d ∧ g d = some z ∧ Out c G H z Q

/-- two expressions, then an operation -/
def mB (g : D → D → Option D) (fa fb : M) : M := fun ρ => (fa ρ).bind fun x => (fb x.2).bind fun y => R.of (g x.1 y.1) y.2
def mU (g : D → Option D) (fa : M) : M := fun ρ => (fa ρ).bind fun x => R.of (g x.1) x.2
theorem good_bindT {β γ : Type} {r : R (β × Rho)} {f : β × Rho → R (γ × Rho)} {k : γ → Rho → Gh → Hp → Prop} (g : GI G H) (h : Good X io W p σ G H (r.bind f) k) :
    Good X io W p σ G H r fun b ρ1 G1 H1 => Good X io W true σ G1 H1 (f (b, ρ1)) k := Good.bind (p1 := p) (p2 := true) g (by rw [Bool.and_true]; exact h)
/-- a plain operation's end -/
theorem Good.of {o : Option D} (re : RE (cfX X) G σ H ρ) {k : D → Rho → Gh → Hp → Prop} (h : Good X io W p σ G H (R.of o ρ) k) {H0 : Hp} {Q : VK} (hd : ∀ a, H0 a ≠ none → H a ≠ none)
    (hk : ∀ d ρ' G' H', k d ρ' G' H' → ∀ v, New (cfX X) 1 H0 G' H' v d → Q v H') : ∃ z, o = some z ∧ Out (cfX X) G H z Q := by
  cases o with
  | none => exact h.elim
  | some z =>
    refine ⟨z, rfl, fun v H' g n => ?_⟩
    refine hk z ρ G H' (h G H' ?_ (re.gr g)) v (n.anti hd)
    cases p with
    | true => exact g.ext
    | false => exact Ext.stp re.gi g.ext
theorem pu_bind {β γ : Type} {f : Rho → R (β × Rho)} {g : β × Rho → R (γ × Rho)} (h1 : ∀ ρ b ρ', f ρ = .ok (b, ρ') → ρ' = ρ) (h2 : ∀ b ρ z ρ', g (b, ρ) = .ok (z, ρ') → ρ' = ρ) :
    ∀ ρ z ρ', (f ρ).bind g = .ok (z, ρ') → ρ' = ρ := fun ρ z ρ' e => by
  cases q : f ρ with
  | ok a =>
    obtain ⟨b, ρ1⟩ := a
    rw [q] at e
    have e1 := h1 ρ b ρ1 q
    subst e1
    exact h2 b ρ1 z ρ' e
  | exc x => rw [q] at e; cases e
  | bad => rw [q] at e; cases e
theorem pu_of {o : Option D} {ρ : Rho} {z : D} {ρ' : Rho} (e : R.of o ρ = .ok (z, ρ')) : ρ' = ρ := by
  cases o with
  | none => cases e
  | some d => cases e; rfl
theorem and_t {a b : Bool} (h : (a && b) = true) : a = true ∧ b = true := Bool.and_eq_true_iff.mp h
/-- the two operands' readings and the operation's -/
theorem tB_of {g : D → D → Option D} {fa fb : M} {r : R2} (hr : r = rD (cfX X) g) (h1 : cl1.st p2 = true) (h2 : cl2.st true = true) {Q : VK}
    (q : tJ X io W (p1 && p2) (.n 1) (mB g fa fb) σ H Q) : tOp r (tJ X io W p1 cl1 fa) (tJ X io W p2 cl2 fb) σ H Q := by
  subst hr
  obtain ⟨G, ρ, re, q⟩ := q
  refine ⟨G, ρ, re, (Good.bind re.gi q).mono fun d ρ1 G1 H1 s1 re1 q1 v1 r1 => ⟨G1, ρ1, re1, (good_bindT re1.gi q1).mono fun e ρ2 G2 H2 s2 re2 q2 v2 r2 => ?_⟩⟩
  obtain ⟨z, e, o⟩ := Good.of (Q := Q) re2 q2 (H0 := H) (fun a h => (s2.stp re1.gi).dm a ((s1.stp re.gi).dm a h)) fun d ρ' G' H' k v n => k v n
  exact ⟨G2, _, _, z, re2.gi, r1.step re1.gi s2 h1, r2.rd h2, e, o⟩
theorem mB_pu {g : D → D → Option D} {fa fb : M} (h1 : p1 = true → ∀ ρ d ρ', fa ρ = .ok (d, ρ') → ρ' = ρ) (h2 : p2 = true → ∀ ρ d ρ', fb ρ = .ok (d, ρ') → ρ' = ρ) :
    (p1 && p2) = true → ∀ ρ d ρ', mB g fa fb ρ = .ok (d, ρ') → ρ' = ρ := fun e => by
  obtain ⟨e1, e2⟩ := and_t e
  exact pu_bind (h1 e1) fun b ρ1 z ρ2 e => pu_bind (f := fb) (h2 e2) (fun _ _ _ _ e => pu_of e) ρ1 z ρ2 e
theorem j_bin {op : Operator} {g : D → D → Option D} (ho : OpR X (binaryOp op) (rD (cfX X) g)) {a b : Expr} {fa fb : M} {pos : Pos} (ha : J X io W p1 cl1 a fa) (hb : J X io W p2 cl2 b fb) (h1 : cl1.st p2 = true := by rfl) (h2 : cl2.st true = true := by rfl) :
    J X io W (p1 && p2) (.n 1) (.BinOp a op b pos) (mB g fa fb) :=
  ⟨peI (pe_op ho ha.pe hb.pe) fun σ H Q q => tB_of rfl h1 h2 q, mB_pu ha.pu hb.pu⟩
theorem j_cmp {op : CmpOp} {g : D → D → Option D} (ho : OpR X (compareOp op) (rD (cfX X) g)) {a b : Expr} {fa fb : M} {pos : Pos} (ha : J X io W p1 cl1 a fa) (hb : J X io W p2 cl2 b fb) (hm : behindInMarks op b = false := by first | exact nomark _ | with_unfolding_all rfl)
    (h1 : cl1.st p2 = true := by rfl) (h2 : cl2.st true = true := by rfl) : J X io W (p1 && p2) (.n 1) (.Compare a [op] [b] pos) (mB g fa fb) :=
  ⟨peI (pe_cmpR ho ha.pe hb.pe hm) fun σ H Q q => tB_of rfl h1 h2 q, mB_pu ha.pu hb.pu⟩
/-- a value as a test: True or False -/
def toB (r : R (D × Rho)) : R (Bool × Rho) := r.bind fun x => match x.1 with
  | .bool b => .ok (b, x.2)
  | _ => .bad
theorem toB_pu {f : M} (h : ∀ ρ d ρ', f ρ = .ok (d, ρ') → ρ' = ρ) : ∀ ρ d ρ', toB (f ρ) = .ok (d, ρ') → ρ' = ρ :=
  pu_bind h fun b ρ z ρ' e => by
    dsimp only at e
    split at e
    · cases e; rfl
    · cases e
theorem tT_of {f : M} {Q : Bool → Hp → Prop} (hs : cl.st true = true) (q : tJT X io W p (fun ρ => toB (f ρ)) σ H Q) : tJ X io W p cl f σ H (fun x H1 => ∃ k, x = .bl k ∧ Q k H1) := by
  obtain ⟨G, ρ, re, q⟩ := q
  refine ⟨G, ρ, re, (good_bindT re.gi q).mono fun d ρ1 G1 H1 s1 re1 q1 v r => ?_⟩
  cases d with
  | bool b => exact ⟨b, (r.rd hs).bool, q1 G1 H1 StepOf.refl re1⟩
  | _ => exact q1.elim
theorem jt_cmp {op : CmpOp} {g : D → D → Option D} (ho : OpR X (compareOp op) (rD (cfX X) g)) {a b : Expr} {fa fb : M} {pos : Pos} (ha : J X io W p1 cl1 a fa) (hb : J X io W p2 cl2 b fb) (hm : behindInMarks op b = false := by first | exact nomark _ | with_unfolding_all rfl)
    (h1 : cl1.st p2 = true := by rfl) (h2 : cl2.st true = true := by rfl) : JT X io W (p1 && p2) (.Compare a [op] [b] pos) (fun ρ => toB (mB g fa fb ρ)) :=
  ⟨ptI (pt_cmpR ho ha.pe hb.pe hm) fun σ H Q q => tB_of rfl h1 h2 (tT_of (cl := .n 1) rfl q), fun e => toB_pu (mB_pu ha.pu hb.pu e)⟩
/-- any other expression as a test -/
theorem jt_val {e : Expr} {f : M} (h : J X io W p cl e f) (hs : cl.st true = true := by rfl) (he : ∀ whole, isTrue e X.env whole = (do let v ← whole; standAt e.pos; holding [v] (truthy v)) := by intro _; rfl) : JT X io W p e (fun ρ => toB (f ρ)) :=
  ⟨ptI (pt_val h.pe he) fun σ H Q q => tT_of hs q, fun e => toB_pu (h.pu e)⟩

def tAndM (f g : MT) : MT := fun ρ => (f ρ).bind fun x => if x.1 = true then g x.2 else .ok (false, x.2)
def tOrM (f g : MT) : MT := fun ρ => (f ρ).bind fun x => if x.1 = true then .ok (true, x.2) else g x.2
def tNotM (f : MT) : MT := fun ρ => (f ρ).bind fun x => .ok (!x.1, x.2)
variable {a b e : Expr} {rest : List Expr} {pos : Pos} {f g fa fb : MT}
theorem jw_and1 (ha : JT X io W p a f) : JW X io W p (.BoolOp .And [a] pos) f := ⟨pw_and1 ha.pt, ha.pu⟩
theorem jw_or1 (ha : JT X io W p a f) : JW X io W p (.BoolOp .Or [a] pos) f := ⟨pw_or1 ha.pt, ha.pu⟩
theorem pwI {e : Expr} {t t' : TT} (h : PW X e t) (i : ∀ σ H Q, t' σ H Q → t σ H Q) : PW X e t' := ⟨fun wh pins s σ H Q I hq => h.run wh pins s σ H Q I (i σ H Q hq)⟩
theorem jw_and (ha : JT X io W p1 a f) (hb : JW X io W p2 (.BoolOp .And (b :: rest) pos) g) : JW X io W (p1 && p2) (.BoolOp .And (a :: b :: rest) pos) (tAndM f g) := by
  refine ⟨pwI (pw_and ha.pt hb.pw) fun σ H Q q => ?_, fun e => ?_⟩
  · obtain ⟨G, ρ, re, q⟩ := q
    refine ⟨G, ρ, re, (Good.bind (p1 := p1) (p2 := p2) re.gi q).mono fun d ρ1 G1 H1 s1 re1 q1 => ?_⟩
    cases d with
    | true => exact ⟨G1, ρ1, re1, q1⟩
    | false => exact q1 G1 H1 StepOf.refl re1
  · obtain ⟨e1, e2⟩ := and_t e
    refine pu_bind (ha.pu e1) fun b ρ z ρ' e => ?_
    cases b with
    | true => exact hb.pu e2 ρ z ρ' e
    | false => cases e; rfl
theorem jw_or (ha : JT X io W p1 a f) (hb : JW X io W p2 (.BoolOp .Or (b :: rest) pos) g) : JW X io W (p1 && p2) (.BoolOp .Or (a :: b :: rest) pos) (tOrM f g) := by
  refine ⟨pwI (pw_or ha.pt hb.pw) fun σ H Q q => ?_, fun e => ?_⟩
  · obtain ⟨G, ρ, re, q⟩ := q
    refine ⟨G, ρ, re, (Good.bind (p1 := p1) (p2 := p2) re.gi q).mono fun d ρ1 G1 H1 s1 re1 q1 => ?_⟩
    cases d with
    | false => exact ⟨G1, ρ1, re1, q1⟩
    | true => exact q1 G1 H1 StepOf.refl re1
  · obtain ⟨e1, e2⟩ := and_t e
    refine pu_bind (ha.pu e1) fun b ρ z ρ' e => ?_
    cases b with
    | false => exact hb.pu e2 ρ z ρ' e
    | true => cases e; rfl
theorem jt_not (ha : JT X io W p a f) : JT X io W p (.UnaryOp .Not a pos) (tNotM f) := by
  refine ⟨ptI (pt_not ha.pt) fun σ H Q q => ?_, fun e => pu_bind (ha.pu e) fun b ρ z ρ' e => by cases e; rfl⟩
  obtain ⟨G, ρ, re, q⟩ := q
  exact ⟨G, ρ, re, (good_bindT re.gi q).mono fun d ρ1 G1 H1 s1 re1 q1 => q1 G1 H1 StepOf.refl re1⟩
/-- as values: all but the last True or False -/
def mAnd (f g : M) : M := fun ρ => (f ρ).bind fun x => match x.1 with
  | .bool true => g x.2
  | .bool false => .ok (.bool false, x.2)
  | _ => .bad
def mOr (f g : M) : M := fun ρ => (f ρ).bind fun x => match x.1 with
  | .bool true => .ok (.bool true, x.2)
  | .bool false => g x.2
  | _ => .bad
def mNot (f : M) : M := fun ρ => (f ρ).bind fun x => match x.1 with
  | .bool b => .ok (.bool (!b), x.2)
  | _ => .bad
variable {h i : M}
theorem j_one {op} (q : J X io W p cl a h) : J X io W p cl (.BoolOp op [a] pos) h := ⟨pe_one q.pe, q.pu⟩
theorem j_and (ha : J X io W p1 cl1 a h) (hb : J X io W p2 .f (.BoolOp .And (b :: rest) pos) i) (hs : cl1.st true = true := by rfl) : J X io W (p1 && p2) .f (.BoolOp .And (a :: b :: rest) pos) (mAnd h i) := by
  refine ⟨peI (pe_and ha.pe hb.pe) fun σ H Q q => ?_, fun e => ?_⟩
  · obtain ⟨G, ρ, re, q⟩ := q
    refine ⟨G, ρ, re, (Good.bind (p1 := p1) (p2 := p2) re.gi q).mono fun d ρ1 G1 H1 s1 re1 q1 v r => ?_⟩
    cases d with
    | bool b =>
      refine ⟨b, (r.rd hs).bool, ?_⟩
      cases b with
      | true => exact ⟨G1, ρ1, re1, q1⟩
      | false => exact q1 G1 H1 StepOf.refl re1 _ (.bl false)
    | _ => exact q1.elim
  · obtain ⟨e1, e2⟩ := and_t e
    refine pu_bind (ha.pu e1) fun b ρ z ρ' e => ?_
    dsimp only at e
    split at e
    · exact hb.pu e2 ρ z ρ' e
    · cases e; rfl
    · cases e
theorem j_or (ha : J X io W p1 cl1 a h) (hb : J X io W p2 .f (.BoolOp .Or (b :: rest) pos) i) (hs : cl1.st true = true := by rfl) : J X io W (p1 && p2) .f (.BoolOp .Or (a :: b :: rest) pos) (mOr h i) := by
  refine ⟨peI (pe_or ha.pe hb.pe) fun σ H Q q => ?_, fun e => ?_⟩
  · obtain ⟨G, ρ, re, q⟩ := q
    refine ⟨G, ρ, re, (Good.bind (p1 := p1) (p2 := p2) re.gi q).mono fun d ρ1 G1 H1 s1 re1 q1 v r => ?_⟩
    cases d with
    | bool b =>
      refine ⟨b, (r.rd hs).bool, ?_⟩
      cases b with
      | false => exact ⟨G1, ρ1, re1, q1⟩
      | true => exact q1 G1 H1 StepOf.refl re1 _ (.bl true)
    | _ => exact q1.elim
  · obtain ⟨e1, e2⟩ := and_t e
    refine pu_bind (ha.pu e1) fun b ρ z ρ' e => ?_
    dsimp only at e
    split at e
    · cases e; rfl
    · exact hb.pu e2 ρ z ρ' e
    · cases e
theorem j_not (ha : J X io W p cl a h) (hs : cl.st true = true := by rfl) : J X io W p .f (.UnaryOp .Not a pos) (mNot h) := by
  refine ⟨peI (pe_not ha.pe) fun σ H Q q => ?_, fun e => pu_bind (ha.pu e) fun b ρ z ρ' e => ?_⟩
  · obtain ⟨G, ρ, re, q⟩ := q
    refine ⟨G, ρ, re, (good_bindT re.gi q).mono fun d ρ1 G1 H1 s1 re1 q1 v r => ?_⟩
    cases d with
    | bool b => exact ⟨b, (r.rd hs).bool, q1 G1 H1 StepOf.refl re1 _ (.bl _)⟩
    | _ => exact q1.elim
  · dsimp only at e
    split at e
    · cases e; rfl
    · cases e
def mIf (t : MT) (f g : M) : M := fun ρ => (t ρ).bind fun x => if x.1 = true then f x.2 else g x.2
theorem j_if {t : MT} (ht : JT X io W p1 e t) (ha : J X io W p2 cl a h) (hb : J X io W p2 cl b i) : J X io W (p1 && p2) cl (.IfExp e a b pos) (mIf t h i) := by
  refine ⟨peI (pe_ifExp ht.pt ha.pe hb.pe) fun σ H Q q => ?_, fun e => ?_⟩
  · obtain ⟨G, ρ, re, q⟩ := q
    refine ⟨G, ρ, re, (Good.bind (p1 := p1) (p2 := p2) re.gi q).mono fun d ρ1 G1 H1 s1 re1 q1 => ?_⟩
    have an : ∀ {d : D} {G2 H2} {v : V}, Res (cfX X) cl H1 G2 H2 v d → Res (cfX X) cl H G2 H2 v d := fun {d G2 H2 v} r => by
      cases cl with
      | b => exact r
      | f => exact r
      | n k => exact New.anti (fun a h => (s1.stp re.gi).dm a h) r
    cases d with
    | true => exact ⟨G1, ρ1, re1, Good.mono q1 fun _ _ _ _ _ _ k v r => k v (an r)⟩
    | false => exact ⟨G1, ρ1, re1, Good.mono q1 fun _ _ _ _ _ _ k v r => k v (an r)⟩
  · obtain ⟨e1, e2⟩ := and_t e
    refine pu_bind (ht.pu e1) fun b ρ z ρ' e => ?_
    cases b with
    | true => exact ha.pu e2 ρ z ρ' e
    | false => exact hb.pu e2 ρ z ρ' e
end
end Nc
namespace Nc
open PySem PySem.Spec L2
open PyProof.Rows hiding St

abbrev big : Nat := 16777216
theorem big_eq : big = sizeLine := sizeLine_eq.symm
def dAdd : D → D → Option D
  | .int i, .int j => some (.int (i + j))
  | .str i, .str j => if i.length + j.length ≤ big then some (.str (i ++ j)) else none
  | .tuple xs, .tuple ys => if xs.length + ys.length ≤ big then some (.tuple (xs ++ ys)) else none
  | .list xs, .list ys => if xs.length + ys.length ≤ big then some (.list (xs ++ ys)) else none
  | _, _ => none
def dSub : D → D → Option D
  | .int i, .int j => some (.int (i - j))
  | _, _ => none
def dMul : D → D → Option D
  | .int i, .int j => if (-(2 ^ 64) < i ∧ i < 2 ^ 64) ∨ (-(2 ^ 64) < j ∧ j < 2 ^ 64) then some (.int (i * j)) else none
  | .tuple xs, .int k => if xs ≠ [] ∧ 2 ≤ k ∧ k ≤ 1000 ∧ xs.length ≤ 1000 then some (.tuple (List.replicate k.toNat xs).flatten) else none
  | _, _ => none
/-- a new list times a number -/
def dMulL : D → D → Option D
  | .list xs, .int k => if -(2 ^ 63) ≤ k ∧ k < 2 ^ 63 ∧ xs.length * k.toNat ≤ big then some (.list (List.replicate k.toNat xs).flatten) else none
  | _, _ => none
def dFdiv : D → D → Option D
  | .int i, .int j => if 0 < j ∧ j.natAbs.log2 < 9000 then some (.int (i / j)) else none
  | _, _ => none
def dMod : D → D → Option D
  | .int i, .int j => if 0 < j then some (.int (i % j)) else none
  | _, _ => none
def dPow : D → D → Option D
  | .int i, .int j => if 0 ≤ j ∧ j ≤ 1000000 ∧ i.natAbs < 2 ^ 64 then some (.int (i ^ j.toNat)) else none
  | _, _ => none
def dLt : D → D → Option D
  | .int i, .int j => some (.bool (decide (i < j)))
  | _, _ => none
def dLe : D → D → Option D
  | .int i, .int j => some (.bool (decide (i ≤ j)))
  | _, _ => none
def dGt : D → D → Option D
  | .int i, .int j => some (.bool (decide (j < i)))
  | _, _ => none
def dGe : D → D → Option D
  | .int i, .int j => some (.bool (decide (j ≤ i)))
  | _, _ => none
/-- no dict within, not too deep -/
def dEq (a b : D) : Option D := if SeqAt.shaped a = true ∧ SeqAt.shaped b = true then some (.bool (PyData.eqv a b)) else none
def dNe (a b : D) : Option D := if SeqAt.shaped a = true ∧ SeqAt.shaped b = true then some (.bool (!PyData.eqv a b)) else none
/-- is, is not: None, True, False on the right -/
def dIs : D → D → Option D
  | a, .none => some (.bool (match a with | .none => true | _ => false))
  | .bool a, .bool b => some (.bool (decide (a = b)))
  | _, _ => none
def dIsNot : D → D → Option D
  | a, .none => some (.bool (match a with | .none => false | _ => true))
  | .bool a, .bool b => some (.bool (!decide (a = b)))
  | _, _ => none
def dNeg : D → Option D
  | .int i => some (.int (-i))
  | _ => none

section
variable {X : Cx} {c : Cf} {G G' : Gh} {H H' : Hp}
theorem Rd1.rdL {v : V} {ds : List D} (h : Rd1 c G H v (.list ds)) : ∃ a xs, v = .ref a ∧ Rd H a (.lst xs) ∧ RepL c G H xs ds := by
  cases h with
  | rep h =>
    cases h with
    | lst _ h r => exact ⟨_, _, rfl, .inl h, r⟩
    | frz h r => exact ⟨_, _, rfl, .inr ⟨_, h⟩, r⟩
  | lst h r => exact ⟨_, _, rfl, .inl h, r⟩
theorem ifS {α : Type} {p : Prop} [Decidable p] {a b : α} (h : (if p then some a else none) = some b) : p ∧ a = b := by
  split at h
  · exact ⟨by assumption, Option.some.inj h⟩
  · cases h
theorem Inv.rdL {pins : List (Addr × Obj)} {σ : L2.St} {s : Shared} {a : Addr} {xs : List V} (I : Inv X pins σ H s) (h : Rd H a (.lst xs)) :
    xs.length ≤ sizeLine ∧ ∃ (its : List Value) (n : Nat), Vals xs its ∧ s.heap.get? a = some { cls := .type "list", data := .seq its.toArray n } := h.ok I.hok
theorem op_addD : OpR X (binaryOp .Add) (rD (cfX X) dAdd) := by
  intro pins s σ H x y v u Q I rx ry h
  obtain ⟨G, d, e, z, gi, hd, he, hz, o⟩ := h
  cases d <;> cases e <;> try (exact nomatch (show (none : Option D) = some z from hz))
  case int.int i j =>
    cases hz
    rw [hd.int] at rx; rw [he.int] at ry
    exact op_add pins s σ H _ _ v u Q I rx ry ⟨i, j, rfl, rfl, o.int⟩
  case str.str i j =>
    obtain ⟨hl, e⟩ := ifS hz
    subst e
    rw [hd.str] at rx; rw [he.str] at ry
    exact op_add_str pins s σ H _ _ v u Q I rx ry ⟨i, j, rfl, rfl, by rw [← big_eq]; exact hl, o.str⟩
  case tuple.tuple xs ys =>
    obtain ⟨hl, e⟩ := ifS hz
    subst e
    obtain ⟨a, vs, rfl, ha, ra⟩ := hd.sqT
    obtain ⟨b, us, rfl, hb, rb⟩ := he.sqT
    refine op_catA pins s σ H _ _ v u Q I rx ry ⟨a, b, vs, us, rfl, rfl, ha, hb, by rw [ra.length, rb.length, ← big_eq]; exact hl, fun e => ?_, fun _ e => ?_, fun _ _ p hp => o.tup gi hp (ra.append rb)⟩
    · subst e
      cases ra
      exact o.atom (.tup hb rb) rfl
    · subst e
      cases rb
      rw [List.append_nil] at o
      exact o.atom (.tup ha ra) rfl
  case list.list xs ys =>
    obtain ⟨hl, e⟩ := ifS hz
    subst e
    obtain ⟨a, vs, rfl, ha, ra⟩ := hd.rdL
    obtain ⟨b, us, rfl, hb, rb⟩ := he.rdL
    cases rx
    cases ry
    obtain ⟨z1, its, n, r, e⟩ := Inv.rdL I ha
    obtain ⟨z2, its2, n2, r2, e2⟩ := Inv.rdL I hb
    have h1 := r.length
    have h2 := r2.length
    have h3 := ra.length
    have h4 := rb.length
    have h5 : big = sizeLine := big_eq
    refine PySem.P.add_list e e2 ?_ (by rw [List.size_toArray, List.size_toArray]; omega)
    have ea : its.toArray ++ its2.toArray = (its ++ its2).toArray := by simp
    rw [ea]
    exact ⟨.ref _, _, I.lnew (t' := s.toks) (r.append r2) (by rw [List.length_append]; omega), rfl, o.lst gi I.fresh (ra.append rb)⟩
theorem RepL.rep {vs : List V} {ds : List D} (h : RepL c G H vs ds) : ∀ k : Nat, RepL c G H (List.replicate k vs).flatten (List.replicate k ds).flatten
  | 0 => .nil
  | k + 1 => by
    rw [List.replicate_succ, List.replicate_succ, List.flatten_cons, List.flatten_cons]
    exact h.append (RepL.rep h k)
theorem ints_of {op : CmpOp} {g : D → D → Option D} {p : Int → Int → Bool} (h : OpR X (compareOp op) (rI0 fun i j => .bl (p i j))) (hg : ∀ d e z, g d e = some z → ∃ i j, d = .int i ∧ e = .int j ∧ z = .bool (p i j)) : OpR X (compareOp op) (rD (cfX X) g) := by
  intro pins s σ H x y v u Q I rx ry q
  obtain ⟨G, d, e, z, gi, hd, he, hz, o⟩ := q
  obtain ⟨i, j, rfl, rfl, rfl⟩ := hg d e z hz
  rw [hd.int] at rx; rw [he.int] at ry
  exact h pins s σ H _ _ v u Q I rx ry ⟨i, j, rfl, rfl, o.bool⟩
theorem op_ltD : OpR X (compareOp .Lt) (rD (cfX X) dLt) := ints_of op_lt fun d e z h => by
  cases d <;> cases e <;> first | (cases h; exact ⟨_, _, rfl, rfl, rfl⟩) | (exact nomatch (show (none : Option D) = some z from h))
theorem op_leD : OpR X (compareOp .LtE) (rD (cfX X) dLe) := ints_of op_le fun d e z h => by
  cases d <;> cases e <;> first | (cases h; exact ⟨_, _, rfl, rfl, rfl⟩) | (exact nomatch (show (none : Option D) = some z from h))
theorem op_gtD : OpR X (compareOp .Gt) (rD (cfX X) dGt) := ints_of op_gt fun d e z h => by
  cases d <;> cases e <;> first | (cases h; exact ⟨_, _, rfl, rfl, rfl⟩) | (exact nomatch (show (none : Option D) = some z from h))
theorem op_geD : OpR X (compareOp .GtE) (rD (cfX X) dGe) := ints_of op_ge fun d e z h => by
  cases d <;> cases e <;> first | (cases h; exact ⟨_, _, rfl, rfl, rfl⟩) | (exact nomatch (show (none : Option D) = some z from h))
theorem op_subD : OpR X (binaryOp .Sub) (rD (cfX X) dSub) := by
  intro pins s σ H x y v u Q I rx ry q
  obtain ⟨G, d, e, z, gi, hd, he, hz, o⟩ := q
  cases d <;> cases e <;> try (exact nomatch (show (none : Option D) = some z from hz))
  cases hz
  rw [hd.int] at rx; rw [he.int] at ry
  exact op_sub pins s σ H _ _ v u Q I rx ry ⟨_, _, rfl, rfl, o.int⟩
theorem op_fdivD : OpR X (binaryOp .FloorDiv) (rD (cfX X) dFdiv) := by
  intro pins s σ H x y v u Q I rx ry q
  obtain ⟨G, d, e, z, gi, hd, he, hz, o⟩ := q
  cases d <;> cases e <;> try (exact nomatch (show (none : Option D) = some z from hz))
  obtain ⟨hl, e⟩ := ifS hz
  subst e
  rw [hd.int] at rx; rw [he.int] at ry
  exact op_fdivW pins s σ H _ _ v u Q I rx ry ⟨_, _, rfl, rfl, hl, o.int⟩
theorem op_modD : OpR X (binaryOp .Mod) (rD (cfX X) dMod) := by
  intro pins s σ H x y v u Q I rx ry q
  obtain ⟨G, d, e, z, gi, hd, he, hz, o⟩ := q
  cases d <;> cases e <;> try (exact nomatch (show (none : Option D) = some z from hz))
  obtain ⟨hl, e⟩ := ifS hz
  subst e
  rw [hd.int] at rx; rw [he.int] at ry
  exact op_mod pins s σ H _ _ v u Q I rx ry ⟨_, _, rfl, rfl, hl, o.int⟩
theorem op_powD : OpR X (binaryOp .Pow) (rD (cfX X) dPow) := by
  intro pins s σ H x y v u Q I rx ry q
  obtain ⟨G, d, e, z, gi, hd, he, hz, o⟩ := q
  cases d <;> cases e <;> try (exact nomatch (show (none : Option D) = some z from hz))
  obtain ⟨hl, e⟩ := ifS hz
  subst e
  rw [hd.int] at rx; rw [he.int] at ry
  exact op_pow pins s σ H _ _ v u Q I rx ry ⟨_, _, rfl, rfl, hl, o.int⟩
theorem op_mulD : OpR X (binaryOp .Mult) (rD (cfX X) dMul) := by
  intro pins s σ H x y v u Q I rx ry q
  obtain ⟨G, d, e, z, gi, hd, he, hz, o⟩ := q
  cases d <;> cases e <;> try (exact nomatch (show (none : Option D) = some z from hz))
  case int.int =>
    obtain ⟨hl, e⟩ := ifS hz
    subst e
    rw [hd.int] at rx; rw [he.int] at ry
    exact op_mul pins s σ H _ _ v u Q I rx ry ⟨_, _, rfl, rfl, hl, o.int⟩
  case tuple.int xs k =>
    obtain ⟨⟨h1, h2, h3, h4⟩, e⟩ := ifS hz
    subst e
    obtain ⟨a, vs, rfl, ha, ra⟩ := hd.sqT
    rw [he.int] at ry
    refine op_repT pins s σ H _ _ v u Q I rx ry ⟨a, k, vs, rfl, rfl, ha, fun e => h1 ?_, h2, h3, by rw [ra.length]; exact h4, fun p hp => o.tup gi hp (ra.rep _)⟩
    subst e
    cases ra
    rfl
/-- .. where the left one is new -/
def rDN (c : Cf) (g : D → D → Option D) : R2 := fun x y H Q => ∃ G d e z A, GI G H ∧ Tr c G H 1 x d A ∧ Rd1 c G H y e ∧ g d e = some z ∧ Out c G H z Q
theorem op_mulL : OpR X (binaryOp .Mult) (rDN (cfX X) dMulL) := by
  intro pins s σ H x y v u Q I rx ry q
  obtain ⟨G, d, e, z, A, gi, hd, he, hz, o⟩ := q
  cases d <;> cases e <;> try (exact nomatch (show (none : Option D) = some z from hz))
  rename_i xs k
  obtain ⟨⟨h1, h2, h3⟩, e⟩ := ifS hz
  subst e
  rw [he.int] at ry
  cases hd with
  | atom _ h => cases h
  | lst ha ra =>
    have ra := (RepL.of_tr0 ra).1
    exact op_rep pins s σ H _ _ v u Q I rx ry ⟨_, k, _, rfl, rfl, ha, h1, h2, by rw [ra.length, ← big_eq]; exact h3, fun p hp => o.lst gi hp (ra.rep _)⟩
variable {io : Nat → Bool} {W : WX} {p1 p2 : Bool} {cl2 : Cls}
theorem j_mulL {a b : Expr} {fa fb : M} {pos : Pos} (ha : J X io W p1 (.n 1) a fa) (hb : J X io W p2 cl2 b fb) (h2 : cl2.st true = true := by rfl) :
    J X io W (p1 && p2) (.n 1) (.BinOp a .Mult b pos) (mB dMulL fa fb) := by
  refine ⟨peI (pe_op op_mulL ha.pe hb.pe) fun σ H Q q => ?_, mB_pu ha.pu hb.pu⟩
  obtain ⟨G, ρ, re, q⟩ := q
  refine ⟨G, ρ, re, (Good.bind re.gi q).mono fun d ρ1 G1 H1 s1 re1 q1 v1 r1 => ⟨G1, ρ1, re1, (good_bindT re1.gi q1).mono fun e ρ2 G2 H2 s2 re2 q2 v2 r2 => ?_⟩⟩
  obtain ⟨z, e, o⟩ := Good.of (Q := Q) re2 q2 (H0 := H) (fun a h => (s2.stp re1.gi).dm a ((s1.stp re.gi).dm a h)) fun d ρ' G' H' k v n => k v n
  obtain ⟨A, t, _, n⟩ := r1
  exact ⟨G2, _, _, z, A, re2.gi, t.stp (s2.stp re1.gi) (fun a ha i e => by rw [(n a ha).1] at e; cases e), r2.rd h2, e, o⟩
mutual
theorem Rep.dp : ∀ {v : V} {d : D}, Rep c G H v d → d.canLay0 = true → Dp c.K H v d
  | _, _, .non, _ => .non
  | _, _, .bl b, _ => .bl b
  | _, _, .int i, _ => .int i
  | _, _, .str x, _ => .str x
  | _, _, .tup h r, s => .tup h (RepL.dp r s)
  | _, _, .lst g h r, s => .lst (.of h) (RepL.dp r s)
  | _, _, .frz h r, s => .lst (.inl (.inr ⟨_, h⟩)) (RepL.dp r s)
  | _, _, .dic h r, s => nomatch (show false = true from s)
theorem RepL.dp : ∀ {v : List V} {d : List D}, RepL c G H v d → PyData.canLayAll0 d = true → DpAll c.K H v d
  | _, _, .nil, _ => .nil
  | _, _, .cons h r, s => .cons (Rep.dp h (Bool.and_eq_true_iff.mp s).1) (RepL.dp r (Bool.and_eq_true_iff.mp s).2)
end
theorem Rd1.dp {v : V} {d : D} (h : Rd1 c G H v d) (s : d.canLay0 = true) : Dp c.K H v d := by
  cases h with
  | rep h => exact h.dp s
  | lst h r => exact .lst (.of h) (r.dp s)
  | dic h r => exact nomatch (show false = true from s)
theorem op_eqD' (hu : X.A.units + 64 < cLine) : OpR X (compareOp .Eq) (rD (cfX X) dEq) := by
  intro pins s σ H x y v u Q I rx ry q
  obtain ⟨G, d, e, z, gi, hd, he, hz, o⟩ := q
  obtain ⟨⟨h1, h2⟩, e⟩ := ifS hz
  subst e
  exact op_eqD hu pins s σ H _ _ v u Q I rx ry ⟨d, _, hd.dp (SeqAt.canLay_of_shaped h1), he.dp (SeqAt.canLay_of_shaped h2), h1, h2, o.bool⟩
theorem op_neD' (hu : X.A.units + 64 < cLine) : OpR X (compareOp .NotEq) (rD (cfX X) dNe) := by
  intro pins s σ H x y v u Q I rx ry q
  obtain ⟨G, d, e, z, gi, hd, he, hz, o⟩ := q
  obtain ⟨⟨h1, h2⟩, e⟩ := ifS hz
  subst e
  exact op_neD hu pins s σ H _ _ v u Q I rx ry ⟨d, _, hd.dp (SeqAt.canLay_of_shaped h1), he.dp (SeqAt.canLay_of_shaped h2), h1, h2, o.bool⟩
def isNn : D → Bool
  | .none => true
  | _ => false
theorem Rd1.non_iff {v : V} {d : D} (h : Rd1 c G H v d) : decide (v = .non) = isNn d := by
  cases h with
  | rep h => cases h <;> rfl
  | lst _ _ => rfl
  | dic _ _ => rfl
theorem op_isD : OpR X (compareOp .Is) (rD (cfX X) dIs) := by
  intro pins s σ H x y v u Q I rx ry q
  obtain ⟨G, d, e, z, gi, hd, he, hz, o⟩ := q
  cases e with
  | none =>
    rw [he.none] at ry
    refine op_isN pins s σ H _ _ v u Q I rx ry ⟨rfl, ?_⟩
    have e : z = .bool (isNn d) := by cases d <;> (cases hz; rfl)
    subst e
    rw [hd.non_iff]
    exact o.bool
  | bool b =>
    cases d with
    | bool a =>
      cases hz
      rw [hd.bool] at rx; rw [he.bool] at ry
      exact op_is_bl pins s σ H _ _ v u Q I rx ry ⟨a, b, rfl, rfl, o.bool⟩
    | _ => exact nomatch (show (none : Option D) = some z from hz)
  | _ => cases d <;> exact nomatch (show (none : Option D) = some z from hz)
theorem op_isNotD : OpR X (compareOp .IsNot) (rD (cfX X) dIsNot) := by
  intro pins s σ H x y v u Q I rx ry q
  obtain ⟨G, d, e, z, gi, hd, he, hz, o⟩ := q
  cases e with
  | none =>
    rw [he.none] at ry
    refine op_notN pins s σ H _ _ v u Q I rx ry ⟨rfl, ?_⟩
    have e : z = .bool (!isNn d) := by cases d <;> (cases hz; rfl)
    subst e
    rw [hd.non_iff]
    exact o.bool
  | bool b =>
    cases d with
    | bool a =>
      cases hz
      rw [hd.bool] at rx; rw [he.bool] at ry
      exact op_isnot_bl pins s σ H _ _ v u Q I rx ry ⟨a, b, rfl, rfl, o.bool⟩
    | _ => exact nomatch (show (none : Option D) = some z from hz)
  | _ => cases d <;> exact nomatch (show (none : Option D) = some z from hz)
variable {p : Bool} {cl : Cls}
theorem j_un {op : UnaryOp} {g : D → Option D} (ho : UnR X (unaryOp op) (rD1 (cfX X) g)) {a : Expr} {fa : M} {pos : Pos} (ha : J X io W p cl a fa) (h1 : cl.st true = true := by rfl) : J X io W p (.n 1) (.UnaryOp op a pos) (mU g fa) := by
  refine ⟨peI (pe_un ho ha.pe) fun σ H Q q => ?_, fun e => pu_bind (ha.pu e) fun _ _ _ _ e => pu_of e⟩
  obtain ⟨G, ρ, re, q⟩ := q
  refine ⟨G, ρ, re, (good_bindT re.gi q).mono fun d ρ1 G1 H1 s1 re1 q1 v1 r1 => ?_⟩
  obtain ⟨z, e, o⟩ := Good.of (Q := Q) re1 q1 (H0 := H) (fun a h => (s1.stp re.gi).dm a h) fun d ρ' G' H' k v n => k v n
  exact ⟨G1, _, z, re1.gi, r1.rd h1, e, o⟩
theorem un_negD : UnR X (unaryOp .USub) (rD1 (cfX X) dNeg) := by
  intro pins s σ H x v Q I rx q
  obtain ⟨G, d, z, gi, hd, hz, o⟩ := q
  cases d <;> try (exact nomatch (show (none : Option D) = some z from hz))
  cases hz
  rw [hd.int] at rx
  exact un_neg pins s σ H _ v Q I rx ⟨_, rfl, o.int⟩
end
end Nc
namespace Nc
open PySem PySem.Spec L2
open PyProof.Rows hiding St

section
variable {X : Cx} {io : Nat → Bool} {W : WX} {c : Cf} {p p1 p2 p3 : Bool} {cl cl1 cl2 cl3 : Cls} {G G1 G2 G' : Gh} {H H0 H1 H2 H' : Hp} {σ : L2.St} {ρ ρ1 ρ2 ρ' : Rho}
abbrev MA := Rho → R (List D × Rho)
def tJA (X : Cx) (io : Nat → Bool) (W : WX) (p : Bool) (f : MA) : TA := fun σ H Q => ∃ G ρ, RE (cfX X) G σ H ρ ∧
  Good X io W p σ G H (f ρ) fun ds _ G' H' => ∀ vs, RepL (cfX X) G' H' vs ds → Q vs H'
structure JA (X : Cx) (io : Nat → Bool) (W : WX) (p : Bool) (es : List Expr) (f : MA) : Prop where
  pa : PA X es (tJA X io W p f)
  pu : p = true → ∀ ρ d ρ', f ρ = .ok (d, ρ') → ρ' = ρ
theorem paI {es : List Expr} {t t' : TA} (h : PA X es t) (i : ∀ σ H Q, t' σ H Q → t σ H Q) : PA X es t' := ⟨fun pos pins s σ H Q I hq => h.run pos pins s σ H Q I (i σ H Q hq)⟩
def aNil : MA := fun ρ => .ok ([], ρ)
def aCons (f : M) (g : MA) : MA := fun ρ => (f ρ).bind fun x => (g x.2).bind fun y => .ok (x.1 :: y.1, y.2)
theorem ja_nil : JA X io W true [] aNil := by
  refine ⟨paI pa_nil fun σ H Q q => ?_, fun _ ρ d ρ' e => by cases e; rfl⟩
  obtain ⟨G, ρ, re, q⟩ := q
  exact q G H StepOf.refl re [] .nil
theorem ja_cons {e : Expr} {es : List Expr} {f : M} {g : MA} (ha : J X io W p1 .f e f) (hr : JA X io W p2 es g) (hs : starEach (e :: es) X.env = (false, eval e X.env) :: starEach es X.env := by rfl) : JA X io W (p1 && p2) (e :: es) (aCons f g) := by
  refine ⟨paI (pa_cons ha.pe hr.pa hs) fun σ H Q q => ?_, fun e => ?_⟩
  · obtain ⟨G, ρ, re, q⟩ := q
    refine ⟨G, ρ, re, (Good.bind (p1 := p1) (p2 := p2) re.gi q).mono fun d ρ1 G1 H1 s1 re1 q1 v1 r1 => ⟨G1, ρ1, re1, (good_bindT re1.gi q1).mono fun es ρ2 G2 H2 s2 re2 q2 vs r2 => ?_⟩⟩
    exact q2 G2 H2 StepOf.refl re2 (v1 :: vs) (.cons (Rep.stp (s2.stp re1.gi) r1) r2)
  · obtain ⟨e1, e2⟩ := and_t e
    exact pu_bind (ha.pu e1) fun b ρ1 z ρ2 e => pu_bind (f := g) (hr.pu e2) (fun _ _ _ _ e => by cases e; rfl) ρ1 z ρ2 e
def mTup (f : MA) : M := fun ρ => (f ρ).bind fun x => if x.1.length ≤ big then .ok (.tuple x.1, x.2) else .bad
def mLst (f : MA) : M := fun ρ => (f ρ).bind fun x => if x.1.length ≤ big then .ok (.list x.1, x.2) else .bad
theorem pu_if {α : Type} {q : Prop} [Decidable q] {a : α} {ρ : Rho} {z : α} {ρ' : Rho} (e : (if q then R.ok (a, ρ) else .bad) = .ok (z, ρ')) : ρ' = ρ := by
  split at e
  · cases e; rfl
  · cases e
theorem j_tup {es : List Expr} {f : MA} {x1} {pos : Pos} (h : JA X io W p es f) : J X io W p .f (.Tuple es x1 pos) (mTup f) := by
  refine ⟨peI (pe_tup h.pa) fun σ H Q q => ?_, fun e => pu_bind (h.pu e) fun _ _ _ _ e => pu_if e⟩
  obtain ⟨G, ρ, re, q⟩ := q
  refine ⟨G, ρ, re, (good_bindT re.gi q).mono fun ds ρ1 G1 H1 s1 re1 q1 vs r1 => ?_⟩
  by_cases hl : ds.length ≤ big
  · rw [if_pos hl] at q1
    refine ⟨by rw [r1.length, ← big_eq]; exact hl, fun a ha => ?_⟩
    exact q1 G1 _ (Gr.upd ha).ext (re1.gr (Gr.upd ha)) _ (.newtup re1.gi ha r1)
  · rw [if_neg hl] at q1; exact q1.elim
theorem j_lst {es : List Expr} {f : MA} {pos : Pos} (h : JA X io W p es f) : J X io W p (.n 1) (.List es pos) (mLst f) := by
  refine ⟨peI (pe_lst h.pa) fun σ H Q q => ?_, fun e => pu_bind (h.pu e) fun _ _ _ _ e => pu_if e⟩
  obtain ⟨G, ρ, re, q⟩ := q
  refine ⟨G, ρ, re, (good_bindT re.gi q).mono fun ds ρ1 G1 H1 s1 re1 q1 vs r1 => ?_⟩
  by_cases hl : ds.length ≤ big
  · rw [if_pos hl] at q1
    refine ⟨by rw [r1.length, ← big_eq]; exact hl, fun a ha => ?_⟩
    exact q1 G1 _ (Gr.upd ha).ext (re1.gr (Gr.upd ha)) _ (New.anti (fun b h => (s1.stp re.gi).dm b h) (.lst1 re1.gi ha r1))
  · rw [if_neg hl] at q1; exact q1.elim
def rC1 (c : Cf) (g : D → Option D) : List V → Hp → VK → Prop := fun xs H Q => ∃ G d z x, xs = [x] ∧ GI G H ∧ Rd1 c G H x d ∧ g d = some z ∧ Out c G H z Q
def rC2 (c : Cf) (g : D → D → Option D) : List V → Hp → VK → Prop := fun xs H Q => ∃ G d e z x y, xs = [x, y] ∧ GI G H ∧ Rd1 c G H x d ∧ Rd1 c G H y e ∧ g d e = some z ∧ Out c G H z Q
variable {a b e : Expr} {fa fb : M} {x : Str} {pn pos : Pos} {id T : String}
theorem tC1_of {g : D → Option D} (h1 : cl.st true = true) {Q : VK} (q : tJ X io W p (.n 1) (mU g fa) σ H Q) : tCB (rC1 (cfX X) g) (tCons (tJ X io W p cl fa) tNil) σ H Q := by
  obtain ⟨G, ρ, re, q⟩ := q
  refine ⟨G, ρ, re, (good_bindT re.gi q).mono fun d ρ1 G1 H1 s1 re1 q1 v1 r1 => ?_⟩
  obtain ⟨z, e, o⟩ := Good.of (Q := Q) re1 q1 (H0 := H) (fun a h => (s1.stp re.gi).dm a h) fun d ρ' G' H' k v n => k v n
  exact ⟨G1, _, z, v1, rfl, re1.gi, r1.rd h1, e, o⟩
theorem tC2_of {g : D → D → Option D} (h1 : cl1.st p2 = true) (h2 : cl2.st true = true) {Q : VK} (q : tJ X io W (p1 && p2) (.n 1) (mB g fa fb) σ H Q) : tCB (rC2 (cfX X) g) (tCons (tJ X io W p1 cl1 fa) (tCons (tJ X io W p2 cl2 fb) tNil)) σ H Q := by
  obtain ⟨G, ρ, re, q⟩ := q
  refine ⟨G, ρ, re, (Good.bind re.gi q).mono fun d ρ1 G1 H1 s1 re1 q1 v1 r1 => ⟨G1, ρ1, re1, (good_bindT re1.gi q1).mono fun e ρ2 G2 H2 s2 re2 q2 v2 r2 => ?_⟩⟩
  obtain ⟨z, e, o⟩ := Good.of (Q := Q) re2 q2 (H0 := H) (fun a h => (s2.stp re1.gi).dm a ((s1.stp re.gi).dm a h)) fun d ρ' G' H' k v n => k v n
  exact ⟨G2, _, _, z, v1, v2, rfl, re2.gi, r1.step re1.gi s2 h1, r2.rd h2, e, o⟩
theorem pa1 (ha : J X io W p cl a fa) (hs : starEach [a] X.env = [(false, eval a X.env)] := by rfl) : PA X [a] (tCons (tJ X io W p cl fa) tNil) := pa_cons ha.pe pa_nil hs
theorem j_callB {g : D → Option D} (hc : CallR X (.builtin id) (rC1 (cfX X) g)) (hm : X.mg x = none) (hv : bootBuiltins x = some (.builtin id)) (ha : J X io W p cl a fa) (h1 : cl.st true = true := by rfl) (hg : Gl X x := by rfl) (hn : x ≠ "__name__" := by decide) (hdb : (x == ("__debug__" : Str)) = false := by decide)
    (hs : starEach [a] X.env = [(false, eval a X.env)] := by rfl) (hpl : (backTo pos (starEach [] X.env)).any (·.1) = false := by rfl) : J X io W p (.n 1) (.Call (.Name x pn) [a] [] pos) (mU g fa) :=
  ⟨peI (pe_callB hc hg hm hv (pa1 ha hs) hn hdb hs hpl) fun σ H Q q => tC1_of h1 q, fun e => pu_bind (ha.pu e) fun _ _ _ _ e => pu_of e⟩
theorem j_callTy {g : D → Option D} (hc : CallR X (.type T) (rC1 (cfX X) g)) (hm : X.mg x = none) (hv : bootBuiltins x = some (.type T)) (ha : J X io W p cl a fa) (h1 : cl.st true = true := by rfl) (hg : Gl X x := by rfl) (hn : x ≠ "__name__" := by decide) (hdb : (x == ("__debug__" : Str)) = false := by decide)
    (hs : starEach [a] X.env = [(false, eval a X.env)] := by rfl) (hpl : (backTo pos (starEach [] X.env)).any (·.1) = false := by rfl) : J X io W p (.n 1) (.Call (.Name x pn) [a] [] pos) (mU g fa) :=
  ⟨peI (pe_callTy hc hg hm hv (pa1 ha hs) hn hdb hs hpl) fun σ H Q q => tC1_of h1 q, fun e => pu_bind (ha.pu e) fun _ _ _ _ e => pu_of e⟩
theorem j_callB2 {g : D → D → Option D} (hc : CallR X (.builtin id) (rC2 (cfX X) g)) (hm : X.mg x = none) (hv : bootBuiltins x = some (.builtin id)) (ha : J X io W p1 cl1 a fa) (hb : J X io W p2 cl2 b fb) (h1 : cl1.st p2 = true := by rfl) (h2 : cl2.st true = true := by rfl) (hg : Gl X x := by rfl) (hn : x ≠ "__name__" := by decide) (hdb : (x == ("__debug__" : Str)) = false := by decide)
    (hs : starEach [a, b] X.env = (false, eval a X.env) :: starEach [b] X.env := by rfl) (hs2 : starEach [b] X.env = [(false, eval b X.env)] := by rfl) (hpl : (backTo pos (starEach [b] X.env)).any (·.1) = false := by rfl) : J X io W (p1 && p2) (.n 1) (.Call (.Name x pn) [a, b] [] pos) (mB g fa fb) :=
  ⟨peI (pe_callB hc hg hm hv (pa_cons ha.pe (pa1 hb hs2) hs) hn hdb hs hpl) fun σ H Q q => tC2_of h1 h2 q, mB_pu ha.pu hb.pu⟩
def dLen : D → Option D
  | .list xs => some (.int xs.length)
  | .tuple xs => some (.int xs.length)
  | .str x => if x.length ≤ big then some (.int x.length) else none
  | _ => none
theorem call_lenD : CallR X (.builtin "len") (rC1 (cfX X) dLen) := by
  intro pins s σ H xs us Q I r h
  obtain ⟨G, d, z, x, rfl, gi, hd, hz, o⟩ := h
  cases d <;> try (exact nomatch (show (none : Option D) = some z from hz))
  case str y =>
    obtain ⟨hl, e⟩ := ifS hz
    subst e
    exact call_len pins s σ H _ us Q I r ⟨_, y.length, rfl, by rw [hd.str]; exact ⟨by rw [← big_eq]; exact hl, rfl⟩, o.int⟩
  case list ds =>
    cases hz
    obtain ⟨a, vs, rfl, ha, ra⟩ := hd.sqL
    exact call_len pins s σ H _ us Q I r ⟨_, _, rfl, .inl ⟨vs, ha, rfl⟩, by rw [ra.length]; exact o.int⟩
  case tuple ds =>
    cases hz
    obtain ⟨a, vs, rfl, ha, ra⟩ := hd.sqT
    exact call_len pins s σ H _ us Q I r ⟨_, _, rfl, .inr ⟨vs, ha, rfl⟩, by rw [ra.length]; exact o.int⟩
def dTuple : D → Option D
  | .list xs => some (.tuple xs)
  | .tuple xs => some (.tuple xs)
  | _ => none
def dList : D → Option D
  | .list xs => some (.list xs)
  | .tuple xs => some (.list xs)
  | _ => none
theorem call_tupleD : CallR X (.type "tuple") (rC1 (cfX X) dTuple) := by
  intro pins s σ H xs us Q I r h
  obtain ⟨G, d, z, x, rfl, gi, hd, hz, o⟩ := h
  cases d <;> try (exact nomatch (show (none : Option D) = some z from hz))
  case list ds =>
    cases hz
    obtain ⟨a, vs, rfl, ha, ra⟩ := hd.sqL
    exact call_tuple_of pins s σ H _ us Q I r ⟨a, vs, rfl, .inl ⟨ha, fun l hl => o.tup gi hl ra⟩⟩
  case tuple ds =>
    cases hz
    obtain ⟨a, vs, rfl, ha, ra⟩ := hd.sqT
    exact call_tuple_of pins s σ H _ us Q I r ⟨a, vs, rfl, .inr ⟨ha, o.atom (.tup ha ra) rfl⟩⟩
theorem call_listD : CallR X (.type "list") (rC1 (cfX X) dList) := by
  intro pins s σ H xs us Q I r h
  obtain ⟨G, d, z, x, rfl, gi, hd, hz, o⟩ := h
  cases d <;> try (exact nomatch (show (none : Option D) = some z from hz))
  case list ds =>
    cases hz
    obtain ⟨a, vs, rfl, ha, ra⟩ := hd.sqL
    exact call_list_of pins s σ H _ us Q I r ⟨a, vs, rfl, .inl ha, fun l hl => o.lst gi hl ra⟩
  case tuple ds =>
    cases hz
    obtain ⟨a, vs, rfl, ha, ra⟩ := hd.sqT
    exact call_list_of pins s σ H _ us Q I r ⟨a, vs, rfl, .inr ha, fun l hl => o.lst gi hl ra⟩
def bools : List D → Option (List Bool)
  | [] => some []
  | .bool b :: r => (bools r).map (b :: ·)
  | _ => none
theorem bools_rep : ∀ {vs : List V} {ds : List D} {bs : List Bool}, RepL c G H vs ds → bools ds = some bs → vs = bs.map V.bl
  | _, _, _, .nil, e => by cases e; rfl
  | _, .bool b :: _, bs, .cons (vs := vs) h r, e => by
    cases h
    have e' : (bools _).map (b :: ·) = some bs := e
    obtain ⟨cs, e1, e2⟩ := Option.map_eq_some_iff.mp e'
    subst e2
    rw [bools_rep r e1]
    rfl
  | _, .none :: _, _, .cons _ _, e => nomatch (show (none : Option (List Bool)) = some _ from e)
  | _, .int _ :: _, _, .cons _ _, e => nomatch (show (none : Option (List Bool)) = some _ from e)
  | _, .str _ :: _, _, .cons _ _, e => nomatch (show (none : Option (List Bool)) = some _ from e)
  | _, .list _ :: _, _, .cons _ _, e => nomatch (show (none : Option (List Bool)) = some _ from e)
  | _, .tuple _ :: _, _, .cons _ _, e => nomatch (show (none : Option (List Bool)) = some _ from e)
  | _, .dict _ :: _, _, .cons _ _, e => nomatch (show (none : Option (List Bool)) = some _ from e)
def dAll : D → Option D
  | .list xs => (bools xs).map fun bs => .bool (bs.all _root_.id)
  | _ => none
def dAny : D → Option D
  | .list xs => (bools xs).map fun bs => .bool (bs.any _root_.id)
  | _ => none
theorem call_allD (hc : X.calm = true) : CallR X (.builtin "all") (rC1 (cfX X) dAll) := by
  intro pins s σ H xs us Q I r h
  obtain ⟨G, d, z, x, rfl, gi, hd, hz, o⟩ := h
  cases d <;> try (exact nomatch (show (none : Option D) = some z from hz))
  obtain ⟨bs, e1, e2⟩ := Option.map_eq_some_iff.mp (show (bools _).map _ = some z from hz)
  subst e2
  obtain ⟨a, vs, rfl, ha, ra⟩ := hd.sqL
  rw [bools_rep ra e1] at ha
  exact cr_all hc pins s σ H _ us Q I r ⟨a, bs, rfl, ha, o.bool⟩
theorem call_anyD (hc : X.calm = true) : CallR X (.builtin "any") (rC1 (cfX X) dAny) := by
  intro pins s σ H xs us Q I r h
  obtain ⟨G, d, z, x, rfl, gi, hd, hz, o⟩ := h
  cases d <;> try (exact nomatch (show (none : Option D) = some z from hz))
  obtain ⟨bs, e1, e2⟩ := Option.map_eq_some_iff.mp (show (bools _).map _ = some z from hz)
  subst e2
  obtain ⟨a, vs, rfl, ha, ra⟩ := hd.sqL
  rw [bools_rep ra e1] at ha
  exact cr_any hc pins s σ H _ us Q I r ⟨a, bs, rfl, ha, o.bool⟩
def dAbs : D → Option D
  | .int i => some (.int (if i < 0 then -i else i))
  | _ => none
def dInt : D → Option D
  | .int i => some (.int i)
  | .bool b => some (.int (if b then 1 else 0))
  | _ => none
def dMax : D → D → Option D
  | .int i, .int j => some (.int (if j > i then j else i))
  | _, _ => none
def dMin : D → D → Option D
  | .int i, .int j => some (.int (if j < i then j else i))
  | _, _ => none
theorem call_absD : CallR X (.builtin "abs") (rC1 (cfX X) dAbs) := by
  intro pins s σ H xs us Q I r h
  obtain ⟨G, d, z, x, rfl, gi, hd, hz, o⟩ := h
  cases d <;> try (exact nomatch (show (none : Option D) = some z from hz))
  cases hz
  rw [hd.int] at r
  exact call_abs pins s σ H _ us Q I r ⟨_, rfl, o.int⟩
theorem call_intD : CallR X (.type "int") (rC1 (cfX X) dInt) := by
  intro pins s σ H xs us Q I r h
  obtain ⟨G, d, z, x, rfl, gi, hd, hz, o⟩ := h
  cases d <;> try (exact nomatch (show (none : Option D) = some z from hz))
  case int =>
    cases hz
    rw [hd.int] at r
    exact call_int1 pins s σ H _ us Q I r (.inl ⟨_, rfl, o.int⟩)
  case bool =>
    cases hz
    rw [hd.bool] at r
    exact call_int1 pins s σ H _ us Q I r (.inr ⟨_, rfl, o.int⟩)
theorem call_maxD (hc : X.calm = true) : CallR X (.builtin "max") (rC2 (cfX X) dMax) := by
  intro pins s σ H xs us Q I r h
  obtain ⟨G, d, e, z, x, y, rfl, gi, hd, he, hz, o⟩ := h
  cases d <;> cases e <;> try (exact nomatch (show (none : Option D) = some z from hz))
  cases hz
  rw [hd.int, he.int] at r
  exact call_max2 hc pins s σ H _ us Q I r ⟨_, _, rfl, o.int⟩
theorem call_minD (hc : X.calm = true) : CallR X (.builtin "min") (rC2 (cfX X) dMin) := by
  intro pins s σ H xs us Q I r h
  obtain ⟨G, d, e, z, x, y, rfl, gi, hd, he, hz, o⟩ := h
  cases d <;> cases e <;> try (exact nomatch (show (none : Option D) = some z from hz))
  cases hz
  rw [hd.int, he.int] at r
  exact call_min2 hc pins s σ H _ us Q I r ⟨_, _, rfl, o.int⟩
/-- what an item is: frozen, taken out of what stands -/
def rIt (c : Cf) (g : D → D → Option D) : R2 := fun x y H Q => ∃ G d e z, GI G H ∧ Rd1 c G H x d ∧ Rd1 c G H y e ∧ g d e = some z ∧ ∀ v, Rep c G H v z → Q v H
theorem tI_of {g : D → D → Option D} {r : R2} (hr : r = rIt (cfX X) g) (h1 : cl1.st p2 = true) (h2 : cl2.st true = true) {Q : VK}
    (q : tJ X io W (p1 && p2) .f (mB g fa fb) σ H Q) : tOp r (tJ X io W p1 cl1 fa) (tJ X io W p2 cl2 fb) σ H Q := by
  subst hr
  obtain ⟨G, ρ, re, q⟩ := q
  refine ⟨G, ρ, re, (Good.bind re.gi q).mono fun d ρ1 G1 H1 s1 re1 q1 v1 r1 => ⟨G1, ρ1, re1, (good_bindT re1.gi q1).mono fun e ρ2 G2 H2 s2 re2 q2 v2 r2 => ?_⟩⟩
  have q2 : Good X io W true σ G2 H2 (R.of (g d e) ρ2) _ := q2
  cases hz : g d e with
  | none => rw [hz] at q2; exact q2.elim
  | some z =>
    rw [hz] at q2
    exact ⟨G2, _, _, z, re2.gi, r1.step re1.gi s2 h1, r2.rd h2, hz, fun v hv => q2 G2 H2 StepOf.refl re2 v hv⟩
def dIx : D → D → Option D
  | .list xs, .int i => atI xs i
  | .tuple xs, .int i => atI xs i
  | _, _ => none
theorem atI_rep {vs : List V} {ds : List D} {i : Int} {d : D} (h : RepL c G H vs ds) (e : atI ds i = some d) : ∃ v, atI vs i = some v ∧ Rep c G H v d := by
  unfold atI at e ⊢
  rw [h.length]
  cases q : ixN ds.length i with
  | none => rw [q] at e; cases e
  | some j =>
    rw [q] at e
    exact h.get e
theorem ix_D : IxR X (rIt (cfX X) dIx) := by
  intro value slice pins s σ H x y v u Q I rx ry h hs
  obtain ⟨G, d, e, z, gi, hd, he, hz, o⟩ := h
  cases d <;> cases e <;> try (exact nomatch (show (none : Option D) = some z from hz))
  case list.int ds i =>
    obtain ⟨a, vs, rfl, ha, ra⟩ := hd.sqL
    rw [he.int] at ry
    obtain ⟨w, ew, rw'⟩ := atI_rep ra hz
    exact ix_list value slice pins s σ H _ _ v u Q I rx ry ⟨a, vs, i, w, rfl, rfl, ha, ew, o w rw'⟩ hs
  case tuple.int ds i =>
    obtain ⟨a, vs, rfl, ha, ra⟩ := hd.sqT
    rw [he.int] at ry
    obtain ⟨w, ew, rw'⟩ := atI_rep ra hz
    exact ix_tup value slice pins s σ H _ _ v u Q I rx ry ⟨a, vs, i, w, rfl, rfl, ha, ew, o w rw'⟩ hs
theorem j_ix {g : D → D → Option D} (hi : IxR X (rIt (cfX X) g)) (ha : J X io W p1 cl1 a fa) (hb : J X io W p2 cl2 b fb) (h1 : cl1.st p2 = true := by rfl) (h2 : cl2.st true = true := by rfl) (hs : PlainIx b := by exact fun _ _ => rfl) : J X io W (p1 && p2) .f (.Subscript a b pos) (mB g fa fb) :=
  ⟨peI (pe_ix hi ha.pe hb.pe hs) fun σ H Q q => tI_of rfl h1 h2 q, mB_pu ha.pu hb.pu⟩
abbrev MO := Rho → R (Option Int × Rho)
def tJO (X : Cx) (io : Nat → Bool) (W : WX) (p : Bool) (f : MO) : TO := fun σ H Q => ∃ G ρ, RE (cfX X) G σ H ρ ∧
  Good X io W p σ G H (f ρ) fun o _ _ H' => Q o H'
structure JO (X : Cx) (io : Nat → Bool) (W : WX) (p : Bool) (e : Option Expr) (f : MO) : Prop where
  po : PO X e (tJO X io W p f)
  pu : p = true → ∀ ρ d ρ', f ρ = .ok (d, ρ') → ρ' = ρ
def oNone : MO := fun ρ => .ok (none, ρ)
def oSome (f : M) : MO := fun ρ => (f ρ).bind fun x => match x.1 with
  | .int i => .ok (some i, x.2)
  | _ => .bad
theorem poI {e : Option Expr} {t t' : TO} (h : PO X e t) (i : ∀ σ H Q, t' σ H Q → t σ H Q) : PO X e t' := ⟨fun pins s σ H Q I hq => h.run pins s σ H Q I (i σ H Q hq)⟩
theorem jo_none : JO X io W true none oNone := by
  refine ⟨poI po_none fun σ H Q q => ?_, fun _ ρ d ρ' e => by cases e; rfl⟩
  obtain ⟨G, ρ, re, q⟩ := q
  exact q G H StepOf.refl re
theorem jo_some (h : J X io W p cl e fa) (hs : cl.st true = true := by rfl) : JO X io W p (some e) (oSome fa) := by
  refine ⟨poI (po_some h.pe) fun σ H Q q => ?_, fun e => pu_bind (h.pu e) fun b ρ z ρ' e => ?_⟩
  · obtain ⟨G, ρ, re, q⟩ := q
    refine ⟨G, ρ, re, (good_bindT re.gi q).mono fun d ρ1 G1 H1 s1 re1 q1 v r => ?_⟩
    cases d with
    | int i => exact ⟨i, (r.rd hs).int, q1 G1 H1 StepOf.refl re1⟩
    | _ => exact q1.elim
  · dsimp only at e
    split at e
    · cases e; rfl
    · cases e
/-- the items of xs[lo:hi] -/
def cutD {α : Type} (xs : List α) (lo hi : Option Int) : List α := (xs.drop (HT.sIx xs.length 0 lo)).take (HT.sIx xs.length xs.length hi - HT.sIx xs.length 0 lo)
theorem cut_rep {vs : List V} {ds : List D} (h : RepL c G H vs ds) (lo hi : Option Int) : RepL c G H (cutV vs lo hi) (cutD ds lo hi) := by
  unfold cutV cutD
  rw [h.length]
  exact (h.drop _).take _
def dSl : D → Option Int → Option Int → Option D
  | .list xs, lo, hi => some (.list (cutD xs lo hi))
  | .tuple xs, lo, hi => some (.tuple (cutD xs lo hi))
  | _, _, _ => none
def rSlD (c : Cf) : V → Option Int → Option Int → Hp → VK → Prop := fun x lo hi H Q => ∃ G d z, GI G H ∧ Rd1 c G H x d ∧ dSl d lo hi = some z ∧ Out c G H z Q
theorem sIx_whole {n : Nat} {lo hi : Option Int} (h : HT.sIx n 0 lo = 0 ∧ HT.sIx n n hi = n) {α : Type} {xs : List α} (hn : xs.length = n) : cutD xs lo hi = xs := by
  unfold cutD
  rw [hn, h.1, h.2, List.drop_zero, ← hn, Nat.sub_zero, List.take_length]
theorem sl_D : SlR X (rSlD (cfX X)) := by
  intro pins s σ H x v vl vu lo hi sl Q I rx hs pl pu h
  obtain ⟨G, d, z, gi, hd, hz, o⟩ := h
  cases d <;> try (exact nomatch (show (none : Option D) = some z from hz))
  case list ds =>
    cases hz
    obtain ⟨a, vs, rfl, ha, ra⟩ := hd.sqL
    exact sl_list pins s σ H _ v vl vu lo hi sl Q I rx hs pl pu ⟨a, vs, rfl, ha, fun p hp => o.lst gi hp (cut_rep ra lo hi)⟩
  case tuple ds =>
    cases hz
    obtain ⟨a, vs, rfl, ha, ra⟩ := hd.sqT
    refine sl_tupA pins s σ H _ v vl vu lo hi sl Q I rx hs pl pu ⟨a, vs, rfl, ha, fun hw => ?_, fun _ p hp => o.tup gi hp (cut_rep ra lo hi)⟩
    rw [ra.length] at hw
    rw [sIx_whole hw rfl] at o
    exact o.atom (.tup ha ra) rfl
def mSl (f : M) (l h : MO) : M := fun ρ => (f ρ).bind fun x => (l x.2).bind fun y => (h y.2).bind fun z => R.of (dSl x.1 y.1 z.1) z.2
theorem j_slice {lo hi : Option Expr} {fl fh : MO} {p2' : Pos} (ha : J X io W p1 cl1 a fa) (hl : JO X io W p2 lo fl) (hh : JO X io W p3 hi fh) (h1 : cl1.st (p2 && p3) = true := by rfl) :
    J X io W (p1 && (p2 && p3)) (.n 1) (.Subscript a (.Slice lo hi none p2') pos) (mSl fa fl fh) := by
  refine ⟨peI (pe_slice sl_D ha.pe hl.po hh.po) fun σ H Q q => ?_, fun e => ?_⟩
  · obtain ⟨G, ρ, re, q⟩ := q
    refine ⟨G, ρ, re, (Good.bind re.gi q).mono fun d ρ1 G1 H1 s1 re1 q1 v1 r1 => ⟨G1, ρ1, re1, (Good.bind re1.gi q1).mono fun lo ρ2 G2 H2 s2 re2 q2 => ⟨G2, ρ2, re2, (good_bindT re2.gi q2).mono fun hi ρ3 G3 H3 s3 re3 q3 => ?_⟩⟩⟩
    obtain ⟨z, e, o⟩ := Good.of (Q := Q) re3 q3 (H0 := H) (fun a h => (s3.stp re2.gi).dm a ((s2.stp re1.gi).dm a ((s1.stp re.gi).dm a h))) fun d ρ' G' H' k v n => k v n
    exact ⟨G3, d, z, re3.gi, r1.step re1.gi (s2.trans re1.gi re2.gi s3) h1, e, o⟩
  · obtain ⟨e1, e2⟩ := and_t e
    obtain ⟨e2, e3⟩ := and_t e2
    refine pu_bind (ha.pu e1) fun b ρ z ρ' e => pu_bind (f := fl) (hl.pu e2) (fun b ρ z ρ' e => pu_bind (f := fh) (hh.pu e3) (fun b ρ z ρ' e => pu_of e) ρ z ρ' e) ρ z ρ' e
end
end Nc
namespace Nc
open PySem PySem.Spec L2
open PyProof.Rows hiding St

/-- how a statement ends -/
inductive Fl where
  | nx
  | ret (d : D)
  | bk
  | ct
abbrev S := Rho → R (Fl × Rho)
/-- the lent slots stay -/
structure Kio (io : Nat → Bool) (σ σ' : L2.St) : Prop where
  len : σ'.length = σ.length
  at_ : ∀ j, io j = true → σ'[j]? = σ[j]?
/-- what is handed back: frozen, or new to the depth k -/
def RRes (c : Cf) (rk : Nat) (G : Gh) (H : Hp) (v : V) (d : D) : Prop := ∃ A, Tr c G H rk v d A ∧ A.Nodup ∧ ∀ a ∈ A, G a = some .res
def EndsAs (c : Cf) (rk : Nat) (D : Ends) (fl : Fl) (σ' : L2.St) (G' : Gh) (H' : Hp) : Prop := match fl with
  | .nx => D.nx σ' H'
  | .bk => D.bk σ' H'
  | .ct => D.ct σ' H'
  | .ret d => ∀ v, RRes c rk G' H' v d → D.rt v H'
/-- what is to hold behind a statement whose end is r -/
def GoodS (X : Cx) (io : Nat → Bool) (W : WX) (σ : L2.St) (G : Gh) (H : Hp) (r : R (Fl × Rho)) (k : Fl → Rho → L2.St → Gh → Hp → Prop) : Prop := match r with
  | .ok (fl, ρ') => ∀ σ' G' H', Kio io σ σ' → Stp io G H G' H' → RE (cfX X) G' σ' H' ρ' → k fl ρ' σ' G' H'
  | .exc x => ∀ σ', Kio io σ σ' → ExcP X io W σ' G H x
  | .bad => False
def tS (X : Cx) (io : Nat → Bool) (W : WX) (rk : Nat) (s : S) : TS := fun D σ H => ∃ G ρ, RE (cfX X) G σ H ρ ∧
  GoodS X io W σ G H (s ρ) fun fl _ σ' G' H' => EndsAs (cfX X) rk D fl σ' G' H'
def JS (X : Cx) (io : Nat → Bool) (W : WX) (rk : Nat) (st : Stmt) (s : S) : Prop := PS X st (tS X io W rk s)
def JSs (X : Cx) (io : Nat → Bool) (W : WX) (rk : Nat) (sts : List Stmt) (s : S) : Prop := PSs X sts (tS X io W rk s)
theorem psI {st : Stmt} {X : Cx} {t t' : TS} (h : PS X st t) (i : ∀ D σ H, t' D σ H → t D σ H) : PS X st t' := ⟨fun pins s σ H D I hq => h.run pins s σ H D I (i D σ H hq)⟩
theorem pssI {st : List Stmt} {X : Cx} {t t' : TS} (h : PSs X st t) (i : ∀ D σ H, t' D σ H → t D σ H) : PSs X st t' := ⟨fun pins s σ H D I hq => h.run pins s σ H D I (i D σ H hq)⟩

section
variable {X : Cx} {io : Nat → Bool} {W : WX} {rk : Nat} {c : Cf} {p p1 p2 p3 : Bool} {cl cl1 cl2 cl3 : Cls} {G G1 G2 G' : Gh} {H H0 H1 H2 H' : Hp} {σ σ1 σ2 σ' : L2.St} {ρ ρ1 ρ2 ρ' : Rho}
theorem Kio.refl : Kio io σ σ := ⟨rfl, fun _ _ => rfl⟩
theorem Kio.trans (a : Kio io σ σ1) (b : Kio io σ1 σ2) : Kio io σ σ2 := ⟨b.len.trans a.len, fun j h => (b.at_ j h).trans (a.at_ j h)⟩
theorem Kio.set {i : Nat} {o : Option V} (h : io i = false) : Kio io σ (σ.set i o) := ⟨List.length_set, fun j hj => by
  refine List.getElem?_set_ne fun e => ?_
  subst e
  rw [h] at hj; cases hj⟩
theorem GoodS.mono {r : R (Fl × Rho)} {k k' : Fl → Rho → L2.St → Gh → Hp → Prop} (h : GoodS X io W σ G H r k) (hk : ∀ fl ρ' σ' G' H', Kio io σ σ' → Stp io G H G' H' → RE (cfX X) G' σ' H' ρ' → k fl ρ' σ' G' H' → k' fl ρ' σ' G' H') :
    GoodS X io W σ G H r k' := by
  cases r with
  | ok a =>
    obtain ⟨b, ρ'⟩ := a
    exact fun σ' G' H' kio s re => hk b ρ' σ' G' H' kio s re (h σ' G' H' kio s re)
  | exc x => exact h
  | bad => exact h
/-- an expression's part of a statement -/
def R.bindS {β : Type} (r : R (β × Rho)) (f : β × Rho → R (Fl × Rho)) : R (Fl × Rho) := r.bind f
theorem GoodS.expr {β : Type} {r : R (β × Rho)} {f : β × Rho → R (Fl × Rho)} {k : Fl → Rho → L2.St → Gh → Hp → Prop} (g : GI G H) (h : GoodS X io W σ G H (r.bind f) k) :
    Good X io W p σ G H r fun b ρ1 G1 H1 => GoodS X io W σ G1 H1 (f (b, ρ1)) k := by
  cases r with
  | ok a =>
    obtain ⟨b, ρ1⟩ := a
    intro G1 H1 s1 re1
    have h' : GoodS X io W σ G H (f (b, ρ1)) k := h
    show GoodS X io W σ G1 H1 (f (b, ρ1)) k
    cases e : f (b, ρ1) with
    | ok a =>
      obtain ⟨y, ρ2⟩ := a
      rw [e] at h'
      exact fun σ2 G2 H2 k2 s2 re2 => h' σ2 G2 H2 k2 ((s1.stp g).trans s2) re2
    | exc x =>
      rw [e] at h'
      exact fun σ' k' C G2 H2 hm s2 => h' σ' k' C G2 H2 hm ((s1.stp g).trans s2)
    | bad => rw [e] at h'; exact h'
  | exc x => exact h σ Kio.refl
  | bad => exact h
theorem GoodS.stmt {r : R (Fl × Rho)} {f : Fl × Rho → R (Fl × Rho)} {k : Fl → Rho → L2.St → Gh → Hp → Prop} (h : GoodS X io W σ G H (r.bind f) k) :
    GoodS X io W σ G H r fun b ρ1 σ1 G1 H1 => GoodS X io W σ1 G1 H1 (f (b, ρ1)) k := by
  cases r with
  | ok a =>
    obtain ⟨b, ρ1⟩ := a
    intro σ1 G1 H1 k1 s1 re1
    have h' : GoodS X io W σ G H (f (b, ρ1)) k := h
    show GoodS X io W σ1 G1 H1 (f (b, ρ1)) k
    cases e : f (b, ρ1) with
    | ok a =>
      obtain ⟨y, ρ2⟩ := a
      rw [e] at h'
      exact fun σ2 G2 H2 k2 s2 re2 => h' σ2 G2 H2 (k1.trans k2) (s1.trans s2) re2
    | exc x =>
      rw [e] at h'
      exact fun σ' k' C G2 H2 hm s2 => h' σ' (k1.trans k') C G2 H2 hm (s1.trans s2)
    | bad => rw [e] at h'; exact h'
  | exc x => exact h
  | bad => exact h
def sNil : S := fun ρ => .ok (.nx, ρ)
def sSeq (s t : S) : S := fun ρ => (s ρ).bind fun x => match x.1 with
  | .nx => t x.2
  | fl => .ok (fl, x.2)
theorem js_nil : JSs X io W rk [] sNil := pssI pss_nil fun D σ H q => by
  obtain ⟨G, ρ, re, q⟩ := q
  exact q σ G H Kio.refl Stp.refl re
theorem js_cons {st : Stmt} {sts : List Stmt} {s t : S} (h1 : JS X io W rk st s) (h2 : JSs X io W rk sts t) : JSs X io W rk (st :: sts) (sSeq s t) := pssI (pss_cons h1 h2) fun D σ H q => by
  obtain ⟨G, ρ, re, q⟩ := q
  refine ⟨G, ρ, re, (GoodS.stmt q).mono fun fl ρ1 σ1 G1 H1 k1 s1 re1 q1 => ?_⟩
  cases fl with
  | nx => exact ⟨G1, ρ1, re1, q1⟩
  | bk => exact q1 σ1 G1 H1 Kio.refl Stp.refl re1
  | ct => exact q1 σ1 G1 H1 Kio.refl Stp.refl re1
  | ret d => exact q1 σ1 G1 H1 Kio.refl Stp.refl re1
theorem js_one {st : Stmt} {s : S} (h1 : JS X io W rk st s) : JSs X io W rk [st] s := pss_one h1
def sPass : S := fun ρ => .ok (.nx, ρ)
def sBreak : S := fun ρ => .ok (.bk, ρ)
def sCont : S := fun ρ => .ok (.ct, ρ)
theorem js_pass {pos : Pos} : JS X io W rk (.Pass pos) sPass := psI ps_pass fun D σ H q => by
  obtain ⟨G, ρ, re, q⟩ := q
  exact q σ G H Kio.refl Stp.refl re
theorem js_break {pos : Pos} : JS X io W rk (.Break pos) sBreak := psI ps_break fun D σ H q => by
  obtain ⟨G, ρ, re, q⟩ := q
  exact q σ G H Kio.refl Stp.refl re
theorem js_continue {pos : Pos} : JS X io W rk (.Continue pos) sCont := psI ps_continue fun D σ H q => by
  obtain ⟨G, ρ, re, q⟩ := q
  exact q σ G H Kio.refl Stp.refl re
def sExpr (f : M) : S := fun ρ => (f ρ).bind fun x => .ok (.nx, x.2)
variable {e a b : Expr} {f : M} {pos pos' : Pos} {x : Str}
theorem js_expr (he : J X io W p cl e f) (hs : swapsWith e none pos.line X.env = pure false := by rfl) : JS X io W rk (.Expr e pos) (sExpr f) := psI (ps_expr he.pe hs) fun D σ H q => by
  obtain ⟨G, ρ, re, q⟩ := q
  refine ⟨G, ρ, re, (GoodS.expr re.gi q).mono fun d ρ1 G1 H1 s1 re1 q1 v r => ?_⟩
  exact q1 σ G1 H1 Kio.refl Stp.refl re1
def sRet (f : M) : S := fun ρ => (f ρ).bind fun x => .ok (.ret x.1, x.2)
theorem js_ret (he : J X io W p .f e f) : JS X io W 0 (.Return (some e) pos) (sRet f) := psI (ps_ret he.pe) fun D σ H q => by
  obtain ⟨G, ρ, re, q⟩ := q
  refine ⟨G, ρ, re, (GoodS.expr re.gi q).mono fun d ρ1 G1 H1 s1 re1 q1 v r => ?_⟩
  exact q1 σ G1 H1 Kio.refl Stp.refl re1 v ⟨[], .leaf r, List.nodup_nil, fun a h => by cases h⟩
theorem js_retN : JS X io W 0 (.Return none pos) (sRet (mC .none)) := psI ps_retN fun D σ H q => by
  obtain ⟨G, ρ, re, q⟩ := q
  exact q σ G H Kio.refl Stp.refl re _ ⟨[], .leaf .non, List.nodup_nil, fun a h => by cases h⟩
/-- new data gets its holder -/
theorem Tr.tag {A : List Addr} {k : Nat} {v : V} {d : D} {B : List Addr} (hA : ∀ a ∈ A, G a = none) (t : Tag) (h : Tr c G H k v d B) : Tr c (fun a => if a ∈ A then some t else G a) H k v d B :=
  h.kps ⟨fun r => Rep.tags (fun a h => by
    have na : a ∉ A := fun z => by rw [hA a z] at h; cases h
    show (if a ∈ A then some t else G a) = _
    rw [if_neg na]; exact h) r, fun _ _ _ h => h⟩
theorem Stp.tag {A : List Addr} {t : Tag} (s : Stp io G H G1 H1) (hA : ∀ a ∈ A, G1 a = none ∧ H a = none) : Stp io G H (fun a => if a ∈ A then some t else G1 a) H1 := by
  have ne : ∀ a, H a ≠ none → (if a ∈ A then some t else G1 a) = G1 a := fun a h => if_neg fun ha => h (hA a ha).2
  refine ⟨fun a h => ?_, fun a h h' => (ne a h).trans (s.un a h h'), s.kp, s.dm, fun a i h e => s.ow a i h ((ne a h).symm.trans e), fun a h e => s.rt a h ((ne a h).symm.trans e), s.tp, s.fr⟩
  have na : a ∉ A := fun z => by
    have := s.fz a h
    rw [(hA a z).1] at this; cases this
  show (if a ∈ A then some t else G1 a) = some .fz
  rw [if_neg na]; exact s.fz a h
theorem js_retNew {k : Nat} (he : J X io W p (.n k) e f) : JS X io W k (.Return (some e) pos) (sRet f) := psI (ps_ret he.pe) fun D σ H q => by
  obtain ⟨G, ρ, re, q⟩ := q
  refine ⟨G, ρ, re, ?_⟩
  cases e : f ρ with
  | ok a =>
    obtain ⟨d, ρ1⟩ := a
    have q : GoodS X io W σ G H ((f ρ).bind fun x => .ok (.ret x.1, x.2)) _ := q
    rw [e] at q
    intro G1 H1 s1 re1 v r
    obtain ⟨A, t, nd, n⟩ := r
    exact q σ _ H1 Kio.refl (Stp.tag (A := A) (t := .res) (s1.stp re.gi) n) (re1.tag (A := A) (fun a ha => ⟨(n a ha).1, t.dom a ha⟩) .res) v
      ⟨A, t.tag (fun a ha => (n a ha).1) .res, nd, fun a ha => if_pos ha⟩
  | exc x =>
    have q : GoodS X io W σ G H ((f ρ).bind fun x => .ok (.ret x.1, x.2)) _ := q
    rw [e] at q; exact q σ Kio.refl
  | bad =>
    have q : GoodS X io W σ G H ((f ρ).bind fun x => .ok (.ret x.1, x.2)) _ := q
    rw [e] at q; exact q.elim
/-- an own slot handed back -/
def sRetO (i k : Nat) : S := fun ρ => match ρ[i]? with
  | some (some (m, d)) => if m = k then .ok (.ret d, ρ.set i none) else .bad
  | _ => .bad
theorem js_retO (i : Nat) (hio : io i = false) (hN : X.N[i]? = some x := by rfl) (hv : Vis X.env.scope x := by first | exact Or.inl rfl | exact Or.inr (Or.inl rfl) | exact Or.inr (Or.inr rfl)) (hd : (x == ("__debug__" : Str)) = false := by decide)
    (hcd : (x == ("__classdict__" : Str)) = false := by decide) : JS X io W rk (.Return (some (.Name x pos')) pos) (sRetO i rk) := psI (ps_ret (pe_var (i := i) hN hv hd hcd)) fun D σ H q => by
  obtain ⟨G, ρ, re, q⟩ := q
  unfold sRetO at q
  split at q
  · rename_i m d e
    split at q
    · rename_i hm
      subst hm
      obtain ⟨v, A, h1, h2, h3, h4⟩ := re.at_ i m d e
      refine ⟨v, h1, ?_⟩
      have fzs : ∀ a, G a = some .fz → (if a ∈ A then some Tag.res else G a) = some .fz := fun a h => by
        have na : a ∉ A := fun z => by rw [h4 a z] at h; cases h
        rw [if_neg na]; exact h
      refine q σ (fun a => if a ∈ A then some .res else G a) H Kio.refl ?_ ?_ v ⟨A, h2.kps ⟨fun r => Rep.tags fzs r, fun _ _ _ h => h⟩, h3, fun a ha => if_pos ha⟩
      · refine ⟨fzs, fun a h h' => ?_, fun _ _ h _ => h, fun _ h => h, fun a j h e => ?_, fun a h e => ?_, fun _ _ h => h, fun _ _ _ h => h⟩
        · have na : a ∉ A := fun z => by rw [h4 a z] at h'; cases h'
          show (if a ∈ A then some Tag.res else G a) = _
          rw [if_neg na]; exact h'
        · by_cases ha : a ∈ A
          · rw [if_pos ha] at e; cases e
          · rw [if_neg ha] at e; exact e
        · by_cases ha : a ∈ A
          · exact .inr ⟨i, hio, h4 a ha⟩
          · rw [if_neg ha] at e; exact .inl e
      · refine ⟨by rw [List.length_set]; exact re.len, fun a h => ?_, fun j n e q => ?_⟩
        · by_cases ha : a ∈ A
          · exact h2.dom a ha
          · rw [if_neg ha] at h; exact re.gi a h
        · by_cases hj : j = i
          · subst hj
            rw [List.getElem?_set] at q
            simp only [if_true] at q
            split at q
            · cases q
            · cases q
          · rw [List.getElem?_set_ne (Ne.symm hj)] at q
            obtain ⟨u, B, g1, g2, g3, g4⟩ := re.at_ j n e q
            refine ⟨u, B, g1, g2.kps ⟨fun r => Rep.tags fzs r, fun _ _ _ h => h⟩, g3, fun a ha => ?_⟩
            have na : a ∉ A := fun z => by
              have := (h4 a z).symm.trans (g4 a ha)
              cases this
              exact hj rfl
            show (if a ∈ A then some Tag.res else G a) = _
            rw [if_neg na]; exact g4 a ha
    · exact q.elim
  · exact q.elim
def sSet (i k : Nat) (f : M) : S := fun ρ => (f ρ).bind fun x => .ok (.nx, x.2.set i (some (k, x.1)))
theorem RE.set0 {i : Nat} {v : V} {d : D} (re : RE c G σ H ρ) (r : Rep c G H v d) : RE c G (σ.set i (some v)) H (ρ.set i (some (0, d))) := by
  refine ⟨by rw [List.length_set, List.length_set]; exact re.len, re.gi, fun j k e q => ?_⟩
  by_cases hj : j = i
  · subst hj
    rw [List.getElem?_set] at q
    simp only [if_true] at q
    split at q
    · rename_i hl
      cases q
      exact ⟨v, [], by rw [List.getElem?_set_self (by rw [← re.len]; exact hl)], .leaf r, List.nodup_nil, fun a h => by cases h⟩
    · cases q
  · rw [List.getElem?_set_ne (Ne.symm hj)] at q
    obtain ⟨u, B, g1, g2⟩ := re.at_ j k e q
    exact ⟨u, B, by rw [List.getElem?_set_ne (Ne.symm hj)]; exact g1, g2⟩
theorem RE.setN {i k : Nat} {v : V} {d : D} {A : List Addr} (re : RE c G σ H ρ) (t : Tr c G H k v d A) (nd : A.Nodup) (hA : ∀ a ∈ A, G a = none) : RE c (fun a => if a ∈ A then some (.own i) else G a) (σ.set i (some v)) H (ρ.set i (some (k, d))) := by
  have re2 := re.tag (A := A) (fun a ha => ⟨hA a ha, t.dom a ha⟩) (.own i)
  refine ⟨by rw [List.length_set, List.length_set]; exact re.len, re2.gi, fun j m e q => ?_⟩
  by_cases hj : j = i
  · subst hj
    rw [List.getElem?_set] at q
    simp only [if_true] at q
    split at q
    · rename_i hl
      cases q
      exact ⟨v, A, by rw [List.getElem?_set_self (by rw [← re.len]; exact hl)], t.tag hA _, nd, fun a h => if_pos h⟩
    · cases q
  · rw [List.getElem?_set_ne (Ne.symm hj)] at q
    obtain ⟨u, B, g1, g2⟩ := re2.at_ j m e q
    exact ⟨u, B, by rw [List.getElem?_set_ne (Ne.symm hj)]; exact g1, g2⟩
theorem js_set (i : Nat) (hio : io i = false) (he : J X io W p .f e f) (hN : X.N.Nodup) (hi : X.N[i]? = some x := by rfl) (hx : Loc X.env.scope x := by first | exact Or.inl rfl | exact Or.inr rfl) (hs : swapsWith e (some (.Name x pos')) pos.line X.env = pure false := by rfl)
    (hf : X.fn x = true ∨ X.env.scope.names.lookup x = some .local := by first | exact .inl rfl | exact .inr rfl) : JS X io W rk (.Assign [.Name x pos'] e pos) (sSet i 0 f) := psI (ps_set (i := i) hN hi hx he.pe hs hf) fun D σ H q => by
  obtain ⟨G, ρ, re, q⟩ := q
  refine ⟨G, ρ, re, (GoodS.expr re.gi q).mono fun d ρ1 G1 H1 s1 re1 q1 v r => ?_⟩
  exact q1 (σ.set i (some v)) G1 H1 (Kio.set hio) Stp.refl (re1.set0 r)
theorem js_setN (i : Nat) {k : Nat} (hio : io i = false) (he : J X io W p (.n k) e f) (hN : X.N.Nodup) (hi : X.N[i]? = some x := by rfl) (hx : Loc X.env.scope x := by first | exact Or.inl rfl | exact Or.inr rfl) (hs : swapsWith e (some (.Name x pos')) pos.line X.env = pure false := by rfl)
    (hf : X.fn x = true ∨ X.env.scope.names.lookup x = some .local := by first | exact .inl rfl | exact .inr rfl) : JS X io W rk (.Assign [.Name x pos'] e pos) (sSet i k f) := psI (ps_set (i := i) hN hi hx he.pe hs hf) fun D σ H q => by
  obtain ⟨G, ρ, re, q⟩ := q
  refine ⟨G, ρ, re, ?_⟩
  have q : GoodS X io W σ G H ((f ρ).bind fun x => .ok (.nx, x.2.set i (some (k, x.1)))) _ := q
  cases e : f ρ with
  | ok a =>
    obtain ⟨d, ρ1⟩ := a
    rw [e] at q
    intro G1 H1 s1 re1 v r
    obtain ⟨A, t, nd, n⟩ := r
    exact q (σ.set i (some v)) _ H1 (Kio.set hio) (Stp.tag (A := A) (t := .own i) (s1.stp re.gi) n) (re1.setN t nd fun a ha => (n a ha).1)
  | exc x => rw [e] at q; exact q σ Kio.refl
  | bad => rw [e] at q; exact q.elim
def sIf (t : MT) (s u : S) : S := fun ρ => (t ρ).bind fun x => if x.1 = true then s x.2 else u x.2
theorem js_if {t : MT} {xs ys : List Stmt} {s u : S} (ht : JT X io W p e t) (ha : JSs X io W rk xs s) (hb : JSs X io W rk ys u) : JS X io W rk (.If e xs ys pos) (sIf t s u) := psI (ps_if ht.pt ha hb) fun D σ H q => by
  obtain ⟨G, ρ, re, q⟩ := q
  refine ⟨G, ρ, re, (GoodS.expr re.gi q).mono fun d ρ1 G1 H1 s1 re1 q1 => ?_⟩
  cases d with
  | true => exact ⟨G1, ρ1, re1, q1⟩
  | false => exact ⟨G1, ρ1, re1, q1⟩
def sRaise (x : Str) : S := fun _ => .exc x
theorem js_raise {y : Str} {C : Addr} {ec : Expr} (hc : X.calm = true) (tk : L2N.Takes X W) (gC : X.mg y = some (.ref C)) (he : L2N.PMk X ec fun _ H Q => Q (.ref C) none H) : JS X io W rk (.Raise (some ec) none pos) (sRaise y) := psI (L2N.ps_raise hc tk he) fun D σ H q => by
  obtain ⟨G, ρ, re, q⟩ := q
  exact q σ Kio.refl C G H gC Stp.refl
end
end Nc
namespace Nc
open PySem PySem.Spec L2
open PyProof.Rows hiding St

/-- how a def is called: the depth to which each argument is lent (0: handed over, frozen), the depth to which its end is new, what it reckons -/
structure Fc where
  ms : List Nat
  rk : Nat
  F : List D → R (D × Rho)
def ins (ms : List Nat) (ds : List D) : Rho := (ms.zip ds).map some
def New0 (c : Cf) (rk : Nat) (H0 : Hp) (G : Gh) (H : Hp) (v : V) (d : D) : Prop := New c rk H0 G H v d
def EndF (c : Cf) (mg : Str → Option Value) (fc : Fc) (vs : List V) (G : Gh) (H : Hp) (Q : VK) (E : XK) (r : R (D × Rho)) : Prop := match r with
  | .ok (d, outs) => ∀ v G' H', Stp (fun _ => true) G H G' H' → RE c G' (vs.map some) H' outs → New c fc.rk H G' H' v d → Q v H'
  | .exc x => ∀ C H', mg x = some (.ref C) → (∃ G', Stp (fun _ => true) G H G' H') → E (.ref C) none H'
  | .bad => False
/-- which slots are lent -/
def ioOf (ms : List Nat) : Nat → Bool := fun i => match ms[i]? with
  | some (_ + 1) => true
  | _ => false
def spF (c : Cf) (mg : Str → Option Value) (fc : Fc) : Sp := fun vs H Q E => ∃ (G : Gh) (ds : List D), vs.length = fc.ms.length ∧ ds.length = fc.ms.length ∧ (∀ a, G a ≠ some .res) ∧ (∀ a i, G a = some (.own i) → ioOf fc.ms i = true) ∧
  RE c G (vs.map some) H (ins fc.ms ds) ∧ EndF c mg fc vs G H Q E (fc.F ds)
/-- what a caller gets back of what it lent -/
def outOf (ms : List Nat) (ρ : Rho) : Rho := (ms.zip ρ).map fun x => if x.1 = 0 then none else x.2
/-- a body, run -/
def runB (n : Nat) (ms : List Nat) (s : S) (ds : List D) : R (D × Rho) := (s (ins ms ds ++ List.replicate (n - ms.length) none)).bind fun x => match x.1 with
  | .nx => .ok (.none, outOf ms x.2)
  | .ret d => .ok (d, outOf ms x.2)
  | _ => .bad
section
variable {c : Cf} {G G1 G2 G' : Gh} {H H0 H1 H2 H' : Hp} {σ σ1 σ2 σ' : L2.St} {ρ ρ1 ρ2 ρ' : Rho}
theorem ins_length {ms : List Nat} {ds : List D} (h : ds.length = ms.length) : (ins ms ds).length = ms.length := by
  unfold ins
  rw [List.length_map, List.length_zip, h, Nat.min_self]
theorem RE.more {vs : List V} {N : List Str} {ρ : Rho} (re : RE c G (vs.map some) H ρ) (hl : ρ.length = vs.length) : RE c G (L2.start N vs) H (ρ ++ List.replicate (N.length - vs.length) none) := by
  unfold L2.start
  refine ⟨by rw [List.length_append, List.length_append, List.length_replicate, List.length_replicate, List.length_map, hl], re.gi, fun i k d e => ?_⟩
  by_cases hi : i < ρ.length
  · rw [List.getElem?_append_left hi] at e
    obtain ⟨v, A, h1, h2⟩ := re.at_ i k d e
    exact ⟨v, A, by rw [List.getElem?_append_left (by rw [List.length_map, ← hl]; exact hi)]; exact h1, h2⟩
  · rw [List.getElem?_append_right (by omega), List.getElem?_replicate] at e
    split at e <;> cases e
theorem outOf_get {ms : List Nat} {ρ : Rho} {i k : Nat} {d : D} (h : (outOf ms ρ)[i]? = some (some (k, d))) : ρ[i]? = some (some (k, d)) ∧ ∃ m, ms[i]? = some m ∧ m ≠ 0 := by
  unfold outOf at h
  rw [List.getElem?_map] at h
  cases q : (ms.zip ρ)[i]? with
  | none => rw [q] at h; cases h
  | some z =>
    obtain ⟨m, sl⟩ := z
    rw [q] at h
    have h : some (if m = 0 then none else sl) = some (some (k, d)) := h
    obtain ⟨h1, h2⟩ := List.getElem?_zip_eq_some.mp q
    split at h
    · cases h
    · rename_i hm
      have h' : sl = some (k, d) := Option.some.inj h
      exact ⟨by rw [h2, h'], m, h1, hm⟩
/-- the tag of what is handed back is taken off -/
def unres (G : Gh) : Gh := fun a => if G a = some .res then none else G a
theorem unres_fz {a : Addr} (h : G a = some .fz) : unres G a = some .fz := by
  unfold unres; rw [if_neg (by rw [h]; intro e; cases e)]; exact h
theorem unres_own {a : Addr} {i : Nat} (h : G a = some (.own i)) : unres G a = some (.own i) := by
  unfold unres; rw [if_neg (by rw [h]; intro e; cases e)]; exact h
theorem RE.unres (re : RE c G σ H ρ) : RE c (unres G) σ H ρ := by
  refine ⟨re.len, fun a h => ?_, fun i k d e => ?_⟩
  · refine re.gi a fun z => h ?_
    unfold Nc.unres
    rw [z]; rfl
  · obtain ⟨v, A, h1, h2, h3, h4⟩ := re.at_ i k d e
    exact ⟨v, A, h1, h2.kps ⟨fun r => Rep.tags (fun a h => unres_fz h) r, fun _ _ _ h => h⟩, h3, fun a ha => unres_own (h4 a ha)⟩
variable {P : Program} {w : World} {K : PySem.W.Frag} {mg : Str → Option Value} {base : Heap} {x qual : Str} {params : Arguments} {body : List Stmt} {scope : Scope} {dvs : List V} {kws : List (Str × V)} {f : Addr} {fd : FuncData}
/-- how the body's end becomes the call's -/
theorem end_of {fc : Fc} {vs : List V} {Q : VK} {E : XK} {X : Cx} {N : List Str} (hX : cfX X = c) (hm : X.mg = mg) (hvl : vs.length = fc.ms.length) (nr : ∀ a, G a ≠ some .res) (hN : fc.ms.length ≤ N.length) (hst : ∀ i, ioOf fc.ms i = true → ∃ m, fc.ms[i]? = some m ∧ m ≠ 0)
    (own : ∀ a i, G a = some (.own i) → H a ≠ none → ioOf fc.ms i = true) {r : R (Fl × Rho)}
    (h : EndF c mg fc vs G H Q E (r.bind fun x => match x.1 with
      | .nx => .ok (.none, outOf fc.ms x.2)
      | .ret d => .ok (d, outOf fc.ms x.2)
      | _ => .bad)) :
    GoodS X (ioOf fc.ms) (fun cls d _ H => E cls d H) (L2.start N vs) G H r fun fl _ σ' G' H' => EndsAs (cfX X) fc.rk { nx := fun _ H' => Q .non H', rt := Q } fl σ' G' H' := by
  have strip : ∀ {G' H'}, Stp (ioOf fc.ms) G H G' H' → Stp (fun _ => true) G H (unres G') H' := fun {G' H'} s => by
    refine ⟨fun a h => unres_fz (s.fz a h), fun a h h' => ?_, s.kp, s.dm, fun a i h e => ?_, fun a h e => ?_, s.tp, s.fr⟩
    · unfold unres
      rw [s.un a h h']; rfl
    · unfold unres at e
      split at e
      · cases e
      · exact s.ow a i h e
    · unfold unres at e
      split at e
      · cases e
      · rename_i n
        exact absurd e n
  cases r with
  | bad => exact h
  | exc x =>
    intro σ' _ C G' H' hC s
    rw [hm] at hC
    exact h C H' hC ⟨_, strip s⟩
  | ok a =>
    obtain ⟨fl, ρ'⟩ := a
    intro σ' G' H' kio s re
    rw [hX] at re
    have ro : RE c (unres G') (vs.map some) H' (outOf fc.ms ρ') → True := fun _ => trivial
    have lenR : (outOf fc.ms ρ').length = (vs.map some).length := by
      unfold outOf
      have h1 : ρ'.length = σ'.length := re.len
      have h2 := kio.len
      have h3 : (L2.start N vs).length = N.length := by
        unfold L2.start
        rw [List.length_append, List.length_map, List.length_replicate]; omega
      rw [List.length_map, List.length_zip, List.length_map, hvl]
      omega
    have reO : RE c (unres G') (vs.map some) H' (outOf fc.ms ρ') := by
      have ru := re.unres
      refine ⟨lenR, ru.gi, fun i k d e => ?_⟩
      obtain ⟨e1, m, e2, e3⟩ := outOf_get e
      obtain ⟨v, A, g1, g2⟩ := ru.at_ i k d e1
      have hi : ioOf fc.ms i = true := by
        unfold ioOf
        rw [e2]
        cases m with
        | zero => exact absurd rfl e3
        | succ m => rfl
      rw [kio.at_ i hi] at g1
      unfold L2.start at g1
      have hlt : i < vs.length := by rw [hvl]; exact (List.getElem?_eq_some_iff.mp e2).1
      rw [List.getElem?_append_left (by rw [List.length_map]; exact hlt)] at g1
      exact ⟨v, A, g1, g2⟩
    cases fl with
    | bk => exact h.elim
    | ct => exact h.elim
    | nx => exact h .non (unres G') H' (strip s) reO (by
        cases fc.rk with
        | zero => exact ⟨[], .leaf .non, List.nodup_nil, fun a h => by cases h⟩
        | succ k => exact ⟨[], .atom .non rfl, List.nodup_nil, fun a h => by cases h⟩)
    | ret d =>
      intro v r
      obtain ⟨A, t, nd, n⟩ := r
      rw [hX] at t
      refine h v (unres G') H' (strip s) reO ⟨A, t.kps ⟨fun r => Rep.tags (fun a h => unres_fz h) r, fun _ _ _ h => h⟩, nd, fun a ha => ⟨?_, ?_⟩⟩
      · unfold unres
        rw [n a ha]; rfl
      · cases e : H a with
        | none => rfl
        | some o =>
          have hd : H a ≠ none := by rw [e]; simp
          rcases s.rt a hd (n a ha) with q | ⟨i, hi, q⟩
          · exact absurd q (nr a)
          · have := own a i q hd
            rw [hi] at this; cases this
theorem fc_ok {fc : Fc} {k : Nat} {N ps : List Str} {s : S} (F : FunD K x qual params body scope dvs kws f fd) (Sc : FnScope N ps scope) (hp : ps.length = fc.ms.length) (hF : ∀ ds, fc.F ds = runB N.length fc.ms s ds)
    (hb : ∀ (cdv : Value) (A : Around) (outer : List Env) (s0 : Shared) (H0 : Hp) (E : XK), Room k (A.deeper (envOfC qual scope s0.heap.objs.size f cdv)) →
      JSs (cxOf (L2N.CX P w) P w K mg base N qual scope f cdv A outer s0 H0 E) (ioOf fc.ms) (fun cls d _ H => E cls d H) fc.rk body s) : FnOk P w K mg base (L2N.CX P w) (k + 1) f fd ps (spF ⟨P, w, K⟩ mg fc) := by
  have hpN : fc.ms.length ≤ N.length := by
    have := congrArg List.length Sc.pre
    rw [List.length_take] at this
    omega
  refine F.ok Sc (fun vs H Q E h => ?_) (fun cdv A outer s0 H vs Q E hr h => ⟨_, hb cdv A outer s0 H E hr, ?_⟩)
  · obtain ⟨G, ds, h1, _⟩ := h
    rw [h1, hp]
  · obtain ⟨G, ds, h1, h2, nr, ow, re, h3⟩ := h
    have re3 := re.more (N := N) (by rw [ins_length h2, h1])
    refine ⟨_, _, re3, ?_⟩
    rw [hF] at h3
    unfold runB at h3
    rw [← h1] at h3
    exact end_of (c := ⟨P, w, K⟩) (mg := mg) rfl rfl h1 nr hpN (fun i hi => by
      unfold ioOf at hi
      split at hi
      · rename_i m q
        exact ⟨_, q, Nat.succ_ne_zero m⟩
      · cases hi) (fun a i e _ => ow a i e) h3
end
end Nc
namespace Nc
open PySem PySem.Spec L2
open PyProof.Rows hiding St

/-- an argument: handed over (none), or the slot that is lent -/
abbrev Lk := List (Option Nat)
inductive ArgsR (c : Cf) (σ : L2.St) (G : Gh) (H : Hp) : Lk → List V → List D → Prop
  | nil : ArgsR c σ G H [] [] []
  | fz {v : V} {d : D} {ks : Lk} {vs : List V} {ds : List D} : Rep c G H v d → ArgsR c σ G H ks vs ds → ArgsR c σ G H (none :: ks) (v :: vs) (d :: ds)
  | io {v : V} {i : Nat} {ks : Lk} {vs : List V} {ds : List D} : σ[i]? = some (some v) → ArgsR c σ G H ks vs ds → ArgsR c σ G H (some i :: ks) (v :: vs) (.none :: ds)
def lend : List Nat → Lk → List D → Rho → Option (List D)
  | [], [], [], _ => some []
  | m :: ms, none :: ks, d :: ds, ρ => if m = 0 then (lend ms ks ds ρ).map (d :: ·) else none
  | m :: ms, some i :: ks, _ :: ds, ρ => match ρ[i]? with
    | some (some (k, d')) => if k = m ∧ m ≠ 0 then (lend ms ks ds ρ).map (d' :: ·) else none
    | _ => none
  | _, _, _, _ => none
def back : Lk → Rho → Rho → Rho
  | none :: ks, _ :: outs, ρ => back ks outs ρ
  | some i :: ks, o :: outs, ρ => back ks outs (ρ.set i o)
  | _, _, ρ => ρ
def mCall (fc : Fc) (ks : Lk) (fa : MA) : M := fun ρ => (fa ρ).bind fun x => match lend fc.ms ks x.1 x.2 with
  | some ds => (fc.F ds).bind fun y => .ok (y.1, back ks y.2 x.2)
  | none => .bad
section
variable {c : Cf} {G G0 G1 G2 G' : Gh} {H H0 H1 H2 H' : Hp} {σ σ1 σ2 σ' : L2.St} {ρ ρ1 ρ2 ρ' : Rho} {ks : Lk} {vs : List V} {xs ds : List D} {ms : List Nat}
theorem ArgsR.len (h : ArgsR c σ G H ks vs xs) : vs.length = ks.length ∧ xs.length = ks.length := by
  induction h with
  | nil => exact ⟨rfl, rfl⟩
  | fz _ _ ih => exact ⟨congrArg Nat.succ ih.1, congrArg Nat.succ ih.2⟩
  | io _ _ ih => exact ⟨congrArg Nat.succ ih.1, congrArg Nat.succ ih.2⟩
theorem ArgsR.getF (h : ArgsR c σ G H ks vs xs) : ∀ (j : Nat) (d : D), ks[j]? = some none → xs[j]? = some d → ∃ v, vs[j]? = some v ∧ Rep c G H v d := by
  induction h with
  | nil => intro j d e; simp at e
  | fz r _ ih =>
    intro j d e1 e2
    cases j with
    | zero => cases e2; exact ⟨_, rfl, r⟩
    | succ j => exact ih j d (by simpa using e1) (by simpa using e2)
  | io r _ ih =>
    intro j d e1 e2
    cases j with
    | zero => cases e1
    | succ j => exact ih j d (by simpa using e1) (by simpa using e2)
theorem ArgsR.getI (h : ArgsR c σ G H ks vs xs) : ∀ (j i : Nat), ks[j]? = some (some i) → ∃ v, vs[j]? = some v ∧ σ[i]? = some (some v) := by
  induction h with
  | nil => intro j i e; simp at e
  | fz r _ ih =>
    intro j d e1
    cases j with
    | zero => cases e1
    | succ j => exact ih j d (by simpa using e1)
  | io r _ ih =>
    intro j d e1
    cases j with
    | zero => cases e1; exact ⟨_, rfl, r⟩
    | succ j => exact ih j d (by simpa using e1)
theorem ArgsR.stp {io : Nat → Bool} (s : Stp io G H G' H') (h : ArgsR c σ G H ks vs xs) : ArgsR c σ G' H' ks vs xs := by
  induction h with
  | nil => exact .nil
  | fz r _ ih => exact .fz (r.stp s) ih
  | io e _ ih => exact .io e ih
theorem lend_get : ∀ {ms : List Nat} {ks : Lk} {xs ds : List D}, lend ms ks xs ρ = some ds → ks.length = ms.length ∧ ds.length = ms.length ∧ ∀ (j m : Nat) (d : D), ms[j]? = some m → ds[j]? = some d →
    (ks[j]? = some none ∧ m = 0 ∧ xs[j]? = some d) ∨ ∃ i, ks[j]? = some (some i) ∧ ρ[i]? = some (some (m, d)) ∧ m ≠ 0
  | [], [], [], ds, h => by
    cases h
    exact ⟨rfl, rfl, fun j m d e => by simp at e⟩
  | m0 :: ms, none :: ks, x :: xs, ds, h => by
    unfold lend at h
    split at h
    · rename_i h0
      obtain ⟨ds', e1, e2⟩ := Option.map_eq_some_iff.mp h
      subst e2
      obtain ⟨l1, l2, g⟩ := lend_get e1
      refine ⟨congrArg Nat.succ l1, congrArg Nat.succ l2, fun j m d a b => ?_⟩
      cases j with
      | zero => cases a; cases b; exact .inl ⟨rfl, h0, rfl⟩
      | succ j => exact g j m d (by simpa using a) (by simpa using b)
    · cases h
  | m0 :: ms, some i :: ks, x :: xs, ds, h => by
    unfold lend at h
    split at h
    · rename_i k d' q
      split at h
      · rename_i h0
        obtain ⟨h1, h2⟩ := h0
        subst h1
        obtain ⟨ds', e1, e2⟩ := Option.map_eq_some_iff.mp h
        subst e2
        obtain ⟨l1, l2, g⟩ := lend_get e1
        refine ⟨congrArg Nat.succ l1, congrArg Nat.succ l2, fun j m d a b => ?_⟩
        cases j with
        | zero => cases a; cases b; exact .inr ⟨i, rfl, q, h2⟩
        | succ j => exact g j m d (by simpa using a) (by simpa using b)
      · cases h
    · cases h
  | [], [], _ :: _, _, h => by simp [lend] at h
  | [], _ :: _, _, _, h => by simp [lend] at h
  | _ :: _, [], _, _, h => by simp [lend] at h
  | _ :: _, none :: _, [], _, h => by simp [lend] at h
  | _ :: _, some _ :: _, [], _, h => by simp [lend] at h
theorem back_len : ∀ {ks : Lk} {outs ρ : Rho}, (back ks outs ρ).length = ρ.length
  | [], _, _ => by simp [back]
  | none :: ks, [], _ => by simp [back]
  | some _ :: ks, [], _ => by simp [back]
  | none :: ks, _ :: outs, ρ => by unfold back; exact back_len
  | some i :: ks, o :: outs, ρ => by unfold back; rw [back_len, List.length_set]
theorem back_get : ∀ {ks : Lk} {outs ρ : Rho}, outs.length = ks.length → ∀ (i : Nat) (s : Nat × D), (back ks outs ρ)[i]? = some (some s) → (∃ j : Nat, ks[j]? = some (some i) ∧ outs[j]? = some (some s)) ∨ (some i ∉ ks ∧ ρ[i]? = some (some s))
  | [], _, _, _, i, s, h => by
    unfold back at h
    exact .inr ⟨by simp, h⟩
  | none :: ks, [], _, hl, _, _, _ => by simp at hl
  | some _ :: ks, [], _, hl, _, _, _ => by simp at hl
  | none :: ks, o :: outs, ρ, hl, i, s, h => by
    unfold back at h
    rcases back_get (by simpa using hl) i s h with ⟨j, a, b⟩ | ⟨a, b⟩
    · exact .inl ⟨j + 1, by simpa using a, by simpa using b⟩
    · exact .inr ⟨by simpa using a, b⟩
  | some i0 :: ks, o :: outs, ρ, hl, i, s, h => by
    unfold back at h
    rcases back_get (by simpa using hl) i s h with ⟨j, a, b⟩ | ⟨a, b⟩
    · exact .inl ⟨j + 1, by simpa using a, by simpa using b⟩
    · by_cases e : i0 = i
      · subst e
        rw [List.getElem?_set] at b
        simp only [if_true] at b
        split at b
        · exact .inl ⟨0, rfl, by simpa using b⟩
        · cases b
      · rw [List.getElem?_set_ne e] at b
        exact .inr ⟨by simp only [List.mem_cons, not_or]; exact ⟨fun z => e (Option.some.inj z).symm, a⟩, b⟩
/-- the callee's view of who owns what -/
def Gin (ks : Lk) (G : Gh) : Gh := fun a => match G a with
  | some .fz => some .fz
  | some (.own i) => (ks.findIdx? fun k => k == some i).map .own
  | _ => none
/-- .. and the caller's behind the call -/
def Gout (ks : Lk) (G G' : Gh) : Gh := fun a => match G' a with
  | some .fz => some .fz
  | some (.own j) => (match ks[j]? with
    | some (some i) => some (.own i)
    | _ => none)
  | _ => (match G a with
    | some (.own i) => if some i ∈ ks then none else some (.own i)
    | some .res => some .res
    | _ => none)
def Nod (ks : Lk) : Prop := ∀ (i j k : Nat), ks[j]? = some (some i) → ks[k]? = some (some i) → j = k
theorem find_at (nd : Nod ks) {i j : Nat} (h : ks[j]? = some (some i)) : ks.findIdx? (fun k => k == some i) = some j := by
  cases q : ks.findIdx? (fun k => k == some i) with
  | none =>
    rw [List.findIdx?_eq_none_iff] at q
    have := q (some i) (List.mem_of_getElem? h)
    simp at this
  | some m =>
    have hm := List.findIdx?_eq_some_iff_getElem.mp q
    obtain ⟨hl, h1, _⟩ := hm
    have : ks[m]? = some (some i) := by
      rw [List.getElem?_eq_getElem hl]
      exact congrArg some (by simpa using h1)
    rw [nd i j m h this]
theorem find_back {i j : Nat} (h : ks.findIdx? (fun k => k == some i) = some j) : ks[j]? = some (some i) := by
  obtain ⟨hl, h1, _⟩ := List.findIdx?_eq_some_iff_getElem.mp h
  rw [List.getElem?_eq_getElem hl]
  exact congrArg some (by simpa using h1)
theorem find_no {i : Nat} (h : some i ∉ ks) : ks.findIdx? (fun k => k == some i) = none := by
  rw [List.findIdx?_eq_none_iff]
  intro x hx
  refine beq_eq_false_iff_ne.mpr fun e => h (e ▸ hx)
theorem Gin_fz {a : Addr} (h : G a = some .fz) : Gin ks G a = some .fz := by unfold Gin; rw [h]
theorem Gin_none {a : Addr} (h : G a = none) : Gin ks G a = none := by unfold Gin; rw [h]
theorem Gin_own {a : Addr} {i : Nat} (h : G a = some (.own i)) : Gin ks G a = (ks.findIdx? fun k => k == some i).map .own := by unfold Gin; rw [h]
theorem Gin_of {a : Addr} {j : Nat} (h : Gin ks G a = some (.own j)) : ∃ i, G a = some (.own i) ∧ ks[j]? = some (some i) := by
  unfold Gin at h
  split at h
  · cases h
  · rename_i i q
    obtain ⟨m, e1, e2⟩ := Option.map_eq_some_iff.mp h
    cases e2
    exact ⟨i, q, find_back e1⟩
  · cases h
theorem Gout_fz {a : Addr} (h : G' a = some .fz) : Gout ks G G' a = some .fz := by unfold Gout; rw [h]
theorem Gout_own {a : Addr} {i j : Nat} (h : G' a = some (.own j)) (k : ks[j]? = some (some i)) : Gout ks G G' a = some (.own i) := by unfold Gout; rw [h]; dsimp only; rw [k]
theorem Gout_keep {a : Addr} {i : Nat} (h : G' a = none) (k : G a = some (.own i)) (n : some i ∉ ks) : Gout ks G G' a = some (.own i) := by
  unfold Gout; rw [h]; dsimp only; rw [k]; dsimp only; rw [if_neg n]
theorem Gout_none {a : Addr} (h : G' a = none) (k : G a = none) : Gout ks G G' a = none := by unfold Gout; rw [h]; dsimp only; rw [k]
theorem Gout_of_own {a : Addr} {i : Nat} (h : Gout ks G G' a = some (.own i)) : (∃ j, G' a = some (.own j) ∧ ks[j]? = some (some i)) ∨ G a = some (.own i) := by
  unfold Gout at h
  split at h
  · cases h
  · rename_i j q
    split at h
    · rename_i i' q2
      cases h
      exact .inl ⟨j, q, q2⟩
    · cases h
  · split at h
    · rename_i i' q
      split at h
      · cases h
      · cases h; exact .inr q
    · cases h
    · cases h
theorem Gout_of_res {a : Addr} (h : Gout ks G G' a = some .res) : G a = some .res := by
  unfold Gout at h
  split at h
  · cases h
  · split at h <;> cases h
  · split at h
    · split at h <;> cases h
    · rename_i q; exact q
    · cases h
theorem Gout_some {a : Addr} (h : Gout ks G G' a ≠ none) : G' a ≠ none ∨ G a ≠ none := by
  cases q : G' a with
  | some t => exact .inl (by simp)
  | none =>
    refine .inr fun e => h (Gout_none q e)
theorem stp_back {io : Nat → Bool} (g : GI G H) (s : Stp (fun _ => true) (Gin ks G) H G' H') : Stp io G H (Gout ks G G') H' where
  fz := fun a h => Gout_fz (s.fz a (Gin_fz h))
  un := fun a h h' => Gout_none (s.un a h (Gin_none h')) h'
  kp := fun a o h n => s.kp a o h fun i e => by
    obtain ⟨j, e1, _⟩ := Gin_of e
    exact n j e1
  dm := s.dm
  ow := fun a i h e => by
    rcases Gout_of_own e with ⟨j, e1, e2⟩ | e1
    · obtain ⟨i', e3, e4⟩ := Gin_of (s.ow a j h e1)
      rw [e2] at e4
      cases e4
      exact e3
    · exact e1
  rt := fun a h e => .inl (Gout_of_res e)
  tp := s.tp
  fr := s.fr
theorem insG {ms : List Nat} {ds : List D} {i k : Nat} {d : D} (h : (ins ms ds)[i]? = some (some (k, d))) : ms[i]? = some k := by
  unfold ins at h
  rw [List.getElem?_map] at h
  cases q : (ms.zip ds)[i]? with
  | none => rw [q] at h; cases h
  | some z =>
    rw [q] at h
    have h' : z = (k, d) := Option.some.inj (Option.some.inj h)
    rw [h'] at q
    exact (List.getElem?_zip_eq_some.mp q).1
theorem re_in (nd : Nod ks) (re : RE c G σ H ρ) (ar : ArgsR c σ G H ks vs xs) (hl : lend ms ks xs ρ = some ds) : RE c (Gin ks G) (vs.map some) H (ins ms ds) := by
  obtain ⟨l1, l2, g⟩ := lend_get hl
  refine ⟨by rw [ins_length l2, List.length_map, ar.len.1, l1], fun a h => re.gi a fun z => h (Gin_none z), fun j m d e => ?_⟩
  have em := insG e
  have ed : ds[j]? = some d := by
    unfold ins at e
    rw [List.getElem?_map] at e
    cases q : (ms.zip ds)[j]? with
    | none => rw [q] at e; cases e
    | some z =>
      rw [q] at e
      have h' : z = (m, d) := Option.some.inj (Option.some.inj e)
      rw [h'] at q
      exact (List.getElem?_zip_eq_some.mp q).2
  rcases g j m d em ed with ⟨k1, m0, x1⟩ | ⟨i, k1, r1, m0⟩
  · subst m0
    obtain ⟨v, hv, r⟩ := ar.getF j d k1 x1
    exact ⟨v, [], by rw [List.getElem?_map, hv]; rfl, .leaf (Rep.tags (fun a h => Gin_fz h) r), List.nodup_nil, fun a h => by cases h⟩
  · obtain ⟨v, hv, hs⟩ := ar.getI j i k1
    obtain ⟨u, A, h1, h2, h3, h4⟩ := re.at_ i m d r1
    rw [hs] at h1
    cases h1
    refine ⟨v, A, by rw [List.getElem?_map, hv]; rfl, h2.kps ⟨fun r => Rep.tags (fun a h => Gin_fz h) r, fun _ _ _ h => h⟩, h3, fun a ha => ?_⟩
    rw [Gin_own (h4 a ha), find_at nd k1]
    rfl
theorem re_back {outs : Rho} (re : RE c G σ H ρ) (ar : ArgsR c σ G H ks vs xs) (s : Stp (fun _ => true) (Gin ks G) H G' H') (ro : RE c G' (vs.map some) H' outs) : RE c (Gout ks G G') σ H' (back ks outs ρ) := by
  refine ⟨by rw [back_len]; exact re.len, fun a h => ?_, fun i k d e => ?_⟩
  · rcases Gout_some h with q | q
    · exact ro.gi a q
    · exact s.dm a (re.gi a q)
  · have hl : outs.length = ks.length := by
      have := ro.len
      rw [List.length_map, ar.len.1] at this
      exact this
    rcases back_get hl i (k, d) e with ⟨j, e1, e2⟩ | ⟨e1, e2⟩
    · obtain ⟨v, A, h1, h2, h3, h4⟩ := ro.at_ j k d e2
      obtain ⟨u, hu, hs⟩ := ar.getI j i e1
      rw [List.getElem?_map, hu] at h1
      have e3 : u = v := Option.some.inj (Option.some.inj h1)
      subst e3
      exact ⟨u, A, hs, h2.kps ⟨fun r => Rep.tags (fun a h => Gout_fz h) r, fun _ _ _ h => h⟩, h3, fun a ha => Gout_own (h4 a ha) e1⟩
    · obtain ⟨v, A, h1, h2, h3, h4⟩ := re.at_ i k d e2
      have gn : ∀ a ∈ A, Gin ks G a = none := fun a ha => by
        rw [Gin_own (h4 a ha), find_no e1]; rfl
      refine ⟨v, A, h1, h2.kps ⟨fun r => ?_, fun a ha o h => s.kp a o h fun i e => by rw [gn a ha] at e; cases e⟩, h3, fun a ha => ?_⟩
      · exact Rep.tags (fun a h => Gout_fz h) (Rep.stp s (Rep.tags (fun a h => Gin_fz h) r))
      · exact Gout_keep (s.un a (h2.dom a ha) (gn a ha)) (h4 a ha) e1
end
section
variable {X : Cx} {io : Nat → Bool} {W : WX} {p p1 p2 : Bool} {G G1 G2 G' : Gh} {H H0 H1 H2 H' : Hp} {σ : L2.St} {ρ : Rho} {ks : Lk}
def tJK (X : Cx) (io : Nat → Bool) (W : WX) (p : Bool) (ks : Lk) (f : MA) : TA := fun σ H Q => ∃ G ρ, RE (cfX X) G σ H ρ ∧
  Good X io W p σ G H (f ρ) fun ds _ G' H' => ∀ vs, ArgsR (cfX X) σ G' H' ks vs ds → Q vs H'
structure JK (X : Cx) (io : Nat → Bool) (W : WX) (p : Bool) (es : List Expr) (ks : Lk) (f : MA) : Prop where
  pa : PA X es (tJK X io W p ks f)
  pu : p = true → ∀ ρ d ρ', f ρ = .ok (d, ρ') → ρ' = ρ
def aIo (g : MA) : MA := fun ρ => (g ρ).bind fun y => .ok (.none :: y.1, y.2)
def aLend (i : Nat) (g : MA) : MA := fun ρ => match ρ[i]? with
  | some (some _) => aIo g ρ
  | _ => .bad
theorem jk_nil : JK X io W true [] [] aNil := by
  refine ⟨paI pa_nil fun σ H Q q => ?_, fun _ ρ d ρ' e => by cases e; rfl⟩
  obtain ⟨G, ρ, re, q⟩ := q
  exact q G H StepOf.refl re [] .nil
theorem jk_fz {e : Expr} {es : List Expr} {f : M} {g : MA} (ha : J X io W p1 .f e f) (hr : JK X io W p2 es ks g) (hs : starEach (e :: es) X.env = (false, eval e X.env) :: starEach es X.env := by rfl) : JK X io W (p1 && p2) (e :: es) (none :: ks) (aCons f g) := by
  refine ⟨paI (pa_cons ha.pe hr.pa hs) fun σ H Q q => ?_, fun e => ?_⟩
  · obtain ⟨G, ρ, re, q⟩ := q
    refine ⟨G, ρ, re, (Good.bind (p1 := p1) (p2 := p2) re.gi q).mono fun d ρ1 G1 H1 s1 re1 q1 v1 r1 => ⟨G1, ρ1, re1, (good_bindT re1.gi q1).mono fun es ρ2 G2 H2 s2 re2 q2 vs r2 => ?_⟩⟩
    exact q2 G2 H2 StepOf.refl re2 (v1 :: vs) (.fz (Rep.stp (s2.stp re1.gi) r1) r2)
  · obtain ⟨e1, e2⟩ := and_t e
    exact pu_bind (ha.pu e1) fun b ρ1 z ρ2 e => pu_bind (f := g) (hr.pu e2) (fun _ _ _ _ e => by cases e; rfl) ρ1 z ρ2 e
theorem jk_io (i : Nat) {x : Str} {pos : Pos} {es : List Expr} {g : MA} (hr : JK X io W p es ks g) (hN : X.N[i]? = some x := by rfl) (hv : Vis X.env.scope x := by first | exact Or.inl rfl | exact Or.inr (Or.inl rfl) | exact Or.inr (Or.inr rfl)) (hd : (x == ("__debug__" : Str)) = false := by decide)
    (hcd : (x == ("__classdict__" : Str)) = false := by decide) (hs : starEach (.Name x pos :: es) X.env = (false, eval (.Name x pos) X.env) :: starEach es X.env := by rfl) :
    JK X io W p (.Name x pos :: es) (some i :: ks) (aLend i g) := by
  refine ⟨paI (pa_cons (pe_var (i := i) hN hv hd hcd) hr.pa hs) fun σ H Q q => ?_, fun e ρ d ρ' q => ?_⟩
  · obtain ⟨G, ρ, re, q⟩ := q
    unfold aLend at q
    split at q
    · rename_i s e
      obtain ⟨k, d⟩ := s
      obtain ⟨v, A, h1, _⟩ := re.at_ i k d e
      refine ⟨v, h1, G, ρ, re, (good_bindT re.gi q).mono fun es ρ2 G2 H2 s2 re2 q2 vs r2 => ?_⟩
      exact q2 G2 H2 StepOf.refl re2 (v :: vs) (.io h1 r2)
    · exact q.elim
  · unfold aLend at q
    split at q
    · exact pu_bind (f := g) (hr.pu e) (fun _ _ _ _ e => by cases e; rfl) ρ d ρ' q
    · cases q
/-- the call's reading, behind the arguments -/
theorem call_of {fc : Fc} (nd : Nod ks) {fa : MA} {Q : VK} (q : tJ X io W false (.n fc.rk) (mCall fc ks fa) σ H Q) :
    tCallS (spF (cfX X) X.mg fc) (WE W) (tJK X io W p ks fa) σ H Q := by
  obtain ⟨G, ρ, re, q⟩ := q
  have q : Good X io W false σ G H ((fa ρ).bind fun x => match lend fc.ms ks x.1 x.2 with
    | some ds => (fc.F ds).bind fun y => .ok (y.1, back ks y.2 x.2)
    | none => .bad) _ := q
  refine ⟨G, ρ, re, (Good.bind (p1 := p) (p2 := false) re.gi (by rw [Bool.and_false]; exact q)).mono fun xs ρ1 G1 H1 s1 re1 q1 vs ar => ?_⟩
  dsimp only at q1
  cases hl : lend fc.ms ks xs ρ1 with
  | none => rw [hl] at q1; exact q1.elim
  | some ds =>
    rw [hl] at q1
    dsimp only at q1
    obtain ⟨l1, l2, _⟩ := lend_get hl
    refine ⟨Gin ks G1, ds, by rw [ar.len.1, l1], l2, fun a e => ?_, fun a i e => ?_, re_in nd re1 ar hl, ?_⟩
    · unfold Gin at e
      split at e
      · cases e
      · obtain ⟨_, _, z⟩ := Option.map_eq_some_iff.mp e
        cases z
      · cases e
    · obtain ⟨i', e1, e2⟩ := Gin_of e
      have hlt : i < fc.ms.length := by rw [← l1]; exact (List.getElem?_eq_some_iff.mp e2).1
      obtain ⟨_, _, g⟩ := lend_get hl
      have hm : fc.ms[i]? = some fc.ms[i] := List.getElem?_eq_getElem hlt
      have hd : ds[i]? = some (ds[i]'(by rw [l2]; exact hlt)) := List.getElem?_eq_getElem _
      rcases g i _ _ hm hd with ⟨z, _⟩ | ⟨i2, _, _, n⟩
      · rw [e2] at z; cases z
      · unfold ioOf
        rw [hm]
        cases hh : fc.ms[i] with
        | zero => exact absurd hh n
        | succ m => rfl
    · cases hF : fc.F ds with
      | bad => rw [hF] at q1; exact q1
      | exc x =>
        rw [hF] at q1
        exact fun C H' hC ⟨G', s⟩ => q1 C _ H' hC (stp_back re1.gi s)
      | ok a =>
        obtain ⟨d, outs⟩ := a
        rw [hF] at q1
        intro v G' H' s ro n
        refine q1 _ H' (stp_back re1.gi s) (re_back re1 ar s ro) v ?_
        obtain ⟨A, t, nd, n⟩ := n
        refine ⟨A, t.kps ⟨fun r => Rep.tags (fun a h => Gout_fz h) r, fun _ _ _ h => h⟩, nd, fun a ha => ⟨?_, ?_⟩⟩
        · refine Gout_none (n a ha).1 ?_
          cases e : G1 a with
          | none => rfl
          | some t => exact absurd (n a ha).2 (re1.gi a (by rw [e]; simp))
        · cases e : H a with
          | none => rfl
          | some o => exact absurd (n a ha).2 ((s1.stp re.gi).dm a (by rw [e]; simp))
variable {k : Nat} {f : Addr} {fd : FuncData} {ps : List Str} {x : Str} {pn pos : Pos} {e : Expr} {es : List Expr} {fc : Fc} {fa : MA}
theorem j_call (F : FnOk X.prog X.w X.K X.mg X.base (L2N.CX X.prog X.w) k f fd ps (spF (cfX X) X.mg fc)) (hr : Room k X.A) (hm : X.mg x = some (.ref f)) (hk : PySem.W.keepIn X.K (.ref f) = true) (hb : Binds X.K fd ps []) (tk : L2N.Takes X W) (ha : JK X io W p (e :: es) ks fa) (nd : Nod ks)
    (hg : Gl X x := by rfl) (hdb : (x == ("__debug__" : Str)) = false := by decide) (he : starEach (e :: es) X.env = (false, eval e X.env) :: starEach es X.env := by rfl) (hpl : (backTo pos (starEach es X.env)).any (·.1) = false := by rfl) :
    J X io W false (.n fc.rk) (.Call (.Name x pn) (e :: es) [] pos) (mCall fc ks fa) :=
  ⟨peI (pe_callS F hr hg hm hk hb (fun σ => L2N.passAt tk σ) ha.pa hdb he hpl) fun σ H Q q => call_of nd q, fun z => by cases z⟩
theorem j_call0 (F : FnOk X.prog X.w X.K X.mg X.base (L2N.CX X.prog X.w) k f fd ps (spF (cfX X) X.mg fc)) (hr : Room k X.A) (hm : X.mg x = some (.ref f)) (hk : PySem.W.keepIn X.K (.ref f) = true) (hb : Binds X.K fd ps []) (tk : L2N.Takes X W)
    (hg : Gl X x := by rfl) (hdb : (x == ("__debug__" : Str)) = false := by decide) : J X io W false (.n fc.rk) (.Call (.Name x pn) [] [] pos) (mCall fc [] aNil) := by
  refine ⟨⟨fun pins s σ H Q I q => ?_⟩, fun z => by cases z⟩
  have h : tCallS (spF (cfX X) X.mg fc) (WE W) (tJK X io W true [] aNil) σ H Q := call_of (fun i j k h => by simp at h) q
  refine wpAny_Call_Name_kw (ld_glob I hg hm ?_ hdb)
  refine PySem.W.callWith_K0 I.kIn hk ?_
  have h2 := (jk_nil (X := X) (io := io) (W := W)).pa.run pos pins s σ H _ I h
  obtain ⟨G, ρ, re, h⟩ := h
  have h3 := h G H StepOf.refl re [] .nil
  exact run_fnS (us := []) (vs := []) F hr hb (L2N.passAt tk σ) I .nil h3
end
end Nc
namespace Nc
open PySem PySem.Spec L2
open PyProof.Rows hiding St

/-- a def that is lent nothing -/
def fcP (n rk : Nat) (F : List D → R D) : Fc := ⟨List.replicate n 0, rk, fun ds => (F ds).bind fun d => .ok (d, List.replicate n none)⟩
def mCallP (n : Nat) (F : List D → R D) (fa : MA) : M := fun ρ => (fa ρ).bind fun x => if x.1.length = n then (F x.1).bind fun d => .ok (d, x.2) else .bad
section
variable {X : Cx} {io : Nat → Bool} {W : WX} {rk : Nat} {c : Cf} {p p1 p2 p3 : Bool} {cl cl1 cl2 : Cls} {G G0 G1 G2 G' : Gh} {H H0 H1 H2 H' : Hp} {σ σ1 σ2 σ' : L2.St} {ρ ρ1 ρ2 ρ' : Rho}
theorem gin_plain {a : Addr} {i n : Nat} : Gin (List.replicate n none) G a ≠ some (.own i) := fun e => by
  obtain ⟨j, _, h⟩ := Gin_of e
  rw [List.getElem?_replicate] at h
  split at h <;> cases h
theorem ext_back {n : Nat} (g : GI G H) (s : Stp (fun _ => true) (Gin (List.replicate n none) G) H G' H') : Ext G H (Gout (List.replicate n none) G G') H' := by
  refine ⟨fun a o h => s.kp a o h fun i => gin_plain, fun a h => ?_⟩
  cases e : G a with
  | none => exact Gout_none (s.un a h (Gin_none e)) e
  | some t =>
    cases t with
    | fz => exact Gout_fz (s.fz a (Gin_fz e))
    | own i =>
      have n1 : some i ∉ (List.replicate n none : Lk) := fun z => by
        have := (List.mem_replicate.mp z).2
        cases this
      exact Gout_keep (s.un a h (by rw [Gin_own e, find_no n1]; rfl)) e n1
    | res =>
      have g0 : Gin (List.replicate n none) G a = none := by unfold Gin; rw [e]
      have := s.un a h g0
      unfold Gout
      rw [this]
      dsimp only
      rw [e]
theorem ArgsR.of_rep : ∀ {vs : List V} {ds : List D}, RepL c G H vs ds → ArgsR c σ G H (List.replicate ds.length none) vs ds
  | _, _, .nil => .nil
  | _, _, .cons h r => .fz h (ArgsR.of_rep r)
theorem lend_plain : ∀ (ds : List D) (ρ : Rho), lend (List.replicate ds.length 0) (List.replicate ds.length none) ds ρ = some ds
  | [], _ => rfl
  | d :: ds, ρ => by
    show (if (0 : Nat) = 0 then (lend (List.replicate ds.length 0) (List.replicate ds.length none) ds ρ).map (d :: ·) else none) = _
    rw [lend_plain ds ρ]
    rfl
theorem callP_of {n rk : Nat} {F : List D → R D} {fa : MA} {Q : VK} (q : tJ X io W p (.n rk) (mCallP n F fa) σ H Q) :
    tCallS (spF (cfX X) X.mg (fcP n rk F)) (WE W) (tJA X io W p fa) σ H Q := by
  obtain ⟨G, ρ, re, q⟩ := q
  refine ⟨G, ρ, re, (good_bindT re.gi q).mono fun ds ρ1 G1 H1 s1 re1 q1 vs ar => ?_⟩
  dsimp only at q1
  by_cases hn : ds.length = n
  · rw [if_pos hn] at q1
    subst hn
    refine ⟨Gin (List.replicate ds.length none) G1, ds, by rw [ar.length]; exact List.length_replicate.symm, List.length_replicate.symm, fun a e => ?_, fun a i e => absurd e gin_plain, re_in (fun i j k h => ?_) re1 (ArgsR.of_rep ar) (lend_plain ds ρ1), ?_⟩
    · unfold Gin at e
      split at e
      · cases e
      · obtain ⟨_, _, z⟩ := Option.map_eq_some_iff.mp e
        cases z
      · cases e
    · rw [List.getElem?_replicate] at h
      split at h <;> cases h
    · show EndF (cfX X) X.mg (fcP ds.length rk F) vs _ _ _ _ ((F ds).bind fun d => .ok (d, List.replicate ds.length none))
      cases hF : F ds with
      | bad => rw [hF] at q1; exact q1
      | exc x =>
        rw [hF] at q1
        exact fun C H' hC ⟨G', s⟩ => q1 C _ H' hC (stp_back re1.gi s)
      | ok d =>
        rw [hF] at q1
        intro v G' H' s ro n
        have re2 : RE (cfX X) (Gout (List.replicate ds.length none) G1 G') σ H' ρ1 := by
          have gi2 : GI (Gout (List.replicate ds.length none) G1 G') H' := fun a h => by
            rcases Gout_some h with q | q
            · exact ro.gi a q
            · exact s.dm a (re1.gi a q)
          refine ⟨re1.len, gi2, fun i k d e => ?_⟩
          obtain ⟨v, A, h1, h2, h3, h4⟩ := re1.at_ i k d e
          have ex := ext_back re1.gi s
          exact ⟨v, A, h1, h2.ext re1.gi ex, h3, fun a ha => by rw [ex.g a (h2.dom a ha)]; exact h4 a ha⟩
        refine q1 _ H' (ext_back re1.gi s) re2 v ?_
        obtain ⟨A, t, nd, n⟩ := n
        refine ⟨A, t.kps ⟨fun r => Rep.tags (fun a h => Gout_fz h) r, fun _ _ _ h => h⟩, nd, fun a ha => ⟨?_, ?_⟩⟩
        · refine Gout_none (n a ha).1 ?_
          cases e : G1 a with
          | none => rfl
          | some t => exact absurd (n a ha).2 (re1.gi a (by rw [e]; simp))
        · cases e : H a with
          | none => rfl
          | some o => exact absurd (n a ha).2 ((s1.stp re.gi).dm a (by rw [e]; simp))
  · rw [if_neg hn] at q1; exact q1.elim
theorem callP_pu {n : Nat} {F : List D → R D} {fa : MA} (h : ∀ ρ d ρ', fa ρ = .ok (d, ρ') → ρ' = ρ) : ∀ ρ d ρ', mCallP n F fa ρ = .ok (d, ρ') → ρ' = ρ :=
  pu_bind h fun ds ρ z ρ' e => by
    dsimp only at e
    split at e
    · cases q : F ds with
      | ok d => rw [q] at e; cases e; rfl
      | exc x => rw [q] at e; cases e
      | bad => rw [q] at e; cases e
    · cases e
variable {k : Nat} {f : Addr} {fd : FuncData} {ps : List Str} {x : Str} {pn pos : Pos} {e : Expr} {es : List Expr} {fa : MA} {n : Nat} {F : List D → R D}
theorem j_callP (Fo : FnOk X.prog X.w X.K X.mg X.base (L2N.CX X.prog X.w) k f fd ps (spF (cfX X) X.mg (fcP n rk F))) (hr : Room k X.A) (hm : X.mg x = some (.ref f)) (hk : PySem.W.keepIn X.K (.ref f) = true) (hb : Binds X.K fd ps []) (tk : L2N.Takes X W) (ha : JA X io W p (e :: es) fa)
    (hg : Gl X x := by rfl) (hdb : (x == ("__debug__" : Str)) = false := by decide) (he : starEach (e :: es) X.env = (false, eval e X.env) :: starEach es X.env := by rfl) (hpl : (backTo pos (starEach es X.env)).any (·.1) = false := by rfl) :
    J X io W p (.n rk) (.Call (.Name x pn) (e :: es) [] pos) (mCallP n F fa) :=
  ⟨peI (pe_callS Fo hr hg hm hk hb (fun σ => L2N.passAt tk σ) ha.pa hdb he hpl) fun σ H Q q => callP_of q, fun z => callP_pu (ha.pu z)⟩
theorem j_callP0 {F : List D → R D} (Fo : FnOk X.prog X.w X.K X.mg X.base (L2N.CX X.prog X.w) k f fd ps (spF (cfX X) X.mg (fcP 0 rk F))) (hr : Room k X.A) (hm : X.mg x = some (.ref f)) (hk : PySem.W.keepIn X.K (.ref f) = true) (hb : Binds X.K fd ps []) (tk : L2N.Takes X W)
    (hg : Gl X x := by rfl) (hdb : (x == ("__debug__" : Str)) = false := by decide) : J X io W true (.n rk) (.Call (.Name x pn) [] [] pos) (mCallP 0 F aNil) := by
  refine ⟨⟨fun pins s σ H Q I q => ?_⟩, fun z => callP_pu (fun ρ d ρ' e => by cases e; rfl)⟩
  have h : tCallS (spF (cfX X) X.mg (fcP 0 rk F)) (WE W) (tJA X io W true aNil) σ H Q := callP_of q
  refine wpAny_Call_Name_kw (ld_glob I hg hm ?_ hdb)
  refine PySem.W.callWith_K0 I.kIn hk ?_
  obtain ⟨G, ρ, re, h⟩ := h
  have h3 := h G H StepOf.refl re [] .nil
  exact run_fnS (us := []) (vs := []) Fo hr hb (L2N.passAt tk σ) I .nil h3
/-- a def that is lent nothing, by its body -/
def runP (n m : Nat) (s : S) (ds : List D) : R D := (s (ins (List.replicate m 0) ds ++ List.replicate (n - m) none)).bind fun x => match x.1 with
  | .nx => .ok .none
  | .ret d => .ok d
  | _ => .bad
theorem out_plain {m : Nat} {ρ : Rho} (h : m ≤ ρ.length) : outOf (List.replicate m 0) ρ = List.replicate m none := by
  unfold outOf
  apply List.ext_getElem?
  intro i
  rw [List.getElem?_map]
  by_cases hi : i < m
  · have e1 : ((List.replicate m 0).zip ρ)[i]? = some (0, ρ[i]'(by omega)) := by
      rw [List.getElem?_zip_eq_some]
      exact ⟨by rw [List.getElem?_replicate, if_pos hi], List.getElem?_eq_getElem _⟩
    rw [e1, List.getElem?_replicate, if_pos hi]
    rfl
  · rw [List.getElem?_replicate, if_neg hi, List.getElem?_eq_none (by rw [List.length_zip, List.length_replicate]; omega)]
    rfl
abbrev Tg := D → Rho → Option Rho
def tG (X : Cx) (io : Nat → Bool) (g : Tg) : TG := fun v σ H Q => ∃ G ρ d ρ', RE (cfX X) G σ H ρ ∧ Rep (cfX X) G H v d ∧ g d ρ = some ρ' ∧ ∀ σ', Kio io σ σ' → RE (cfX X) G σ' H ρ' → Q σ' H
def JG (X : Cx) (io : Nat → Bool) (tg : Expr) (g : Tg) : Prop := PG X tg (tG X io g)
abbrev Tgs := List D → Rho → Option Rho
def tGs (X : Cx) (io : Nat → Bool) (g : Tgs) : TGs := fun vs σ H Q => ∃ G ρ ds ρ', RE (cfX X) G σ H ρ ∧ RepL (cfX X) G H vs ds ∧ g ds ρ = some ρ' ∧ ∀ σ', Kio io σ σ' → RE (cfX X) G σ' H ρ' → Q σ' H
def JGs (X : Cx) (io : Nat → Bool) (tgs : List Expr) (g : Tgs) : Prop := PGs X tgs (tGs X io g)
theorem pgI {tg : Expr} {t t' : TG} (h : PG X tg t) (i : ∀ v σ H Q, t' v σ H Q → t v σ H Q) : PG X tg t' := ⟨fun pins s σ H v u Q I r hq => h.run pins s σ H v u Q I r (i v σ H Q hq)⟩
theorem pgsI {tg : List Expr} {t t' : TGs} (h : PGs X tg t) (i : ∀ v σ H Q, t' v σ H Q → t v σ H Q) : PGs X tg t' := ⟨fun pins s σ H v u Q I r hq => h.run pins s σ H v u Q I r (i v σ H Q hq)⟩
def gN (i : Nat) : Tg := fun d ρ => some (ρ.set i (some (0, d)))
def gsNil : Tgs := fun ds ρ => match ds with
  | [] => some ρ
  | _ => none
def gsCons (g : Tg) (gs : Tgs) : Tgs := fun ds ρ => match ds with
  | d :: ds => (g d ρ).bind fun ρ1 => gs ds ρ1
  | [] => none
def gT (n : Nat) (gs : Tgs) : Tg := fun d ρ => match d with
  | .tuple ds => if ds.length = n then gs ds ρ else none
  | _ => none
theorem jg_name (i : Nat) {x : Str} {pos : Pos} (hio : io i = false) (hN : X.N.Nodup) (hi : X.N[i]? = some x := by rfl) (hx : Loc X.env.scope x := by first | exact Or.inl rfl | exact Or.inr rfl) (hf : X.fn x = true ∨ X.env.scope.names.lookup x = some .local := by first | exact .inl rfl | exact .inr rfl) : JG X io (.Name x pos) (gN i) :=
  pgI (pg_name (i := i) hN hi hx hf) fun v σ H Q q => by
    obtain ⟨G, ρ, d, ρ', re, r, e, q⟩ := q
    cases e
    exact q _ (Kio.set hio) (re.set0 r)
theorem jgs_nil : JGs X io [] gsNil := pgsI pgs_nil fun v σ H Q q => by
  obtain ⟨G, ρ, ds, ρ', re, r, e, q⟩ := q
  cases r with
  | nil => cases e; exact ⟨rfl, q σ Kio.refl re⟩
  | cons _ _ => cases e
theorem jgs_cons {e : Expr} {es : List Expr} {g : Tg} {gs : Tgs} (h1 : JG X io e g) (h2 : JGs X io es gs) (hs : (assignEach (e :: es) X.env).map (·.2) = assign e X.env :: (assignEach es X.env).map (·.2) := by rfl) : JGs X io (e :: es) (gsCons g gs) :=
  pgsI (pgs_cons h1 h2 hs) fun vs σ H Q q => by
    obtain ⟨G, ρ, ds, ρ', re, r, e, q⟩ := q
    cases r with
    | nil => cases e
    | cons r rs =>
      obtain ⟨ρ1, e1, e2⟩ := Option.bind_eq_some_iff.mp e
      exact ⟨_, _, rfl, G, ρ, _, ρ1, re, r, e1, fun σ1 k1 re1 => ⟨G, ρ1, _, ρ', re1, rs, e2, fun σ2 k2 re2 => q σ2 (k1.trans k2) re2⟩⟩
theorem jg_tup {es : List Expr} {m n : Nat} {gs : Tgs} {pos : Pos} (hc : X.calm = true) (h : JGs X io es gs) (hn : (assignEach es X.env).length = n := by rfl) (hst : (assignEach es X.env).findIdx? (·.1) = none := by rfl) : JG X io (.Tuple es m pos) (gT n gs) :=
  pgI (pg_tup hc h hn hst) fun v σ H Q q => by
    obtain ⟨G, ρ, d, ρ', re, r, e, q⟩ := q
    cases d with
    | tuple ds =>
      obtain ⟨hl, e⟩ : ds.length = n ∧ gs ds ρ = some ρ' := by
        have e : (if ds.length = n then gs ds ρ else none) = some ρ' := e
        split at e
        · exact ⟨by assumption, e⟩
        · cases e
      obtain ⟨a, xs, rfl, ha, ra⟩ := (Rep.rd r).sqT
      exact ⟨a, xs, rfl, ha, by rw [ra.length]; exact hl, G, ρ, ds, ρ', re, ra, e, q⟩
    | _ => cases e
def sAsg (g : Tg) (f : M) : S := fun ρ => (f ρ).bind fun x => match g x.1 x.2 with
  | some ρ' => .ok (.nx, ρ')
  | none => .bad
theorem js_asg {tg e : Expr} {f : M} {g : Tg} {pos : Pos} (he : J X io W p .f e f) (hg : JG X io tg g) (hs : swapsWithSole [tg] e pos.line X.env = pure false := by rfl) (hw : swappedStores [tg] e X.env = pure none := by rfl)
    (h1 : (assignEach [tg] X.env).map (·.2) = [assign tg X.env] := by rfl) : JS X io W rk (.Assign [tg] e pos) (sAsg g f) := psI (ps_asg he.pe hg hs hw h1) fun D σ H q => by
  obtain ⟨G, ρ, re, q⟩ := q
  refine ⟨G, ρ, re, (GoodS.expr re.gi q).mono fun d ρ1 G1 H1 s1 re1 q1 v r => ?_⟩
  dsimp only at q1
  cases hg : g d ρ1 with
  | none => rw [hg] at q1; exact q1.elim
  | some ρ' =>
    rw [hg] at q1
    exact ⟨G1, ρ1, d, ρ', re1, r, hg, fun σ' k re' => q1 σ' G1 H1 k Stp.refl re'⟩
structure Src (c : Cf) (io : Nat → Bool) (G0 : Gh) (H0 : Hp) (Jt : It) (ds : List D) : Prop where
  go : ∀ G H i, Stp io G0 H0 G H → GI G H → i < ds.length → Jt.go i H
  yld : ∀ G H i d x H', Stp io G0 H0 G H → GI G H → ds[i]? = some d → Jt.yld i H x H' → Gr H H' ∧ Rep c G H' x d
  stop : ∀ G H, Stp io G0 H0 G H → GI G H → Jt.stop ds.length H
abbrev MI := Rho → R (List D × Rho)
def tJI (X : Cx) (io : Nat → Bool) (W : WX) (p : Bool) (f : MI) : TI := fun σ H Rr => ∃ G ρ, RE (cfX X) G σ H ρ ∧
  Good X io W p σ G H (f ρ) fun ds _ G' H' => ∀ Jt, Src (cfX X) io G' H' Jt ds → Rr Jt H'
structure JI (X : Cx) (io : Nat → Bool) (W : WX) (p : Bool) (tg it : Expr) (f : MI) : Prop where
  pi : PI X tg it (tJI X io W p f)
  pu : p = true → ∀ ρ d ρ', f ρ = .ok (d, ρ') → ρ' = ρ
theorem piI {tg it : Expr} {t t' : TI} (h : PI X tg it t) (i : ∀ σ H Q, t' σ H Q → t σ H Q) : PI X tg it t' := ⟨fun pins s σ H Q I hq => h.run pins s σ H Q I (i σ H Q hq)⟩
/-- what must be a list; a tuple -/
def iL (f : M) : MI := fun ρ => (f ρ).bind fun x => match x.1 with
  | .list ds => .ok (ds, x.2)
  | _ => .bad
def iT (f : M) : MI := fun ρ => (f ρ).bind fun x => match x.1 with
  | .tuple ds => .ok (ds, x.2)
  | _ => .bad
theorem src_list {a : Addr} {ds : List D} (h : ∀ G H, Stp io G0 H0 G H → GI G H → ∃ xs, SqL c.K H a xs ∧ RepL c G H xs ds) : Src c io G0 H0 (Itl c.K a) ds where
  go := fun G H i s g hi => by
    obtain ⟨xs, h1, h2⟩ := h G H s g
    exact ⟨xs, xs[i]'(by rw [h2.length]; exact hi), h1, List.getElem?_eq_getElem _⟩
  yld := fun G H i d x H' s g hd y => by
    obtain ⟨e, y⟩ := y
    obtain ⟨xs, h1, h2⟩ := h G H s g
    obtain ⟨v, hv, r⟩ := h2.get hd
    have := y xs h1
    rw [hv] at this
    cases this
    rw [e]
    exact ⟨Gr.refl _, r⟩
  stop := fun G H s g => by
    obtain ⟨xs, h1, h2⟩ := h G H s g
    exact ⟨xs, h1, by rw [h2.length]; exact Nat.le_refl _⟩
theorem src_tuple {a : Addr} {ds : List D} (h : ∀ G H, Stp io G0 H0 G H → GI G H → ∃ xs, SqT c.K H a xs ∧ RepL c G H xs ds) : Src c io G0 H0 (Itt c.K a) ds where
  go := fun G H i s g hi => by
    obtain ⟨xs, h1, h2⟩ := h G H s g
    exact ⟨xs, xs[i]'(by rw [h2.length]; exact hi), h1, List.getElem?_eq_getElem _⟩
  yld := fun G H i d x H' s g hd y => by
    obtain ⟨e, y⟩ := y
    obtain ⟨xs, h1, h2⟩ := h G H s g
    obtain ⟨v, hv, r⟩ := h2.get hd
    have := y xs h1
    rw [hv] at this
    cases this
    rw [e]
    exact ⟨Gr.refl _, r⟩
  stop := fun G H s g => by
    obtain ⟨xs, h1, h2⟩ := h G H s g
    exact ⟨xs, h1, by rw [h2.length]; exact Nat.le_refl _⟩
theorem iL_pu {f : M} (h : ∀ ρ d ρ', f ρ = .ok (d, ρ') → ρ' = ρ) : ∀ ρ d ρ', iL f ρ = .ok (d, ρ') → ρ' = ρ := pu_bind h fun b ρ z ρ' e => by
  dsimp only at e
  split at e
  · cases e; rfl
  · cases e
theorem iT_pu {f : M} (h : ∀ ρ d ρ', f ρ = .ok (d, ρ') → ρ' = ρ) : ∀ ρ d ρ', iT f ρ = .ok (d, ρ') → ρ' = ρ := pu_bind h fun b ρ z ρ' e => by
  dsimp only at e
  split at e
  · cases e; rfl
  · cases e
theorem ji_list {tg e : Expr} {f : M} (he : J X io W p cl e f) (hs : cl.st false = true := by rfl) : JI X io W p tg e (iL f) := by
  refine ⟨piI (pi_list he.pe) fun σ H Rr q => ?_, fun z => iL_pu (he.pu z)⟩
  obtain ⟨G, ρ, re, q⟩ := q
  refine ⟨G, ρ, re, (good_bindT re.gi q).mono fun d ρ1 G1 H1 s1 re1 q1 v r => ?_⟩
  cases d with
  | list ds =>
    have st : ∀ G2 H2, Stp io G1 H1 G2 H2 → GI G2 H2 → Rd1 (cfX X) G2 H2 v (.list ds) := fun G2 H2 s2 g2 => Res.step (p := false) re1.gi r s2 hs
    obtain ⟨a, xs, rfl, h1, h2⟩ := (st G1 H1 Stp.refl re1.gi).sqL
    refine ⟨a, rfl, ⟨xs, h1⟩, q1 G1 H1 StepOf.refl re1 _ (src_list fun G2 H2 s2 g2 => ?_)⟩
    obtain ⟨b, ys, e, h3, h4⟩ := (st G2 H2 s2 g2).sqL
    cases e
    exact ⟨ys, h3, h4⟩
  | _ => exact q1.elim
theorem ji_tuple {tg e : Expr} {f : M} (he : J X io W p cl e f) (hs : cl.st false = true := by rfl) : JI X io W p tg e (iT f) := by
  refine ⟨piI (pi_tup he.pe) fun σ H Rr q => ?_, fun z => iT_pu (he.pu z)⟩
  obtain ⟨G, ρ, re, q⟩ := q
  refine ⟨G, ρ, re, (good_bindT re.gi q).mono fun d ρ1 G1 H1 s1 re1 q1 v r => ?_⟩
  cases d with
  | tuple ds =>
    have st : ∀ G2 H2, Stp io G1 H1 G2 H2 → GI G2 H2 → Rd1 (cfX X) G2 H2 v (.tuple ds) := fun G2 H2 s2 g2 => Res.step (p := false) re1.gi r s2 hs
    obtain ⟨a, xs, rfl, h1, h2⟩ := (st G1 H1 Stp.refl re1.gi).sqT
    refine ⟨a, rfl, ⟨xs, h1⟩, q1 G1 H1 StepOf.refl re1 _ (src_tuple fun G2 H2 s2 g2 => ?_)⟩
    obtain ⟨b, ys, e, h3, h4⟩ := (st G2 H2 s2 g2).sqT
    cases e
    exact ⟨ys, h3, h4⟩
  | _ => exact q1.elim
/-- lo, lo + 1, .. -/
def rngD (lo : Int) (n : Nat) : List D := (List.range n).map fun (i : Nat) => .int (lo + (i : Int))
theorem src_range {lo : Int} {n : Nat} : Src c io G0 H0 (Itr lo n) (rngD lo n) where
  go := fun G H i s g hi => by
    unfold rngD at hi
    rw [List.length_map, List.length_range] at hi
    exact hi
  yld := fun G H i d x H' s g hd y => by
    obtain ⟨e1, e2⟩ := y
    unfold rngD at hd
    rw [List.getElem?_map] at hd
    cases q : (List.range n)[i]? with
    | none => rw [q] at hd; cases hd
    | some j =>
      rw [q] at hd
      obtain ⟨hl, e⟩ := List.getElem?_eq_some_iff.mp q
      rw [List.getElem_range] at e
      subst e
      cases hd
      rw [e1, e2]
      exact ⟨Gr.refl _, .int _⟩
  stop := fun G H s g => by
    unfold rngD
    rw [List.length_map, List.length_range]
    exact Nat.le_refl n
def iR1 (f : M) : MI := fun ρ => (f ρ).bind fun x => match x.1 with
  | .int j => if -(2 ^ 62) ≤ j ∧ j < 2 ^ 62 then .ok (rngD 0 j.toNat, x.2) else .bad
  | _ => .bad
def iR2 (f g : M) : MI := fun ρ => (f ρ).bind fun x => (g x.2).bind fun y => match x.1, y.1 with
  | .int i, .int j => if -(2 ^ 62) ≤ i ∧ i < 2 ^ 62 ∧ -(2 ^ 62) ≤ j ∧ j < 2 ^ 62 then .ok (rngD i (j - i).toNat, y.2) else .bad
  | _, _ => .bad
theorem ji_range1 {tg a : Expr} {f : M} {pn pos : Pos} (hm : X.mg "range" = none) (he : J X io W p cl a f) (hs : cl.st true = true := by rfl) (hg : Gl X "range" := by rfl) (h1 : starEach [a] X.env = [(false, eval a X.env)] := by rfl) : JI X io W p tg (.Call (.Name "range" pn) [a] [] pos) (iR1 f) := by
  refine ⟨piI (pi_range1 hg hm (pa1 he h1) h1) fun σ H Rr q => ?_, fun z => pu_bind (he.pu z) fun b ρ z ρ' e => ?_⟩
  · obtain ⟨G, ρ, re, q⟩ := q
    refine ⟨G, ρ, re, (good_bindT re.gi q).mono fun d ρ1 G1 H1 s1 re1 q1 v r => ?_⟩
    cases d with
    | int j =>
      dsimp only at q1
      split at q1
      · rename_i h
        exact ⟨j, by rw [(r.rd hs).int], h.1, h.2, q1 G1 H1 StepOf.refl re1 _ src_range⟩
      · exact q1.elim
    | _ => exact q1.elim
  · dsimp only at e
    split at e
    · split at e
      · cases e; rfl
      · cases e
    · cases e
theorem ji_range2 {tg a b : Expr} {f g : M} {pn pos : Pos} (hm : X.mg "range" = none) (ha : J X io W p1 cl1 a f) (hb : J X io W p2 cl2 b g) (hs1 : cl1.st p2 = true := by rfl) (hs2 : cl2.st true = true := by rfl) (hg : Gl X "range" := by rfl) (h1 : starEach [a, b] X.env = [(false, eval a X.env), (false, eval b X.env)] := by rfl) (h2 : starEach [b] X.env = [(false, eval b X.env)] := by rfl) :
    JI X io W (p1 && p2) tg (.Call (.Name "range" pn) [a, b] [] pos) (iR2 f g) := by
  refine ⟨piI (pi_range2 hg hm (pa_cons ha.pe (pa1 hb h2) (by rw [h1, h2])) h1 h2) fun σ H Rr q => ?_, fun e => ?_⟩
  · obtain ⟨G, ρ, re, q⟩ := q
    refine ⟨G, ρ, re, (Good.bind re.gi q).mono fun d ρ1 G1 H1 s1 re1 q1 v1 r1 => ⟨G1, ρ1, re1, (good_bindT re1.gi q1).mono fun e ρ2 G2 H2 s2 re2 q2 v2 r2 => ?_⟩⟩
    have rd1 := r1.step re1.gi s2 hs1
    have rd2 := r2.rd hs2
    cases d with
    | int i =>
      cases e with
      | int j =>
        dsimp only at q2
        split at q2
        · rename_i h
          exact ⟨i, j, by rw [rd1.int, rd2.int], h, q2 G2 H2 StepOf.refl re2 _ src_range⟩
        · exact q2.elim
      | _ => exact q2.elim
    | _ => cases e <;> exact q2.elim
  · obtain ⟨e1, e2⟩ := and_t e
    refine pu_bind (ha.pu e1) fun b ρ z ρ' e => pu_bind (f := g) (hb.pu e2) (fun b ρ z ρ' e => ?_) ρ z ρ' e
    dsimp only at e
    split at e
    · split at e
      · cases e; rfl
      · cases e
    · cases e
def loopF (g : Tg) (s : S) : List D → Rho → R (Fl × Rho)
  | [], ρ => .ok (.nx, ρ)
  | d :: ds, ρ => match g d ρ with
    | none => .bad
    | some ρ1 => (s ρ1).bind fun x => match x.1 with
      | .nx => loopF g s ds x.2
      | .ct => loopF g s ds x.2
      | .bk => .ok (.nx, x.2)
      | .ret d => .ok (.ret d, x.2)
def sFor (f : MI) (g : Tg) (s : S) : S := fun ρ => (f ρ).bind fun x => loopF g s x.1 x.2
theorem js_for {tg it : Expr} {body : List Stmt} {f : MI} {g : Tg} {s : S} {pos : Pos} (hp : PassesOwn (model X.prog X.w) X.A X.env X.xe) (hc : X.calm = true) (hi : JI X io W p tg it f) (hg : JG X io tg g) (hb : JSs X io W rk body s)
    (hs : ∀ x, foldedSetIterable it X.env x = pure x := by intro _; rfl) : JS X io W rk (.For tg it body [] pos) (sFor f g s) := psI (ps_for hp hc hi.pi hg hb hs) fun D σ H q => by
  obtain ⟨G, ρ, re, q⟩ := q
  refine ⟨G, ρ, re, (GoodS.expr re.gi q).mono fun ds ρ1 G1 H1 s1 re1 q1 Jt sr => ?_⟩
  refine ⟨fun i m σ' H' => m = ds.length - i ∧ i ≤ ds.length ∧ ∃ G' ρ', RE (cfX X) G' σ' H' ρ' ∧ Stp io G1 H1 G' H' ∧ GoodS X io W σ' G' H' (loopF g s (ds.drop i) ρ') fun fl _ σ' G' H' => EndsAs (cfX X) rk D fl σ' G' H',
    ⟨ds.length, by omega, Nat.zero_le _, G1, ρ1, re1, Stp.refl, q1⟩, ?_⟩
  rintro i m σ2 H2 ⟨rfl, hi, G2, ρ2, re2, s2, q2⟩
  by_cases hlt : i < ds.length
  · obtain ⟨d, hd⟩ : ∃ d, ds[i]? = some d := ⟨_, List.getElem?_eq_getElem hlt⟩
    have ed : ds.drop i = d :: ds.drop (i + 1) := by
      rw [List.drop_eq_getElem_cons hlt]
      have := List.getElem?_eq_getElem hlt
      rw [hd] at this
      rw [Option.some.inj this]
    rw [ed] at q2
    refine .inr ⟨sr.go G2 H2 i s2 re2.gi hlt, fun σ' H' => ∃ G' ρ', RE (cfX X) G' σ' H' ρ' ∧ Stp io G1 H1 G' H' ∧ GoodS X io W σ' G' H' (loopF g s (ds.drop (i + 1)) ρ') fun fl _ σ' G' H' => EndsAs (cfX X) rk D fl σ' G' H',
      fun σ' H' hN => ⟨ds.length - (i + 1), by omega, rfl, hlt, hN⟩, fun x H3 y => ?_⟩
    obtain ⟨gr, rx⟩ := sr.yld G2 H2 i d x H3 s2 re2.gi hd y
    have re3 := re2.gr gr
    have q2 : GoodS X io W σ2 G2 H2 (match g d ρ2 with
      | none => .bad
      | some ρ1 => (s ρ1).bind fun x => match x.1 with
        | .nx => loopF g s (ds.drop (i + 1)) x.2
        | .ct => loopF g s (ds.drop (i + 1)) x.2
        | .bk => .ok (.nx, x.2)
        | .ret d => .ok (.ret d, x.2)) _ := q2
    cases hg : g d ρ2 with
    | none => rw [hg] at q2; exact q2.elim
    | some ρ3 =>
      rw [hg] at q2
      dsimp only at q2
      refine ⟨G2, ρ2, d, ρ3, re3, rx, hg, fun σ4 k4 re4 => ?_⟩
      have s3 : Stp io G2 H2 G2 H3 := Ext.stp re2.gi gr.ext
      refine ⟨G2, ρ3, re4, ?_⟩
      have q3 := GoodS.stmt q2
      -- the same from the later state
      have q4 : GoodS X io W σ4 G2 H3 (s ρ3) fun b ρ1 σ1 G1 H1 => GoodS X io W σ1 G1 H1 ((fun x => match x.1 with
          | .nx => loopF g s (ds.drop (i + 1)) x.2
          | .ct => loopF g s (ds.drop (i + 1)) x.2
          | .bk => .ok (.nx, x.2)
          | .ret d => .ok (.ret d, x.2)) (b, ρ1)) fun fl _ σ' G' H' => EndsAs (cfX X) rk D fl σ' G' H' := by
        cases hr : s ρ3 with
        | ok a =>
          obtain ⟨fl, ρ5⟩ := a
          rw [hr] at q3
          exact fun σ5 G5 H5 k5 s5 re5 => q3 σ5 G5 H5 (k4.trans k5) (s3.trans s5) re5
        | exc x =>
          rw [hr] at q3
          exact fun σ5 k5 C G5 H5 hm s5 => q3 σ5 (k4.trans k5) C G5 H5 hm (s3.trans s5)
        | bad => rw [hr] at q3; exact q3
      refine q4.mono fun fl ρ5 σ5 G5 H5 k5 s5 re5 q5 => ?_
      cases fl with
      | nx => exact ⟨G5, ρ5, re5, s2.trans (s3.trans s5), q5⟩
      | ct => exact ⟨G5, ρ5, re5, s2.trans (s3.trans s5), q5⟩
      | bk => exact q5 σ5 G5 H5 Kio.refl Stp.refl re5
      | ret d => exact q5 σ5 G5 H5 Kio.refl Stp.refl re5
  · have ei : i = ds.length := by omega
    subst ei
    rw [List.drop_length] at q2
    exact .inl ⟨sr.stop G2 H2 s2 re2.gi, q2 σ2 G2 H2 Kio.refl Stp.refl re2⟩
def loopW (t : MT) (s : S) : Nat → Rho → R (Fl × Rho)
  | 0, _ => .bad
  | n + 1, ρ => (t ρ).bind fun x => if x.1 = true then (s x.2).bind fun y => match y.1 with
      | .nx => loopW t s n y.2
      | .ct => loopW t s n y.2
      | .bk => .ok (.nx, y.2)
      | .ret d => .ok (.ret d, y.2)
    else .ok (.nx, x.2)
def sWhile (n : Nat) (t : MT) (s : S) : S := loopW t s n
theorem js_while (n : Nat) {e : Expr} {body : List Stmt} {t : MT} {s : S} {pos : Pos} (hp : PassesOwn (model X.prog X.w) X.A X.env X.xe) (ht : JT X io W p e t) (hb : JSs X io W rk body s) : JS X io W rk (.While e body [] pos) (sWhile n t s) := psI (ps_while hp ht.pt hb) fun D σ H q => by
  obtain ⟨G, ρ, re, q⟩ := q
  refine ⟨fun m σ' H' => ∃ G' ρ', RE (cfX X) G' σ' H' ρ' ∧ GoodS X io W σ' G' H' (loopW t s m ρ') fun fl _ σ' G' H' => EndsAs (cfX X) rk D fl σ' G' H', ⟨n, G, ρ, re, q⟩, ?_⟩
  rintro m σ1 H1 ⟨G1, ρ1, re1, q1⟩
  cases m with
  | zero => exact q1.elim
  | succ m =>
    refine ⟨G1, ρ1, re1, (GoodS.expr re1.gi q1).mono fun b ρ2 G2 H2 s2 re2 q2 => ?_⟩
    cases b with
    | false => exact q2 σ1 G2 H2 Kio.refl Stp.refl re2
    | true =>
      refine ⟨fun σ' H' => ∃ G' ρ', RE (cfX X) G' σ' H' ρ' ∧ GoodS X io W σ' G' H' (loopW t s m ρ') fun fl _ σ' G' H' => EndsAs (cfX X) rk D fl σ' G' H', fun σ' H' hN => ⟨m, Nat.lt_succ_self m, hN⟩, G2, ρ2, re2, ?_⟩
      have q2 : GoodS X io W σ1 G2 H2 ((s ρ2).bind _) _ := q2
      refine (GoodS.stmt q2).mono fun fl ρ3 σ3 G3 H3 k3 s3 re3 q3 => ?_
      cases fl with
      | nx => exact ⟨G3, ρ3, re3, q3⟩
      | ct => exact ⟨G3, ρ3, re3, q3⟩
      | bk => exact q3 σ3 G3 H3 Kio.refl Stp.refl re3
      | ret d => exact q3 σ3 G3 H3 Kio.refl Stp.refl re3
end
end Nc
namespace Nc
open PySem PySem.Spec L2
open PyProof.Rows hiding St

def wipeR (ρ : Rho) : List Nat → Rho
  | [] => ρ
  | v :: vs => (wipeR ρ vs).set v none
/-- what a comprehension does not touch -/
abbrev ownV (own : List (Str × Nat)) : List Nat := own.map fun x => x.2
def ioV (vs : List Nat) : Nat → Bool := fun j => !vs.contains j
section
variable {X : Cx} {io : Nat → Bool} {W : WX} {rk : Nat} {c : Cf} {p p1 p2 p3 : Bool} {cl cl1 cl2 cl3 : Cls} {G G0 G1 G2 G' : Gh} {H H0 H1 H2 H' : Hp} {σ σ1 σ2 σ' : L2.St} {ρ ρ1 ρ2 ρ' : Rho}
theorem lk_upd {D : Addr} {acc ys : List V} (g : G D = none) (h : H D = some (.lst acc)) : Lk0 G H (L2.upd H D (.lst ys)) where
  fz := fun a o n e => by rw [upd_ne (fun z => n (by rw [z]; exact g))]; exact e
  tp := fun a xs e => by rw [upd_ne (fun z => by rw [z, h] at e; cases e)]; exact e
  fr := fun a o u e => by rw [upd_ne (fun z => by rw [z, h] at e; cases e)]; exact e
theorem RE.ext (re : RE c G σ H ρ) (e : Ext G H G' H') (g : GI G' H') : RE c G' σ H' ρ := by
  refine ⟨re.len, g, fun i k d q => ?_⟩
  obtain ⟨v, A, h1, h2, h3, h4⟩ := re.at_ i k d q
  exact ⟨v, A, h1, h2.ext re.gi e, h3, fun a ha => by rw [e.g a (h2.dom a ha)]; exact h4 a ha⟩
theorem wipeR_length {ρ : Rho} : ∀ vs : List Nat, (wipeR ρ vs).length = ρ.length
  | [] => rfl
  | v :: vs => by unfold wipeR; rw [List.length_set, wipeR_length vs]
theorem wipeR_some {ρ : Rho} {i : Nat} {s : Nat × D} : ∀ {vs : List Nat}, (wipeR ρ vs)[i]? = some (some s) → ρ[i]? = some (some s) ∧ i ∉ vs
  | [], h => ⟨h, by simp⟩
  | v :: vs, h => by
    unfold wipeR at h
    rw [List.getElem?_set] at h
    split at h
    · split at h <;> cases h
    · rename_i hv
      obtain ⟨h1, h2⟩ := wipeR_some h
      exact ⟨h1, by simp only [List.mem_cons, not_or]; exact ⟨fun e => hv e.symm, h2⟩⟩
theorem RE.wipe (re : RE c G σ H ρ) (vs : List Nat) : RE c G (L2.wipe σ vs) H (wipeR ρ vs) := by
  refine ⟨by rw [wipeR_length, wipe_length]; exact re.len, re.gi, fun i k d e => ?_⟩
  obtain ⟨e1, e2⟩ := wipeR_some e
  obtain ⟨v, A, h1, h2⟩ := re.at_ i k d e1
  exact ⟨v, A, by rw [wipe_out e2]; exact h1, h2⟩
theorem wipe_eq {vs : List Nat} {τ σ' : L2.St} (k : Kio (ioV vs) τ σ') : L2.wipe σ' vs = L2.wipe τ vs := by
  apply List.ext_getElem?
  intro i
  by_cases hi : i ∈ vs
  · have z : ∀ (τ : L2.St), (L2.wipe τ vs)[i]? = (none : Option (Option V)) ∨ (L2.wipe τ vs)[i]? = some none := fun τ => by
      cases e : (L2.wipe τ vs)[i]? with
      | none => exact .inl rfl
      | some o =>
        cases o with
        | none => exact .inr rfl
        | some x => exact absurd hi (wipe_some e).2
    have l : (L2.wipe σ' vs).length = (L2.wipe τ vs).length := by rw [wipe_length, wipe_length]; exact k.len
    rcases z σ' with a | a <;> rcases z τ with b | b <;> rw [a, b]
    · have h1 := List.getElem?_eq_none_iff.mp a
      have h2 := (List.getElem?_eq_some_iff.mp b).1
      omega
    · have h1 := List.getElem?_eq_none_iff.mp b
      have h2 := (List.getElem?_eq_some_iff.mp a).1
      omega
  · rw [wipe_out hi, wipe_out hi]
    exact k.at_ i (by unfold ioV; simp [hi])
theorem wipe_wipe {vs : List Nat} {τ : L2.St} : L2.wipe (L2.wipe τ vs) vs = L2.wipe τ vs := by
  apply List.ext_getElem?
  intro i
  by_cases hi : i ∈ vs
  · have z : ∀ (τ : L2.St), (L2.wipe τ vs)[i]? = (none : Option (Option V)) ∨ (L2.wipe τ vs)[i]? = some none := fun τ => by
      cases e : (L2.wipe τ vs)[i]? with
      | none => exact .inl rfl
      | some o =>
        cases o with
        | none => exact .inr rfl
        | some x => exact absurd hi (wipe_some e).2
    have l : (L2.wipe (L2.wipe τ vs) vs).length = (L2.wipe τ vs).length := by rw [wipe_length]
    rcases z (L2.wipe τ vs) with a | a <;> rcases z τ with b | b <;> rw [a, b]
    · have h1 := List.getElem?_eq_none_iff.mp a
      have h2 := (List.getElem?_eq_some_iff.mp b).1
      omega
    · have h1 := List.getElem?_eq_none_iff.mp b
      have h2 := (List.getElem?_eq_some_iff.mp a).1
      omega
  · rw [wipe_out hi]
theorem tj_ok {f : M} {Q : VK} {d : D} {ρ' : Rho} (re : RE (cfX X) G σ H ρ) (e : f ρ = .ok (d, ρ')) (h : ∀ G' H' v, StepOf p io G H G' H' → RE (cfX X) G' σ H' ρ' → Res (cfX X) cl H G' H' v d → Q v H') : tJ X io W p cl f σ H Q := by
  refine ⟨G, ρ, re, ?_⟩
  rw [e]
  exact fun G' H' s re' v r => h G' H' v s re' r
theorem tjt_ok {f : MT} {Q : Bool → Hp → Prop} {b : Bool} {ρ' : Rho} (re : RE (cfX X) G σ H ρ) (e : f ρ = .ok (b, ρ')) (h : ∀ G' H', StepOf p io G H G' H' → RE (cfX X) G' σ H' ρ' → Q b H') : tJT X io W p f σ H Q := by
  refine ⟨G, ρ, re, ?_⟩
  rw [e]
  exact fun G' H' s re' => h G' H' s re'
abbrev W0 : WX := fun _ _ _ _ => False
structure JTs (X : Cx) (io : Nat → Bool) (p : Bool) (ifs : List Expr) (t : MT) : Prop where
  ts : PTs X ifs (tJT X io W0 p t)
  pu : p = true → ∀ ρ d ρ', t ρ = .ok (d, ρ') → ρ' = ρ
def tTrue : MT := fun ρ => .ok (true, ρ)
theorem jts_nil : JTs X io true [] tTrue := ⟨⟨fun pins s σ H Q I q => pts_nil.run pins s σ H Q I (by
  obtain ⟨G, ρ, re, q⟩ := q
  exact q G H StepOf.refl re)⟩, fun _ ρ d ρ' e => by cases e; rfl⟩
theorem jts_one {e : Expr} {t : MT} (h : JT X io W0 p e t) : JTs X io p [e] t := ⟨pts_one h.pt, h.pu⟩
end
/-- the values of a comprehension whose tests and elements are pure -/
def compP (g : Tg) (t : MT) (f : M) : List D → Rho → R (List D)
  | [], _ => .ok []
  | d :: ds, ρ => match g d ρ with
    | none => .bad
    | some ρ1 => match t ρ1 with
      | .ok (true, _) => match f ρ1 with
        | .ok (y, _) => (compP g t f ds ρ).bind fun ys => .ok (y :: ys)
        | _ => .bad
      | .ok (false, _) => compP g t f ds ρ
      | _ => .bad
def mLc (vs : List Nat) (fi : MI) (g : Tg) (t : MT) (f : M) : M := fun ρ => (fi ρ).bind fun x => match compP g t f x.1 (wipeR x.2 vs) with
  | .ok ys => if ys.length ≤ big then .ok (.list ys, x.2) else .bad
  | _ => .bad
abbrev Blk (X : Cx) (s : Shared) (H : Hp) (scope : Scope) (cl : List (Str × Addr)) (C : Addr) (fp : List Addr) : Cx := X.blk s H scope (compEnvC scope cl C X.env) fp
section
variable {X : Cx} {io : Nat → Bool} {W : WX} {rk : Nat} {c : Cf} {p p1 p2 p3 : Bool} {cl cl1 cl2 cl3 : Cls} {G G0 G1 G2 G' : Gh} {H H0 H1 H2 H' : Hp} {σ σ1 σ2 σ' : L2.St} {ρ ρ1 ρ2 ρ' : Rho}
/-- a list in the making -/
structure Mk (c : Cf) (G1 : Gh) (H1 : Hp) (D : Addr) (done : List Nc.D) (G : Gh) (H : Hp) (acc : List V) : Prop where
  ext : Ext G1 H1 G H
  gi : GI G H
  at_ : H D = some (.lst acc)
  un : G D = none
  rep : RepL c G H acc done
theorem Mk.start {D : Addr} (g : GI G1 H1) (h : H1 D = none) : Mk c G1 H1 D [] G1 (L2.upd H1 D (.lst [])) [] where
  ext := (Gr.upd h).ext
  gi := (Gr.upd h).gi g
  at_ := upd_same
  un := g.none h
  rep := .nil
theorem Mk.step {D : Addr} {done : List Nc.D} {acc : List V} (m : Mk c G1 H1 D done G H acc) (e : Ext G H G' H') (g : GI G' H') : Mk c G1 H1 D done G' H' acc where
  ext := m.ext.trans e
  gi := g
  at_ := e.h _ _ m.at_
  un := by rw [e.g D (by rw [m.at_]; simp)]; exact m.un
  rep := m.rep.stp (io := fun _ => false) (Ext.stp m.gi e)
theorem Mk.put {D : Addr} {done : List Nc.D} {acc : List V} {y : V} {d : Nc.D} (m : Mk c G1 H1 D done G H acc) (hn : H1 D = none) (r : Rep c G H y d) : Mk c G1 H1 D (done ++ [d]) G (L2.upd H D (.lst (acc ++ [y]))) (acc ++ [y]) where
  ext := ⟨fun a o e => by rw [upd_ne (ne_of_none e hn)]; exact m.ext.h a o e, m.ext.g⟩
  gi := fun a h => by
    by_cases e : a = D
    · rw [e, upd_same]; simp
    · rw [upd_ne e]; exact m.gi a h
  at_ := upd_same
  un := m.un
  rep := (m.rep.lk (lk_upd m.un m.at_)).append (.cons (r.lk (lk_upd m.un m.at_)) .nil)
theorem Mk.new {D : Addr} {done : List Nc.D} {acc : List V} (m : Mk c G1 H1 D done G H acc) (hn : H0 D = none) : New c 1 H0 G H (.ref D) (.list done) :=
  ⟨[D], .lst (A := []) m.at_ (TrL.of_rep m.rep), by simp, fun b hb => by rw [List.mem_singleton.mp hb]; exact ⟨m.un, hn⟩⟩
theorem compP_len {g : Tg} {t : MT} {f : M} : ∀ {ds : List D} {ρ : Rho} {ys : List D}, compP g t f ds ρ = .ok ys → ys.length ≤ ds.length
  | [], _, _, e => by cases e; exact Nat.le_refl 0
  | d :: ds, ρ, ys, e => by
    unfold compP at e
    split at e
    · cases e
    · split at e
      · split at e
        · cases q : compP g t f ds ρ with
          | ok zs =>
            rw [q] at e
            cases e
            exact Nat.succ_le_succ (compP_len q)
          | exc x => rw [q] at e; cases e
          | bad => rw [q] at e; cases e
        · cases e
      · exact Nat.le_succ_of_le (compP_len e)
      · cases e
/-- .. as long as nothing that stood changes -/
structure SrcE (c : Cf) (G0 : Gh) (H0 : Hp) (Jt : It) (ds : List Nc.D) : Prop where
  go : ∀ G H i, Ext G0 H0 G H → GI G H → i < ds.length → Jt.go i H
  yld : ∀ G H i d x H', Ext G0 H0 G H → GI G H → ds[i]? = some d → Jt.yld i H x H' → Gr H H' ∧ Rep c G H' x d
  stop : ∀ G H, Ext G0 H0 G H → GI G H → Jt.stop ds.length H
theorem Src.e {c : Cf} {io : Nat → Bool} {G0 : Gh} {H0 : Hp} {Jt : It} {ds : List Nc.D} (g : GI G0 H0) (s : Src c io G0 H0 Jt ds) : SrcE c G0 H0 Jt ds where
  go := fun G H i e g' h => s.go G H i (e.stp g) g' h
  yld := fun G H i d x H' e g' h y => s.yld G H i d x H' (e.stp g) g' h y
  stop := fun G H e g' => s.stop G H (e.stp g) g'
def tJIE (X : Cx) (io : Nat → Bool) (W : WX) (p : Bool) (f : MI) : TI := fun σ H Rr => ∃ G ρ, RE (cfX X) G σ H ρ ∧
  Good X io W p σ G H (f ρ) fun ds _ G' H' => ∀ Jt, SrcE (cfX X) G' H' Jt ds → Rr Jt H'
structure JIE (X : Cx) (io : Nat → Bool) (W : WX) (p : Bool) (tg it : Expr) (f : MI) : Prop where
  pi : PI X tg it (tJIE X io W p f)
  pu : p = true → ∀ ρ d ρ', f ρ = .ok (d, ρ') → ρ' = ρ
theorem JI.e {tg it : Expr} {f : MI} (h : JI X io W p tg it f) : JIE X io W p tg it f := ⟨piI h.pi fun σ H Q q => by
  obtain ⟨G, ρ, re, q⟩ := q
  exact ⟨G, ρ, re, q.mono fun ds ρ1 G1 H1 s1 re1 q1 Jt sr => q1 Jt (sr.e re1.gi)⟩, h.pu⟩
theorem lc_of {elt iter : Expr} {ifs : List Expr} {scope : Scope} (own : List (Str × Nat)) {pos : Pos} {fi : MI} {g : Tg} {t : MT} {f : M} (hN : X.N.Nodup) (ok : BlkOk X.N X.env.scope scope own)
    (ht : ∀ s H C cl fp, JTs (Blk X s H scope cl C fp) io true ifs t) (he : ∀ s H C cl fp, J (Blk X s H scope cl C fp) io W0 true .f elt f)
    (hs : ∀ x, foldedSetIterable iter X.env x = pure x := by intro _; rfl) {Q : VK} (q : tJ X io W p (.n 1) (mLc (ownV own) fi g t f) σ H Q) : tLc (tJIE X io W p fi) (tG X (ioV (ownV own)) g) (tJT X io W0 true t) (tJ X io W0 true .f f) (ownV own) σ H Q := by
  obtain ⟨G, ρ, re, q⟩ := q
  refine ⟨G, ρ, re, (good_bindT re.gi q).mono fun ds ρ1 G1 H1 s1 re1 q1 Jt sr D hD => ?_⟩
  dsimp only at q1
  cases hv : compP g t f ds (wipeR ρ1 (ownV own)) with
  | exc x => rw [hv] at q1; exact q1.elim
  | bad => rw [hv] at q1; exact q1.elim
  | ok ys =>
    rw [hv] at q1
    dsimp only at q1
    by_cases hz : ys.length ≤ big
    · rw [if_pos hz] at q1
      have hbig : big ≤ sizeLine := by rw [sizeLine_eq]; decide
      have hD0 : H D = none := by
        cases e : H D with
        | none => rfl
        | some o => exact absurd hD ((s1.stp re.gi).dm D (by rw [e]; simp))
      refine ⟨fun i m H => m = ds.length - i ∧ i ≤ ds.length ∧ ∃ G acc done rest, Mk (cfX X) G1 H1 D done G H acc ∧ compP g t f (ds.drop i) (wipeR ρ1 (ownV own)) = .ok rest ∧ done ++ rest = ys,
        ⟨ds.length, by omega, Nat.zero_le _, G1, [], [], ys, Mk.start re1.gi hD, by rw [List.drop_zero]; exact hv, rfl⟩, ?_⟩
      rintro i m H2 ⟨rfl, hi2, G2, acc, done, rest, mk, hrest, hys⟩
      have s2 : Ext G1 H1 G2 H2 := mk.ext
      by_cases hlt : i < ds.length
      · obtain ⟨d, hd⟩ : ∃ d, ds[i]? = some d := ⟨_, List.getElem?_eq_getElem hlt⟩
        have ed : ds.drop i = d :: ds.drop (i + 1) := by
          rw [List.drop_eq_getElem_cons hlt]
          have := List.getElem?_eq_getElem hlt
          rw [hd] at this
          rw [Option.some.inj this]
        rw [ed] at hrest
        unfold compP at hrest
        refine .inr ⟨sr.go G2 H2 i s2 mk.gi hlt, fun H' => ∃ G acc done rest, Mk (cfX X) G1 H1 D done G H' acc ∧ compP g t f (ds.drop (i + 1)) (wipeR ρ1 (ownV own)) = .ok rest ∧ done ++ rest = ys,
          fun H' hN => ⟨ds.length - (i + 1), by omega, rfl, hlt, hN⟩, fun x H3 y => ?_⟩
        obtain ⟨gr, rx⟩ := sr.yld G2 H2 i d x H3 s2 mk.gi hd y
        have mk3 := mk.step gr.ext (gr.gi mk.gi)
        have re3 : RE (cfX X) G2 (L2.wipe σ (ownV own)) H3 (wipeR ρ1 (ownV own)) := RE.ext (RE.wipe re1 (ownV own)) mk3.ext mk3.gi
        split at hrest
        · cases hrest
        · rename_i ρ2 hg2
          refine ⟨G2, _, d, ρ2, re3, rx, hg2, fun σ4 k4 re4 => ⟨(wipe_eq k4).trans wipe_wipe, ?_⟩⟩
          split at hrest
          · rename_i ρ3 ht3
            have e3 := (ht X.s_0 H1 D [] []).pu rfl _ _ _ ht3
            subst e3
            refine tjt_ok (p := true) re4 ht3 fun G5 H5 s5 re5 => ?_
            have s5 : Ext G2 H3 G5 H5 := s5
            rw [if_pos rfl]
            split at hrest
            · rename_i y ρ6 hf6
              have e6 := (he X.s_0 H1 D [] []).pu rfl _ _ _ hf6
              subst e6
              refine tj_ok (p := true) (cl := .f) re5 hf6 fun G7 H7 v s7 re7 r7 => ?_
              have s7 : Ext G5 H5 G7 H7 := s7
              have mk7 := (mk3.step s5 re5.gi).step s7 re7.gi
              cases hq : compP g t f (ds.drop (i + 1)) (wipeR ρ1 (ownV own)) with
              | exc x => rw [hq] at hrest; cases hrest
              | bad => rw [hq] at hrest; cases hrest
              | ok zs =>
                rw [hq] at hrest
                cases hrest
                refine ⟨acc, mk7.at_, ?_, G7, acc ++ [v], done ++ [y], zs, mk7.put hD r7, rfl, by rw [List.append_assoc]; exact hys⟩
                have h1 := mk7.rep.length
                have h2 := congrArg List.length hys
                rw [List.length_append, List.length_cons] at h2
                omega
            · cases hrest
          · rename_i ρ3 ht3
            have e3 := (ht X.s_0 H1 D [] []).pu rfl _ _ _ ht3
            subst e3
            refine tjt_ok (p := true) re4 ht3 fun G5 H5 s5 re5 => ?_
            have s5 : Ext G2 H3 G5 H5 := s5
            rw [if_neg Bool.false_ne_true]
            exact ⟨G5, acc, done, rest, mk3.step s5 re5.gi, hrest, hys⟩
          · cases hrest
      · have ei : i = ds.length := by omega
        subst ei
        rw [List.drop_length] at hrest
        cases hrest
        rw [List.append_nil] at hys
        subst hys
        refine .inl ⟨sr.stop G2 H2 s2 mk.gi, ?_⟩
        exact q1 G2 H2 (show StepOf true io G1 H1 G2 H2 from mk.ext) (re1.ext mk.ext mk.gi) _ (mk.new hD0)
    · rw [if_neg hz] at q1; exact q1.elim
theorem mLc_pu {vs : List Nat} {fi : MI} {g : Tg} {t : MT} {f : M} (h : ∀ ρ d ρ', fi ρ = .ok (d, ρ') → ρ' = ρ) : ∀ ρ d ρ', mLc vs fi g t f ρ = .ok (d, ρ') → ρ' = ρ := pu_bind h fun b ρ z ρ' e => by
  dsimp only at e
  split at e
  · split at e
    · cases e; rfl
    · cases e
  · cases e
theorem j_lcX {elt tg iter : Expr} {ifs : List Expr} {scope : Scope} (own : List (Str × Nat)) {pos : Pos} {fi : MI} {g : Tg} {t : MT} {f : M} (hc : X.calm = true) (hN : X.N.Nodup) (hi : JIE X io W p tg iter fi) (ok : BlkOk X.N X.env.scope scope own)
    (hg : ∀ s H C cl fp, JG (Blk X s H scope cl C fp) (ioV (ownV own)) tg g) (ht : ∀ s H C cl fp, JTs (Blk X s H scope cl C fp) io true ifs t) (he : ∀ s H C cl fp, J (Blk X s H scope cl C fp) io W0 true .f elt f)
    (hs : ∀ x, foldedSetIterable iter X.env x = pure x := by intro _; rfl) : J X io W p (.n 1) (.ListComp elt [⟨tg, iter, ifs, 0⟩] scope pos) (mLc (ownV own) fi g t f) := by
  exact ⟨peI (pe_lc (g := tG X (ioV (ownV own)) g) (tt := tJT X io W0 true t) (te := tJ X io W0 true .f f) hc hN hi.pi ok hg (fun s H C cl fp => (ht s H C cl fp).ts) (fun s H C cl fp => (he s H C cl fp).pe) hs) fun σ H Q q => lc_of own (pos := pos) hN ok ht he hs q, fun z => mLc_pu (hi.pu z)⟩
theorem j_lc {elt tg iter : Expr} {ifs : List Expr} {scope : Scope} (own : List (Str × Nat)) {pos : Pos} {fi : MI} {g : Tg} {t : MT} {f : M} (hc : X.calm = true) (hN : X.N.Nodup) (hi : JI X io W p tg iter fi) (ok : BlkOk X.N X.env.scope scope own)
    (hg : ∀ s H C cl fp, JG (Blk X s H scope cl C fp) (ioV (ownV own)) tg g) (ht : ∀ s H C cl fp, JTs (Blk X s H scope cl C fp) io true ifs t) (he : ∀ s H C cl fp, J (Blk X s H scope cl C fp) io W0 true .f elt f)
    (hs : ∀ x, foldedSetIterable iter X.env x = pure x := by intro _; rfl) : J X io W p (.n 1) (.ListComp elt [⟨tg, iter, ifs, 0⟩] scope pos) (mLc (ownV own) fi g t f) := j_lcX own hc hN hi.e ok hg ht he hs
theorem mLc_ok {vs : List Nat} {fi : MI} {g : Tg} {t : MT} {f : M} {ρ ρ' : Rho} {d : Nc.D} (e : mLc vs fi g t f ρ = .ok (d, ρ')) : okF 1 d = true := by
  unfold mLc at e
  cases q : fi ρ with
  | ok a =>
    rw [q] at e
    dsimp only [R.bind_ok] at e
    split at e
    · split at e
      · cases e; exact List.all_eq_true.mpr fun _ _ => rfl
      · cases e
    · cases e
  | exc x => rw [q] at e; cases e
  | bad => rw [q] at e; cases e
/-- what a store to a slot asks of the value -/
theorem set_tj {i k : Nat} {f : M} (hio : io i = false) {D : Ends} (q : tS X io W rk (sSet i k f) D σ H) : tJ X io W p (.n k) f σ H (fun x H1 => gName i x σ H1 D.nx) := by
  obtain ⟨G, ρ, re, q⟩ := q
  refine ⟨G, ρ, re, ?_⟩
  have q : GoodS X io W σ G H ((f ρ).bind fun x => .ok (.nx, x.2.set i (some (k, x.1)))) _ := q
  cases e : f ρ with
  | ok a =>
    obtain ⟨d, ρ1⟩ := a
    rw [e] at q
    intro G1 H1 s1 re1 v r
    obtain ⟨A, t, nd, n⟩ := r
    exact q (σ.set i (some v)) _ H1 (Kio.set hio) (Stp.tag (A := A) (t := .own i) (s1.stp re.gi) n) (re1.setN t nd fun a ha => (n a ha).1)
  | exc x => rw [e] at q; exact q σ Kio.refl
  | bad => rw [e] at q; exact q.elim
/-- .. of a list that is frozen at once -/
theorem set_tj0 {i : Nat} {f : M} (hio : io i = false) (hf : ∀ ρ d ρ', f ρ = .ok (d, ρ') → okF 1 d = true) {D : Ends} (q : tS X io W rk (sSet i 0 f) D σ H) : tJ X io W p (.n 1) f σ H (fun x H1 => gName i x σ H1 D.nx) := by
  obtain ⟨G, ρ, re, q⟩ := q
  refine ⟨G, ρ, re, ?_⟩
  have q : GoodS X io W σ G H ((f ρ).bind fun x => .ok (.nx, x.2.set i (some (0, x.1)))) _ := q
  cases e : f ρ with
  | ok a =>
    obtain ⟨d, ρ1⟩ := a
    rw [e] at q
    intro G1 H1 s1 re1 v r
    obtain ⟨G2, re2, s2, rp⟩ := New.frz (hf _ _ _ e) re1 re.gi s1 r
    exact q (σ.set i (some v)) G2 H1 (Kio.set hio) (s2.stp re.gi) (re2.set0 rp)
  | exc x => rw [e] at q; exact q σ Kio.refl
  | bad => rw [e] at q; exact q.elim
theorem js_setLcX (k : Nat) (i : Nat) {y : Str} {py spos : Pos} {elt tg iter : Expr} {ifs : List Expr} {scope : Scope} (own : List (Str × Nat)) {pos : Pos} {fi : MI} {g : Tg} {t : MT} {f : M} (hc : X.calm = true) (hN : X.N.Nodup) (hi : JIE X io W p tg iter fi) (ok : BlkOk X.N X.env.scope scope own)
    (hg : ∀ s H C cl fp, JG (Blk X s H scope cl C fp) (ioV (ownV own)) tg g) (ht : ∀ s H C cl fp, JTs (Blk X s H scope cl C fp) io true ifs t) (he : ∀ s H C cl fp, J (Blk X s H scope cl C fp) io W0 true .f elt f)
     (hk : k = 0 ∨ k = 1) (hio : io i = false) (hy : X.N[i]? = some y := by rfl) (hyl : X.env.scope.names.lookup y = some .local := by rfl)
    (hsw : swapsWith (.ListComp elt [⟨tg, iter, ifs, 0⟩] scope pos) (some (.Name y py)) spos.line X.env = pure true := by rfl) (hs : ∀ x, foldedSetIterable iter X.env x = pure x := by intro _; rfl) :
    JS X io W rk (.Assign [.Name y py] (.ListComp elt [⟨tg, iter, ifs, 0⟩] scope pos) spos) (sSet i k (mLc (ownV own) fi g t f)) :=
  psI (ps_setLc (g := tG X (ioV (ownV own)) g) (tt := tJT X io W0 true t) (te := tJ X io W0 true .f f) hc hN hy hyl hsw hi.pi ok hg (fun s H C cl fp => (ht s H C cl fp).ts) (fun s H C cl fp => (he s H C cl fp).pe) hs) fun D σ H q => by
    rcases hk with hk | hk <;> subst hk
    · exact lc_of own (pos := pos) hN ok ht he hs (set_tj0 hio (fun _ _ _ e => mLc_ok e) q)
    · exact lc_of own (pos := pos) hN ok ht he hs (set_tj hio q)
theorem js_setLc (k : Nat) (i : Nat) {y : Str} {py spos : Pos} {elt tg iter : Expr} {ifs : List Expr} {scope : Scope} (own : List (Str × Nat)) {pos : Pos} {fi : MI} {g : Tg} {t : MT} {f : M} (hc : X.calm = true) (hN : X.N.Nodup) (hi : JI X io W p tg iter fi) (ok : BlkOk X.N X.env.scope scope own)
    (hg : ∀ s H C cl fp, JG (Blk X s H scope cl C fp) (ioV (ownV own)) tg g) (ht : ∀ s H C cl fp, JTs (Blk X s H scope cl C fp) io true ifs t) (he : ∀ s H C cl fp, J (Blk X s H scope cl C fp) io W0 true .f elt f)
     (hk : k = 0 ∨ k = 1) (hio : io i = false) (hy : X.N[i]? = some y := by rfl) (hyl : X.env.scope.names.lookup y = some .local := by rfl)
    (hsw : swapsWith (.ListComp elt [⟨tg, iter, ifs, 0⟩] scope pos) (some (.Name y py)) spos.line X.env = pure true := by rfl) (hs : ∀ x, foldedSetIterable iter X.env x = pure x := by intro _; rfl) :
    JS X io W rk (.Assign [.Name y py] (.ListComp elt [⟨tg, iter, ifs, 0⟩] scope pos) spos) (sSet i k (mLc (ownV own) fi g t f)) := js_setLcX k i own hc hN hi.e ok hg ht he hk hio hy hyl hsw hs
end
end Nc
namespace Nc
open PySem PySem.Spec L2
open PyProof.Rows hiding St

def compE (vs : List Nat) (g : Tg) (t : MT) (f : M) : List D → Rho → R (List D × Rho)
  | [], ρ => .ok ([], ρ)
  | d :: ds, ρ => match g d ρ with
    | none => .bad
    | some ρ1 => match t ρ1 with
      | .ok (true, ρ2) => match f ρ2 with
        | .ok (y, ρ3) => (compE vs g t f ds (wipeR ρ3 vs)).bind fun z => .ok (y :: z.1, z.2)
        | _ => .bad
      | .ok (false, ρ2) => compE vs g t f ds (wipeR ρ2 vs)
      | _ => .bad
/-- the frame's own slots again -/
def backR (ρ ρ' : Rho) : List Nat → Rho
  | [] => ρ'
  | v :: vs => (backR ρ ρ' vs).set v (match ρ[v]? with
    | some (some (0, d)) => some (0, d)
    | _ => none)
def mLcE (vs : List Nat) (fi : MI) (g : Tg) (t : MT) (f : M) : M := fun ρ => (fi ρ).bind fun x => match compE vs g t f x.1 (wipeR x.2 vs) with
  | .ok (ys, ρ') => if ys.length ≤ big then .ok (.list ys, backR x.2 ρ' vs) else .bad
  | _ => .bad
section
variable {X : Cx} {io : Nat → Bool} {W : WX} {rk : Nat} {c : Cf} {p p1 p2 p3 : Bool} {cl cl1 cl2 cl3 : Cls} {G G0 G1 G2 G' : Gh} {H H0 H1 H2 H' : Hp} {σ σ1 σ2 σ' : L2.St} {ρ ρ1 ρ2 ρ' : Rho}
theorem backR_length {ρ ρ' : Rho} : ∀ vs : List Nat, (backR ρ ρ' vs).length = ρ'.length
  | [] => rfl
  | v :: vs => by unfold backR; rw [List.length_set, backR_length vs]
theorem backR_some {ρ ρ' : Rho} {i k : Nat} {d : D} : ∀ {vs : List Nat}, (backR ρ ρ' vs)[i]? = some (some (k, d)) → (k = 0 ∧ ρ[i]? = some (some (0, d))) ∨ (i ∉ vs ∧ ρ'[i]? = some (some (k, d)))
  | [], h => .inr ⟨by simp, h⟩
  | v :: vs, h => by
    unfold backR at h
    rw [List.getElem?_set] at h
    split at h
    · rename_i hv
      subst hv
      split at h
      · have h := Option.some.inj h
        split at h
        · rename_i d0 e
          cases h
          exact .inl ⟨rfl, e⟩
        · cases h
      · cases h
    · rename_i hv
      rcases backR_some h with q | ⟨q1, q2⟩
      · exact .inl q
      · exact .inr ⟨by simp only [List.mem_cons, not_or]; exact ⟨fun e => hv e.symm, q1⟩, q2⟩
theorem RE.backR {vs : List Nat} (re : RE c G1 σ H1 ρ) (s : Stp io G1 H1 G H) (re' : RE c G (L2.wipe σ vs) H ρ') : RE c G σ H (backR ρ ρ' vs) := by
  refine ⟨by rw [backR_length, re'.len, wipe_length], re'.gi, fun i k d e => ?_⟩
  rcases backR_some e with ⟨rfl, q⟩ | ⟨q1, q2⟩
  · obtain ⟨v, A, h1, h2, h3, h4⟩ := re.at_ i 0 d q
    cases h2 with
    | leaf r => exact ⟨v, [], h1, .leaf (r.stp s), List.nodup_nil, fun a h => by cases h⟩
  · obtain ⟨v, A, h1, h2⟩ := re'.at_ i k d q2
    exact ⟨v, A, (wipe_some h1).1, h2⟩
/-- a list in the making, beside what was lent -/
structure MkE (c : Cf) (io : Nat → Bool) (G1 : Gh) (H1 : Hp) (D : Addr) (done : List Nc.D) (G : Gh) (H : Hp) (acc : List V) : Prop where
  stp : Stp io G1 H1 G H
  at_ : H D = some (.lst acc)
  un : G D = none
  rep : RepL c G H acc done
theorem MkE.start {D : Addr} (g : GI G1 H1) (h : H1 D = none) : MkE c io G1 H1 D [] G1 (L2.upd H1 D (.lst [])) [] where
  stp := Ext.stp g (Gr.upd h).ext
  at_ := upd_same
  un := g.none h
  rep := .nil
theorem MkE.step {D : Addr} {done : List Nc.D} {acc : List V} (m : MkE c io G1 H1 D done G H acc) (e : Stp io G H G' H') : MkE c io G1 H1 D done G' H' acc where
  stp := m.stp.trans e
  at_ := e.kp _ _ m.at_ fun i z => by rw [m.un] at z; cases z
  un := e.un D (by rw [m.at_]; simp) m.un
  rep := m.rep.stp e
theorem MkE.put {D : Addr} {done : List Nc.D} {acc : List V} {y : V} {d : Nc.D} (m : MkE c io G1 H1 D done G H acc) (hn : H1 D = none) (r : Rep c G H y d) : MkE c io G1 H1 D (done ++ [d]) G (L2.upd H D (.lst (acc ++ [y]))) (acc ++ [y]) where
  stp := by
    have ne : ∀ {a : Addr}, H1 a ≠ none → a ≠ D := fun h e => h (e ▸ hn)
    refine ⟨m.stp.fz, m.stp.un, fun a o e n => ?_, fun a h => ?_, m.stp.ow, m.stp.rt, fun a xs e => ?_, fun a o u e => ?_⟩
    · rw [upd_ne (ne (by rw [e]; simp))]; exact m.stp.kp a o e n
    · rw [upd_ne (ne h)]; exact m.stp.dm a h
    · rw [upd_ne (ne (by rw [e]; simp))]; exact m.stp.tp a xs e
    · rw [upd_ne (ne (by rw [e]; simp))]; exact m.stp.fr a o u e
  at_ := upd_same
  un := m.un
  rep := (m.rep.lk (lk_upd m.un m.at_)).append (.cons (r.lk (lk_upd m.un m.at_)) .nil)
theorem lcE_of {elt tg iter : Expr} {ifs : List Expr} {scope : Scope} (own : List (Str × Nat)) {pos : Pos} {fi : MI} {g : Tg} {t : MT} {f : M} (hc : X.calm = true) (hN : X.N.Nodup) (hi : JI X io W p tg iter fi) (ok : BlkOk X.N X.env.scope scope own)
    (hg : ∀ s H C cl fp, JG (Blk X s H scope cl C fp) (ioV (ownV own)) tg g) (ht : ∀ s H C cl fp, JTs (Blk X s H scope cl C fp) io p2 ifs t) (he : ∀ s H C cl fp, J (Blk X s H scope cl C fp) io W0 p3 .f elt f)
    (hs : ∀ x, foldedSetIterable iter X.env x = pure x := by intro _; rfl) {Q : VK} (q : tJ X io W false (.n 1) (mLcE (ownV own) fi g t f) σ H Q) : tLc (tJI X io W p fi) (tG X (ioV (ownV own)) g) (tJT X io W0 p2 t) (tJ X io W0 p3 .f f) (ownV own) σ H Q := by
  obtain ⟨G, ρ, re, q⟩ := q
  refine ⟨G, ρ, re, (Good.bind (p1 := p) (p2 := false) re.gi (by rw [Bool.and_false]; exact q)).mono fun ds ρ1 G1 H1 s1 re1 q1 Jt sr D hD => ?_⟩
  dsimp only at q1
  cases hv : compE (ownV own) g t f ds (wipeR ρ1 (ownV own)) with
  | exc x => rw [hv] at q1; exact q1.elim
  | bad => rw [hv] at q1; exact q1.elim
  | ok ysr =>
    obtain ⟨ys, ρf⟩ := ysr
    rw [hv] at q1
    dsimp only at q1
    by_cases hz : ys.length ≤ big
    · rw [if_pos hz] at q1
      have hbig : big ≤ sizeLine := by rw [sizeLine_eq]; decide
      have hD0 : H D = none := by
        cases e : H D with
        | none => rfl
        | some o => exact absurd hD ((s1.stp re.gi).dm D (by rw [e]; simp))
      refine ⟨fun i m H => m = ds.length - i ∧ i ≤ ds.length ∧ ∃ G acc done rest ρi, RE (cfX X) G (L2.wipe σ (ownV own)) H ρi ∧ MkE (cfX X) io G1 H1 D done G H acc ∧ compE (ownV own) g t f (ds.drop i) ρi = .ok (rest, ρf) ∧ done ++ rest = ys,
        ⟨ds.length, by omega, Nat.zero_le _, G1, [], [], ys, _, RE.gr (RE.wipe re1 (ownV own)) (Gr.upd hD), MkE.start re1.gi hD, by rw [List.drop_zero]; exact hv, rfl⟩, ?_⟩
      rintro i m H2 ⟨rfl, hi2, G2, acc, done, rest, ρi, rei, mk, hrest, hys⟩
      have s2 : Stp io G1 H1 G2 H2 := mk.stp
      by_cases hlt : i < ds.length
      · obtain ⟨d, hd⟩ : ∃ d, ds[i]? = some d := ⟨_, List.getElem?_eq_getElem hlt⟩
        have ed : ds.drop i = d :: ds.drop (i + 1) := by
          rw [List.drop_eq_getElem_cons hlt]
          have := List.getElem?_eq_getElem hlt
          rw [hd] at this
          rw [Option.some.inj this]
        rw [ed] at hrest
        unfold compE at hrest
        refine .inr ⟨sr.go G2 H2 i s2 rei.gi hlt, fun H' => ∃ G acc done rest ρi, RE (cfX X) G (L2.wipe σ (ownV own)) H' ρi ∧ MkE (cfX X) io G1 H1 D done G H' acc ∧ compE (ownV own) g t f (ds.drop (i + 1)) ρi = .ok (rest, ρf) ∧ done ++ rest = ys,
          fun H' hN => ⟨ds.length - (i + 1), by omega, rfl, hlt, hN⟩, fun x H3 y => ?_⟩
        obtain ⟨gr, rx⟩ := sr.yld G2 H2 i d x H3 s2 rei.gi hd y
        have mk3 := mk.step (Ext.stp rei.gi gr.ext)
        have re3 : RE (cfX X) G2 (L2.wipe σ (ownV own)) H3 ρi := rei.gr gr
        split at hrest
        · cases hrest
        · rename_i ρ2 hg2
          refine ⟨G2, _, d, ρ2, re3, rx, hg2, fun σ4 k4 re4 => ?_⟩
          have ew : L2.wipe σ4 (ownV own) = L2.wipe σ (ownV own) := (wipe_eq k4).trans wipe_wipe
          refine ⟨ew, ?_⟩
          split at hrest
          · rename_i ρ3 ht3
            refine tjt_ok (p := p2) re4 ht3 fun G5 H5 s5 re5 => ?_
            have s5 := s5.stp re4.gi
            rw [if_pos rfl]
            split at hrest
            · rename_i y ρ6 hf6
              refine tj_ok (p := p3) (cl := .f) re5 hf6 fun G7 H7 v s7 re7 r7 => ?_
              have s7 := s7.stp re5.gi
              have mk7 := (mk3.step s5).step s7
              cases hq : compE (ownV own) g t f (ds.drop (i + 1)) (wipeR ρ6 (ownV own)) with
              | exc x => rw [hq] at hrest; cases hrest
              | bad => rw [hq] at hrest; cases hrest
              | ok zs =>
                rw [hq] at hrest
                obtain ⟨zs, ρz⟩ := zs
                cases hrest
                refine ⟨acc, mk7.at_, ?_, G7, acc ++ [v], done ++ [y], zs, _, ?_, mk7.put hD r7, hq, by rw [List.append_assoc]; exact hys⟩
                · have h1 := mk7.rep.length
                  have h2 := congrArg List.length hys
                  rw [List.length_append, List.length_cons] at h2
                  omega
                · rw [← ew]
                  exact RE.wipe (re7.lk (lk_upd mk7.un mk7.at_)) (ownV own)
            · cases hrest
          · rename_i ρ3 ht3
            refine tjt_ok (p := p2) re4 ht3 fun G5 H5 s5 re5 => ?_
            have s5 := s5.stp re4.gi
            rw [if_neg Bool.false_ne_true]
            refine ⟨G5, acc, done, rest, _, ?_, mk3.step s5, hrest, hys⟩
            rw [← ew]
            exact RE.wipe re5 (ownV own)
          · cases hrest
      · have ei : i = ds.length := by omega
        subst ei
        rw [List.drop_length] at hrest
        cases hrest
        rw [List.append_nil] at hys
        subst hys
        refine .inl ⟨sr.stop G2 H2 s2 rei.gi, ?_⟩
        refine q1 G2 H2 (show StepOf false io G1 H1 G2 H2 from mk.stp) (RE.backR re1 mk.stp rei) _ ⟨[D], .lst (A := []) mk.at_ (TrL.of_rep mk.rep), by simp, fun b hb => ?_⟩
        rw [List.mem_singleton.mp hb]; exact ⟨mk.un, hD0⟩
    · rw [if_neg hz] at q1; exact q1.elim
theorem j_lcE {elt tg iter : Expr} {ifs : List Expr} {scope : Scope} (own : List (Str × Nat)) {pos : Pos} {fi : MI} {g : Tg} {t : MT} {f : M} (hc : X.calm = true) (hN : X.N.Nodup) (hi : JI X io W p tg iter fi) (ok : BlkOk X.N X.env.scope scope own)
    (hg : ∀ s H C cl fp, JG (Blk X s H scope cl C fp) (ioV (ownV own)) tg g) (ht : ∀ s H C cl fp, JTs (Blk X s H scope cl C fp) io p2 ifs t) (he : ∀ s H C cl fp, J (Blk X s H scope cl C fp) io W0 p3 .f elt f)
    (hs : ∀ x, foldedSetIterable iter X.env x = pure x := by intro _; rfl) : J X io W false (.n 1) (.ListComp elt [⟨tg, iter, ifs, 0⟩] scope pos) (mLcE (ownV own) fi g t f) := by
  exact ⟨peI (pe_lc (g := tG X (ioV (ownV own)) g) (tt := tJT X io W0 p2 t) (te := tJ X io W0 p3 .f f) hc hN hi.pi ok hg (fun s H C cl fp => (ht s H C cl fp).ts) (fun s H C cl fp => (he s H C cl fp).pe) hs) fun σ H Q q => lcE_of own (pos := pos) hc hN hi ok hg ht he hs q, fun z => by cases z⟩
theorem mLcE_ok {vs : List Nat} {fi : MI} {g : Tg} {t : MT} {f : M} {ρ ρ' : Rho} {d : Nc.D} (e : mLcE vs fi g t f ρ = .ok (d, ρ')) : okF 1 d = true := by
  unfold mLcE at e
  cases q : fi ρ with
  | ok a =>
    rw [q] at e
    dsimp only [R.bind_ok] at e
    split at e
    · split at e
      · cases e; exact List.all_eq_true.mpr fun _ _ => rfl
      · cases e
    · cases e
  | exc x => rw [q] at e; cases e
  | bad => rw [q] at e; cases e
theorem js_setLcE (k : Nat) (i : Nat) {y : Str} {py spos : Pos} {elt tg iter : Expr} {ifs : List Expr} {scope : Scope} (own : List (Str × Nat)) {pos : Pos} {fi : MI} {g : Tg} {t : MT} {f : M} (hc : X.calm = true) (hN : X.N.Nodup) (hi : JI X io W p tg iter fi) (ok : BlkOk X.N X.env.scope scope own)
    (hg : ∀ s H C cl fp, JG (Blk X s H scope cl C fp) (ioV (ownV own)) tg g) (ht : ∀ s H C cl fp, JTs (Blk X s H scope cl C fp) io p2 ifs t) (he : ∀ s H C cl fp, J (Blk X s H scope cl C fp) io W0 p3 .f elt f)
     (hk : k = 0 ∨ k = 1) (hio : io i = false) (hy : X.N[i]? = some y := by rfl) (hyl : X.env.scope.names.lookup y = some .local := by rfl)
    (hsw : swapsWith (.ListComp elt [⟨tg, iter, ifs, 0⟩] scope pos) (some (.Name y py)) spos.line X.env = pure true := by rfl) (hs : ∀ x, foldedSetIterable iter X.env x = pure x := by intro _; rfl) :
    JS X io W rk (.Assign [.Name y py] (.ListComp elt [⟨tg, iter, ifs, 0⟩] scope pos) spos) (sSet i k (mLcE (ownV own) fi g t f)) :=
  psI (ps_setLc (g := tG X (ioV (ownV own)) g) (tt := tJT X io W0 p2 t) (te := tJ X io W0 p3 .f f) hc hN hy hyl hsw hi.pi ok hg (fun s H C cl fp => (ht s H C cl fp).ts) (fun s H C cl fp => (he s H C cl fp).pe) hs) fun D σ H q => by
    rcases hk with hk | hk <;> subst hk
    · exact lcE_of own (pos := pos) hc hN hi ok hg ht he hs (set_tj0 hio (fun _ _ _ e => mLcE_ok e) q)
    · exact lcE_of own (pos := pos) hc hN hi ok hg ht he hs (set_tj hio q)
/-- the list in the making, held by a slot that is none -/
def tgD (D : Addr) (N : Nat) (G : Gh) : Gh := fun a => if a ∈ [D] then some (.own N) else G a
def unD (D : Addr) (G : Gh) : Gh := fun a => if a = D then none else G a
theorem unD_fz {D : Addr} {N : Nat} (h : G D = some (.own N)) {a : Addr} (e : G a = some .fz) : unD D G a = some .fz := by
  unfold unD
  rw [if_neg fun z => by rw [z, h] at e; cases e]; exact e
theorem RE.unD {D : Addr} {N : Nat} (re : RE c G σ H ρ) (h : G D = some (.own N)) (hN : ρ.length ≤ N) : RE c (unD D G) σ H ρ := by
  refine ⟨re.len, fun a q => re.gi a fun z => q ?_, fun i k d e => ?_⟩
  · unfold Nc.unD
    split
    · rfl
    · exact z
  · obtain ⟨v, A, h1, h2, h3, h4⟩ := re.at_ i k d e
    refine ⟨v, A, h1, h2.kps ⟨fun r => Rep.tags (fun a => unD_fz h) r, fun _ _ _ h => h⟩, h3, fun a ha => ?_⟩
    have hi := (List.getElem?_eq_some_iff.mp e).1
    unfold Nc.unD
    rw [if_neg fun z => by
      have := h4 a ha
      rw [z, h] at this
      cases this
      omega]
    exact h4 a ha
/-- all but the list at D stays -/
structure ExD (D : Addr) (G : Gh) (H : Hp) (G' : Gh) (H' : Hp) : Prop where
  h : ∀ a o, a ≠ D → H a = some o → H' a = some o
  g : ∀ a, a ≠ D → H a ≠ none → G' a = G a
  d : H' D ≠ none
theorem ExD.step {D : Addr} (x : ExD D G H G1 H1) (e : Ext G1 H1 G2 H2) : ExD D G H G2 H2 :=
  ⟨fun a o n h => e.h a o (x.h a o n h), fun a n h => (e.g a (by
    cases q : H a with
    | none => exact absurd q h
    | some o => rw [x.h a o n q]; simp)).trans (x.g a n h), e.dm x.d⟩
theorem ExD.put {D : Addr} {o : HO} (x : ExD D G H G1 H1) : ExD D G H G1 (L2.upd H1 D o) :=
  ⟨fun a o n h => by rw [upd_ne n]; exact x.h a o n h, x.g, by rw [upd_same]; simp⟩
theorem ExD.stp {D : Addr} {N : Nat} {acc : List V} (gi : GI G H) (x : ExD D (Nc.unD D G) H G' H') (hg : G D = some (.own N)) (hD : H D = some (.lst acc)) : Stp io G H (tgD D N G') H' := by
  have ne : ∀ a, a ≠ D → tgD D N G' a = G' a := fun a n => if_neg (by simpa using n)
  have same : tgD D N G' D = some (.own N) := if_pos (by simp)
  have gg : ∀ a, a ≠ D → H a ≠ none → tgD D N G' a = G a := fun a n h => by
    rw [ne a n, x.g a n h]
    unfold Nc.unD
    rw [if_neg n]
  refine ⟨fun a h => ?_, fun a h h' => ?_, fun a o h n => ?_, fun a h => ?_, fun a i h e => ?_, fun a h e => ?_, fun a xs h => ?_, fun a o u h => ?_⟩
  · by_cases n : a = D
    · rw [n, hg] at h; cases h
    · by_cases q : H a = none
      · exact absurd q (gi a (by rw [h]; simp))
      · rw [gg a n q]; exact h
  · by_cases n : a = D
    · rw [n, hg] at h'; cases h'
    · rw [gg a n h]; exact h'
  · exact x.h a o (fun z => n N (by rw [z]; exact hg)) h
  · by_cases n : a = D
    · rw [n]; exact x.d
    · cases q : H a with
      | none => exact absurd q h
      | some o => rw [x.h a o n q]; simp
  · by_cases n : a = D
    · rw [n] at e ⊢; rw [same] at e; rw [hg]; exact e
    · rw [← gg a n h]; exact e
  · by_cases n : a = D
    · rw [n, same] at e; cases e
    · exact .inl (by rw [← gg a n h]; exact e)
  · exact x.h a _ (fun z => by rw [z, hD] at h; cases h) h
  · exact x.h a _ (fun z => by rw [z, hD] at h; cases h) h
end
/-- the rows that one item of the first source gives -/
def compP2 (g : Tg) (t : MT) (fi1 : MI) (g1 : Tg) (t1 : MT) (f : M) (vs1 : List Nat) : List D → Rho → R (List D)
  | [], _ => .ok []
  | d :: ds, ρ => match g d ρ with
    | none => .bad
    | some ρ1 => match t ρ1 with
      | .ok (true, _) => match fi1 ρ1 with
        | .ok (es, _) => match compP g1 t1 f es (wipeR ρ1 vs1) with
          | .ok ys => (compP2 g t fi1 g1 t1 f vs1 ds ρ).bind fun zs => .ok (ys ++ zs)
          | _ => .bad
        | _ => .bad
      | .ok (false, _) => compP2 g t fi1 g1 t1 f vs1 ds ρ
      | _ => .bad
def mLc2 (vs vs1 : List Nat) (fi : MI) (g : Tg) (t : MT) (fi1 : MI) (g1 : Tg) (t1 : MT) (f : M) : M := fun ρ => (fi ρ).bind fun x => match compP2 g t fi1 g1 t1 f vs1 x.1 (wipeR x.2 vs) with
  | .ok ys => if ys.length ≤ big then .ok (.list ys, x.2) else .bad
  | _ => .bad
section
variable {X : Cx} {io : Nat → Bool} {W : WX} {rk : Nat} {c : Cf} {p p1 p2 p3 : Bool} {cl cl1 cl2 cl3 : Cls} {G G0 G1 G2 G' : Gh} {H H0 H1 H2 H' : Hp} {σ σ1 σ2 σ' : L2.St} {ρ ρ1 ρ2 ρ' : Rho}
theorem lc2_of {elt tg iter tg1 iter1 : Expr} {ifs ifs1 : List Expr} {scope : Scope} (own : List (Str × Nat)) (vs1 : List Nat) {pos : Pos} {fi fi1 : MI} {g g1 : Tg} {t t1 : MT} {f : M} (hc : X.calm = true) (hN : X.N.Nodup) (hi : JI X io W p tg iter fi) (ok : BlkOk X.N X.env.scope scope own) (hv1 : ∀ i ∈ vs1, i ∈ ownV own)
    (hg : ∀ s H C cl fp, JG (Blk X s H scope cl C fp) (ioV (ownV own)) tg g) (ht : ∀ s H C cl fp, JTs (Blk X s H scope cl C fp) io true ifs t)
    (hi1 : ∀ s H C cl fp, JI (Blk X s H scope cl C fp) io W0 true tg1 iter1 fi1) (hg1 : ∀ s H C cl fp, JG (Blk X s H scope cl C fp) (ioV vs1) tg1 g1) (ht1 : ∀ s H C cl fp, JTs (Blk X s H scope cl C fp) io true ifs1 t1)
    (he : ∀ s H C cl fp, J (Blk X s H scope cl C fp) io W0 true .f elt f)
    (hs : ∀ x, foldedSetIterable iter X.env x = pure x := by intro _; rfl) (hs1 : ∀ env x, foldedSetIterable iter1 env x = pure x := by intro _ _; rfl) {Q : VK} (q : tJ X io W p (.n 1) (mLc2 (ownV own) vs1 fi g t fi1 g1 t1 f) σ H Q) : tLc2 (tJI X io W p fi) (tG X (ioV (ownV own)) g) (tJT X io W0 true t) (tJI X io W0 true fi1) (tG X (ioV vs1) g1) (tJT X io W0 true t1) (tJ X io W0 true .f f) (ownV own) vs1 σ H Q := by
  obtain ⟨G, ρ, re, q⟩ := q
  refine ⟨G, ρ, re, (good_bindT re.gi q).mono fun ds ρ1 G1 H1 s1 re1 q1 Jt sr D hD => ?_⟩
  dsimp only at q1
  cases hv : compP2 g t fi1 g1 t1 f vs1 ds (wipeR ρ1 (ownV own)) with
  | exc x => rw [hv] at q1; exact q1.elim
  | bad => rw [hv] at q1; exact q1.elim
  | ok ys =>
    rw [hv] at q1
    dsimp only at q1
    by_cases hz : ys.length ≤ big
    · rw [if_pos hz] at q1
      have hbig : big ≤ sizeLine := by rw [sizeLine_eq]; decide
      have hD0 : H D = none := by
        cases e : H D with
        | none => rfl
        | some o => exact absurd hD ((s1.stp re.gi).dm D (by rw [e]; simp))
      refine ⟨fun i m H => m = ds.length - i ∧ i ≤ ds.length ∧ ∃ G acc done rest, Mk (cfX X) G1 H1 D done G H acc ∧ compP2 g t fi1 g1 t1 f vs1 (ds.drop i) (wipeR ρ1 (ownV own)) = .ok rest ∧ done ++ rest = ys,
        ⟨ds.length, by omega, Nat.zero_le _, G1, [], [], ys, Mk.start re1.gi hD, by rw [List.drop_zero]; exact hv, rfl⟩, ?_⟩
      rintro i m H2 ⟨rfl, hi2, G2, acc, done, rest, mk, hrest, hys⟩
      have s2 : Stp io G1 H1 G2 H2 := Ext.stp re1.gi mk.ext
      by_cases hlt : i < ds.length
      · obtain ⟨d, hd⟩ : ∃ d, ds[i]? = some d := ⟨_, List.getElem?_eq_getElem hlt⟩
        have ed : ds.drop i = d :: ds.drop (i + 1) := by
          rw [List.drop_eq_getElem_cons hlt]
          have := List.getElem?_eq_getElem hlt
          rw [hd] at this
          rw [Option.some.inj this]
        rw [ed] at hrest
        unfold compP2 at hrest
        refine .inr ⟨sr.go G2 H2 i s2 mk.gi hlt, fun H' => ∃ G acc done rest, Mk (cfX X) G1 H1 D done G H' acc ∧ compP2 g t fi1 g1 t1 f vs1 (ds.drop (i + 1)) (wipeR ρ1 (ownV own)) = .ok rest ∧ done ++ rest = ys,
          fun H' hN => ⟨ds.length - (i + 1), by omega, rfl, hlt, hN⟩, fun x H3 y => ?_⟩
        obtain ⟨gr, rx⟩ := sr.yld G2 H2 i d x H3 s2 mk.gi hd y
        have mk3 := mk.step gr.ext (gr.gi mk.gi)
        have re3 : RE (cfX X) G2 (L2.wipe σ (ownV own)) H3 (wipeR ρ1 (ownV own)) := RE.ext (RE.wipe re1 (ownV own)) mk3.ext mk3.gi
        split at hrest
        · cases hrest
        · rename_i ρ2 hg2
          refine ⟨G2, _, d, ρ2, re3, rx, hg2, fun σ4 k4 re4 => ⟨(wipe_eq k4).trans wipe_wipe, ?_⟩⟩
          split at hrest
          · rename_i ρ3 ht3
            have e3 := (ht X.s_0 H1 D [] []).pu rfl _ _ _ ht3
            subst e3
            refine tjt_ok (p := true) re4 ht3 fun G5 H5 s5 re5 => ?_
            have s5 : Ext G2 H3 G5 H5 := s5
            have mk5 := mk3.step s5 re5.gi
            rw [if_pos rfl]
            split at hrest
            · rename_i es ρ5 hi5
              have e5 := (hi1 X.s_0 H1 D [] []).pu rfl _ _ _ hi5
              subst e5
              have re5' := re5.tag (A := [D]) (fun a ha => by rw [List.mem_singleton.mp ha]; exact ⟨mk5.un, by rw [mk5.at_]; simp⟩) (.own ρ5.length)
              refine ⟨_, _, re5', ?_⟩
              rw [hi5]
              intro G6 H6 s6 re6 Jt1 sr1
              have s6 : Ext (tgD D ρ5.length G5) H5 G6 H6 := s6
              have hD6 : H6 D = some (.lst acc) := s6.h _ _ mk5.at_
              have hG6 : G6 D = some (.own ρ5.length) := (s6.g D (by rw [mk5.at_]; simp)).trans (if_pos (by simp))
              have ru6 := re6.unD hG6 (Nat.le_refl _)
              have x6 : Ext G5 H5 (unD D G6) H6 := ⟨s6.h, fun a h => by
                unfold unD
                by_cases n : a = D
                · rw [if_pos n, n]; exact mk5.un.symm
                · rw [if_neg n]; exact (s6.g a h).trans (if_neg (by simpa using n))⟩
              have mk6 := mk5.step x6 ru6.gi
              split at hrest
              · rename_i yi hyi
                cases hq : compP2 g t fi1 g1 t1 f vs1 (ds.drop (i + 1)) (wipeR ρ1 (ownV own)) with
                | exc x => rw [hq] at hrest; cases hrest
                | bad => rw [hq] at hrest; cases hrest
                | ok zs =>
                  rw [hq] at hrest
                  cases hrest
                  refine ⟨fun j k H => k = es.length - j ∧ j ≤ es.length ∧ ∃ G acc done rest, Mk (cfX X) G1 H1 D done G H acc ∧ ExD D (unD D G6) H6 G H ∧ RE (cfX X) G (L2.wipe σ4 vs1) H (wipeR ρ5 vs1) ∧ compP g1 t1 f (es.drop j) (wipeR ρ5 vs1) = .ok rest ∧ done ++ (rest ++ zs) = ys,
                    ⟨es.length, by omega, Nat.zero_le _, unD D G6, acc, done, yi, mk6, ⟨fun _ _ _ h => h, fun _ _ _ => rfl, by rw [hD6]; simp⟩, ru6.wipe vs1, by rw [List.drop_zero]; exact hyi, hys⟩, ?_⟩
                  rintro j k H7 ⟨rfl, hj, G7, acc7, done7, rest7, mk7, x7, re7, hrest7, hys7⟩
                  have st7 : Stp io G6 H6 (tgD D ρ5.length G7) H7 := x7.stp re6.gi hG6 hD6
                  have gi7 : GI (tgD D ρ5.length G7) H7 := fun a h => by
                    by_cases n : a ∈ [D]
                    · rw [List.mem_singleton.mp n]; exact x7.d
                    · unfold tgD at h
                      rw [if_neg n] at h
                      exact re7.gi a h
                  by_cases hjl : j < es.length
                  · obtain ⟨e1, he1⟩ : ∃ e, es[j]? = some e := ⟨_, List.getElem?_eq_getElem hjl⟩
                    have ee : es.drop j = e1 :: es.drop (j + 1) := by
                      rw [List.drop_eq_getElem_cons hjl]
                      have := List.getElem?_eq_getElem hjl
                      rw [he1] at this
                      rw [Option.some.inj this]
                    rw [ee] at hrest7
                    unfold compP at hrest7
                    refine .inr ⟨sr1.go _ H7 j st7 gi7 hjl, fun H => ∃ G acc done rest, Mk (cfX X) G1 H1 D done G H acc ∧ ExD D (unD D G6) H6 G H ∧ RE (cfX X) G (L2.wipe σ4 vs1) H (wipeR ρ5 vs1) ∧ compP g1 t1 f (es.drop (j + 1)) (wipeR ρ5 vs1) = .ok rest ∧ done ++ (rest ++ zs) = ys,
                      fun H' hN => ⟨es.length - (j + 1), by omega, rfl, hjl, hN⟩, fun x H8 y => ?_⟩
                    obtain ⟨gr8, rx8⟩ := sr1.yld _ H7 j e1 x H8 st7 gi7 he1 y
                    have rx8 : Rep (cfX X) G7 H8 x e1 := Rep.tags (fun a h => by
                      unfold tgD at h
                      split at h
                      · cases h
                      · exact h) rx8
                    have mk8 := mk7.step gr8.ext (gr8.gi mk7.gi)
                    have x8 := x7.step (gr8.ext (G := G7))
                    have re8 := re7.gr gr8
                    split at hrest7
                    · cases hrest7
                    · rename_i ρ9 hg9
                      refine ⟨G7, _, e1, ρ9, re8, rx8, hg9, fun σ9 k9 re9 => ⟨(wipe_eq k9).trans wipe_wipe, ?_⟩⟩
                      have ew : L2.wipe σ9 vs1 = L2.wipe σ4 vs1 := (wipe_eq k9).trans wipe_wipe
                      split at hrest7
                      · rename_i ρ10 ht10
                        have e10 := (ht1 X.s_0 H1 D [] []).pu rfl _ _ _ ht10
                        subst e10
                        refine tjt_ok (p := true) re9 ht10 fun G10 H10 s10 re10 => ?_
                        have s10 : Ext G7 H8 G10 H10 := s10
                        rw [if_pos rfl]
                        split at hrest7
                        · rename_i y11 ρ11 hf11
                          have e11 := (he X.s_0 H1 D [] []).pu rfl _ _ _ hf11
                          subst e11
                          refine tj_ok (p := true) (cl := .f) re10 hf11 fun G11 H11 v s11 re11 r11 => ?_
                          have s11 : Ext G10 H10 G11 H11 := s11
                          have mk11 := (mk8.step s10 re10.gi).step s11 re11.gi
                          have x11 := (x8.step s10).step s11
                          cases hq2 : compP g1 t1 f (es.drop (j + 1)) (wipeR ρ5 vs1) with
                          | exc x => rw [hq2] at hrest7; cases hrest7
                          | bad => rw [hq2] at hrest7; cases hrest7
                          | ok ws =>
                            rw [hq2] at hrest7
                            cases hrest7
                            refine ⟨acc7, mk11.at_, ?_, G11, acc7 ++ [v], done7 ++ [y11], ws, mk11.put hD r11, x11.put, ?_, rfl, by rw [List.append_assoc]; exact hys7⟩
                            · have h1 := mk11.rep.length
                              have h2 := congrArg List.length hys7
                              rw [List.length_append, List.length_append, List.length_cons] at h2
                              omega
                            · exact ((re8.ext s10 re10.gi).ext s11 re11.gi).lk (lk_upd mk11.un mk11.at_)
                        · cases hrest7
                      · rename_i ρ10 ht10
                        have e10 := (ht1 X.s_0 H1 D [] []).pu rfl _ _ _ ht10
                        subst e10
                        refine tjt_ok (p := true) re9 ht10 fun G10 H10 s10 re10 => ?_
                        have s10 : Ext G7 H8 G10 H10 := s10
                        rw [if_neg Bool.false_ne_true]
                        exact ⟨G10, acc7, done7, rest7, mk8.step s10 re10.gi, x8.step s10, re8.ext s10 re10.gi, hrest7, hys7⟩
                      · cases hrest7
                  · have ej : j = es.length := by omega
                    subst ej
                    rw [List.drop_length] at hrest7
                    cases hrest7
                    exact .inl ⟨sr1.stop _ H7 st7 gi7, G7, acc7, done7, zs, mk7, rfl, hys7⟩
              · cases hrest
            · cases hrest
          · rename_i ρ3 ht3
            have e3 := (ht X.s_0 H1 D [] []).pu rfl _ _ _ ht3
            subst e3
            refine tjt_ok (p := true) re4 ht3 fun G5 H5 s5 re5 => ?_
            have s5 : Ext G2 H3 G5 H5 := s5
            rw [if_neg Bool.false_ne_true]
            exact ⟨G5, acc, done, rest, mk3.step s5 re5.gi, hrest, hys⟩
          · cases hrest
      · have ei : i = ds.length := by omega
        subst ei
        rw [List.drop_length] at hrest
        cases hrest
        rw [List.append_nil] at hys
        subst hys
        refine .inl ⟨sr.stop G2 H2 s2 mk.gi, ?_⟩
        exact q1 G2 H2 (show StepOf true io G1 H1 G2 H2 from mk.ext) (re1.ext mk.ext mk.gi) _ (mk.new hD0)
    · rw [if_neg hz] at q1; exact q1.elim
theorem mLc2_pu {vs vs1 : List Nat} {fi fi1 : MI} {g g1 : Tg} {t t1 : MT} {f : M} (h : ∀ ρ d ρ', fi ρ = .ok (d, ρ') → ρ' = ρ) : ∀ ρ d ρ', mLc2 vs vs1 fi g t fi1 g1 t1 f ρ = .ok (d, ρ') → ρ' = ρ := pu_bind h fun b ρ z ρ' e => by
  dsimp only at e
  split at e
  · split at e
    · cases e; rfl
    · cases e
  · cases e
theorem j_lc2 {elt tg iter tg1 iter1 : Expr} {ifs ifs1 : List Expr} {scope : Scope} (own : List (Str × Nat)) (vs1 : List Nat) {pos : Pos} {fi fi1 : MI} {g g1 : Tg} {t t1 : MT} {f : M} (hc : X.calm = true) (hN : X.N.Nodup) (hi : JI X io W p tg iter fi) (ok : BlkOk X.N X.env.scope scope own) (hv1 : ∀ i ∈ vs1, i ∈ ownV own)
    (hg : ∀ s H C cl fp, JG (Blk X s H scope cl C fp) (ioV (ownV own)) tg g) (ht : ∀ s H C cl fp, JTs (Blk X s H scope cl C fp) io true ifs t)
    (hi1 : ∀ s H C cl fp, JI (Blk X s H scope cl C fp) io W0 true tg1 iter1 fi1) (hg1 : ∀ s H C cl fp, JG (Blk X s H scope cl C fp) (ioV vs1) tg1 g1) (ht1 : ∀ s H C cl fp, JTs (Blk X s H scope cl C fp) io true ifs1 t1)
    (he : ∀ s H C cl fp, J (Blk X s H scope cl C fp) io W0 true .f elt f)
    (hs : ∀ x, foldedSetIterable iter X.env x = pure x := by intro _; rfl) (hs1 : ∀ env x, foldedSetIterable iter1 env x = pure x := by intro _ _; rfl) :
    J X io W p (.n 1) (.ListComp elt [⟨tg, iter, ifs, 0⟩, ⟨tg1, iter1, ifs1, 0⟩] scope pos) (mLc2 (ownV own) vs1 fi g t fi1 g1 t1 f) := by
  exact ⟨peI (pe_lc2 (g := tG X (ioV (ownV own)) g) (tt := tJT X io W0 true t) (wi1 := tJI X io W0 true fi1) (g1 := tG X (ioV vs1) g1) (tt1 := tJT X io W0 true t1) (te := tJ X io W0 true .f f) hc hN hi.pi ok hv1 hg (fun s H C cl fp => (ht s H C cl fp).ts) (fun s H C cl fp => (hi1 s H C cl fp).pi) hg1 (fun s H C cl fp => (ht1 s H C cl fp).ts) (fun s H C cl fp => (he s H C cl fp).pe) hs hs1) fun σ H Q q => lc2_of own vs1 (pos := pos) hc hN hi ok hv1 hg ht hi1 hg1 ht1 he hs hs1 q, fun z => mLc2_pu (hi.pu z)⟩
theorem mLc2_ok {vs vs1 : List Nat} {fi fi1 : MI} {g g1 : Tg} {t t1 : MT} {f : M} {ρ ρ' : Rho} {d : Nc.D} (e : mLc2 vs vs1 fi g t fi1 g1 t1 f ρ = .ok (d, ρ')) : okF 1 d = true := by
  unfold mLc2 at e
  cases q : fi ρ with
  | ok a =>
    rw [q] at e
    dsimp only [R.bind_ok] at e
    split at e
    · split at e
      · cases e; exact List.all_eq_true.mpr fun _ _ => rfl
      · cases e
    · cases e
  | exc x => rw [q] at e; cases e
  | bad => rw [q] at e; cases e
theorem js_setLc2 (k : Nat) (i : Nat) {y : Str} {py spos : Pos} {elt tg iter tg1 iter1 : Expr} {ifs ifs1 : List Expr} {scope : Scope} (own : List (Str × Nat)) (vs1 : List Nat) {pos : Pos} {fi fi1 : MI} {g g1 : Tg} {t t1 : MT} {f : M} (hc : X.calm = true) (hN : X.N.Nodup) (hi : JI X io W p tg iter fi) (ok : BlkOk X.N X.env.scope scope own) (hv1 : ∀ i ∈ vs1, i ∈ ownV own)
    (hg : ∀ s H C cl fp, JG (Blk X s H scope cl C fp) (ioV (ownV own)) tg g) (ht : ∀ s H C cl fp, JTs (Blk X s H scope cl C fp) io true ifs t)
    (hi1 : ∀ s H C cl fp, JI (Blk X s H scope cl C fp) io W0 true tg1 iter1 fi1) (hg1 : ∀ s H C cl fp, JG (Blk X s H scope cl C fp) (ioV vs1) tg1 g1) (ht1 : ∀ s H C cl fp, JTs (Blk X s H scope cl C fp) io true ifs1 t1)
    (he : ∀ s H C cl fp, J (Blk X s H scope cl C fp) io W0 true .f elt f)
      (hk : k = 0 ∨ k = 1) (hio : io i = false) (hy : X.N[i]? = some y := by rfl) (hyl : X.env.scope.names.lookup y = some .local := by rfl)
    (hsw : swapsWith (.ListComp elt [⟨tg, iter, ifs, 0⟩, ⟨tg1, iter1, ifs1, 0⟩] scope pos) (some (.Name y py)) spos.line X.env = pure true := by rfl) (hs : ∀ x, foldedSetIterable iter X.env x = pure x := by intro _; rfl) (hs1 : ∀ env x, foldedSetIterable iter1 env x = pure x := by intro _ _; rfl) :
    JS X io W rk (.Assign [.Name y py] (.ListComp elt [⟨tg, iter, ifs, 0⟩, ⟨tg1, iter1, ifs1, 0⟩] scope pos) spos) (sSet i k (mLc2 (ownV own) vs1 fi g t fi1 g1 t1 f)) :=
  psI (ps_setLc2 (g := tG X (ioV (ownV own)) g) (tt := tJT X io W0 true t) (wi1 := tJI X io W0 true fi1) (g1 := tG X (ioV vs1) g1) (tt1 := tJT X io W0 true t1) (te := tJ X io W0 true .f f) hc hN hy hyl hsw hi.pi ok hv1 hg (fun s H C cl fp => (ht s H C cl fp).ts) (fun s H C cl fp => (hi1 s H C cl fp).pi) hg1 (fun s H C cl fp => (ht1 s H C cl fp).ts) (fun s H C cl fp => (he s H C cl fp).pe) hs hs1) fun D σ H q => by
    rcases hk with hk | hk <;> subst hk
    · exact lc2_of own vs1 (pos := pos) hc hN hi ok hv1 hg ht hi1 hg1 ht1 he hs hs1 (set_tj0 hio (fun _ _ _ e => mLc2_ok e) q)
    · exact lc2_of own vs1 (pos := pos) hc hN hi ok hv1 hg ht hi1 hg1 ht1 he hs hs1 (set_tj hio q)
end
end Nc
namespace Nc
open PySem PySem.Spec L2
open PyProof.Rows hiding St

section
variable {X : Cx} {io : Nat → Bool} {W : WX} {rk : Nat} {c : Cf} {p p1 p2 p3 : Bool} {cl cl1 cl2 cl3 : Cls} {G G0 G1 G2 G' : Gh} {H H0 H1 H2 H' : Hp} {σ σ1 σ2 σ' : L2.St} {ρ ρ1 ρ2 ρ' : Rho}
theorem stp_own {a : Addr} {i : Nat} {xs : List V} {o : HO} (g : G a = some (.own i)) (h : H a = some (.lst xs)) : Stp io G H G (L2.upd H a o) where
  fz := fun _ h => h
  un := fun _ _ h => h
  kp := fun b u e n => by rw [upd_ne (fun z => n i (by rw [z]; exact g))]; exact e
  dm := fun b q => by
    by_cases e : b = a
    · rw [e, upd_same]; simp
    · rw [upd_ne e]; exact q
  ow := fun _ _ _ h => h
  rt := fun _ _ h => .inl h
  tp := fun b ys e => by rw [upd_ne (fun z => by rw [z, h] at e; cases e)]; exact e
  fr := fun b q u e => by rw [upd_ne (fun z => by rw [z, h] at e; cases e)]; exact e
/-- a slot's own list, and what follows when it is rewritten -/
theorem RE.list1 {i : Nat} {ds : List D} (re : RE c G σ H ρ) (e : ρ[i]? = some (some (1, .list ds))) : ∃ a xs, σ[i]? = some (some (.ref a)) ∧ H a = some (.lst xs) ∧ RepL c G H xs ds ∧ ∀ ys ds', RepL c G H ys ds' →
    RE c G σ (L2.upd H a (.lst ys)) (ρ.set i (some (1, .list ds'))) ∧ ∀ io, Stp io G H G (L2.upd H a (.lst ys)) := by
  obtain ⟨v, A, h1, h2, h3, h4⟩ := re.at_ i 1 _ e
  cases h2 with
  | atom _ z => cases z
  | lst h r =>
    rename_i a xs A
    have r' := (RepL.of_tr0 r).1
    have eA := (RepL.of_tr0 r).2
    subst eA
    have g := h4 a (List.mem_cons_self ..)
    refine ⟨a, xs, h1, h, r', fun ys ds' ry => ⟨⟨by rw [List.length_set]; exact re.len, fun b q => ?_, fun j k d q => ?_⟩, fun io => stp_own g h⟩⟩
    · by_cases n : b = a
      · rw [n, upd_same]; simp
      · rw [upd_ne n]; exact re.gi b q
    · by_cases n : j = i
      · subst n
        rw [List.getElem?_set] at q
        simp only [if_true] at q
        split at q
        · cases q
          exact ⟨_, [a], h1, .lst (A := []) upd_same (TrL.of_rep (ry.stp (io := fun _ => false) (stp_own g h))), by simp, fun b hb => by rw [List.mem_singleton.mp hb]; exact g⟩
        · cases q
      · rw [List.getElem?_set_ne (Ne.symm n)] at q
        obtain ⟨u, B, g1, g2, g3, g4⟩ := re.at_ j k d q
        refine ⟨u, B, g1, g2.kps ⟨fun r => r.stp (io := fun _ => false) (stp_own g h), fun b hb o e => ?_⟩, g3, g4⟩
        rw [upd_ne (fun z => by
          have := g4 b hb
          rw [z, g] at this
          cases this
          exact n rfl)]
        exact e
/-- the list of a slot -/
def lstOf (ρ : Rho) (i : Nat) : Option (List D) := match ρ[i]? with
  | some (some (1, .list ds)) => some ds
  | _ => none
theorem lstOf_eq {i : Nat} {ds : List D} (h : lstOf ρ i = some ds) : ρ[i]? = some (some (1, .list ds)) := by
  unfold lstOf at h
  split at h
  · cases h; assumption
  · cases h
def sPut (i : Nat) (f k : M) : S := fun ρ => (f ρ).bind fun x => match lstOf x.2 i with
  | some ds => (k x.2).bind fun y => match y.1 with
    | .int j => match ixN ds.length j with
      | some n => .ok (.nx, y.2.set i (some (1, .list (ds.set n x.1))))
      | none => .bad
    | _ => .bad
  | none => .bad
theorem js_put (i : Nat) {x : Str} {e k : Expr} {f g : M} {pn ps pos : Pos} (he : J X io W p1 .f e f) (hk : J X io W true .f k g) (hN : X.N[i]? = some x := by rfl) (hv : Vis X.env.scope x := by first | exact Or.inl rfl | exact Or.inr (Or.inl rfl) | exact Or.inr (Or.inr rfl)) (hd : (x == ("__debug__" : Str)) = false := by decide)
    (hcd : (x == ("__classdict__" : Str)) = false := by decide) (hs : swapsWithSole [.Subscript (.Name x pn) k ps] e pos.line X.env = pure false := by rfl) (hw : swappedStores [.Subscript (.Name x pn) k ps] e X.env = pure none := by rfl)
    (h1 : (assignEach [.Subscript (.Name x pn) k ps] X.env).map (·.2) = [assign (.Subscript (.Name x pn) k ps) X.env] := by rfl)
    (ha : ∀ v, assign (.Subscript (.Name x pn) k ps) X.env v = (do
      let ov ← holding [v] (eval (.Name x pn) X.env)
      let iv ← holding [v, ov] (eval k X.env)
      standAt ps
      holding [v, ov, iv] (setItem ov iv v)
      release [v, ov, iv] []) := by intro _; rfl) : JS X io W rk (.Assign [.Subscript (.Name x pn) k ps] e pos) (sPut i f g) := psI (ps_asg he.pe (pg_sub (pe_var (i := i) hN hv hd hcd) hk.pe set_list ha) hs hw h1) fun D σ H q => by
  obtain ⟨G, ρ, re, q⟩ := q
  refine ⟨G, ρ, re, (GoodS.expr re.gi q).mono fun d ρ1 G1 H1 s1 re1 q1 v r => ?_⟩
  dsimp only at q1
  cases hl : lstOf ρ1 i with
  | none => rw [hl] at q1; exact q1.elim
  | some ds =>
    rw [hl] at q1
    dsimp only at q1
    obtain ⟨a, xs, e1, e2, e3, e4⟩ := re1.list1 (lstOf_eq hl)
    refine ⟨_, e1, G1, ρ1, re1, ?_⟩
    cases hg : g ρ1 with
    | bad => rw [hg] at q1; exact q1.elim
    | exc z => rw [hg] at q1; exact q1 σ Kio.refl
    | ok y =>
      obtain ⟨kd, ρ2⟩ := y
      have e := hk.pu rfl _ _ _ hg
      subst e
      rw [hg] at q1
      intro G2 H2 s2 re2 kv r2
      have s2 : Ext G1 H1 G2 H2 := s2
      cases kd with
      | int j =>
        have q1 : GoodS X io W σ G1 H1 (match ixN ds.length j with
          | some n => .ok (.nx, ρ2.set i (some (1, .list (ds.set n d))))
          | none => .bad) _ := q1
        cases hn : ixN ds.length j with
        | none => rw [hn] at q1; exact q1.elim
        | some n =>
          rw [hn] at q1
          have st := Ext.stp (io := io) re1.gi s2
          obtain ⟨a', xs', f1, f2, f3, f4⟩ := re2.list1 (lstOf_eq hl)
          rw [e1] at f1
          cases f1
          obtain ⟨g1, g2⟩ := f4 (xs'.set n v) (ds.set n d) (f3.set (r.stp st) n)
          refine ⟨a, xs', j, n, rfl, (Rep.rd r2).int, f2, by rw [f3.length]; exact hn, ?_⟩
          exact q1 σ _ _ Kio.refl (st.trans (g2 io)) g1
      | _ => exact q1.elim
def mApp (i : Nat) (f : M) : M := fun ρ => match lstOf ρ i with
  | some _ => (f ρ).bind fun x => match lstOf x.2 i with
    | some ds => if ds.length < big then .ok (.none, x.2.set i (some (1, .list (ds ++ [x.1])))) else .bad
    | none => .bad
  | none => .bad
variable {x : Str} {e : Expr} {f : M} {pn apos cpos : Pos}
theorem j_append (i : Nat) (he : J X io W p .f e f) (hN : X.N[i]? = some x := by rfl) (hv : Vis X.env.scope x := by first | exact Or.inl rfl | exact Or.inr (Or.inl rfl) | exact Or.inr (Or.inr rfl)) (hd : (x == ("__debug__" : Str)) = false := by decide)
    (hcd : (x == ("__classdict__" : Str)) = false := by decide) (hbase : attributeBase (.Name x pn) "append" X.env (eval (.Name x pn) X.env) = eval (.Name x pn) X.env := by rfl)
    (hfew : ((backTo cpos (starEach [e] X.env)).all (fun x => !x.1) && (backToKw cpos (keywordEach [] X.env)).all (fun x => x.1.isSome)
      && decide ([e].length + ([] : List Keyword).length + (if ([] : List Keyword).isEmpty then 0 else 1) < 30)) = true := by rfl)
    (hline : (apos.endLine == cpos.line) = true := by rfl) (hs : starEach [e] X.env = (false, eval e X.env) :: starEach [] X.env := by rfl) (hplain : (backTo cpos (starEach [] X.env)).any (·.1) = false := by rfl) :
    J X io W false .f (.Call (.Attribute (.Name x pn) "append" apos) [e] [] cpos) (mApp i f) := by
  refine ⟨peI (pe_bm PySem.F.plainAttrs_list PySem.F.slot_list_append PySem.F.type_list_append mt_append (pe_var (i := i) hN hv hd hcd) (pa_cons he.pe pa_nil hs) hbase hfew hline hs hplain) fun σ H Q q => ?_, fun z => by cases z⟩
  obtain ⟨G, ρ, re, q⟩ := q
  unfold mApp at q
  cases hl : lstOf ρ i with
  | none => rw [hl] at q; exact q.elim
  | some ds =>
    rw [hl] at q
    dsimp only at q
    obtain ⟨a, xs, e1, e2, e3, e4⟩ := re.list1 (lstOf_eq hl)
    refine ⟨_, e1, .inl ⟨rfl, xs, .inl (.inl e2)⟩, G, ρ, re, (Good.bind (p1 := p) (p2 := false) re.gi (by rw [Bool.and_false]; exact q)).mono fun d ρ1 G1 H1 s1 re1 q1 v r => ?_⟩
    dsimp only at q1
    cases hl2 : lstOf ρ1 i with
    | none => rw [hl2] at q1; exact q1.elim
    | some ds2 =>
      rw [hl2] at q1
      dsimp only at q1
      by_cases hz : ds2.length < big
      · rw [if_pos hz] at q1
        obtain ⟨a', xs', f1, f2, f3, f4⟩ := re1.list1 (lstOf_eq hl2)
        rw [e1] at f1
        cases f1
        obtain ⟨g1, g2⟩ := f4 (xs' ++ [v]) (ds2 ++ [d]) (f3.append (.cons r .nil))
        refine ⟨a, xs', v, rfl, rfl, f2, by rw [f3.length, ← big_eq]; exact hz, q1 _ _ (g2 io) g1 _ .non⟩
      · rw [if_neg hz] at q1; exact q1.elim
def mExt (i : Nat) (f : M) : M := fun ρ => match lstOf ρ i with
  | some _ => (f ρ).bind fun x => match lstOf x.2 i, x.1 with
    | some ds, .list es => if ds.length + es.length ≤ big then .ok (.none, x.2.set i (some (1, .list (ds ++ es)))) else .bad
    | _, _ => .bad
  | none => .bad
theorem j_extend (i : Nat) (he : J X io W p (.n 1) e f) (hN : X.N[i]? = some x := by rfl) (hv : Vis X.env.scope x := by first | exact Or.inl rfl | exact Or.inr (Or.inl rfl) | exact Or.inr (Or.inr rfl)) (hd : (x == ("__debug__" : Str)) = false := by decide)
    (hcd : (x == ("__classdict__" : Str)) = false := by decide) (hbase : attributeBase (.Name x pn) "extend" X.env (eval (.Name x pn) X.env) = eval (.Name x pn) X.env := by rfl)
    (hfew : ((backTo cpos (starEach [e] X.env)).all (fun x => !x.1) && (backToKw cpos (keywordEach [] X.env)).all (fun x => x.1.isSome)
      && decide ([e].length + ([] : List Keyword).length + (if ([] : List Keyword).isEmpty then 0 else 1) < 30)) = true := by rfl)
    (hline : (apos.endLine == cpos.line) = true := by rfl) (hs : starEach [e] X.env = (false, eval e X.env) :: starEach [] X.env := by rfl) (hplain : (backTo cpos (starEach [] X.env)).any (·.1) = false := by rfl) :
    J X io W false .f (.Call (.Attribute (.Name x pn) "extend" apos) [e] [] cpos) (mExt i f) := by
  refine ⟨peI (pe_bm PySem.F.plainAttrs_list PySem.F.slot_list_extend PySem.F.type_list_extend mt_extend (pe_var (i := i) hN hv hd hcd) (pa_cons he.pe pa_nil hs) hbase hfew hline hs hplain) fun σ H Q q => ?_, fun z => by cases z⟩
  obtain ⟨G, ρ, re, q⟩ := q
  unfold mExt at q
  cases hl : lstOf ρ i with
  | none => rw [hl] at q; exact q.elim
  | some ds =>
    rw [hl] at q
    dsimp only at q
    obtain ⟨a, xs, e1, e2, e3, e4⟩ := re.list1 (lstOf_eq hl)
    refine ⟨_, e1, .inl ⟨rfl, xs, .inl (.inl e2)⟩, G, ρ, re, (Good.bind (p1 := p) (p2 := false) re.gi (by rw [Bool.and_false]; exact q)).mono fun d ρ1 G1 H1 s1 re1 q1 v r => ?_⟩
    dsimp only at q1
    cases hl2 : lstOf ρ1 i with
    | none => rw [hl2] at q1; exact q1.elim
    | some ds2 =>
      rw [hl2] at q1
      cases d with
      | list es =>
        dsimp only at q1
        by_cases hz : ds2.length + es.length ≤ big
        · rw [if_pos hz] at q1
          obtain ⟨a', xs', f1, f2, f3, f4⟩ := re1.list1 (lstOf_eq hl2)
          rw [e1] at f1
          cases f1
          obtain ⟨B, t, nd, n⟩ := r
          cases t with
          | atom _ z => cases z
          | lst hb tl =>
            have rb := (RepL.of_tr0 tl).1
            obtain ⟨g1, g2⟩ := f4 (xs' ++ _) (ds2 ++ es) (f3.append rb)
            refine ⟨a, _, xs', _, rfl, rfl, f2, hb, by rw [f3.length, rb.length, ← big_eq]; exact hz, q1 _ _ (g2 io) g1 _ .non⟩
        · rw [if_neg hz] at q1; exact q1.elim
      | _ => exact q1.elim
end
end Nc
namespace Nc
open PySem PySem.Spec L2
open PyProof.Rows hiding St

/-- the classes that are asked for -/
inductive T5 where
  | int
  | bool
  | str
  | tuple
  | list
def T5.nm : T5 → String
  | .int => "int"
  | .bool => "bool"
  | .str => "str"
  | .tuple => "tuple"
  | .list => "list"
def dIsI (t : T5) : D → Option D
  | .none => some (.bool false)
  | .bool _ => some (.bool (match t with | .int => true | .bool => true | _ => false))
  | .int _ => some (.bool (match t with | .int => true | _ => false))
  | .str _ => some (.bool (match t with | .str => true | _ => false))
  | .tuple _ => some (.bool (match t with | .tuple => true | _ => false))
  | .list _ => some (.bool (match t with | .list => true | _ => false))
  | _ => none
section
variable {X : Cx} {io : Nat → Bool} {W : WX} {rk : Nat} {c : Cf} {p p1 p2 p3 : Bool} {cl cl1 cl2 cl3 : Cls} {G G0 G1 G2 G' : Gh} {H H0 H1 H2 H' : Hp} {σ σ1 σ2 σ' : L2.St} {ρ ρ1 ρ2 ρ' : Rho}
theorem sqT_ty {K : PySem.W.Frag} {a : Addr} {xs : List V} (h : SqT K H a xs) : TyX K H (.ref a) (.type "tuple") := by
  rcases h with (h | ⟨o, h⟩) | ⟨o, its, n, h1, h2, _⟩
  · exact .base (.tup h)
  · exact .fTuple h
  · exact .kTuple h1 h2
theorem isi_ty {t : T5} {v : V} {d z : D} (h : Rd1 c G H v d) (e : dIsI t d = some z) : ∃ ty b, z = .bool b ∧ TyX c.K H v ty ∧ PySem.W.kitOne c.K ty (.type t.nm) = some b := by
  cases h with
  | rep h =>
    cases h with
    | non => cases e; exact ⟨_, _, rfl, .base .non, by cases t <;> exact kit_ty (by decide +kernel)⟩
    | bl b => cases e; exact ⟨_, _, rfl, .base (.bl b), by cases t <;> exact kit_ty (by decide +kernel)⟩
    | int i => cases e; exact ⟨_, _, rfl, .base (.int i), by cases t <;> exact kit_ty (by decide +kernel)⟩
    | str x => cases e; exact ⟨_, _, rfl, .base (.str x), by cases t <;> exact kit_ty (by decide +kernel)⟩
    | tup h r => cases e; exact ⟨_, _, rfl, sqT_ty h, by cases t <;> exact kit_ty (by decide +kernel)⟩
    | lst _ h r => cases e; exact ⟨_, _, rfl, .base (.lst h), by cases t <;> exact kit_ty (by decide +kernel)⟩
    | frz h r => cases e; exact ⟨_, _, rfl, .base (.frz h), by cases t <;> exact kit_ty (by decide +kernel)⟩
    | dic h r => cases e
  | lst h r => cases e; exact ⟨_, _, rfl, .base (.lst h), by cases t <;> exact kit_ty (by decide +kernel)⟩
  | dic h r => cases e
theorem j_isi (t : T5) {a : Expr} {fa : M} {T : Str} {pn pt pos : Pos} (hm : X.mg "isinstance" = none) (hmT : X.mg T = none) (hvT : bootBuiltins T = some (.type t.nm)) (ha : J X io W p cl a fa) (h1 : cl.st true = true := by rfl) (hg : Gl X "isinstance" := by rfl) (hgT : Gl X T := by rfl)
    (hnT : T ≠ "__name__" := by decide) (hdT : (T == ("__debug__" : Str)) = false := by decide) (hs : starEach [a, .Name T pt] X.env = (false, eval a X.env) :: starEach [.Name T pt] X.env := by rfl) (hs2 : starEach [.Name T pt] X.env = [(false, eval (.Name T pt) X.env)] := by rfl)
    (hpl : (backTo pos (starEach [.Name T pt] X.env)).any (·.1) = false := by rfl) : J X io W p (.n 1) (.Call (.Name "isinstance" pn) [a, .Name T pt] [] pos) (mU (dIsI t) fa) := by
  refine ⟨peI (pe_callB call_isi hg hm boot_isinstance (pa_cons ha.pe (pa_cons (pe_bltn (v := .ty t.nm) hgT hmT hvT rfl hnT hdT) pa_nil hs2) hs) (by decide) (by decide) hs hpl) fun σ H Q q => ?_, fun e => pu_bind (ha.pu e) fun _ _ _ _ e => pu_of e⟩
  obtain ⟨G, ρ, re, q⟩ := q
  refine ⟨G, ρ, re, (good_bindT re.gi q).mono fun d ρ1 G1 H1 s1 re1 q1 v1 r1 => ?_⟩
  obtain ⟨z, e, o⟩ := Good.of (Q := Q) re1 q1 (H0 := H) (fun a h => (s1.stp re.gi).dm a h) fun d ρ' G' H' k v n => k v n
  obtain ⟨ty, b, rfl, h2, h3⟩ := isi_ty (r1.rd h1) e
  exact ⟨v1, .ty t.nm, ty, .type t.nm, b, rfl, .ty _, h2, h3, o.bool⟩
def dIn : D → D → Option D
  | d, .list ds => if SeqAt.shaped d = true ∧ SeqAt.shaped (.list ds) = true then some (.bool (ds.any fun z => PyData.eqv z d)) else none
  | d, .tuple ds => if SeqAt.shaped d = true ∧ SeqAt.shaped (.tuple ds) = true then some (.bool (ds.any fun z => PyData.eqv z d)) else none
  | _, _ => none
def dNotIn : D → D → Option D
  | d, .list ds => if SeqAt.shaped d = true ∧ SeqAt.shaped (.list ds) = true then some (.bool (!ds.any fun z => PyData.eqv z d)) else none
  | d, .tuple ds => if SeqAt.shaped d = true ∧ SeqAt.shaped (.tuple ds) = true then some (.bool (!ds.any fun z => PyData.eqv z d)) else none
  | _, _ => none
theorem op_inS (hu : X.A.units + 65 < cLine) : OpR X (compareOp .In) (rD (cfX X) dIn) := by
  intro pins s σ H x y v u Q I rx ry h
  obtain ⟨G, d, e, z, gi, hd, he, hz, o⟩ := h
  cases e <;> try (cases d <;> exact nomatch (show (none : Option D) = some z from hz))
  case list ds =>
    obtain ⟨⟨h1, h2⟩, hz⟩ := ifS (show (if SeqAt.shaped d = true ∧ SeqAt.shaped (.list ds) = true then some (PyData.bool (ds.any fun z => PyData.eqv z d)) else none) = some z by cases d <;> exact hz)
    subst hz
    exact op_inD hu pins s σ H _ _ v u Q I rx ry ⟨d, ds, hd.dp (SeqAt.canLay_of_shaped h1), he.dp (SeqAt.canLay_of_shaped h2), h1, h2, o.bool⟩
  case tuple ds =>
    obtain ⟨⟨h1, h2⟩, hz⟩ := ifS (show (if SeqAt.shaped d = true ∧ SeqAt.shaped (.tuple ds) = true then some (PyData.bool (ds.any fun z => PyData.eqv z d)) else none) = some z by cases d <;> exact hz)
    subst hz
    obtain ⟨as, r1⟩ := Dp.reads I d x v (hd.dp (SeqAt.canLay_of_shaped h1)) rx
    obtain ⟨bs, r2⟩ := Dp.reads I (.tuple ds) y u (he.dp (SeqAt.canLay_of_shaped h2)) ry
    exact SeqAt.in_tuple_reads r2 r1 (SeqAt.canLay_of_shaped h2) (SeqAt.canLay_of_shaped h1) (room_in_shaped h1 hu) ⟨.bl _, H, I, rfl, o.bool⟩
theorem op_notInS (hu : X.A.units + 65 < cLine) : OpR X (compareOp .NotIn) (rD (cfX X) dNotIn) := by
  intro pins s σ H x y v u Q I rx ry h
  obtain ⟨G, d, e, z, gi, hd, he, hz, o⟩ := h
  cases e <;> try (cases d <;> exact nomatch (show (none : Option D) = some z from hz))
  case list ds =>
    obtain ⟨⟨h1, h2⟩, hz⟩ := ifS (show (if SeqAt.shaped d = true ∧ SeqAt.shaped (.list ds) = true then some (PyData.bool (!ds.any fun z => PyData.eqv z d)) else none) = some z by cases d <;> exact hz)
    subst hz
    exact op_notInD hu pins s σ H _ _ v u Q I rx ry ⟨d, ds, hd.dp (SeqAt.canLay_of_shaped h1), he.dp (SeqAt.canLay_of_shaped h2), h1, h2, o.bool⟩
  case tuple ds =>
    obtain ⟨⟨h1, h2⟩, hz⟩ := ifS (show (if SeqAt.shaped d = true ∧ SeqAt.shaped (.tuple ds) = true then some (PyData.bool (!ds.any fun z => PyData.eqv z d)) else none) = some z by cases d <;> exact hz)
    subst hz
    obtain ⟨as, r1⟩ := Dp.reads I d x v (hd.dp (SeqAt.canLay_of_shaped h1)) rx
    obtain ⟨bs, r2⟩ := Dp.reads I (.tuple ds) y u (he.dp (SeqAt.canLay_of_shaped h2)) ry
    exact SeqAt.notIn_tuple_reads r2 r1 (SeqAt.canLay_of_shaped h2) (SeqAt.canLay_of_shaped h1) (room_in_shaped h1 hu) ⟨.bl _, H, I, rfl, o.bool⟩
def mCh (g g' : D → D → Option D) (fa fb fc : M) : M := fun ρ => (fa ρ).bind fun x => (fb x.2).bind fun y => match g x.1 y.1 with
  | some (.bool true) => (fc y.2).bind fun z => R.of (g' y.1 z.1) z.2
  | some (.bool false) => .ok (.bool false, y.2)
  | _ => .bad
theorem mCh_pu {g g' : D → D → Option D} {fa fb fc : M} (h1 : ∀ ρ d ρ', fa ρ = .ok (d, ρ') → ρ' = ρ) (h2 : ∀ ρ d ρ', fb ρ = .ok (d, ρ') → ρ' = ρ) (h3 : ∀ ρ d ρ', fc ρ = .ok (d, ρ') → ρ' = ρ) :
    ∀ ρ d ρ', mCh g g' fa fb fc ρ = .ok (d, ρ') → ρ' = ρ :=
  pu_bind h1 fun b ρ z ρ' e => pu_bind (f := fb) h2 (fun b2 ρ z ρ' e => by
    dsimp only at e
    split at e
    · exact pu_bind (f := fc) h3 (fun _ _ _ _ e => pu_of e) ρ z ρ' e
    · cases e; rfl
    · cases e) ρ z ρ' e
theorem tCh_of {g g' : D → D → Option D} {fa fb fc : M} (h1 : cl1.st true = true) (h2 : cl2.st true = true) (h3 : cl3.st true = true) {Q : VK} (q : tJ X io W true (.n 1) (mCh g g' fa fb fc) σ H Q) :
    tChain (rD (cfX X) g) (rD (cfX X) g') (tJ X io W true cl1 fa) (tJ X io W true cl2 fb) (tJ X io W true cl3 fc) σ H Q := by
  obtain ⟨G, ρ, re, q⟩ := q
  refine ⟨G, ρ, re, (good_bindT re.gi q).mono fun d ρ1 G1 H1 s1 re1 q1 v1 r1 => ⟨G1, ρ1, re1, (good_bindT re1.gi q1).mono fun d2 ρ2 G2 H2 s2 re2 q2 v2 r2 => ?_⟩⟩
  have ed : ∀ a, H a ≠ none → H2 a ≠ none := fun a h => Ext.dm s2 (Ext.dm s1 h)
  dsimp only at q2
  split at q2
  · rename_i hg
    refine ⟨G2, d, d2, _, re2.gi, r1.step re1.gi s2 h1, r2.rd h2, hg, fun v H3 gr n => ⟨true, ?_, ?_⟩⟩
    · obtain ⟨A, t, _⟩ := n
      exact (t.rd (Nat.le_refl _)).bool
    · rw [if_pos rfl]
      have re3 := re2.gr gr
      refine ⟨G2, ρ2, re3, ?_⟩
      have q3 := good_bindT re2.gi q2
      have q4 : Good X io W true σ G2 H3 (fc ρ2) fun b ρ1 G1 H1 => Good X io W true σ G1 H1 (R.of (g' d2 b) ρ1) fun d x G' H' => ∀ v, Res (cfX X) (Cls.n 1) H G' H' v d → Q v H' := by
        cases hr : fc ρ2 with
        | ok a =>
          obtain ⟨b, ρ4⟩ := a
          rw [hr] at q3
          exact fun G4 H4 s4 re4 => q3 G4 H4 (show Ext G2 H2 G4 H4 from gr.ext.trans s4) re4
        | exc x =>
          rw [hr] at q3
          exact fun C G' H' hC s => q3 C G' H' hC ((Ext.stp re2.gi gr.ext).trans s)
        | bad => rw [hr] at q3; exact q3
      refine q4.mono fun d3 ρ4 G4 H4 s4 re4 q5 v4 r4 => ?_
      have s4 : Ext G2 H3 G4 H4 := s4
      obtain ⟨z, e, o⟩ := Good.of (Q := Q) re4 q5 (H0 := H) (fun a h => s4.dm (gr.dm (ed a h))) fun d ρ' G' H' k v n => k v n
      exact ⟨G4, _, _, z, re4.gi, Rd1.ext re2.gi (gr.ext.trans s4) (r2.rd h2), r4.rd h3, e, o⟩
  · rename_i hg
    refine ⟨G2, d, d2, _, re2.gi, r1.step re1.gi s2 h1, r2.rd h2, hg, fun v H3 gr n => ⟨false, ?_, ?_⟩⟩
    · obtain ⟨A, t, _⟩ := n
      exact (t.rd (Nat.le_refl _)).bool
    · rw [if_neg Bool.false_ne_true]
      exact q2 G2 H3 gr.ext (re2.gr gr) _ (.atom (.bl false) rfl)
  · exact q2.elim
theorem j_chain {op op' : CmpOp} {g g' : D → D → Option D} (ho : OpR X (compareOp op) (rD (cfX X) g)) (ho' : OpR X (compareOp op') (rD (cfX X) g')) {a b e : Expr} {fa fb fc : M} {pos : Pos} (ha : J X io W true cl1 a fa) (hb : J X io W true cl2 b fb) (he : J X io W true cl3 e fc)
    (hm : lastMarks [op, op'] [b, e] = false := by with_unfolding_all rfl) (h1 : cl1.st true = true := by rfl) (h2 : cl2.st true = true := by rfl) (h3 : cl3.st true = true := by rfl) : J X io W true (.n 1) (.Compare a [op, op'] [b, e] pos) (mCh g g' fa fb fc) :=
  ⟨peI (pe_chain ho ho' ha.pe hb.pe he.pe hm) fun σ H Q q => tCh_of h1 h2 h3 q, fun _ => mCh_pu (ha.pu rfl) (hb.pu rfl) (he.pu rfl)⟩
theorem jt_chain {op op' : CmpOp} {g g' : D → D → Option D} (ho : OpR X (compareOp op) (rD (cfX X) g)) (ho' : OpR X (compareOp op') (rD (cfX X) g')) {a b e : Expr} {fa fb fc : M} {pos : Pos} (ha : J X io W true cl1 a fa) (hb : J X io W true cl2 b fb) (he : J X io W true cl3 e fc)
    (hm : lastMarks [op, op'] [b, e] = false := by with_unfolding_all rfl) (h1 : cl1.st true = true := by rfl) (h2 : cl2.st true = true := by rfl) (h3 : cl3.st true = true := by rfl) : JT X io W true (.Compare a [op, op'] [b, e] pos) (fun ρ => toB (mCh g g' fa fb fc ρ)) :=
  ⟨ptI (pt_chain ho ho' ha.pe hb.pe he.pe hm) fun σ H Q q => tCh_of h1 h2 h3 (tT_of (cl := .n 1) rfl q), fun e => toB_pu (mCh_pu (ha.pu rfl) (hb.pu rfl) (he.pu rfl))⟩
end
end Nc
namespace Nc
open PySem PySem.Spec L2
open PyProof.Rows hiding St

abbrev P2 := Int × Int
def plt (x y : P2) : Bool := decide (x.1 < y.1 ∨ (x.1 = y.1 ∧ x.2 < y.2))
def insS (x : P2) : List P2 → List P2
  | [] => [x]
  | y :: l => if x = y then y :: l else if plt x y then x :: y :: l else y :: insS x l
def ssP (l : List P2) : List P2 := l.foldr insS []
def encP (x : P2) : D := .tuple [.int x.1, .int x.2]
def lsP (x : P2) : List Int := [x.1, x.2]
abbrev B20 : Int := 1048576
def prD (d : D) : Option P2 := match d with
  | .tuple [.int a, .int b] => if 0 ≤ a ∧ a < B20 ∧ 0 ≤ b ∧ b < B20 then some (a, b) else none
  | _ => none
def prsD : List D → Option (List P2)
  | [] => some []
  | d :: ds => (prD d).bind fun x => (prsD ds).map (x :: ·)
def dSS : D → Option D
  | .list ds => if ds.length < 64 then (prsD ds).map fun l => .list ((ssP l).map encP) else none
  | _ => none
theorem plt_iff {x y : P2} : plt x y = true ↔ (x.1 < y.1 ∨ (x.1 = y.1 ∧ x.2 < y.2)) := by unfold plt; exact decide_eq_true_iff
theorem mem_insS {x z : P2} : ∀ {l : List P2}, z ∈ insS x l ↔ z = x ∨ z ∈ l
  | [] => by simp [insS]
  | y :: l => by
    unfold insS
    split
    · rename_i h
      subst h
      simp
    · split
      · simp
      · simp only [List.mem_cons, mem_insS (l := l)]
        constructor
        · rintro (h | h | h)
          · exact .inr (.inl h)
          · exact .inl h
          · exact .inr (.inr h)
        · rintro (h | h | h)
          · exact .inr (.inl h)
          · exact .inl h
          · exact .inr (.inr h)
theorem mem_ssP {z : P2} : ∀ {l : List P2}, z ∈ ssP l ↔ z ∈ l
  | [] => Iff.rfl
  | x :: l => by
    show z ∈ insS x (ssP l) ↔ _
    rw [mem_insS, mem_ssP (l := l), List.mem_cons]
theorem plt_trans {x y z : P2} (h : plt x y = true) (k : plt y z = true) : plt x z = true := by
  rw [plt_iff] at *
  omega
theorem insS_sorted {x : P2} : ∀ {l : List P2}, l.Pairwise (fun a b => plt a b = true) → (insS x l).Pairwise (fun a b => plt a b = true)
  | [], _ => by unfold insS; exact List.pairwise_singleton _ _
  | y :: l, h => by
    obtain ⟨h1, h2⟩ := List.pairwise_cons.mp h
    unfold insS
    split
    · exact h
    · rename_i ne
      split
      · rename_i hl
        refine List.pairwise_cons.mpr ⟨fun z hz => ?_, h⟩
        rcases List.mem_cons.mp hz with e | hz
        · rw [e]; exact hl
        · exact plt_trans hl (h1 z hz)
      · rename_i hl
        refine List.pairwise_cons.mpr ⟨fun z hz => ?_, insS_sorted h2⟩
        rcases mem_insS.mp hz with e | hz
        · rw [e, plt_iff]
          rw [plt_iff] at hl
          have n2 : ¬ (x.1 = y.1 ∧ x.2 = y.2) := fun e => ne (Prod.ext e.1 e.2)
          omega
        · exact h1 z hz
theorem ssP_sorted : ∀ l : List P2, (ssP l).Pairwise (fun a b => plt a b = true)
  | [] => .nil
  | x :: l => insS_sorted (ssP_sorted l)
theorem plt_irr {x y : P2} (h : plt x y = true) (k : plt y x = true) : False := by
  rw [plt_iff] at *
  omega
theorem plt_self {x : P2} (h : plt x x = true) : False := plt_irr h h
theorem strict_eq : ∀ {A B : List P2}, A.Pairwise (fun a b => plt a b = true) → B.Pairwise (fun a b => plt a b = true) → (∀ x, x ∈ A ↔ x ∈ B) → A = B
  | [], [], _, _, _ => rfl
  | [], b :: B, _, _, h => absurd ((h b).mpr (List.mem_cons_self ..)) (by simp)
  | a :: A, [], _, _, h => absurd ((h a).mp (List.mem_cons_self ..)) (by simp)
  | a :: A, b :: B, ha, hb, h => by
    obtain ⟨a1, a2⟩ := List.pairwise_cons.mp ha
    obtain ⟨b1, b2⟩ := List.pairwise_cons.mp hb
    have e : a = b := by
      rcases List.mem_cons.mp ((h a).mp (List.mem_cons_self ..)) with e | e
      · exact e
      · rcases List.mem_cons.mp ((h b).mpr (List.mem_cons_self ..)) with k | k
        · exact k.symm
        · exact (plt_irr (a1 b k) (b1 a e)).elim
    subst e
    rw [strict_eq a2 b2 fun x => ?_]
    constructor
    · intro hx
      rcases List.mem_cons.mp ((h x).mp (List.mem_cons_of_mem _ hx)) with e | e
      · subst e; exact (plt_self (a1 x hx)).elim
      · exact e
    · intro hx
      rcases List.mem_cons.mp ((h x).mpr (List.mem_cons_of_mem _ hx)) with e | e
      · subst e; exact (plt_self (b1 x hx)).elim
      · exact e
theorem prD_some {d : D} {x : P2} (h : prD d = some x) : d = encP x ∧ 0 ≤ x.1 ∧ x.1 < B20 ∧ 0 ≤ x.2 ∧ x.2 < B20 := by
  unfold prD at h
  split at h
  · split at h
    · rename_i a b hb
      cases h
      exact ⟨rfl, hb⟩
    · cases h
  · cases h
theorem prsD_some : ∀ {ds : List D} {l : List P2}, prsD ds = some l → ds = l.map encP ∧ ∀ x ∈ l, 0 ≤ x.1 ∧ x.1 < B20 ∧ 0 ≤ x.2 ∧ x.2 < B20
  | [], _, h => by cases h; exact ⟨rfl, by simp⟩
  | d :: ds, l, h => by
    obtain ⟨x, h1, h2⟩ := Option.bind_eq_some_iff.mp h
    obtain ⟨m, h3, h4⟩ := Option.map_eq_some_iff.mp h2
    subst h4
    obtain ⟨e1, b1⟩ := prD_some h1
    obtain ⟨e2, b2⟩ := prsD_some h3
    exact ⟨by rw [e1, e2]; rfl, fun y hy => (List.mem_cons.mp hy).elim (fun e => e ▸ b1) (b2 y)⟩
section
variable {X : Cx} {io : Nat → Bool} {W : WX} {rk : Nat} {c : Cf} {p p1 p2 p3 : Bool} {cl cl1 cl2 cl3 : Cls} {G G0 G1 G2 G' : Gh} {H H0 H1 H2 H' : Hp} {σ σ1 σ2 σ' : L2.St} {ρ ρ1 ρ2 ρ' : Rho}
theorem repL_ints : ∀ {xs : List V} {ns : List Int}, RepL c G H xs (ns.map fun (i : Int) => (.int i : D)) → xs = ns.map V.int
  | _, [], h => by
    have h : RepL c G H _ [] := h
    cases h; rfl
  | _, n :: ns, h => by
    have h : RepL c G H _ (.int n :: ns.map fun (i : Int) => (.int i : D)) := h
    cases h with
    | cons h r =>
      cases h
      rw [repL_ints r]; rfl
theorem ints_repL : ∀ {ns : List Int}, RepL c G H (ns.map V.int) (ns.map fun (i : Int) => (.int i : D))
  | [] => .nil
  | n :: ns => .cons (.int n) ints_repL
theorem repL_keys : ∀ {xs : List V} {l : List P2}, RepL c G H xs (l.map encP) → ∃ ks : List (Addr × List Int), xs = ks.map (fun p => V.ref p.1) ∧ ks.map (·.2) = l.map lsP ∧ ∀ p ∈ ks, SqT c.K H p.1 (p.2.map V.int)
  | _, [], h => by
    have h : RepL c G H _ [] := h
    cases h
    exact ⟨[], rfl, rfl, by simp⟩
  | _, x :: l, h => by
    have h : RepL c G H _ (encP x :: l.map encP) := h
    cases h with
    | cons h r =>
      obtain ⟨ks, e1, e2, e3⟩ := repL_keys r
      cases h with
      | tup hs hr =>
        rename_i a ys
        have e : ys = (lsP x).map V.int := repL_ints (ns := lsP x) hr
        refine ⟨(a, lsP x) :: ks, by rw [e1]; rfl, by rw [List.map_cons, e2]; rfl, fun p hp => ?_⟩
        rcases List.mem_cons.mp hp with q | q
        · rw [q, ← e]; exact hs
        · exact e3 p q
theorem keys_repL : ∀ {ks : List (Addr × List Int)} {m : List P2}, ks.map (·.2) = m.map lsP → (∀ p ∈ ks, SqT c.K H p.1 (p.2.map V.int)) → RepL c G H (ks.map fun p => V.ref p.1) (m.map encP)
  | [], [], _, _ => .nil
  | [], _ :: _, h, _ => by simp at h
  | _ :: _, [], h, _ => by simp at h
  | k :: ks, x :: m, h, hs => by
    rw [List.map_cons, List.map_cons] at h
    injection h with h1 h2
    refine .cons (.tup (hs k (List.mem_cons_self ..)) ?_) (keys_repL h2 fun p hp => hs p (List.mem_cons_of_mem _ hp))
    rw [h1]
    exact ints_repL (ns := lsP x)
theorem code_lsP {x : P2} : TS.code B20 (lsP x) = x.1 * B20 + x.2 := by
  have e1 : B20 ^ 1 = B20 := by decide
  have e0 : B20 ^ 0 = 1 := by decide
  show x.1 * B20 ^ 1 + (x.2 * B20 ^ 0 + 0) = _
  rw [e1, e0]; omega
def unP : List Int → P2
  | [a, b] => (a, b)
  | _ => (0, 0)
/-- the sorted keys are the canonical ones -/
theorem keys_ss {L' : List (List Int)} {l : List P2} (bd : ∀ x ∈ l, 0 ≤ x.1 ∧ x.1 < B20 ∧ 0 ≤ x.2 ∧ x.2 < B20) (hm : ∀ k, k ∈ L' ↔ k ∈ l.map lsP) (nd : L'.Nodup) (pw : L'.Pairwise fun a b => TS.code B20 a ≤ TS.code B20 b) : L' = (ssP l).map lsP := by
  have hk : ∀ k ∈ L', k = lsP (unP k) ∧ unP k ∈ l := fun k h => by
    obtain ⟨x, hx, e⟩ := List.mem_map.mp ((hm k).mp h)
    subst e
    exact ⟨rfl, hx⟩
  have e1 : (L'.map unP).map lsP = L' := by
    rw [List.map_map]
    conv => rhs; rw [← List.map_id L']
    exact List.map_congr_left fun k h => ((hk k h).1).symm
  rw [← e1]
  refine congrArg _ (strict_eq ?_ (ssP_sorted l) fun x => ?_)
  · rw [List.pairwise_map]
    refine List.Pairwise.imp_of_mem (fun {a b} ha hb h => ?_) (List.Pairwise.and pw nd)
    obtain ⟨h1, h2⟩ := h
    obtain ⟨ea, ma⟩ := hk a ha
    obtain ⟨eb, mb⟩ := hk b hb
    have ba := bd _ ma
    have bb := bd _ mb
    rw [ea, eb, code_lsP, code_lsP] at h1
    have ne : ¬ ((unP a).1 = (unP b).1 ∧ (unP a).2 = (unP b).2) := fun z => h2 (by rw [ea, eb, show unP a = unP b from Prod.ext z.1 z.2])
    rw [plt_iff]
    simp only [B20] at h1 ba bb
    omega
  · rw [mem_ssP]
    constructor
    · intro h
      obtain ⟨k, h1, h2⟩ := List.mem_map.mp h
      rw [← h2]
      exact (hk k h1).2
    · intro h
      exact List.mem_map.mpr ⟨lsP x, (hm _).mpr (List.mem_map.mpr ⟨x, h, rfl⟩), rfl⟩
theorem SqT.gr {K : PySem.W.Frag} {a : Addr} {xs : List V} (g : Gr H H') (h : SqT K H a xs) : SqT K H' a xs := by
  rcases h with (h | ⟨o, h⟩) | h
  · exact .inl (.inl (g _ _ h))
  · exact .inl (.inr ⟨o, g _ _ h⟩)
  · exact .inr h
theorem j_ss {e : Expr} {f : M} {pn pn2 pos pos2 : Pos} (hc : X.calm = true) (hu : X.A.units + 64 < cLine) (hm1 : X.mg "sorted" = none) (hm2 : X.mg "set" = none) (he : J X io W p cl e f) (h1 : cl.st true = true := by rfl) (hg1 : Gl X "sorted" := by rfl) (hg2 : Gl X "set" := by rfl)
    (hs1 : starEach [.Call (.Name "set" pn2) [e] [] pos2] X.env = [(false, eval (.Call (.Name "set" pn2) [e] [] pos2) X.env)] := by rfl) (hpl1 : (backTo pos (starEach [] X.env)).any (·.1) = false := by rfl)
    (hs2 : starEach [e] X.env = [(false, eval e X.env)] := by rfl) (hpl2 : (backTo pos2 (starEach [] X.env)).any (·.1) = false := by rfl) :
    J X io W p (.n 1) (.Call (.Name "sorted" pn) [.Call (.Name "set" pn2) [e] [] pos2] [] pos) (mU dSS f) := by
  refine ⟨peI (pe_callB (cr_sortedT hc) hg1 hm1 boot_sorted (pa_cons (pe_callTy (cr_setOfT hc hu) hg2 hm2 PyProof.Rows.boot_set (pa1 he hs2) (by decide) (by decide) hs2 hpl2) pa_nil hs1) (by decide) (by decide) hs1 hpl1) fun σ H Q q => ?_, fun e => pu_bind (he.pu e) fun _ _ _ _ e => pu_of e⟩
  obtain ⟨G, ρ, re, q⟩ := q
  refine ⟨G, ρ, re, (good_bindT re.gi q).mono fun d ρ1 G1 H1 s1 re1 q1 v1 r1 => ?_⟩
  obtain ⟨z, e, o⟩ := Good.of (Q := Q) re1 q1 (H0 := H) (fun a h => (s1.stp re.gi).dm a h) fun d ρ' G' H' k v n => k v n
  cases d <;> try (exact nomatch (show (none : Option D) = some z from e))
  case list ds =>
    have e : (if ds.length < 64 then (prsD ds).map fun l => PyData.list ((ssP l).map encP) else none) = some z := e
    split at e
    · rename_i h64
      obtain ⟨l, hl, ez⟩ := Option.map_eq_some_iff.mp e
      subst ez
      obtain ⟨rfl, bd⟩ := prsD_some hl
      obtain ⟨a, xs, rfl, ha, ra⟩ := (r1.rd h1).sqL
      obtain ⟨ks, e1, e2, e3⟩ := repL_keys ra
      subst e1
      have lenk : ks.length < 64 := by
        have := congrArg List.length e2
        rw [List.length_map, List.length_map] at this
        rw [List.length_map] at h64
        omega
      refine ⟨a, ks, rfl, ha, e3, lenk, fun b L hb hsub hall => ?_⟩
      have g1 : Gr H1 (L2.upd H1 b (SetTO X.prog X.w b L)) := Gr.upd hb
      have mk : ∀ k, k ∈ L.map (·.2) ↔ k ∈ l.map lsP := fun k => by
        rw [← e2]
        constructor
        · intro h
          obtain ⟨p, h1, h2⟩ := List.mem_map.mp h
          exact List.mem_map.mpr ⟨p, hsub p h1, h2⟩
        · intro h
          obtain ⟨p, h1, h2⟩ := List.mem_map.mp h
          rw [← h2]
          exact hall p h1
      refine ⟨b, L, 2, B20, rfl, upd_same, fun p hp => SqT.gr g1 (e3 p (hsub p hp)), by decide, fun p hp => ?_, fun L' q pm nd _ pw hq => ?_⟩
      · obtain ⟨x, hx, e⟩ := List.mem_map.mp ((mk p.2).mp (List.mem_map.mpr ⟨p, hp, rfl⟩))
        rw [← e]
        have := bd x hx
        refine ⟨rfl, fun m hm => ?_⟩
        have hm : m = x.1 ∨ m = x.2 := by simpa [lsP] using hm
        rcases hm with e | e <;> rw [e]
        · exact ⟨this.1, this.2.1⟩
        · exact this.2.2
      · have ek : L'.map (·.2) = (ssP l).map lsP := keys_ss bd (fun k => by rw [← mk k]; exact (pm.map (·.2)).mem_iff) nd (List.pairwise_map.mpr pw)
        have rep : RepL (cfX X) G1 (L2.upd H1 b (SetTO X.prog X.w b L)) (L'.map fun p => V.ref p.1) ((ssP l).map encP) := keys_repL ek fun p hp => SqT.gr g1 (e3 p (hsub p (pm.mem_iff.mp hp)))
        have n := New.lst1 (c := cfX X) (g1.gi re1.gi) hq rep
        exact o _ _ (fun b u h => Gr.upd hq _ _ (g1 _ _ h)) (n.anti fun b h => g1.dm h)
    · cases e
end
end Nc
namespace Nc
open PySem PySem.Spec L2
open PyProof.Rows hiding St

/-- a key that a dict may have -/
def keyD (d : D) : Option NestedKey := match d with
  | .tuple ds => (keyOf (.tuple ds)).bind fun k => if k.depth ≤ 8 then some k else none
  | _ => none
def lookK : List (D × D) → NestedKey → Option D
  | [], _ => none
  | (kd, vd) :: r, k => if keyOf kd = some k then some vd else lookK r k
def lookE : List Ent → NestedKey → Option (Addr × V)
  | [], _ => none
  | (j, b, u) :: r, k => if j = k then some (b, u) else lookE r k
abbrev EntR (x : Ent) (y : NestedKey × Addr × Value) : Prop := x.1 = y.1 ∧ x.2.1 = y.2.1 ∧ RelV x.2.2 y.2.2
section
variable {X : Cx} {io : Nat → Bool} {W : WX} {rk : Nat} {c : Cf} {p p1 p2 p3 : Bool} {cl cl1 cl2 cl3 : Cls} {G G0 G1 G2 G' : Gh} {H H0 H1 H2 H' : Hp} {σ σ1 σ2 σ' : L2.St} {ρ ρ1 ρ2 ρ' : Rho} {pins : List (Addr × Obj)} {s : Shared}
theorem keyD_some {d : D} {k : NestedKey} (h : keyD d = some k) : ∃ ds, d = .tuple ds ∧ keyOf d = some k ∧ k.depth ≤ 8 := by
  unfold keyD at h
  split at h
  · rename_i ds
    obtain ⟨k', e, h⟩ := Option.bind_eq_some_iff.mp h
    split at h
    · cases h
      exact ⟨ds, rfl, e, by assumption⟩
    · cases h
  · cases h
mutual
theorem nested_of (I : Inv X pins σ H s) : ∀ {v : V} {d : D} {k : NestedKey} {u : Value}, Rep (cfX X) G H v d → keyOf d = some k → RelV v u → NestedIs s.heap k u
  | _, _, _, _, .non, e, r => by cases e; cases r; exact .none
  | _, _, _, _, .bl b, e, r => by cases e; cases r; exact .bool rfl
  | _, _, _, _, .int i, e, r => by
    cases e
    obtain ⟨t, rfl⟩ := r
    exact .int i t
  | _, _, _, _, .str x, e, r => by
    cases e
    obtain ⟨t, rfl⟩ := r
    exact .text x t
  | _, _, _, _, .tup h rl, e, r => by
    obtain ⟨ks, e1, e2⟩ := Option.map_eq_some_iff.mp (show (keyOf.keysOf _).map NestedKey.tup = some _ from e)
    subst e2
    cases r
    obtain ⟨its, rv, ⟨o, ho, hc, n, hd⟩, _⟩ := I.tuple h
    exact .tup ho hc hd (nested_all I rl e1 (by simpa using rv))
  | _, _, _, _, .lst _ _ _, e, r => by cases e
  | _, _, _, _, .frz _ _, e, r => by cases e
  | _, _, _, _, .dic _ _, e, r => by cases e
theorem nested_all (I : Inv X pins σ H s) : ∀ {vs : List V} {ds : List D} {ks : List NestedKey} {us : List Value}, RepL (cfX X) G H vs ds → keyOf.keysOf ds = some ks → Vals vs us → NestedAll s.heap ks us
  | _, _, _, _, .nil, e, r => by cases e; cases r; exact .nil
  | _, _, _, _, .cons h rl, e, r => by
    obtain ⟨k, e1, e⟩ := Option.bind_eq_some_iff.mp (show (keyOf _).bind _ = some _ from e)
    obtain ⟨ks, e2, e3⟩ := Option.map_eq_some_iff.mp e
    subst e3
    cases r with
    | cons r rs => exact .cons (nested_of I h e1 r) (nested_all I rl e2 rs)
end
theorem look_some : ∀ {xs : List Ent} {kvs : List (D × D)} {k : NestedKey} {vd : D}, RepK c G H xs kvs → lookK kvs k = some vd → ∃ b u, lookE xs k = some (b, u) ∧ Rep c G H u vd
  | _, _, _, _, .nil, e => by cases e
  | _, _, k, vd, .cons (k := j) (b := b) (u := u) (kd := kd) (vd := vd') (xs := xs) (kvs := kvs) r1 ek r2 r3, e => by
    have e : (if keyOf kd = some k then some vd' else lookK kvs k) = some vd := e
    show ∃ b' u', (if j = k then some (b, u) else lookE xs k) = some (b', u') ∧ _
    rw [ek] at e
    by_cases h : j = k
    · rw [if_pos (by rw [h])] at e
      cases e
      exact ⟨b, u, if_pos h, r2⟩
    · rw [if_neg (fun z => h (Option.some.inj z))] at e
      rw [if_neg h]
      exact look_some r3 e
theorem look_none : ∀ {xs : List Ent} {kvs : List (D × D)} {k : NestedKey}, RepK c G H xs kvs → lookK kvs k = none → lookE xs k = none
  | _, _, _, .nil, e => rfl
  | _, _, k, .cons (k := j) (b := b) (u := u) (kd := kd) (vd := vd') (xs := xs) (kvs := kvs) r1 ek r2 r3, e => by
    have e : (if keyOf kd = some k then some vd' else lookK kvs k) = none := e
    show (if j = k then some (b, u) else lookE xs k) = none
    rw [ek] at e
    by_cases h : j = k
    · rw [if_pos (by rw [h])] at e; cases e
    · rw [if_neg (fun z => h (Option.some.inj z))] at e
      rw [if_neg h]
      exact look_none r3 e
theorem at_some : ∀ {xs : List Ent} {ys : List (NestedKey × Addr × Value)} {k : NestedKey} {b : Addr} {u : V}, Paired EntR xs ys → lookE xs k = some (b, u) → ∃ w, atKey ys k = some (b, w) ∧ RelV u w
  | _, _, _, _, _, .nil, e => by cases e
  | (j, b', u') :: xs, (j2, b2, w2) :: ys, k, b, u, .cons hr hp, e => by
    obtain ⟨e1, e2, e3⟩ := hr
    have e1 : j = j2 := e1
    have e2 : b' = b2 := e2
    have e3 : RelV u' w2 := e3
    subst e1 e2
    have e : (if j = k then some (b', u') else lookE xs k) = some (b, u) := e
    unfold atKey
    rw [List.find?_cons]
    by_cases h : j = k
    · rw [if_pos h] at e
      cases e
      simp only [h, decide_true]
      exact ⟨w2, rfl, e3⟩
    · rw [if_neg h] at e
      simp only [h, decide_false]
      exact at_some hp e
theorem at_none : ∀ {xs : List Ent} {ys : List (NestedKey × Addr × Value)} {k : NestedKey}, Paired EntR xs ys → lookE xs k = none → atKey ys k = none
  | _, _, _, .nil, e => rfl
  | (j, b', u') :: xs, (j2, b2, w2) :: ys, k, .cons hr hp, e => by
    obtain ⟨e1, e2, e3⟩ := hr
    have e1 : j = j2 := e1
    subst e1
    have e : (if j = k then some (b', u') else lookE xs k) = none := e
    unfold atKey
    rw [List.find?_cons]
    by_cases h : j = k
    · rw [if_pos h] at e; cases e
    · rw [if_neg h] at e
      simp only [h, decide_false]
      exact at_none hp e
theorem RepK.key : ∀ {xs : List Ent} {kvs : List (D × D)}, RepK c G H xs kvs → ∀ x ∈ xs, ∃ kd, Rep c G H (.ref x.2.1) kd ∧ keyOf kd = some x.1
  | _, _, .nil, x, h => by cases h
  | _, _, .cons r1 ek r2 r3, x, h => by
    rcases List.mem_cons.mp h with e | h
    · rw [e]; exact ⟨_, r1, ek⟩
    · exact RepK.key r3 x h
theorem paired_mem {α β : Type} {R : α → β → Prop} : ∀ {xs : List α} {ys : List β}, Paired R xs ys → ∀ y ∈ ys, ∃ x ∈ xs, R x y
  | _, _, .nil, y, h => by cases h
  | _, _, .cons hr hp, y, h => by
    rcases List.mem_cons.mp h with e | h
    · rw [e]; exact ⟨_, List.mem_cons_self .., hr⟩
    · obtain ⟨x, h1, h2⟩ := paired_mem hp y h
      exact ⟨x, List.mem_cons_of_mem _ h1, h2⟩
theorem paired_keys : ∀ {xs : List Ent} {ys : List (NestedKey × Addr × Value)}, Paired EntR xs ys → xs.map (·.1) = ys.map (·.1)
  | _, _, .nil => rfl
  | _, _, .cons hr hp => by
    rw [List.map_cons, List.map_cons, hr.1, paired_keys hp]
/-- the dict in the heap -/
theorem dict_at (I : Inv X pins σ H s) {a : Addr} {xs : List Ent} {kvs : List (D × D)} (ha : Rd H a (DicO (cfX X) a xs)) (r : RepK (cfX X) G H xs kvs) :
    ∃ ys, s.heap.DictOfH (nestedKind X.prog X.w) a ys ∧ Paired EntR xs ys ∧ (∀ x ∈ xs, x.1.depth ≤ 8) ∧ (xs.map (·.1)).Nodup ∧ xs.length ≤ sizeLine ∧ (a == sysModules) = false := by
  obtain ⟨⟨nd, dp, len, sys, ys, o, es, ep, ho, hex, hd, hes, pr⟩, _⟩ := ha.ok I.hok
  refine ⟨ys, ⟨o, es, ep, ho, hex, hd, hes, fun y hy => ?_, by rw [← paired_keys pr]; exact nd⟩, pr, dp, nd, len, sys⟩
  obtain ⟨x, hx, e1, e2, _⟩ := paired_mem pr y hy
  obtain ⟨kd, r1, ek⟩ := r.key x hx
  rw [← e1, ← e2]
  exact ⟨nested_of I r1 ek rfl, dp x hx⟩
def dIxK : D → D → Option D
  | .dict kvs, k => (keyD k).bind (lookK kvs)
  | d, e => dIx d e
theorem ix_K (hu : X.A.units + 16 < cLine) : IxR X (rIt (cfX X) dIxK) := by
  intro value slice pins s σ H x y v u Q I rx ry h hs
  obtain ⟨G, d, e, z, gi, hd, he, hz, o⟩ := h
  cases d
  case dict kvs =>
    obtain ⟨k, hk, hz2⟩ := Option.bind_eq_some_iff.mp (show (keyD e).bind (lookK kvs) = some z from hz)
    obtain ⟨es, rfl, ek, dk⟩ := keyD_some hk
    obtain ⟨a, xs, rfl, ha, ra⟩ := hd.dict
    obtain ⟨ys, hm, pr, dp, nd, len, sys⟩ := dict_at I ha ra
    obtain ⟨b, ve, l1, l2⟩ := look_some ra hz2
    obtain ⟨w, l3, l4⟩ := at_some pr l1
    have hkr := he.atom rfl
    obtain ⟨t, rfl⟩ : ∃ t, y = .ref t := by
      cases hkr
      exact ⟨_, rfl⟩
    cases rx
    cases ry
    have hn := nested_of I hkr ek (u := .ref t) rfl
    exact tail_any hm.typeIs slot_dict_getitem.lookup (wpAny_getItem_heap (knd := nestedKind X.prog X.w) (k := k) (p := (b, w)) (show X.A.in1.units + 8 < cLine by show X.A.units + 1 + 8 < cLine; omega) ⟨hn, dk⟩ hm l3 ⟨ve, H, I.tok _, l4, o _ l2⟩) hs
  all_goals exact ix_D value slice pins s σ H x y v u Q I rx ry ⟨G, _, e, z, gi, hd, he, hz, o⟩ hs
/-- a key that has come -/
theorem key_at (I : Inv X pins σ H s) {v : V} {d : D} {k : NestedKey} (r : Rd1 (cfX X) G H v d) (hk : keyD d = some k) : ∃ t, v = .ref t ∧ (nestedKind X.prog X.w).is s.heap k t ∧ Rep (cfX X) G H v d ∧ keyOf d = some k := by
  obtain ⟨es, rfl, ek, dk⟩ := keyD_some hk
  have hkr := r.atom rfl
  obtain ⟨t, rfl⟩ : ∃ t, v = .ref t := by
    cases hkr
    exact ⟨_, rfl⟩
  exact ⟨t, rfl, ⟨nested_of I hkr ek (u := .ref t) rfl, dk⟩, hkr, ek⟩
theorem look_is {xs : List Ent} {kvs : List (D × D)} {ys : List (NestedKey × Addr × Value)} {k : NestedKey} (r : RepK c G H xs kvs) (pr : Paired EntR xs ys) : (atKey ys k).isSome = (lookK kvs k).isSome := by
  cases e : lookK kvs k with
  | none => rw [at_none pr (look_none r e)]; rfl
  | some vd =>
    obtain ⟨b, u, l1, _⟩ := look_some r e
    obtain ⟨w, l2, _⟩ := at_some pr l1
    rw [l2]; rfl
def dInK : D → D → Option D
  | k, .dict kvs => (keyD k).map fun k => .bool (lookK kvs k).isSome
  | d, e => dIn d e
def dNotInK : D → D → Option D
  | k, .dict kvs => (keyD k).map fun k => .bool (!(lookK kvs k).isSome)
  | d, e => dNotIn d e
theorem room8 (hu : X.A.units + 65 < cLine) : (nestedKind X.prog X.w).room X.A.in1 := show X.A.units + 1 + 8 < cLine by omega
theorem op_inK (hu : X.A.units + 65 < cLine) : OpR X (compareOp .In) (rD (cfX X) dInK) := by
  intro pins s σ H x y v u Q I rx ry h
  obtain ⟨G, d, e, z, gi, hd, he, hz, o⟩ := h
  cases e
  case dict kvs =>
    obtain ⟨k, hk, hz2⟩ := Option.map_eq_some_iff.mp (show (keyD d).map (fun k => (.bool (lookK kvs k).isSome : D)) = some z by cases d <;> exact hz)
    subst hz2
    obtain ⟨a, xs, rfl, ha, ra⟩ := he.dict
    obtain ⟨ys, hm, pr, dp, nd, len, sys⟩ := dict_at I ha ra
    obtain ⟨t, rfl, hn, _⟩ := key_at I hd hk
    cases rx
    cases ry
    exact wpAny_in_heap (room8 hu) hn sys hm ⟨.bl _, H, I.tok _, rfl, by rw [look_is ra pr]; exact o.bool⟩
  all_goals exact op_inS hu pins s σ H x y v u Q I rx ry ⟨G, d, _, z, gi, hd, he, by cases d <;> exact hz, o⟩
theorem op_notInK (hu : X.A.units + 65 < cLine) : OpR X (compareOp .NotIn) (rD (cfX X) dNotInK) := by
  intro pins s σ H x y v u Q I rx ry h
  obtain ⟨G, d, e, z, gi, hd, he, hz, o⟩ := h
  cases e
  case dict kvs =>
    obtain ⟨k, hk, hz2⟩ := Option.map_eq_some_iff.mp (show (keyD d).map (fun k => (.bool (!(lookK kvs k).isSome) : D)) = some z by cases d <;> exact hz)
    subst hz2
    obtain ⟨a, xs, rfl, ha, ra⟩ := he.dict
    obtain ⟨ys, hm, pr, dp, nd, len, sys⟩ := dict_at I ha ra
    obtain ⟨t, rfl, hn, _⟩ := key_at I hd hk
    cases rx
    cases ry
    show wpAny _ _ (do return Value.bool (!(← contains (.ref a) (.ref t)))) _ _ s
    exact wpAny_bind (wpAny_contains_heap (room8 hu) hn sys hm (wpAny_pure ⟨.bl _, H, I.tok _, rfl, by rw [look_is ra pr]; exact o.bool⟩))
  all_goals exact op_notInS hu pins s σ H x y v u Q I rx ry ⟨G, d, _, z, gi, hd, he, by cases d <;> exact hz, o⟩
def tyDic (c : Cf) (x : V) (H : Hp) : Prop := ∃ a xs, x = .ref a ∧ Rd H a (DicO c a xs)
theorem ty_dic : TyOk X "dict" (tyDic (cfX X)) := by
  intro pins σ H s x v I r ty
  obtain ⟨a, xs, rfl, ha⟩ := ty
  cases r
  obtain ⟨⟨nd, dp, len, sys, ys, o, es, ep, ho, hex, hd, hes, pr⟩, _⟩ := ha.ok I.hok
  refine ⟨⟨o, ho, hex.1⟩, fun b e => ?_⟩
  cases e
  exact ⟨o, ho, hex.2.1⟩
def rGetK (c : Cf) : V → List V → Hp → VK → Prop := fun x vs H Q => ∃ G kvs kd dd k, Rd1 c G H x (.dict kvs) ∧ (∃ y d, vs = [y, d] ∧ Rd1 c G H y kd ∧ Rep c G H d dd) ∧ keyD kd = some k ∧ ∀ v, Rep c G H v ((lookK kvs k).getD dd) → Q v H
theorem mt_getK (hu : X.A.units + 65 < cLine) : MtR X "dict.get" (rGetK (cfX X)) := by
  intro pins s σ H x vs v us Q I rx rv h
  obtain ⟨G, kvs, kd, dd, k, hx, ⟨y, d, rfl, hy, hdd⟩, hk, q⟩ := h
  obtain ⟨a, xs, rfl, ha, ra⟩ := hx.dict
  obtain ⟨ys, hm, pr, dp, nd, len, sys⟩ := dict_at I ha ra
  obtain ⟨t, rfl, hn, _⟩ := key_at I hy hk
  obtain ⟨u1, u2, rfl, r1, r2⟩ := vals2 rv
  cases rx
  cases r1
  refine call_meetsIn PySem.F.slot_dict_get hm.typeIs PySem.F.entry_dict_get (PySem.F.args_dict_get_3 _ _ _) (meetsH_dict_get_default (nestedKind X.prog X.w) a t sys u2) ⟨room8 hu, k, ys, hn, hm, ?_⟩
  cases e : lookK kvs k with
  | none =>
    rw [e] at q
    rw [at_none pr (look_none ra e)]
    exact ⟨d, H, I.tok _, r2, q d hdd⟩
  | some vd =>
    rw [e] at q
    obtain ⟨b, w, l1, l2⟩ := look_some ra e
    obtain ⟨w2, l3, l4⟩ := at_some pr l1
    rw [l3]
    exact ⟨w, H, I.tok _, l4, q w l2⟩
def mGet (fo : M) (fa : MA) : M := fun ρ => (fo ρ).bind fun x => match x.1 with
  | .dict kvs => (fa x.2).bind fun y => match y.1 with
    | [kd, dd] => match keyD kd with
      | some k => .ok ((lookK kvs k).getD dd, y.2)
      | none => .bad
    | _ => .bad
  | _ => .bad
theorem j_get {o k e : Expr} {fo : M} {fa : MA} {apos cpos : Pos} (hu : X.A.units + 65 < cLine) (ho : J X io W p1 cl o fo) (ha : JA X io W p2 [k, e] fa) (h1 : cl.st p2 = true := by rfl) (h2 : cl.st true = true := by rfl) (hbase : attributeBase o "get" X.env (eval o X.env) = eval o X.env := by rfl)
    (hfew : ((backTo cpos (starEach [k, e] X.env)).all (fun x => !x.1) && (backToKw cpos (keywordEach [] X.env)).all (fun x => x.1.isSome)
      && decide ([k, e].length + ([] : List Keyword).length + (if ([] : List Keyword).isEmpty then 0 else 1) < 30)) = true := by rfl)
    (hline : (apos.endLine == cpos.line) = true := by rfl) (hs : starEach [k, e] X.env = (false, eval k X.env) :: starEach [e] X.env := by rfl) (hplain : (backTo cpos (starEach [e] X.env)).any (·.1) = false := by rfl) :
    J X io W (p1 && p2) .f (.Call (.Attribute o "get" apos) [k, e] [] cpos) (mGet fo fa) := by
  refine ⟨peI (pe_mG ty_dic PySem.F.plainAttrs_dict PySem.F.slot_dict_get PySem.F.type_dict_get (mt_getK hu) ho.pe ha.pa hbase hfew hline hs hplain) fun σ H Q q => ?_, fun e => ?_⟩
  · obtain ⟨G, ρ, re, q⟩ := q
    refine ⟨G, ρ, re, (Good.bind (p1 := p1) (p2 := p2) re.gi q).mono fun d ρ1 G1 H1 s1 re1 q1 v1 r1 => ?_⟩
    have rd := r1.rd h2
    dsimp only at q1
    cases d with
    | dict kvs =>
      refine ⟨?_, G1, ρ1, re1, (good_bindT re1.gi q1).mono fun ds ρ2 G2 H2 s2 re2 q2 vs ra => ?_⟩
      · obtain ⟨a, xs, e, ha, _⟩ := rd.dict
        exact ⟨a, xs, e, ha⟩
      · cases ra with
        | nil => exact q2.elim
        | cons hk r =>
          cases r with
          | nil => exact q2.elim
          | cons hd r =>
            cases r with
            | cons _ _ => exact q2.elim
            | nil =>
              rename_i kd _ dd
              have q2 : Good X io W true σ G2 H2 (match keyD kd with
                | some k => R.ok ((lookK kvs k).getD dd, ρ2)
                | none => .bad) _ := q2
              cases hkd : keyD kd with
              | none => rw [hkd] at q2; exact q2.elim
              | some k =>
                rw [hkd] at q2
                exact ⟨G2, kvs, kd, dd, k, r1.step re1.gi s2 h1, ⟨_, _, rfl, .rep hk, hd⟩, hkd, fun v rv => q2 G2 H2 StepOf.refl re2 v rv⟩
    | _ => exact q1.elim
  · obtain ⟨e1, e2⟩ := and_t e
    exact pu_bind (ho.pu e1) fun b ρ1 z ρ2 e => by
      dsimp only at e
      split at e
      · exact pu_bind (f := fa) (ha.pu e2) (fun b2 ρ z ρ' e => by
          dsimp only at e
          split at e
          · split at e
            · cases e; rfl
            · cases e
          · cases e) ρ1 z ρ2 e
      · cases e
end
end Nc
namespace Nc
open PySem PySem.Spec L2
open PyProof.Rows hiding St

def putK (kvs : List (D × D)) (kd : D) (k : NestedKey) (vd : D) : List (D × D) :=
  if (lookK kvs k).isSome then kvs.map fun p => if keyOf p.1 = some k then (p.1, vd) else p else kvs ++ [(kd, vd)]
def putE (xs : List Ent) (k : NestedKey) (b : Addr) (u : V) : List Ent :=
  if (lookE xs k).isSome then xs.map fun x => if x.1 = k then (x.1, x.2.1, u) else x else xs ++ [(k, b, u)]
section
variable {X : Cx} {io : Nat → Bool} {W : WX} {rk : Nat} {c : Cf} {p p1 p2 p3 : Bool} {cl cl1 cl2 cl3 : Cls} {G G0 G1 G2 G' : Gh} {H H0 H1 H2 H' : Hp} {σ σ1 σ2 σ' : L2.St} {ρ ρ1 ρ2 ρ' : Rho} {pins : List (Addr × Obj)} {s : Shared}
theorem RepK.length : ∀ {xs : List Ent} {kvs : List (D × D)}, RepK c G H xs kvs → xs.length = kvs.length
  | _, _, .nil => rfl
  | _, _, .cons _ _ _ r => congrArg Nat.succ (RepK.length r)
theorem RepK.snoc : ∀ {xs : List Ent} {kvs : List (D × D)} {k : NestedKey} {b : Addr} {u : V} {kd vd : D}, RepK c G H xs kvs → Rep c G H (.ref b) kd → keyOf kd = some k → Rep c G H u vd → RepK c G H (xs ++ [(k, b, u)]) (kvs ++ [(kd, vd)])
  | _, _, _, _, _, _, _, .nil, h1, h2, h3 => .cons h1 h2 h3 .nil
  | _, _, _, _, _, _, _, .cons a e b r, h1, h2, h3 => .cons a e b (RepK.snoc r h1 h2 h3)
theorem RepK.repl {k : NestedKey} {u : V} {vd : D} (h3 : Rep c G H u vd) : ∀ {xs : List Ent} {kvs : List (D × D)}, RepK c G H xs kvs → RepK c G H (xs.map fun x => if x.1 = k then (x.1, x.2.1, u) else x) (kvs.map fun p => if keyOf p.1 = some k then (p.1, vd) else p)
  | _, _, .nil => .nil
  | _, _, .cons (k := j) (b := b) (u := u') (kd := kd) (vd := vd') (xs := xs) (kvs := kvs) a e b' r => by
    rw [List.map_cons, List.map_cons]
    by_cases h : j = k
    · have e1 : keyOf kd = some k := by rw [e, h]
      simp only [h, e1, if_true]
      exact .cons a e1 h3 (RepK.repl h3 r)
    · have e1 : ¬ keyOf kd = some k := by rw [e]; exact fun z => h (Option.some.inj z)
      simp only [h, e1, if_false]
      exact .cons a e b' (RepK.repl h3 r)
theorem look_same {xs : List Ent} {kvs : List (D × D)} {k : NestedKey} (r : RepK c G H xs kvs) : (lookE xs k).isSome = (lookK kvs k).isSome := by
  cases e : lookK kvs k with
  | none => rw [look_none r e]; rfl
  | some vd =>
    obtain ⟨b, u, l1, _⟩ := look_some r e
    rw [l1]; rfl
theorem RepK.put {xs : List Ent} {kvs : List (D × D)} {k : NestedKey} {b : Addr} {u : V} {kd vd : D} (r : RepK c G H xs kvs) (h1 : Rep c G H (.ref b) kd) (h2 : keyOf kd = some k) (h3 : Rep c G H u vd) : RepK c G H (putE xs k b u) (putK kvs kd k vd) := by
  unfold putE putK
  rw [look_same r]
  split
  · exact RepK.repl h3 r
  · exact r.snoc h1 h2 h3
theorem paired_snoc {α β : Type} {R : α → β → Prop} : ∀ {xs : List α} {ys : List β} {x : α} {y : β}, Paired R xs ys → R x y → Paired R (xs ++ [x]) (ys ++ [y])
  | _, _, _, _, .nil, h => .cons h .nil
  | _, _, _, _, .cons a r, h => .cons a (paired_snoc r h)
theorem paired_repl {k : NestedKey} {u : V} {w : Value} (h : RelV u w) : ∀ {xs : List Ent} {ys : List (NestedKey × Addr × Value)}, Paired EntR xs ys → Paired EntR (xs.map fun x => if x.1 = k then (x.1, x.2.1, u) else x) (ys.map (putAt k w))
  | _, _, .nil => .nil
  | x :: xs, y :: ys, .cons hr r => by
    rw [List.map_cons, List.map_cons]
    refine .cons ?_ (paired_repl h r)
    unfold putAt
    rw [← hr.1]
    by_cases e : x.1 = k
    · rw [if_pos e, if_pos e]
      exact ⟨rfl, hr.2.1, h⟩
    · rw [if_neg e, if_neg e]
      exact hr
theorem paired_put {xs : List Ent} {ys : List (NestedKey × Addr × Value)} {k : NestedKey} {b : Addr} {u : V} {w : Value} (pr : Paired EntR xs ys) (h : RelV u w) : Paired EntR (putE xs k b u) (storedH ys k b w) := by
  unfold putE storedH
  have e : (lookE xs k).isSome = (atKey ys k).isSome := by
    cases e : lookE xs k with
    | none => rw [at_none pr e]; rfl
    | some q =>
      obtain ⟨b, u⟩ := q
      obtain ⟨w, l, _⟩ := at_some pr e
      rw [l]; rfl
  rw [e]
  split
  · exact paired_repl h pr
  · exact paired_snoc pr ⟨rfl, rfl, h⟩
theorem putE_length {xs : List Ent} {k : NestedKey} {b : Addr} {u : V} : (putE xs k b u).length ≤ xs.length + 1 := by
  unfold putE
  split
  · rw [List.length_map]; omega
  · rw [List.length_append, List.length_singleton]; exact Nat.le_refl _
theorem putE_depth {xs : List Ent} {k : NestedKey} {b : Addr} {u : V} (h : ∀ x ∈ xs, x.1.depth ≤ 8) (hk : k.depth ≤ 8) : ∀ x ∈ putE xs k b u, x.1.depth ≤ 8 := by
  intro x hx
  unfold putE at hx
  split at hx
  · obtain ⟨y, hy, e⟩ := List.mem_map.mp hx
    rw [← e]
    split
    · exact h y hy
    · exact h y hy
  · rcases List.mem_append.mp hx with hx | hx
    · exact h x hx
    · rw [List.mem_singleton.mp hx]; exact hk
/-- a dict's object as it is to stand -/
theorem dicO_new {P : Program} {w : World} {K : PySem.W.Frag} {H' : Hp} {h' : Heap} {a : Addr} {xs : List Ent} {ys : List (NestedKey × Addr × Value)} (hm : h'.DictOfH (nestedKind P w) a ys) (pr : Paired EntR xs ys) (dp : ∀ x ∈ xs, x.1.depth ≤ 8) (len : xs.length ≤ sizeLine) (sys : (a == sysModules) = false) :
    ObjOk P w H' h' a (DicO ⟨P, w, K⟩ a xs) := by
  obtain ⟨o, es, ep, ho, hex, hd, hes, _, hnd⟩ := hm
  have nd : (xs.map (·.1)).Nodup := by rw [paired_keys pr]; exact hnd
  exact ⟨⟨nd, dp, len, sys, ys, o, es, ep, ho, hex, hd, hes, pr⟩, ⟨o, ho⟩, fun h1 h2 ⟨nd, dp, len, sys, ys, o, es, ep, ho, r⟩ k => ⟨nd, dp, len, sys, ys, o, es, ep, k o ho, r⟩⟩
def rSetK (c : Cf) : V → V → V → Hp → (Hp → Prop) → Prop := fun o i v H Q => ∃ G a b xs kvs kd k, o = .ref a ∧ i = .ref b ∧ H a = some (DicO c a xs) ∧ RepK c G H xs kvs ∧ Rep c G H i kd ∧ keyD kd = some k ∧ xs.length < sizeLine ∧ Q (upd H a (DicO c a (putE xs k b v)))
theorem set_dictK (hu : X.A.units + 65 < cLine) : PSet X (rSetK (cfX X)) := by
  intro pins s σ H o i v ov iv u Q I ro ri rv h
  obtain ⟨G, a, b, xs, kvs, kd, k, rfl, rfl, ha, ra, hk, ek, hl, q⟩ := h
  obtain ⟨ys, hm, pr, dp, nd, len, sys⟩ := dict_at I (.inl ha) ra
  obtain ⟨t, et, hn, _⟩ := key_at I (.rep hk) ek
  cases et
  obtain ⟨_, _, _, dk⟩ := keyD_some ek
  cases ro
  cases ri
  refine wpAny_setItem_heap (hsz := by rw [← Paired.length pr]; exact len) (room8 hu) hn hm fun h' dd' hs => ?_
  have he : ∃ q, h'.get? a = some q := let ⟨q, _, _, hq, _⟩ := dd'; ⟨q, hq⟩
  refine ⟨_, d_write (t' := s.toks + (nestedKind X.prog X.w).draws k) I (by rw [ha]; exact True.intro) hs he (dicO_new dd' (paired_put pr rv) (putE_depth dp dk) (Nat.le_trans putE_length hl) sys), q⟩
/-- a slot's own dict -/
def dctOf (ρ : Rho) (i : Nat) : Option (List (D × D)) := match ρ[i]? with
  | some (some (1, .dict ds)) => some ds
  | _ => none
theorem dctOf_eq {i : Nat} {ds : List (D × D)} (h : dctOf ρ i = some ds) : ρ[i]? = some (some (1, .dict ds)) := by
  unfold dctOf at h
  split at h
  · cases h; assumption
  · cases h
theorem stp_ownD {a : Addr} {i : Nat} {xs : List Ent} {o : HO} (g : G a = some (.own i)) (h : H a = some (DicO c a xs)) : Stp io G H G (L2.upd H a o) where
  fz := fun _ h => h
  un := fun _ _ h => h
  kp := fun b u e n => by rw [upd_ne (fun z => n i (by rw [z]; exact g))]; exact e
  dm := fun b q => by
    by_cases e : b = a
    · rw [e, upd_same]; simp
    · rw [upd_ne e]; exact q
  ow := fun _ _ _ h => h
  rt := fun _ _ h => .inl h
  tp := fun b ys e => by rw [upd_ne (fun z => by rw [z, h] at e; cases e)]; exact e
  fr := fun b q u e => by rw [upd_ne (fun z => by rw [z, h] at e; cases e)]; exact e
theorem RE.dict1 {i : Nat} {kvs : List (D × D)} (re : RE c G σ H ρ) (e : ρ[i]? = some (some (1, .dict kvs))) : ∃ a xs, σ[i]? = some (some (.ref a)) ∧ H a = some (DicO c a xs) ∧ RepK c G H xs kvs ∧ ∀ ys kvs', RepK c G H ys kvs' →
    RE c G σ (L2.upd H a (DicO c a ys)) (ρ.set i (some (1, .dict kvs'))) ∧ ∀ io, Stp io G H G (L2.upd H a (DicO c a ys)) := by
  obtain ⟨v, A, h1, h2, h3, h4⟩ := re.at_ i 1 _ e
  cases h2 with
  | atom _ z => cases z
  | dic h r =>
    rename_i a xs A
    have r' := (RepK.of_tr0 r).1
    have eA := (RepK.of_tr0 r).2
    subst eA
    have g := h4 a (List.mem_cons_self ..)
    refine ⟨a, xs, h1, h, r', fun ys kvs' ry => ⟨⟨by rw [List.length_set]; exact re.len, fun b q => ?_, fun j k d q => ?_⟩, fun io => stp_ownD g h⟩⟩
    · by_cases n : b = a
      · rw [n, upd_same]; simp
      · rw [upd_ne n]; exact re.gi b q
    · by_cases n : j = i
      · subst n
        rw [List.getElem?_set] at q
        simp only [if_true] at q
        split at q
        · cases q
          exact ⟨_, [a], h1, .dic (A := []) upd_same (TrK.of_rep (RepK.stp (io := fun _ => false) (stp_ownD g h) ry)), by simp, fun b hb => by rw [List.mem_singleton.mp hb]; exact g⟩
        · cases q
      · rw [List.getElem?_set_ne (Ne.symm n)] at q
        obtain ⟨u, B, g1, g2, g3, g4⟩ := re.at_ j k d q
        refine ⟨u, B, g1, g2.kps ⟨fun r => r.stp (io := fun _ => false) (stp_ownD g h), fun b hb o e => ?_⟩, g3, g4⟩
        rw [upd_ne (fun z => by
          have := g4 b hb
          rw [z, g] at this
          cases this
          exact n rfl)]
        exact e
def sPutK (i : Nat) (f k : M) : S := fun ρ => (f ρ).bind fun x => match dctOf x.2 i with
  | some kvs => (k x.2).bind fun y => match keyD y.1 with
    | some kk => if kvs.length < big then .ok (.nx, y.2.set i (some (1, .dict (putK kvs y.1 kk x.1)))) else .bad
    | none => .bad
  | none => .bad
theorem js_putK (i : Nat) {x : Str} {e k : Expr} {f g : M} {pn ps pos : Pos} (hu : X.A.units + 65 < cLine) (he : J X io W p1 .f e f) (hk : J X io W true .f k g) (hN : X.N[i]? = some x := by rfl) (hv : Vis X.env.scope x := by first | exact Or.inl rfl | exact Or.inr (Or.inl rfl) | exact Or.inr (Or.inr rfl)) (hd : (x == ("__debug__" : Str)) = false := by decide)
    (hcd : (x == ("__classdict__" : Str)) = false := by decide) (hs : swapsWithSole [.Subscript (.Name x pn) k ps] e pos.line X.env = pure false := by rfl) (hw : swappedStores [.Subscript (.Name x pn) k ps] e X.env = pure none := by rfl)
    (h1 : (assignEach [.Subscript (.Name x pn) k ps] X.env).map (·.2) = [assign (.Subscript (.Name x pn) k ps) X.env] := by rfl)
    (ha : ∀ v, assign (.Subscript (.Name x pn) k ps) X.env v = (do
      let ov ← holding [v] (eval (.Name x pn) X.env)
      let iv ← holding [v, ov] (eval k X.env)
      standAt ps
      holding [v, ov, iv] (setItem ov iv v)
      release [v, ov, iv] []) := by intro _; rfl) : JS X io W rk (.Assign [.Subscript (.Name x pn) k ps] e pos) (sPutK i f g) := psI (ps_asg he.pe (pg_sub (pe_var (i := i) hN hv hd hcd) hk.pe (set_dictK hu) ha) hs hw h1) fun D σ H q => by
  obtain ⟨G, ρ, re, q⟩ := q
  refine ⟨G, ρ, re, (GoodS.expr re.gi q).mono fun d ρ1 G1 H1 s1 re1 q1 v r => ?_⟩
  dsimp only at q1
  cases hl : dctOf ρ1 i with
  | none => rw [hl] at q1; exact q1.elim
  | some kvs =>
    rw [hl] at q1
    dsimp only at q1
    obtain ⟨a, xs, e1, e2, e3, e4⟩ := re1.dict1 (dctOf_eq hl)
    refine ⟨_, e1, G1, ρ1, re1, ?_⟩
    cases hg : g ρ1 with
    | bad => rw [hg] at q1; exact q1.elim
    | exc z => rw [hg] at q1; exact q1 σ Kio.refl
    | ok y =>
      obtain ⟨kd, ρ2⟩ := y
      have e := hk.pu rfl _ _ _ hg
      subst e
      rw [hg] at q1
      intro G2 H2 s2 re2 kv r2
      have s2 : Ext G1 H1 G2 H2 := s2
      have q1 : GoodS X io W σ G1 H1 (match keyD kd with
        | some kk => if kvs.length < big then .ok (.nx, ρ2.set i (some (1, .dict (putK kvs kd kk d)))) else .bad
        | none => .bad) _ := q1
      cases hkd : keyD kd with
      | none => rw [hkd] at q1; exact q1.elim
      | some kk =>
        rw [hkd] at q1
        dsimp only at q1
        by_cases hz : kvs.length < big
        · rw [if_pos hz] at q1
          have st := Ext.stp (io := io) re1.gi s2
          obtain ⟨a', xs', f1, f2, f3, f4⟩ := re2.dict1 (dctOf_eq hl)
          rw [e1] at f1
          cases f1
          obtain ⟨es, rfl, ek, dk⟩ := keyD_some hkd
          obtain ⟨b, rfl⟩ : ∃ b, kv = .ref b := by
            cases r2
            exact ⟨_, rfl⟩
          obtain ⟨g1, g2⟩ := f4 (putE xs' kk b v) (putK kvs _ kk d) (f3.put r2 ek (r.stp st))
          exact ⟨G2, a, b, xs', kvs, _, kk, rfl, rfl, f2, f3, r2, hkd, by rw [f3.length, ← big_eq]; exact hz, q1 σ _ _ Kio.refl (st.trans (g2 io)) g1⟩
        · rw [if_neg hz] at q1; exact q1.elim
theorem j_dict0 {pos : Pos} : J X io W true (.n 1) (.Dict [] [] pos) (mC (.dict [])) := by
  refine ⟨⟨fun pins s σ H Q I q => ?_⟩, fun _ ρ d ρ' e => by cases e; rfl⟩
  obtain ⟨G, ρ, re, q⟩ := q
  have hn : H s.heap.objs.size = none := I.hok.fresh (Nat.le_refl _)
  have hsys : (s.heap.objs.size == sysModules) = false := beq_eq_false_iff_ne.mpr (Ne.symm (Nat.ne_of_lt I.big))
  refine wpAny_Dict_empty ⟨.ref s.heap.objs.size, _, I.laid (a := s.heap.objs.size) (o := DicO (cfX X) s.heap.objs.size []) (t' := s.toks) (fun _ _ q => Heap.get?_push_of_some _ q) (Nat.le_refl _) (dicO_new (ys := []) (Heap.DictOfH.new s.heap) .nil (by simp) (Nat.zero_le _) hsys), rfl, ?_⟩
  refine q G _ (show Ext _ _ _ _ from (Gr.upd hn).ext) (re.gr (Gr.upd hn)) _ ⟨[s.heap.objs.size], .dic (A := []) upd_same .nil, by simp, fun b hb => ?_⟩
  rw [List.mem_singleton.mp hb]
  exact ⟨GI.none re.gi hn, hn⟩
end
end Nc
namespace Nc
open PySem PySem.Spec L2
open PyProof.Rows hiding St
section
variable {P : Program} {w : World} {A : Around} {E : Value → Shared → Prop} {s : Shared}
/-- a dict's keys, gathered -/
theorem gather_keys {d : Addr} {es : Array DictEntry} {ep : Nat} {Q : List Value → Shared → Prop} (nh : A.handled = none) (ns : (d == sysModules) = false) (raw : s.heap.DictRaw d es ep) (fit : es.size ≤ sizeLine)
    (k : ∀ s', (∀ b o, s.heap.get? b = some o → s'.heap.get? b = some o) → s.heap.objs.size ≤ s'.heap.objs.size → s'.gens = s.gens → s'.os = s.os → Q (es.toList.map (·.key)) s') : wpAny (model P w) A (collect (.ref d)) Q E s := by
  obtain ⟨od, hod, hcd, hdd⟩ := id raw
  have dlt : d < s.heap.objs.size := Heap.lt_size hod
  have dne : s.heap.objs.size ≠ d := Nat.ne_of_gt dlt
  unfold collect; refine wpAny_bind (wpAny_runValue (codeAny_builtin PySem.F.entry_proto_collect ?_)); rw [Around.under_plainId PySem.F.plain_proto_collect _]
  show wpAny (model P w) A.in1 (newList [] >>= fun l => again (.builtin "list.__iadd__" ⟨[l, .ref d], []⟩)) _ _ s
  refine wpAny_bind (wpAny_newObj_type ?_); refine wpAny_pure ⟨plainId_quiet PySem.F.plain_list_iadd _, codeAny_builtin PySem.F.entry_list_iadd ?_⟩; rw [Around.under_plainId PySem.F.plain_list_iadd _]
  have new1 : (s.heap.push { cls := .type "list", data := .seq ([] : List Value).toArray }).get? s.heap.objs.size = some { cls := .type "list", data := .seq ([] : List Value).toArray } := Heap.get?_push_size _ rfl
  have raw1 : (s.heap.push { cls := .type "list", data := .seq ([] : List Value).toArray }).DictRaw d es ep := raw.at fun u e => Heap.get?_push_of_some _ e
  have sz1 : (s.heap.push { cls := .type "list", data := .seq ([] : List Value).toArray }).objs.size = s.heap.objs.size + 1 := size_push' _ _
  show wpAny (model P w) A.in1 (Builtin.List.listExtendWith (.ref s.heap.objs.size) (.ref d) (.ref s.heap.objs.size)) _ _ _
  unfold Builtin.List.listExtendWith
  refine wpAny_bind (wpAny_typeOf (T := "dict") raw1.typeIs ?_)
  have b1 : Builtin.List.listSameRef (.ref s.heap.objs.size) (.ref d) = false := by simp [Builtin.List.listSameRef, dne]
  simp only [b1, show (Value.type "dict" == Value.type "list") = false by decide, show (Value.type "dict" == Value.type "tuple") = false by decide, Bool.or_false, Bool.false_eq_true, if_false]
  refine wpAny_bind (wpAny_pyIter_dict_raw (s := { s with heap := s.heap.push { cls := .type "list", data := .seq ([] : List Value).toArray } }) ns raw1 ?_)
  generalize hh2 : (s.heap.push { cls := .type "list", data := .seq ([] : List Value).toArray }) = h1 at new1 raw1 sz1 ⊢
  have raw2 : (h1.push { cls := .type "dict_keyiterator", data := .fields #[.ref d, .int 0 0, .int es.size 0, .int ep 0] }).DictRaw d es ep := raw1.at fun u e => Heap.get?_push_of_some _ e
  have new2 : (h1.push { cls := .type "dict_keyiterator", data := .fields #[.ref d, .int 0 0, .int es.size 0, .int ep 0] }).get? s.heap.objs.size = some { cls := .type "list", data := .seq ([] : List Value).toArray } := Heap.get?_push_of_some _ new1
  have itr2 : (h1.push { cls := .type "dict_keyiterator", data := .fields #[.ref d, .int 0 0, .int es.size 0, .int ep 0] }).IsKeyIter h1.objs.size d 0 es.size ep := ⟨_, Heap.get?_push_size _ rfl, rfl, rfl⟩
  have kp2 : ∀ b u, s.heap.get? b = some u → (h1.push { cls := .type "dict_keyiterator", data := .fields #[.ref d, .int 0 0, .int es.size 0, .int ep 0] }).get? b = some u := fun b u e => Heap.get?_push_of_some _ (by rw [← hh2]; exact Heap.get?_push_of_some _ e)
  generalize (h1.push { cls := .type "dict_keyiterator", data := .fields #[.ref d, .int 0 0, .int es.size 0, .int ep 0] }) = h2 at raw2 new2 itr2 kp2 ⊢
  have hI : s.heap.objs.size ≠ h1.objs.size := by rw [sz1]; exact Nat.ne_of_lt (Nat.lt_succ_self _)
  have hdI : d ≠ h1.objs.size := by rw [sz1]; exact Nat.ne_of_lt (Nat.lt_succ_of_lt dlt)
  have isd2 : Shared.TypeIs { s with heap := h2 } (.ref d) "dict" := raw2.typeIs
  refine wpAny_bind (wpAny_holding ?_)
  unfold Builtin.List.listLengthHint
  refine wpAny_bind (wpAny_specialOf isd2 PySem.F.slot_dict_len.lookup ?_)
  (generalize hid : ("dict.__len__" : String) = id0; (fail_if_success (clear hid id0)); wp_delta; rw [show splitId id0 = some ("dict", "__len__") from by subst hid; decide +kernel]; subst hid)
  refine wpAny_bind (wpAny_isInstance (b := true) isd2 (by rw [isSubtype_type]; kernel_rfl) ?_)
  show wpAny (model P w) A.in1 (typeOf (.ref d) >>= _) _ _ _
  refine wpAny_bind (wpAny_typeOf isd2 ?_)
  refine wpAny_pure ?_
  show wpAny (model P w) A.in1 (rule "list.extend.makes-room" >>= fun _ => Builtin.List.listTouch (.ref s.heap.objs.size) >>= fun _ => again (.builtin "list.extend.loop" ⟨[.ref s.heap.objs.size, .ref h1.objs.size, .ref s.heap.objs.size], []⟩)) _ _ _
  refine wpAny_bind (wpAny_rule (wpAny_bind ?_))
  show wpAny (model P w) A.in1 (updateSeq s.heap.objs.size (·.push .none) >>= fun _ => updateSeq s.heap.objs.size (·.pop)) _ _ _
  refine wpAny_bind (wpAny_updateSeq new2 rfl ?_)
  have new3 := Heap.get?_update_self (Obj.mapSeq (·.push Value.none)) new2 rfl
  refine wpAny_updateSeq new3 rfl ?_
  have new4 := Heap.get?_update_self (Obj.mapSeq (·.pop)) new3 rfl
  have oth : ∀ b u, b ≠ s.heap.objs.size → h2.get? b = some u → ((h2.update s.heap.objs.size (Obj.mapSeq (·.push Value.none))).update s.heap.objs.size (Obj.mapSeq (·.pop))).get? b = some u := fun b u hb e =>
    (Heap.get?_update_other _ _ (Ne.symm hb)).trans ((Heap.get?_update_other _ _ (Ne.symm hb)).trans e)
  have walk := Walks.rawKeys (prog := P) (w := w) (A := A.in1) nh h1.objs.size d hdI es ep
  have out : ∀ m ∈ [h1.objs.size, d], m ≠ s.heap.objs.size := fun m hm => by
    rcases List.mem_cons.mp hm with e | e
    · rw [e]; exact Ne.symm hI
    · rw [List.mem_singleton.mp e]; exact Ne.symm dne
  have st4 : ((h2.update s.heap.objs.size (Obj.mapSeq (·.push Value.none))).update s.heap.objs.size (Obj.mapSeq (·.pop))).IsKeyIter h1.objs.size d 0 es.size ep ∧ ((h2.update s.heap.objs.size (Obj.mapSeq (·.push Value.none))).update s.heap.objs.size (Obj.mapSeq (·.pop))).DictRaw d es ep :=
    walk.frame 0 _ _ ⟨itr2, raw2⟩ fun b hb u e => oth b u (out b hb) e
  refine wpAny_pure ⟨plainId_quiet PySem.F.plain_extend_loop _, codeAny_extend_loopS walk.toS fit _ (fun hm => out _ hm rfl) _ es.size 0 _ _ _ rfl (Nat.zero_le _) st4 new4 (ItemsOf.nil _) fun s' acc' c' hm hS' hacc => ?_⟩
  show wpAny (model P w) A (load s.heap.objs.size >>= _) _ _ s'
  refine wpAny_bind (wpAny_load hS' (wpAny_pure ?_))
  have eo : acc'.toList = es.toList.map (·.key) := items_out (Pv := fun i v => ∃ hi : i < es.size, v = es[i].key) (out := es.toList.map (·.key)) (by rw [List.length_map, Array.length_toList]; exact hacc) fun j v hv => by
    obtain ⟨hj, e⟩ := hv
    rw [List.getElem?_map, Array.getElem?_toList, Array.getElem?_eq_getElem hj, e]; rfl
  show Q acc'.toList s'
  rw [eo]
  refine k s' (fun b u e => ?_) (Nat.le_of_lt (Heap.lt_size hS')) hm.gens hm.os
  have blt : b < s.heap.objs.size := Heap.lt_size e
  refine hm.heap b u (fun z => ?_) (oth b u (Nat.ne_of_lt blt) (kp2 b u e))
  rcases List.mem_cons.mp z with z | z
  · rw [z] at blt; exact absurd blt (Nat.lt_irrefl _)
  · have z := List.mem_singleton.mp z
    rw [z, sz1] at blt
    exact absurd blt (Nat.not_lt_of_le (Nat.le_succ _))
open PySem.W in
/-- sorted(x), the items of x gathered by col -/
theorem sorted_after {a : Addr} {vs : List Value} {ds : List D} {R : Value → D → Prop} {Q : Value → Shared → Prop}
    (col : ∀ (Q' : List Value → Shared → Prop), (∀ s', (∀ b o, s.heap.get? b = some o → s'.heap.get? b = some o) → s.heap.objs.size ≤ s'.heap.objs.size → s'.gens = s.gens → s'.os = s.os → Q' vs s') → wpAny (model P w) A.in1 (collect (.ref a)) Q' E s)
    (e : EachIs R vs ds) (er : EachIs (fun v d => ∃ as, Reads s.heap v d as) vs ds) (al : AllAlike ds) (so : Sortable ds) (fit : ds.length ≤ sizeLine) (hu : ∀ d, d ∈ ds → A.units + 2 + d.depth < cLine)
    (k : ∀ s' p out c, (∀ b o, s.heap.get? b = some o → s'.heap.get? b = some o) → s'.gens = s.gens → s'.os = s.os → s.heap.objs.size ≤ p → s'.heap.get? p = some (seqObj "list" (List.toArray out) c) → EachIs R out (ds.mergeSort (dataLe false id)) → Q (.ref p) s') :
    wpAny (model P w) A (call (.builtin "sorted") [.ref a]) Q E s := by
  refine Calls.call_function_entry kind_sorted plain_sorted entry_sorted (args_sorted1 _) ?_
  unfold Builtin.«sorted»
  refine wpAny_bind (m := checkCount "sorted" 1 1 _) (wpAny_pure (wpAny_bind (col _ fun s1 k1 z1 g1 o1 => ?_)))
  have len : vs.length = ds.length := e.length
  refine wpAny_bind (wpAny_newList ?_ (by rw [len]; exact fit))
  have at1 : (s1.heap.push (seqObj "list" vs.toArray 0)).get? s1.heap.objs.size = some (seqObj "list" vs.toArray 0) := Heap.get?_push_size _ rfl
  have er1 : EachIs (fun v d => ∃ as, Reads (sortingHeap (s1.heap.push (seqObj "list" vs.toArray 0)) s1.heap.objs.size vs) v d as) vs ds := er.mono fun v d hd => by
    obtain ⟨as, r⟩ := hd
    exact ⟨as, PyProof.Rows.Reads.keeps (fun b o q => sortingHeap_old (Nat.ne_of_lt (Heap.lt_size (k1 b o q))) (Heap.get?_push_of_some _ (k1 b o q))) r⟩
  have al' : AllAlike (ds.map id) := by rw [List.map_id]; exact al
  have ko : SortsAt P w A.in1.in1 { s1 with heap := sortingHeap (s1.heap.push (seqObj "list" vs.toArray 0)) s1.heap.objs.size vs } (dataKind (sortingHeap (s1.heap.push (seqObj "list" vs.toArray 0)) s1.heap.objs.size vs) ds) vs :=
    SortsAt.data (s := { s1 with heap := sortingHeap (s1.heap.push (seqObj "list" vs.toArray 0)) s1.heap.objs.size vs }) er1 al so fun d hd => hu d hd
  refine wpAny_bind (wpAny_holding (wpAny_call_entry slot_list_sort ⟨_, at1, rfl⟩ entry_list_sort (list_sort_vals (s := { s1 with heap := s1.heap.push (seqObj "list" vs.toArray 0) }) at1 ko (by rw [len]; exact fit) ⟨_, rfl, ?_⟩) (args_list_sort _)))
  obtain ⟨c, hc⟩ := sortedHeap_at (vs := vs) (out := (sortVals (dataKind (sortingHeap (s1.heap.push (seqObj "list" vs.toArray 0)) s1.heap.objs.size vs) ds) false vs vs).toArray) at1
  have fin := sortVals_data (enc := id) false e er1 al'
  rw [List.map_id] at fin
  refine wpAny_pure ⟨_, rfl, k _ s1.heap.objs.size _ c (fun b u q => ?_) g1 o1 z1 hc fin⟩
  have q := k1 b u q
  have hlt := Heap.lt_size q
  show (sortedHeap (s1.heap.push (seqObj "list" vs.toArray 0)) s1.heap.objs.size vs _).get? b = some u
  rw [sortedHeap_old (Nat.ne_of_lt hlt) (by rw [size_push']; exact Nat.lt_succ_of_lt hlt)]
  exact Heap.get?_push_of_some _ q
end
open PySem.W (alike AllAlike Sortable dataLe EachIs)
def allAlikeB (ds : List D) : Bool := ds.all fun a => ds.all fun b => alike a b
def sortableB (ds : List D) : Bool := (ds.all fun d => match d with
    | .tuple (_ :: _) => true
    | _ => false) || ds.all fun d => match d with
    | .none => false
    | .tuple _ => false
    | _ => true
def sortD (ds : List D) : Option D := if allAlikeB ds = true ∧ sortableB ds = true ∧ ds.all SeqAt.shaped = true ∧ ds.length ≤ big then some (.list (ds.mergeSort (dataLe false id))) else none
def dSort : D → Option D
  | .list ds => sortD ds
  | .dict kvs => sortD (kvs.map (·.1))
  | _ => none
theorem allAlike_of {ds : List D} (h : allAlikeB ds = true) : AllAlike ds := fun d hd e he => List.all_eq_true.mp (List.all_eq_true.mp h d hd) e he
theorem sortable_of {ds : List D} (h : sortableB ds = true) : Sortable ds := by
  rcases Bool.or_eq_true_iff.mp h with h | h
  · refine .inl fun d hd => ?_
    have q := List.all_eq_true.mp h d hd
    split at q
    · exact ⟨_, _, rfl⟩
    · cases q
  · refine .inr fun d hd => ?_
    have q := List.all_eq_true.mp h d hd
    split at q
    · cases q
    · cases q
    · rename_i h1 h2
      exact ⟨fun e => h1 e, fun xs e => h2 xs e⟩
section
variable {X : Cx} {c : Cf} {G G' : Gh} {H H' : Hp} {pins : List (Addr × Obj)} {σ : L2.St} {s : Shared}
/-- what a value stands for, by way of the abstract one -/
def RV (c : Cf) (G : Gh) (H : Hp) (u : Value) (d : D) : Prop := ∃ x : V, L2.RelV x u ∧ Rep c G H x d
theorem each_rv : ∀ {xs : List V} {us : List Value} {ds : List D}, RepL c G H xs ds → L2.Vals xs us → EachIs (RV c G H) us ds
  | _, _, _, .nil, .nil => .nil
  | _, _, _, .cons h r, .cons q t => .cons ⟨_, q, h⟩ (each_rv r t)
theorem rv_each : ∀ {us : List Value} {ds : List D}, EachIs (RV c G H) us ds → ∃ xs : List V, L2.Vals xs us ∧ RepL c G H xs ds
  | _, _, .nil => ⟨[], .nil, .nil⟩
  | _, _, .cons h r => by
    obtain ⟨x, h1, h2⟩ := h
    obtain ⟨xs, h3, h4⟩ := rv_each r
    exact ⟨x :: xs, .cons h1 h3, .cons h2 h4⟩
theorem each_reads (I : Inv X pins σ H s) : ∀ {us : List Value} {ds : List D}, EachIs (RV (cfX X) G H) us ds → ds.all SeqAt.shaped = true → EachIs (fun v d => ∃ as, Reads s.heap v d as) us ds
  | _, _, .nil, _ => .nil
  | _, _, .cons h r, e => by
    obtain ⟨e1, e2⟩ := Bool.and_eq_true_iff.mp e
    obtain ⟨x, h1, h2⟩ := h
    exact .cons (Dp.reads I _ _ _ (h2.dp (SeqAt.canLay_of_shaped e1)) h1) (each_reads I r e2)
theorem sort_fin (I : Inv X pins σ H s) (gi : GI G H) {us : List Value} {ds : List D} {a : Addr} {Q : VK} {z : D} (hu : X.A.units + 80 < cLine)
    (col : ∀ (Q' : List Value → Shared → Prop), (∀ s', (∀ b o, s.heap.get? b = some o → s'.heap.get? b = some o) → s.heap.objs.size ≤ s'.heap.objs.size → s'.gens = s.gens → s'.os = s.os → Q' us s') → wpAny (model X.prog X.w) X.A.in1 (collect (.ref a)) Q' X.xe s)
    (e : EachIs (RV (cfX X) G H) us ds) (hz : sortD ds = some z) (o : Out (cfX X) G H z Q) : wpAny (model X.prog X.w) X.A (call (.builtin "sorted") [.ref a]) (EP X pins σ Q) X.xe s := by
  obtain ⟨⟨h1, h2, h3, h4⟩, hz⟩ := ifS hz
  subst hz
  have hbig : big ≤ sizeLine := by rw [sizeLine_eq]; decide
  refine sorted_after col e (each_reads I e h3) (allAlike_of h1) (sortable_of h2) (Nat.le_trans h4 hbig) (fun d hd => ?_) fun s' p out cc k1 g1 o1 hp hat eo => ?_
  · have := SeqAt.depth_of_shaped (List.all_eq_true.mp h3 d hd)
    omega
  · obtain ⟨xs, hv, hr⟩ := rv_each eo
    have hn : H p = none := I.hok.fresh hp
    have lenx : xs.length ≤ sizeLine := by
      rw [hr.length, (List.mergeSort_perm _ _).length_eq]
      exact Nat.le_trans h4 hbig
    have J : Inv X pins σ (upd H p (.lst xs)) { s with heap := s'.heap, gens := s'.gens, drawn := s'.drawn, toks := s'.toks } :=
      I.call (ch := []) (Un.laid k1 hp hn) (I.hok.laid k1 hp ⟨lenx, out, cc, hv, hat⟩) (by rw [g1]; exact I.bare) (fun _ z => nomatch z)
    have es : s' = { s with heap := s'.heap, gens := s'.gens, drawn := s'.drawn, toks := s'.toks } := by
      cases s'; cases s; cases o1; rfl
    rw [es]
    exact ⟨.ref p, _, J, rfl, o.lst gi hn hr⟩
theorem keys_rv : ∀ {xs : List Ent} {kvs : List (D × D)} {ys : List (NestedKey × Addr × Value)}, RepK c G H xs kvs → Paired EntR xs ys → EachIs (RV c G H) (ys.map fun y => Value.ref y.2.1) (kvs.map (·.1))
  | _, _, _, .nil, .nil => .nil
  | _, _, _, .cons r1 ek r2 r3, .cons hr hp => .cons ⟨_, by show Value.ref _ = Value.ref _; rw [← hr.2.1], r1⟩ (keys_rv r3 hp)
theorem call_sortD (hc : X.calm = true) (hu : X.A.units + 80 < cLine) : CallR X (.builtin "sorted") (rC1 (cfX X) dSort) := by
  intro pins s σ H xs us Q I r h
  obtain ⟨G, d, z, x, rfl, gi, hd, hz, o⟩ := h
  cases d <;> try (exact nomatch (show (none : Option D) = some z from hz))
  case list ds =>
    obtain ⟨a, vs, rfl, ha, ra⟩ := hd.sqL
    rw [Vals.ref1 r]
    obtain ⟨its, rv, pl, hz2⟩ := I.list ha
    have hl : its.length ≤ sizeLine := by rw [← rv.length]; exact hz2
    refine sort_fin I gi hu (fun Q' k => collect_list pl.isList (k _ (fun b o e => ?_) ?_ rfl rfl) hl) (each_rv ra rv) hz o
    · have hlt := Heap.lt_size e
      show ((s.heap.push (seqObj "list" #[] 0)).update s.heap.objs.size (Obj.mapSeq (· ++ its.toArray))).get? b = some o
      rw [Heap.get?_update_ne _ _ _ _ (Nat.ne_of_lt hlt)]
      exact Heap.get?_push_of_some _ e
    · show s.heap.objs.size ≤ ((s.heap.push (seqObj "list" #[] 0)).update s.heap.objs.size (Obj.mapSeq (· ++ its.toArray))).objs.size
      rw [Heap.size_update, size_push']
      exact Nat.le_succ _
  case dict kvs =>
    obtain ⟨a, xs, rfl, ha, ra⟩ := hd.dict
    rw [Vals.ref1 r]
    obtain ⟨ys, hm, pr, dp, nd, len, sys⟩ := dict_at I ha ra
    obtain ⟨od, es, ep, ho, hex, hdd, hes, _, _⟩ := id hm
    have hk : es.toList.map (·.key) = ys.map fun y => Value.ref y.2.1 := by
      rw [hes, List.map_map]; rfl
    have fit : es.size ≤ sizeLine := by
      rw [size_of_entries hes, ← Paired.length pr]; exact len
    refine sort_fin I gi hu (fun Q' k => gather_keys (I.ok.hd hc) sys ⟨od, ho, hex, hdd⟩ fit k) ?_ hz o
    rw [hk]
    exact keys_rv ra pr
end
end Nc
namespace Nc
open PySem PySem.Spec L2
open PyProof.Rows hiding St

/-- the keys of the locked dict at d -/
def ItKd (c : Cf) (d : Addr) (od : Obj) (xs : List Ent) : It :=
  ⟨fun i H => H d = some (.frz od (DicO c d xs)) ∧ i < xs.length, fun i H x H' => H' = H ∧ ∃ e, xs[i]? = some e ∧ x = .ref e.2.1, fun i H => H d = some (.frz od (DicO c d xs)) ∧ xs.length ≤ i⟩
section
variable {X : Cx} {io : Nat → Bool} {W : WX} {rk : Nat} {c : Cf} {p p1 p2 p3 : Bool} {cl cl1 cl2 cl3 : Cls} {G G0 G1 G2 G' : Gh} {H H0 H1 H2 H' : Hp} {σ σ1 σ2 σ' : L2.St} {ρ ρ1 ρ2 ρ' : Rho} {pins : List (Addr × Obj)} {s : Shared}
/-- what stands at a locked dict -/
theorem locked_at (I : Inv X pins σ H s) {d : Addr} {od : Obj} {xs : List Ent} (h : H d = some (.frz od (DicO (cfX X) d xs))) :
    ∃ ys es ep, s.heap.DictRaw d es ep ∧ od.data = .dict es ep ∧ es.toList = ys.map (entryOfKey (nestedKind X.prog X.w)) ∧ Paired EntR xs ys ∧ es.size = xs.length ∧ xs.length ≤ sizeLine ∧ (d == sysModules) = false := by
  obtain ⟨ho, ⟨nd, dp, len, sys, ys, o', es, ep, ho', hex, hd, hes, pr⟩, _⟩ := I.hok d _ h
  rw [ho] at ho'
  cases ho'
  exact ⟨ys, es, ep, ⟨od, ho, hex, hd⟩, hd, hes, pr, by rw [size_of_entries hes, ← Paired.length pr], len, sys⟩
theorem paired_get {α β : Type} {R : α → β → Prop} : ∀ {xs : List α} {ys : List β} {i : Nat} {x : α}, Paired R xs ys → xs[i]? = some x → ∃ y, ys[i]? = some y ∧ R x y
  | _, _, _, _, .nil, e => by simp at e
  | _, _, 0, _, .cons h r, e => by cases e; exact ⟨_, rfl, h⟩
  | _, _, i + 1, _, .cons h r, e => by
    obtain ⟨y, e1, e2⟩ := paired_get (i := i) r (by simpa using e)
    exact ⟨y, by simpa using e1, e2⟩
theorem turn_kd {P : Program} {w : World} {K : PySem.W.Frag} {tg : Expr} {d : Addr} {od : Obj} {xs : List Ent} {es : Array DictEntry} {ep : Nat} (it : Addr) (hod : od.data = .dict es ep) (hsz : es.size = xs.length) :
    Turn P w K tg (ItKd ⟨P, w, K⟩ d od xs) [it] it (fun i h => h.IsKeyIter it d i es.size ep) where
  mem := List.mem_singleton.mpr rfl
  obj := fun i h st b hb => by
    obtain ⟨oi, e1, e2, e3⟩ := st
    rw [List.mem_singleton.mp hb]
    exact ⟨oi, e1, fun v z => nomatch e3.symm.trans z⟩
  keep := fun i h h' st k => st.at fun oi e => k it (List.mem_singleton.mpr rfl) oi e
  item := fun X hP hw hK hc i pins s σ H E I hf st hg => by
    subst hP hw hK
    obtain ⟨hd, hi⟩ := hg
    obtain ⟨f0, f1, f2, f3, f4, f5⟩ := hf it (List.mem_singleton.mpr rfl)
    obtain ⟨ys, es', ep', raw, hdt, hes, pr, hs2, len, sys⟩ := locked_at I hd
    rw [hod] at hdt
    cases hdt
    have hlt : i < es.size := by rw [hsz]; exact hi
    refine wpAny_pyNext_keys_item_raw st raw hlt fun h' st' sb => ?_
    have I1 : Inv X pins σ H { s with heap := h' } := I.turned (t' := s.toks) (fun b ob hb e => (sb.2 b hb).trans e) f0 f1 f3 f4 f5
    obtain ⟨oi, e, cc, dd⟩ := id st'
    obtain ⟨x, hx⟩ : ∃ x, xs[i]? = some x := ⟨xs[i], List.getElem?_eq_getElem hi⟩
    obtain ⟨y, hy, hr⟩ := paired_get pr hx
    have ek : es[i].key = .ref x.2.1 := by
      have q := entry_at hes i
      rw [Array.getElem?_eq_getElem hlt, hy] at q
      rw [Option.some.inj q, hr.2.1]; rfl
    rw [ek]
    exact ⟨_, rfl, go_of (s := { s with heap := h' }) e cc dd (by decide) ⟨.ref x.2.1, H, I1, rfl, ⟨rfl, x, hx, rfl⟩, st', fun b hb => (hf b hb).1⟩⟩
  done := fun X hP hw hK hc i pins s σ H E I hf st hg => by
    subst hP hw hK
    obtain ⟨hd, hi⟩ := hg
    obtain ⟨f0, f1, f2, f3, f4, f5⟩ := hf it (List.mem_singleton.mpr rfl)
    obtain ⟨ys, es', ep', raw, hdt, hes, pr, hs2, len, sys⟩ := locked_at I hd
    rw [hod] at hdt
    cases hdt
    exact wpAny_pyNext_keys_end_raw (I.ok.hd hc) st raw (by rw [hsz]; exact hi) fun h' eb => ⟨rfl, I.turned (t' := s.toks) (fun b ob hb e => eb b ob hb e) f0 f1 f3 f4 f5⟩
  self := fun A i s Q E st h => wpAny_pyIter_keyiter st h
/-- the keys -/
def iD (f : M) : MI := fun ρ => (f ρ).bind fun x => match x.1 with
  | .dict kvs => .ok (kvs.map (·.1), x.2)
  | _ => .bad
theorem RepK.get' : ∀ {xs : List Ent} {kvs : List (D × D)} {i : Nat} {x : Ent}, RepK c G H xs kvs → xs[i]? = some x → ∃ kd, (kvs.map (·.1))[i]? = some kd ∧ Rep c G H (.ref x.2.1) kd
  | _, _, 0, _, .cons r1 _ _ _, e => by cases e; exact ⟨_, rfl, r1⟩
  | _, _, i + 1, _, .cons r1 _ _ r, e => by
    obtain ⟨kd, e1, e2⟩ := RepK.get' (i := i) r (by simpa using e)
    exact ⟨kd, by simpa using e1, e2⟩
  | _, _, _, _, .nil, e => by simp at e
theorem ji_keys {tg e : Expr} {f : M} (he : J X io W p .f e f) : JI X io W p tg e (iD f) := by
  refine ⟨⟨fun pins s σ H Rr I q => ?_⟩, fun z => pu_bind (he.pu z) fun b ρ z ρ' e => ?_⟩
  · obtain ⟨G, ρ, re, q⟩ := q
    refine L2.thn (he.pe.run pins s σ H (fun v H1 => ∃ G1 kvs, GI G1 H1 ∧ Rep (cfX X) G1 H1 v (.dict kvs) ∧ ∀ Jt, Src (cfX X) io G1 H1 Jt (kvs.map (·.1)) → Rr Jt H1) I ⟨G, ρ, re, (good_bindT re.gi q).mono fun d ρ1 G1 H1 s1 re1 q1 v r => ?_⟩) fun u s1 q1 => ?_
    · cases d with
      | dict kvs => exact ⟨G1, kvs, re1.gi, r, q1 G1 H1 StepOf.refl re1⟩
      | _ => exact q1.elim
    · obtain ⟨x, H1, I1, rx, G1, kvs, g1, rp, q1⟩ := q1
      cases rp with
      | dic ha ra =>
        rename_i a od xs
        cases rx
        obtain ⟨ys, es, ep, raw, hdt, hes, pr, hsz, len, sys⟩ := locked_at I1 ha
        refine wpAny_pyIter_dict_raw sys raw (pi_one (tk := s1.toks) I1 _ (turn_kd s1.heap.objs.size hdt hsz) ⟨_, Heap.get?_push_size _ rfl, rfl, rfl⟩ (q1 _ ⟨fun G H i s g hi => ⟨s.fr _ _ _ ha, ?_⟩, fun G H i d x H' s g hd y => ?_, fun G H s g => ⟨s.fr _ _ _ ha, ?_⟩⟩))
        · rw [List.length_map] at hi
          rw [ra.length]; exact hi
        · obtain ⟨e1, e, e2, e3⟩ := y
          obtain ⟨kd, e4, e5⟩ := RepK.get' ra e2
          rw [hd] at e4
          cases e4
          rw [e1, e3]
          exact ⟨Gr.refl _, e5.stp s⟩
        · rw [List.length_map, ra.length]; exact Nat.le_refl _
  · dsimp only at e
    split at e
    · cases e; rfl
    · cases e
end
end Nc
namespace Nc
open PySem PySem.Spec L2
open PyProof.Rows hiding St

/-- the pairs of a list -/
def dPairs : List D → Option (List (D × NestedKey × D))
  | [] => some []
  | .tuple [kd, vd] :: ds => (keyD kd).bind fun k => (dPairs ds).map ((kd, k, vd) :: ·)
  | _ => none
def putAll (ps : List (D × NestedKey × D)) (kvs : List (D × D)) : List (D × D) := ps.foldl (fun acc p => putK acc p.1 p.2.1 p.2.2) kvs
def dDict : D → Option D
  | .list ds => if ds.length ≤ big then (dPairs ds).map fun ps => .dict (putAll ps []) else none
  | _ => none
section
variable {X : Cx} {c : Cf} {G G' : Gh} {H H' : Hp} {pins : List (Addr × Obj)} {σ : L2.St} {s : Shared}
/-- pair by pair: the entry, the raw entry, the pair's address -/
inductive Prs (X : Cx) (G : Gh) (H : Hp) (h : Heap) : List (D × NestedKey × D) → List Ent → List (NestedKey × Addr × Value) → List Addr → Prop
  | nil : Prs X G H h [] [] [] []
  | cons {kd vd : D} {k : NestedKey} {b t : Addr} {u : V} {w : Value} {ps es ys ts} : Rep (cfX X) G H (.ref b) kd → keyOf kd = some k → k.depth ≤ 8 → Rep (cfX X) G H u vd → L2.RelV u w → (nestedKind X.prog X.w).is h k b →
      h.IsTuple t #[.ref b, w] → Prs X G H h ps es ys ts → Prs X G H h ((kd, k, vd) :: ps) ((k, b, u) :: es) ((k, b, w) :: ys) (t :: ts)
theorem prs_of (I : Inv X pins σ H s) : ∀ {ds : List D} {ps : List (D × NestedKey × D)} {xs : List V} {its : List Value}, dPairs ds = some ps → RepL (cfX X) G H xs ds → L2.Vals xs its → ∃ es ys ts, Prs X G H s.heap ps es ys ts ∧ its = ts.map Value.ref
  | [], _, _, _, e, .nil, .nil => by cases e; exact ⟨[], [], [], .nil, rfl⟩
  | d :: ds, ps, _, _, e, .cons r rl, .cons q t => by
    unfold dPairs at e
    split at e
    · rename_i h; cases h
    · rename_i kd vd ds' h
      cases h
      obtain ⟨k, e1, e2⟩ := Option.bind_eq_some_iff.mp e
      obtain ⟨ps', e3, e4⟩ := Option.map_eq_some_iff.mp e2
      subst e4
      obtain ⟨es, ys, ts, pr, ei⟩ := prs_of I e3 rl t
      cases r with
      | tup hs hr =>
        rename_i a zs
        cases hr with
        | cons hk hr =>
          cases hr with
          | cons hv hr =>
            cases hr
            cases q
            obtain ⟨its2, rv, ht, _⟩ := I.tuple hs
            obtain ⟨b, rfl, hn, _, ek⟩ := key_at I (.rep hk) e1
            obtain ⟨u1, u2, rfl, r1, r2⟩ := vals2 rv
            cases r1
            exact ⟨_, _, a :: ts, .cons hk ek hn.2 hv r2 hn ht pr, by rw [ei]; rfl⟩
    · cases e
theorem Prs.pair {h : Heap} : ∀ {ps es ys ts}, Prs X G H h ps es ys ts → Paired EntR es ys
  | _, _, _, _, .nil => .nil
  | _, _, _, _, .cons _ _ _ _ r _ _ p => .cons ⟨rfl, rfl, r⟩ p.pair
theorem Prs.keys {h : Heap} : ∀ {ps es ys ts}, Prs X G H h ps es ys ts → ∀ y ∈ ys, (nestedKind X.prog X.w).is h y.1 y.2.1
  | _, _, _, _, .nil, y, hy => by cases hy
  | _, _, _, _, .cons _ _ _ _ _ n _ p, y, hy => by
    rcases List.mem_cons.mp hy with e | hy
    · rw [e]; exact n
    · exact p.keys y hy
theorem Prs.len {h : Heap} : ∀ {ps es ys ts}, Prs X G H h ps es ys ts → ys.length = ps.length ∧ ts.length = ps.length ∧ es.length = ps.length
  | _, _, _, _, .nil => ⟨rfl, rfl, rfl⟩
  | _, _, _, _, .cons _ _ _ _ _ _ _ p => ⟨congrArg Nat.succ p.len.1, congrArg Nat.succ p.len.2.1, congrArg Nat.succ p.len.2.2⟩
theorem Prs.at_ {h : Heap} : ∀ {ps es ys ts} {j : Nat} {k : NestedKey} {b : Addr} {w : Value}, Prs X G H h ps es ys ts → ys[j]? = some (k, b, w) → ∃ t, ts[j]? = some t ∧ h.IsTuple t #[.ref b, w]
  | _, _, _, _, 0, _, _, _, .cons _ _ _ _ _ _ ht _, e => by cases e; exact ⟨_, rfl, ht⟩
  | _, _, _, _, j + 1, _, _, _, .cons _ _ _ _ _ _ _ p, e => by
    obtain ⟨t, e1, e2⟩ := p.at_ (j := j) (by simpa using e)
    exact ⟨t, by simpa using e1, e2⟩
  | _, _, _, _, _, _, _, _, .nil, e => by simp at e
theorem Prs.all {h : Heap} : ∀ {ps es ys ts}, Prs X G H h ps es ys ts → ∀ {xs : List Ent} {kvs : List (D × D)} {zs : List (NestedKey × Addr × Value)}, RepK (cfX X) G H xs kvs → Paired EntR xs zs → (∀ x ∈ xs, x.1.depth ≤ 8) →
    ∃ xs', RepK (cfX X) G H xs' (putAll ps kvs) ∧ Paired EntR xs' (storedAllH zs ys) ∧ (∀ x ∈ xs', x.1.depth ≤ 8) ∧ xs'.length ≤ xs.length + ps.length
  | _, _, _, _, .nil, xs, _, _, r, pr, dp => ⟨xs, r, pr, dp, Nat.le_refl _⟩
  | _, _, _, _, .cons (k := k) (b := b) (u := u) hk ek dk hv rv _ _ p, xs, kvs, zs, r, pr, dp => by
    obtain ⟨xs', h1, h2, h3, h4⟩ := p.all (r.put hk ek hv) (paired_put (k := k) (b := b) pr rv) (putE_depth (b := b) (u := u) dp dk)
    refine ⟨xs', h1, h2, h3, Nat.le_trans h4 ?_⟩
    have := putE_length (xs := xs) (k := k) (b := b) (u := u)
    rw [List.length_cons]; omega
theorem call_dictD (hc : X.calm = true) (hu : X.A.units + 80 < cLine) : CallR X (.type "dict") (rC1 (cfX X) dDict) := by
  intro pins s σ H xs us Q I r h
  obtain ⟨G, d, z, x, rfl, gi, hd, hz, o⟩ := h
  cases d <;> try (exact nomatch (show (none : Option D) = some z from hz))
  case list ds =>
    obtain ⟨hl, hz⟩ : ds.length ≤ big ∧ (dPairs ds).map (fun ps => (.dict (putAll ps []) : D)) = some z := by
      have hz : (if ds.length ≤ big then (dPairs ds).map (fun ps => (.dict (putAll ps []) : D)) else none) = some z := hz
      split at hz
      · exact ⟨by assumption, hz⟩
      · cases hz
    obtain ⟨ps, e1, e2⟩ := Option.map_eq_some_iff.mp hz
    subst e2
    obtain ⟨a, vs, rfl, ha, ra⟩ := hd.sqL
    rw [Vals.ref1 r]
    obtain ⟨its, rv, ⟨ol, nl, hol, hcl, hdl, hsl⟩, hz2⟩ := I.list ha
    obtain ⟨es, ys, ts, pr, ei⟩ := prs_of I e1 ra rv
    obtain ⟨l1, l2, l3⟩ := pr.len
    have hps : (ys.map fun y => ((Value.ref y.2.1, y.2.2) : Value × Value)).length = ys.length := List.length_map ..
    have get : ∀ j k v, (ys.map fun y => ((Value.ref y.2.1, y.2.2) : Value × Value))[j]? = some (k, v) → ∃ kk b, ys[j]? = some (kk, b, v) ∧ k = Value.ref b := fun j k v e => by
      rw [List.getElem?_map] at e
      obtain ⟨y, e1, e2⟩ := Option.map_eq_some_iff.mp e
      cases e2
      exact ⟨y.1, y.2.1, e1, rfl⟩
    have hlen : its.length = ys.length := by rw [ei, List.length_map, l2, l1]
    have hdl' : ps.length ≤ big := by
      have q := ra.length
      have q2 := rv.length
      omega
    have hbig : big ≤ sizeLine := by rw [sizeLine_eq]; decide
    have hn : H s.heap.objs.size = none := I.hok.fresh (Nat.le_refl _)
    have hsys : (s.heap.objs.size == sysModules) = false := beq_eq_false_iff_ne.mpr (Ne.symm (Nat.ne_of_lt I.big))
    refine call_dict_pairsH (knd := nestedKind X.prog X.w) (ps := ys) (PairArg.list (prog := X.prog) (w := X.w) a its.toArray (fun j => ts.getD j 0) (ys.map fun y => ((Value.ref y.2.1, y.2.2) : Value × Value))) (I.ok.hd hc)
      (show X.A.units + 1 + 1 + 8 < cLine by omega) ⟨⟨ol, nl, hol, hcl, hdl, hsl⟩, by rw [List.size_toArray, hlen, hps], fun j k v e => ?_⟩ ⟨hps.symm, fun j k v e => ?_⟩ (fun h' kk y hy => ?_) (by rw [hps, l1]; exact Nat.le_trans hdl' hbig) fun h' tk hm kk => ?_
    · obtain ⟨kk, b, e1, rfl⟩ := get j k v e
      obtain ⟨t, e2, e3⟩ := pr.at_ e1
      have et : ts.getD j 0 = t := by rw [List.getD_eq_getElem?_getD, e2]; rfl
      refine ⟨?_, .inl (by show s.heap.IsTuple (ts.getD j 0) _; rw [et]; exact e3)⟩
      show its.toArray[j]? = some (.ref (ts.getD j 0))
      rw [et, ei, ← Array.getElem?_toList]
      show (ts.map Value.ref)[j]? = _
      rw [List.getElem?_map, e2]; rfl
    · obtain ⟨kk, b, e1, e2⟩ := get j k v e
      exact ⟨kk, b, e1, e2⟩
    · exact nestedKind_stays.stays (fun b o vs n e _ => kk b o (Nat.ne_of_lt (Heap.lt_size e)) (by simp) e) (pr.keys y hy)
    · obtain ⟨xs', h1, h2, h3, h4⟩ := pr.all (xs := []) (kvs := []) (zs := []) .nil .nil (by simp)
      have g1 : Gr H (upd H s.heap.objs.size (DicO (cfX X) s.heap.objs.size xs')) := Gr.upd hn
      refine ⟨.ref s.heap.objs.size, upd H s.heap.objs.size (DicO (cfX X) s.heap.objs.size xs'), I.laid (t' := tk) (fun b o e => kk b o (by simp) e) (Nat.le_refl _) (dicO_new hm h2 h3 (by
        have : ([] : List Ent).length = 0 := rfl
        omega) hsys), rfl, o _ _ g1 ⟨[s.heap.objs.size], .dic (A := []) upd_same (TrK.of_rep (h1.stp (io := fun _ => false) (Ext.stp gi g1.ext))), by simp, fun b hb => ?_⟩⟩
      rw [List.mem_singleton.mp hb]
      exact ⟨GI.none gi hn, hn⟩
end
end Nc
namespace Nc
open PySem PySem.Spec L2
open PyProof.Rows hiding St
open PySem.W (alike dataLt minD maxD AlikeAll min_list_data max_list_data min_list_default max_list_default)

def noNone (ds : List D) : Bool := ds.all fun d => match d with
  | .none => false
  | _ => true
def cmpB (ds : List D) : Bool := allAlikeB ds && noNone ds && SeqAt.shaped (.list ds)
def dMinL : D → Option D
  | .list (d :: ds) => if cmpB (d :: ds) = true then some (minD d ds) else none
  | _ => none
def dMaxL : D → Option D
  | .list (d :: ds) => if cmpB (d :: ds) = true then some (maxD d ds) else none
  | _ => none
theorem minD_mem : ∀ (ds : List D) (d : D), minD d ds ∈ d :: ds
  | [], d => List.mem_cons_self ..
  | e :: ds, d => by
    show minD (if dataLt e d then e else d) ds ∈ _
    have h := minD_mem ds (if dataLt e d then e else d)
    rcases List.mem_cons.mp h with q | q
    · rw [q]
      split
      · exact List.mem_cons_of_mem _ (List.mem_cons_self ..)
      · exact List.mem_cons_self ..
    · exact List.mem_cons_of_mem _ (List.mem_cons_of_mem _ q)
theorem maxD_mem : ∀ (ds : List D) (d : D), maxD d ds ∈ d :: ds
  | [], d => List.mem_cons_self ..
  | e :: ds, d => by
    show maxD (if dataLt d e then e else d) ds ∈ _
    have h := maxD_mem ds (if dataLt d e then e else d)
    rcases List.mem_cons.mp h with q | q
    · rw [q]
      split
      · exact List.mem_cons_of_mem _ (List.mem_cons_self ..)
      · exact List.mem_cons_self ..
    · exact List.mem_cons_of_mem _ (List.mem_cons_of_mem _ q)
section
variable {X : Cx} {io : Nat → Bool} {W : WX} {c : Cf} {p p1 p2 : Bool} {cl : Cls} {G G' : Gh} {H H' : Hp} {pins : List (Addr × Obj)} {σ : L2.St} {s : Shared}
theorem cmp_of {ds : List D} (h : cmpB ds = true) : AlikeAll ds ∧ SeqAt.shaped (.list ds) = true := by
  obtain ⟨h1, h3⟩ := Bool.and_eq_true_iff.mp h
  obtain ⟨h1, h2⟩ := Bool.and_eq_true_iff.mp h1
  refine ⟨⟨allAlike_of h1, fun x hx e => ?_⟩, h3⟩
  have q := List.all_eq_true.mp h2 x hx
  rw [e] at q; cases q
/-- the item that the call gives -/
theorem pick_item (I : Inv X pins σ H s) {vs : List V} {its : List Value} {ds : List D} {m : D} {i : Nat} {v : Value} {h' : Heap} {bs : List Addr} (ra : RepL (cfX X) G H vs ds) (rv : L2.Vals vs its) (ha : AlikeAll ds) (sh : SeqAt.shaped (.list ds) = true) (hm : m ∈ ds)
    (hv : its.toArray[i]? = some v) (rd : Reads h' v m bs) (kk : ∀ b o, s.heap.get? b = some o → h'.get? b = some o) : ∃ x, L2.RelV x v ∧ Rep (cfX X) G H x m := by
  have hv : its[i]? = some v := by rw [← Array.getElem?_toList] at hv; exact hv
  have hlt : i < its.length := (List.getElem?_eq_some_iff.mp hv).1
  have hl := rv.length
  obtain ⟨x, hx⟩ : ∃ x, vs[i]? = some x := ⟨vs[i]'(by omega), List.getElem?_eq_getElem _⟩
  obtain ⟨u, hu, ru⟩ := rv.get hx
  rw [hv] at hu
  cases hu
  obtain ⟨d, hd, rx⟩ := ra.get' hx
  have md := List.mem_of_getElem? hd
  have lay : d.canLay0 = true := by
    have q : PyData.canLayAll0 ds = true := SeqAt.canLay_of_shaped sh
    have all : ∀ {ds : List D}, PyData.canLayAll0 ds = true → ∀ d ∈ ds, d.canLay0 = true := fun {ds} => by
      induction ds with
      | nil => intro _ d h; cases h
      | cons e ds ih =>
        intro q d h
        obtain ⟨q1, q2⟩ := Bool.and_eq_true_iff.mp q
        rcases List.mem_cons.mp h with e | h
        · rw [e]; exact q1
        · exact ih q2 d h
    exact all q d md
  obtain ⟨as, r2⟩ := Dp.reads I d x v (rx.dp lay) ru
  have e := PySem.W.alike_unique d m v as bs (ha.1 d md m hm) (PyProof.Rows.Reads.keeps kk r2) rd
  exact ⟨x, ru, e ▸ rx⟩
/-- a call whose end is one of the items -/
def rC1f (c : Cf) (g : D → Option D) : List V → Hp → VK → Prop := fun xs H Q => ∃ G d z x, xs = [x] ∧ GI G H ∧ Rd1 c G H x d ∧ g d = some z ∧ ∀ v, Rep c G H v z → Q v H
theorem tC1f_of {cl : Cls} {g : D → Option D} {fa : M} {io : Nat → Bool} {W : WX} {p : Bool} (h1 : cl.st true = true) {Q : VK} (q : tJ X io W p .f (mU g fa) σ H Q) : tCB (rC1f (cfX X) g) (tCons (tJ X io W p cl fa) tNil) σ H Q := by
  obtain ⟨G, ρ, re, q⟩ := q
  refine ⟨G, ρ, re, (good_bindT re.gi q).mono fun d ρ1 G1 H1 s1 re1 q1 v1 r1 => ?_⟩
  dsimp only at q1
  cases e : g d with
  | none => rw [e] at q1; exact q1.elim
  | some z =>
    rw [e] at q1
    exact ⟨G1, d, z, v1, rfl, re1.gi, r1.rd h1, e, fun v r => q1 G1 H1 StepOf.refl re1 v r⟩
theorem j_callBf {cl : Cls} {g : D → Option D} {a : Expr} {fa : M} {io : Nat → Bool} {W : WX} {p : Bool} {x : Str} {pn pos : Pos} {id : String} (hc : CallR X (.builtin id) (rC1f (cfX X) g)) (hm : X.mg x = none) (hv : bootBuiltins x = some (.builtin id)) (ha : J X io W p cl a fa) (h1 : cl.st true = true := by rfl) (hg : Gl X x := by rfl) (hn : x ≠ "__name__" := by decide) (hdb : (x == ("__debug__" : Str)) = false := by decide)
    (hs : starEach [a] X.env = [(false, eval a X.env)] := by rfl) (hpl : (backTo pos (starEach [] X.env)).any (·.1) = false := by rfl) : J X io W p .f (.Call (.Name x pn) [a] [] pos) (mU g fa) :=
  ⟨peI (pe_callB hc hg hm hv (pa1 ha hs) hn hdb hs hpl) fun σ H Q q => tC1f_of h1 q, fun e => pu_bind (ha.pu e) fun _ _ _ _ e => pu_of e⟩
theorem call_minL (hc : X.calm = true) (hu : X.A.units + 80 < cLine) : CallR X (.builtin "min") (rC1f (cfX X) dMinL) := by
  intro pins s σ H xs us Q I r h
  obtain ⟨G, d, z, x, rfl, gi, hd, hz, o⟩ := h
  cases d <;> try (exact nomatch (show (none : Option D) = some z from hz))
  case list ds =>
    cases ds with
    | nil => cases hz
    | cons d ds =>
      obtain ⟨hb, hz⟩ := ifS (show (if cmpB (d :: ds) = true then some (minD d ds) else none) = some z from hz)
      subst hz
      obtain ⟨ha, sh⟩ := cmp_of hb
      obtain ⟨a, vs, rfl, hs, ra⟩ := hd.sqL
      rw [Vals.ref1 r]
      obtain ⟨its, rv, pl, hz2⟩ := I.list hs
      obtain ⟨as, rds⟩ := Dp.readsAll I (d :: ds) vs its (ra.dp (SeqAt.canLay_of_shaped sh)) rv
      have dp : PyData.depthAll (d :: ds) + 1 ≤ 64 := SeqAt.depth_of_shaped sh
      refine min_list_data (I.ok.hd hc) pl.isList (show ReadsAll s.heap its.toArray.toList _ as from rds) ha (by omega) fun i v h' tk bs hv rd kk => ?_
      obtain ⟨x, ru, rx⟩ := pick_item I ra rv ha sh (minD_mem ds d) hv rd kk
      exact ⟨x, H, I.kept (t' := tk) kk, ru, o x rx⟩
theorem call_maxL (hc : X.calm = true) (hu : X.A.units + 80 < cLine) : CallR X (.builtin "max") (rC1f (cfX X) dMaxL) := by
  intro pins s σ H xs us Q I r h
  obtain ⟨G, d, z, x, rfl, gi, hd, hz, o⟩ := h
  cases d <;> try (exact nomatch (show (none : Option D) = some z from hz))
  case list ds =>
    cases ds with
    | nil => cases hz
    | cons d ds =>
      obtain ⟨hb, hz⟩ := ifS (show (if cmpB (d :: ds) = true then some (maxD d ds) else none) = some z from hz)
      subst hz
      obtain ⟨ha, sh⟩ := cmp_of hb
      obtain ⟨a, vs, rfl, hs, ra⟩ := hd.sqL
      rw [Vals.ref1 r]
      obtain ⟨its, rv, pl, hz2⟩ := I.list hs
      obtain ⟨as, rds⟩ := Dp.readsAll I (d :: ds) vs its (ra.dp (SeqAt.canLay_of_shaped sh)) rv
      have dp : PyData.depthAll (d :: ds) + 1 ≤ 64 := SeqAt.depth_of_shaped sh
      refine max_list_data (I.ok.hd hc) pl.isList (show ReadsAll s.heap its.toArray.toList _ as from rds) ha (by omega) fun i v h' tk bs hv rd kk => ?_
      obtain ⟨x, ru, rx⟩ := pick_item I ra rv ha sh (maxD_mem ds d) hv rd kk
      exact ⟨x, H, I.kept (t' := tk) kk, ru, o x rx⟩
def dMinDf (dd : D) : D → Option D
  | .list [] => some dd
  | .list (d :: ds) => if cmpB (d :: ds) = true then some (minD d ds) else none
  | _ => none
def rMinDf (c : Cf) (dd : D) (xd : V) : List V → List V → Hp → VK → Prop := fun xs zs H Q => ∃ G d z x, xs = [x] ∧ zs = [xd] ∧ GI G H ∧ Rd1 c G H x d ∧ Rep c G H xd dd ∧ dMinDf dd d = some z ∧ ∀ v, Rep c G H v z → Q v H
theorem call_minDf (hc : X.calm = true) (hu : X.A.units + 80 < cLine) {dd : D} {xd : V} : CallRK X (.builtin "min") [Str.ofString "default"] (rMinDf (cfX X) dd xd) := by
  intro pins s σ H xs zs us ws Q I r rz h
  obtain ⟨G, d, z, x, rfl, rfl, gi, hd, hdd, hz, o⟩ := h
  obtain ⟨w, rfl, rw1⟩ := rz.one
  cases d <;> try (exact nomatch (show (none : Option D) = some z from hz))
  case list ds =>
    obtain ⟨a, vs, rfl, hs, ra⟩ := hd.sqL
    rw [Vals.ref1 r]
    obtain ⟨its, rv, pl, hz2⟩ := I.list hs
    have all : AlikeAll ds ∧ PyData.canLayAll0 ds = true ∧ PyData.depthAll ds + 1 ≤ 64 := by
      cases ds with
      | nil => exact ⟨⟨by simp, by simp⟩, by simp [PyData.canLayAll0], by simp [PyData.depthAll]⟩
      | cons d ds =>
        obtain ⟨hb, _⟩ := ifS (show (if cmpB (d :: ds) = true then some (minD d ds) else none) = some z from hz)
        obtain ⟨ha, sh⟩ := cmp_of hb
        exact ⟨ha, SeqAt.canLay_of_shaped sh, SeqAt.depth_of_shaped sh⟩
    obtain ⟨ha, lay, dp⟩ := all
    obtain ⟨as, rds⟩ := Dp.readsAll I ds vs its (ra.dp lay) rv
    refine min_list_default (I.ok.hd hc) pl.isList (show ReadsAll s.heap its.toArray.toList _ as from rds) ha (by omega) (fun e h' tk kk => ?_) fun y ys i v h' tk bs e hv rd kk => ?_
    · subst e
      cases hz
      exact ⟨xd, H, I.kept (t' := tk) kk, rw1, o xd hdd⟩
    · subst e
      obtain ⟨hb, hz⟩ := ifS (show (if cmpB (y :: ys) = true then some (minD y ys) else none) = some z from hz)
      subst hz
      obtain ⟨_, sh⟩ := cmp_of hb
      obtain ⟨x, ru, rx⟩ := pick_item I ra rv ha sh (minD_mem ys y) hv rd kk
      exact ⟨x, H, I.kept (t' := tk) kk, ru, o x rx⟩
/-- the default a constant -/
theorem j_minDf {cl : Cls} {a e : Expr} {fa : M} {dd : D} {xd : V} {io : Nat → Bool} {W : WX} {p : Bool} {pn pos kp : Pos} (hc : X.calm = true) (hu : X.A.units + 80 < cLine) (hm : X.mg "min" = none) (ha : J X io W p cl a fa) (he : PE X e (tC xd)) (hr : ∀ G H, Rep (cfX X) G H xd dd) (h1 : cl.st true = true := by rfl) (hg : Gl X "min" := by rfl)
    (hs : backTo pos (starEach [a] X.env) = (false, eval a X.env) :: backTo pos (starEach [] X.env) := by rfl) (hpl : (backTo pos (starEach [a] X.env)).any (·.1) = false := by rfl)
    (hall : (backToKw pos (keywordEach [⟨some "default", e, kp⟩] X.env)).all (·.1.isSome) = true := by rfl) (hnone : (backToKw pos (keywordEach [⟨some "default", e, kp⟩] X.env)).any (·.1.isNone) = false := by rfl) (hks : (backToKw pos (keywordEach [⟨some "default", e, kp⟩] X.env)).filterMap (·.1) = [Str.ofString "default"] := by rfl)
    (hs2 : starEach [a] X.env = [(false, eval a X.env)] := by rfl) (hb : bootBuiltins "min" = some (.builtin "min") := by decide +kernel) :
    J X io W p .f (.Call (.Name "min" pn) [a] [⟨some "default", e, kp⟩] pos) (mU (dMinDf dd) fa) := by
  refine ⟨peI (pe_callBK (call_minDf hc hu (dd := dd) (xd := xd)) hg hm hb (pa1 ha hs2) (pk_cons he pk_nil) (by decide) (by decide) hs hpl hall hnone hks) fun σ H Q q => ?_, fun e => pu_bind (ha.pu e) fun _ _ _ _ e => pu_of e⟩
  obtain ⟨G, ρ, re, q⟩ := q
  refine ⟨G, ρ, re, (good_bindT re.gi q).mono fun d ρ1 G1 H1 s1 re1 q1 v1 r1 => ?_⟩
  dsimp only at q1
  cases e : dMinDf dd d with
  | none => rw [e] at q1; exact q1.elim
  | some z =>
    rw [e] at q1
    exact ⟨G1, d, z, v1, rfl, rfl, re1.gi, r1.rd h1, hr G1 H1, e, fun v r => q1 G1 H1 StepOf.refl re1 v r⟩
end
end Nc
namespace Nc
open PySem PySem.Spec L2
open PyProof.Rows hiding St

def keyVal (e : DictEntry) : Option (Str × Int) := match e.key, e.val with
  | .str x _, .int i _ => some (x, i)
  | _, _ => none
def tabB (K : PySem.W.Frag) (a : Addr) (kvs : List (Str × Int)) : Bool := match K.lookup a with
  | some ⟨_, _, .dict es _, _⟩ => decide (es.toList.map keyVal = kvs.map some)
  | _ => false
theorem ns_find : ∀ {l : List DictEntry} {kvs : List (Str × Int)} (x : Str), l.map keyVal = kvs.map some → (l.any (·.refKey) = false) ∧
    match kvs.lookup x with
    | some i => ∃ e t, l.find? (·.key.isStr x) = some e ∧ e.val = .int i t
    | none => l.find? (·.key.isStr x) = none
  | [], [], x, _ => ⟨rfl, rfl⟩
  | [], _ :: _, x, h => by simp at h
  | _ :: _, [], x, h => by simp at h
  | e :: l, (y, i) :: kvs, x, h => by
    rw [List.map_cons, List.map_cons] at h
    injection h with h1 h2
    obtain ⟨ih1, ih2⟩ := ns_find (l := l) (kvs := kvs) x h2
    unfold keyVal at h1
    split at h1
    · rename_i z t j t2 hk hv
      cases h1
      have rk : e.refKey = false := by unfold DictEntry.refKey; rw [hk]
      refine ⟨by rw [List.any_cons, rk, ih1]; rfl, ?_⟩
      rw [List.find?_cons, List.lookup_cons, hk]
      by_cases hx : x = y
      · subst hx
        have : (Value.str x t).isStr x = true := by simp [Value.isStr]
        rw [this]
        simp only [beq_self_eq_true]
        exact ⟨e, t2, rfl, hv⟩
      · have q1 : (Value.str y t).isStr x = false := by
          simp [Value.isStr]
          first | exact fun e => hx e.symm | exact fun e => hx e
        have q2 : (x == y) = false := by simpa using hx
        rw [q1, q2]
        exact ih2
    · cases h1
theorem tab_ns {K : PySem.W.Frag} {a : Addr} {kvs : List (Str × Int)} (h : tabB K a kvs = true) (x : Str) : ∃ r, PySem.W.nsIn K a x = some r ∧ match kvs.lookup x with
    | some i => ∃ t, r = some (.int i t)
    | none => r = none := by
  unfold tabB at h
  split at h
  · rename_i cl dd es ep sl e
    obtain ⟨h1, h2⟩ := ns_find x (of_decide_eq_true h)
    unfold PySem.W.nsIn
    rw [e]
    dsimp only
    cases q : kvs.lookup x with
    | some i =>
      rw [q] at h2
      obtain ⟨d, t, h3, h4⟩ := h2
      rw [h3]
      exact ⟨_, rfl, t, by rw [h4]⟩
    | none =>
      rw [q] at h2
      rw [h2, h1]
      exact ⟨_, rfl, rfl⟩
  · cases h
/-- what is known of such a table -/
structure TabI (K : PySem.W.Frag) (w : World) (a : Addr) (kvs : List (Str × Int)) : Prop where
  dict : ∃ es n, KDict K w a es n
  tab : tabB K a kvs = true
section
variable {X : Cx} {io : Nat → Bool} {W : WX} {c : Cf} {p p1 p2 : Bool} {cl : Cls} {G G' : Gh} {H H' : Hp} {pins : List (Addr × Obj)} {σ : L2.St} {s : Shared}
def tyAt (a : Addr) (x : V) (_ : Hp) : Prop := x = .ref a
def rTget (a : Addr) (kvs : List (Str × Int)) (i : Int) : V → List V → Hp → VK → Prop := fun x vs H Q => ∃ z, x = .ref a ∧ vs = [.str z, .int i] ∧ Q (.int ((kvs.lookup z).getD i)) H
theorem mt_tget {a : Addr} {kvs : List (Str × Int)} {i : Int} (T : TabI X.K X.w a kvs) : MtR X "dict.get" (rTget a kvs i) := by
  intro pins s σ H x vs v us Q I rx rv h
  obtain ⟨z, rfl, rfl, q⟩ := h
  obtain ⟨⟨es, n, D⟩, tb⟩ := T
  obtain ⟨u1, u2, rfl, r1, r2⟩ := vals2 rv
  cases rx
  obtain ⟨t, rfl⟩ := r1
  obtain ⟨t2, rfl⟩ := r2
  obtain ⟨r, e1, e2⟩ := tab_ns tb z
  have hm := PySem.W.mapOf_K (prog := X.prog) (w := X.w) I.kIn D.at_ D.lit
  refine call_meetsIn PySem.F.slot_dict_get hm.typeIs PySem.F.entry_dict_get (PySem.F.args_dict_get_3 _ _ _) (meets_dict_get_default (PySem.strKind X.prog X.w) a (PySem.strKind_is X.prog X.w z t) D.low (.int i t2)) ⟨_, hm, ?_⟩
  rw [PySem.W.find_K D.at_ e1]
  cases hk : kvs.lookup z with
  | none =>
    rw [hk] at e2 q
    rw [e2]
    exact ⟨.int i, H, I.tok _, ⟨t2, rfl⟩, q⟩
  | some j =>
    rw [hk] at e2 q
    obtain ⟨t3, e2⟩ := e2
    rw [e2]
    exact ⟨.int j, H, I.tok _, ⟨t3, rfl⟩, q⟩
def mTget (kvs : List (Str × Int)) (f : M) (i : Int) : M := fun ρ => (f ρ).bind fun x => match x.1 with
  | .str z => .ok (.int ((kvs.lookup z).getD i), x.2)
  | _ => .bad
theorem j_tget {x : Str} {a : Addr} {kvs : List (Str × Int)} {i : Int} {k : Expr} {f : M} {j} {pn pc apos cpos : Pos} (T : TabI X.K X.w a kvs) (hmx : X.mg x = some (.ref a)) (hk : J X io W p cl k f) (h1 : cl.st true = true := by rfl) (hg : Gl X x := by rfl) (hd : (x == ("__debug__" : Str)) = false := by decide)
    (hbase : attributeBase (.Name x pn) "get" X.env (eval (.Name x pn) X.env) = eval (.Name x pn) X.env := by rfl)
    (hfew : ((backTo cpos (starEach [k, .Constant (.int i) j pc] X.env)).all (fun x => !x.1) && (backToKw cpos (keywordEach [] X.env)).all (fun x => x.1.isSome)
      && decide ([k, .Constant (.int i) j pc].length + ([] : List Keyword).length + (if ([] : List Keyword).isEmpty then 0 else 1) < 30)) = true := by rfl)
    (hline : (apos.endLine == cpos.line) = true := by rfl) (hs : starEach [k, .Constant (.int i) j pc] X.env = (false, eval k X.env) :: starEach [.Constant (.int i) j pc] X.env := by rfl) (hs2 : starEach [.Constant (.int i) j pc] X.env = [(false, eval (.Constant (.int i) j pc) X.env)] := by rfl) (hplain : (backTo cpos (starEach [.Constant (.int i) j pc] X.env)).any (·.1) = false := by rfl) :
    J X io W p .f (.Call (.Attribute (.Name x pn) "get" apos) [k, .Constant (.int i) j pc] [] cpos) (mTget kvs f i) := by
  refine ⟨peI (pe_mG (ty := tyAt a) (fun pins σ H s x v I r ty => ?_) PySem.F.plainAttrs_dict PySem.F.slot_dict_get PySem.F.type_dict_get (mt_tget T (i := i)) (pe_glob hg hmx (v := .ref a) rfl hd) (pa_cons hk.pe (pa_cons pe_int pa_nil hs2) hs) hbase hfew hline hs hplain) fun σ H Q q => ?_, fun z => pu_bind (hk.pu z) fun b ρ z ρ' e => ?_⟩
  · have ty : x = .ref a := ty
    subst ty
    cases r
    obtain ⟨⟨es, n, D⟩, tb⟩ := T
    have hm := PySem.W.mapOf_K (prog := X.prog) (w := X.w) I.kIn D.at_ D.lit
    exact ⟨hm.typeIs, hm.noDict⟩
  · obtain ⟨G, ρ, re, q⟩ := q
    refine ⟨rfl, G, ρ, re, (good_bindT re.gi q).mono fun d ρ1 G1 H1 s1 re1 q1 v1 r1 => ?_⟩
    cases d with
    | str z => exact ⟨z, rfl, by rw [(r1.rd h1).str], q1 G1 H1 StepOf.refl re1 _ (.int _)⟩
    | _ => exact q1.elim
  · dsimp only at e
    split at e
    · cases e; rfl
    · cases e
end
end Nc
namespace Nc
open PySem PySem.Spec L2
open PyProof.Rows hiding St

section
variable {X : Cx} {io : Nat → Bool} {W : WX} {rk : Nat} {p : Bool} {c : Cf} {G G1 G2 G' : Gh} {H H0 H1 H2 H' : Hp} {σ σ1 σ2 σ' : L2.St} {ρ ρ1 ρ2 ρ' : Rho}
theorem J.n0 {e : Expr} {f : M} (h : J X io W p (.n 0) e f) : J X io W p .f e f := by
  refine ⟨peI h.pe fun σ H Q q => ?_, h.pu⟩
  obtain ⟨G, ρ, re, q⟩ := q
  refine ⟨G, ρ, re, q.mono fun d ρ1 G1 H1 s1 re1 k v r => ?_⟩
  obtain ⟨A, t, _⟩ := r
  cases t with
  | leaf r => exact k v r
variable {P : Program} {w : World} {K : PySem.W.Frag} {mg : Str → Option Value} {base : Heap} {x qual : Str} {params : Arguments} {body : List Stmt} {scope : Scope} {dvs : List V} {kws : List (Str × V)} {f : Addr} {fd : FuncData}
theorem ioOf_plain {n : Nat} : ioOf (List.replicate n 0) = fun _ => false := by
  funext i
  unfold ioOf
  rw [List.getElem?_replicate]
  split
  · rename_i m h
    split at h <;> cases h
  · rfl
theorem end_weak {n rk : Nat} {F : List D → R D} {vs : List V} {Q : VK} {E : XK} (hl : vs.length = n) {r : R (Fl × Rho)}
    (h : EndF c mg (fcP n rk F) vs G H Q E (((r.bind fun x => match x.1 with
      | .nx => .ok .none
      | .ret d => .ok d
      | _ => .bad) : R D).bind fun d => .ok (d, List.replicate n none))) :
    EndF c mg (fcP n rk F) vs G H Q E (r.bind fun x => match x.1 with
      | .nx => .ok (.none, outOf (List.replicate n 0) x.2)
      | .ret d => .ok (d, outOf (List.replicate n 0) x.2)
      | _ => .bad) := by
  have weak : ∀ {G' H' outs}, RE c G' (vs.map some) H' outs → RE c G' (vs.map some) H' (List.replicate n none) := fun {G' H' outs} re =>
    ⟨by rw [List.length_replicate, List.length_map, hl], re.gi, fun i k d e => by
      rw [List.getElem?_replicate] at e
      split at e <;> cases e⟩
  cases r with
  | bad => exact h
  | exc x => exact h
  | ok a =>
    obtain ⟨fl, ρ'⟩ := a
    cases fl with
    | nx => exact fun v G' H' s re nw => h v G' H' s (weak re) nw
    | ret d => exact fun v G' H' s re nw => h v G' H' s (weak re) nw
    | bk => exact h
    | ct => exact h
theorem fcP_ok {n rk k : Nat} {N ps : List Str} {s : S} (F : FunD K x qual params body scope dvs kws f fd) (Sc : FnScope N ps scope) (hp : ps.length = n)
    (hb : ∀ (cdv : Value) (A : Around) (outer : List Env) (s0 : Shared) (H0 : Hp) (E : XK), Room k (A.deeper (envOfC qual scope s0.heap.objs.size f cdv)) →
      JSs (cxOf (L2N.CX P w) P w K mg base N qual scope f cdv A outer s0 H0 E) (fun _ => false) (fun cls d _ H => E cls d H) rk body s) : FnOk P w K mg base (L2N.CX P w) (k + 1) f fd ps (spF ⟨P, w, K⟩ mg (fcP n rk (runP N.length n s))) := by
  have hpN : n ≤ N.length := by
    have := congrArg List.length Sc.pre
    rw [List.length_take] at this
    omega
  refine F.ok Sc (fun vs H Q E h => ?_) (fun cdv A outer s0 H vs Q E hr h => ⟨_, hb cdv A outer s0 H E hr, ?_⟩)
  · obtain ⟨G, ds, h1, _⟩ := h
    rw [h1, hp]; exact List.length_replicate
  · obtain ⟨G, ds, h1, h2, nr, ow, re, h3⟩ := h
    have l1 : vs.length = n := by rw [h1]; exact List.length_replicate
    have re3 := re.more (N := N) (by rw [ins_length h2, h1])
    refine ⟨_, _, re3, ?_⟩
    have h3 : EndF ⟨P, w, K⟩ mg (fcP n rk (runP N.length n s)) vs G H Q E ((runP N.length n s ds).bind fun d => .ok (d, List.replicate n none)) := h3
    unfold runP at h3
    have h4 := end_weak l1 h3
    have e1 : (fcP n rk (runP N.length n s)).ms = List.replicate n 0 := rfl
    rw [e1] at re3 ⊢
    have key := end_of (X := cxOf (L2N.CX P w) P w K mg base N qual scope f cdv A outer s0 H E) (c := ⟨P, w, K⟩) (mg := mg) (N := N) rfl rfl h1 nr (by show (List.replicate n 0).length ≤ _; rw [List.length_replicate]; exact hpN)
      (fun i hi => by rw [e1, ioOf_plain] at hi; cases hi) (fun a i e _ => ow a i e) h4
    rw [e1, ioOf_plain] at key
    rw [l1]
    exact key
/-- the law's promise: its end is True -/
def spLaw (c : Cf) (n : Nat) (s : S) : Sp := fun vs H Q E => ∃ (G : Gh) (d : D), (∀ a, G a ≠ some .res) ∧ (∀ a i, G a ≠ some (.own i)) ∧ (∃ v, vs = [v] ∧ Rep c G H v d) ∧ GI G H ∧ (∃ ρ', s (some (0, d) :: List.replicate (n - 1) none) = .ok (.ret (.bool true), ρ')) ∧ ∀ H', Q (.bl true) H'
theorem law_ok {k : Nat} {N : List Str} {s : S} {script : Str} (F : FunD K x qual params body scope dvs kws f fd) (Sc : FnScope N [script] scope)
    (hb : ∀ (cdv : Value) (A : Around) (outer : List Env) (s0 : Shared) (H0 : Hp) (E : XK), Room k (A.deeper (envOfC qual scope s0.heap.objs.size f cdv)) →
      JSs (cxOf L2.CX0 P w K mg base N qual scope f cdv A outer s0 H0 E) (fun _ => false) W0 0 body s) : FnOk P w K mg base L2.CX0 (k + 1) f fd [script] (spLaw ⟨P, w, K⟩ N.length s) := by
  refine F.ok Sc (fun vs H Q E h => ?_) (fun cdv A outer s0 H vs Q E hr h => ⟨_, hb cdv A outer s0 H E hr, ?_⟩)
  · obtain ⟨G, d, _, _, ⟨v, rfl, _⟩, _⟩ := h
    rfl
  · obtain ⟨G, d, nr, no, ⟨v, rfl, rp⟩, gi, ⟨ρ', e⟩, q⟩ := h
    have re0 : RE ⟨P, w, K⟩ G [some v] H [some (0, d)] := ⟨rfl, gi, fun i k d' e => by
      cases i with
      | zero => cases e; exact ⟨v, [], rfl, .leaf rp, List.nodup_nil, fun a h => by cases h⟩
      | succ i => simp at e⟩
    have re1 := RE.more (vs := [v]) (N := N) re0 rfl
    refine ⟨G, _, re1, ?_⟩
    show GoodS _ _ _ _ _ _ (s (some (0, d) :: List.replicate (N.length - 1) none)) _
    rw [e]
    intro σ' G' H' kio st re v' r
    obtain ⟨A', t, _⟩ := r
    cases t with
    | leaf r => cases r; exact q H'
end
end Nc
namespace Nc
open PySem PySem.Spec L2
open PyProof.Rows hiding St
section
variable {X : Cx} {io : Nat → Bool} {W : WX} {rk : Nat} {p p1 p2 : Bool} {c : Cf} {G G1 G2 G' : Gh} {H H0 H1 H2 H' : Hp} {σ σ1 σ2 σ' : L2.St} {ρ ρ1 ρ2 ρ' : Rho}
theorem J.f0 {e : Expr} {f : M} (h : J X io W p .f e f) : J X io W p (.n 0) e f := by
  refine ⟨peI h.pe fun σ H Q q => ?_, h.pu⟩
  obtain ⟨G, ρ, re, q⟩ := q
  refine ⟨G, ρ, re, q.mono fun d ρ1 G1 H1 s1 re1 k v r => ?_⟩
  exact k v ⟨[], .leaf r, List.nodup_nil, fun a h => by cases h⟩
def sPar (i k1 : Nat) (j k2 : Nat) (f g : M) : S := fun ρ => (f ρ).bind fun x => (g x.2).bind fun y => .ok (.nx, (y.2.set i (some (k1, x.1))).set j (some (k2, y.1)))
theorem js_par (i j : Nat) {k1 k2 : Nat} {x y : Str} {a b : Expr} {f g : M} {px py pt pos : Pos} {kt kt2 pt2} (hc : X.calm = true) (h1o : io i = false) (h2o : io j = false) (hij : i ≠ j) (ha : J X io W p1 (.n k1) a f) (hb : J X io W p2 (.n k2) b g) (hN : X.N.Nodup) (hi : X.N[i]? = some x := by rfl) (hj : X.N[j]? = some y := by rfl)
    (hx : X.env.scope.names.lookup x = some .local := by rfl) (hy : X.env.scope.names.lookup y = some .local := by rfl)
    (hw : swappedStores [.Tuple [.Name x px, .Name y py] kt pt] (.Tuple [a, b] kt2 pt2) X.env = pure (some [x, y]) := by rfl) (hs : swapsWithSole [.Tuple [.Name x px, .Name y py] kt pt] (.Tuple [a, b] kt2 pt2) pos.line X.env = pure false := by rfl)
    (hs1 : starEach [a, b] X.env = (false, eval a X.env) :: starEach [b] X.env := by rfl) (hs2 : starEach [b] X.env = [(false, eval b X.env)] := by rfl) :
    JS X io W rk (.Assign [.Tuple [.Name x px, .Name y py] kt pt] (.Tuple [a, b] kt2 pt2) pos) (sPar i k1 j k2 f g) := psI (ps_par hc hN hi hj hij hx hy (pa_cons ha.pe (pa_cons hb.pe pa_nil hs2) hs1) hw hs) fun D σ H q => by
  obtain ⟨G, ρ, re, q⟩ := q
  have q : GoodS X io W σ G H ((f ρ).bind fun x => (g x.2).bind fun y => .ok (.nx, (y.2.set i (some (k1, x.1))).set j (some (k2, y.1)))) _ := q
  refine ⟨G, ρ, re, ?_⟩
  cases e : f ρ with
  | bad => rw [e] at q; exact q.elim
  | exc z => rw [e] at q; exact q σ Kio.refl
  | ok u =>
    obtain ⟨d1, ρ1⟩ := u
    rw [e] at q
    have q : GoodS X io W σ G H ((g ρ1).bind fun y => .ok (.nx, (y.2.set i (some (k1, d1))).set j (some (k2, y.1)))) _ := q
    intro G1 H1 s1 re1 v1 r1
    refine ⟨G1, ρ1, re1, ?_⟩
    cases e2 : g ρ1 with
    | bad => rw [e2] at q; exact q.elim
    | exc z =>
      rw [e2] at q
      exact fun C G2 H2 hC s2 => q σ Kio.refl C G2 H2 hC ((s1.stp re.gi).trans s2)
    | ok u =>
      obtain ⟨d2, ρ2⟩ := u
      rw [e2] at q
      intro G2 H2 s2 re2 v2 r2
      have t1 := s1.stp re.gi
      have t2 := s2.stp re1.gi
      obtain ⟨A, ta, nda, hA⟩ := r1
      obtain ⟨B, tb, ndb, hB⟩ := r2
      have hA1 : ∀ a ∈ A, H1 a ≠ none := ta.dom
      have ta2 : Tr (cfX X) G2 H2 k1 v1 d1 A := ta.stp t2 fun a h i e => by rw [(hA a h).1] at e; cases e
      have gA : ∀ a ∈ A, G2 a = none := fun a h => t2.un a (hA1 a h) (hA a h).1
      have re3 := re2.setN (i := i) ta2 nda gA
      have nab : ∀ b ∈ B, b ∉ A := fun b hb ha => hA1 b ha (hB b hb).2
      have tb3 : Tr (cfX X) (fun a => if a ∈ A then some (.own i) else G2 a) H2 k2 v2 d2 B := tb.tag gA (.own i)
      have gB : ∀ b ∈ B, (if b ∈ A then some (Tag.own i) else G2 b) = none := fun b hb => by rw [if_neg (nab b hb)]; exact (hB b hb).1
      have re4 := re3.setN (i := j) tb3 ndb gB
      have st : Stp io G H G2 H2 := t1.trans t2
      have hHB : ∀ b ∈ B, H b = none := fun b hb => by
        cases e : H b with
        | none => rfl
        | some o => exact absurd (hB b hb).2 (t1.dm b (by rw [e]; simp))
      have st3 : Stp io G H (fun a => if a ∈ A then some (.own i) else G2 a) H2 := st.tag fun a h => ⟨gA a h, (hA a h).2⟩
      have st4 := st3.tag (A := B) (t := .own j) fun b hb => ⟨gB b hb, hHB b hb⟩
      exact ⟨v1, v2, rfl, q _ _ _ ((Kio.set h1o).trans (Kio.set h2o)) st4 re4⟩
end
end Nc
namespace Nc
open PySem PySem.Spec L2
open PyProof.Rows hiding St
section
variable {X : Cx} {io : Nat → Bool} {W : WX} {rk : Nat} {p p1 p2 : Bool} {c : Cf} {G G1 G2 G' : Gh} {H H0 H1 H2 H' : Hp} {σ σ1 σ2 σ' : L2.St} {ρ ρ1 ρ2 ρ' : Rho}
def itemsD : D → Option (List D)
  | .list ds => some ds
  | .tuple ds => some ds
  | .dict kvs => some (kvs.map (·.1))
  | _ => none
def iA (f : M) : MI := fun ρ => (f ρ).bind fun x => match itemsD x.1 with
  | some ds => .ok (ds, x.2)
  | none => .bad
theorem ji_any {tg e : Expr} {f : M} (he : J X io W p .f e f) : JI X io W p tg e (iA f) := by
  refine ⟨⟨fun pins s σ H Rr I q => ?_⟩, fun z => pu_bind (he.pu z) fun b ρ z ρ' e => ?_⟩
  · obtain ⟨G, ρ, re, q⟩ := q
    cases e : f ρ with
    | bad =>
      have q : Good X io W p σ G H ((f ρ).bind _) _ := q
      rw [e] at q; exact q.elim
    | exc z =>
      have q : Good X io W p σ G H ((f ρ).bind _) _ := q
      rw [e] at q
      refine (ji_list (tg := tg) he).pi.run pins s σ H Rr I ⟨G, ρ, re, ?_⟩
      show Good X io W p σ G H ((f ρ).bind _) _
      rw [e]; exact q
    | ok a =>
      obtain ⟨d, ρ1⟩ := a
      have q : Good X io W p σ G H ((f ρ).bind fun x => match itemsD x.1 with
        | some ds => .ok (ds, x.2)
        | none => .bad) _ := q
      rw [e] at q
      cases d with
      | list ds =>
        refine (ji_list (tg := tg) he).pi.run pins s σ H Rr I ⟨G, ρ, re, ?_⟩
        show Good X io W p σ G H ((f ρ).bind _) _
        rw [e]; exact q
      | tuple ds =>
        refine (ji_tuple (tg := tg) he).pi.run pins s σ H Rr I ⟨G, ρ, re, ?_⟩
        show Good X io W p σ G H ((f ρ).bind _) _
        rw [e]; exact q
      | dict kvs =>
        refine (ji_keys (tg := tg) he).pi.run pins s σ H Rr I ⟨G, ρ, re, ?_⟩
        show Good X io W p σ G H ((f ρ).bind _) _
        rw [e]; exact q
      | _ => exact q.elim
  · dsimp only at e
    split at e
    · cases e; rfl
    · cases e
theorem nod_hd {i : Nat} {ks : Lk} (h : ∀ x ∈ ks, x = none) : Nod (some i :: ks) := by
  intro a j k h1 h2
  have z : ∀ (j : Nat), (some i :: ks)[j]? = some (some a) → j = 0 := fun j e => by
    cases j with
    | zero => rfl
    | succ j =>
      have e2 : ks[j]? = some (some a) := by simpa using e
      have := h _ (List.mem_of_getElem? e2)
      cases this
  rw [z j h1, z k h2]
theorem nod_none {ks : Lk} (h : ∀ x ∈ ks, x = none) : Nod ks := fun a j k h1 _ => by
  have := h _ (List.mem_of_getElem? h1)
  cases this
end
end Nc
namespace Nc
open PySem PySem.Spec L2
open PyProof.Rows hiding St
theorem room80 {k : Nat} {A : Around} (r : Room k A) : A.units + 80 < cLine := by have := r.un; omega
theorem room64 {k : Nat} {A : Around} (r : Room k A) : A.units + 64 < cLine := by have := r.un; omega
theorem room65 {k : Nat} {A : Around} (r : Room k A) : A.units + 65 < cLine := by have := r.un; omega
theorem room16 {k : Nat} {A : Around} (r : Room k A) : A.units + 16 < cLine := by have := r.un; omega
/-- no list stands in the written part -/
def noLst (K : PySem.W.Frag) : Bool := K.all fun q => match q.2.cls with
  | .type n => n != "list"
  | _ => true
theorem noLst_at {K : PySem.W.Frag} (h : noLst K = true) {a : Addr} {o : Obj} (e : K.lookup a = some o) : o.cls ≠ .type "list" := fun z => by
  have q := List.all_eq_true.mp h _ (He.lookup_mem e)
  rw [z] at q
  exact absurd q (by decide)
theorem sqL_rd {K : PySem.W.Frag} (h : noLst K = true) {H : Hp} {a : Addr} {xs : List V} (s : SqL K H a xs) : Rd H a (.lst xs) := by
  rcases s with s | ⟨o, its, n, e, c, _⟩
  · exact s
  · exact absurd c (noLst_at h e)
theorem mk_exc {X : Cx} {x m : Str} {j : Nat} {p p2 pos : Pos} (c : (He.Fa.exc x).ok X.K = true) (gC : X.mg x = some (.ref (He.ga X.K x))) (hg : Gl X x) (hdb : (x == ("__debug__" : Str)) = false := by decide) :
    L2N.PMk X (.Call (.Name x p) [.Constant (.str m) j p2] [] pos) (fun _ H Q => Q (.ref (He.ga X.K x)) none H) := by
  obtain ⟨h1, h2, h3, h4⟩ := He.exc_ok c
  exact L2N.pmk_own PySem.F.excBase_ValueError h1 gC h2 (raises_own h3 h4) hg hdb
/-- the law's list as data -/
theorem law_in {P : Program} {w : World} {K : PySem.W.Frag} {n : Nat} {s : S} (nl : noLst K = true) {N : Nat} (h : ∀ ns : List Int, ns.length ≤ N → ∃ ρ', s (some (0, .list (ns.map fun (i : Int) => (.int i : D))) :: List.replicate (n - 1) none) = .ok (.ret (.bool true), ρ')) :
    ∀ (H : Hp) (a : Addr) (ns : List Int), ns.length ≤ N → Only H → SqL K H a (ns.map V.int) → spLaw ⟨P, w, K⟩ n s [.ref a] H (fun v _ => v = .bl true) fun _ _ _ => False := by
  intro H a ns hl ho hs
  have hr := sqL_rd nl hs
  have fr : ∃ o, H a = some (.frz o (.lst (ns.map V.int))) := by
    rcases hr with e | e
    · rcases ho a with z | ⟨o, xs, z⟩
      · rw [z] at e; cases e
      · rw [z] at e; cases e
    · exact e
  obtain ⟨o, e⟩ := fr
  exact ⟨fun _ => none, .list (ns.map fun (i : Int) => (.int i : D)), (fun _ z => nomatch z), (fun _ _ z => nomatch z), ⟨_, rfl, .frz e ints_repL⟩, (fun _ z => absurd rfl z), h ns hl, fun _ => rfl⟩
end Nc
namespace Nc
open PySem PySem.Spec L2
open PyProof.Rows hiding St
section
variable {X : Cx} {io : Nat → Bool} {W : WX} {p : Bool} {ks : Lk} {k : Nat} {f : Addr} {fd : FuncData} {ps : List Str} {x : Str} {pn pos : Pos} {e : Expr} {es : List Expr} {fc : Fc} {fa : MA} {rk : Nat}
theorem j_callR (F : FnOk X.prog X.w X.K X.mg X.base (L2N.CX X.prog X.w) k f fd ps (spF (cfX X) X.mg fc)) (hr : Room k X.A) (hm : X.mg x = some (.ref f)) (hk : PySem.W.keepIn X.K (.ref f) = true) (hb : Binds X.K fd ps []) (tk : L2N.Takes X W) (ha : JK X io W p (e :: es) ks fa) (nd : Nod ks) (hrk : fc.rk = rk := by rfl)
    (hg : Gl X x := by rfl) (hdb : (x == ("__debug__" : Str)) = false := by decide) (he : starEach (e :: es) X.env = (false, eval e X.env) :: starEach es X.env := by rfl) (hpl : (backTo pos (starEach es X.env)).any (·.1) = false := by rfl) :
    J X io W false (.n rk) (.Call (.Name x pn) (e :: es) [] pos) (mCall fc ks fa) := by
  subst hrk
  exact j_call F hr hm hk hb tk ha nd hg hdb he hpl
end
end Nc
set_option maxHeartbeats 2000000
namespace Nc
open PySem PySem.Spec L2
open PyProof.Rows hiding St
open PySem.W (alike alikeAll dataLt dataLe minD keyToks keyToksAll)

def Sm (n : Nat) (d : D) : Prop := PyData.canLay0 d = true ∧ PyData.depth d ≤ n
theorem Sm.mono {n m : Nat} {d : D} (h : Sm n d) (k : n ≤ m) : Sm m d := ⟨h.1, Nat.le_trans h.2 k⟩
theorem Sm.shaped {n : Nat} {d : D} (h : Sm n d) (k : n ≤ 64 := by decide) : SeqAt.shaped d = true := by
  unfold SeqAt.shaped
  rw [h.1, Bool.true_and]
  exact decide_eq_true (Nat.le_trans h.2 k)
theorem sm_all {n : Nat} : ∀ {l : List D}, (∀ d ∈ l, Sm n d) → PyData.canLayAll0 l = true ∧ PyData.depthAll l ≤ n
  | [], _ => ⟨by simp [PyData.canLayAll0], by simp [PyData.depthAll]⟩
  | d :: l, h => by
    have h1 := h d (List.mem_cons_self ..)
    have h2 := sm_all fun e he => h e (List.mem_cons_of_mem _ he)
    refine ⟨?_, ?_⟩
    · rw [PyData.canLayAll0, h1.1, h2.1]
      rfl
    · rw [PyData.depthAll]
      exact Nat.max_le.mpr ⟨h1.2, h2.2⟩
theorem sm_tup {n : Nat} {l : List D} (h : ∀ d ∈ l, Sm n d) : Sm (n + 1) (.tuple l) := by
  have h2 := sm_all h
  refine ⟨?_, ?_⟩
  · rw [PyData.canLay0]
    exact h2.1
  · rw [PyData.depth]
    omega
theorem sm_lst {n : Nat} {l : List D} (h : ∀ d ∈ l, Sm n d) : Sm (n + 1) (.list l) := by
  have h2 := sm_all h
  refine ⟨?_, ?_⟩
  · rw [PyData.canLay0]
    exact h2.1
  · rw [PyData.depth]
    omega
theorem sm_int (i : Int) : Sm 0 (.int i) := ⟨by simp [PyData.canLay0], by simp [PyData.depth]⟩
theorem sm_str {i : Str} (h : PyData.strOk i = true := by decide) : Sm 0 (.str i) := ⟨by simpa [PyData.canLay0] using h, by simp [PyData.depth]⟩
theorem sm_none : Sm 0 .none := ⟨by simp [PyData.canLay0], by simp [PyData.depth]⟩
theorem sm_encP (x : P2) : Sm 1 (encP x) := sm_tup fun d hd => by
  rcases List.mem_cons.mp hd with e | hd
  · exact e ▸ sm_int _
  · rcases List.mem_cons.mp hd with e | hd
    · exact e ▸ sm_int _
    · cases hd
theorem sm_tupP (l : List P2) : Sm 2 (.tuple (l.map encP)) := sm_tup fun d hd => by
  obtain ⟨x, _, e⟩ := List.mem_map.mp hd
  exact e ▸ sm_encP x
theorem sm_lstP (l : List P2) : Sm 2 (.list (l.map encP)) := sm_lst fun d hd => by
  obtain ⟨x, _, e⟩ := List.mem_map.mp hd
  exact e ▸ sm_encP x

theorem eqv_encP (x y : P2) : PyData.eqv (encP x) (encP y) = decide (x = y) := by
  obtain ⟨a, b⟩ := x
  obtain ⟨c, d⟩ := y
  simp [encP, PyData.eqv, PyData.eqvAll, Prod.ext_iff]
  rfl
theorem eqvAll_encP : ∀ l m : List P2, PyData.eqvAll (l.map encP) (m.map encP) = decide (l = m)
  | [], [] => by simp [PyData.eqvAll]
  | [], y :: m => by simp [PyData.eqvAll]
  | x :: l, [] => by simp [PyData.eqvAll]
  | x :: l, y :: m => by
    rw [List.map_cons, List.map_cons, PyData.eqvAll, eqv_encP, eqvAll_encP l m]
    simp
theorem eqv_tupP (l m : List P2) : PyData.eqv (.tuple (l.map encP)) (.tuple (m.map encP)) = decide (l = m) := by
  rw [PyData.eqv]
  exact eqvAll_encP l m
theorem any_encP (l : List P2) (x : P2) : ((l.map encP).any fun z => PyData.eqv z (encP x)) = decide (x ∈ l) := by
  induction l with
  | nil => simp
  | cons y l ih =>
    rw [List.map_cons, List.any_cons, ih, eqv_encP]
    simp [eq_comm]

def kP (x : P2) : NestedKey := .tup [.num x.1, .num x.2]
theorem kP_inj {x y : P2} : kP x = kP y ↔ x = y := by
  obtain ⟨a, b⟩ := x
  obtain ⟨c, d⟩ := y
  simp [kP]
theorem keyOf_encP (x : P2) : keyOf (encP x) = some (kP x) := rfl
theorem keyD_encP (x : P2) : keyD (encP x) = some (kP x) := by
  obtain ⟨a, b⟩ := x
  rfl
def encK {β : Type} (ev : β → D) (l : List (P2 × β)) : List (D × D) := l.map fun p => (encP p.1, ev p.2)
theorem lookK_enc {β : Type} (ev : β → D) : ∀ (l : List (P2 × β)) (x : P2), lookK (encK ev l) (kP x) = (l.lookup x).map ev
  | [], x => rfl
  | (y, v) :: l, x => by
    show (if keyOf (encP y) = some (kP x) then some (ev v) else lookK (encK ev l) (kP x)) = _
    rw [keyOf_encP, List.lookup_cons, lookK_enc ev l x]
    by_cases h : x = y
    · subst h
      simp
    · have h2 : ¬ some (kP y) = some (kP x) := fun e => h (kP_inj.mp (Option.some.inj e)).symm
      rw [if_neg h2]
      have h3 : (x == y) = false := by simpa using h
      rw [h3]
def putA {β : Type} (l : List (P2 × β)) (x : P2) (v : β) : List (P2 × β) := if (l.lookup x).isSome = true then l.map fun p => if p.1 = x then (p.1, v) else p else l ++ [(x, v)]
theorem putK_enc {β : Type} (ev : β → D) (l : List (P2 × β)) (x : P2) (v : β) : putK (encK ev l) (encP x) (kP x) (ev v) = encK ev (putA l x v) := by
  unfold putK putA
  rw [lookK_enc]
  cases h : l.lookup x with
  | none =>
    simp [encK]
  | some u =>
    simp only [Option.map_some, Option.isSome_some, if_true, encK, List.map_map]
    refine List.map_congr_left fun p _ => ?_
    show (if keyOf (encP p.1) = some (kP x) then (encP p.1, ev v) else (encP p.1, ev p.2)) = _
    rw [keyOf_encP]
    by_cases e : p.1 = x
    · simp [e]
    · have h2 : ¬ some (kP p.1) = some (kP x) := fun z => e (kP_inj.mp (Option.some.inj z))
      simp [h2, e]
theorem lookup_append {β : Type} (l m : List (P2 × β)) (y : P2) : (l ++ m).lookup y = (l.lookup y).or (m.lookup y) := by
  induction l with
  | nil => simp
  | cons p l ih =>
    obtain ⟨a, b⟩ := p
    rw [List.cons_append, List.lookup_cons, List.lookup_cons, ih]
    cases (y == a) <;> simp
theorem lookup_repl {β : Type} (x : P2) (v : β) (y : P2) : ∀ l : List (P2 × β), (l.map fun p => if p.1 = x then (p.1, v) else p).lookup y = if y = x then (l.lookup y).map (fun _ => v) else l.lookup y
  | [] => by simp
  | (a, b) :: l => by
    rw [List.map_cons]
    by_cases e : a = x
    · rw [if_pos e, List.lookup_cons, lookup_repl x v y l, List.lookup_cons]
      by_cases h : y = x
      · subst h e
        simp
      · have h3 : (y == a) = false := by simpa [e] using h
        simp [h, h3]
    · rw [if_neg e, List.lookup_cons, lookup_repl x v y l, List.lookup_cons]
      by_cases h : y = x
      · subst h
        have h3 : (y == a) = false := by simpa using fun z => e z.symm
        simp [h3]
      · simp [h]
theorem lookup_putA {β : Type} (l : List (P2 × β)) (x y : P2) (v : β) : (putA l x v).lookup y = if y = x then some v else l.lookup y := by
  unfold putA
  cases h : l.lookup x with
  | none =>
    simp only [Option.isSome_none, Bool.false_eq_true, if_false]
    rw [lookup_append]
    by_cases e : y = x
    · subst e
      simp [h]
    · have h3 : (y == x) = false := by simpa using e
      simp [e, List.lookup_cons, h3]
  | some u =>
    simp only [Option.isSome_some, if_true]
    rw [lookup_repl]
    by_cases e : y = x
    · subst e
      simp [h]
    · simp [e]
theorem mem_lookup {β : Type} : ∀ {l : List (P2 × β)} {x : P2}, (l.lookup x).isSome = true ↔ x ∈ l.map (·.1)
  | [], x => by simp
  | (a, b) :: l, x => by
    rw [List.lookup_cons, List.map_cons, List.mem_cons]
    by_cases e : x = a
    · simp [e]
    · have h3 : (x == a) = false := by simpa using e
      rw [h3]
      simp only [e, false_or]
      exact mem_lookup
theorem keys_putA {β : Type} (l : List (P2 × β)) (x : P2) (v : β) : (putA l x v).map (·.1) = if x ∈ l.map (·.1) then l.map (·.1) else l.map (·.1) ++ [x] := by
  unfold putA
  by_cases h : x ∈ l.map (·.1)
  · rw [if_pos (mem_lookup.mpr h), if_pos h, List.map_map]
    refine List.map_congr_left fun p _ => ?_
    show (if p.1 = x then (p.1, v) else p).1 = p.1
    split <;> rfl
  · rw [if_neg fun z => h (mem_lookup.mp z), if_neg h, List.map_append]
    rfl
theorem nodup_putA {β : Type} {l : List (P2 × β)} {x : P2} {v : β} (h : (l.map (·.1)).Nodup) : ((putA l x v).map (·.1)).Nodup := by
  rw [keys_putA]
  split
  · exact h
  · rename_i hx
    refine List.nodup_append.mpr ⟨h, by simp, fun a ha b hb => ?_⟩
    rw [List.mem_singleton] at hb
    intro e
    exact hx (hb ▸ e ▸ ha)
theorem length_sub {α : Type} [DecidableEq α] : ∀ {l m : List α}, l.Nodup → (∀ x ∈ l, x ∈ m) → l.length ≤ m.length
  | [], m, _, _ => Nat.zero_le _
  | x :: l, m, nd, h => by
    have hx := h x (List.mem_cons_self ..)
    have nd2 := List.nodup_cons.mp nd
    have ih := length_sub (l := l) (m := m.erase x) nd2.2 fun y hy => (List.mem_erase_of_ne fun (e : y = x) => nd2.1 (e ▸ hy)).mpr (h y (List.mem_cons_of_mem _ hy))
    rw [List.length_erase_of_mem hx] at ih
    have : 0 < m.length := List.length_pos_of_mem hx
    simp only [List.length_cons]
    omega

theorem dPairs_enc {β : Type} (ev : β → D) : ∀ l : List (P2 × β), dPairs (l.map fun p => .tuple [encP p.1, ev p.2]) = some (l.map fun p => (encP p.1, kP p.1, ev p.2))
  | [] => rfl
  | p :: l => by
    show ((keyD (encP p.1)).bind fun k => (dPairs (l.map fun p => .tuple [encP p.1, ev p.2])).map ((encP p.1, k, ev p.2) :: ·)) = _
    rw [keyD_encP, dPairs_enc ev l]
    rfl
theorem putAll_enc {β : Type} (ev : β → D) : ∀ (l acc : List (P2 × β)), ((acc ++ l).map (·.1)).Nodup → putAll (l.map fun p => (encP p.1, kP p.1, ev p.2)) (encK ev acc) = encK ev (acc ++ l)
  | [], acc, _ => by
    simp [putAll]
  | p :: l, acc, nd => by
    show putAll (l.map fun p => (encP p.1, kP p.1, ev p.2)) (putK (encK ev acc) (encP p.1) (kP p.1) (ev p.2)) = _
    have hx : ¬ p.1 ∈ acc.map (·.1) := fun hm => by
      rw [List.map_append, List.map_cons] at nd
      exact (List.nodup_append.mp nd).2.2 p.1 hm p.1 (List.mem_cons_self ..) rfl
    rw [putK_enc, show putA acc p.1 p.2 = acc ++ [p] by
      unfold putA
      rw [if_neg fun z => hx (mem_lookup.mp z)]]
    have e : acc ++ p :: l = (acc ++ [p]) ++ l := by simp
    rw [e] at nd ⊢
    exact putAll_enc ev l (acc ++ [p]) nd
theorem dDict_enc {β : Type} (ev : β → D) (l : List (P2 × β)) (nd : (l.map (·.1)).Nodup) (hl : l.length ≤ big) : dDict (.list (l.map fun p => .tuple [encP p.1, ev p.2])) = some (.dict (encK ev l)) := by
  have q := putAll_enc ev l [] (by simpa using nd)
  have q2 : putAll (l.map fun p => (encP p.1, kP p.1, ev p.2)) [] = encK ev l := q
  unfold dDict
  simp only [List.length_map, if_pos hl, dPairs_enc, Option.map_some, q2]
theorem alike_encP (x y : P2) : alike (encP x) (encP y) = true := by
  simp [encP, alike, alikeAll]
theorem lt_encP (x y : P2) : dataLt (encP x) (encP y) = plt x y := by
  obtain ⟨a, b⟩ := x
  obtain ⟨c, d⟩ := y
  have q : dataLt (encP (a, b)) (encP (c, d)) = (decide ((1 : Int) < 1) || (!decide ((1 : Int) < 1) && (decide (a < c) || (!decide (c < a) && (decide ((1 : Int) < 1) || (!decide ((1 : Int) < 1) && (decide (b < d) || (!decide (d < b) && (decide ((0 : Int) < 0) || (!decide ((0 : Int) < 0) && false)))))))))) := by
    unfold dataLt encP
    simp only [keyToks, keyToksAll, List.cons_append, List.nil_append]
    rfl
  rw [q]
  unfold plt
  have one : decide ((1 : Int) < 1) = false := by decide
  have zer : decide ((0 : Int) < 0) = false := by decide
  rw [one, zer]
  by_cases h1 : a < c
  · simp [h1]
  · by_cases h2 : c < a
    · have h3 : ¬ a = c := by omega
      simp [h1, h2, h3]
    · have h3 : a = c := by omega
      subst h3
      simp [h1]
theorem le_encP (x y : P2) : dataLe false _root_.id (encP x) (encP y) = !plt y x := by
  rw [← lt_encP]
  rfl
theorem sorted_mergeP (l : List P2) (h : l.Pairwise fun a b => plt a b = true) : (l.map encP).mergeSort (dataLe false _root_.id) = l.map encP := by
  refine List.mergeSort_of_pairwise ?_
  rw [List.pairwise_map]
  refine h.imp fun {a b} q => ?_
  rw [le_encP]
  cases e : plt b a with
  | false => rfl
  | true => exact (plt_irr q e).elim
theorem sortD_encP (l : List P2) (h : l.Pairwise fun a b => plt a b = true) (hl : l.length ≤ big) : sortD (l.map encP) = some (.list (l.map encP)) := by
  unfold sortD
  rw [if_pos, sorted_mergeP l h]
  refine ⟨?_, ?_, ?_, by rw [List.length_map]; exact hl⟩
  · unfold allAlikeB
    rw [List.all_eq_true]
    intro a ha
    rw [List.all_eq_true]
    intro b hb
    obtain ⟨x, _, rfl⟩ := List.mem_map.mp ha
    obtain ⟨y, _, rfl⟩ := List.mem_map.mp hb
    exact alike_encP x y
  · unfold sortableB
    rw [Bool.or_eq_true]
    left
    rw [List.all_eq_true]
    intro a ha
    obtain ⟨x, _, rfl⟩ := List.mem_map.mp ha
    rfl
  · rw [List.all_eq_true]
    intro a ha
    obtain ⟨x, _, rfl⟩ := List.mem_map.mp ha
    exact (sm_encP x).shaped

theorem prsD_enc : ∀ l : List P2, (∀ x ∈ l, 0 ≤ x.1 ∧ x.1 < B20 ∧ 0 ≤ x.2 ∧ x.2 < B20) → prsD (l.map encP) = some l
  | [], _ => rfl
  | x :: l, h => by
    show ((prD (encP x)).bind fun y => (prsD (l.map encP)).map (y :: ·)) = _
    rw [prsD_enc l fun y hy => h y (List.mem_cons_of_mem _ hy)]
    have q : prD (encP x) = some x := by
      show (if 0 ≤ x.1 ∧ x.1 < B20 ∧ 0 ≤ x.2 ∧ x.2 < B20 then some (x.1, x.2) else none) = _
      rw [if_pos (h x (List.mem_cons_self ..))]
    rw [q]
    rfl
theorem dSS_enc (l : List P2) (h : ∀ x ∈ l, 0 ≤ x.1 ∧ x.1 < B20 ∧ 0 ≤ x.2 ∧ x.2 < B20) (hl : l.length < 64) : dSS (.list (l.map encP)) = some (.list ((ssP l).map encP)) := by
  unfold dSS
  simp only [List.length_map, if_pos hl, prsD_enc l h, Option.map_some]
theorem insS_length (x : P2) : ∀ l : List P2, (insS x l).length ≤ l.length + 1
  | [] => by simp [insS]
  | y :: l => by
    unfold insS
    split
    · simp
    · split
      · simp
      · have := insS_length x l
        simp
        omega
theorem ssP_length : ∀ l : List P2, (ssP l).length ≤ l.length
  | [] => by simp [ssP]
  | x :: l => by
    have h1 := ssP_length l
    have h2 := insS_length x (ssP l)
    show (insS x (ssP l)).length ≤ _
    simp only [List.length_cons]
    omega
theorem plt_nodup {l : List P2} (h : l.Pairwise fun a b => plt a b = true) : l.Nodup := List.Pairwise.imp (fun {a b} (q : plt a b = true) => fun (e : a = b) => plt_self (x := b) (by rw [e] at q; exact q)) h

theorem compP_map {α : Type} {g : Tg} {t : MT} {f : M} {ρ : Rho} (e : α → D) (p : α → Bool) (q : α → D) : ∀ (l : List α) (h : ∀ x ∈ l, ∃ ρ1, g (e x) ρ = some ρ1 ∧ (∃ r, t ρ1 = .ok (p x, r)) ∧ (p x = true → ∃ r, f ρ1 = .ok (q x, r))), compP g t f (l.map e) ρ = .ok ((l.filter p).map q)
  | [], _ => rfl
  | x :: l, h => by
    obtain ⟨ρ1, h1, ⟨r, h2⟩, h3⟩ := h x (List.mem_cons_self ..)
    have ih := compP_map e p q l fun y hy => h y (List.mem_cons_of_mem _ hy)
    rw [List.map_cons, compP]
    simp only [h1, h2]
    cases hp : p x with
    | false =>
      rw [List.filter_cons_of_neg (by simp [hp])]
      exact ih
    | true =>
      obtain ⟨r2, h4⟩ := h3 hp
      rw [List.filter_cons_of_pos hp]
      simp only [h4, ih, R.bind_ok, List.map_cons]
theorem compP2_flat {α : Type} {g g1 : Tg} {t t1 : MT} {fi1 : MI} {f : M} {vs1 : List Nat} {ρ : Rho} (e : α → D) (ys : α → List D) : ∀ (l : List α) (h : ∀ x ∈ l, ∃ ρ1 es r, g (e x) ρ = some ρ1 ∧ (∃ r, t ρ1 = .ok (true, r)) ∧ fi1 ρ1 = .ok (es, r) ∧ compP g1 t1 f es (wipeR ρ1 vs1) = .ok (ys x)), compP2 g t fi1 g1 t1 f vs1 (l.map e) ρ = .ok (l.flatMap ys)
  | [], _ => rfl
  | x :: l, h => by
    obtain ⟨ρ1, es, r, h1, ⟨r', h2⟩, h3, h4⟩ := h x (List.mem_cons_self ..)
    have ih := compP2_flat e ys l fun y hy => h y (List.mem_cons_of_mem _ hy)
    rw [List.map_cons, compP2]
    simp only [h1, h2, h3, h4, ih, R.bind_ok, List.flatMap_cons]
theorem loop_pre {α : Type} {g : Tg} {s : S} (e : α → D) (I : List α → Rho → Prop) : ∀ (post pre : List α) (l : List α), l = pre ++ post → (∀ pre x post ρ, l = pre ++ x :: post → I pre ρ → ∃ ρ1 ρ2, g (e x) ρ = some ρ1 ∧ s ρ1 = .ok (.nx, ρ2) ∧ I (pre ++ [x]) ρ2) → ∀ ρ, I pre ρ → ∃ ρ', loopF g s (post.map e) ρ = .ok (.nx, ρ') ∧ I l ρ'
  | [], pre, l, hl, _, ρ, i => ⟨ρ, rfl, by rw [hl, List.append_nil]; exact i⟩
  | x :: post, pre, l, hl, h, ρ, i => by
    obtain ⟨ρ1, ρ2, h1, h2, h3⟩ := h pre x post ρ hl i
    obtain ⟨ρ', h4, h5⟩ := loop_pre e I post (pre ++ [x]) l (by rw [hl]; simp) h ρ2 h3
    refine ⟨ρ', ?_, h5⟩
    rw [List.map_cons, loopF]
    simp only [h1, h2, R.bind_ok]
    exact h4
/-- a loop to its end: I of what is done -/
theorem loop_to {α : Type} {g : Tg} {s : S} (e : α → D) (I : List α → Rho → Prop) (l : List α) {ρ : Rho} (i : I [] ρ) (h : ∀ pre x post ρ, l = pre ++ x :: post → I pre ρ → ∃ ρ1 ρ2, g (e x) ρ = some ρ1 ∧ s ρ1 = .ok (.nx, ρ2) ∧ I (pre ++ [x]) ρ2) :
    ∃ ρ', loopF g s (l.map e) ρ = .ok (.nx, ρ') ∧ I l ρ' := loop_pre e I l [] l rfl h ρ i
end Nc
set_option maxHeartbeats 2000000
namespace Nc
open PySem PySem.Spec L2
open PyProof.Rows hiding St
theorem e_mm : dEq (.str "move") (.str "move") = some (.bool true) := by kernel_rfl
theorem e_am : dEq (.str "range") (.str "move") = some (.bool false) := by kernel_rfl
theorem e_om : dEq (.str "route") (.str "move") = some (.bool false) := by kernel_rfl
theorem e_lm : dEq (.str "layer") (.str "move") = some (.bool false) := by kernel_rfl
theorem e_aa : dEq (.str "range") (.str "range") = some (.bool true) := by kernel_rfl
theorem e_ma : dEq (.str "move") (.str "range") = some (.bool false) := by kernel_rfl
theorem e_oa : dEq (.str "route") (.str "range") = some (.bool false) := by kernel_rfl
theorem e_la : dEq (.str "layer") (.str "range") = some (.bool false) := by kernel_rfl
theorem e_mo : dEq (.str "move") (.str "route") = some (.bool false) := by kernel_rfl
theorem e_ao : dEq (.str "range") (.str "route") = some (.bool false) := by kernel_rfl
theorem e_oo : dEq (.str "route") (.str "route") = some (.bool true) := by kernel_rfl
theorem e_lo : dEq (.str "layer") (.str "route") = some (.bool false) := by kernel_rfl
theorem e_ml : dEq (.str "move") (.str "layer") = some (.bool false) := by kernel_rfl
theorem e_al : dEq (.str "range") (.str "layer") = some (.bool false) := by kernel_rfl
theorem e_ol : dEq (.str "route") (.str "layer") = some (.bool false) := by kernel_rfl
theorem e_ll : dEq (.str "layer") (.str "layer") = some (.bool true) := by kernel_rfl
theorem e_int (a b : Int) : dEq (.int a) (.int b) = some (.bool (decide (a = b))) := by
  unfold dEq
  rw [if_pos ⟨(sm_int a).shaped, (sm_int b).shaped⟩, PyData.eqv]
  rfl
theorem n_int (a b : Int) : dNe (.int a) (.int b) = some (.bool (!decide (a = b))) := by
  unfold dNe
  rw [if_pos ⟨(sm_int a).shaped, (sm_int b).shaped⟩, PyData.eqv]
  rfl
theorem atI0 {α : Type} (a : α) (l : List α) : atI (a :: l) 0 = some a := by
  unfold atI ixN
  rw [if_pos (by omega), if_pos (by simp only [List.length_cons]; omega)]
  rfl
theorem atI_nat {α : Type} (l : List α) (n : Nat) (h : n < l.length) : atI l (n : Int) = l[n]? := by
  unfold atI ixN
  rw [if_pos (by omega), if_pos (by omega)]
  simp
theorem ix0 (a : D) (l : List D) : dIxK (.tuple (a :: l)) (.int 0) = some a := atI0 a l
theorem ix1 (a b : D) (l : List D) : dIxK (.tuple (a :: b :: l)) (.int 1) = some b := atI_nat (a :: b :: l) 1 (by simp)
theorem ix2 (a b c : D) (l : List D) : dIxK (.tuple (a :: b :: c :: l)) (.int 2) = some c := atI_nat (a :: b :: c :: l) 2 (by simp)
theorem lx0 (a : D) (l : List D) : dIxK (.list (a :: l)) (.int 0) = some a := atI0 a l
theorem lx1 (a b : D) (l : List D) : dIxK (.list (a :: b :: l)) (.int 1) = some b := atI_nat (a :: b :: l) 1 (by simp)
theorem lx2 (a b c : D) (l : List D) : dIxK (.list (a :: b :: c :: l)) (.int 2) = some c := atI_nat (a :: b :: c :: l) 2 (by simp)
theorem seq_nx {s t : S} {ρ ρ1 : Rho} (h : s ρ = .ok (.nx, ρ1)) : sSeq s t ρ = t ρ1 := by
  unfold sSeq
  rw [h]
  rfl
theorem seq_ret {s t : S} {ρ ρ1 : Rho} {d : D} (h : s ρ = .ok (.ret d, ρ1)) : sSeq s t ρ = .ok (.ret d, ρ1) := by
  unfold sSeq
  rw [h]
  rfl
theorem runP_ret {n m : Nat} {s : S} {ds : List D} {d : D} {ρ : Rho} (h : s (ins (List.replicate m 0) ds ++ List.replicate (n - m) none) = .ok (.ret d, ρ)) : runP n m s ds = .ok d := by
  unfold runP
  rw [h]
  rfl
theorem runP_nx {n m : Nat} {s : S} {ds : List D} {ρ : Rho} (h : s (ins (List.replicate m 0) ds ++ List.replicate (n - m) none) = .ok (.nx, ρ)) : runP n m s ds = .ok .none := by
  unfold runP
  rw [h]
  rfl
end Nc
namespace Nc
open PySem PySem.Spec L2
open PyProof.Rows hiding St
section
variable {X : Cx} {io : Nat → Bool} {W : WX} {rk : Nat} {p p1 p2 : Bool} {c : Cf} {G G0 G1 G2 G' : Gh} {H H0 H1 H2 H' : Hp} {σ σ1 σ2 σ' : L2.St} {ρ ρ1 ρ2 ρ' : Rho}
def enD : Nat → List D → List D
  | _, [] => []
  | k, d :: ds => .tuple [.int (k : Int), d] :: enD (k + 1) ds
theorem enD_get : ∀ (ds : List D) (k i : Nat), (enD k ds)[i]? = (ds[i]?).map fun d => .tuple [.int ((k + i : Nat) : Int), d]
  | [], k, i => by simp [enD]
  | d :: ds, k, 0 => by simp [enD]
  | d :: ds, k, i + 1 => by
    show (enD (k + 1) ds)[i]? = _
    rw [enD_get ds (k + 1) i, List.getElem?_cons_succ, show k + 1 + i = k + (i + 1) by omega]
theorem enD_len : ∀ (ds : List D) (k : Nat), (enD k ds).length = ds.length
  | [], _ => rfl
  | d :: ds, k => by
    show (enD (k + 1) ds).length + 1 = _
    rw [enD_len ds (k + 1)]
    rfl
def iEn (f : M) : MI := fun ρ => (f ρ).bind fun x => match x.1 with
  | .list ds => .ok (enD 0 ds, x.2)
  | _ => .bad
theorem src_enum {a : Addr} {ds : List D} (h : ∀ G H, Stp io G0 H0 G H → GI G H → ∃ xs, SqL c.K H a xs ∧ RepL c G H xs ds) : Src c io G0 H0 (Ite c.K a) (enD 0 ds) where
  go := fun G H i s g hi => by
    rw [enD_len] at hi
    obtain ⟨xs, h1, h2⟩ := h G H s g
    exact ⟨xs, xs[i]'(by rw [h2.length]; exact hi), h1, List.getElem?_eq_getElem _⟩
  yld := fun G H i d x H' s g hd y => by
    obtain ⟨T, v, rfl, hT, rfl, y⟩ := y
    rw [enD_get] at hd
    obtain ⟨e, he, rfl⟩ := Option.map_eq_some_iff.mp hd
    obtain ⟨xs, h1, h2⟩ := h G H s g
    obtain ⟨u, hu, r⟩ := h2.get he
    have := y xs h1
    rw [hu] at this
    cases this
    have gr : Gr H (L2.upd H T (.tup [.int (i : Nat), v])) := fun b o hb => by
      rw [L2.upd_ne (fun z => by rw [z, hT] at hb; cases hb)]
      exact hb
    have ex : Ext G H G (L2.upd H T (.tup [.int (i : Nat), v])) := ⟨gr, fun _ _ => rfl⟩
    refine ⟨gr, ?_⟩
    rw [Nat.zero_add]
    exact .tup (.inl (.inl (by simp [L2.upd]))) (.cons (.int _) (.cons (r.stp (ex.stp (io := io) g)) .nil))
  stop := fun G H s g => by
    rw [enD_len]
    obtain ⟨xs, h1, h2⟩ := h G H s g
    exact ⟨xs, h1, by rw [h2.length]; exact Nat.le_refl _⟩
theorem ji_enum {e : Expr} {f : M} {pn pos tpos : Pos} {elts : List Expr} {kk : Nat} (hm : X.mg "enumerate" = none) (he : J X io W p cl e f) (hg : Gl X "enumerate" := by rfl) (hs : cl.st false = true := by rfl) (hst : starEach [e] X.env = [(false, eval e X.env)] := by rfl) :
    JI X io W p (.Tuple elts kk tpos) (.Call (.Name "enumerate" pn) [e] [] pos) (iEn f) := by
  refine ⟨piI (pi_enum hg hm (pa1 he hst) hst) fun σ H Rr q => ?_, fun z => pu_bind (he.pu z) fun b ρ z ρ' e => ?_⟩
  · obtain ⟨G, ρ, re, q⟩ := q
    refine ⟨G, ρ, re, (good_bindT re.gi q).mono fun d ρ1 G1 H1 s1 re1 q1 v r => ?_⟩
    cases d with
    | list ds =>
      have st : ∀ G2 H2, Stp io G1 H1 G2 H2 → GI G2 H2 → Rd1 (cfX X) G2 H2 v (.list ds) := fun G2 H2 s2 g2 => Res.step (p := false) re1.gi r s2 hs
      obtain ⟨a, xs, rfl, h1, h2⟩ := (st G1 H1 Stp.refl re1.gi).sqL
      refine ⟨a, xs, rfl, h1, q1 G1 H1 StepOf.refl re1 _ (src_enum fun G2 H2 s2 g2 => ?_)⟩
      obtain ⟨b, ys, e, h3, h4⟩ := (st G2 H2 s2 g2).sqL
      cases e
      exact ⟨ys, h3, h4⟩
    | _ => exact q1.elim
  · dsimp only at e
    split at e
    · cases e; rfl
    · cases e
theorem srcE_list {a : Addr} {ds : List D} (h : ∀ G H, Ext G0 H0 G H → GI G H → ∃ xs, SqL c.K H a xs ∧ RepL c G H xs ds) : SrcE c G0 H0 (Itl c.K a) ds where
  go := fun G H i s g hi => by
    obtain ⟨xs, h1, h2⟩ := h G H s g
    exact ⟨xs, xs[i]'(by rw [h2.length]; exact hi), h1, List.getElem?_eq_getElem _⟩
  yld := fun G H i d x H' s g hd y => by
    obtain ⟨e, y⟩ := y
    obtain ⟨xs, h1, h2⟩ := h G H s g
    obtain ⟨v, hv, r⟩ := h2.get hd
    have := y xs h1
    rw [hv] at this
    cases this
    rw [e]
    exact ⟨Gr.refl _, r⟩
  stop := fun G H s g => by
    obtain ⟨xs, h1, h2⟩ := h G H s g
    exact ⟨xs, h1, by rw [h2.length]; exact Nat.le_refl _⟩
theorem srcE_enum {a : Addr} {ds : List D} (h : ∀ G H, Ext G0 H0 G H → GI G H → ∃ xs, SqL c.K H a xs ∧ RepL c G H xs ds) : SrcE c G0 H0 (Ite c.K a) (enD 0 ds) where
  go := fun G H i s g hi => by
    rw [enD_len] at hi
    obtain ⟨xs, h1, h2⟩ := h G H s g
    exact ⟨xs, xs[i]'(by rw [h2.length]; exact hi), h1, List.getElem?_eq_getElem _⟩
  yld := fun G H i d x H' s g hd y => by
    obtain ⟨T, v, rfl, hT, rfl, y⟩ := y
    rw [enD_get] at hd
    obtain ⟨e, he, rfl⟩ := Option.map_eq_some_iff.mp hd
    obtain ⟨xs, h1, h2⟩ := h G H s g
    obtain ⟨u, hu, r⟩ := h2.get he
    have := y xs h1
    rw [hu] at this
    cases this
    have gr : Gr H (L2.upd H T (.tup [.int (i : Nat), v])) := fun b o hb => by
      rw [L2.upd_ne (fun z => by rw [z, hT] at hb; cases hb)]
      exact hb
    have ex : Ext G H G (L2.upd H T (.tup [.int (i : Nat), v])) := ⟨gr, fun _ _ => rfl⟩
    refine ⟨gr, ?_⟩
    rw [Nat.zero_add]
    exact .tup (.inl (.inl (by simp [L2.upd]))) (.cons (.int _) (.cons (r.stp (ex.stp (io := fun _ => false) g)) .nil))
  stop := fun G H s g => by
    rw [enD_len]
    obtain ⟨xs, h1, h2⟩ := h G H s g
    exact ⟨xs, h1, by rw [h2.length]; exact Nat.le_refl _⟩
theorem jie_list {tg e : Expr} {f : M} (he : J X io W p cl e f) (hs : cl.st true = true := by rfl) : JIE X io W p tg e (iL f) := by
  refine ⟨piI (pi_list he.pe) fun σ H Rr q => ?_, fun z => iL_pu (he.pu z)⟩
  obtain ⟨G, ρ, re, q⟩ := q
  refine ⟨G, ρ, re, (good_bindT re.gi q).mono fun d ρ1 G1 H1 s1 re1 q1 v r => ?_⟩
  cases d with
  | list ds =>
    have st : ∀ G2 H2, Ext G1 H1 G2 H2 → GI G2 H2 → Rd1 (cfX X) G2 H2 v (.list ds) := fun G2 H2 s2 g2 => Res.step (p := true) (io := io) re1.gi r s2 hs
    obtain ⟨a, xs, rfl, h1, h2⟩ := (st G1 H1 Ext.refl re1.gi).sqL
    refine ⟨a, rfl, ⟨xs, h1⟩, q1 G1 H1 StepOf.refl re1 _ (srcE_list fun G2 H2 s2 g2 => ?_)⟩
    obtain ⟨b, ys, e, h3, h4⟩ := (st G2 H2 s2 g2).sqL
    cases e
    exact ⟨ys, h3, h4⟩
  | _ => exact q1.elim
theorem jie_enum {e : Expr} {f : M} {pn pos tpos : Pos} {elts : List Expr} {kk : Nat} (hm : X.mg "enumerate" = none) (he : J X io W p cl e f) (hg : Gl X "enumerate" := by rfl) (hs : cl.st true = true := by rfl) (hst : starEach [e] X.env = [(false, eval e X.env)] := by rfl) :
    JIE X io W p (.Tuple elts kk tpos) (.Call (.Name "enumerate" pn) [e] [] pos) (iEn f) := by
  refine ⟨piI (pi_enum hg hm (pa1 he hst) hst) fun σ H Rr q => ?_, fun z => pu_bind (he.pu z) fun b ρ z ρ' e => ?_⟩
  · obtain ⟨G, ρ, re, q⟩ := q
    refine ⟨G, ρ, re, (good_bindT re.gi q).mono fun d ρ1 G1 H1 s1 re1 q1 v r => ?_⟩
    cases d with
    | list ds =>
      have st : ∀ G2 H2, Ext G1 H1 G2 H2 → GI G2 H2 → Rd1 (cfX X) G2 H2 v (.list ds) := fun G2 H2 s2 g2 => Res.step (p := true) (io := io) re1.gi r s2 hs
      obtain ⟨a, xs, rfl, h1, h2⟩ := (st G1 H1 Ext.refl re1.gi).sqL
      refine ⟨a, xs, rfl, h1, q1 G1 H1 StepOf.refl re1 _ (srcE_enum fun G2 H2 s2 g2 => ?_)⟩
      obtain ⟨b, ys, e, h3, h4⟩ := (st G2 H2 s2 g2).sqL
      cases e
      exact ⟨ys, h3, h4⟩
    | _ => exact q1.elim
  · dsimp only at e
    split at e
    · cases e; rfl
    · cases e
end
end Nc
namespace Nc
open PySem PySem.Spec L2
open PyProof.Rows hiding St
def orb (m : Nat) : Nat → Nat → Nat → Nat
  | 0, _, acc => acc
  | k + 1, x, acc => orb m k ((x * 5 + 1) % (m + 1)) (acc ||| (1 <<< x))
theorem lcgI_one (m x : Nat) : ∀ k, lcgI m ((x * 5 + 1) % (m + 1)) k = lcgI m x (k + 1)
  | 0 => rfl
  | k + 1 => by
    have ih := lcgI_one m x k
    show (lcgI m ((x * 5 + 1) % (m + 1)) k * 5 + 1) % (m + 1) = (lcgI m x (k + 1) * 5 + 1) % (m + 1)
    rw [ih]
theorem orb_bit (m j : Nat) : ∀ (k x acc : Nat), (orb m k x acc).testBit j = true → acc.testBit j = true ∨ ∃ b, b < k ∧ lcgI m x b = j
  | 0, x, acc, h => .inl h
  | k + 1, x, acc, h => by
    rcases orb_bit m j k ((x * 5 + 1) % (m + 1)) (acc ||| (1 <<< x)) h with h1 | ⟨b, hb, e⟩
    · rw [Nat.testBit_or, Bool.or_eq_true] at h1
      rcases h1 with h1 | h1
      · exact .inl h1
      · right
        refine ⟨0, Nat.succ_pos _, ?_⟩
        have e : x = j := by
          rw [Nat.one_shiftLeft, Nat.testBit_two_pow] at h1
          simpa using h1
        exact e
    · right
      refine ⟨b + 1, Nat.succ_lt_succ hb, ?_⟩
      rw [← lcgI_one]
      exact e
def Msk (m : Nat) : Prop := m = 7 ∨ m = 31 ∨ m = 127 ∨ m = 511 ∨ m = 2047
theorem orb_all {m : Nat} (h : Msk m) : orb m (m + 1) 0 0 = 2 ^ (m + 1) - 1 := by
  rcases h with e | e | e | e | e <;> subst e <;> decide +kernel
theorem orb_back {m : Nat} (h : Msk m) : lcgI m 0 (m + 1) = 0 := by
  rcases h with e | e | e | e | e <;> subst e <;> decide +kernel
theorem from0 {m : Nat} (h : Msk m) {j : Nat} (hj : j ≤ m) : ∃ b, b ≤ m ∧ lcgI m 0 b = j := by
  have q : (orb m (m + 1) 0 0).testBit j = true := by
    rw [orb_all h, Nat.testBit_two_pow_sub_one]
    exact decide_eq_true (by omega)
  rcases orb_bit m j (m + 1) 0 0 q with z | ⟨b, hb, e⟩
  · rw [Nat.zero_testBit] at z
    cases z
  · exact ⟨b, by omega, e⟩
theorem lcgI_plus (m x a : Nat) : ∀ k, lcgI m (lcgI m x a) k = lcgI m x (a + k)
  | 0 => rfl
  | k + 1 => by
    show (lcgI m (lcgI m x a) k * 5 + 1) % (m + 1) = (lcgI m x (a + k) * 5 + 1) % (m + 1)
    rw [lcgI_plus m x a k]
theorem meets_any {m : Nat} (h : Msk m) {i j : Nat} (hi : i ≤ m) (hj : j ≤ m) : ∃ k, k ≤ m ∧ lcgI m i k = j := by
  obtain ⟨a, ha, ea⟩ := from0 h hi
  obtain ⟨b, hb, eb⟩ := from0 h hj
  by_cases c : a ≤ b
  · refine ⟨b - a, by omega, ?_⟩
    rw [← ea, lcgI_plus, show a + (b - a) = b by omega]
    exact eb
  · refine ⟨m + 1 - a + b, by omega, ?_⟩
    rw [← ea, lcgI_plus, show a + (m + 1 - a + b) = (m + 1) + b by omega, ← lcgI_plus, orb_back h]
    exact eb
theorem slot_met {m : Nat} (hm : Msk m) (h : Int) {j : Nat} (hj : j ≤ m) : ∃ k, k < 10 * SetTable.turns m ∧ (nth m (runAt m (SetTable.bits h % (m + 1)) (SetTable.bits h)) k).j = j := by
  obtain ⟨k, hk, e⟩ := meets_any hm (runI_le m (SetTable.bits h) 12) hj
  have e1 : runI m (SetTable.bits h) (12 + k) = j := by
    rw [runI_tail (bits_lt h)]
    exact e
  obtain ⟨q, hq, e2⟩ := run_nth m (SetTable.bits h) (12 + k)
  refine ⟨q, ?_, ?_⟩
  · unfold SetTable.turns
    omega
  · rw [e2]
    exact e1
theorem run_met {m : Nat} (hm : Msk m) (h : Int) {j : Nat} (hj : j ≤ m) : ∃ n, n ≤ m + 12 ∧ runI m (SetTable.bits h) n = j := by
  obtain ⟨k, hk, e⟩ := meets_any hm (runI_le m (SetTable.bits h) 12) hj
  refine ⟨12 + k, by omega, ?_⟩
  rw [runI_tail (bits_lt h)]
  exact e
theorem way_in {m : Nat} {h : Int} {k : Nat} : way m h k ≤ m := by
  have a : SetTable.bits h % (m + 1) ≤ m := by
    have q : SetTable.bits h % (m + 1) < m + 1 := Nat.mod_lt _ (Nat.succ_pos m)
    omega
  obtain ⟨r1, r2, _⟩ := runEnd_bd a
  have start : (runAt m (SetTable.bits h % (m + 1)) (SetTable.bits h)).j + (runAt m (SetTable.bits h % (m + 1)) (SetTable.bits h)).more ≤ m := by
    unfold runAt
    dsimp only
    omega
  have q := nth_in k _ start
  exact Nat.le_trans (Nat.le_add_right _ _) q
/-- the first free place on a hash's way, among what is laid -/
theorem free_met {m : Nat} (hm : Msk m) (owner : Array (Option Nat)) (h : Int) {j : Nat} (hj : j ≤ m) (hf : oAt owner j = none) :
    ∃ K, SetTable.layClean.free m owner (SetTable.turns m) (SetTable.bits h % (m + 1)) (SetTable.bits h) = some (way m h K) ∧ oAt owner (way m h K) = none ∧ ∀ k, k < K → oAt owner (way m h k) ≠ none := by
  obtain ⟨n, hn, e⟩ := run_met hm h hj
  have at_ : oAt owner (way m h (off m (SetTable.bits h % (m + 1)) (SetTable.bits h) n)) = none := by
    have z : way m h (off m (SetTable.bits h % (m + 1)) (SetTable.bits h) n) = j := by
      unfold way
      rw [nth_off, itL_run]
      exact e
    rw [z]
    exact hf
  obtain ⟨K, b1, b2, b3⟩ := st_least (p := fun k => oAt owner (way m h k) = none) _ at_
  refine ⟨K, free_spec m owner _ n _ _ K (by unfold SetTable.turns; omega) b1 ?_ ?_, b2, b3⟩
  · intro k hk
    have z := b3 k hk
    cases y : oAt owner (way m h k) with
    | none => exact (z y).elim
    | some _ => rfl
  · exact congrArg Option.isNone b2
end Nc
namespace Nc
open PySem PySem.Spec L2
open PyProof.Rows hiding St
theorem lay_one {m : Nat} (hm : Msk m) {done : List Int} {owner : Array (Option Nat)} (W : L2.Own m done owner) (hl : done.length ≤ m) (h : Int) :
    ∃ j, SetTable.layClean.free m owner (SetTable.turns m) (SetTable.bits h % (m + 1)) (SetTable.bits h) = some j ∧ L2.Own m (done ++ [h]) (owner.setIfInBounds j (some done.length)) := by
  obtain ⟨ps, lps, cov⟩ := W.ps
  obtain ⟨z, hz, nz⟩ := st_missing ps (m + 1) (by omega)
  have fr : oAt owner z = none := Classical.byContradiction fun q => nz (cov z (by omega) q)
  obtain ⟨K, f1, f2, f3⟩ := free_met hm owner h (show z ≤ m by omega) fr
  generalize hw : way m h K = w at f1 f2
  have wm : w ≤ m := hw ▸ way_in
  have new : oAt (owner.setIfInBounds w (some done.length)) w = some done.length := oAt_set_self _ (by rw [W.sz]; omega)
  have old : ∀ i, i ≠ w → oAt (owner.setIfInBounds w (some done.length)) i = oAt owner i := fun i hi => oAt_set_ne _ hi
  have stay : ∀ i, oAt owner i ≠ none → oAt (owner.setIfInBounds w (some done.length)) i ≠ none := fun i hi => by
    by_cases c : i = w
    · subst c
      exact (hi f2).elim
    · rw [old i c]
      exact hi
  refine ⟨w, f1, ?_, ?_, ?_, w :: ps, ?_, ?_⟩
  · rw [Array.size_setIfInBounds, W.sz]
  · intro j k hj e
    by_cases c : j = w
    · subst c
      rw [new] at e
      cases e
      exact ⟨h, K, by simp, hw, fun k' hk' => stay _ (f3 k' hk')⟩
    · rw [old j c] at e
      obtain ⟨g, L, g1, g2, g3⟩ := W.at_ j k hj e
      have kl : k < done.length := (List.getElem?_eq_some_iff.mp g1).1
      exact ⟨g, L, by rw [List.getElem?_append_left kl]; exact g1, g2, fun k' hk' => stay _ (g3 k' hk')⟩
  · intro k hk
    simp only [List.length_append, List.length_singleton] at hk
    by_cases c : k = done.length
    · subst c
      exact ⟨w, wm, new⟩
    · obtain ⟨j, hj, e⟩ := W.all k (by omega)
      have c2 : j ≠ w := fun q => by
        rw [q, f2] at e
        cases e
      exact ⟨j, hj, by rw [old j c2]; exact e⟩
  · simp [lps]
  · intro j hj e
    by_cases c : j = w
    · exact c ▸ List.mem_cons_self ..
    · rw [old j c] at e
      exact List.mem_cons_of_mem _ (cov j hj e)
theorem lay_all {m : Nat} (hm : Msk m) : ∀ (rest done : List Int) (owner : Array (Option Nat)), L2.Own m done owner → done.length + rest.length ≤ m →
    ∃ owner', rest.foldl (stepF m) (some (owner, done.length)) = some (owner', done.length + rest.length) ∧ L2.Own m (done ++ rest) owner'
  | [], done, owner, W, _ => ⟨owner, rfl, by rw [List.append_nil]; exact W⟩
  | h :: rest, done, owner, W, hl => by
    simp only [List.length_cons] at hl
    obtain ⟨j, e, W1⟩ := lay_one hm W (by omega) h
    obtain ⟨o2, e2, W2⟩ := lay_all hm rest (done ++ [h]) _ W1 (by simp only [List.length_append, List.length_singleton]; omega)
    refine ⟨o2, ?_, by simpa using W2⟩
    simp only [List.length_append, List.length_singleton] at e2
    rw [List.foldl_cons, stepF_some e, e2]
    simp only [List.length_cons]
    congr 2
    omega
theorem lay_clean {m : Nat} (hm : Msk m) {hs : Array Int} (hn : hs.size ≤ m) : ∃ owner, SetTable.layClean m hs = some owner ∧ L2.Own m hs.toList owner := by
  obtain ⟨o, e, W⟩ := lay_all hm hs.toList [] _ (L2.Own.init m) (by simpa using hn)
  refine ⟨o, ?_, by simpa using W⟩
  rw [layClean_eq]
  have e2 : hs.toList.foldl (stepF m) (some (Array.replicate (m + 1) none, 0)) = some (o, 0 + hs.toList.length) := e
  rw [e2]
  rfl
end Nc
set_option maxHeartbeats 2000000
namespace Nc
open PySem PySem.Spec L2
open PyProof.Rows hiding St
/-- each hash's slot is met on its way through taken slots -/
def Rch (m : Nat) (pl : List Nat) (gs : List Int) : Prop := ∀ (q : Nat) (g : Int) (b : Nat), gs[q]? = some g → pl[q]? = some b → ∃ n, way m g n = b ∧ ∀ n', n' < n → way m g n' ∈ pl
structure TabW (t : SetTable) (gs : List Int) : Prop where
  up : Ris t.place.toList
  clean : t.dummies = #[]
  size : t.place.size = gs.length
  msk : Msk t.mask
  le : ∀ b ∈ t.place.toList, b ≤ t.mask
  rch : Rch t.mask t.place.toList gs
theorem Msk.odd {m : Nat} (h : Msk m) : m % 2 = 1 := by
  unfold Msk at h
  omega
theorem TabW.gap {t : SetTable} {gs : List Int} (T : TabW t gs) (hl : gs.length ≤ t.mask) (g : Int) : ∃ n, n < 10 * SetTable.turns t.mask ∧ way t.mask g n ∉ t.place.toList ∧ ∀ n', n' < n → way t.mask g n' ∈ t.place.toList := by
  have e1 : t.place.toList.length = gs.length := by rw [Array.length_toList, T.size]
  obtain ⟨b, hb, nb⟩ := st_missing t.place.toList (t.mask + 1) (by omega)
  obtain ⟨n, hn, e⟩ := slot_met T.msk g (show b ≤ t.mask by omega)
  have e2 : way t.mask g n ∉ t.place.toList := by
    show (nth t.mask (runAt t.mask (SetTable.bits g % (t.mask + 1)) (SetTable.bits g)) n).j ∉ _
    rw [e]
    exact nb
  obtain ⟨k, k1, k2, k3⟩ := st_least (p := fun n => way t.mask g n ∉ t.place.toList) n e2
  exact ⟨k, by omega, k2, fun n' h => Classical.byContradiction fun z => k3 n' h z⟩
theorem TabW.ahead {t : SetTable} {gs : List Int} (T : TabW t gs) {g : Int} {n q b : Nat} (hn : way t.mask g n ∉ t.place.toList) (hq : gs[q]? = some g) (hb : t.place.toList[q]? = some b) : ∃ c, c < n ∧ way t.mask g c = b := by
  obtain ⟨c, e, z⟩ := T.rch q g b hq hb
  refine ⟨c, Classical.byContradiction fun y => ?_, e⟩
  by_cases x : n = c
  · subst x
    rw [e] at hn
    exact hn (List.mem_of_getElem? hb)
  · exact hn (z n (by omega))
/-- one hash put at the first gap of its way -/
theorem TabW.add {t : SetTable} {gs : List Int} (T : TabW t gs) {g : Int} {n : Nat} (hn : way t.mask g n ∉ t.place.toList) (hb : ∀ n', n' < n → way t.mask g n' ∈ t.place.toList) :
    ∃ q t', t.put (way t.mask g n) = (t', q) ∧ q = SetTable.below t.place (way t.mask g n) ∧ q ≤ gs.length ∧ TabW t' (gs.take q ++ g :: gs.drop q) ∧ t'.mask = t.mask ∧ t'.led = t.led ∧ t'.plain = t.plain ∧ t'.fill = gs.length + 1 := by
  have hw : way t.mask g n ≤ t.mask := way_in
  obtain ⟨b, eb⟩ : ∃ b, way t.mask g n = b := ⟨_, rfl⟩
  rw [eb] at hn hw ⊢
  have e1 : t.place.toList.length = gs.length := by rw [Array.length_toList, T.size]
  have q1 : SetTable.below t.place b ≤ gs.length := by
    have z := (below_cut T.up b).1
    rw [T.size] at z
    exact z
  have nb : t.place[SetTable.below t.place b]? ≠ some b := fun e => hn (List.mem_of_getElem? (Array.getElem?_toList ▸ e))
  have pl := put_place t b
  generalize hq : SetTable.below t.place b = q at q1 pl
  have q2 : q ≤ t.place.toList.length := by omega
  have grow : ∀ {x : Nat}, x ∈ t.place.toList → x ∈ (t.put b).1.place.toList := fun {x} hx => by
    rw [pl]
    exact mem_ins.2 (.inr hx)
  have sz : (t.put b).1.place.size = gs.length + 1 := by
    rw [← Array.length_toList, pl, len_ins _ q2, e1]
  have hr : Rch t.mask (t.put b).1.place.toList (gs.take q ++ g :: gs.drop q) := fun i g' b' h1 h2 => by
    rw [tins_get gs q1] at h1
    rw [pl, tins_get _ q2] at h2
    rcases Nat.lt_trichotomy i q with c | c | c
    · rw [if_pos c] at h1 h2
      obtain ⟨k, k1, k2⟩ := T.rch i g' b' h1 h2
      exact ⟨k, k1, fun k' z => grow (k2 k' z)⟩
    · rw [if_neg (by omega), if_pos c] at h1 h2
      cases h1
      cases h2
      exact ⟨n, eb, fun k' z => grow (hb k' z)⟩
    · rw [if_neg (by omega), if_neg (by omega)] at h1 h2
      obtain ⟨k, k1, k2⟩ := T.rch (i - 1) g' b' h1 h2
      exact ⟨k, k1, fun k' z => grow (k2 k' z)⟩
  refine ⟨q, (t.put b).1, Prod.ext rfl hq, rfl, q1, ⟨ris_insert T.up nb, put_dm T.clean b, ?_, T.msk, fun x hx => ?_, hr⟩, rfl, rfl, rfl, ?_⟩
  · rw [len_ins _ q1]
    exact sz
  · rw [pl] at hx
    rcases mem_ins.1 hx with z | z
    · rw [z]
      exact hw
    · exact T.le x z
  · show (t.put b).1.place.size + (t.put b).1.dummies.size = _
    rw [sz, put_dm T.clean b]
    rfl
end Nc
set_option maxHeartbeats 2000000
namespace Nc
open PySem PySem.Spec L2
open PyProof.Rows hiding St
theorem relaid_w (t : SetTable) {gs : Array Int} {wanted M : Nat} (hw : SetTable.sizeAbove wanted - 1 = M) (hM : Msk M) (hn : gs.size ≤ M) :
    ∃ t' order, t.relaid gs wanted = some (t', order) ∧ order.toList.Perm (List.range gs.size) ∧ TabW t' (order.toList.map fun i => gs.getD i 0) ∧ t'.mask = M ∧ t'.led = t.led ∧ t'.plain = t.plain := by
  obtain ⟨o, e, W⟩ := lay_clean hM hn
  have up := ris_live (fun j => o.getD j none) (List.range (M + 1)) (show Ris _ from List.pairwise_lt_range)
  have u1 : Ris ((liveOf M o).map (·.1)) := up.1
  have u2 : ∀ x ∈ (liveOf M o).map (·.1), x ∈ List.range (M + 1) := up.2
  have cnt : (liveOf M o).length = gs.size := by
    obtain ⟨ps, p1, p2⟩ := W.ps
    have a : ((liveOf M o).map (·.1)).length ≤ ps.length := length_sub (u1.imp fun h => Nat.ne_of_lt h) fun x hx => by
      obtain ⟨⟨y, k⟩, hq, rfl⟩ := List.mem_map.mp hx
      obtain ⟨b1, b2⟩ := (mem_live W.sz).1 hq
      exact p2 y b1 (by rw [b2]; simp)
    have b : (List.range gs.size).length ≤ ((liveOf M o).map (·.2)).length := length_sub List.nodup_range fun k hk => by
      obtain ⟨j, b1, b2⟩ := W.all k (by simpa using hk)
      exact List.mem_map.mpr ⟨(j, k), (mem_live W.sz).2 ⟨b1, b2⟩, rfl⟩
    simp only [List.length_map, List.length_range] at a b
    have c : gs.toList.length = gs.size := rfl
    omega
  refine ⟨tabOf t M o, ((liveOf M o).map (·.2)).toArray, by rw [relaid_eq, hw, e]; rfl, perm_range _ _ (by simpa using cnt) fun k hk => ?_, ⟨u1, rfl, ?_, hM, fun x hx => ?_, ?_⟩, rfl, rfl, rfl⟩
  · obtain ⟨j, b1, b2⟩ := W.all k (by simpa using hk)
    exact List.mem_map.mpr ⟨(j, k), (mem_live W.sz).2 ⟨b1, b2⟩, rfl⟩
  · show ((liveOf M o).map (·.1)).toArray.size = _
    simp
  · have z := List.mem_range.mp (u2 x hx)
    show x ≤ M
    omega
  · intro q g b h1 h2
    have h2' : ((liveOf M o).map (·.1))[q]? = some b := h2
    have h1' : (((liveOf M o).map (·.2)).map fun i => gs.getD i 0)[q]? = some g := h1
    simp only [List.getElem?_map] at h1' h2'
    cases hq : (liveOf M o)[q]? with
    | none =>
      rw [hq] at h2'
      cases h2'
    | some y =>
      obtain ⟨y1, y2⟩ := y
      rw [hq] at h1' h2'
      have c1 : y1 = b := Option.some.inj h2'
      have c2 : gs.getD y2 0 = g := Option.some.inj h1'
      subst c1
      obtain ⟨b1, b2⟩ := (mem_live W.sz).1 (List.mem_of_getElem? hq)
      obtain ⟨g0, K, a1, a2, a3⟩ := W.at_ y1 y2 b1 b2
      have c3 : g0 = g := by
        rw [← c2, Array.getD_eq_getD_getElem?, ← Array.getElem?_toList, a1]
        rfl
      subst c3
      refine ⟨K, a2, fun n' h => ?_⟩
      show way M g0 n' ∈ (liveOf M o).map (·.1)
      cases z : oAt o (way M g0 n') with
      | none => exact (a3 n' h z).elim
      | some k2 => exact List.mem_map.mpr ⟨(way M g0 n', k2), (mem_live W.sz).2 ⟨way_in, z⟩, rfl⟩
end Nc
set_option maxHeartbeats 2000000
namespace Nc
open PySem PySem.Spec L2
open PyProof.Rows hiding St
/-- the c-th look of a search -/
def stp (m : Nat) (g : Int) (c : Nat) : SetTable.Probe := nth m (runAt m (SetTable.bits g % (m + 1)) (SetTable.bits g)) c
theorem stp_j (m : Nat) (g : Int) (c : Nat) : (stp m g c).j = way m g c := rfl
theorem stp_on (m : Nat) (g : Int) (c q : Nat) : nth m (stp m g c) q = stp m g (c + q) := (nth_add m c _ q).symm
theorem nth_clear (m : Nat) : ∀ (n : Nat) (p : SetTable.Probe), p.dummy = none → (nth m p n).dummy = none
  | 0, p, h => h
  | n + 1, p, h => nth_clear m n (adv m p) (by unfold adv; split <;> exact h)
theorem stp_clear (m : Nat) (g : Int) (c : Nat) : (stp m g c).dummy = none := nth_clear m c _ rfl
def hashIn (es : Array (Int × Value)) : Nat → Int := fun i => (es[i]?.map (·.1)).getD 0
abbrev Row := Addr × List Int
structure SetW (P : Program) (w : World) (h : Heap) (a : Addr) (L : List Row) (es : Array (Int × Value)) (ep : Nat) (t : SetTable) : Prop where
  at_ : ∃ o, h.get? a = some o ∧ o.ExactSet ∧ o.data = .set es ep t
  tab : TabW t (L.map fun e => thash P w e.2)
  list : es.toList = rowsOf P w L
  uniq : (L.map fun e => e.2).Nodup
  keys : ∀ e ∈ L, IsT P w h e.2 e.1
  room : 5 * L.length < 3 * t.mask
  cap : L.length ≤ 1000
  flat : t.plain = true
  seen : w.params.followText "set-order" = true ∨ t.led = true
section
variable {P : Program} {w : World} {A : Around} {E : Value → Shared → Prop} {s : Shared} {h : Heap} {a : Addr} {L : List Row} {es : Array (Int × Value)} {ep : Nat} {t : SetTable}
theorem rows_size {es : Array (Int × Value)} {L : List Row} (e : es.toList = rowsOf P w L) : es.size = L.length := by
  rw [← Array.length_toList, e]
  exact List.length_map ..
theorem SetW.len (R : SetW P w h a L es ep t) : es.size = L.length := rows_size R.list
theorem SetW.spots (R : SetW P w h a L es ep t) : t.place.size = L.length := by
  rw [R.tab.size]
  exact List.length_map ..
theorem fits_of {t : SetTable} {n : Nat} (h1 : t.place.size = n) (h2 : t.dummies = #[]) (h3 : n ≤ t.mask) : t.fits n = true := by
  unfold SetTable.fits SetTable.fill
  rw [h2, h1]
  simp [h3]
theorem SetW.fits (R : SetW P w h a L es ep t) : t.fits es.size = true := by
  have e := R.room
  rw [R.len]
  exact fits_of R.spots R.tab.clean (by omega)
theorem SetW.stays (R : SetW P w h a L es ep t) : ¬ t.gaveWay = true := by
  unfold SetTable.gaveWay
  rw [Msk.odd R.tab.msk]
  decide
theorem SetW.row (R : SetW P w h a L es ep t) {i : Nat} {e : Row} (q : L[i]? = some e) : es[i]? = some (thash P w e.2, Value.ref e.1) := by
  rw [← Array.getElem?_toList, R.list]
  show (L.map _)[i]? = _
  rw [List.getElem?_map, q]
  rfl
theorem SetW.hash (R : SetW P w h a L es ep t) {i : Nat} {e : Row} (q : L[i]? = some e) : hashIn es i = thash P w e.2 := by
  unfold hashIn
  rw [R.row q]
  rfl
/-- from the c-th look on -/
theorem look_on (R : SetW P w s.heap a L es ep t) {x : Addr} {k : List Int} (isx : IsT P w s.heap k x) (deep : A.units < cLine) {g : Int} (eg : thash P w k = g) {K : Nat} (kf : K < 10 * SetTable.turns t.mask)
    (gap : way t.mask g K ∉ t.place.toList) (full : ∀ c, c < K → way t.mask g c ∈ t.place.toList) {Q : SetFound → Shared → Prop}
    (yes : k ∈ L.map (fun e => e.2) → Q (.there none) s) (no : k ∉ L.map (fun e => e.2) → Q (.free (way t.mask g K) false) s) :
    ∀ (f c : Nat) (from? : Option SetTable.Probe), from?.getD (t.probeStart g) = stp t.mask g c → c ≤ K → K < f + c →
      (∀ (i : Nat) (e : Row), L[i]? = some e → e.2 = k → ∃ d, t.place.toList[i]? = some (way t.mask g d) ∧ c ≤ d ∧ d < K) → wpAny (model P w) A (setSearchFrom a (.ref x) g true f from?) Q E s
  | 0, c, _, _, le, lt, _ => absurd lt (by omega)
  | f + 1, c, from?, st, le, lt, hold => by
    obtain ⟨o, ho, _, od⟩ := R.at_
    rw [setSearchFrom_succ]
    refine wpAny_bind (wpAny_setState_of ho od R.fits ?_)
    dsimp only
    refine wp_if_neg R.stays ?_
    try refine wpAny_bind (wpAny_pure ?_)
    have on : ∀ q, (nth t.mask (stp t.mask g c) q).j = way t.mask g (c + q) := fun q => congrArg SetTable.Probe.j (stp_on t.mask g c q)
    have kk : c + (K - c) = K := by omega
    rcases go_spec t R.tab.up R.tab.clean (hashIn es) g (10 * SetTable.turns t.mask) (K - c) (stp t.mask g c) (stp_clear ..) (by omega) (fun q hq => by rw [on]; exact full _ (by omega)) (by rw [on, kk]; exact gap) with ⟨q, i, ql, qi, qh, first, met⟩ | ⟨nowhere, met⟩
    · rw [on] at qi
      have found : t.probe (fun i => (es[i]?.map (·.1)).getD 0) g (from?.getD (t.probeStart g)) = some (.candidate (way t.mask g (c + q)) i (stp t.mask g (c + (q + 1)))) := by
        rw [st, ← stp_on, ← on]
        exact met
      rw [found]
      dsimp only
      have il : i < L.length := by
        have z := (List.getElem?_eq_some_iff.mp qi).1
        rw [Array.length_toList, R.spots] at z
        exact z
      obtain ⟨e, ee⟩ : ∃ e, L[i]? = some e := ⟨_, List.getElem?_eq_getElem il⟩
      have em : e ∈ L := List.mem_of_getElem? ee
      have go : wpAny (model P w) A (searchRest a (.ref x) g true f es t (way t.mask g (c + q)) i (stp t.mask g (c + (q + 1)))) Q E s := by
        unfold searchRest
        rw [R.row ee]
        dsimp only
        refine wpAny_bind (wpAny_holding (wpAny_eqBool_tuple deep (R.keys e em) isx ?_))
        refine wpAny_bind (wpAny_setState_of ho od R.fits ?_)
        dsimp only
        by_cases same : e.2 = k
        · exact wp_if_pos (by simp [same]) (wpAny_pure (yes (List.mem_map.mpr ⟨e, em, same⟩)))
        · refine wp_if_neg (by simp [same]) ?_
          try refine wpAny_bind (wpAny_pure ?_)
          rw [sameMem]
          dsimp only
          have lv := slot_live R.tab.up qi
          simp only [if_true, lv, R.row ee]
          refine wpAny_bind (wpAny_isSame_ref_self (wpAny_bind (wpAny_pure ?_)))
          simp only [if_true]
          refine wp_if_neg (by simp [same]) ?_
          refine look_on R isx deep eg kf gap full yes no f (c + (q + 1)) _ rfl (by omega) (by omega) fun i2 e2 h2 k2 => ?_
          obtain ⟨d, d1, d2, d3⟩ := hold i2 e2 h2 k2
          refine ⟨d, d1, ?_, d3⟩
          by_cases z : c + q < d
          · omega
          · exfalso
            by_cases y : d = c + q
            · rw [y] at d1
              have l2 := slot_live R.tab.up d1
              rw [lv] at l2
              injection l2 with l2
              rw [← l2, ee] at h2
              exact same ((congrArg Prod.snd (Option.some.inj h2)).trans k2)
            · refine first (d - c) i2 (by omega) (by rw [on, show c + (d - c) = d by omega]; exact d1) ?_
              rw [R.hash h2, k2, eg]
      by_cases led : t.led = true
      · refine wp_if_neg (by simp [led]) ?_
        try refine wpAny_bind (wpAny_pure ?_)
        exact go
      · refine wp_if_pos (by simp [led]) (wpAny_bind (seen_tup isx (fun y hy => ?_) ?_))
        · obtain ⟨r, hr, er⟩ := List.mem_map.mp hy
          have rm : r ∈ es.toList := by
            have z : r ∈ es ∧ r.1 = g := by simpa using hr
            simpa using z.1
          rw [R.list] at rm
          obtain ⟨v, hv, ev⟩ := List.mem_map.mp rm
          exact ⟨v.2, v.1, by rw [← er, ← ev], R.keys v hv⟩
        · refine wp_if_neg (by decide) ?_
          try refine wpAny_bind (wpAny_pure ?_)
          exact go
    · have found : t.probe (fun i => (es[i]?.map (·.1)).getD 0) g (from?.getD (t.probeStart g)) = some (.empty (way t.mask g K) none) := by
        rw [st, show way t.mask g K = (nth t.mask (stp t.mask g c) (K - c)).j by rw [on, kk]]
        exact met
      rw [found]
      dsimp only
      refine wpAny_pure (no fun km => ?_)
      obtain ⟨e, em, ek⟩ := List.mem_map.mp km
      obtain ⟨i, il, ei⟩ := List.getElem_of_mem em
      have ee : L[i]? = some e := by rw [List.getElem?_eq_getElem il, ei]
      obtain ⟨d, d1, d2, d3⟩ := hold i e ee ek
      refine nowhere (d - c) i (by omega) (by rw [on, show c + (d - c) = d by omega]; exact d1) ?_
      rw [R.hash ee, ek, eg]
/-- what a search for adding finds -/
theorem look_up (R : SetW P w s.heap a L es ep t) {x : Addr} {k : List Int} (isx : IsT P w s.heap k x) (deep : A.units < cLine) {Q : SetFound → Shared → Prop} (yes : k ∈ L.map (fun e => e.2) → Q (.there none) s)
    (no : ∀ K, k ∉ L.map (fun e => e.2) → way t.mask (thash P w k) K ∉ t.place.toList → (∀ c, c < K → way t.mask (thash P w k) c ∈ t.place.toList) → Q (.free (way t.mask (thash P w k) K) false) s) :
    wpAny (model P w) A (setSearch a (.ref x) (thash P w k) true) Q E s := by
  have rm := R.room
  obtain ⟨K, kf, gap, full⟩ := R.tab.gap (by rw [List.length_map]; omega) (thash P w k)
  have small : 10 * SetTable.turns t.mask ≤ 30000 := by
    have z := R.tab.msk
    unfold Msk at z
    unfold SetTable.turns
    omega
  unfold setSearch
  refine look_on R isx deep rfl kf gap full yes (fun z => no K z gap full) 100000 0 none rfl (Nat.zero_le _) (by omega) fun i e hi hk => ?_
  have e1 : (L.map fun e => thash P w e.2)[i]? = some (thash P w k) := by
    rw [List.getElem?_map, hi, ← hk]
    rfl
  have il : i < t.place.toList.length := by
    rw [Array.length_toList, R.spots]
    exact (List.getElem?_eq_some_iff.mp hi).1
  have e2 := List.getElem?_eq_getElem il
  obtain ⟨d, dl, de⟩ := R.tab.ahead gap e1 e2
  exact ⟨d, by rw [e2, de], Nat.zero_le _, dl⟩
end
end Nc
set_option maxHeartbeats 4000000
namespace Nc
open PySem PySem.Spec L2
open PyProof.Rows hiding St
theorem above5 : SetTable.sizeAbove (SetTable.grown 5) = 32 := by decide +kernel
theorem above19 : SetTable.sizeAbove (SetTable.grown 19) = 128 := by decide +kernel
theorem above77 : SetTable.sizeAbove (SetTable.grown 77) = 512 := by decide +kernel
theorem above307 : SetTable.sizeAbove (SetTable.grown 307) = 2048 := by decide +kernel
/-- where a table is full, and what follows it -/
theorem next_mask {m n : Nat} (hm : Msk m) (lo : 5 * n < 3 * m) (hi : 5 * (n + 1) ≥ 3 * m) (cap : n ≤ 1000) :
    ∃ M, Msk M ∧ SetTable.sizeAbove (SetTable.grown (n + 1)) - 1 = M ∧ SetTable.sizeAbove (SetTable.grown (n + 1)) ≤ 2048 ∧ 5 * (n + 1) < 3 * M := by
  rcases hm with e | e | e | e | e
  · have z : n = 4 := by omega
    subst z
    exact ⟨31, .inr (.inl rfl), by rw [above5], by rw [above5]; decide, by decide⟩
  · have z : n = 18 := by omega
    subst z
    exact ⟨127, .inr (.inr (.inl rfl)), by rw [above19], by rw [above19]; decide, by decide⟩
  · have z : n = 76 := by omega
    subst z
    exact ⟨511, .inr (.inr (.inr (.inl rfl))), by rw [above77], by rw [above77]; decide, by decide⟩
  · have z : n = 306 := by omega
    subst z
    exact ⟨2047, .inr (.inr (.inr (.inr rfl))), by rw [above307], by rw [above307]; decide, by decide⟩
  · omega
section
variable {P : Program} {w : World} {A : Around} {E : Value → Shared → Prop} {s : Shared} {a : Addr} {L : List Row} {es : Array (Int × Value)} {ep : Nat} {t : SetTable}
/-- the table is laid anew -/
theorem grow_at {o : Obj} (ho : s.heap.get? a = some o) (ex : o.ExactSet) (od : o.data = .set es ep t) (rows : es.toList = rowsOf P w L) (spots : t.place.size = L.length) (clean : t.dummies = #[]) (inm : L.length ≤ t.mask)
    (uniq : (L.map fun e => e.2).Nodup) (keys : ∀ e ∈ L, IsT P w s.heap e.2 e.1) (flat : t.plain = true) (seen : w.params.followText "set-order" = true ∨ t.led = true) (cap : L.length ≤ 1000) {n M : Nat}
    (e1 : SetTable.sizeAbove n - 1 = M) (hM : Msk M) (e2 : SetTable.sizeAbove n ≤ 2048) (room : 5 * L.length < 3 * M) {Q : Unit → Shared → Prop}
    (k : ∀ h' L' es' ep' t', Heap.SameBut a s.heap h' → SetW P w h' a L' es' ep' t' → L'.Perm L → Q () { s with heap := h' }) : wpAny (model P w) A (setRelay a n) Q E s := by
  have el := rows_size rows
  have fit : t.fits es.size = true := by
    rw [el]
    exact fits_of spots clean inm
  obtain ⟨t2, order, re, perm, T, m2, l2, p2⟩ := relaid_w t (gs := es.map (·.1)) (wanted := n) e1 hM (by rw [Array.size_map, el]; omega)
  rw [Array.size_map, el] at perm
  obtain ⟨L2, q1, q2, q3⟩ := order_rows L es order rows perm
  rw [← q3] at T
  have sz : (order.filterMap (es[·]?)).size = es.size := by rw [rows_size q1, q2.length_eq, el]
  rw [setRelay_eq]
  refine wpAny_bind (wpAny_setState_of ho od fit ?_)
  dsimp only
  refine wp_if_neg (by rw [sizeLine_eq]; omega) ?_
  try refine wpAny_bind (wpAny_pure ?_)
  rw [re]
  dsimp only
  refine wpAny_bind (wp_if_neg (by rw [sz]; simp) ?_)
  try refine wpAny_bind (wpAny_pure ?_)
  refine wpAny_pure ?_
  dsimp only
  refine wpAny_storeSet_of ho od ?_ (by rw [sz, el, sizeLine_eq]; omega)
  have sb : Heap.SameBut a s.heap (s.heap.update a (Obj.putSet (order.filterMap (es[·]?)) t2)) := Heap.SameBut.update ..
  refine k _ L2 _ (ep + 1) t2 sb ⟨⟨_, store_at ho od, ⟨ex.1, ex.2.1, ex.2.2⟩, rfl⟩, T, q1, (q2.map _).nodup_iff.mpr uniq, fun e he => isT_same (keys e (q2.mem_iff.mp he)) ho od sb, ?_, ?_, ?_, ?_⟩ q2
  · rw [q2.length_eq, m2]
    exact room
  · rw [q2.length_eq]
    exact cap
  · rw [p2]
    exact flat
  · rw [l2]
    exact seen
/-- one key added -/
theorem add_in (R : SetW P w s.heap a L es ep t) {x : Addr} {k : List Int} (isx : IsT P w s.heap k x) (deep : A.units < cLine) (few : L.length < 1000) {Q : Bool → Shared → Prop}
    (kk : ∀ b h' L' es' ep' t', Heap.SameBut a s.heap h' → SetW P w h' a L' es' ep' t' → (k ∈ L.map (fun e => e.2) → L' = L) → (k ∉ L.map (fun e => e.2) → L'.Perm ((x, k) :: L)) → Q b { s with heap := h' }) :
    wpAny (model P w) A (setAddHashed a (.ref x) (thash P w k)) Q E s := by
  obtain ⟨o, ho, ex, od⟩ := R.at_
  have rm := R.room
  unfold setAddHashed
  refine wpAny_holding ?_
  rw [show (100000 : Nat) = 99999 + 1 from rfl, setAddHashedIn_succ]
  refine wpAny_bind (wpAny_setState_of ho od R.fits ?_)
  dsimp only
  refine wp_if_neg (by simp [byScan, Value.scannable]) ?_
  try refine wpAny_bind (wpAny_pure ?_)
  refine wpAny_bind (look_up R isx deep (fun km => ?_) fun K km gap full => ?_)
  · dsimp only
    exact wpAny_pure (kk false s.heap L es ep t (Heap.SameBut.refl a s.heap) R (fun _ => rfl) fun z => absurd km z)
  dsimp only
  refine wpAny_bind (wpAny_setState_of ho od R.fits ?_)
  dsimp only
  obtain ⟨q, t1, put, eq, ql, T1, m1, l1, p1, f1⟩ := R.tab.add gap full
  rw [put]
  dsimp only
  have fl1 : t1.plain = true := p1.trans R.flat
  first
    | (refine wpAny_bind ?_; refine wp_if_pos fl1 ?_; refine hashBy_tup isx ?_)
    | refine wp_if_pos fl1 (wpAny_bind (hashBy_tup isx ?_))
  simp only [if_true]
  rw [List.length_map] at ql f1
  have pm := put_perm L q (x, k)
  have ln : (L.take q ++ (x, k) :: L.drop q).length = L.length + 1 := pm.length_eq
  have rows1 : (SetTable.insertAt es q (thash P w k, Value.ref x)).toList = rowsOf P w (L.take q ++ (x, k) :: L.drop q) := by rw [SetTable.toList_insertAt, rows_put, R.list]
  have T2 : TabW t1 ((L.take q ++ (x, k) :: L.drop q).map fun e => thash P w e.2) := by
    rw [List.map_append, List.map_cons, List.map_take, List.map_drop]
    exact T1
  have u1 : ((L.take q ++ (x, k) :: L.drop q).map fun e => e.2).Nodup := (pm.map _).nodup_iff.mpr (List.nodup_cons.mpr ⟨km, R.uniq⟩)
  have es1l := rows_size rows1
  rw [ln] at es1l
  generalize SetTable.insertAt es q (thash P w k, Value.ref x) = es1 at rows1 es1l ⊢
  generalize L.take q ++ (x, k) :: L.drop q = L1 at pm ln rows1 T2 u1
  refine wpAny_bind (wpAny_storeSet_of ho od ?_ (by rw [es1l, sizeLine_eq]; omega))
  have sb : Heap.SameBut a s.heap (s.heap.update a (Obj.putSet es1 t1)) := Heap.SameBut.update ..
  have ho1 := store_at (es' := es1) (t' := t1) ho od
  generalize s.heap.update a (Obj.putSet es1 t1) = h1 at sb ho1 ⊢
  have keys1 : ∀ e ∈ L1, IsT P w h1 e.2 e.1 := fun e he => by
    rcases List.mem_cons.mp (pm.mem_iff.mp he) with z | z
    · subst z
      exact isT_same isx ho od sb
    · exact isT_same (R.keys e z) ho od sb
  have seen1 : w.params.followText "set-order" = true ∨ t1.led = true := l1 ▸ R.seen
  have spots1 : t1.place.size = L1.length := T2.size.trans (List.length_map ..)
  have capL : L1.length ≤ 1000 := by omega
  by_cases full1 : t1.tooFull = true
  · have hi : 5 * (L.length + 1) ≥ 3 * t.mask := by
      have z := full1
      unfold SetTable.tooFull at z
      rw [decide_eq_true_eq, f1, m1] at z
      omega
    obtain ⟨M, g1, g2, g3, g4⟩ := next_mask R.tab.msk rm hi R.cap
    have inm : L1.length ≤ t1.mask := by
      rw [ln, m1]
      have z := R.tab.msk
      unfold Msk at z
      omega
    first
      | (refine wpAny_bind ?_; refine wp_if_pos (by simp [full1]) ?_)
      | (refine wp_if_pos (by simp [full1]) ?_; refine wpAny_bind ?_)
    rw [R.len]
    refine grow_at (s := { s with heap := h1 }) ho1 ⟨ex.1, ex.2.1, ex.2.2⟩ rfl rows1 spots1 T2.clean inm u1 keys1 fl1 seen1 capL g2 g1 g3 (by rw [ln]; exact g4) fun h2 L2 es2 ep2 t2 sb2 R2 pm2 => ?_
    exact wpAny_pure (kk true h2 L2 es2 ep2 t2 (sb.trans sb2) R2 (fun z => absurd z km) fun _ => pm2.trans pm)
  · have lo : 5 * (L.length + 1) < 3 * t1.mask := by
      have z := full1
      unfold SetTable.tooFull at z
      rw [decide_eq_true_eq, f1] at z
      omega
    first
      | refine wp_if_neg (by simp [full1]) ?_
      | (refine wpAny_bind ?_; refine wp_if_neg (by simp [full1]) ?_; refine wpAny_pure ?_)
    exact wpAny_pure (kk true h1 L1 es1 (ep + 1) t1 sb ⟨⟨_, ho1, ⟨ex.1, ex.2.1, ex.2.2⟩, rfl⟩, T2, rows1, u1, keys1, by rw [ln]; exact lo, capL, fl1, seen1⟩ (fun z => absurd z km) fun _ => pm)
end
end Nc
set_option maxHeartbeats 4000000
namespace Nc
open PySem PySem.Spec L2
open PyProof.Rows hiding St
section
variable {P : Program} {w : World} {A : Around} {E : Value → Shared → Prop} {s : Shared}
theorem SetW.kept {h h' : Heap} {a : Addr} {L : List Row} {es : Array (Int × Value)} {ep : Nat} {t : SetTable} (R : SetW P w h a L es ep t) (k : ∀ o, h.get? a = some o → h'.get? a = some o) (ks : ∀ e ∈ L, IsT P w h' e.2 e.1) : SetW P w h' a L es ep t :=
  ⟨R.at_.imp fun o q => ⟨k o q.1, q.2⟩, R.tab, R.list, R.uniq, ks, R.room, R.cap, R.flat, R.seen⟩
abbrev newSet (w : World) : Obj := { cls := .type "set", dict := none, data := .set #[] 0 (.fresh 0 0 (!w.params.followText "set-order")) }
theorem setW_new {h : Heap} {a : Addr} (ho : h.get? a = some (newSet w)) : SetW P w h a [] #[] 0 (.fresh 0 0 (!w.params.followText "set-order")) := by
  refine ⟨⟨_, ho, ⟨rfl, rfl, rfl⟩, rfl⟩, ⟨List.Pairwise.nil, rfl, rfl, .inl rfl, ?_, ?_⟩, rfl, List.nodup_nil, ?_, ?_, Nat.zero_le _, rfl, ?_⟩
  · intro b hb
    cases hb
  · intro q g b hq
    cases hq
  · intro e he
    cases he
  · show 5 * 0 < 3 * 7
    decide
  · show _ ∨ (!w.params.followText "set-order") = true
    cases w.params.followText "set-order" <;> simp
/-- the items of an iterable, one by one -/
theorem fill_loop {I : Addr} {fp wr : List Addr} {Gn : Array GenState → Array GenState → Prop} {n : Nat} {Pv : Nat → Value → Prop} {St : Nat → Shared → Prop} {R : Result → Shared → Prop}
    (W : WalksS P w A.in1 I fp wr Gn n Pv St) (S : Addr) (out : S ∉ fp) (ks : List Row) (hn : n = ks.length) (few : ∀ L : List Row, (L.map fun e => e.2).Nodup → (∀ e ∈ L, e ∈ ks) → L.length < 1000) (val : ∀ i v, Pv i v → ∃ e, ks[i]? = some e ∧ v = .ref e.1)
    (h0 : Heap) (old : ∀ e ∈ ks, IsT P w h0 e.2 e.1) (newS : h0.get? S = none) (newW : ∀ b ∈ wr, h0.get? b = none) (deep : A.in1.units < cLine) :
    ∀ (r i : Nat) (s : Shared), n - i = r → i ≤ n → St i s → (∀ b o, h0.get? b = some o → s.heap.get? b = some o) → (∃ L es ep t, SetW P w s.heap S L es ep t ∧ Got ks i L) →
      (∀ s' L es ep t, Moved (S :: wr) Gn s s' → SetW P w s'.heap S L es ep t → Got ks n L → (∀ b o, h0.get? b = some o → s'.heap.get? b = some o) → R (.ok (.ret .none)) s') → codeAny (model P w) A (.builtin "set.update.loop" ⟨[.ref S, .ref I], []⟩) R s := by
  have outW : S ∉ wr := fun z => out (W.sub _ z)
  have wider : ∀ b ∈ wr, b ∈ S :: wr := fun b hb => List.mem_cons_of_mem _ hb
  have go : ∀ {s s' : Shared}, Moved wr Gn s s' → (∀ b o, h0.get? b = some o → s.heap.get? b = some o) → ∀ b o, h0.get? b = some o → s'.heap.get? b = some o := fun m kp b o e =>
    m.heap b o (fun hb => by rw [newW b hb] at e; cases e) (kp b o e)
  intro r
  induction r with
  | zero =>
    rintro i s er ir st kp ⟨L, es, ep, t, RS, gt⟩ fin
    obtain rfl : i = n := by omega
    refine codeAny_builtin F.entry_set_update_loop ?_
    rw [Around.under_plainId F.plain_set_update_loop _]
    show wpAny _ A.in1 (pyNext (.ref I) >>= _) _ _ s
    refine wpAny_bind (W.done s _ _ st fun s' m => ?_)
    show wpAny _ A.in1 (ret Value.none) _ _ s'
    have kp2 := go m kp
    exact wpAny_pure (fin s' L es ep t (m.mono wider) (RS.kept (fun o e => m.heap S o outW e) fun e he => isT_keep (old e (List.mem_of_mem_take (gt.sub e he))) kp2) gt kp2)
  | succ r ih =>
    rintro i s er ir st kp ⟨L, es, ep, t, RS, gt⟩ fin
    have lt : i < n := by omega
    refine codeAny_builtin F.entry_set_update_loop ?_
    rw [Around.under_plainId F.plain_set_update_loop _]
    show wpAny _ A.in1 (pyNext (.ref I) >>= _) _ _ s
    refine wpAny_bind (W.item i s _ _ lt st fun v s' pv st' m => ?_)
    obtain ⟨e, he, rfl⟩ := val i v pv
    have kp2 := go m kp
    have RS2 : SetW P w s'.heap S L es ep t := RS.kept (fun o z => m.heap S o outW z) fun q hq => isT_keep (old q (List.mem_of_mem_take (gt.sub q hq))) kp2
    have isx : IsT P w s'.heap e.2 e.1 := isT_keep (old e (List.mem_of_getElem? he)) kp2
    have now : L.length < 1000 := few L RS.uniq fun q hq => List.mem_of_mem_take (gt.sub q hq)
    show wpAny _ A.in1 (holding [Value.ref e.1] (setAdd S (.ref e.1)) >>= _) _ _ s'
    refine wpAny_bind (wpAny_holding ?_)
    unfold setAdd
    refine wpAny_holding (wpAny_bind (wpAny_pyHash_tuple deep isx ?_))
    refine add_in (s := { s' with toks := s'.toks + (e.2.length + 1) }) RS2 isx deep now fun b h' L' es' ep' t' sb RS3 c1 c2 => ?_
    have gt2 : Got ks (i + 1) L' := by
      by_cases c : e.2 ∈ L.map (fun q => q.2)
      · rw [c1 c]
        exact gt.same he c
      · exact gt.more he (c2 c)
    have kp3 : ∀ b o, h0.get? b = some o → h'.get? b = some o := fun b o z => (sb.2 b fun y => by rw [y, newS] at z; cases z).trans (kp2 b o z)
    refine wpAny_pure ⟨plainId_quiet F.plain_set_update_loop _, ih (i + 1) _ (by omega) lt (W.frame _ s' _ _ st' (Nat.le_add_right _ _) fun b hb o z => ?_) kp3 ⟨L', es', ep', t', RS3, gt2⟩ fun s2 L2 es2 ep2 t2 m2 RS4 gt3 kp4 => ?_⟩
    · rw [sb.2 b fun y : b = S => out (y ▸ hb)]
      exact z
    · refine fin s2 L2 es2 ep2 t2 (Moved.trans W.gtrans ((m.mono wider).then_heap (Nat.le_add_right _ _) fun b o hb z => ?_) m2) RS4 gt3 kp4
      rw [sb.2 b fun y : b = S => hb (y ▸ List.mem_cons_self)]
      exact z
/-- the set object's own filling -/
theorem fill_init {l : Addr} {items : Array Value} (ks : List Row) (nh : A.handled = none) (isl : s.heap.IsList l items) (eq : items.toList = ks.map fun e => Value.ref e.1) (old : ∀ e ∈ ks, IsT P w s.heap e.2 e.1)
    (few : ∀ L : List Row, (L.map fun e => e.2).Nodup → (∀ e ∈ L, e ∈ ks) → L.length < 1000) (deep : A.units + 3 < cLine) {R : Result → Shared → Prop}
    (k : ∀ (h' : Heap) (tk : Nat) L es ep t, SetW P w h' s.heap.objs.size L es ep t → Got ks ks.length L → (∀ b o, s.heap.get? b = some o → h'.get? b = some o) → R (.ok (.ret .none)) { s with heap := h', toks := tk }) :
    codeAny (model P w) A (.builtin "set.update.loop" ⟨[.ref s.heap.objs.size, .ref (s.heap.objs.size + 1)], []⟩) R { s with heap := (s.heap.push (newSet w)).push { cls := .type "list_iterator", data := .fields #[.ref l, .int 0 0] } } := by
  have sz : items.size = ks.length := by
    rw [← Array.length_toList, eq]
    exact List.length_map ..
  have lS : l < s.heap.objs.size := by
    obtain ⟨o, ho, _⟩ := isl
    exact Heap.lt_size ho
  have newAt : (s.heap.push (newSet w)).get? s.heap.objs.size = some (newSet w) := Heap.get?_push_size _ rfl
  have none_ : ∀ b, s.heap.objs.size ≤ b → s.heap.get? b = none := fun b hb => by
    cases q : s.heap.get? b with
    | none => rfl
    | some o => exact absurd (Heap.lt_size q) (Nat.not_lt_of_le hb)
  have isl1 : (s.heap.push (newSet w)).IsList l items := isl.push _
  have hz1 : (s.heap.push (newSet w)).objs.size = s.heap.objs.size + 1 := Heap.size_push ..
  have neI : l ≠ s.heap.objs.size + 1 := Nat.ne_of_lt (Nat.lt_succ_of_lt lS)
  have nh1 : A.in1.handled = none := by simp [nh]
  have walk := (Walks.list (prog := P) (w := w) (A := A.in1) nh1 (s.heap.objs.size + 1) l neI items).toS
  have fresh : ((s.heap.push (newSet w)).push { cls := .type "list_iterator", data := .fields #[.ref l, .int 0 0] }).get? (s.heap.objs.size + 1) = some { cls := .type "list_iterator", data := .fields #[.ref l, .int 0 0] } := by
    rw [← hz1]
    exact Heap.get?_push_size _ rfl
  refine fill_loop walk s.heap.objs.size ?_ ks sz few (fun i v hv => ?_) s.heap old (none_ _ (Nat.le_refl _)) (fun b hb => none_ b ?_) (by simp; omega) (items.size - 0) 0 _ (by omega) (Nat.zero_le _)
    ⟨⟨_, fresh, rfl, rfl⟩, isl1.push _⟩ (fun b o e => Heap.get?_push_of_some _ (Heap.get?_push_of_some _ e)) ⟨[], #[], 0, _, setW_new (Heap.get?_push_of_some _ newAt), Got.zero ks⟩ fun s' L es ep t m RS gt kp => ?_
  · simp only [List.mem_cons, List.not_mem_nil, or_false, not_or]
    exact ⟨Nat.ne_of_lt (Nat.lt_succ_self _), Nat.ne_of_gt lS⟩
  · have q : items.toList[i]? = some v := by rw [Array.getElem?_toList]; exact hv
    rw [eq, List.getElem?_map] at q
    obtain ⟨e, e1, e2⟩ := Option.map_eq_some_iff.mp q
    exact ⟨e, e1, e2.symm⟩
  · rw [List.mem_singleton.mp hb]
    exact Nat.le_succ _
  · obtain ⟨h', g2, d2, tk, o2⟩ := s'
    have x1 : g2 = s.gens := m.gens
    have x2 : d2 = s.drawn := m.drawn
    have x3 : o2 = s.os := m.os
    subst x1 x2 x3
    rw [sz] at gt
    exact k h' tk L es ep t RS gt kp
end
end Nc
set_option maxHeartbeats 4000000
namespace Nc
open PySem PySem.Spec L2
open PyProof.Rows hiding St
section
variable {P : Program} {w : World} {A : Around} {E : Value → Shared → Prop} {s : Shared}
theorem set_call {l : Addr} {items : Array Value} (ks : List Row) {Q : Value → Shared → Prop} (nh : A.handled = none) (isl : s.heap.IsList l items) (eq : items.toList = ks.map fun e => Value.ref e.1) (old : ∀ e ∈ ks, IsT P w s.heap e.2 e.1)
    (few : ∀ L : List Row, (L.map fun e => e.2).Nodup → (∀ e ∈ L, e ∈ ks) → L.length < 1000) (deep : A.units + 8 < cLine)
    (k : ∀ (h' : Heap) (tk : Nat) L es ep t, SetW P w h' s.heap.objs.size L es ep t → Got ks ks.length L → (∀ b o, s.heap.get? b = some o → h'.get? b = some o) → Q (.ref s.heap.objs.size) { s with heap := h', toks := tk }) :
    wpAny (model P w) A (call (.type "set") [.ref l]) Q E s := by
  have made := F.called_set.made; have cmro := F.called_set.mro; have csub := F.called_set.sub
  obtain ⟨c0, cs, emro⟩ := cmro
  refine wpAny_call (codeAny_of_tree ?_)
  show wpAny _ _ (callAny (.type "set") _) _ _ _
  refine wpAny_pure ⟨Code.quiet_builtin _ (by decide +kernel), codeAny_builtin F.entry_type_call ?_⟩
  rw [Around.under_plain (weight_type_call_type "set" [.ref l] []) rfl]
  have nt := F.called_set.notType; have cc := F.called_set.canCreate; have tc := F.typeCall_set_1 (.ref l)
  repeat any_goals first | assumption | wp_step
  refine codeAny_mono (code_set_led1 (.ref l) (E := E) (Q₁ := fun v s1 => v = .ref s.heap.objs.size ∧ s1 = { s with heap := s.heap.push (newSet w) }) ⟨rfl, rfl⟩) fun r s1 hr => ?_
  rcases r with _ | fl
  · exact hr
  cases fl with
  | ret v =>
    obtain ⟨rfl, rfl⟩ := hr
    have atS : (s.heap.push (newSet w)).get? s.heap.objs.size = some (newSet w) := Heap.get?_push_size _ rfl
    have isS : Shared.TypeIs { s with heap := s.heap.push (newSet w) } (.ref s.heap.objs.size) "set" := ⟨_, atS, rfl⟩
    have il := F.called_set.init.lookup; have ib := F.called_set.init.bind (.ref s.heap.objs.size)
    repeat any_goals first | assumption | wp_step
    refine codeAny_mono (codeAny_call_builtin (R := wants (fun r s2 => r = .none ∧ ∃ h' tk L es ep t, s2 = { s with heap := h', toks := tk } ∧ SetW P w h' s.heap.objs.size L es ep t ∧ Got ks ks.length L ∧ ∀ b o, s.heap.get? b = some o → h'.get? b = some o) E)
      F.called_set.init.plain F.entry_set_init (check_set_init_1 isS ?_)) fun r2 s2 hr2 => ?_
    · obtain ⟨⟨lc, ld, lo, ls⟩, hol, hcl, nl, hdl⟩ := id isl
      cases hcl; cases hdl
      have atL : (s.heap.push (newSet w)).get? l = some { cls := .type "list", dict := ld, data := .seq items nl, slots := ls } := Heap.get?_push_of_some _ hol
      have ss := F.sub_list_set; have sf := F.sub_list_frozenset
      have nd : (Value.type "list" == Value.type "dict") = false := by decide
      have isl1 : (s.heap.push (newSet w)).IsList l items := isl.push _
      unfold Builtin.«set.__init__» noKeywords Builtin.Frozenset.updateFrom
      generalize hi : pyIter = itr
      wp_walk
      subst hi
      refine wpAny_pyIter_list isl1 (wpAny_bind (wpAny_runValue ?_))
      have sz1 : (s.heap.push (newSet w)).objs.size = s.heap.objs.size + 1 := Heap.size_push ..
      rw [sz1]
      refine fill_init (A := A.in1.in1) ks (by simp [nh]) isl eq old few (by simp; omega) fun h' tk L es ep t RS gt kp => ?_
      show wpAny _ _ _ _ _ _
      refine wpAny_pure ?_
      show wpAny _ _ (ret Value.none) _ _ _
      exact wpAny_pure ⟨rfl, h', tk, L, es, ep, t, rfl, RS, gt, kp⟩
    · rcases r2 with _ | fl2
      · exact hr2
      cases fl2 with
      | ret r =>
        obtain ⟨rfl, h', tk, L, es, ep, t, rfl, RS, gt, kp⟩ := hr2
        repeat any_goals first | assumption | wp_step
        exact k _ _ _ _ _ _ RS gt kp
      | _ => exact hr2.elim
  | _ => exact hr.elim
end
end Nc
set_option maxHeartbeats 4000000
namespace Nc
open PySem PySem.Spec L2
open PyProof.Rows hiding St
open PySem.W (alike AllAlike Sortable dataLe EachIs)
/-- the set at a, without its keys -/
def SetV (P : Program) (w : World) (h : Heap) (a : Addr) (L : List Row) : Prop := ∃ (es : Array (Int × Value)) (ep : Nat) (t : SetTable), (∃ o, h.get? a = some o ∧ o.ExactSet ∧ o.data = .set es ep t) ∧
  TabW t (L.map fun e => thash P w e.2) ∧ es.toList = rowsOf P w L ∧ (L.map fun e => e.2).Nodup ∧ 5 * L.length < 3 * t.mask ∧ L.length ≤ 1000 ∧ t.plain = true ∧ (w.params.followText "set-order" = true ∨ t.led = true)
def SetVO (P : Program) (w : World) (a : Addr) (L : List Row) : HO := .ext fun h => SetV P w h a L
theorem setVO_ok {P : Program} {w : World} {H : Hp} {h : Heap} {a : Addr} {L : List Row} (R : SetV P w h a L) : ObjOk P w H h a (SetVO P w a L) := by
  obtain ⟨es, ep, t, ⟨o, ho, r⟩, q⟩ := id R
  refine ⟨R, ⟨o, ho⟩, fun h1 h2 p k => ?_⟩
  obtain ⟨es, ep, t, ⟨o, ho, r⟩, q⟩ : SetV P w h1 a L := p
  exact ⟨es, ep, t, ⟨o, k o ho, r⟩, q⟩
theorem perm_back {α β : Type} {f : α → β} : ∀ {l l' : List β}, l.Perm l' → ∀ {L : List α}, l' = L.map f → ∃ L1 : List α, L1.Perm L ∧ l = L1.map f
  | _, _, .nil, L, e => ⟨L, .refl _, e⟩
  | _, _, .cons x p, L, e => by
    cases L with
    | nil => cases e
    | cons y L =>
      rw [List.map_cons] at e
      injection e with e1 e2
      obtain ⟨M, m1, m2⟩ := perm_back p e2
      exact ⟨y :: M, m1.cons y, by rw [List.map_cons, e1, m2]⟩
  | _, _, .swap x y l, L, e => by
    match L, e with
    | a :: b :: L, e =>
      rw [List.map_cons, List.map_cons] at e
      injection e with e1 e2
      injection e2 with e2 e3
      exact ⟨b :: a :: L, List.Perm.swap .., by rw [List.map_cons, List.map_cons, e1, e2, e3]⟩
  | _, _, .trans p q, L, e => by
    obtain ⟨M, m1, m2⟩ := perm_back q e
    obtain ⟨N, n1, n2⟩ := perm_back p m2
    exact ⟨N, n1.trans m1, n2⟩
theorem merge_ss {m : List P2} {l : List P2} (nd : m.Nodup) (hm : ∀ x, x ∈ m ↔ x ∈ l) : (m.map encP).mergeSort (dataLe false _root_.id) = (ssP l).map encP := by
  rw [← List.map_mergeSort (r := fun x y => !plt y x) fun a _ b _ => (le_encP a b).symm]
  have p1 := List.mergeSort_perm m (fun x y => !plt y x)
  have pw := List.pairwise_mergeSort (le := fun x y => !plt y x) (fun a b c h1 h2 => by
    simp only [Bool.not_eq_true'] at *
    cases e : plt c a with
    | false => rfl
    | true =>
      rw [plt_iff] at e
      have n1 : ¬ plt b a = true := by rw [h1]; decide
      have n2 : ¬ plt c b = true := by rw [h2]; decide
      rw [plt_iff] at n1 n2
      omega) (fun a b => by
    cases e : plt b a with
    | false => rfl
    | true =>
      cases e2 : plt a b with
      | false => rfl
      | true => exact (plt_irr e e2).elim) m
  refine congrArg _ (strict_eq ?_ (ssP_sorted l) fun x => by rw [p1.mem_iff, mem_ssP, hm])
  have nd2 : (m.mergeSort fun x y => !plt y x).Nodup := p1.nodup_iff.mpr nd
  refine List.Pairwise.imp (fun {a b} h => ?_) (List.Pairwise.and pw nd2)
  obtain ⟨h1, h2⟩ := h
  rw [Bool.not_eq_true'] at h1
  have n1 : ¬ plt b a = true := by rw [h1]; decide
  have n2 : ¬ (a.1 = b.1 ∧ a.2 = b.2) := fun z => h2 (Prod.ext z.1 z.2)
  rw [plt_iff] at n1 ⊢
  omega
section
variable {P : Program} {w : World} {A : Around} {E : Value → Shared → Prop} {s : Shared}
open PySem.W in
/-- sorted(x), the items gathered in some order -/
theorem sorted_some {a : Addr} {Ok : List Value → Prop} {z : List D} {R : Value → D → Prop} {Q : Value → Shared → Prop}
    (col : ∀ (Q' : List Value → Shared → Prop), (∀ s' vs, Ok vs → (∀ b o, s.heap.get? b = some o → s'.heap.get? b = some o) → s.heap.objs.size ≤ s'.heap.objs.size → s'.gens = s.gens → s'.os = s.os → Q' vs s') → wpAny (model P w) A.in1 (collect (.ref a)) Q' E s)
    (each : ∀ vs, Ok vs → ∃ ds, EachIs R vs ds ∧ EachIs (fun v d => ∃ as, Reads s.heap v d as) vs ds ∧ AllAlike ds ∧ Sortable ds ∧ ds.length ≤ sizeLine ∧ (∀ d, d ∈ ds → A.units + 2 + d.depth < cLine) ∧ ds.mergeSort (dataLe false id) = z)
    (k : ∀ s' p out c, (∀ b o, s.heap.get? b = some o → s'.heap.get? b = some o) → s'.gens = s.gens → s'.os = s.os → s.heap.objs.size ≤ p → s'.heap.get? p = some (seqObj "list" (List.toArray out) c) → EachIs R out z → Q (.ref p) s') :
    wpAny (model P w) A (call (.builtin "sorted") [.ref a]) Q E s := by
  refine Calls.call_function_entry kind_sorted plain_sorted entry_sorted (args_sorted1 _) ?_
  unfold Builtin.«sorted»
  refine wpAny_bind (m := checkCount "sorted" 1 1 _) (wpAny_pure (wpAny_bind (col _ fun s1 vs ok k1 z1 g1 o1 => ?_)))
  obtain ⟨ds, e, er, al, so, fit, hu, ez⟩ := each vs ok
  have len : vs.length = ds.length := e.length
  refine wpAny_bind (wpAny_newList ?_ (by rw [len]; exact fit))
  have at1 : (s1.heap.push (seqObj "list" vs.toArray 0)).get? s1.heap.objs.size = some (seqObj "list" vs.toArray 0) := Heap.get?_push_size _ rfl
  have er1 : EachIs (fun v d => ∃ as, Reads (sortingHeap (s1.heap.push (seqObj "list" vs.toArray 0)) s1.heap.objs.size vs) v d as) vs ds := er.mono fun v d hd => by
    obtain ⟨as, r⟩ := hd
    exact ⟨as, PyProof.Rows.Reads.keeps (fun b o q => sortingHeap_old (Nat.ne_of_lt (Heap.lt_size (k1 b o q))) (Heap.get?_push_of_some _ (k1 b o q))) r⟩
  have al' : AllAlike (ds.map id) := by rw [List.map_id]; exact al
  have ko : SortsAt P w A.in1.in1 { s1 with heap := sortingHeap (s1.heap.push (seqObj "list" vs.toArray 0)) s1.heap.objs.size vs } (dataKind (sortingHeap (s1.heap.push (seqObj "list" vs.toArray 0)) s1.heap.objs.size vs) ds) vs :=
    SortsAt.data (s := { s1 with heap := sortingHeap (s1.heap.push (seqObj "list" vs.toArray 0)) s1.heap.objs.size vs }) er1 al so fun d hd => hu d hd
  refine wpAny_bind (wpAny_holding (wpAny_call_entry slot_list_sort ⟨_, at1, rfl⟩ entry_list_sort (list_sort_vals (s := { s1 with heap := s1.heap.push (seqObj "list" vs.toArray 0) }) at1 ko (by rw [len]; exact fit) ⟨_, rfl, ?_⟩) (args_list_sort _)))
  obtain ⟨c, hc⟩ := sortedHeap_at (vs := vs) (out := (sortVals (dataKind (sortingHeap (s1.heap.push (seqObj "list" vs.toArray 0)) s1.heap.objs.size vs) ds) false vs vs).toArray) at1
  have fin := sortVals_data (enc := id) false e er1 al'
  rw [List.map_id, ez] at fin
  refine wpAny_pure ⟨_, rfl, k _ s1.heap.objs.size _ c (fun b u q => ?_) g1 o1 z1 hc fin⟩
  have q := k1 b u q
  have hlt := Heap.lt_size q
  show (sortedHeap (s1.heap.push (seqObj "list" vs.toArray 0)) s1.heap.objs.size vs _).get? b = some u
  rw [sortedHeap_old (Nat.ne_of_lt hlt) (by rw [size_push']; exact Nat.lt_succ_of_lt hlt)]
  exact Heap.get?_push_of_some _ q
end
end Nc
set_option maxHeartbeats 4000000
namespace Nc
open PySem PySem.Spec L2
open PyProof.Rows hiding St
open PySem.W (alike AllAlike Sortable dataLe EachIs)
def dSS2 : D → Option D
  | .list ds => (prsD ds).bind fun l => if (ssP l).length < 1000 then some (.list ((ssP l).map encP)) else none
  | _ => none
abbrev Bd2 (l : List P2) : Prop := ∀ x ∈ l, 0 ≤ x.1 ∧ x.1 < B20 ∧ 0 ≤ x.2 ∧ x.2 < B20
theorem unP_lsP (x : P2) : unP (lsP x) = x := rfl
theorem few_of {ks : List Row} {l : List P2} (e : ks.map (·.2) = l.map lsP) (h : (ssP l).length < 1000) : ∀ L : List Row, (L.map fun e => e.2).Nodup → (∀ e ∈ L, e ∈ ks) → L.length < 1000 := fun L nd sub => by
  have q : (L.map fun e => e.2).length ≤ ((ssP l).map lsP).length := length_sub nd fun x hx => by
    obtain ⟨r, hr, rfl⟩ := List.mem_map.mp hx
    have z : r.2 ∈ l.map lsP := e ▸ List.mem_map.mpr ⟨r, sub r hr, rfl⟩
    obtain ⟨y, hy, ey⟩ := List.mem_map.mp z
    exact List.mem_map.mpr ⟨y, mem_ssP.mpr hy, ey⟩
  rw [List.length_map, List.length_map] at q
  omega
section
variable {X : Cx} {io : Nat → Bool} {W : WX} {rk : Nat} {c : Cf} {p p1 p2 p3 : Bool} {cl cl1 cl2 cl3 : Cls} {G G0 G1 G2 G' : Gh} {H H0 H1 H2 H' : Hp} {σ σ1 σ2 σ' : L2.St} {ρ ρ1 ρ2 ρ' : Rho}
/-- set(xs), xs a list of pairs -/
def rSetW (K : PySem.W.Frag) (P : Program) (w : World) : List V → Hp → VK → Prop := fun xs H Q => ∃ (l : Addr) (ks : List Row), xs = [V.ref l] ∧ SqL K H l (ks.map fun p => V.ref p.1) ∧ (∀ p ∈ ks, SqT K H p.1 (p.2.map V.int)) ∧
  (∀ L : List Row, (L.map fun e => e.2).Nodup → (∀ e ∈ L, e ∈ ks) → L.length < 1000) ∧ ∀ a L, H a = none → (L.map fun e => e.2).Nodup → (∀ p ∈ L, p ∈ ks) → (∀ p ∈ ks, p.2 ∈ L.map (·.2)) → Q (.ref a) (upd H a (SetVO P w a L))
theorem call_setW (hc : X.calm = true) (hu : X.A.units + 64 < cLine) : CallR X (.type "set") (rSetW X.K X.prog X.w) := by
  intro pins s σ H xs us Q I r h
  obtain ⟨l, ks, rfl, hl, hk, few, q⟩ := h
  rw [Vals.ref1 r]
  obtain ⟨its, rv, pl, hz⟩ := I.list hl
  have hn : H s.heap.objs.size = none := I.hok.fresh (Nat.le_refl _)
  refine set_call (P := X.prog) (w := X.w) ks (I.ok.hd hc) pl.isList (by simpa using refs_of_vals rv) (fun p hp => I.isT (hk p hp)) few (by omega) fun h' tk L es ep t R g k => ?_
  refine ⟨.ref s.heap.objs.size, upd H s.heap.objs.size (SetVO X.prog X.w s.heap.objs.size L), I.laid (t' := tk) k (Nat.le_refl _) (setVO_ok ⟨es, ep, t, R.at_, R.tab, R.list, R.uniq, R.room, R.cap, R.flat, R.seen⟩), rfl, q _ L hn R.uniq (fun p hp => List.mem_of_mem_take (g.sub p hp)) fun p hp => g.all p (by rw [List.take_length]; exact hp)⟩
/-- sorted(set) -/
def rSortW (c : Cf) (P : Program) (w : World) : List V → Hp → VK → Prop := fun xs H Q => ∃ (G : Gh) (a : Addr) (L : List Row) (l : List P2), xs = [V.ref a] ∧ GI G H ∧ H a = some (SetVO P w a L) ∧ (L.map fun e => e.2).Nodup ∧ (∀ k, k ∈ L.map (·.2) ↔ k ∈ l.map lsP) ∧
  (∀ p ∈ L, SqT c.K H p.1 (p.2.map V.int)) ∧ Out c G H (.list ((ssP l).map encP)) Q
theorem call_sortW (hc : X.calm = true) (hu : X.A.units + 80 < cLine) : CallR X (.builtin "sorted") (rSortW (cfX X) X.prog X.w) := by
  intro pins s σ H xs us Q I r h
  obtain ⟨G, a, L, l, rfl, gi, ha, nd, mk, hk, o⟩ := h
  obtain ⟨es, ep, t, ⟨ob, ho, ex, od⟩, T, rows, _, room, cap, _, seen⟩ : SetV X.prog X.w s.heap a L := (I.hok a _ ha).1
  rw [Vals.ref1 r]
  have el := rows_size rows
  have spots : t.place.size = L.length := T.size.trans (List.length_map ..)
  have shape : ∀ p ∈ L, p.2 = lsP (unP p.2) := fun p hp => by
    obtain ⟨x, hx, e⟩ := List.mem_map.mp ((mk p.2).mp (List.mem_map.mpr ⟨p, hp, rfl⟩))
    rw [← e]
    rfl
  have ev : es.toList.map (·.2) = L.map fun q => Value.ref q.1 := by
    rw [rows]
    unfold rowsOf
    rw [List.map_map]
    rfl
  refine sorted_some (Ok := fun vs => vs.Perm (L.map fun q => Value.ref q.1)) (z := (ssP l).map encP) (R := RV (cfX X) G H) (fun Q' kk => ?_) (fun vs pm => ?_) fun s' p out cc k1 g1 o1 hp hat eo => ?_
  · refine collect_set (A := X.A.in1) (I.ok.hd hc) ⟨ob, ho, ex.1, od⟩ ?_ (by unfold scanBound; omega) T.up seen fun s' out k1 z1 g1 o1 pm => kk s' out (ev ▸ pm) k1 z1 g1 o1
    rw [el]
    exact fits_of spots T.clean (by omega)
  · obtain ⟨L1, pm1, e1⟩ := perm_back pm rfl
    have mem1 : ∀ p ∈ L1, p ∈ L := fun p hp => pm1.mem_iff.mp hp
    have ks1 : L1.map (·.2) = (L1.map fun p => unP p.2).map lsP := by
      rw [List.map_map]
      exact List.map_congr_left fun p hp => shape p (mem1 p hp)
    have rep : RepL (cfX X) G H (L1.map fun p => V.ref p.1) ((L1.map fun p => unP p.2).map encP) := keys_repL ks1 fun p hp => hk p (mem1 p hp)
    have ea : EachIs (RV (cfX X) G H) vs ((L1.map fun p => unP p.2).map encP) := by
      rw [e1]
      exact each_rv rep (vals_of_refs L1)
    have nd1 : (L1.map fun p => unP p.2).Nodup := by
      have z : ((L1.map fun p => unP p.2).map lsP).Nodup := by
        rw [← ks1]
        exact (pm1.map _).nodup_iff.mpr nd
      exact nodup_of_map z
    have mem2 : ∀ x, x ∈ (L1.map fun p => unP p.2) ↔ x ∈ l := fun x => by
      constructor
      · intro hx
        obtain ⟨p, hp, e⟩ := List.mem_map.mp hx
        obtain ⟨y, hy, e2⟩ := List.mem_map.mp ((mk p.2).mp (List.mem_map.mpr ⟨p, mem1 p hp, rfl⟩))
        rw [← e, ← e2]
        exact hy
      · intro hx
        obtain ⟨p, hp, e⟩ := List.mem_map.mp ((mk (lsP x)).mpr (List.mem_map.mpr ⟨x, hx, rfl⟩))
        exact List.mem_map.mpr ⟨p, pm1.mem_iff.mpr hp, by rw [e]; rfl⟩
    have sh : ((L1.map fun p => unP p.2).map encP).all SeqAt.shaped = true := by
      rw [List.all_eq_true]
      intro d hd
      obtain ⟨x, _, rfl⟩ := List.mem_map.mp hd
      exact (sm_encP x).shaped
    refine ⟨_, ea, each_reads I ea sh, ?_, ?_, ?_, fun d hd => ?_, merge_ss nd1 mem2⟩
    · intro d hd e he
      obtain ⟨x, _, rfl⟩ := List.mem_map.mp hd
      obtain ⟨y, _, rfl⟩ := List.mem_map.mp he
      exact alike_encP x y
    · refine .inl fun d hd => ?_
      obtain ⟨x, _, rfl⟩ := List.mem_map.mp hd
      exact ⟨_, _, rfl⟩
    · rw [List.length_map, List.length_map, pm1.length_eq, sizeLine_eq]
      omega
    · have := SeqAt.depth_of_shaped (List.all_eq_true.mp sh d hd)
      omega
  · obtain ⟨xs, hv, hr⟩ := rv_each eo
    have hn : H p = none := I.hok.fresh hp
    have lenx : xs.length ≤ sizeLine := by
      have z : (ssP l).length ≤ L.length := by
        have q : ((ssP l).map lsP).length ≤ (L.map (·.2)).length := length_sub ?_ fun x hx => ?_
        · rw [List.length_map, List.length_map] at q
          exact q
        · exact List.Pairwise.map _ (fun {a b} (z : a ≠ b) => fun y => z (by rw [← unP_lsP a, ← unP_lsP b, y])) (plt_nodup (ssP_sorted l))
        · obtain ⟨y, hy, rfl⟩ := List.mem_map.mp hx
          exact (mk _).mpr (List.mem_map.mpr ⟨y, mem_ssP.mp hy, rfl⟩)
      rw [hr.length, List.length_map, sizeLine_eq]
      omega
    have J : Inv X pins σ (upd H p (.lst xs)) { s with heap := s'.heap, gens := s'.gens, drawn := s'.drawn, toks := s'.toks } :=
      I.call (ch := []) (Un.laid k1 hp hn) (I.hok.laid k1 hp ⟨lenx, out, cc, hv, hat⟩) (by rw [g1]; exact I.bare) (fun _ z => nomatch z)
    have es : s' = { s with heap := s'.heap, gens := s'.gens, drawn := s'.drawn, toks := s'.toks } := by
      cases s'; cases s; cases o1; rfl
    rw [es]
    exact ⟨.ref p, _, J, rfl, o.lst gi hn hr⟩
theorem j_ss2 {e : Expr} {f : M} {pn pn2 pos pos2 : Pos} (hc : X.calm = true) (hu : X.A.units + 80 < cLine) (hm1 : X.mg "sorted" = none) (hm2 : X.mg "set" = none) (he : J X io W p cl e f) (h1 : cl.st true = true := by rfl) (hg1 : Gl X "sorted" := by rfl) (hg2 : Gl X "set" := by rfl)
    (hs1 : starEach [.Call (.Name "set" pn2) [e] [] pos2] X.env = [(false, eval (.Call (.Name "set" pn2) [e] [] pos2) X.env)] := by rfl) (hpl1 : (backTo pos (starEach [] X.env)).any (·.1) = false := by rfl)
    (hs2 : starEach [e] X.env = [(false, eval e X.env)] := by rfl) (hpl2 : (backTo pos2 (starEach [] X.env)).any (·.1) = false := by rfl) :
    J X io W p (.n 1) (.Call (.Name "sorted" pn) [.Call (.Name "set" pn2) [e] [] pos2] [] pos) (mU dSS2 f) := by
  refine ⟨peI (pe_callB (call_sortW hc hu) hg1 hm1 boot_sorted (pa_cons (pe_callTy (call_setW hc (by omega)) hg2 hm2 PyProof.Rows.boot_set (pa1 he hs2) (by decide) (by decide) hs2 hpl2) pa_nil hs1) (by decide) (by decide) hs1 hpl1) fun σ H Q q => ?_, fun e => pu_bind (he.pu e) fun _ _ _ _ e => pu_of e⟩
  obtain ⟨G, ρ, re, q⟩ := q
  refine ⟨G, ρ, re, (good_bindT re.gi q).mono fun d ρ1 G1 H1 s1 re1 q1 v1 r1 => ?_⟩
  obtain ⟨z, e, o⟩ := Good.of (Q := Q) re1 q1 (H0 := H) (fun a h => (s1.stp re.gi).dm a h) fun d ρ' G' H' k v n => k v n
  cases d <;> try (exact nomatch (show (none : Option D) = some z from e))
  case list ds =>
    obtain ⟨l, hl, e⟩ := Option.bind_eq_some_iff.mp (show ((prsD ds).bind fun l => if (ssP l).length < 1000 then some (PyData.list ((ssP l).map encP)) else none) = some z from e)
    obtain ⟨small, ez⟩ := ifS e
    subst ez
    obtain ⟨rfl, bd⟩ := prsD_some hl
    obtain ⟨a, xs, rfl, ha, ra⟩ := (r1.rd h1).sqL
    obtain ⟨ks, e1, e2, e3⟩ := repL_keys ra
    subst e1
    refine ⟨a, ks, rfl, ha, e3, few_of e2 small, fun b L hb nd hsub hall => ?_⟩
    have g1 : Gr H1 (L2.upd H1 b (SetVO X.prog X.w b L)) := Gr.upd hb
    have mk : ∀ k, k ∈ L.map (·.2) ↔ k ∈ l.map lsP := fun k => by
      rw [← e2]
      constructor
      · intro h
        obtain ⟨p, h1, h2⟩ := List.mem_map.mp h
        exact List.mem_map.mpr ⟨p, hsub p h1, h2⟩
      · intro h
        obtain ⟨p, h1, h2⟩ := List.mem_map.mp h
        rw [← h2]
        exact hall p h1
    refine ⟨G1, b, L, l, rfl, g1.gi re1.gi, upd_same, nd, mk, fun p hp => SqT.gr g1 (e3 p (hsub p hp)), fun v H' g n => ?_⟩
    exact o v H' (fun b u h => g _ _ (g1 _ _ h)) (n.anti fun b h => g1.dm h)
end
end Nc
namespace Nc
open PySem PySem.Spec L2
open PyProof.Rows hiding St
theorem dSS2_enc (l : List P2) (h : Bd2 l) (hl : (ssP l).length < 1000) : dSS2 (.list (l.map encP)) = some (.list ((ssP l).map encP)) := by
  unfold dSS2
  simp only [prsD_enc l h, Option.bind_some, if_pos hl]
/-- a note -/
def nok (n : P2) : Prop := 0 ≤ n.1 ∧ n.1 ≤ 3 ∧ 0 ≤ n.2 ∧ n.2 ≤ 127
def Nok (l : List P2) : Prop := ∀ p ∈ l, nok p
def pr (a b : Nat) : P2 := ((a : Int), (b : Int))
def rowN (a : Nat) : List P2 := (List.range 128).map (pr a)
def notes : List P2 := (List.range 4).flatMap rowN
theorem mem_notes {n : P2} : n ∈ notes ↔ nok n := by
  obtain ⟨a, b⟩ := n
  unfold notes nok rowN pr
  simp only [List.mem_flatMap, List.mem_range, List.mem_map, Prod.mk.injEq]
  constructor
  · rintro ⟨x, hx, y, hy, rfl, rfl⟩
    omega
  · rintro ⟨h1, h2, h3, h4⟩
    exact ⟨a.toNat, by omega, b.toNat, by omega, by omega, by omega⟩
theorem notes_sorted : notes.Pairwise (fun a b => plt a b = true) := by
  unfold notes rowN
  rw [List.pairwise_flatMap]
  refine ⟨fun a _ => ?_, ?_⟩
  · rw [List.pairwise_map]
    refine List.pairwise_lt_range.imp fun {x y} h => ?_
    rw [plt_iff]
    right
    exact ⟨rfl, by
      show (x : Int) < (y : Int)
      omega⟩
  · refine List.pairwise_lt_range.imp fun {x y} h => ?_
    intro p hp q hq
    obtain ⟨_, _, rfl⟩ := List.mem_map.mp hp
    obtain ⟨_, _, rfl⟩ := List.mem_map.mp hq
    rw [plt_iff]
    left
    show (x : Int) < (y : Int)
    omega
theorem notes_nodup : notes.Nodup := plt_nodup notes_sorted
theorem notes_len : notes.length = 512 := by decide +kernel
theorem nok_len {l : List P2} (h : Nok l) (nd : l.Pairwise fun a b => plt a b = true) : l.length ≤ 512 := by
  rw [← notes_len]
  exact length_sub (plt_nodup nd) fun x hx => mem_notes.mpr (h x hx)
theorem nok_20 {p : P2} (h : nok p) : 0 ≤ p.1 ∧ p.1 < B20 ∧ 0 ≤ p.2 ∧ p.2 < B20 := by
  unfold nok at h
  unfold B20
  omega
theorem ss_nok {l : List P2} (h : Nok l) : Nok (ssP l) := fun p hp => h p (mem_ssP.mp hp)
theorem dSS2_nok {l : List P2} (h : Nok l) : dSS2 (.list (l.map encP)) = some (.list ((ssP l).map encP)) := by
  have z := nok_len (ss_nok h) (ssP_sorted l)
  exact dSS2_enc l (fun x hx => nok_20 (h x hx)) (by omega)
end Nc
namespace Nc
open PySem PySem.Spec L2
open PyProof.Rows hiding St
theorem range_items {α : Type} (l : List α) : (List.range l.length).filterMap (fun i => l[i]?) = l := by
  have z : ∀ n, n ≤ l.length → (List.range n).filterMap (fun i => l[i]?) = l.take n := fun n => by
    induction n with
    | zero => intro _; rfl
    | succ n ih =>
      intro h
      rw [List.range_succ, List.filterMap_append, ih (by omega), List.take_succ, List.getElem?_eq_getElem (show n < l.length by omega)]
      simp [List.getElem?_eq_getElem (show n < l.length by omega)]
  rw [z _ (Nat.le_refl _), List.take_length]
theorem range_back (n : Nat) : sliceRange ((n : Int) - 1) (-1) (-1) = (List.range n).reverse := by
  have c : (if (-1 : Int) > 0 then (if ((n : Int) - 1) < -1 then ((-1) - ((n : Int) - 1) + (-1) - 1) / (-1) else 0) else (if ((n : Int) - 1) > -1 then (((n : Int) - 1) - (-1) - (-1) - 1) / (-(-1)) else 0)) = (n : Int) := by
    rw [if_neg (by decide)]
    split
    · rw [show (-(-1) : Int) = 1 by decide, Int.ediv_one]
      omega
    · omega
  unfold sliceRange
  simp only [c, Int.toNat_natCast]
  refine List.ext_getElem (by simp) fun i h1 h2 => ?_
  simp only [List.getElem_map, List.getElem_range, List.getElem_reverse, List.length_range]
  simp only [List.length_map, List.length_range] at h1
  omega
theorem pick_back (its : List Value) : slicePick its.toArray none none (some (-1)) = its.reverse.toArray := by
  have b : sliceBounds none none (some (-1)) its.length = ((its.length : Int) - 1, -1, -1) := by
    simp [sliceBounds]
  unfold slicePick
  rw [List.size_toArray, b]
  dsimp only
  rw [range_back, List.filterMap_reverse]
  congr 2
  have z := range_items its
  simpa using z
def dRev : D → Option D
  | .list ds => some (.list ds.reverse)
  | _ => none
section
variable {X : Cx} {io : Nat → Bool} {W : WX} {rk : Nat} {c : Cf} {p p1 p2 p3 : Bool} {cl cl1 cl2 cl3 : Cls} {G G0 G1 G2 G' : Gh} {H H0 H1 H2 H' : Hp} {σ σ1 σ2 σ' : L2.St} {ρ ρ1 ρ2 ρ' : Rho}
theorem RepL.rev : ∀ {xs : List V} {ds : List D}, RepL c G H xs ds → RepL c G H xs.reverse ds.reverse
  | _, _, .nil => .nil
  | _, _, .cons h r => by
    rw [List.reverse_cons, List.reverse_cons]
    exact (RepL.rev r).append (.cons h .nil)
theorem vals_rev : ∀ {xs : List V} {us : List Value}, Vals xs us → Vals xs.reverse us.reverse
  | _, _, .nil => .nil
  | _, _, .cons h r => by
    rw [List.reverse_cons, List.reverse_cons]
    exact (vals_rev r).append (.cons h .nil)
theorem pe_neg1 {j q1 q2} : PE X (.UnaryOp .USub (.Constant (.int 1) j q1) q2) (tC (.int (-1))) := peI (pe_un un_neg pe_int) fun σ H Q q => ⟨1, rfl, q⟩
/-- x[::-1] -/
theorem pe_rev {e : Expr} {te : TE} {ps pos q1 q2 : Pos} {j} (he : PE X e te) {r : V → Hp → VK → Prop} (hr : ∀ x H Q, r x H Q → ∃ a xs, x = V.ref a ∧ SqL X.K H a xs ∧ ∀ p, H p = none → Q (.ref p) (upd H p (.lst xs.reverse))) :
    PE X (.Subscript e (.Slice none none (some (.UnaryOp .USub (.Constant (.int 1) j q1) q2)) ps) pos) (fun σ H Q => te σ H fun x H1 => r x H1 Q) := by
  refine ⟨fun pins s σ H Q I h => ?_⟩
  refine Subscript_ (thn (he.run pins s σ H _ I h) fun v s1 ⟨x, H1, I1, r1, z1⟩ => ?_)
  refine wpAny_Slice (thn (po_none.run pins s1 σ H1 (fun l H2 => l = none ∧ r x H2 Q) I1 ⟨rfl, z1⟩) fun vl s2 ⟨l, H2, I2, pl, z2⟩ => ?_)
  obtain ⟨rfl, z2⟩ := z2
  refine thn (po_none.run pins s2 σ H2 (fun l H3 => l = none ∧ r x H3 Q) I2 ⟨rfl, z2⟩) fun vu s3 ⟨u, H3, I3, pu, z3⟩ => ?_
  obtain ⟨rfl, z3⟩ := z3
  refine thn ((po_some pe_neg1).run pins s3 σ H3 (fun l H4 => l = some (-1) ∧ r x H4 Q) I3 ⟨-1, rfl, rfl, z3⟩) fun vs s4 ⟨st, H4, I4, pst, z4⟩ => ?_
  obtain ⟨rfl, z4⟩ := z4
  obtain ⟨a, xs, rfl, ha, k⟩ := hr _ _ _ z4
  cases r1
  have I5 : Inv X pins σ H4 { s4 with heap := s4.heap.push { cls := .type "slice", data := .fields #[vl, vu, vs] } } := I4.kept (t' := s4.toks) fun b ob q => Heap.get?_push_of_some _ q
  obtain ⟨its, rv, ht, hz⟩ := I5.list ha
  have hlen := rv.length
  show wpAny (model X.prog X.w) X.A (subscriptTail e (.Slice none none (some (.UnaryOp .USub (.Constant (.int 1) j q1) q2)) ps) (.ref a) (.ref s4.heap.objs.size)) (EP X pins σ Q) X.xe { s4 with heap := s4.heap.push { cls := .type "slice", data := .fields #[vl, vu, vs] } }
  refine tail_any (ops := [.ref a, .ref s4.heap.objs.size]) ht.isList.typeIs slot_list_getitem.lookup ?_ (by with_unfolding_all rfl)
  refine wpAny_getItem_list_slice ht.isList (Heap.IsSliceOf.new ..) pl pu pst (by decide) ?_ (by rw [List.size_toArray]; omega)
  rw [pick_back]
  refine ⟨.ref _, _, I5.laid (t' := s4.toks) (o := .lst xs.reverse) (fun b ob q => Heap.get?_push_of_some _ q) (Nat.le_refl _) ?_, rfl, k _ (I5.hok.fresh (Nat.le_refl _))⟩
  exact ⟨by rw [List.length_reverse]; exact hz, _, 0, vals_rev rv, Heap.get?_push_size _ rfl⟩
theorem j_rev {e : Expr} {f : M} {ps pos q1 q2 : Pos} {j} (he : J X io W p cl e f) (h1 : cl.st true = true := by rfl) :
    J X io W p (.n 1) (.Subscript e (.Slice none none (some (.UnaryOp .USub (.Constant (.int 1) j q1) q2)) ps) pos) (mU dRev f) := by
  refine ⟨peI (pe_rev he.pe (r := fun x H1 Q => ∃ G1 d z, GI G1 H1 ∧ Rd1 (cfX X) G1 H1 x d ∧ dRev d = some z ∧ Out (cfX X) G1 H1 z Q) fun x H Q h => ?_) fun σ H Q q => ?_, fun e => pu_bind (he.pu e) fun _ _ _ _ e => pu_of e⟩
  · obtain ⟨G1, d, z, gi, hd, hz, o⟩ := h
    cases d <;> try (exact nomatch (show (none : Option D) = some z from hz))
    cases hz
    obtain ⟨a, vs, rfl, ha, ra⟩ := hd.sqL
    exact ⟨a, vs, rfl, ha, fun p hp => o.lst gi hp ra.rev⟩
  · obtain ⟨G, ρ, re, q⟩ := q
    refine ⟨G, ρ, re, (good_bindT re.gi q).mono fun d ρ1 G1 H1 s1 re1 q1 v1 r1 => ?_⟩
    obtain ⟨z, e, o⟩ := Good.of (Q := Q) re1 q1 (H0 := H) (fun a h => (s1.stp re.gi).dm a h) fun d ρ' G' H' k v n => k v n
    exact ⟨G1, d, z, re1.gi, r1.rd h1, e, o⟩
end
end Nc
namespace Nc
open PySem PySem.Spec L2
open PyProof.Rows hiding St
section
variable {X : Cx} {io : Nat → Bool} {W : WX} {rk : Nat} {c : Cf} {p p1 p2 p3 : Bool} {cl cl1 cl2 cl3 : Cls} {G G0 G1 G2 G' : Gh} {H H0 H1 H2 H' : Hp} {σ σ1 σ2 σ' : L2.St} {ρ ρ1 ρ2 ρ' : Rho}
theorem RepL.erase : ∀ {xs : List V} {ds : List D}, RepL c G H xs ds → ∀ n, RepL c G H (xs.eraseIdx n) (ds.eraseIdx n)
  | _, _, .nil, _ => .nil
  | _, _, .cons h r, 0 => r
  | _, _, .cons h r, n + 1 => .cons h (RepL.erase r n)
theorem RepL.getN : ∀ {xs : List V} {ds : List D}, RepL c G H xs ds → ∀ (n : Nat) (d : D), ds[n]? = some d → ∃ v, xs[n]? = some v ∧ Rep c G H v d
  | _, _, .cons h r, 0, d, e => by
    cases e
    exact ⟨_, rfl, h⟩
  | _, _, .cons h r, n + 1, d, e => RepL.getN r n d e
theorem RepL.takeN : ∀ {xs : List V} {ds : List D}, RepL c G H xs ds → ∀ n, RepL c G H (xs.take n) (ds.take n)
  | _, _, .nil, n => by cases n <;> exact .nil
  | _, _, .cons h r, 0 => .nil
  | _, _, .cons h r, n + 1 => .cons h (RepL.takeN r n)
theorem RepL.dropN : ∀ {xs : List V} {ds : List D}, RepL c G H xs ds → ∀ n, RepL c G H (xs.drop n) (ds.drop n)
  | _, _, .nil, n => by cases n <;> exact .nil
  | _, _, .cons h r, 0 => .cons h r
  | _, _, .cons h r, n + 1 => RepL.dropN r n
def popR (ds : List D) (j : Int) : Option (D × List D) := if -(2 ^ 63) ≤ j ∧ j < 2 ^ 63 then (ixN ds.length j).bind fun n => (ds[n]?).map fun d => (d, ds.eraseIdx n) else none
def mPop (i : Nat) (f : MA) : M := fun ρ => match lstOf ρ i with
  | some _ => (f ρ).bind fun x => match lstOf x.2 i, x.1 with
    | some ds, [.int j] => match popR ds j with
      | some y => .ok (y.1, x.2.set i (some (1, .list y.2)))
      | none => .bad
    | _, _ => .bad
  | none => .bad
def mIns (i : Nat) (f : MA) : M := fun ρ => match lstOf ρ i with
  | some _ => (f ρ).bind fun x => match lstOf x.2 i, x.1 with
    | some ds, [.int j, d] => if 0 ≤ j ∧ j < 2 ^ 63 ∧ ds.length < big then .ok (.none, x.2.set i (some (1, .list (ds.take j.toNat ++ [d] ++ ds.drop j.toNat)))) else .bad
    | _, _ => .bad
  | none => .bad
variable {x : Str} {e : Expr} {es : List Expr} {f : MA} {pn apos cpos : Pos}
theorem j_pop (i : Nat) (he : JA X io W p (e :: es) f) (hN : X.N[i]? = some x := by rfl) (hv : Vis X.env.scope x := by first | exact Or.inl rfl | exact Or.inr (Or.inl rfl) | exact Or.inr (Or.inr rfl)) (hd : (x == ("__debug__" : Str)) = false := by decide)
    (hcd : (x == ("__classdict__" : Str)) = false := by decide) (hbase : attributeBase (.Name x pn) "pop" X.env (eval (.Name x pn) X.env) = eval (.Name x pn) X.env := by rfl)
    (hfew : ((backTo cpos (starEach (e :: es) X.env)).all (fun x => !x.1) && (backToKw cpos (keywordEach [] X.env)).all (fun x => x.1.isSome)
      && decide ((e :: es).length + ([] : List Keyword).length + (if ([] : List Keyword).isEmpty then 0 else 1) < 30)) = true := by rfl)
    (hline : (apos.endLine == cpos.line) = true := by rfl) (hs : starEach (e :: es) X.env = (false, eval e X.env) :: starEach es X.env := by rfl) (hplain : (backTo cpos (starEach es X.env)).any (·.1) = false := by rfl) :
    J X io W false .f (.Call (.Attribute (.Name x pn) "pop" apos) (e :: es) [] cpos) (mPop i f) := by
  refine ⟨peI (pe_bm PySem.F.plainAttrs_list PySem.F.slot_list_pop PySem.F.type_list_pop mt_popAt (pe_var (i := i) hN hv hd hcd) he.pa hbase hfew hline hs hplain) fun σ H Q q => ?_, fun z => by cases z⟩
  obtain ⟨G, ρ, re, q⟩ := q
  unfold mPop at q
  cases hl : lstOf ρ i with
  | none => rw [hl] at q; exact q.elim
  | some ds =>
    rw [hl] at q
    dsimp only at q
    obtain ⟨a, xs, e1, e2, e3, e4⟩ := re.list1 (lstOf_eq hl)
    refine ⟨_, e1, .inl ⟨rfl, xs, .inl (.inl e2)⟩, G, ρ, re, (Good.bind (p1 := p) (p2 := false) re.gi (by rw [Bool.and_false]; exact q)).mono fun d ρ1 G1 H1 s1 re1 q1 vs r => ?_⟩
    dsimp only at q1
    cases hl2 : lstOf ρ1 i with
    | none => rw [hl2] at q1; exact q1.elim
    | some ds2 =>
      rw [hl2] at q1
      match d, q1, r with
      | [.int j], q1, r =>
        dsimp only at q1
        cases hp : popR ds2 j with
        | none => rw [hp] at q1; exact q1.elim
        | some y =>
          rw [hp] at q1
          dsimp only at q1
          unfold popR at hp
          split at hp
          · rename_i hj
            obtain ⟨n, hn, hy⟩ := Option.bind_eq_some_iff.mp hp
            obtain ⟨d, hd2, hy⟩ := Option.map_eq_some_iff.mp hy
            subst hy
            obtain ⟨a', xs', f1, f2, f3, f4⟩ := re1.list1 (lstOf_eq hl2)
            rw [e1] at f1
            cases f1
            obtain ⟨v, hv2, rv⟩ := f3.getN n d hd2
            obtain ⟨g1, g2⟩ := f4 (xs'.eraseIdx n) (ds2.eraseIdx n) (f3.erase n)
            cases r with
            | cons r0 r1 =>
              cases r1
              cases r0
              exact ⟨a, xs', j, n, v, rfl, rfl, f2, hj.1, hj.2, by rw [f3.length]; exact (ixN_seq hn).1, hv2, q1 _ _ (g2 io) g1 _ (rv.stp (g2 io))⟩
          · cases hp
theorem j_insert (i : Nat) (he : JA X io W p (e :: es) f) (hN : X.N[i]? = some x := by rfl) (hv : Vis X.env.scope x := by first | exact Or.inl rfl | exact Or.inr (Or.inl rfl) | exact Or.inr (Or.inr rfl)) (hd : (x == ("__debug__" : Str)) = false := by decide)
    (hcd : (x == ("__classdict__" : Str)) = false := by decide) (hbase : attributeBase (.Name x pn) "insert" X.env (eval (.Name x pn) X.env) = eval (.Name x pn) X.env := by rfl)
    (hfew : ((backTo cpos (starEach (e :: es) X.env)).all (fun x => !x.1) && (backToKw cpos (keywordEach [] X.env)).all (fun x => x.1.isSome)
      && decide ((e :: es).length + ([] : List Keyword).length + (if ([] : List Keyword).isEmpty then 0 else 1) < 30)) = true := by rfl)
    (hline : (apos.endLine == cpos.line) = true := by rfl) (hs : starEach (e :: es) X.env = (false, eval e X.env) :: starEach es X.env := by rfl) (hplain : (backTo cpos (starEach es X.env)).any (·.1) = false := by rfl) :
    J X io W false .f (.Call (.Attribute (.Name x pn) "insert" apos) (e :: es) [] cpos) (mIns i f) := by
  refine ⟨peI (pe_bm PySem.F.plainAttrs_list PySem.F.slot_list_insert PySem.F.type_list_insert mt_insert (pe_var (i := i) hN hv hd hcd) he.pa hbase hfew hline hs hplain) fun σ H Q q => ?_, fun z => by cases z⟩
  obtain ⟨G, ρ, re, q⟩ := q
  unfold mIns at q
  cases hl : lstOf ρ i with
  | none => rw [hl] at q; exact q.elim
  | some ds =>
    rw [hl] at q
    dsimp only at q
    obtain ⟨a, xs, e1, e2, e3, e4⟩ := re.list1 (lstOf_eq hl)
    refine ⟨_, e1, .inl ⟨rfl, xs, .inl (.inl e2)⟩, G, ρ, re, (Good.bind (p1 := p) (p2 := false) re.gi (by rw [Bool.and_false]; exact q)).mono fun d ρ1 G1 H1 s1 re1 q1 vs r => ?_⟩
    dsimp only at q1
    cases hl2 : lstOf ρ1 i with
    | none => rw [hl2] at q1; exact q1.elim
    | some ds2 =>
      rw [hl2] at q1
      match d, q1, r with
      | [.int j, d], q1, r =>
        dsimp only at q1
        by_cases hz : 0 ≤ j ∧ j < 2 ^ 63 ∧ ds2.length < big
        · rw [if_pos hz] at q1
          obtain ⟨a', xs', f1, f2, f3, f4⟩ := re1.list1 (lstOf_eq hl2)
          rw [e1] at f1
          cases f1
          cases r with
          | cons r0 r1 =>
            cases r1 with
            | cons r1 r2 =>
              cases r2
              cases r0
              obtain ⟨g1, g2⟩ := f4 (xs'.take j.toNat ++ [_] ++ xs'.drop j.toNat) (ds2.take j.toNat ++ [d] ++ ds2.drop j.toNat) (((f3.takeN j.toNat).append (.cons r1 .nil)).append (f3.dropN j.toNat))
              exact ⟨a, xs', j, _, rfl, rfl, f2, by rw [f3.length, ← big_eq]; exact hz.2.2, hz.1, hz.2.1, q1 _ _ (g2 io) g1 _ .non⟩
        · rw [if_neg hz] at q1; exact q1.elim
end
end Nc
set_option maxHeartbeats 2000000
namespace Nc
open PySem PySem.Spec L2
open PyProof.Rows hiding St
theorem cut_bounds {lo hi len : Nat} (h1 : lo ≤ hi) (h2 : lo ≤ len) : sliceBounds (some (lo : Int)) (some (hi : Int)) none len = ((lo : Int), ((min hi len : Nat) : Int), 1) := by
  have n1 : ¬ (lo : Int) < 0 := by omega
  have n2 : ¬ (hi : Int) < 0 := by omega
  simp only [sliceBounds, Option.getD_none, n1, n2, if_false, show (1 : Int) > 0 by decide, if_true]
  refine Prod.ext ?_ (Prod.ext ?_ rfl)
  · show max 0 (min (lo : Int) (len : Int)) = (lo : Int)
    omega
  · show max 0 (min (hi : Int) (len : Int)) = ((min hi len : Nat) : Int)
    omega
section
variable {prog : Program} {w : World} {A : Around} {E : Value → Shared → Prop} {s : Shared}
theorem put_cut {l b sl : Addr} {old new : Array Value} {n1 n2 : Nat} {v1 v2 : Value} {lo hi : Nat} {Q : Unit → Shared → Prop} (at1 : s.heap.get? l = some { cls := .type "list", data := .seq old n1 })
    (at2 : s.heap.get? b = some { cls := .type "list", data := .seq new n2 }) (ne : l ≠ b) (cut : s.heap.IsSliceOf sl v1 v2 .none) (p1 : IsPart v1 (some (lo : Int))) (p2 : IsPart v2 (some (hi : Int))) (h1 : lo ≤ hi) (h2 : lo ≤ old.size)
    (room : old.size + new.size ≤ sizeLine) (k : Q () { s with heap := s.heap.update l (Obj.mapSeq fun z => z.extract 0 lo ++ new ++ z.extract (min hi old.size) z.size) }) :
    wpAny (model prog w) A (setItem (.ref l) (.ref sl) (.ref b)) Q E s := by
  have is1 : s.heap.IsList l old := PySem.IsL.isList at1; have is2 : s.heap.IsList b new := PySem.IsL.isList at2
  obtain ⟨ob, hob, cob, dob⟩ := id cut
  have isc : s.TypeIs (.ref sl) "slice" := ⟨ob, hob, cob⟩
  have diff : Builtin.List.listSameRef (.ref l) (.ref b) = false := beq_eq_false_iff_ne.mpr ne
  have end_ : (max (lo : Int) ((min hi old.size : Nat) : Int)).toNat = min hi old.size := by omega
  have room2 : ((fun z : Array Value => z.extract 0 lo ++ new ++ z.extract (min hi old.size) z.size) old).size ≤ sizeLine + 1 := by
    simp only [Array.size_append, Array.size_extract]; omega
  unfold setItem
  try with_reducible refine wpAny_holding ?_
  try refine wpAny_bind (wpAny_pure ?_)
  refine wpAny_bind (wpAny_sequenceKey is1.typeIs (by decide) ?_)
  refine wpAny_bind (wpAny_callSpecial?_slot (name := Str.ofString "__setitem__") is1.typeIs slot_list_setitem (wpAny_call_entry slot_list_setitem is1.typeIs entry_list_setitem ?_ (args_list_setitem _ _ _)))
  show wpAny _ _ (Builtin.List.listSubscript? (.ref sl) >>= _) _ _ s
  unfold Builtin.List.listSubscript?
  refine wpAny_bind (wpAny_bind (wpAny_specialOf isc slice_no_index ?_))
  simp only [Option.isNone_none, if_true]
  refine wpAny_pure ?_
  show wpAny _ _ (typeOf (.ref sl) >>= _) _ _ s
  refine wpAny_bind (wpAny_typeOf isc ?_)
  first | rw [if_neg (by decide)] | refine PySem.W.KFB.if_not (by decide) ?_
  rw [listSliceParts_eq]
  refine wpAny_bind (wpAny_bind (wpAny_field hob dob (x := .none) rfl (wpAny_bind (wpAny_listPart .none ?_))))
  rw [if_neg (show ¬ ((rawPart none == rawInt 0) = true) from Bool.false_ne_true)]
  refine wpAny_bind (wpAny_field hob dob (x := v1) rfl (wpAny_bind (wpAny_listPart p1 ?_)))
  refine wpAny_bind (wpAny_field hob dob (x := v2) rfl (wpAny_bind (wpAny_listPart p2 (wpAny_pure ?_))))
  first | simp only [diff, Bool.false_eq_true, if_false] | refine PySem.W.KFB.if_not diff ?_
  refine wpAny_bind (m := Builtin.List.listAllItems (.ref b) "must assign iterable to extended slice") ?_
  unfold Builtin.List.listAllItems
  refine wpAny_bind (wpAny_typeOf is2.typeIs ?_)
  first | refine PySem.W.KFB.if_so (by decide) ?_ | rw [if_pos (by decide)] | simp only [beq_self_eq_true, Bool.true_or, if_true]
  unfold Builtin.List.listItems
  refine wpAny_bind (wpAny_seqItems at2 rfl (wpAny_pure ?_))
  refine wpAny_bind (wpAny_bind (wpAny_seqItems at1 rfl (wpAny_pure ?_)))
  refine wpAny_bind (wpAny_of_eq ((sliceIndices_raw (some (lo : Int)) (some (hi : Int)) none old.size (by simp)).trans (congrArg (pure : Int × Int × Int → Sem (Int × Int × Int)) (cut_bounds h1 h2))) ?_)
  show wpAny _ _ (if ((1 : Int) == 1) = true then _ else _) _ _ s
  rw [if_pos (by decide)]
  refine wpAny_bind (wpAny_rule ?_)
  first | simp only [notLongL room, Bool.false_eq_true, if_false] | refine PySem.W.KFB.if_not (notLongL room) ?_
  try refine wpAny_bind (wpAny_pure ?_)
  show wpAny _ _ (updateSeq l (fun z => z.extract 0 ((lo : Int)).toNat ++ new ++ z.extract (max (lo : Int) ((min hi old.size : Nat) : Int)).toNat z.size) >>= _) _ _ s
  rw [end_, Int.toNat_natCast]
  refine wpAny_bind (wpAny_updateSeq (hz := Nat.le_trans (Nat.le_add_right _ _) room) (_hz' := room2) at1 rfl (wpAny_bind (wpAny_letGo ?_)))
  first | exact wpAny_bind (wpAny_pure (wpAny_pure ⟨.none, rfl, wpAny_pure k⟩)) | exact wpAny_pure ⟨.none, rfl, wpAny_pure k⟩
end
/-- a slice object, its two ends -/
def CutO (p : Addr) (a c : Int) : HO := .ext fun h => ∃ v1 v2, h.IsSliceOf p v1 v2 .none ∧ IsPart v1 (some a) ∧ IsPart v2 (some c)
section
variable {X : Cx} {io : Nat → Bool} {W : WX} {rk : Nat} {c : Cf} {p p1 p2 p3 : Bool} {cl cl1 cl2 cl3 : Cls} {G G0 G1 G2 G' : Gh} {H H0 H1 H2 H' : Hp} {σ σ1 σ2 σ' : L2.St} {ρ ρ1 ρ2 ρ' : Rho}
theorem pe_cut {lo hi : Expr} {tl th : TO} {ps : Pos} (hl : PO X (some lo) tl) (hu : PO X (some hi) th) :
    PE X (.Slice (some lo) (some hi) none ps) (fun σ H Q => tl σ H fun l H2 => th σ H2 fun u H3 => ∃ a c, l = some a ∧ u = some c ∧ ∀ p, H3 p = none → Q (.ref p) (upd H3 p (CutO p a c))) := by
  refine ⟨fun pins s σ H Q I h => ?_⟩
  refine wpAny_Slice (thn (hl.run pins s σ H _ I h) fun v1 s1 ⟨l, H1, I1, k1, z1⟩ => thn (hu.run pins s1 σ H1 _ I1 z1) fun v2 s2 ⟨u, H2, I2, k2, z2⟩ => ?_)
  obtain ⟨a, c, rfl, rfl, k⟩ := z2
  rw [evalPart_none]
  refine wpAny_pure ?_
  refine ⟨.ref s2.heap.objs.size, _, I2.laid (t' := s2.toks) (o := CutO s2.heap.objs.size a c) (fun b ob q => Heap.get?_push_of_some _ q) (Nat.le_refl _) ?_, rfl, k _ (I2.hok.fresh (Nat.le_refl _))⟩
  have new : (s2.heap.push { cls := .type "slice", data := .fields #[v1, v2, .none] }).IsSliceOf s2.heap.objs.size v1 v2 .none := Heap.IsSliceOf.new ..
  obtain ⟨o, ho, _⟩ := id new
  refine ⟨⟨v1, v2, new, k1, k2⟩, ⟨o, ho⟩, fun h1 h2 p kk => ?_⟩
  obtain ⟨w1, w2, ⟨o, ho, r⟩, q1, q2⟩ := p
  exact ⟨w1, w2, ⟨o, kk o ho, r⟩, q1, q2⟩
def rCut : TSet := fun o i v H Q => ∃ l b sl xs ys a c, o = .ref l ∧ i = .ref sl ∧ v = .ref b ∧ H l = some (.lst xs) ∧ H b = some (.lst ys) ∧ l ≠ b ∧ H sl = some (CutO sl a c) ∧ 0 ≤ a ∧ a ≤ c ∧ a ≤ xs.length ∧ xs.length + ys.length ≤ sizeLine ∧
  Q (upd H l (.lst (xs.take a.toNat ++ ys ++ xs.drop c.toNat)))
theorem set_cut : PSet X rCut := by
  intro pins s σ H o i v ov iv u Q I r1 r2 r3 h
  obtain ⟨l, b, sl, xs, ys, a, c, rfl, rfl, rfl, hl, hb, ne, hs, h0, h1, h2, room, q⟩ := h
  cases r1; cases r2; cases r3
  obtain ⟨v1, v2, cut, p1, p2⟩ : ∃ v1 v2, s.heap.IsSliceOf sl v1 v2 .none ∧ IsPart v1 (some a) ∧ IsPart v2 (some c) := (I.hok sl _ hs).1
  obtain ⟨z1, its1, n1, m1, len1, at1⟩ := I.lstM hl
  obtain ⟨z2, its2, n2, m2, len2, at2⟩ := I.lstM hb
  obtain ⟨lo, rfl⟩ := Int.eq_ofNat_of_zero_le h0
  obtain ⟨hi, rfl⟩ := Int.eq_ofNat_of_zero_le (Int.le_trans h0 h1)
  simp only [Int.toNat_natCast] at q
  refine put_cut at1 at2 ne cut p1 p2 (by omega) (by rw [List.size_toArray]; omega) (by rw [List.size_toArray, List.size_toArray]; omega) ⟨_, I.lset (its' := its1.take lo ++ its2 ++ its1.drop (min hi its1.length)) (t' := s.toks) hl at1 ?_ ?_ ?_, q⟩
  · exact splice_eq its1 its2 lo (min hi its1.length)
  · have e : xs.drop hi = xs.drop (min hi its1.length) := by
      by_cases z : hi ≤ its1.length
      · rw [Nat.min_eq_left z]
      · rw [Nat.min_eq_right (by omega), List.drop_eq_nil_of_le (by omega), List.drop_eq_nil_of_le (by omega)]
    rw [e]
    exact ((m1.take _).append m2).append (m1.drop _)
  · rw [List.length_append, List.length_append, List.length_take, List.length_drop]
    omega
theorem pg_cut {o i : Expr} {to ti : TE} {t : TSet} {ps : Pos} (ho : PE X o to) (hi : PE X i ti) (hs : PSet X t)
    (ha : ∀ v, assign (.Subscript o i ps) X.env v = (do
      let at1 ← holding [v] (eval o X.env)
      let at2 ← holding [v, at1] (eval i X.env)
      standAt ps
      holding [v, at1, at2] (setItem at1 at2 v)
      release [at2, v, at1] []) := by intro _; rfl) : PG X (.Subscript o i ps) (gSub to ti t) := ⟨fun pins s σ H v u Q I r h => by
  rw [ha]
  refine wpAny_bind (wpAny_holding (thn (ho.run pins s σ H _ I h) fun a1 s1 ⟨x1, H1, I1, r1, z1⟩ => wpAny_bind (wpAny_holding (thn (hi.run pins s1 σ H1 _ I1 z1) fun a2 s2 ⟨x2, H2, I2, r2, z2⟩ => ?_))))
  exact wpAny_bind (wpAny_standAt (wpAny_bind (wpAny_holding (thn (hs pins s2 σ H2 x1 x2 v a1 a2 u _ I2 r1 r2 r z2) fun _ s3 ⟨H3, I3, z3⟩ => wpAny_release ⟨σ, H3, I3, z3⟩))))⟩
def sCut (i : Nat) (f : M) (l h : MO) : S := fun ρ => (f ρ).bind fun x => match lstOf x.2 i, x.1, l x.2, h x.2 with
  | some ds, .list es, .ok (some a, _), .ok (some c, _) => if 0 ≤ a ∧ a ≤ c ∧ a ≤ ds.length ∧ ds.length + es.length ≤ big then .ok (.nx, x.2.set i (some (1, .list (ds.take a.toNat ++ es ++ ds.drop c.toNat)))) else .bad
  | _, _, _, _ => .bad
theorem js_cut (i : Nat) {x : Str} {e lo hi : Expr} {f : M} {fl fh : MO} {pn ps pq pos : Pos} (he : J X io W p1 (.n 1) e f) (hlo : JO X io W true (some lo) fl) (hhi : JO X io W true (some hi) fh) (hN : X.N[i]? = some x := by rfl)
    (hv : Vis X.env.scope x := by first | exact Or.inl rfl | exact Or.inr (Or.inl rfl) | exact Or.inr (Or.inr rfl)) (hd : (x == ("__debug__" : Str)) = false := by decide) (hcd : (x == ("__classdict__" : Str)) = false := by decide)
    (hs : swapsWithSole [.Subscript (.Name x pn) (.Slice (some lo) (some hi) none pq) ps] e pos.line X.env = pure false := by rfl) (hw : swappedStores [.Subscript (.Name x pn) (.Slice (some lo) (some hi) none pq) ps] e X.env = pure none := by rfl)
    (h1 : (assignEach [.Subscript (.Name x pn) (.Slice (some lo) (some hi) none pq) ps] X.env).map (·.2) = [assign (.Subscript (.Name x pn) (.Slice (some lo) (some hi) none pq) ps) X.env] := by rfl)
    (ha : ∀ v, assign (.Subscript (.Name x pn) (.Slice (some lo) (some hi) none pq) ps) X.env v = (do
      let at1 ← holding [v] (eval (.Name x pn) X.env)
      let at2 ← holding [v, at1] (eval (.Slice (some lo) (some hi) none pq) X.env)
      standAt ps
      holding [v, at1, at2] (setItem at1 at2 v)
      release [at2, v, at1] []) := by intro _; rfl) : JS X io W rk (.Assign [.Subscript (.Name x pn) (.Slice (some lo) (some hi) none pq) ps] e pos) (sCut i f fl fh) :=
  psI (ps_asg he.pe (pg_cut (pe_var (i := i) hN hv hd hcd) (pe_cut hlo.po hhi.po) set_cut ha) hs hw h1) fun D σ H q => by
  obtain ⟨G, ρ, re, q⟩ := q
  refine ⟨G, ρ, re, (GoodS.expr re.gi q).mono fun d ρ1 G1 H1 s1 re1 q1 v r => ?_⟩
  dsimp only at q1
  cases hl : lstOf ρ1 i with
  | none => rw [hl] at q1; exact q1.elim
  | some ds =>
    obtain ⟨A, tr, nd, fresh⟩ := r
    cases d <;> try (rw [hl] at q1; exact q1.elim)
    case list es =>
      cases hf : fl ρ1 with
      | bad => rw [hl, hf] at q1; exact q1.elim
      | exc z => rw [hl, hf] at q1; exact q1.elim
      | ok y =>
        obtain ⟨oa, ρ2⟩ := y
        cases hlo.pu rfl _ _ _ hf
        cases oa with
        | none => rw [hl, hf] at q1; exact q1.elim
        | some a =>
          cases hg : fh ρ1 with
          | bad => rw [hl, hf, hg] at q1; exact q1.elim
          | exc z => rw [hl, hf, hg] at q1; exact q1.elim
          | ok y =>
            obtain ⟨oc, ρ2⟩ := y
            cases hhi.pu rfl _ _ _ hg
            cases oc with
            | none => rw [hl, hf, hg] at q1; exact q1.elim
            | some c =>
              rw [hl, hf, hg] at q1
              dsimp only at q1
              by_cases hz : 0 ≤ a ∧ a ≤ c ∧ a ≤ ds.length ∧ ds.length + es.length ≤ big
              · rw [if_pos hz] at q1
                obtain ⟨a0, xs, e1, e2, e3, e4⟩ := re1.list1 (lstOf_eq hl)
                refine ⟨_, e1, G1, ρ1, re1, ?_⟩
                rw [hf]
                intro G2 H2 s2 re2
                have s2 : Ext G1 H1 G2 H2 := s2
                refine ⟨G2, ρ1, re2, ?_⟩
                rw [hg]
                intro G3 H3 s3 re3
                have s3 : Ext G2 H2 G3 H3 := s3
                refine ⟨a, c, rfl, rfl, fun sp hp => ?_⟩
                have gr : Gr H3 (upd H3 sp (CutO sp a c)) := Gr.upd hp
                have re4 := re3.gr gr
                have all := (s2.trans s3).trans (gr.ext (G := G3))
                have st : Stp io G1 H1 G3 (upd H3 sp (CutO sp a c)) := Ext.stp re1.gi all
                obtain ⟨a', xs', f1, f2, f3, f4⟩ := re4.list1 (lstOf_eq hl)
                rw [e1] at f1
                cases f1
                cases tr with
                | atom _ z => cases z
                | lst hb tl =>
                  rename_i b ys A
                  have rb := (RepL.of_tr0 tl).1
                  have hb2 : upd H3 sp (CutO sp a c) b = some (.lst ys) := all.h _ _ hb
                  have gb := (fresh b (List.mem_cons_self ..)).1
                  have hb0 := (fresh b (List.mem_cons_self ..)).2
                  have ne : a0 ≠ b := fun z => by
                    obtain ⟨v, B, b1, b2, _, b4⟩ := re1.at_ i 1 _ (lstOf_eq hl)
                    rw [e1] at b1
                    cases b1
                    cases b2 with
                    | atom _ z => cases z
                    | lst hb tl =>
                      have own := b4 a0 (List.mem_cons_self ..)
                      rw [z, gb] at own
                      cases own
                  have ry := rb.stp st
                  obtain ⟨g1, g2⟩ := f4 (xs'.take a.toNat ++ ys ++ xs'.drop c.toNat) (ds.take a.toNat ++ es ++ ds.drop c.toNat) (((f3.takeN _).append ry).append (f3.dropN _))
                  refine ⟨a0, b, sp, xs', ys, a, c, rfl, rfl, rfl, f2, hb2, ne, upd_same, hz.1, hz.2.1, by rw [f3.length]; exact hz.2.2.1, by rw [f3.length, rb.length, ← big_eq]; exact hz.2.2.2, ?_⟩
                  exact q1 σ _ _ Kio.refl (st.trans (g2 io)) g1
              · rw [if_neg hz] at q1; exact q1.elim
end
end Nc
namespace Nc
open PySem PySem.Spec L2
open PyProof.Rows hiding St
section
variable {X : Cx} {io : Nat → Bool} {W : WX} {c : Cf} {G : Gh} {H : Hp}
theorem repL_strs : ∀ xs : List Str, RepL c G H ((xs.map He.Dv.str).map (He.Dv.v c.K)) (xs.map PyData.str)
  | [] => .nil
  | x :: xs => .cons (.str x) (repL_strs xs)
theorem j_gtup (xs : List Str) {x : Str} {pos} (ht : He.tupB X.K x (xs.map He.Dv.str) = true) (hm : X.mg x = some (.ref (He.ga X.K x))) (hg : Gl X x := by rfl) (hd : (x == ("__debug__" : Str)) = false := by decide) :
    J X io W true .f (.Name x pos) (mC (.tuple (xs.map PyData.str))) :=
  j_c (pe_glob hg hm (v := .ref (He.ga X.K x)) rfl hd) fun _ H => .tup (He.tupB_ok ht H) (repL_strs (c := cfX X) xs)
end
/-- a test by cases -/
def tIfM (t f g : MT) : MT := fun ρ => (t ρ).bind fun x => if x.1 = true then f x.2 else g x.2
section
variable {X : Cx} {io : Nat → Bool} {W : WX} {p1 p2 : Bool} {σ : L2.St} {H : Hp}
theorem jt_ifE {e a b : Expr} {t f g : MT} {pos : Pos} (ht : JT X io W p1 e t) (ha : JT X io W p2 a f) (hb : JT X io W p2 b g) : JT X io W (p1 && p2) (.IfExp e a b pos) (tIfM t f g) := by
  refine ⟨⟨fun pins s σ H Q I h => ?_⟩, fun e => ?_⟩
  · obtain ⟨G, ρ, re, q⟩ := h
    show wpAny (model X.prog X.w) X.A (isTrue e X.env (eval e X.env) >>= fun c => if c then isTrue a X.env (eval a X.env) else isTrue b X.env (eval b X.env)) _ _ s
    refine wpAny_bind (thn (ht.pt.run pins s σ H (fun d H1 => ∃ G1 ρ1, RE (cfX X) G1 σ H1 ρ1 ∧ Good X io W p2 σ G1 H1 (if d = true then f ρ1 else g ρ1) fun d _ _ H' => Q d H') I ⟨G, ρ, re, ?_⟩) fun d s1 ⟨H1, I1, q1⟩ => ?_)
    · exact (Good.bind (p1 := p1) (p2 := p2) re.gi q).mono fun d ρ1 G1 H1 s1 re1 q1 => ⟨G1, ρ1, re1, q1⟩
    · obtain ⟨G1, ρ1, re1, q1⟩ := q1
      cases d with
      | true => exact ha.pt.run pins s1 σ H1 Q I1 ⟨G1, ρ1, re1, q1⟩
      | false => exact hb.pt.run pins s1 σ H1 Q I1 ⟨G1, ρ1, re1, q1⟩
  · obtain ⟨e1, e2⟩ := and_t e
    refine pu_bind (ht.pu e1) fun b ρ z ρ' e => ?_
    cases b with
    | true => exact ha.pu e2 ρ z ρ' e
    | false => exact hb.pu e2 ρ z ρ' e
end
theorem fc_bad {P : Program} {w : World} {K : PySem.W.Frag} {mg : Str → Option Value} {base : Heap} {x : Str} {qual : Str} {params : _} {body : _} {scope : _} {dvs kws : _} {f : Addr} {fd : FuncData} {fc : Fc} {k : Nat} {N ps : List Str}
    (F : FunD K x qual params body scope dvs kws f fd) (Sc : FnScope N ps scope) (hp : ps.length = fc.ms.length) (hF : ∀ ds, fc.F ds = .bad) : FnOk P w K mg base (L2N.CX P w) (k + 1) f fd ps (spF ⟨P, w, K⟩ mg fc) := by
  refine F.ok Sc (fun vs H Q E h => ?_) (fun cdv A outer s0 H vs Q E hr h => ?_)
  · obtain ⟨G, ds, h1, _⟩ := h
    rw [h1, hp]
  · obtain ⟨G, ds, h1, h2, nr, ow, re, h3⟩ := h
    rw [hF] at h3
    exact h3.elim
end Nc
namespace Nc
open PySem PySem.Spec L2
open PyProof.Rows hiding St
open PySem.W (alike AllAlike Sortable dataLe EachIs dataKind SortsAt KeepsBut KeyedOut)
/-- the key of an int is the int, alone in a tuple -/
def keyOk (F : List D → R D) : D → Bool
  | .int i => match F [.int i] with
    | .ok (.tuple [.int j]) => i == j
    | _ => false
  | _ => false
def dSortK (F : List D → R D) : D → Option D
  | .list ds => if ds.all (keyOk F) = true then sortD ds else none
  | _ => none
theorem keyOk_of {F : List D → R D} {d : D} (h : keyOk F d = true) : ∃ i, d = .int i ∧ F [.int i] = .ok (.tuple [.int i]) := by
  unfold keyOk at h
  split at h
  · rename_i i
    split at h
    · rename_i j e
      refine ⟨i, rfl, ?_⟩
      rw [e, eq_of_beq h]
    · cases h
  · cases h
section
variable {X : Cx} {c : Cf} {G G' : Gh} {H H' : Hp} {pins : List (Addr × Obj)} {σ : L2.St} {s : Shared} {F : List D → R D}
theorem ints_each : ∀ {xs : List V} {its : List Value} {ds : List D}, RepL c G H xs ds → L2.Vals xs its → ds.all (keyOk F) = true →
    ∃ ns : List Int, ds = ns.map PyData.int ∧ EachIs (fun v n => ∃ t, v = Value.int n t) its ns ∧ ∀ n ∈ ns, F [.int n] = .ok (.tuple [.int n])
  | _, _, _, .nil, .nil, _ => ⟨[], rfl, .nil, fun n h => absurd h (by simp)⟩
  | _, _, _, .cons h r, .cons q t, e => by
    obtain ⟨e1, e2⟩ := Bool.and_eq_true_iff.mp e
    obtain ⟨ns, rfl, h1, h2⟩ := ints_each r t e2
    obtain ⟨i, rfl, hi⟩ := keyOk_of e1
    cases h
    exact ⟨i :: ns, rfl, .cons q h1, fun n hn => by
      rcases List.mem_cons.mp hn with rfl | hn
      · exact hi
      · exact h2 n hn⟩
/-- within the sort: two calls deeper, nothing may be raised -/
abbrev inX (X : Cx) : Cx := { X with A := X.A.in1.in1, xe := fun _ _ => False }
theorem to_in (I : Inv X pins σ H s) : Inv (inX X) pins σ H s :=
  ⟨⟨I.ok.mod, I.ok.kind, I.ok.glob, I.ok.blt, I.ok.above, I.ok.inj, I.ok.has, I.ok.cab, I.ok.hd, I.ok.frames, I.ok.stk, I.ok.exf, I.ok.bs, I.ok.bsz, I.ok.noex, I.ok.exfs, I.ok.funs, I.ok.frf⟩, I.os, I.bare, I.base, I.loc, I.cell, I.free, I.freeC, I.pin, I.hok, I.len⟩
theorem to_out (ok : X.Ok) (I : Inv (inX X) pins σ H s) : Inv X pins σ H s :=
  ⟨ok, I.os, I.bare, I.base, I.loc, I.cell, I.free, I.freeC, I.pin, I.hok, I.len⟩
theorem Gr.tr {H1 : Hp} (a : Gr H H') (b : Gr H' H1) : Gr H H1 := fun x o h => b x o (a x o h)
variable {k : Nat} {f : Addr} {fd : FuncData} {ps : List Str}
/-- one key -/
theorem key_turn (Fo : FnOk X.prog X.w X.K X.mg X.base (L2N.CX X.prog X.w) k f fd ps (spF (cfX X) X.mg (fcP 1 0 F))) (hr : Room k X.A.in1.in1) (hb : Binds X.K fd ps [])
    (I : Inv (inX X) pins σ H s) {i : Int} {t : Tok} (hF : F [.int i] = .ok (.tuple [.int i])) :
    wpAny (model X.prog X.w) X.A.in1.in1 (call (.ref f) [.int i t]) (fun v s' => ∃ H', Inv (inX X) pins σ H' s' ∧ Gr H H' ∧ ∃ a, v = .ref a ∧ SqT X.K H' a [.int i]) (fun _ _ => False) s := by
  have h := run_fn (X := inX X) (E := fun _ _ _ => False) (ds := []) (dvs := []) (us := [.int i t]) (vs := [.int i]) (Q := fun v H' => Gr H H' ∧ ∃ a, v = .ref a ∧ SqT X.K H' a [.int i]) Fo hr hb .nil
    (fun pins σ H s e s' _ h => by
      obtain ⟨_, _, _, _, _, _, _, _, _, _, _, _, q⟩ := h
      exact q) I (.cons ⟨t, rfl⟩ .nil) ?_
  · refine wpAny_mono h (fun v s' h => ?_) fun _ _ h => h
    obtain ⟨x, H', I', r, g, a, rfl, q⟩ := h
    cases r
    exact ⟨H', I', g, a, rfl, q⟩
  · refine ⟨fun _ => none, [.int i], rfl, rfl, fun a e => (nomatch e), fun a i e => (nomatch e), ⟨rfl, fun a h => absurd rfl h, fun j k d e => ?_⟩, ?_⟩
    · cases j with
      | zero => cases e; exact ⟨.int i, [], rfl, .leaf (.int i), List.nodup_nil, fun a h => absurd h (by simp)⟩
      | succ j => exact absurd e (by simp [ins, fcP])
    · show EndF (cfX X) X.mg (fcP 1 0 F) _ _ _ _ _ ((F [.int i]).bind _)
      rw [hF]
      intro v G' H' st _ n
      obtain ⟨A, tr, _, _⟩ := n
      cases tr with
      | leaf r =>
        obtain ⟨a, xs, rfl, ha, ra⟩ := (Rd1.rep r).sqT
        cases ra with
        | cons r1 r2 =>
          cases r2
          cases r1
          exact ⟨fun b o e => st.kp b o e fun i z => (nomatch z), a, rfl, ha⟩
theorem cne_new (I : Inv X pins σ H s) {b : Addr} (hb : s.heap.objs.size ≤ b) : ∀ x c, X.env.cells.lookup x = some c → c ≠ b := fun x c e z => by
  obtain ⟨v, o, ho, _⟩ := I.cell x c e
  subst z
  exact absurd (Heap.lt_size ho) (Nat.not_lt_of_le hb)
theorem pin_new (I : Inv X pins σ H s) {b : Addr} (hb : s.heap.objs.size ≤ b) : ∀ p ∈ X.pn ++ pins, p.1 ≠ b := fun p hp z => by
  have h := (I.pin p hp).1
  rw [z] at h
  exact absurd (Heap.lt_size h) (Nat.not_lt_of_le hb)
/-- two own objects more are known -/
theorem pin_two (I : Inv X pins σ H s) {a b : Addr} {oa ob : Obj} (ha : s.heap.get? a = some oa) (hb : s.heap.get? b = some ob) (na : H a = none) (nb : H b = none) (la : a ≠ X.env.locals) (lb : b ≠ X.env.locals) (fa : a ∉ X.fs) (fb : b ∉ X.fs)
    (ca : ∀ v, oa.data ≠ .cell v) (cb : ∀ v, ob.data ≠ .cell v) : Inv X (pins ++ [(a, oa), (b, ob)]) σ H s := by
  refine I.pins_of fun p hp => ?_
  rcases List.mem_append.mp hp with hp | hp
  · exact I.pin p (List.mem_append_right _ hp)
  · rcases List.mem_cons.mp hp with rfl | hp
    · exact ⟨ha, na, la, fa, ca⟩
    · rw [List.mem_singleton.mp hp]
      exact ⟨hb, nb, lb, fb, cb⟩
theorem seq_no_cell {T : String} {xs : Array Value} {n : Nat} : ∀ v, (seqObj T xs n).data ≠ .cell v := fun v h => by cases h
theorem kp_reads {u : Value} {n : Int} (I : Inv X pins σ H s) {a : Addr} (e : u = .ref a) (q : SqT X.K H a [.int n]) : ∃ as, Reads s.heap u (.tuple [.int n]) as := by
  subst e
  obtain ⟨its, rv, ⟨o, ho, hc, m, hd⟩, _⟩ := I.tuple q
  obtain ⟨w, rfl, t, rfl⟩ := vals1 rv
  exact ⟨_, Reads.tuple ho hc hd (.cons (.int _ _) .nil)⟩
theorem vals_ints : ∀ {out : List Value} {ms : List Int}, EachIs (fun v n => ∃ t, v = Value.int n t) out ms → L2.Vals (ms.map V.int) out
  | _, _, .nil => .nil
  | _, _, .cons h r => .cons h (vals_ints r)
theorem rep_ints : ∀ {ms : List Int}, RepL c G H (ms.map V.int) (ms.map PyData.int)
  | [] => .nil
  | n :: _ => .cons (.int n) rep_ints
theorem dLe_one : dataLe (β := Int) false (fun n => .tuple [.int n]) = dataLe false (fun n => .int n) := by
  funext a b
  show (!PySem.W.dataLt (.tuple [.int b]) (.tuple [.int a])) = (!PySem.W.dataLt (.int b) (.int a))
  rw [PySem.W.dataLt_tuple, PySem.W.dataLt_cons (by simp [alike]), PySem.W.dataLt_int]
  simp only [PyData.eqv, beq_iff_eq]
  by_cases h : b = a
  · rw [if_pos h]
    have e : PyProof.Rows.lexLt PyProof.Rows.itemOrd (PySem.W.keyToksAll []) (PySem.W.keyToksAll []) = false := PyProof.Rows.lex_irrefl _
    rw [e, h]
    simp
  · rw [if_neg h]
def rSK (c : Cf) (f : Addr) (F : List D → R D) : List V → List V → Hp → VK → Prop := fun xs zs H Q => ∃ G d z x, xs = [x] ∧ zs = [.ref f] ∧ GI G H ∧ Rd1 c G H x d ∧ dSortK F d = some z ∧ Out c G H z Q
theorem call_sortK (Fo : FnOk X.prog X.w X.K X.mg X.base (L2N.CX X.prog X.w) k f fd ps (spF (cfX X) X.mg (fcP 1 0 F))) (hr : Room (k + 2) X.A) (hb : Binds X.K fd ps []) (hu : X.A.units + 80 < cLine) :
    CallRK X (.builtin "sorted") [Str.ofString "key"] (rSK (cfX X) f F) := by
  intro pins s σ H vs zs us ws Q I r rz h
  obtain ⟨G, d, z, x, rfl, rfl, gi, hd, hz, o⟩ := h
  obtain ⟨w1, rfl, e1⟩ := vals1 rz
  obtain rfl : w1 = Value.ref f := e1
  cases d <;> try (exact nomatch (show (none : Option D) = some z from hz))
  rename_i ds
  have hz : (if ds.all (keyOk F) = true then sortD ds else none) = some z := hz
  split at hz
  case isFalse => cases hz
  rename_i hk
  obtain ⟨⟨_, _, _, h4⟩, hz⟩ := ifS hz
  subst hz
  obtain ⟨l, xs, rfl, hl, ra⟩ := hd.sqL
  obtain rfl := Vals.ref1 r
  obtain ⟨its, rv, pl, hz2⟩ := I.list hl
  obtain ⟨ns, rfl, en, hF⟩ := ints_each ra rv hk
  have hL : its.length ≤ sizeLine := by rw [← rv.length]; exact hz2
  have hr2 : Room k X.A.in1.in1 := Room.in1 (Room.in1 hr)
  refine PySem.W.sorted_of_sort (vs := its) pl.isList hL (ksk_s1 _ _) (fun _ => ksk_l1 _ _) fun E' => ?_
  show wpAny (model X.prog X.w) X.A.in1.in1 (Builtin.«list.sort» ⟨[.ref (s.heap.objs.size + 1)], [(Str.ofString "key", .ref f)]⟩) _ _ _
  rw [ksk_t1]
  obtain ⟨a, ea⟩ : ∃ a, a = s.heap.objs.size + 1 := ⟨_, rfl⟩
  obtain ⟨kS, ek⟩ : ∃ kS, kS = (((PySem.W.copyHeap s.heap its).update a (Obj.mapSeq fun _ => (#[] : Array Value))).push (seqObj "tuple" its.toArray 0)).objs.size := ⟨_, rfl⟩
  have ho : (PySem.W.copyHeap s.heap its).get? a = some (seqObj "list" its.toArray 0) := by rw [ea]; exact PySem.W.copyHeap_at s.heap its
  rw [← ea]
  obtain ⟨ep1, ho1⟩ : ∃ e1, ((PySem.W.copyHeap s.heap its).update a (Obj.mapSeq fun _ => (#[] : Array Value))).get? a = some (seqObj "list" #[] e1) := ⟨_, get?_update_seq ho fun _ => #[]⟩
  have haS : s.heap.objs.size ≤ a := by rw [ea]; exact Nat.le_succ _
  have hkS0 : a < kS := by
    rw [ek, size_push', Heap.size_update]
    exact Nat.lt_succ_of_lt (Heap.lt_size ho)
  have hkS : s.heap.objs.size ≤ kS := Nat.le_of_lt (Nat.lt_of_le_of_lt haS hkS0)
  have hka : kS ≠ a := Nat.ne_of_gt hkS0
  unfold ksk_tree
  refine wpAny_bind (listItems_at ho rfl ?_)
  refine wpAny_bind (listUpdate_at ho rfl ?_ (by rw [List.size_toArray]; exact hL) (Nat.zero_le _))
  refine wpAny_bind (seqEpoch_at ho1 rfl ?_)
  refine wpAny_bind (wpAny_newTuple ?_ (by show its.length ≤ _; exact hL))
  refine wpAny_bind (wpAny_newList ?_ (Nat.zero_le _))
  refine wpAny_holding ?_
  try dsimp only
  rw [← ek]
  have keep0 : ∀ b u, s.heap.get? b = some u → ((((PySem.W.copyHeap s.heap its).update a (Obj.mapSeq fun _ => (#[] : Array Value))).push (seqObj "tuple" its.toArray 0)).push (seqObj "list" #[] 0)).get? b = some u := fun b u e =>
    PySem.W.sortingHeap_old (Nat.ne_of_lt (Nat.lt_of_lt_of_le (Heap.lt_size e) haS)) (PySem.W.copyHeap_old e)
  have nk0 : ((((PySem.W.copyHeap s.heap its).update a (Obj.mapSeq fun _ => (#[] : Array Value))).push (seqObj "tuple" its.toArray 0)).push (seqObj "list" #[] 0)).get? kS = some (seqObj "list" #[] 0) := by rw [ek]; exact Heap.get?_push_size _ rfl
  have na0 : ((((PySem.W.copyHeap s.heap its).update a (Obj.mapSeq fun _ => (#[] : Array Value))).push (seqObj "tuple" its.toArray 0)).push (seqObj "list" #[] 0)).get? a = some (seqObj "list" #[] ep1) := Heap.get?_push_of_some _ (Heap.get?_push_of_some _ ho1)
  generalize ((((PySem.W.copyHeap s.heap its).update a (Obj.mapSeq fun _ => (#[] : Array Value))).push (seqObj "tuple" its.toArray 0)).push (seqObj "list" #[] 0)) = h0 at keep0 nk0 na0 ⊢
  have la : a ≠ X.env.locals := Nat.ne_of_gt (Nat.lt_of_lt_of_le I.lt haS)
  have lk : kS ≠ X.env.locals := Nat.ne_of_gt (Nat.lt_of_lt_of_le I.lt hkS)
  have fa := I.nofs haS
  have fk := I.nofs hkS
  have ck := cne_new I hkS
  have ca := cne_new I haS
  have pk := pin_new I hkS
  have pa := pin_new I haS
  have I0 : Inv X pins σ H { s with heap := h0 } := I.kept (t' := s.toks) keep0
  have J0 : Inv (inX X) (pins ++ [(a, seqObj "list" #[] ep1), (kS, seqObj "list" #[] 0)]) σ H { s with heap := h0 } :=
    pin_two (to_in I0) na0 nk0 (I.hok.fresh haS) (I.hok.fresh hkS) la lk fa fk seq_no_cell seq_no_cell
  have gens0 : True := trivial
  unfold ksk_rest
  refine wpAny_bind (wpAny_rule ?_)
  first
    | rw [List.forIn_toArray]
    | (rw [← Array.forIn_toList]; simp only [List.toList_toArray])
    | rw [← Array.forIn_toList]
  refine wpAny_bind (ksk_fold (fun i s' => ∃ H' kA e, Inv (inX X) (pins ++ [(a, seqObj "list" #[] ep1), (kS, seqObj "list" kA e)]) σ H' s' ∧ Gr H H' ∧ EachIs (fun v n => ∃ b, v = Value.ref b ∧ SqT X.K H' b [.int n]) kA.toList (ns.take i)) its 0 _
    ⟨H, #[], 0, J0, Gr.refl H, by rw [List.take_zero]; exact EachIs.nil⟩ ?step ?done)
  case step =>
    rintro j x s' hx ⟨H', kA, e, I', g', hk'⟩
    simp only [Nat.zero_add] at hk' ⊢
    obtain ⟨n, hn, t, rfl⟩ : ∃ n, ns[j]? = some n ∧ ∃ t, x = Value.int n t := by
      have hl := en.length
      obtain ⟨h1, h2⟩ := List.getElem?_eq_some_iff.mp hx
      obtain ⟨n, hn⟩ : ∃ n, ns[j]? = some n := ⟨_, List.getElem?_eq_getElem (by omega)⟩
      exact ⟨n, hn, en.zip (x, n) (List.mem_of_getElem? (i := j) (by rw [List.getElem?_zip_eq_some]; exact ⟨hx, hn⟩))⟩
    have hzk : kA.size ≤ its.length := by
      have h1 := hk'.length
      have h2 := (List.getElem?_eq_some_iff.mp hx).1
      rw [Array.length_toList, List.length_take] at h1
      omega
    refine wpAny_bind (wpAny_attempt (wpAny_mono (key_turn Fo hr2 hb I' (hF n (List.mem_of_getElem? hn))) (fun v s'' he => ?_) fun _ _ hF => hF.elim))
    obtain ⟨H2, I2, g2, b, rfl, q2⟩ := he
    try dsimp only
    have hpin := I2.pin
    have pK := hpin (kS, seqObj "list" kA e) (by simp)
    have pA := hpin (a, seqObj "list" #[] ep1) (by simp)
    have s1 := Heap.SameBut.update s''.heap kS (Obj.mapSeq (·.push (Value.ref b)))
    obtain ⟨c2, hc2⟩ : ∃ c2, (s''.heap.update kS (Obj.mapSeq (·.push (Value.ref b)))).get? kS = some (seqObj "list" (kA.push (.ref b)) c2) := ⟨_, get?_update_seq pK.1 (·.push (Value.ref b))⟩
    have ek1 : ns.take (j + 1) = ns.take j ++ [n] := by rw [List.take_add_one, hn]; simp
    have ea1 : (kA.push (Value.ref b)).toList = kA.toList ++ [Value.ref b] := by simp
    refine wpAny_bind (listUpdate_at pK.1 rfl ?_ (Nat.le_trans hzk hL) (Nat.le_trans (Nat.le_of_eq (Array.size_push ..)) (Nat.succ_le_succ (Nat.le_trans hzk hL))))
    have I3 : Inv (inX X) pins σ H2 s'' := I2.pins_of fun p hp => hpin p (by
      rcases List.mem_append.mp (List.mem_append_right X.pn hp) with h | h
      · exact List.mem_append_left _ h
      · exact List.mem_append_right _ (List.mem_append_left _ h))
    have I4 := I3.turned (t' := s''.toks) (h' := s''.heap.update kS (Obj.mapSeq (·.push (Value.ref b)))) (it := kS) (fun b' o hb' e => (s1.2 b' hb').trans e) pK.2.1 lk (.inr (Nat.le_trans I.sz hkS)) ck pk
    refine wpAny_pure ⟨rfl, H2, kA.push (.ref b), c2, pin_two I4 ((s1.2 a hka.symm).trans pA.1) hc2 pA.2.1 pK.2.1 la lk fa fk seq_no_cell seq_no_cell, Gr.tr g' g2, ?_⟩
    rw [ea1, ek1]
    refine PySem.W.each_snoc (R := fun (v : Value) (n : Int) => ∃ b, v = Value.ref b ∧ SqT X.K H2 b [.int n]) ⟨b, rfl, q2⟩ (hk'.mono fun v n h => ?_)
    obtain ⟨b, e, q⟩ := h
    exact ⟨b, e, SqT.gr g2 q⟩
  case done =>
    rintro s' ⟨H', kA, e, I', g', hk'⟩
    have e3 : ns.take (0 + its.length) = ns := List.take_of_length_le (by rw [← en.length]; omega)
    rw [e3] at hk'
    have hpin := I'.pin
    have pK := hpin (kS, seqObj "list" kA e) (by simp)
    have pA := hpin (a, seqObj "list" #[] ep1) (by simp)
    have er : EachIs (fun v d => ∃ as, Reads s'.heap v d as) kA.toList (ns.map fun n => PyData.tuple [.int n]) :=
      PySem.W.each_map (R := fun v d => ∃ as, Reads s'.heap v d as) (fun n : Int => PyData.tuple [.int n]) (hk'.mono fun v n h => by
        obtain ⟨b, e, q⟩ := h
        exact kp_reads I' e q)
    have hal : AllAlike (ns.map fun n => PyData.tuple [.int n]) := PySem.W.AllAlike.of fun _ _ => by simp [alike, PySem.W.alikeAll]
    have hsk : Sortable (ns.map fun n => PyData.tuple [.int n]) := PySem.W.Sortable.tuples fun _ => ⟨_, _, rfl⟩
    have hsz : kA.size = its.length := by
      have h1 := hk'.length
      rw [Array.length_toList] at h1
      rw [h1, ← en.length]
    refine wpAny_bind (listItems_at pK.1 rfl ?_)
    obtain ⟨h₁, hp1, hp2⟩ := L2.restrict s'.heap fun b => !(b == kS)
    have kp1 : KeepsBut a h₁ s'.heap := fun b o _ e => by
      cases hbk : (b == kS) with
      | true =>
        have := hp2 b (by simp [hbk])
        rw [this] at e; cases e
      | false => rw [← hp1 b (by simp [hbk])]; exact e
    have n1 : h₁.get? kS = none := hp2 kS (by simp)
    refine PySem.W.keyH_end (κ := dataKind s'.heap (ns.map fun n => PyData.tuple [.int n])) (h₁ := h₁) kp1 n1 pK.1 pA.1 hka
      (SortsAt.data (s := s') er hal hsk fun d hd => ?_) hsz hL fun h3 tk3 c3 k3 n3 => ?_
    · obtain ⟨n, _, rfl⟩ := List.mem_map.mp hd
      show X.A.units + 1 + 1 + _ < _
      have : (PyData.tuple [.int n]).depth = 1 := by simp [PyData.depth, PyData.depthAll]
      omega
    · have ko : KeyedOut false (ns.map fun n => PyData.tuple [.int n]) its (PySem.W.sortVals (dataKind s'.heap (ns.map fun n => PyData.tuple [.int n])) false kA.toList its) := ⟨s'.heap, kA.toList, hal, rfl, er⟩
      have fin := PySem.W.keyedOut_each (fun n : Int => PyData.tuple [.int n]) ko en
      generalize PySem.W.sortVals (dataKind s'.heap (ns.map fun n => PyData.tuple [.int n])) false kA.toList its = out at n3 fin
      have es : (ns.map PyData.int).mergeSort (dataLe false id) = (ns.mergeSort (dataLe false fun n : Int => PyData.tuple [.int n])).map PyData.int := by
        rw [dLe_one]
        exact (List.map_mergeSort (f := PyData.int) (r := dataLe false fun n : Int => PyData.int n) (s := dataLe false id) (l := ns) fun x _ y _ => rfl).symm
      rw [es] at o
      have hlen : ((ns.mergeSort (dataLe false fun n : Int => PyData.tuple [.int n])).map V.int).length ≤ sizeLine := by
        rw [List.length_map, (List.mergeSort_perm _ _).length_eq, ← en.length]
        exact hL
      generalize ns.mergeSort (dataLe false fun n : Int => PyData.tuple [.int n]) = ms at fin o hlen
      have keepA : ∀ b o, b ≠ a → b ≠ kS → s'.heap.get? b = some o → h3.get? b = some o := fun b o hb hb' e => k3 b o hb (by rw [hp1 b (by simp [hb'])]; exact e)
      have I5 : Inv (inX X) pins σ H' s' := I'.pins_of fun p hp => hpin p (by
        rcases List.mem_append.mp (List.mem_append_right X.pn hp) with h | h
        · exact List.mem_append_left _ h
        · exact List.mem_append_right _ (List.mem_append_left _ h))
      have na : H' a = none := pA.2.1
      have nk : H' kS = none := pK.2.1
      have mem2 : ∀ {b : Addr}, b ∉ [a, kS] → b ≠ a ∧ b ≠ kS := fun h => ⟨fun z => h (by simp [z]), fun z => h (by simp [z])⟩
      have J : Inv (inX X) pins σ (upd H' a (.lst (ms.map V.int))) { s' with heap := h3, toks := tk3 } := by
        refine I5.step (g' := s'.gens) (d' := s'.drawn) (t' := tk3) (ch := [a, kS]) (fun b hb => ?_) (fun b o _ _ hc e _ => keepA b o (mem2 hc).1 (mem2 hc).2 e) (fun b o _ _ hc e _ => ⟨o.slots, keepA b o (mem2 hc).1 (mem2 hc).2 e⟩) (fun b o hc _ n => by rw [upd_ne (mem2 hc).1]; exact n)
          (fun b o hc e => ⟨o, keepA b o (mem2 hc).1 (mem2 hc).2 e⟩) (fun b xs e => by rw [upd_ne (ne_of_none e na)]; exact e) (fun b o u e => by rw [upd_ne (ne_of_none e na)]; exact e) (fun b ps e => ⟨#[], by rw [upd_ne (ne_of_none e na), e]; simp⟩) (fun m hm => ?_) (fun b u e => ?_) I5.bare
        · rcases List.mem_cons.mp hb with rfl | hb
          · exact ⟨.inr (Nat.le_trans I.sz haS), la, ca, pa⟩
          · rw [List.mem_singleton.mp hb]
            exact ⟨.inr (Nat.le_trans I.sz hkS), lk, ck, pk⟩
        · obtain ⟨o, es, ep, ho, r⟩ := hm
          exact ⟨o, es, ep, keepA _ o (Ne.symm la) (Ne.symm lk) ho, r⟩
        · by_cases hb : b = a
          · subst hb
            rw [upd_same] at e
            cases e
            exact ⟨hlen, out, c3, vals_ints fin, n3⟩
          · rw [upd_ne hb] at e
            have ne : ∀ c u, H' c = some u → c ≠ a ∧ c ≠ kS := fun c u q => ⟨ne_of_none q na, ne_of_none q nk⟩
            refine (I5.hok b u e).stay (fun c v hc q => ?_) (fun c q => by rw [upd_ne (ne_of_none q na)]; exact q) fun c xs q => by rw [upd_ne (ne_of_none q na)]; exact q
            rcases hc with rfl | hc
            · exact keepA _ v (ne _ _ e).1 (ne _ _ e).2 q
            · exact keepA _ v (ne _ _ hc).1 (ne _ _ hc).2 q
      refine ⟨rfl, .ref a, _, to_out I.ok J, rfl, ?_⟩
      have gi' : GI G H' := g'.gi gi
      exact o _ _ (Gr.tr g' (Gr.upd na)) (New.anti (fun b h => g'.dm h) (New.lst1 gi' na rep_ints))
end
section
variable {X : Cx} {io : Nat → Bool} {W : WX} {p : Bool} {cl : Cls} {k : Nat} {f : Addr} {fd : FuncData} {ps : List Str} {F : List D → R D}
theorem tSK_of {fa : M} (h1 : cl.st true = true) {σ : L2.St} {H : Hp} {Q : VK} (q : tJ X io W p (.n 1) (mU (dSortK F) fa) σ H Q) : tCKw (rSK (cfX X) f F) (tCons (tJ X io W p cl fa) tNil) (tCons (tC (.ref f)) tNil) σ H Q := by
  obtain ⟨G, ρ, re, q⟩ := q
  refine ⟨G, ρ, re, (good_bindT re.gi q).mono fun d ρ1 G1 H1 s1 re1 q1 v1 r1 => ?_⟩
  obtain ⟨z, e, o⟩ := Good.of (Q := Q) re1 q1 (H0 := H) (fun a h => (s1.stp re.gi).dm a h) fun d ρ' G' H' k v n => k v n
  exact ⟨G1, _, z, v1, rfl, rfl, re1.gi, r1.rd h1, e, o⟩
/-- sorted(a, key=y) -/
theorem j_sortK {a : Expr} {fa : M} {y : Str} {q1 q2 kp pos : Pos} (Fo : FnOk X.prog X.w X.K X.mg X.base (L2N.CX X.prog X.w) k f fd ps (spF (cfX X) X.mg (fcP 1 0 F))) (hr : Room (k + 2) X.A) (hy : X.mg y = some (.ref f)) (hb : Binds X.K fd ps []) (hu : X.A.units + 80 < cLine)
    (hm : X.mg "sorted" = none) (ha : J X io W p cl a fa) (h1 : cl.st true = true := by rfl) (hg : Gl X "sorted" := by rfl) (hgy : Gl X y := by rfl) (hdy : (y == ("__debug__" : Str)) = false := by decide)
    (hs : starEach [a] X.env = [(false, eval a X.env)] := by rfl) :
    J X io W p (.n 1) (.Call (.Name "sorted" q1) [a] [⟨some "key", .Name y q2, kp⟩] pos) (mU (dSortK F) fa) :=
  ⟨peI (pe_callBK (ks := [Str.ofString "key"]) (call_sortK Fo hr hb hu) hg hm rfl (pa1 ha hs) (pk_cons (pe_glob (v := .ref f) hgy hy rfl hdy) pk_nil) (by decide) (by decide) (by rw [hs]; rfl) (by rw [hs]; rfl) rfl rfl rfl) fun σ H Q q => tSK_of h1 q, fun e => pu_bind (ha.pu e) fun _ _ _ _ e => pu_of e⟩
end
end Nc
namespace Nc
open PySem PySem.Spec L2
open PyProof.Rows hiding St
def dGt1 : D → D → Option D
  | .tuple [.int a], .tuple [.int b] => some (.bool (decide (b < a)))
  | a, b => dGt a b
section
variable {X : Cx} {io : Nat → Bool} {W : WX} {rk : Nat} {c : Cf} {p p1 p2 p3 : Bool} {cl cl1 cl2 cl3 : Cls} {G G0 G1 G2 G' : Gh} {H H0 H1 H2 H' : Hp} {σ σ1 σ2 σ' : L2.St} {ρ ρ1 ρ2 ρ' : Rho}
theorem dGt1_some {d e z : D} (h : dGt1 d e = some z) : (∃ a b, d = .tuple [.int a] ∧ e = .tuple [.int b] ∧ z = .bool (decide (b < a))) ∨ dGt d e = some z := by
  unfold dGt1 at h
  split at h
  · rename_i a b
    exact .inl ⟨a, b, rfl, rfl, (Option.some.inj h).symm⟩
  · exact .inr h
theorem one_at {pins : List (Addr × Obj)} {s : Shared} {x : V} {a : Int} (I : Inv X pins σ H s) (hd : Rd1 (cfX X) G H x (.tuple [.int a])) : ∃ k t, x = .ref k ∧ IsTup s.heap k #[.int a t] := by
  obtain ⟨k, xs, rfl, hk, ra⟩ := hd.sqT
  cases ra with
  | cons r1 r2 =>
    cases r2
    cases r1
    obtain ⟨its, rv, pl, _⟩ := I.tuple hk
    obtain ⟨w, rfl, t, rfl⟩ := vals1 rv
    exact ⟨k, t, rfl, pl⟩
theorem op_gtD1 (hu : X.A.units + 64 < cLine) : OpR X (compareOp .Gt) (rD (cfX X) dGt1) := by
  intro pins s σ H x y v u Q I rx ry q
  obtain ⟨G, d, e, z, gi, hd, he, hz, o⟩ := q
  rcases dGt1_some hz with ⟨a, b, rfl, rfl, rfl⟩ | hz
  · obtain ⟨k, t, rfl, hk⟩ := one_at I hd
    obtain ⟨l, t', rfl, hl⟩ := one_at I he
    cases rx
    cases ry
    have R := Ob.RcOp.tuples_gt (A := X.A) (s := s) (e := fun _ => a == b) (r := fun _ => decide (b < a)) hk hl (by omega) (fun j h1 h2 => by
      have ej : j = 0 := by
        have h1 : j < 1 := h1
        omega
      subst ej
      exact SeqAt.EqAt.int_int a t b t') (fun j h1 h2 _ => by
      have ej : j = 0 := by
        have h1 : j < 1 := h1
        omega
      subst ej
      exact Ob.RcOp.gt_int a b t t')
    have w : Ob.lexAt (fun _ => a == b) (fun _ => decide (b < a)) (decide ((#[Value.int a t] : Array Value).size > (#[Value.int b t'] : Array Value).size)) 0 (min (#[Value.int a t] : Array Value).size (#[Value.int b t'] : Array Value).size) = decide (b < a) := by
      show (if (a == b) = true then decide (1 > 1) else decide (b < a)) = _
      by_cases h : a = b
      · rw [if_pos (beq_iff_eq.mpr h), h]
        simp
      · rw [if_neg (fun h' => h (beq_iff_eq.mp h'))]
    rw [w] at R
    exact R X.prog X.w X.xe (EP X pins σ Q) ⟨.bl _, H, I, rfl, o.bool⟩
  · exact op_gtD pins s σ H x y v u Q I rx ry ⟨G, d, e, z, gi, hd, he, hz, o⟩
end
def dSortT : D → Option D
  | .tuple ds => sortD ds
  | d => dSort d
section
variable {P : Program} {w : World} {A : Around} {E : Value → Shared → Prop} {s : Shared}
/-- a tuple's items, gathered -/
theorem gather_tup {t : Addr} {items : Array Value} {Q : List Value → Shared → Prop} (ht : IsTup s.heap t items) (fit : items.size ≤ sizeLine)
    (k : ∀ s', (∀ b o, s.heap.get? b = some o → s'.heap.get? b = some o) → s.heap.objs.size ≤ s'.heap.objs.size → s'.gens = s.gens → s'.os = s.os → Q items.toList s') : wpAny (model P w) A (collect (.ref t)) Q E s := by
  obtain ⟨ob, hob, hcls, m, hdat⟩ := id ht
  have new0 : (s.heap.push { cls := .type "list", data := .seq ([] : List Value).toArray }).get? s.heap.objs.size = some { cls := .type "list", data := .seq #[] 0 } := Heap.get?_push_size _ rfl
  have new1 := Heap.get?_update_self (Obj.mapSeq (· ++ items)) new0 rfl
  have last : wpAny (model P w) A (load s.heap.objs.size >>= fun o => match o.data with
      | Data.seq xs _ => pure xs.toList
      | _ => unsupported "internal:collect") Q E { s with heap := (s.heap.push { cls := .type "list", data := .seq ([] : List Value).toArray }).update s.heap.objs.size (Obj.mapSeq (· ++ items)) } := by
    refine wpAny_bind (wpAny_load new1 (wpAny_pure ?_))
    have ei : ((#[] : Array Value) ++ items).toList = items.toList := by simp
    show Q ((#[] : Array Value) ++ items).toList _
    rw [ei]
    refine k _ (fun b o' hb => ?_) ?_ rfl rfl
    · exact (Heap.get?_update_other _ _ (Nat.ne_of_gt (Heap.lt_size hb))).trans (Heap.get?_push_of_some _ hb)
    · show s.heap.objs.size ≤ (Heap.update _ _ _).objs.size
      rw [Heap.size_update, size_push']
      exact Nat.le_succ _
  unfold collect
  refine wpAny_bind (wpAny_runValue (codeAny_builtin PySem.F.entry_proto_collect ?_))
  rw [Around.under_plainId PySem.F.plain_proto_collect _]
  show wpAny (model P w) A.in1 (newList [] >>= fun l => again (.builtin "list.__iadd__" ⟨[l, .ref t], []⟩)) _ _ s
  refine wpAny_bind (wpAny_newObj_type ?_)
  refine wpAny_pure ⟨plainId_quiet PySem.F.plain_list_iadd _, codeAny_builtin PySem.F.entry_list_iadd ?_⟩
  rw [Around.under_plainId PySem.F.plain_list_iadd _]
  show wpAny (model P w) A.in1 (Builtin.List.listExtendWith (.ref s.heap.objs.size) (.ref t) (.ref s.heap.objs.size)) _ _ _
  refine wpAny_mono (wpAny_extend_seq (hsz := fit) (A := A) (R := fun r s' => r = .ok (.ret (.ref s.heap.objs.size)) ∧ s' = { s with heap := (s.heap.push { cls := .type "list", data := .seq ([] : List Value).toArray }).update s.heap.objs.size (Obj.mapSeq (· ++ items)) })
    (s := { s with heap := s.heap.push { cls := .type "list", data := .seq ([] : List Value).toArray } }) _ t _ 0 (.inr rfl) new0 (Heap.get?_push_of_some _ hob) hcls hdat ⟨rfl, rfl⟩) (fun f s' hf => ?_) (fun e s' hf => absurd hf.1 (by simp))
  cases f with
  | done g =>
    obtain ⟨e, rfl⟩ := hf
    cases e
    exact last
  | again c' =>
    refine ⟨hf.1, codeAny_mono hf.2 fun r s'' hr => ?_⟩
    obtain ⟨rfl, rfl⟩ := hr
    exact last
end
section
variable {X : Cx} {G : Gh} {H : Hp}
theorem call_sortT (hc : X.calm = true) (hu : X.A.units + 80 < cLine) : CallR X (.builtin "sorted") (rC1 (cfX X) dSortT) := by
  intro pins s σ H xs us Q I r h
  obtain ⟨G, d, z, x, rfl, gi, hd, hz, o⟩ := h
  cases d
  case tuple ds =>
    have hz : sortD ds = some z := hz
    obtain ⟨a, vs, rfl, ha, ra⟩ := hd.sqT
    rw [Vals.ref1 r]
    obtain ⟨its, rv, pl, hz2⟩ := I.tuple ha
    have hl : its.toArray.size ≤ sizeLine := by rw [List.size_toArray, ← rv.length]; exact hz2
    exact sort_fin I gi hu (fun Q' k => gather_tup pl hl fun s' a1 a2 a3 a4 => k s' a1 a2 a3 a4) (each_rv ra rv) hz o
  all_goals exact call_sortD hc hu pins s σ H _ us Q I r ⟨G, _, z, x, rfl, gi, hd, hz, o⟩
end
end Nc
namespace Nc
open PySem PySem.Spec L2
open PyProof.Rows hiding St
def dRevT : D → Option D
  | .tuple [d] => some (.tuple [d])
  | d => dRev d
section
variable {P : Program} {w : World} {A : Around} {E : Value → Shared → Prop} {s : Shared}
theorem getItem_turn1 {t sl : Addr} {v vl vu vs : Value} {Q : Value → Shared → Prop} (ht : IsTup s.heap t #[v]) (hs : s.heap.IsSliceOf sl vl vu vs) (pl : IsPart vl none) (pu : IsPart vu none) (ps : IsPart vs (some (-1)))
    (k : Q (.ref s.heap.objs.size) { s with heap := s.heap.push { cls := .type "tuple", data := .seq #[v] } }) : wpAny (model P w) A (getItem (.ref t) (.ref sl)) Q E s := by
  obtain ⟨ob, hob, hcls, hdat⟩ := id hs
  have isl : s.TypeIs (.ref sl) "slice" := ⟨ob, hob, hcls⟩
  cases pl
  cases pu
  cases ps with
  | int i tk =>
    unfold getItem
    try with_reducible refine wpAny_holding ?_
    first | refine wpAny_bind (wpAny_pure ?_) | skip
    refine wpAny_bind (wpAny_sequenceKey ht.typeIs (by decide) ?_)
    refine wpAny_bind (wpAny_callSpecial?_slot (name := Str.ofString "__getitem__") ht.typeIs slot_tuple_getitem
      (wpAny_call_entry slot_tuple_getitem ht.typeIs entry_tuple_getitem ?_ (args_tuple_getitem _ _)))
    show wpAny (model P w) _ (Builtin.Tuple.tupleItemsOf (.ref t) >>= _) _ _ s
    refine wpAny_bind (tupleItemsOf_ ht ?_)
    refine wpAny_bind (wpAny_typeOf isl ?_)
    rw [if_pos (by decide)]
    have app : ∀ {R : Int × Int × Nat → Shared → Prop} {A' : Around} {E' : Value → Shared → Prop}, R (0, -1, 1) s → wpAny (model P w) A' (Builtin.Slice.sliceApplied (.ref sl) (pure ((#[v] : Array Value).size : Int))) R E' s := fun {R A' E'} h => by
      unfold Builtin.Slice.sliceApplied Builtin.Slice.sliceFields
      refine wpAny_bind (wpAny_bind (wpAny_field hob hdat (x := .none) rfl (wpAny_bind (wpAny_field hob hdat (x := .none) rfl (wpAny_bind (wpAny_field hob hdat (x := .int (-1) tk) rfl (wpAny_pure ?_)))))))
      refine wpAny_bind (slicePart_int ?_)
      show wpAny (model P w) _ (if ((-1 : Int) == 0) = true then _ else _) _ _ s
      rw [if_neg (by decide)]
      refine wpAny_bind (slicePart_none (wpAny_bind (slicePart_none (wpAny_bind (wpAny_pure ?_)))))
      refine wpAny_pure ?_
      simpa [Builtin.Slice.slicePlaces] using h
    refine wpAny_bind (app ?_)
    have fits : sizeOk (.seq (#[v] : Array Value)) := by
      show (#[v] : Array Value).size ≤ sizeLine
      rw [sizeLine_eq]
      show 1 ≤ _
      decide
    show wpAny (model P w) _ (if ((0 : Int) == 0 && (-1 : Int) == 1 && (1 : Nat) == (#[v] : Array Value).size) = true then _ else _) _ _ s
    rw [if_neg (by simp)]
    have e : ((List.range 1).filterMap fun (m : Nat) => (#[v] : Array Value)[((0 : Int) + (m : Int) * (-1)).toNat]?).toArray = #[v] := rfl
    rw [e]
    first
      | exact wpAny_bind (m := Builtin.Tuple.tupleExact _) (wpAny_newObj_type (wpAny_pure ⟨_, rfl, wpAny_pure k⟩) fits)
      | exact wpAny_bind (m := Builtin.Tuple.tupleExact _) (wpAny_newObj_type (wpAny_bind (wpAny_pure (wpAny_pure ⟨_, rfl, wpAny_pure k⟩))) fits)
      | exact wpAny_bind (wpAny_bind (m := Builtin.Tuple.tupleExact _) (wpAny_newObj_type (wpAny_pure (wpAny_pure ⟨_, rfl, wpAny_pure k⟩)) fits))
      | exact wpAny_bind (wpAny_bind (m := Builtin.Tuple.tupleExact _) (wpAny_newObj_type (wpAny_pure ⟨_, rfl, wpAny_pure k⟩) fits))
end
section
variable {X : Cx} {io : Nat → Bool} {W : WX} {rk : Nat} {c : Cf} {p p1 p2 p3 : Bool} {cl cl1 cl2 cl3 : Cls} {G G0 G1 G2 G' : Gh} {H H0 H1 H2 H' : Hp} {σ σ1 σ2 σ' : L2.St} {ρ ρ1 ρ2 ρ' : Rho}
theorem pe_revT {e : Expr} {te : TE} {ps pos q1 q2 : Pos} {j} (he : PE X e te) {r : V → Hp → VK → Prop} (hr : ∀ x H Q, r x H Q → (∃ a xs, x = V.ref a ∧ SqL X.K H a xs ∧ ∀ p, H p = none → Q (.ref p) (upd H p (.lst xs.reverse))) ∨
      ∃ a v, x = V.ref a ∧ SqT X.K H a [v] ∧ ∀ p, H p = none → Q (.ref p) (upd H p (.tup [v]))) :
    PE X (.Subscript e (.Slice none none (some (.UnaryOp .USub (.Constant (.int 1) j q1) q2)) ps) pos) (fun σ H Q => te σ H fun x H1 => r x H1 Q) := by
  refine ⟨fun pins s σ H Q I h => ?_⟩
  refine Subscript_ (thn (he.run pins s σ H _ I h) fun v s1 ⟨x, H1, I1, r1, z1⟩ => ?_)
  refine wpAny_Slice (thn (po_none.run pins s1 σ H1 (fun l H2 => l = none ∧ r x H2 Q) I1 ⟨rfl, z1⟩) fun vl s2 ⟨l, H2, I2, pl, z2⟩ => ?_)
  obtain ⟨rfl, z2⟩ := z2
  refine thn (po_none.run pins s2 σ H2 (fun l H3 => l = none ∧ r x H3 Q) I2 ⟨rfl, z2⟩) fun vu s3 ⟨u, H3, I3, pu, z3⟩ => ?_
  obtain ⟨rfl, z3⟩ := z3
  refine thn ((po_some pe_neg1).run pins s3 σ H3 (fun l H4 => l = some (-1) ∧ r x H4 Q) I3 ⟨-1, rfl, rfl, z3⟩) fun vs s4 ⟨st, H4, I4, pst, z4⟩ => ?_
  obtain ⟨rfl, z4⟩ := z4
  rcases hr _ _ _ z4 with ⟨a, xs, rfl, ha, k⟩ | ⟨a, y, rfl, ha, k⟩
  · cases r1
    have I5 : Inv X pins σ H4 { s4 with heap := s4.heap.push { cls := .type "slice", data := .fields #[vl, vu, vs] } } := I4.kept (t' := s4.toks) fun b ob q => Heap.get?_push_of_some _ q
    obtain ⟨its, rv, ht, hz⟩ := I5.list ha
    have hlen := rv.length
    show wpAny (model X.prog X.w) X.A (subscriptTail e (.Slice none none (some (.UnaryOp .USub (.Constant (.int 1) j q1) q2)) ps) (.ref a) (.ref s4.heap.objs.size)) (EP X pins σ Q) X.xe { s4 with heap := s4.heap.push { cls := .type "slice", data := .fields #[vl, vu, vs] } }
    refine tail_any (ops := [.ref a, .ref s4.heap.objs.size]) ht.isList.typeIs slot_list_getitem.lookup ?_ (by with_unfolding_all rfl)
    refine wpAny_getItem_list_slice ht.isList (Heap.IsSliceOf.new ..) pl pu pst (by decide) ?_ (by rw [List.size_toArray]; omega)
    rw [pick_back]
    refine ⟨.ref _, _, I5.laid (t' := s4.toks) (o := .lst xs.reverse) (fun b ob q => Heap.get?_push_of_some _ q) (Nat.le_refl _) ?_, rfl, k _ (I5.hok.fresh (Nat.le_refl _))⟩
    exact ⟨by rw [List.length_reverse]; exact hz, _, 0, vals_rev rv, Heap.get?_push_size _ rfl⟩
  · cases r1
    have I5 : Inv X pins σ H4 { s4 with heap := s4.heap.push { cls := .type "slice", data := .fields #[vl, vu, vs] } } := I4.kept (t' := s4.toks) fun b ob q => Heap.get?_push_of_some _ q
    obtain ⟨its, rv, ht, hz⟩ := I5.tuple ha
    obtain ⟨w, rfl, rw1⟩ := vals1 rv
    show wpAny (model X.prog X.w) X.A (subscriptTail e (.Slice none none (some (.UnaryOp .USub (.Constant (.int 1) j q1) q2)) ps) (.ref a) (.ref s4.heap.objs.size)) (EP X pins σ Q) X.xe { s4 with heap := s4.heap.push { cls := .type "slice", data := .fields #[vl, vu, vs] } }
    refine tail_any (ops := [.ref a, .ref s4.heap.objs.size]) ht.typeIs slot_tuple_getitem.lookup ?_ (by with_unfolding_all rfl)
    refine getItem_turn1 ht (Heap.IsSliceOf.new ..) pl pu pst ?_
    refine ⟨.ref _, _, I5.laid (t' := s4.toks) (o := .tup [y]) (fun b ob q => Heap.get?_push_of_some _ q) (Nat.le_refl _) ?_, rfl, k _ (I5.hok.fresh (Nat.le_refl _))⟩
    exact ⟨hz, [w], .cons rw1 .nil, ⟨_, Heap.get?_push_size _ rfl, rfl, 0, rfl⟩⟩
theorem dRevT_some {d z : D} (h : dRevT d = some z) : (∃ e, d = .tuple [e] ∧ z = .tuple [e]) ∨ ∃ ds, d = .list ds ∧ z = .list ds.reverse := by
  unfold dRevT at h
  split at h
  · exact .inl ⟨_, rfl, (Option.some.inj h).symm⟩
  · unfold dRev at h
    split at h
    · exact .inr ⟨_, rfl, (Option.some.inj h).symm⟩
    · cases h
theorem j_revT {e : Expr} {f : M} {ps pos q1 q2 : Pos} {j} (he : J X io W p cl e f) (h1 : cl.st true = true := by rfl) :
    J X io W p (.n 1) (.Subscript e (.Slice none none (some (.UnaryOp .USub (.Constant (.int 1) j q1) q2)) ps) pos) (mU dRevT f) := by
  refine ⟨peI (pe_revT he.pe (r := fun x H1 Q => ∃ G1 d z, GI G1 H1 ∧ Rd1 (cfX X) G1 H1 x d ∧ dRevT d = some z ∧ Out (cfX X) G1 H1 z Q) fun x H Q h => ?_) fun σ H Q q => ?_, fun e => pu_bind (he.pu e) fun _ _ _ _ e => pu_of e⟩
  · obtain ⟨G1, d, z, gi, hd, hz, o⟩ := h
    rcases dRevT_some hz with ⟨e, rfl, rfl⟩ | ⟨ds, rfl, rfl⟩
    · obtain ⟨a, vs, rfl, ha, ra⟩ := hd.sqT
      cases ra with
      | cons r1 r2 =>
        cases r2
        exact .inr ⟨a, _, rfl, ha, fun p hp => o.tup gi hp (.cons r1 .nil)⟩
    · obtain ⟨a, vs, rfl, ha, ra⟩ := hd.sqL
      exact .inl ⟨a, vs, rfl, ha, fun p hp => o.lst gi hp ra.rev⟩
  · obtain ⟨G, ρ, re, q⟩ := q
    refine ⟨G, ρ, re, (good_bindT re.gi q).mono fun d ρ1 G1 H1 s1 re1 q1 v1 r1 => ?_⟩
    obtain ⟨z, e, o⟩ := Good.of (Q := Q) re1 q1 (H0 := H) (fun a h => (s1.stp re.gi).dm a h) fun d ρ' G' H' k v n => k v n
    exact ⟨G1, d, z, re1.gi, r1.rd h1, e, o⟩
def ixOf : List D → D → Option Nat
  | [], _ => none
  | z :: r, d => if PyData.eqv z d = true then some 0 else (ixOf r d).map (· + 1)
def dIndex (a b : D) : Option D := match a with
  | .list ds => if SeqAt.shaped (.list ds) = true ∧ SeqAt.shaped b = true then (ixOf ds b).map fun (j : Nat) => .int (j : Int) else none
  | _ => none
theorem ixOf_some : ∀ {ds : List D} {d : D} {j : Nat}, ixOf ds d = some j → ∃ z, ds[j]? = some z ∧ PyData.eqv z d = true ∧ ∀ (m : Nat) (z' : D), m < j → ds[m]? = some z' → PyData.eqv z' d = false
  | z :: r, d, j, h => by
    unfold ixOf at h
    split at h
    · rename_i e
      cases h
      exact ⟨z, rfl, e, fun m z' hm => absurd hm (Nat.not_lt_zero m)⟩
    · rename_i e
      obtain ⟨i, hi, rfl⟩ := Option.map_eq_some_iff.mp h
      obtain ⟨y, h1, h2, h3⟩ := ixOf_some hi
      refine ⟨y, h1, h2, fun m z' hm hz => ?_⟩
      cases m with
      | zero => cases hz; simpa using e
      | succ m => exact h3 m z' (by omega) hz
def tyLst (K : PySem.W.Frag) (x : V) (H : Hp) : Prop := ∃ a xs, x = .ref a ∧ SqL K H a xs
theorem ty_lst : TyOk X "list" (tyLst X.K) := by
  intro pins σ H s x v I r ty
  obtain ⟨a, xs, rfl, ha⟩ := ty
  cases r
  obtain ⟨its, rv, pl, _⟩ := I.list ha
  refine ⟨pl.isList.typeIs, fun b e => ?_⟩
  cases e
  obtain ⟨o, n, ho, hc, hdn, hd⟩ := pl
  exact ⟨o, ho, hdn⟩
def mIndex (fo fe : M) : M := fun ρ => (fo ρ).bind fun x => match x.1 with
  | .list ds => (fe x.2).bind fun y => R.of (dIndex (.list ds) y.1) y.2
  | _ => .bad
theorem j_index {o e : Expr} {fo fe : M} {apos cpos : Pos} (hu : X.A.units + 65 < cLine) (ho : J X io W p1 cl1 o fo) (he : J X io W p2 cl2 e fe) (h1 : cl1.st p2 = true := by rfl) (h2 : cl2.st true = true := by rfl) (h3 : cl1.st true = true := by rfl) (hbase : attributeBase o "index" X.env (eval o X.env) = eval o X.env := by rfl)
    (hfew : ((backTo cpos (starEach [e] X.env)).all (fun x => !x.1) && (backToKw cpos (keywordEach [] X.env)).all (fun x => x.1.isSome)
      && decide ([e].length + ([] : List Keyword).length + (if ([] : List Keyword).isEmpty then 0 else 1) < 30)) = true := by rfl)
    (hline : (apos.endLine == cpos.line) = true := by rfl) (hs : starEach [e] X.env = [(false, eval e X.env)] := by rfl) (hplain : (backTo cpos (starEach [] X.env)).any (·.1) = false := by rfl) :
    J X io W (p1 && p2) (.n 1) (.Call (.Attribute o "index" apos) [e] [] cpos) (mIndex fo fe) := by
  refine ⟨peI (pe_mG ty_lst PySem.F.plainAttrs_list PySem.F.slot_list_index PySem.F.type_list_index (mt_indexD hu) ho.pe (pa1 he hs) hbase hfew hline hs hplain) fun σ H Q q => ?_, fun e => ?_⟩
  case refine_2 =>
    obtain ⟨e1, e2⟩ := and_t e
    exact pu_bind (ho.pu e1) fun b ρ1 z ρ2 e => by
      dsimp only at e
      split at e
      · exact pu_bind (he.pu e2) (fun _ _ _ _ e => pu_of e) ρ1 z ρ2 e
      · cases e
  obtain ⟨G, ρ, re, q⟩ := q
  refine ⟨G, ρ, re, (Good.bind (p1 := p1) (p2 := p2) re.gi q).mono fun d ρ1 G1 H1 s1 re1 q1 v1 r1 => ?_⟩
  have rd0 := r1.rd h3
  cases d with
  | list ds =>
    refine ⟨?_, G1, ρ1, re1, (good_bindT re1.gi q1).mono fun b ρ2 G2 H2 s2 re2 q2 v2 r2 => ?_⟩
    · obtain ⟨a, xs, e, ha, _⟩ := rd0.sqL
      exact ⟨a, xs, e, ha⟩
    · obtain ⟨z, e, o⟩ := Good.of (Q := Q) re2 q2 (H0 := H) (fun a h => (s2.stp re1.gi).dm a ((s1.stp re.gi).dm a h)) fun d ρ' G' H' k v n => k v n
      have rd1 := r1.step re1.gi s2 h1
      have rd2 := r2.rd h2
      obtain ⟨⟨sh1, sh2⟩, hz⟩ : (SeqAt.shaped (.list ds) = true ∧ SeqAt.shaped b = true) ∧ ((ixOf ds b).map fun (j : Nat) => (.int (j : Int) : D)) = some z := by
        have e : (if SeqAt.shaped (.list ds) = true ∧ SeqAt.shaped b = true then (ixOf ds b).map fun (j : Nat) => (.int (j : Int) : D) else none) = some z := e
        split at e
        · exact ⟨by assumption, e⟩
        · cases e
      obtain ⟨j, hj, rfl⟩ := Option.map_eq_some_iff.mp hz
      obtain ⟨y, k1, k2, k3⟩ := ixOf_some hj
      obtain ⟨a, xs, rfl, _, _⟩ := rd1.sqL
      exact ⟨a, v2, b, ds, j, y, rfl, rfl, rd1.dp (SeqAt.canLay_of_shaped sh1), rd2.dp (SeqAt.canLay_of_shaped sh2), sh1, sh2, k1, k2, k3, o.int⟩
  | _ => exact q1.elim
end
end Nc
namespace Nc
open PySem PySem.Spec L2
open PyProof.Rows hiding St
def mDisp1 (fk fv : M) : M := fun ρ => (fk ρ).bind fun x => (fv x.2).bind fun y => match keyD x.1 with
  | some _ => .ok (.dict [(x.1, y.1)], y.2)
  | none => .bad
section
variable {X : Cx} {io : Nat → Bool} {W : WX} {rk : Nat} {c : Cf} {p p1 p2 p3 : Bool} {cl cl1 cl2 cl3 : Cls} {G G0 G1 G2 G' : Gh} {H H0 H1 H2 H' : Hp} {σ σ1 σ2 σ' : L2.St} {ρ ρ1 ρ2 ρ' : Rho}
theorem Good.gr {β : Type} {r : R (β × Rho)} {k : β → Rho → Gh → Hp → Prop} (gi : GI G H) (g : Gr H H1) (h : Good X io W p σ G H r k) : Good X io W p σ G H1 r k := by
  cases r with
  | ok a =>
    obtain ⟨b, ρ'⟩ := a
    intro G' H' st re
    refine h G' H' ?_ re
    cases p with
    | true => exact Ext.trans g.ext st
    | false => exact Stp.trans (Ext.stp gi g.ext) st
  | exc x => exact fun C G' H' hm st => h C G' H' hm ((Ext.stp gi g.ext).trans st)
  | bad => exact h
theorem pe_disp1 {k v : Expr} {tk tv : TE} {pos : Pos} (hu : X.A.units + 65 < cLine) (hk : PE X k tk) (hv : PE X v tv) :
    PE X (.Dict [some k] [v] pos) (fun σ H Q => ∀ a, H a = none → tk σ (upd H a (DicO (cfX X) a [])) fun x H1 => tv σ H1 fun y H2 => ∃ G b kd kk, x = .ref b ∧ H2 a = some (DicO (cfX X) a []) ∧ Rep (cfX X) G H2 x kd ∧ keyD kd = some kk ∧
      Q (.ref a) (upd H2 a (DicO (cfX X) a [(kk, b, y)]))) := by
  refine ⟨fun pins s σ H Q I q => ?_⟩
  have hn : H s.heap.objs.size = none := I.hok.fresh (Nat.le_refl _)
  have hsys : (s.heap.objs.size == sysModules) = false := beq_eq_false_iff_ne.mpr (Ne.symm (Nat.ne_of_lt I.big))
  have I1 := I.laid (a := s.heap.objs.size) (o := DicO (cfX X) s.heap.objs.size []) (h' := s.heap.push { cls := .type "dict", data := .dict #[] }) (t' := s.toks) (fun _ _ q => Heap.get?_push_of_some _ q) (Nat.le_refl _) (dicO_new (ys := []) (Heap.DictOfH.new s.heap) .nil (by simp) (Nat.zero_le _) hsys)
  have q := q _ hn
  have hsh : (evalEachOpt [some k] X.env).zip ((evalEach [v] X.env).map fun v => (do let x ← v; standAt pos; pure x : Sem Value)) = [(eval k X.env, (do let x ← eval v X.env; standAt pos; pure x : Sem Value))].map fun p => (some p.1, p.2) := rfl
  rw [arm_eval_Dict, hsh, dictDisplay_pairs _ (by simp) (by simp)]
  have hroom : (nestedKind X.prog X.w).room X.A := show X.A.units + 8 < cLine by omega
  refine wpAny_bind (wpAny_standAt (wpAny_bind (wpAny_subDictH (knd := nestedKind X.prog X.w) hroom (by simp) (evalPairs_cons (thn (hk.run pins _ σ _ _ I1 q) fun u s1 ⟨x, H1, I2, rx, q1⟩ => ?_)))))
  refine wpAny_bind (thn (hv.run pins s1 σ H1 _ I2 q1) fun w s2 ⟨y, H2, I3, ry, q2⟩ => wpAny_bind (wpAny_standAt (wpAny_pure (evalPairs_nil ?_))))
  obtain ⟨G, b, kd, kk, rfl, e, rk, ek, fin⟩ := q2
  obtain ⟨t, et, hkey, _⟩ := key_at I3 (.rep rk) ek
  cases et
  cases rx
  obtain ⟨ys, hm, pr, _, _, _, _⟩ := dict_at I3 (.inl e) (G := G) .nil
  cases pr
  obtain ⟨_, _, _, dk⟩ := keyD_some ek
  refine ⟨[(kk, b, w)], ⟨rfl, rfl, hkey, trivial⟩, hm, fun h' tk hd hs => wpAny_pure ?_⟩
  have he : ∃ q, h'.get? s.heap.objs.size = some q := let ⟨q, _, _, hq, _⟩ := hd; ⟨q, hq⟩
  refine ⟨.ref s.heap.objs.size, _, d_write (t' := tk) I3 (by rw [e]; exact True.intro) hs he (dicO_new hd (paired_put (xs := []) .nil ry) (putE_depth (by simp) dk) (Nat.le_trans putE_length (by rw [sizeLine_eq]; decide)) hsys), rfl, fin⟩
theorem StepOf.fill {a : Addr} {o o' : HO} (hn : H a = none) (s : StepOf p io G (upd H a o) G2 H2) : StepOf p io G H G2 (upd H2 a o') := by
  have ne : ∀ x u, H x = some u → x ≠ a := fun x u e => ne_of_none e hn
  have up : ∀ x u, H x = some u → upd H a o x = some u := fun x u e => by rw [upd_ne (ne x u e)]; exact e
  have un : ∀ x, H x ≠ none → upd H a o x ≠ none := fun x h => by
    cases e : H x with
    | none => exact absurd e h
    | some u => rw [up x u e]; simp
  have nn : ∀ x, H x ≠ none → x ≠ a := fun x h z => h (by rw [z]; exact hn)
  cases p with
  | true =>
    have s : Ext G (upd H a o) G2 H2 := s
    exact show Ext G H G2 (upd H2 a o') from ⟨fun x u e => by rw [upd_ne (ne x u e)]; exact s.h x u (up x u e), fun x h => s.g x (un x h)⟩
  | false =>
    have s : Stp io G (upd H a o) G2 H2 := s
    refine show Stp io G H G2 (upd H2 a o') from ⟨s.fz, fun x h => s.un x (un x h), fun x u e n => by rw [upd_ne (ne x u e)]; exact s.kp x u (up x u e) n, fun x h => by rw [upd_ne (nn x h)]; exact s.dm x (un x h), fun x i h => s.ow x i (un x h), fun x h => s.rt x (un x h), fun x xs e => by rw [upd_ne (ne _ _ e)]; exact s.tp x xs (up _ _ e), fun x ob u e => by rw [upd_ne (ne _ _ e)]; exact s.fr x ob u (up _ _ e)⟩
theorem j_disp1 {k v : Expr} {fk fv : M} {pos : Pos} (hu : X.A.units + 65 < cLine) (hk : J X io W p1 .f k fk) (hv : J X io W p2 .f v fv) : J X io W (p1 && p2) (.n 1) (.Dict [some k] [v] pos) (mDisp1 fk fv) := by
  refine ⟨peI (pe_disp1 hu hk.pe hv.pe) fun σ H Q q a hn => ?_, fun e => ?_⟩
  · obtain ⟨G, ρ, re, q⟩ := q
    have g0 : Gr H (upd H a (DicO (cfX X) a [])) := Gr.upd hn
    have gi : GI G H := re.gi
    have re0 := re.gr g0
    have ga : G a = none := GI.none gi hn
    refine ⟨G, ρ, re0, ?_⟩
    cases e1 : fk ρ with
    | bad => rw [show mDisp1 fk fv ρ = .bad by unfold mDisp1; rw [e1]; rfl] at q; exact q.elim
    | exc x => rw [show mDisp1 fk fv ρ = .exc x by unfold mDisp1; rw [e1]; rfl] at q; exact Good.gr (p := p1) (r := (.exc x : R (D × Rho))) (k := fun _ _ _ _ => True) gi g0 q
    | ok b =>
      obtain ⟨d, ρ1⟩ := b
      intro G1 H1 s1 re1 v1 r1
      have st1 := s1.stp re0.gi
      have h1 : H1 a = some (DicO (cfX X) a []) := st1.kp a _ upd_same (fun i z => by rw [ga] at z; cases z)
      have g1 : G1 a = none := st1.un a (by rw [upd_same]; simp) ga
      refine ⟨G1, ρ1, re1, ?_⟩
      cases e2 : fv ρ1 with
      | bad => rw [show mDisp1 fk fv ρ = .bad by unfold mDisp1; rw [e1]; dsimp only [R.bind]; rw [e2]] at q; exact q.elim
      | exc x =>
        rw [show mDisp1 fk fv ρ = .exc x by unfold mDisp1; rw [e1]; dsimp only [R.bind]; rw [e2]] at q
        exact fun C G' H' hm st => q C G' H' hm ((Ext.stp gi g0.ext).trans (st1.trans st))
      | ok b2 =>
        obtain ⟨y, ρ2⟩ := b2
        intro G2 H2 s2 re2 v2 r2
        have st2 := s2.stp re1.gi
        have h2 : H2 a = some (DicO (cfX X) a []) := st2.kp a _ h1 (fun i z => by rw [g1] at z; cases z)
        have g2 : G2 a = none := st2.un a (by rw [h1]; simp) g1
        have rk : Rep (cfX X) G2 H2 v1 d := Rep.stp st2 r1
        cases hkd : keyD d with
        | none => rw [show mDisp1 fk fv ρ = .bad by unfold mDisp1; rw [e1]; dsimp only [R.bind]; rw [e2]; dsimp only; rw [hkd]] at q; exact q.elim
        | some kk =>
          rw [show mDisp1 fk fv ρ = .ok (.dict [(d, y)], ρ2) by unfold mDisp1; rw [e1]; dsimp only [R.bind]; rw [e2]; dsimp only; rw [hkd]] at q
          obtain ⟨b, rfl⟩ : ∃ b, v1 = .ref b := by
            obtain ⟨es, rfl, _, _⟩ := keyD_some hkd
            cases rk
            exact ⟨_, rfl⟩
          obtain ⟨_, _, ek, _⟩ := keyD_some hkd
          have lk : Lk0 G2 H2 (upd H2 a (DicO (cfX X) a [(kk, b, v2)])) := lk_lock g2 h2
          refine ⟨G2, b, d, kk, rfl, h2, rk, hkd, ?_⟩
          refine q G2 _ (StepOf.fill hn (StepOf.trans re0.gi re1.gi s1 s2)) (re2.lk lk) (.ref a) ⟨[a], .dic (A := []) upd_same (TrK.of_rep (.cons (Rep.lk lk rk) ek (Rep.lk lk r2) .nil)), by simp, fun x hx => ?_⟩
          rw [List.mem_singleton.mp hx]
          exact ⟨g2, hn⟩
  · obtain ⟨e1, e2⟩ := and_t e
    exact pu_bind (hk.pu e1) fun b ρ1 z ρ2 e => pu_bind (f := fv) (hv.pu e2) (fun b2 ρ z ρ' e => by
      dsimp only at e
      split at e
      · cases e; rfl
      · cases e) ρ1 z ρ2 e
end
end Nc
namespace Nc
open PySem PySem.Spec L2
open PyProof.Rows hiding St
def sPar3 (i k1 : Nat) (j k2 : Nat) (l k3 : Nat) (f g h : M) : S := fun ρ => (f ρ).bind fun x => (g x.2).bind fun y => (h y.2).bind fun z => .ok (.nx, ((z.2.set i (some (k1, x.1))).set j (some (k2, y.1))).set l (some (k3, z.1)))
section
variable {X : Cx} {io : Nat → Bool} {W : WX} {rk : Nat} {p p1 p2 p3 : Bool} {c : Cf} {G G1 G2 G' : Gh} {H H0 H1 H2 H' : Hp} {σ σ1 σ2 σ' : L2.St} {ρ ρ1 ρ2 ρ' : Rho}
theorem js_par3 (i j l : Nat) {k1 k2 k3 : Nat} {x y z : Str} {a b d : Expr} {f g h : M} {px py pz pt pos : Pos} {kt kt2 pt2} (hc : X.calm = true) (h1o : io i = false) (h2o : io j = false) (h3o : io l = false) (hij : i ≠ j) (hil : i ≠ l) (hjl : j ≠ l)
    (ha : J X io W p1 (.n k1) a f) (hb : J X io W p2 (.n k2) b g) (hd : J X io W p3 (.n k3) d h) (hN : X.N.Nodup) (hi : X.N[i]? = some x := by rfl) (hj : X.N[j]? = some y := by rfl) (hl : X.N[l]? = some z := by rfl)
    (hx : X.env.scope.names.lookup x = some .local := by rfl) (hy : X.env.scope.names.lookup y = some .local := by rfl) (hz : X.env.scope.names.lookup z = some .local := by rfl)
    (hw : swappedStores [.Tuple [.Name x px, .Name y py, .Name z pz] kt pt] (.Tuple [a, b, d] kt2 pt2) X.env = pure (some [x, y, z]) := by rfl) (hs : swapsWithSole [.Tuple [.Name x px, .Name y py, .Name z pz] kt pt] (.Tuple [a, b, d] kt2 pt2) pos.line X.env = pure false := by rfl)
    (hs1 : starEach [a, b, d] X.env = (false, eval a X.env) :: starEach [b, d] X.env := by rfl) (hs2 : starEach [b, d] X.env = (false, eval b X.env) :: starEach [d] X.env := by rfl) (hs3 : starEach [d] X.env = [(false, eval d X.env)] := by rfl) :
    JS X io W rk (.Assign [.Tuple [.Name x px, .Name y py, .Name z pz] kt pt] (.Tuple [a, b, d] kt2 pt2) pos) (sPar3 i k1 j k2 l k3 f g h) := psI (ps_par3 hc hN hi hj hl hij hil hjl hx hy hz (pa_cons ha.pe (pa_cons hb.pe (pa_cons hd.pe pa_nil hs3) hs2) hs1) hw hs) fun D σ H q => by
  obtain ⟨G, ρ, re, q⟩ := q
  refine ⟨G, ρ, re, ?_⟩
  have q : GoodS X io W σ G H ((f ρ).bind fun x => (g x.2).bind fun y => (h y.2).bind fun z => .ok (.nx, ((z.2.set i (some (k1, x.1))).set j (some (k2, y.1))).set l (some (k3, z.1)))) _ := q
  cases e : f ρ with
  | bad => rw [e] at q; exact q.elim
  | exc z => rw [e] at q; exact q σ Kio.refl
  | ok u =>
    obtain ⟨d1, ρ1⟩ := u
    rw [e] at q
    have q : GoodS X io W σ G H ((g ρ1).bind fun y => (h y.2).bind fun z => .ok (.nx, ((z.2.set i (some (k1, d1))).set j (some (k2, y.1))).set l (some (k3, z.1)))) _ := q
    intro G1 H1 s1 re1 v1 r1
    refine ⟨G1, ρ1, re1, ?_⟩
    cases e2 : g ρ1 with
    | bad => rw [e2] at q; exact q.elim
    | exc z =>
      rw [e2] at q
      exact fun C G2 H2 hC s2 => q σ Kio.refl C G2 H2 hC ((s1.stp re.gi).trans s2)
    | ok u =>
      obtain ⟨d2, ρ2⟩ := u
      rw [e2] at q
      have q : GoodS X io W σ G H ((h ρ2).bind fun z => .ok (.nx, ((z.2.set i (some (k1, d1))).set j (some (k2, d2))).set l (some (k3, z.1)))) _ := q
      intro G2 H2 s2 re2 v2 r2
      refine ⟨G2, ρ2, re2, ?_⟩
      cases e3 : h ρ2 with
      | bad => rw [e3] at q; exact q.elim
      | exc z =>
        rw [e3] at q
        exact fun C G3 H3 hC s3 => q σ Kio.refl C G3 H3 hC (((s1.stp re.gi).trans (s2.stp re1.gi)).trans s3)
      | ok u =>
        obtain ⟨d3, ρ3⟩ := u
        rw [e3] at q
        intro G3 H3 s3 re3 v3 r3
        have t1 := s1.stp re.gi
        have t2 := s2.stp re1.gi
        have t3 := s3.stp re2.gi
        obtain ⟨A, ta, nda, hA⟩ := r1
        obtain ⟨B, tb, ndb, hB⟩ := r2
        obtain ⟨C, tc, ndc, hC⟩ := r3
        have hA1 : ∀ a ∈ A, H1 a ≠ none := ta.dom
        have hA2 : ∀ a ∈ A, H2 a ≠ none := fun a h => t2.dm a (hA1 a h)
        have hB2 : ∀ a ∈ B, H2 a ≠ none := tb.dom
        have ta2 : Tr (cfX X) G2 H2 k1 v1 d1 A := ta.stp t2 fun a h i e => by rw [(hA a h).1] at e; cases e
        have gA2 : ∀ a ∈ A, G2 a = none := fun a h => t2.un a (hA1 a h) (hA a h).1
        have ta3 : Tr (cfX X) G3 H3 k1 v1 d1 A := ta2.stp t3 fun a h i e => by rw [gA2 a h] at e; cases e
        have gA : ∀ a ∈ A, G3 a = none := fun a h => t3.un a (hA2 a h) (gA2 a h)
        have tb3 : Tr (cfX X) G3 H3 k2 v2 d2 B := tb.stp t3 fun a h i e => by rw [(hB a h).1] at e; cases e
        have gB0 : ∀ b ∈ B, G3 b = none := fun b h => t3.un b (hB2 b h) (hB b h).1
        have re4 := re3.setN (i := i) ta3 nda gA
        have nab : ∀ b ∈ B, b ∉ A := fun b hb ha => hA1 b ha (hB b hb).2
        have nac : ∀ b ∈ C, b ∉ A := fun b hb ha => hA2 b ha (hC b hb).2
        have nbc : ∀ b ∈ C, b ∉ B := fun b hb ha => hB2 b ha (hC b hb).2
        have tb4 := tb3.tag gA (.own i)
        have gB : ∀ b ∈ B, (if b ∈ A then some (Tag.own i) else G3 b) = none := fun b hb => by rw [if_neg (nab b hb)]; exact gB0 b hb
        have re5 := re4.setN (i := j) tb4 ndb gB
        have tc4 := (tc.tag gA (.own i)).tag gB (.own j)
        have gC : ∀ b ∈ C, (if b ∈ B then some (Tag.own j) else if b ∈ A then some (Tag.own i) else G3 b) = none := fun b hb => by rw [if_neg (nbc b hb), if_neg (nac b hb)]; exact (hC b hb).1
        have re6 := re5.setN (i := l) tc4 ndc gC
        have none_of : ∀ {K K' : Hp}, (∀ a, K a ≠ none → K' a ≠ none) → ∀ b, K' b = none → K b = none := fun {K K'} m b h => by
          cases e : K b with
          | none => rfl
          | some o => exact absurd h (m b (by rw [e]; simp))
        have st : Stp io G H G3 H3 := (t1.trans t2).trans t3
        have st4 := st.tag (A := A) (t := .own i) fun a h => ⟨gA a h, (hA a h).2⟩
        have st5 := st4.tag (A := B) (t := .own j) fun b hb => ⟨gB b hb, none_of t1.dm b (hB b hb).2⟩
        have st6 := st5.tag (A := C) (t := .own l) fun b hb => ⟨gC b hb, none_of (t1.trans t2).dm b (hC b hb).2⟩
        exact ⟨v1, v2, v3, rfl, q _ _ _ (((Kio.set h1o).trans (Kio.set h2o)).trans (Kio.set h3o)) st6 re6⟩
end
end Nc
set_option maxHeartbeats 2000000
namespace Nc
open PySem PySem.Spec PyProof.Rows HotX
section
variable {prog : Program} {w : World} {A : Around} {E : Value → Shared → Prop} {s : Shared}
theorem HotAt.stay {x1 : Addr} {h h' : Heap} (c : HotAt A x1 h) (k : ∀ o, h.get? x1 = some o → h'.get? x1 = some o) : HotAt A x1 h' := by
  obtain ⟨a, o, vs, e, d, f⟩ := c
  exact ⟨a, o, vs, k o e, d, f⟩
theorem hot_stop {α : Type} {x1 : Addr} {Q : α → Shared → Prop} (c : HotAt A x1 s.heap)
    (hE : ∀ h' e, (∀ b o, s.heap.get? b = some o → h'.get? b = some o) → (∃ o, h'.get? e = some o ∧ o.cls = .type "StopIteration") → E (.ref e) { s with heap := h' }) :
    wpAny (model prog w) A (newExc (.type "StopIteration") [] >>= fun e => (raiseNew e : Sem α)) Q E s := by
  obtain ⟨p0, o1, ws, p1, p2, p3⟩ := c
  refine wpAny_bind ?_
  simp only [newTuple, newExc]
  refine wpAny_bind (wpAny_newObj_type ?_ (by size_fits))
  refine wpAny_bind (m := firstArgMember _ _) (wpAny_of_eq (a := Value.none) (by first | rfl | (simp only [firstArgMember] <;> rfl)) ?_)
  refine wpAny_newObj_type ?_ (by size_fits)
  refine raiseNew_hot (x1 := x1) ⟨p0, o1, ws, Heap.get?_push_of_some _ (Heap.get?_push_of_some _ p1), p2, p3⟩ (Nat.ne_of_lt (Heap.lt_size (Heap.get?_push_of_some _ p1))) (Heap.get?_push_size _ rfl) rfl (by first | (simp; done) | (simp; omega)) ?_
  refine hE _ _ (fun b o e => ?_) ⟨_, Heap.get?_update_self _ (Heap.get?_push_size _ rfl) rfl, rfl⟩
  rw [Heap.get?_update_other _ _ (Nat.ne_of_gt (Heap.lt_size (Heap.get?_push_of_some _ e)))]
  exact Heap.get?_push_of_some _ (Heap.get?_push_of_some _ e)
theorem HotAt.in1 {x1 : Addr} {h : Heap} (c : HotAt A x1 h) : HotAt A.in1 x1 h := c
theorem list_done {it l x1 : Addr} {i : Nat} {items : Array Value} {Q : Value → Shared → Prop} (c : HotAt A x1 s.heap) (hx1 : x1 ≠ it)
    (hi : s.heap.IsListIter it l i) (hl : s.heap.IsList l items) (hn : items[i]? = none)
    (hE : ∀ h' e, Heap.ExtBut it s.heap h' → (∃ o, h'.get? e = some o ∧ o.cls = .type "StopIteration") → E (.ref e) { s with heap := h' }) :
    wpAny (model prog w) A (Builtin.SmallTypes.nextOf (.ref it)) Q E s := by
  obtain ⟨oi, g1, g2, g3⟩ := id hi
  obtain ⟨ol, k1, _, nl, k2⟩ := hl
  unfold Builtin.SmallTypes.nextOf
  refine wpAny_bind (wpAny_callSpecial?_slot (name := Str.ofString "__next__") hi.typeIs slot_listiter_next (wpAny_call_entry slot_listiter_next hi.typeIs entry_listiter_next ?_ (args_listiter_next _)))
  show wpAny _ _ (field (.ref it) 0 >>= _) _ _ s
  refine wpAny_bind (wpAny_field g1 g3 (x := .ref l) rfl ?_)
  show wpAny _ _ (if (Value.ref l == .none) = true then _ else _) _ _ s
  rw [if_neg (show ¬ ((Value.ref l == .none) = true) from Bool.false_ne_true)]
  show wpAny _ _ (field (.ref it) 1 >>= _) _ _ s
  refine wpAny_bind (wpAny_field g1 g3 (x := .int i 0) rfl ?_)
  show wpAny _ _ (seqItems? (.ref l) >>= _) _ _ s
  refine wpAny_bind (wpAny_seqItems k1 k2 ?_)
  simp only [hn, Int.toNat_natCast]
  refine wpAny_bind (wpAny_rule (wpAny_bind (wpAny_setField g1 g3 (by simp) ?_)))
  refine hot_stop (A := A.in1) (x1 := x1) (HotAt.stay c fun o q => (Heap.SameBut.update ..).extBut _ _ hx1 q) fun h' e kp he => ?_
  exact hE h' e (fun b o nb q => kp b o ((Heap.SameBut.update ..).extBut b o nb q)) he
theorem tup_done {it t x1 : Addr} {i : Nat} {items : Array Value} {Q : Option Value → Shared → Prop} (c : HotAt A x1 s.heap) (hx1 : x1 ≠ it)
    (hi : IsTupIter s.heap it t i) (ht : IsTup s.heap t items) (hn : items[i]? = none)
    (hQ : ∀ h', Heap.ExtBut it s.heap h' → Q none { s with heap := h' }) : wpAny (model prog w) A (pyNext (.ref it)) Q E s := by
  obtain ⟨oi, g1, g2, g3⟩ := id hi
  obtain ⟨ol, k1, _, nl, k2⟩ := ht
  unfold pyNext
  refine wpAny_bind (wpAny_attempt (wpAny_callSpecial?_slot (name := Str.ofString "__next__") hi.typeIs slot_tupleiter_next (wpAny_call_entry slot_tupleiter_next hi.typeIs entry_tupleiter_next ?_ (args_tupleiter_next _))))
  show wpAny _ _ (field (.ref it) 0 >>= _) _ _ s
  refine wpAny_bind (wpAny_field g1 g3 (x := .ref t) rfl ?_)
  show wpAny _ _ (if (Value.ref t == .none) = true then _ else _) _ _ s
  rw [if_neg (show ¬ ((Value.ref t == .none) = true) from Bool.false_ne_true)]
  show wpAny _ _ (field (.ref it) 1 >>= _) _ _ s
  refine wpAny_bind (wpAny_field g1 g3 (x := .int i 0) rfl ?_)
  show wpAny _ _ (seqItems? (.ref t) >>= _) _ _ s
  refine wpAny_bind (wpAny_seqItems k1 k2 ?_)
  simp only [hn, Int.toNat_natCast]
  refine wpAny_bind (wpAny_rule (wpAny_bind (wpAny_setField g1 g3 (by simp) ?_)))
  refine hot_stop (A := A.in1) (x1 := x1) (HotAt.stay c fun o q => (Heap.SameBut.update ..).extBut _ _ hx1 q) fun h' e kp he => ?_
  obtain ⟨oe, q1, q2⟩ := he
  refine wpAny_bind (wpAny_isInstance (T := "StopIteration") (b := true) ⟨oe, q1, q2⟩ isSubtype_stop ?_)
  exact wpAny_pure (hQ h' fun b o nb q => kp b o ((Heap.SameBut.update ..).extBut b o nb q))
theorem items_hot {t x1 : Addr} {items : Array Value} {Q : List Value → Shared → Prop} (c : HotAt A x1 s.heap) (ht : IsTup s.heap t items)
    (hQ : ∀ h', Heap.ExtBut s.heap.objs.size s.heap h' → Q items.toList { s with heap := h' }) : wpAny (model prog w) A (unpackItems (.ref t) items.size none) Q E s := by
  have nt : t ≠ s.heap.objs.size := by
    obtain ⟨ot, q, _⟩ := ht
    exact Nat.ne_of_lt (Heap.lt_size q)
  have nx : x1 ≠ s.heap.objs.size := by
    obtain ⟨_, ox, _, q, _⟩ := c
    exact Nat.ne_of_lt (Heap.lt_size q)
  unfold unpackItems
  refine wpAny_bind ?_
  unfold notIterableAtAll
  refine wpAny_bind (wpAny_specialOf ht.typeIs slot_tuple_iter.lookup (wpAny_pure ?_))
  simp only [if_false, Bool.false_eq_true]
  refine wpAny_bind (wpAny_holding (iter_tuple ht (wpAny_bind (wpAny_holding (draw_tuple nt items.size 0 _ _ ⟨_, Heap.get?_push_size _ rfl, rfl, rfl⟩ (ht.push _) (by omega) fun h1 i1 b1 => ?_)))))
  have al : List.take items.size (List.drop 0 items.toList) = items.toList := by
    rw [List.drop_zero]
    exact List.take_of_length_le (by simp)
  rw [al, if_neg (by simp)]
  have c1 : HotAt A x1 h1 := HotAt.stay c fun o q => b1.extBut _ _ nx (Heap.get?_push_of_some _ q)
  refine wpAny_bind (wpAny_holding (tup_done (s := { s with heap := h1 }) c1 nx i1 ((ht.push _).extBut b1.extBut nt) (by simp) fun h2 b2 => ?_))
  simp only [if_false, Option.isSome_none, Bool.false_eq_true]
  exact wpAny_pure (hQ h2 fun b o nb q => b2 b o nb (b1.extBut b o nb (Heap.get?_push_of_some _ q)))
theorem asg_hot {env : Env} {elts : List Expr} {k} {pos : Pos} {t x1 : Addr} {items : Array Value} {Q : Unit → Shared → Prop} (c : HotAt A x1 s.heap) (ht : IsTup s.heap t items)
    (hn : (assignEach elts env).length = items.size) (hs : (assignEach elts env).findIdx? (·.1) = none)
    (h : ∀ h', Heap.ExtBut s.heap.objs.size s.heap h' → wpAny (model prog w) A (assignInOrder ((assignEach elts env).map (·.2)) items.toList) Q E { s with heap := h' }) :
    wpAny (model prog w) A (assign (.Tuple elts k pos) env (.ref t)) Q E s := by
  rw [assign_Tuple]
  refine wpAny_bind (wpAny_standAt ?_)
  unfold unpack
  rw [hn, hs]
  exact wpAny_bind (wpAny_holding (items_hot c ht h))
/-- zip's end -/
theorem zip_done {z TI TO i1 i2 l1 l2 x1 : Addr} {k1 : Nat} {xs : Array Value} {Q : Option Value → Shared → Prop} (c : HotAt A x1 s.heap) (nz : x1 ≠ z) (n1 : x1 ≠ i1) (D : ZipApart z TI TO i1 i2 l1 l2)
    (gz : IsZip s.heap z TI TO .none) (gI : IsPair s.heap TI (.ref i1) (.ref i2))
    (q1 : s.heap.IsListIter i1 l1 k1) (m1 : s.heap.IsList l1 xs) (hend : xs[k1]? = none)
    (hQ : ∀ h', (∀ c o, c ≠ z → c ≠ TO → c ≠ i1 → c ≠ i2 → s.heap.get? c = some o → h'.get? c = some o) → Q none { s with heap := h' }) : wpAny (model prog w) A (pyNext (.ref z)) Q E s := by
  have ty : s.TypeIs (.ref z) "zip" := ⟨_, gz, rfl⟩
  unfold pyNext
  refine wpAny_bind (wpAny_attempt (wpAny_callSpecial?_slot (name := Str.ofString "__next__") ty F.slot_zip_next (wpAny_call_entry F.slot_zip_next ty F.entry_zip_next ?_ (F.args_zip_next_1 _))))
  show wpAny _ _ (field (.ref z) 2 >>= _) _ _ _
  refine wpAny_bind (wpAny_field gz rfl (x := .bool false) rfl ?_)
  show wpAny _ _ (field (.ref z) 3 >>= _) _ _ _
  refine wpAny_bind (wpAny_field gz rfl (x := .ref TI) rfl (wpAny_bind (wpAny_seqItems gI rfl ?_)))
  show wpAny _ _ (Builtin.SmallTypes.ownedTupleIsFree (.ref z) >>= _) _ _ _
  refine wpAny_bind ?_
  unfold Builtin.SmallTypes.ownedTupleIsFree
  refine wpAny_bind (wpAny_field gz rfl (x := .none) rfl (wpAny_pure ?_))
  simp only [if_true]
  refine wpAny_bind (wpAny_rule (wpAny_bind (wpAny_field gz rfl (x := .ref TO) rfl (wpAny_bind (wpAny_setField_rec gz (by simp) fun h1 gz1 b1 => ?_)))))
  replace gz1 : IsZip h1 z TI TO .ellipsis := gz1
  refine wpAny_bind ?_
  simp only [List.zipIdx_nil, List.zipIdx_cons, List.forIn_nil, List.forIn_cons]
  refine wpAny_bind (wpAny_bind (wpAny_onRaise ?_))
  show wpAny _ _ (Builtin.SmallTypes.nextOf (.ref i1) >>= _) _ _ _
  have c1 : HotAt A.in1 x1 h1 := HotAt.stay (A := A) c fun o q => b1.extBut _ _ nz q
  refine wpAny_bind (list_done (A := A.in1) (s := { s with heap := h1 }) c1 n1 (q1.extBut b1.extBut D.i1z) (m1.extBut b1.extBut D.l1z) hend fun h2 e b2 he => ?_)
  obtain ⟨oe, r1, r2⟩ := he
  have gz2 : IsZip h2 z TI TO .ellipsis := b2 _ _ D.i1z.symm gz1
  have hez : e ≠ z := fun x => by
    subst x
    rw [gz2] at r1
    cases r1
    simp at r2
  refine wpAny_setField_rec gz2 (by simp) fun h3 _ b3 => ?_
  refine wpAny_bind (wpAny_isInstance (T := "StopIteration") (b := true) ⟨oe, b3.extBut _ _ hez r1, r2⟩ isSubtype_stop ?_)
  exact wpAny_pure (hQ h3 fun c o c1 _ c3 _ x => b3.extBut _ _ c1 (b2 _ _ c3 (b1.extBut _ _ c1 x)))
end
end Nc
set_option maxHeartbeats 2000000
namespace Nc
open PySem PySem.Spec PyProof.Rows HotX L2
abbrev St' := L2.St
/-- the handled exception stands in the context's first state, out of reach -/
def HotK (X : Cx) : Prop := ∃ x1, HotAt X.A x1 X.s_0.heap ∧ X.H_0 x1 = none ∧ x1 ∉ X.fs ∧ x1 ∉ X.ex
section
variable {X : Cx} {pins : List (Addr × Obj)} {σ : L2.St} {H : Hp} {s : Shared}
theorem HotK.at (c : HotK X) (I : Inv X pins σ H s) : ∃ x1, HotAt X.A x1 s.heap ∧ H x1 = none ∧ x1 < X.s_0.heap.objs.size ∧ x1 ∉ X.fs ∧ x1 ∉ X.ex := by
  obtain ⟨x1, ⟨a, o, vs, e, d, f⟩, h0, nf, nx⟩ := c
  exact ⟨x1, ⟨a, o, vs, I.base.keep x1 o e h0 nf nx, d, f⟩, I.base.free x1 o e h0 nx, Heap.lt_size e, nf, nx⟩
theorem fp_hot {b x1 : Addr} (f : FpOk X pins H b) (h1 : x1 < X.s_0.heap.objs.size) (h2 : x1 ∉ X.ex) : x1 ≠ b := by
  rintro rfl
  rcases f.2.2.2.1 with q | q
  · exact h2 q
  · exact Nat.lt_irrefl _ (Nat.lt_of_lt_of_le h1 q)
theorem pg_tupK {pos : Pos} {es : List Expr} {k : Nat} {t : TGs} {n : Nat} (c : HotK X) (h : PGs X es t)
    (hn : (assignEach es X.env).length = n := by rfl) (hs : (assignEach es X.env).findIdx? (·.1) = none := by rfl) : PG X (.Tuple es k pos) (gTup X.K n t) := by
  refine ⟨fun pins s σ H v u Q I r w => ?_⟩
  obtain ⟨a, xs, e1, q, l, w⟩ := w
  subst e1
  cases r
  obtain ⟨x1, hot, _⟩ := c.at I
  obtain ⟨its, rv, t, _⟩ := I.tuple q
  refine asg_hot hot t (by simp [hn, ← l, rv.length]) hs fun h' kp => ?_
  exact h.run pins _ σ H xs _ Q (I.kept (t' := s.toks) fun b o e => kp b o (Nat.ne_of_lt (Heap.lt_size e)) e) (by simpa using rv) w
end
/-- as the library's Turn, in a hot context -/
structure TurnK (P : Program) (w : World) (K : PySem.W.Frag) (tg : Expr) (J : It) (fp : List Addr) (it : Addr) (tn : Nat → Heap → Prop) : Prop where
  obj : ∀ i h, tn i h → ∀ b ∈ fp, ∃ o, h.get? b = some o ∧ ∀ v, o.data ≠ .cell v
  keep : ∀ i h h', tn i h → (∀ b ∈ fp, ∀ o, h.get? b = some o → h'.get? b = some o) → tn i h'
  item : ∀ (X : Cx), X.prog = P ∧ X.w = w ∧ X.K = K ∧ HotK X → ∀ (i : Nat) (pins : List (Addr × Obj)) (s : Shared) (σ : L2.St) (H : Hp) (E : Value → Shared → Prop), Inv X pins σ H s ∧ (∀ b ∈ fp, FpOk X pins H b) ∧ tn i s.heap ∧ J.go i H →
    wpAny (model P w) X.A (pyNext (.ref it)) (fun r s1 => ∃ u, r = some u ∧ wpAny (model P w) X.A (letOwnedTupleGo tg (.ref it) u) (fun _ s2 => ∃ x H', Inv X pins σ H' s2 ∧ RelV x u ∧ J.yld i H x H' ∧ tn (i + 1) s2.heap ∧ ∀ b ∈ fp, H' b = none) E s1) E s
  done : ∀ (X : Cx), X.prog = P ∧ X.w = w ∧ X.K = K ∧ HotK X → ∀ (i : Nat) (pins : List (Addr × Obj)) (s : Shared) (σ : L2.St) (H : Hp) (E : Value → Shared → Prop), Inv X pins σ H s ∧ (∀ b ∈ fp, FpOk X pins H b) ∧ tn i s.heap ∧ J.stop i H →
    wpAny (model P w) X.A (pyNext (.ref it)) (fun r s1 => r = none ∧ Inv X pins σ H s1) E s
  self : ∀ (A : Around) (i : Nat) (s : Shared) (Q : Value → Shared → Prop) (E : Value → Shared → Prop), tn i s.heap → Q (.ref it) s → wpAny (model P w) A (pyIter (.ref it)) Q E s
/-- zip of two lists, the first no longer than the other -/
def ItK (K : PySem.W.Frag) (a b : Addr) : It where
  stop := fun i H => ∃ xs ys, SqL K H a xs ∧ SqL K H b ys ∧ xs.length ≤ i
  go := (Itz K a b).go
  yld := (Itz K a b).yld
theorem zipK {P : Program} {w : World} {K : PySem.W.Frag} {elts : List Expr} {kk : Nat} {tpos : Pos} {a b z TI TO i1 i2 : Addr} (D : ZipApart z TI TO i1 i2 a b) :
    TurnK P w K (.Tuple elts kk tpos) (ItK K a b) [z, TI, TO, i1, i2] z (fun i h => IsZip h z TI TO .none ∧ IsPair h TI (.ref i1) (.ref i2) ∧ (∃ x y, IsPair h TO x y) ∧ h.IsListIter i1 a i ∧ h.IsListIter i2 b i) where
  obj := (turn_zip (P := P) (w := w) (K := K) (elts := elts) (kk := kk) (tpos := tpos) D).obj
  keep := (turn_zip (P := P) (w := w) (K := K) (elts := elts) (kk := kk) (tpos := tpos) D).keep
  self := (turn_zip (P := P) (w := w) (K := K) (elts := elts) (kk := kk) (tpos := tpos) D).self
  item := by
    rintro X ⟨rfl, rfl, rfl, c⟩ i pins s σ H E ⟨I, hf, ⟨gz, gI, ⟨x0, y0, gO⟩, q1, q2⟩, ⟨xs, ys, x, y, lx, ly, ex, ey⟩⟩
    obtain ⟨its, rv, p, _⟩ := I.list lx
    obtain ⟨its2, rv2, p2, _⟩ := I.list ly
    obtain ⟨u, hu, ru⟩ := rv.get ex
    obtain ⟨u2, hu2, ru2⟩ := rv2.get ey
    have zl : z < s.heap.objs.size := Heap.lt_size gz
    refine wpAny_pyNext_zip_item D gz gI gO q1 q2 p.isList p2.isList (x := u) (y := u2) (by simpa using hu) (by simpa using hu2) fun h' z' TO' h1' h2' hT hsz kp => ?_
    refine ⟨_, rfl, wpAny_letOwnedTupleGo_zip (s := { s with heap := h' }) z' fun h2 z2 sb => ?_⟩
    have hT2 : h2.get? s.heap.objs.size = some { cls := .type "tuple", data := .seq #[u, u2] } := (sb.2 _ (Nat.ne_of_gt zl)).trans hT
    have new : ObjOk X.prog X.w (upd H s.heap.objs.size (.tup [x, y])) h2 s.heap.objs.size (.tup [x, y]) := ⟨by show 2 ≤ sizeLine; decide, [u, u2], .cons ru (.cons ru2 .nil), ⟨_, hT2, rfl, _, rfl⟩⟩
    have I1 : Inv X pins σ (upd H s.heap.objs.size (.tup [x, y])) { s with heap := h2 } :=
      I.turnedNew (t' := s.toks) (ch := [z, TI, TO, i1, i2]) (fun b o nb q => (sb.2 b (fun e => nb (by simp [e]))).trans (kp b o (fun e => nb (by simp [e])) (fun e => nb (by simp [e])) (fun e => nb (by simp [e])) (fun e => nb (by simp [e])) q)) hf (Nat.le_refl _) new
    refine ⟨.ref s.heap.objs.size, _, I1, rfl, ⟨_, x, y, rfl, I.hok.fresh (Nat.le_refl _), rfl, fun l hl => by rw [I.list_inj hl lx]; exact ex, fun l hl => by rw [I.list_inj hl ly]; exact ey⟩, ⟨z2, ?_, ⟨u, u2, ?_⟩, ?_, ?_⟩, fun b hb => ?_⟩
    · exact (sb.2 _ D.TIz).trans (kp _ _ D.TIz D.TITO D.TIi1 D.TIi2 gI)
    · exact (sb.2 _ D.TOz).trans TO'
    · exact h1'.at fun o q => (sb.2 _ D.i1z).trans q
    · exact h2'.at fun o q => (sb.2 _ D.i2z).trans q
    · have hlt : b < s.heap.objs.size := by
        rcases (show b = z ∨ b = TI ∨ b = TO ∨ b = i1 ∨ b = i2 by simpa using hb) with q | q | q | q | q
        · exact q ▸ zl
        · exact q ▸ Heap.lt_size gI
        · exact q ▸ Heap.lt_size gO
        · obtain ⟨_, e1, _⟩ := q1
          exact q ▸ Heap.lt_size e1
        · obtain ⟨_, e2, _⟩ := q2
          exact q ▸ Heap.lt_size e2
      rw [upd_ne (Nat.ne_of_lt hlt)]
      exact (hf b hb).1
  done := by
    rintro X ⟨rfl, rfl, rfl, c⟩ i pins s σ H E ⟨I, hf, ⟨gz, gI, ⟨x0, y0, gO⟩, q1, q2⟩, ⟨xs, ys, lx, ly, hend⟩⟩
    obtain ⟨its, rv, p, _⟩ := I.list lx
    have l1 := rv.length
    obtain ⟨x1, hot, _, hl, _, hx⟩ := c.at I
    exact zip_done hot (fp_hot (hf z (by simp)) hl hx) (fp_hot (hf i1 (by simp)) hl hx) D gz gI q1 p.isList (by simp; omega) fun h' kp => ⟨rfl, I.turnedL (t' := s.toks) (ch := [z, TI, TO, i1, i2]) (fun b o nb q =>
      kp b o (fun e => nb (by simp [e])) (fun e => nb (by simp [e])) (fun e => nb (by simp [e])) (fun e => nb (by simp [e])) q) hf⟩
/-- an iterator has come -/
def PIEK (X : Cx) (pins : List (Addr × Obj)) (σ : L2.St) (tg : Expr) (R : It → Hp → Prop) (itv : Value) (s2 : Shared) : Prop :=
  ∃ (it : Addr) (fp : List Addr) (tn : Nat → Heap → Prop) (J : It) (H' : Hp), itv = .ref it ∧ Inv X pins σ H' s2 ∧ TurnK X.prog X.w X.K tg J fp it tn ∧ tn 0 s2.heap ∧ (∀ b ∈ fp, FpOk X pins H' b) ∧ R J H'
structure PIK (X : Cx) (tg iter : Expr) (wi : TI) : Prop where
  run : ∀ (pins : List (Addr × Obj)) (s : Shared) (σ : L2.St) (H : Hp) (R : It → Hp → Prop), Inv X pins σ H s → wi σ H R →
    wpAny (model X.prog X.w) X.A (eval iter X.env) (fun v s1 => wpAny (model X.prog X.w) X.A (pyIter v) (PIEK X pins σ tg R) X.xe s1) X.xe s
def iZipK (K : PySem.W.Frag) (ta : TA) : TI := fun σ H R => ta σ H fun vs H1 => ∃ a b xs ys, vs = [.ref a, .ref b] ∧ SqL K H1 a xs ∧ SqL K H1 b ys ∧ R (ItK K a b) H1
theorem pi_zipK {X : Cx} {e e2 : Expr} {ta : TA} {p pos tpos : Pos} {elts : List Expr} {kk : Nat} (hg : Gl X "zip") (hm : X.mg "zip" = none) (ha : PA X [e, e2] ta)
    (h1 : starEach [e, e2] X.env = (false, eval e X.env) :: starEach [e2] X.env := by rfl) (h2 : (backTo pos (starEach [e2] X.env)).any (·.1) = false := by rfl) :
    PIK X (.Tuple elts kk tpos) (.Call (.Name "zip" p) [e, e2] [] pos) (iZipK X.K ta) := by
  refine ⟨fun pins s σ H R I h => Call_ (ld_blt I hg hm PyProof.Rows.boot_zip (PyProof.Rows.callWith_type1 (thn (ha.run pos pins s σ H _ I h) fun us s1 ⟨vs, H1, I1, r1, q1⟩ => ?_) h1 h2))⟩
  obtain ⟨a, b, xs, ys, rfl, lx, ly, q⟩ := q1
  cases r1 with
  | cons r rr =>
    cases rr with
    | cons r' rr =>
      cases rr
      cases r
      cases r'
      obtain ⟨its, rv, p1, _⟩ := I1.list lx
      obtain ⟨its2, rv2, p2, _⟩ := I1.list ly
      refine call_zip_2 p1.isList p2.isList fun h' gz gI gO q1 q2 hsz kp => wpAny_pyIter_zip gz ?_
      refine ⟨s1.heap.objs.size + 4, [s1.heap.objs.size + 4, s1.heap.objs.size + 2, s1.heap.objs.size + 3, s1.heap.objs.size, s1.heap.objs.size + 1], _, _, H1, rfl, I1.kept (t' := s1.toks) kp, zipK (PySem.W.ktu_apart s1.heap.objs.size a b p1.lt p2.lt), ⟨gz, gI, ⟨_, _, gO⟩, q1, q2⟩, fun c hc => ?_, q⟩
      have le : s1.heap.objs.size ≤ c := by
        rcases (show c = s1.heap.objs.size + 4 ∨ c = s1.heap.objs.size + 2 ∨ c = s1.heap.objs.size + 3 ∨ c = s1.heap.objs.size ∨ c = s1.heap.objs.size + 1 by simpa using hc) with z | z | z | z | z
        · exact z ▸ Nat.le_add_right _ _
        · exact z ▸ Nat.le_add_right _ _
        · exact z ▸ Nat.le_add_right _ _
        · exact z ▸ Nat.le_refl _
        · exact z ▸ Nat.le_add_right _ _
      exact I1.fpOk le (I1.hok.fresh le)
end Nc
set_option maxHeartbeats 4000000
namespace Nc
open PySem PySem.Spec PyProof.Rows HotX L2
section
variable {X : Cx} {pins : List (Addr × Obj)} {σ : L2.St} {H : Hp} {s : Shared}
/-- a block within a hot context is hot -/
theorem HotK.blk {scope : Scope} {ce : Env} {fp : List Addr} (c : HotK X) (I : Inv X pins σ H s) (hf : ∀ b ∈ fp, FpOk X pins H b) : HotK (X.blk s H scope ce fp) := by
  obtain ⟨x1, hot, h0, hl, nf, nx⟩ := c.at I
  refine ⟨x1, hot, h0, fun z => ?_, fun z => fp_hot (hf x1 z) hl nx rfl⟩
  rcases List.mem_cons.mp (I.stkSub x1 z) with q | q
  · have := I.ok.above
    rw [← q] at this
    exact Nat.lt_irrefl _ (Nat.lt_of_lt_of_le hl this)
  · exact nf q
abbrev Blks (X : Cx) (scope : Scope) (p : Cx → Prop) : Prop := ∀ (s : Shared) (H : Hp) (C : Addr) (cl : List (Str × Addr)) (fp : List Addr), HotK (X.blk s H scope (compEnvC scope cl C X.env) fp) → p (X.blk s H scope (compEnvC scope cl C X.env) fp)
variable {Q : VK} {elt tg iter : Expr} {ifs : List Expr} {scope : Scope} {own : List (Str × Nat)} {pos pos' : Pos} {wi : TI} {g : TG} {tt : TT} {te : TE} {use : Option (Value → Sem Unit)} {Qf : Value → Shared → Prop}
theorem lcK (c : HotK X) (hN : X.N.Nodup) (I : Inv X pins σ H s) (hi : PIK X tg iter wi) (ok : BlkOk X.N X.env.scope scope own)
    (hg : Blks X scope fun Y => PG Y tg g) (ht : Blks X scope fun Y => PTs Y ifs tt) (he : Blks X scope fun Y => PE Y elt te) (hs : ∀ x, foldedSetIterable iter X.env x = pure x)
    (h : tLc wi g tt te (own.map (·.2)) σ H Q)
    (hR : ∀ D C s' m H', Inv X pins σ H' s' → Q (.ref D) H' → s'.heap.Ns C m → FpOk X pins H' C → compPost (model X.prog X.w) X.A X.xe use Qf (.ref D) C (.ok .next) s') :
    wpAny (model X.prog X.w) X.A (comprehension (.ListComp elt [⟨tg, iter, ifs, 0⟩] scope pos) scope X.env pos' (newList []) false (eval iter X.env) use) Qf X.xe s := by
  refine wpAny_comprehension_free (use := use) rfl hs (closure_ok fun y hy e => (ok.free y hy e).elim (fun k => I.ok.has _ (.inl k)) fun k => I.ok.has _ (.inr k)) ok.kind (fun y hy e => by rw [ok.uniq y hy, e])
    (thn (hi.run pins s σ H _ I h) fun xv s1 hx => thn hx fun itv s2 h2 => ?_)
  obtain ⟨it, fp, tn, J, H2, rfl, I2, T, t2, f2, q⟩ := h2
  refine wpAny_newObj_type (newEnv_comp ?_) (by show 0 ≤ sizeLine; decide)
  generalize hD : s2.heap.objs.size = D
  obtain ⟨W, ⟨m0, w0⟩, turn⟩ := q D (I2.hok.fresh (Nat.le_of_eq hD))
  generalize e3 : ({ s2 with heap := s2.heap.push { cls := .type "list", data := .seq ([] : List Value).toArray } } : Shared) = s3
  have p3 : s3.heap = s2.heap.push { cls := .type "list", data := .seq ([] : List Value).toArray } := by rw [← e3]
  have I3 : Inv X pins σ (upd H2 D (.lst [])) s3 := by
    rw [← e3]
    exact I2.laid (t' := s2.toks) (fun b o e => Heap.get?_push_of_some _ e) (Nat.le_of_eq hD) ⟨Nat.zero_le _, [], 0, .nil, by rw [← hD]; exact Heap.get?_push_size _ rfl⟩
  have f3 : ∀ b ∈ fp, FpOk X pins (upd H2 D (.lst [])) b ∧ b < s3.heap.objs.size := fun b hb => by
    obtain ⟨o, e, _⟩ := T.obj _ _ t2 b hb
    have lt := Heap.lt_size e
    refine ⟨⟨?_, (f2 b hb).2⟩, by rw [p3, Heap.size_push]; exact Nat.lt_succ_of_lt lt⟩
    rw [upd_ne (by rw [← hD]; exact Nat.ne_of_lt lt)]
    exact (f2 b hb).1
  have t3 : tn 0 s3.heap := T.keep _ _ _ t2 fun b _ o e => by rw [p3]; exact Heap.get?_push_of_some _ e
  have I4 := block_start I3 ok hN f3
  have hot := HotK.blk (scope := scope) (ce := compEnvC scope (cellsFrom (s3.heap.objs.size + 1) scope.names (cloFrom X.env.cells scope.names [])) s3.heap.objs.size X.env) (fp := fp) c I3 fun b hb => (f3 b hb).1
  have pg := hg _ _ _ _ _ hot
  have pt := ht _ _ _ _ _ hot
  have pe := he _ _ _ _ _ hot
  show codeAny _ _ (.compStart (.ListComp elt [⟨tg, iter, ifs, 0⟩] scope pos) 0 (.ref it) (.ref D) (compEnvC scope (cellsFrom (s3.heap.objs.size + 1) scope.names (cloFrom X.env.cells scope.names [])) s3.heap.objs.size X.env)) (compPost (model X.prog X.w) X.A X.xe use Qf (.ref D) s3.heap.objs.size) { s3 with heap := pushCells (s3.heap.push { cls := .type "dict", data := .dict #[] }) scope.names }
  have nf : ∀ b ∈ fp, (upd H2 D (.lst [])) b = none := fun b hb => (f3 b hb).1.1
  generalize ec : compEnvC scope (cellsFrom (s3.heap.objs.size + 1) scope.names (cloFrom X.env.cells scope.names [])) s3.heap.objs.size X.env = ce at I4 pg pt pe hot ⊢
  have cL : ce.locals = s3.heap.objs.size := by subst ec; rfl
  generalize eH : upd H2 D (.lst []) = H3 at I3 I4 pg pt pe hot w0 nf f3
  generalize e4 : ({ s3 with heap := pushCells (s3.heap.push { cls := .type "dict", data := .dict #[] }) scope.names } : Shared) = s4 at I4 ⊢
  have t4 : tn 0 s4.heap := T.keep _ _ _ t3 fun b _ o e => by rw [← e4]; exact pushCells_keeps _ _ _ _ (Heap.get?_push_of_some _ e)
  let Y := X.blk s3 H3 scope ce fp
  have cY : Y.prog = X.prog ∧ Y.w = X.w ∧ Y.K = X.K ∧ HotK Y := ⟨rfl, rfl, rfl, hot⟩
  have stat : ∀ {σ' : L2.St} {H' : Hp} {s' : Shared}, Inv Y [] σ' H' s' → (∀ b ∈ fp, H' b = none) → ∀ b ∈ fp, FpOk Y [] H' b := fun {σ' H' s'} J hn b hb =>
    ⟨hn b hb, (J.ok.exf b hb).1, J.ok.exfs b hb, .inl hb, fun x c e => (J.ok.exf b hb).2 x c e, fun p hp => absurd (show p ∈ ([] : List (Addr × Obj)) ++ [] from hp) (by simp)⟩
  have run : codeAny (model X.prog X.w) X.A (.compLoop (.ListComp elt [⟨tg, iter, ifs, 0⟩] scope pos) 0 (.ref it) (.ref D) ce) (compPost (model X.prog X.w) X.A X.xe use Qf (.ref D) s3.heap.objs.size) s4 := by
    refine compLoop_any (fun n s' => ∃ i H', Inv Y [] (wipe σ (own.map (·.2))) H' s' ∧ tn i s'.heap ∧ (∀ b ∈ fp, H' b = none) ∧ W i n H') ?_ m0 ⟨0, H3, I4, t4, nf, w0⟩
    rintro n s5 ⟨i, H5, I5, t5, n5, w5⟩
    rcases turn i n H5 w5 with ⟨stop, qq⟩ | ⟨go, Nx, nx, step⟩
    · refine thnF (T.done Y cY i [] s5 _ H5 (fun _ _ => False) ⟨I5, stat I5 n5, t5, stop⟩) fun r s6 ⟨hr, I6⟩ => ?_
      subst hr
      have I7 : Inv X pins σ H5 s6 := I3.call' (ch := fp) I6.os I6.base I6.hok I6.bare fun b hb => ⟨(f3 b hb).1.2.2.2.1, (f3 b hb).1.2.1, (f3 b hb).1.2.2.2.2.1, (f3 b hb).1.2.2.2.2.2⟩
      have nC : H5 ce.locals = none := I6.free
      obtain ⟨m, hn, _⟩ := I6.loc
      have hn : s6.heap.Ns ce.locals m := hn
      rw [cL] at hn nC
      exact hR D _ s6 m H5 I7 qq hn (I3.fpOk (Nat.le_refl _) nC)
    · refine thnF (T.item Y cY i [] s5 _ H5 (fun _ _ => False) ⟨I5, stat I5 n5, t5, go⟩) fun r s6 ⟨u, hr, h6⟩ => ?_
      subst hr
      refine thnF h6 fun _ s7 ⟨x, H7, I7, r7, y7, t7, n7⟩ => ?_
      refine thnF (pg.run _ s7 _ H7 x u _ (I7.pinned (stat I7 n7) (T.obj _ _ t7)) r7 (step x H7 y7)) fun _ s8 ⟨σ8, H8, I8, hw8, q8⟩ => ?_
      refine thnF (pt.run _ s8 σ8 H8 _ I8 q8) fun b s9 ⟨H9, I9, q9⟩ => ?_
      have fin : ∀ {s' : Shared} {H' : Hp}, Inv Y ([] ++ pinsAt fp s7.heap) σ8 H' s' → Nx H' → ∃ m, m < n ∧ ∃ i H', Inv Y [] (wipe σ (own.map (·.2))) H' s' ∧ tn i s'.heap ∧ (∀ b ∈ fp, H' b = none) ∧ W i m H' := fun {s' H'} J z => by
        obtain ⟨m', hm, w'⟩ := nx H' z
        have at_ : ∀ b ∈ fp, ∀ o, s7.heap.get? b = some o → s'.heap.get? b = some o ∧ H' b = none := fun b hb o e => ⟨(J.pin (b, o) (List.mem_append_right _ (List.mem_append_right _ (mem_pinsAt hb e)))).1, (J.pin (b, o) (List.mem_append_right _ (List.mem_append_right _ (mem_pinsAt hb e)))).2.1⟩
        refine ⟨m', hm, i + 1, H', (J.unpinned (pins := [])).weak (by rw [← hw8, wipe_length]) (fun j v e => ?_), T.keep _ _ _ t7 fun b hb o e => (at_ b hb o e).1, fun b hb => ?_, w'⟩
        · rw [← hw8] at e
          exact (wipe_some e).1
        · obtain ⟨o, e, _⟩ := T.obj _ _ t7 b hb
          exact (at_ b hb o e).2
      cases b with
      | false =>
        simp only [if_false, Bool.false_eq_true] at q9 ⊢
        exact fin I9 q9
      | true =>
        simp only [if_true] at q9 ⊢
        exact thnF (pe.run _ s9 σ8 H9 _ I9 q9) fun z s10 ⟨yv, H10, I10, r10, acc, hD10, hz10, nx⟩ => app_ok (X := Y) I10 hD10 hz10 r10 fun s11 I11 => fin I11 nx
  exact codeAny_compStart_list run (T.self X.A 0 _ _ _ t4 run)
theorem pe_lcK (c : HotK X) (hN : X.N.Nodup) (hi : PIK X tg iter wi) (ok : BlkOk X.N X.env.scope scope own) (hg : Blks X scope fun Y => PG Y tg g) (ht : Blks X scope fun Y => PTs Y ifs tt) (he : Blks X scope fun Y => PE Y elt te)
    (hs : ∀ x, foldedSetIterable iter X.env x = pure x := by intro _; rfl) : PE X (.ListComp elt [⟨tg, iter, ifs, 0⟩] scope pos) (tLc wi g tt te (own.map (·.2))) := by
  refine ⟨fun pins s σ H Q I h => ?_⟩
  rw [eval_ListComp]
  refine lcK c hN I hi ok hg ht he hs h fun D C s' m H' J q hn ⟨f0, f1, f2, f3, f4, f5⟩ => ⟨m, hn, fun h2 sb => ?_⟩
  exact ⟨.ref D, H', J.turned (t' := s'.toks) (fun b o hb e => (sb.2 b hb).trans e) f0 f1 f3 f4 f5, rfl, q⟩
theorem ps_lcK {i : Nat} {y : Str} {py spos : Pos} (c : HotK X) (hN : X.N.Nodup) (hy : X.N[i]? = some y) (hyl : X.env.scope.names.lookup y = some .local) (hsw : swapsWith (.ListComp elt [⟨tg, iter, ifs, 0⟩] scope pos) (some (.Name y py)) spos.line X.env = pure true)
    (hi : PIK X tg iter wi) (ok : BlkOk X.N X.env.scope scope own) (hg : Blks X scope fun Y => PG Y tg g) (ht : Blks X scope fun Y => PTs Y ifs tt) (he : Blks X scope fun Y => PE Y elt te) (hs : ∀ x, foldedSetIterable iter X.env x = pure x := by intro _; rfl) :
    PS X (.Assign [.Name y py] (.ListComp elt [⟨tg, iter, ifs, 0⟩] scope pos) spos) (tAsg (tLc wi g tt te (own.map (·.2))) (gName i)) := by
  refine ⟨fun pins s σ H D I h => ?_⟩
  rw [exec_Assign_Name_used _ _ _ _ hsw]
  have h : tLc wi g tt te (own.map (·.2)) σ H (fun x H1 => gName i x σ H1 D.nx) := h
  refine wpAny_bind (wpAny_standAt (wpAny_bind (wpAny_bind (thn (lcK (Qf := fun _ s' => SP X pins D .next s') c hN I hi ok hg ht he hs h fun L C s' m H' J q hn ⟨f0, f1, f2, f3, f4, f5⟩ => ?_) fun _ s' hq => wpAny_pure (wpAny_pure hq)))))
  show wpAny _ _ (assign (.Name y py) X.env (.ref L)) _ _ _
  refine wpAny_assign_Name (store_ok2 (v := V.ref L) J hN hy (.inl hyl) rfl (fun s2 I2 ⟨a, sb, ha⟩ => ?_) (.inr hyl))
  have nC : C ≠ a := ha.elim (fun z => by rw [z]; exact f1) fun z e => f4 y a z e.symm
  exact ⟨m, hn.sameBut sb nC, fun h3 sb3 => ⟨_, H', I2.turned (t' := s2.toks) (fun b o hb e => (sb3.2 b hb).trans e) f0 f1 f3 f4 f5, q⟩⟩
end
end Nc
set_option maxHeartbeats 4000000
namespace Nc
open PySem PySem.Spec L2
open PyProof.Rows hiding St
section
variable {X : Cx} {io : Nat → Bool} {W : WX} {rk : Nat} {c : Cf} {p p1 p2 p3 : Bool} {cl cl1 cl2 cl3 : Cls} {G G0 G1 G2 G' : Gh} {H H0 H1 H2 H' : Hp} {σ σ1 σ2 σ' : L2.St} {ρ ρ1 ρ2 ρ' : Rho}
theorem tJ_mono {f : M} {Q Q' : VK} (h : ∀ v H', Q v H' → Q' v H') (q : tJ X io W p cl f σ H Q) : tJ X io W p cl f σ H Q' := by
  obtain ⟨G, ρ, re, q⟩ := q
  exact ⟨G, ρ, re, q.mono fun d ρ1 G1 H1 s1 re1 q1 v r => h v H1 (q1 v r)⟩
theorem call_isP {D : Addr} {q : Addr × Obj} (hq : q ∈ X.pn) (C : ExcC X.K D) (hz : Zc (.ref D) none q.2) (hf : ∃ vs, q.2.data = .fields vs) : CallR X (.builtin "isinstance") (rIsE X.K D q.1) := by
  intro pins s σ H xs us Q I r h
  obtain ⟨v, cv, b, rfl, hcv, e, k⟩ := h
  cases r with
  | cons rx rr =>
    cases rr with
    | cons rt rr =>
      cases rr
      cases rx
      cases hcv _ rt
      have g := (I.pin q (List.mem_append_left _ hq)).1
      obtain ⟨a, oc, od, oda, osl⟩ := q
      obtain ⟨vs, hv⟩ := hf
      obtain ⟨h1, h2⟩ := hz
      dsimp only at h1 h2 hv g
      subst h1 h2 hv
      exact PySem.W.kia_one (PySem.W.handS_kitx_exc C.hg C.hk C.hs C.hd C.ha C.hn C.ht C.hm) I.kIn ⟨g, rfl, rfl, trivial⟩ e (fun z => nomatch z) fun tk => ⟨.bl b, H, I.kept (t' := tk) fun _ _ z => z, rfl, k⟩
/-- the exception stands in slot j -/
def Ex (a : Addr) (j : Nat) (σ : L2.St) : Prop := σ[j]? = some (some (.ref a))
theorem Ex.kio {a : Addr} {j : Nat} (h : Ex a j σ) (k : Kio io σ σ') (hj : io j = true) : Ex a j σ' := (k.at_ j hj).trans h
/-- one isinstance(e, C), its answer known -/
def PIs (X : Cx) (a : Addr) (j : Nat) (e : Expr) (b : Bool) : Prop := PE X e fun σ H Q => Ex a j σ ∧ Q (.bl b) H
theorem pis {D : Addr} {q : Addr × Obj} {j : Nat} {x : Str} {T : Str} {pn pe pt pos : Pos} {cv : Value} {v : V} {b : Bool} (hq : q ∈ X.pn) (C : ExcC X.K D) (hz : Zc (.ref D) none q.2) (hf : ∃ vs, q.2.data = .fields vs)
    (hm : X.mg "isinstance" = none) (he : PE X (.Name T pt) (tC v)) (hv : ∀ u, RelV v u → u = cv) (hb : PySem.W.kitOne X.K (.ref D) cv = some b) (hN : X.N[j]? = some x := by rfl) (hx : Vis X.env.scope x := by first | exact Or.inl rfl | exact Or.inr (Or.inl rfl) | exact Or.inr (Or.inr rfl))
    (hd : (x == ("__debug__" : Str)) = false := by decide) (hcd : (x == ("__classdict__" : Str)) = false := by decide) (hg : Gl X "isinstance" := by rfl)
    (h1 : starEach [.Name x pe, .Name T pt] X.env = (false, eval (.Name x pe) X.env) :: starEach [.Name T pt] X.env := by rfl) (h2 : starEach [.Name T pt] X.env = [(false, eval (.Name T pt) X.env)] := by rfl)
    (h3 : (backTo pos (starEach [.Name T pt] X.env)).any (·.1) = false := by rfl) : PIs X q.1 j (.Call (.Name "isinstance" pn) [.Name x pe, .Name T pt] [] pos) b :=
  peI (pe_callB (call_isP hq C hz hf) hg hm boot_isinstance (pa_cons (pe_var (i := j) hN hx hd hcd) (pa_cons he pa_nil h2) h1) (by decide) (by decide) h1 h3) fun σ H Q ⟨ex, k⟩ => ⟨_, ex, v, cv, b, rfl, hv, hb, k⟩
/-- a display of such answers -/
inductive PIss (X : Cx) (a : Addr) (j : Nat) : List Expr → List Bool → Prop
  | nil : PIss X a j [] []
  | cons {e : Expr} {es : List Expr} {b : Bool} {bs : List Bool} : PIs X a j e b → PIss X a j es bs → starEach (e :: es) X.env = (false, eval e X.env) :: starEach es X.env → PIss X a j (e :: es) (b :: bs)
theorem PIss.pa {a : Addr} {j : Nat} {es : List Expr} {bs : List Bool} (h : PIss X a j es bs) : PA X es fun σ H Q => Ex a j σ ∧ Q (bs.map V.bl) H := by
  induction h with
  | nil => exact paI pa_nil fun σ H Q ⟨_, q⟩ => q
  | cons h1 _ hs ih => exact paI (pa_cons h1 ih hs) fun σ H Q ⟨ex, q⟩ => ⟨ex, ex, q⟩
theorem repl_bools (G : Gh) (H : Hp) : ∀ bs : List Bool, RepL c G H (bs.map V.bl) (bs.map PyData.bool)
  | [] => .nil
  | b :: bs => .cons (.bl b) (repl_bools G H bs)
abbrev mBs (bs : List Bool) : M := mC (.list (bs.map PyData.bool))
theorem pe_iss {a : Addr} {j : Nat} {es : List Expr} {bs : List Bool} {pos : Pos} (h : PIss X a j es bs) (hb : bs.length ≤ 1000) : PE X (.List es pos) fun σ H Q => Ex a j σ ∧ tJ X io W true (.n 1) (mBs bs) σ H Q := by
  refine peI (pe_lst h.pa) fun σ H Q ⟨ex, q⟩ => ?_
  obtain ⟨G, ρ, re, q⟩ := q
  refine ⟨ex, by rw [List.length_map, ← big_eq]; unfold big; omega, fun b hn => ?_⟩
  exact q G _ (Gr.upd hn).ext (re.gr (Gr.upd hn)) _ (.lst1 re.gi hn (repl_bools G H bs))
theorem pe_add {a : Addr} {j : Nat} {x e : Expr} {f g : M} {pos : Pos} (ho : OpR X (binaryOp .Add) (rD (cfX X) dAdd)) (hx : J X io W true .b x f) (he : PE X e fun σ H Q => Ex a j σ ∧ tJ X io W true (.n 1) g σ H Q) :
    PE X (.BinOp x .Add e pos) fun σ H Q => Ex a j σ ∧ tJ X io W true (.n 1) (mB dAdd f g) σ H Q := by
  refine peI (pe_op ho hx.pe he) fun σ H Q ⟨ex, q⟩ => ?_
  have z := tB_of (g := dAdd) (fa := f) (fb := g) (cl1 := .b) (cl2 := .n 1) (p1 := true) (p2 := true) rfl rfl rfl q
  exact tJ_mono (fun v H' k => ⟨ex, k⟩) z
theorem ps_setE {a : Addr} {j i : Nat} {x : Str} {e : Expr} {f : M} {py pos : Pos} (hio : io i = false) (he : PE X e fun σ H Q => Ex a j σ ∧ tJ X io W p (.n 1) f σ H Q) (hN : X.N.Nodup) (hi : X.N[i]? = some x := by rfl) (hx : Loc X.env.scope x := by first | exact Or.inl rfl | exact Or.inr rfl)
    (hs : swapsWith e (some (.Name x py)) pos.line X.env = pure false := by rfl) (hf : X.fn x = true ∨ X.env.scope.names.lookup x = some .local := by first | exact .inl rfl | exact .inr rfl) :
    PS X (.Assign [.Name x py] e pos) fun D σ H => Ex a j σ ∧ tS X io W rk (sSet i 1 f) D σ H := psI (ps_set (i := i) hN hi hx he hs hf) fun D σ H ⟨ex, q⟩ => by
  refine ⟨ex, ?_⟩
  obtain ⟨G, ρ, re, q⟩ := q
  refine ⟨G, ρ, re, ?_⟩
  have q : GoodS X io W σ G H ((f ρ).bind fun x => .ok (.nx, x.2.set i (some (1, x.1)))) _ := q
  cases e : f ρ with
  | ok a =>
    obtain ⟨d, ρ1⟩ := a
    rw [e] at q
    intro G1 H1 s1 re1 v r
    obtain ⟨A, t, nd, n⟩ := r
    exact q (σ.set i (some v)) _ H1 (Kio.set hio) (Stp.tag (A := A) (t := .own i) (s1.stp re.gi) n) (re1.setN t nd fun a ha => (n a ha).1)
  | exc x => rw [e] at q; exact q σ Kio.refl
  | bad => rw [e] at q; exact q.elim
/-- statements that know the exception's slot -/
def ES (X : Cx) (io : Nat → Bool) (W : WX) (rk : Nat) (a : Addr) (j : Nat) (st : Stmt) (s : S) : Prop := PS X st fun D σ H => Ex a j σ ∧ tS X io W rk s D σ H
def ESs (X : Cx) (io : Nat → Bool) (W : WX) (rk : Nat) (a : Addr) (j : Nat) (st : List Stmt) (s : S) : Prop := PSs X st fun D σ H => Ex a j σ ∧ tS X io W rk s D σ H
theorem JS.e {a : Addr} {j : Nat} {st : Stmt} {s : S} (h : JS X io W rk st s) : ES X io W rk a j st s := psI h fun _ _ _ q => q.2
theorem JSs.e {a : Addr} {j : Nat} {st : List Stmt} {s : S} (h : JSs X io W rk st s) : ESs X io W rk a j st s := pssI h fun _ _ _ q => q.2
theorem es_cons {a : Addr} {j : Nat} {st : Stmt} {sts : List Stmt} {s t : S} (hj : io j = true) (h1 : ES X io W rk a j st s) (h2 : ESs X io W rk a j sts t) : ESs X io W rk a j (st :: sts) (sSeq s t) := pssI (pss_cons h1 h2) fun D σ H ⟨ex, q⟩ => by
  obtain ⟨G, ρ, re, q⟩ := q
  refine ⟨ex, G, ρ, re, (GoodS.stmt q).mono fun fl ρ1 σ1 G1 H1 k1 s1 re1 q1 => ?_⟩
  cases fl with
  | nx => exact ⟨ex.kio k1 hj, G1, ρ1, re1, q1⟩
  | bk => exact q1 σ1 G1 H1 Kio.refl Stp.refl re1
  | ct => exact q1 σ1 G1 H1 Kio.refl Stp.refl re1
  | ret d => exact q1 σ1 G1 H1 Kio.refl Stp.refl re1
end
end Nc
set_option maxHeartbeats 4000000
namespace Nc
open PySem PySem.Spec L2
open PyProof.Rows hiding St
section
variable {X : Cx} {io : Nat → Bool} {W : WX} {rk : Nat} {c : Cf} {p p1 p2 p3 : Bool} {cl cl1 cl2 cl3 : Cls} {G G0 G1 G2 G' : Gh} {H H0 H1 H2 H' : Hp} {σ σ1 σ2 σ' : L2.St} {ρ ρ1 ρ2 ρ' : Rho}
def dSplit : D → D → Option D
  | .str a, .str b => if b.length ≠ 0 ∧ a.length ≤ 1000000 ∧ (Txt.split a b).length ≤ big then some (.list ((Txt.split a b).map .str)) else none
  | _, _ => none
theorem repl_strs (G : Gh) (H : Hp) : ∀ l : List Str, RepL c G H (l.map V.str) (l.map PyData.str)
  | [] => .nil
  | x :: l => .cons (.str x) (repl_strs G H l)
def mSpl (f g : M) : M := fun ρ => (f ρ).bind fun x => match x.1 with
  | .str a => (g x.2).bind fun y => R.of (dSplit (.str a) y.1) y.2
  | _ => .bad
theorem j_split {o e : Expr} {fo fe : M} {apos pos : Pos} (ho : J X io W p1 cl1 o fo) (he : J X io W p2 cl2 e fe) (h2 : cl2.st true = true := by rfl) (h3 : cl1.st true = true := by rfl) (hs : starEach [e] X.env = [(false, eval e X.env)] := by rfl)
    (hbase : attributeBase o "split" X.env (eval o X.env) = eval o X.env := by rfl) (hline : (apos.endLine == pos.line) = true := by rfl) : J X io W (p1 && p2) (.n 1) (.Call (.Attribute o "split" apos) [e] [] pos) (mSpl fo fe) := by
  refine ⟨peI (pe_split ho.pe he.pe hs hbase hline) fun σ H Q q => ?_, fun e => ?_⟩
  case refine_2 =>
    obtain ⟨e1, e2⟩ := and_t e
    exact pu_bind (ho.pu e1) fun b ρ1 z ρ2 e => by
      dsimp only at e
      split at e
      · exact pu_bind (he.pu e2) (fun _ _ _ _ e => pu_of e) ρ1 z ρ2 e
      · cases e
  obtain ⟨G, ρ, re, q⟩ := q
  refine ⟨G, ρ, re, (Good.bind (p1 := p1) (p2 := p2) re.gi q).mono fun d ρ1 G1 H1 s1 re1 q1 v1 r1 => ?_⟩
  have rd0 := r1.rd h3
  cases d with
  | str a =>
    obtain rfl := rd0.str
    refine ⟨⟨a, rfl⟩, G1, ρ1, re1, (good_bindT re1.gi q1).mono fun b ρ2 G2 H2 s2 re2 q2 v2 r2 => ?_⟩
    obtain ⟨z, e, o⟩ := Good.of (Q := Q) re2 q2 (H0 := H) (fun a h => (s2.stp re1.gi).dm a ((s1.stp re.gi).dm a h)) fun d ρ' G' H' k v n => k v n
    have rd2 := r2.rd h2
    cases b with
    | str b =>
      obtain rfl := rd2.str
      have e : (if b.length ≠ 0 ∧ a.length ≤ 1000000 ∧ (Txt.split a b).length ≤ big then some (PyData.list ((Txt.split a b).map .str)) else none) = some z := e
      split at e
      · rename_i c
        cases e
        refine ⟨a, b, rfl, rfl, by simpa using c.1, ?_, fun p hp => o.lst re2.gi hp (repl_strs _ _ _)⟩
        have := c.2.1
        rw [sizeLine_eq]
        omega
      · cases e
    | _ => exact nomatch (show (none : Option D) = some z from e)
  | _ => exact q1.elim
def zpD (as bs : List D) : List D := List.zipWith (fun a b => .tuple [a, b]) as bs
/-- of two lists, the first no longer than the other -/
def iZp (f g : M) : MI := fun ρ => (f ρ).bind fun x => (g x.2).bind fun y => match x.1, y.1 with
  | .list as, .list bs => if as.length ≤ bs.length then .ok (zpD as bs, y.2) else .bad
  | _, _ => .bad
theorem zp_get {as bs : List D} {i : Nat} {d : D} (h : (zpD as bs)[i]? = some d) : ∃ x y, as[i]? = some x ∧ bs[i]? = some y ∧ d = .tuple [x, y] := by
  unfold zpD at h
  rw [List.getElem?_zipWith] at h
  cases e1 : as[i]? with
  | none => rw [e1] at h; cases h
  | some x =>
    cases e2 : bs[i]? with
    | none => rw [e1, e2] at h; cases h
    | some y =>
      rw [e1, e2] at h
      injection h with h
      exact ⟨x, y, rfl, rfl, h.symm⟩
theorem srcE_zip {a b : Addr} {as bs : List D} (hl : as.length ≤ bs.length) (h : ∀ G H, Ext G0 H0 G H → GI G H → ∃ xs ys, SqL c.K H a xs ∧ RepL c G H xs as ∧ SqL c.K H b ys ∧ RepL c G H ys bs) : SrcE c G0 H0 (ItK c.K a b) (zpD as bs) where
  go := fun G H i s g hi => by
    obtain ⟨xs, ys, h1, h2, h3, h4⟩ := h G H s g
    have l : (zpD as bs).length = as.length := by
      unfold zpD
      rw [List.length_zipWith]
      omega
    rw [l] at hi
    exact ⟨xs, ys, xs[i]'(by rw [h2.length]; exact hi), ys[i]'(by rw [h4.length]; omega), h1, h3, List.getElem?_eq_getElem _, List.getElem?_eq_getElem _⟩
  yld := fun G H i d x H' s g hd y => by
    obtain ⟨T, u, v, rfl, hT, rfl, yu, yv⟩ := y
    obtain ⟨dx, dy, e1, e2, rfl⟩ := zp_get hd
    obtain ⟨xs, ys, h1, h2, h3, h4⟩ := h G H s g
    obtain ⟨u', hu, ru⟩ := h2.get e1
    obtain ⟨v', hv, rv⟩ := h4.get e2
    have a1 := yu xs h1
    have a2 := yv ys h3
    rw [hu] at a1
    rw [hv] at a2
    cases a1
    cases a2
    have gr : Gr H (L2.upd H T (.tup [u, v])) := Gr.upd hT
    have ex : Ext G H G (L2.upd H T (.tup [u, v])) := gr.ext
    refine ⟨gr, .tup (.inl (.inl (by simp [L2.upd]))) (.cons (ru.stp (ex.stp (io := fun _ => false) g)) (.cons (rv.stp (ex.stp (io := fun _ => false) g)) .nil))⟩
  stop := fun G H s g => by
    obtain ⟨xs, ys, h1, h2, h3, h4⟩ := h G H s g
    refine ⟨xs, ys, h1, h3, ?_⟩
    rw [h2.length]
    unfold zpD
    rw [List.length_zipWith]
    omega
structure JIK (X : Cx) (io : Nat → Bool) (W : WX) (p : Bool) (tg it : Expr) (f : MI) : Prop where
  pi : PIK X tg it (tJIE X io W p f)
  pu : p = true → ∀ ρ d ρ', f ρ = .ok (d, ρ') → ρ' = ρ
theorem pikI {tg it : Expr} {t t' : TI} (h : PIK X tg it t) (i : ∀ σ H Q, t' σ H Q → t σ H Q) : PIK X tg it t' := ⟨fun pins s σ H R I q => h.run pins s σ H R I (i σ H R q)⟩
theorem ji_zipK {e e2 : Expr} {f g : M} {pn pos tpos : Pos} {elts : List Expr} {kk : Nat} (hm : X.mg "zip" = none) (he : J X io W p1 cl1 e f) (he2 : J X io W p2 cl2 e2 g) (hg : Gl X "zip" := by rfl) (h1 : cl1.st p2 = true := by rfl) (h2 : cl2.st true = true := by rfl)
    (hs : starEach [e, e2] X.env = (false, eval e X.env) :: starEach [e2] X.env := by rfl) (hs2 : starEach [e2] X.env = (false, eval e2 X.env) :: starEach [] X.env := by rfl) (hp : (backTo pos (starEach [e2] X.env)).any (·.1) = false := by rfl) :
    JIK X io W (p1 && p2) (.Tuple elts kk tpos) (.Call (.Name "zip" pn) [e, e2] [] pos) (iZp f g) := by
  refine ⟨pikI (pi_zipK hg hm (pa_cons he.pe (pa_cons he2.pe pa_nil hs2) hs) hs hp) fun σ H Rr q => ?_, fun z => ?_⟩
  case refine_2 =>
    obtain ⟨z1, z2⟩ := and_t z
    exact pu_bind (he.pu z1) fun b ρ z ρ' e => pu_bind (f := g) (he2.pu z2) (fun b2 ρ z ρ' e => by
      dsimp only at e
      split at e
      · split at e
        · cases e; rfl
        · cases e
      · cases e) ρ z ρ' e
  obtain ⟨G, ρ, re, q⟩ := q
  refine ⟨G, ρ, re, (Good.bind (p1 := p1) (p2 := p2) re.gi q).mono fun d ρ1 G1 H1 s1 re1 q1 v1 r1 => ⟨G1, ρ1, re1, (good_bindT re1.gi q1).mono fun d2 ρ2 G2 H2 s2 re2 q2 v2 r2 => ?_⟩⟩
  have a1 := r1.step re1.gi s2 h1
  have a2 := r2.rd h2
  cases d with
  | list as =>
    cases d2 with
    | list bs =>
      dsimp only at q2
      by_cases hl : as.length ≤ bs.length
      · rw [if_pos hl] at q2
        have t1 : ∀ G3 H3, Ext G2 H2 G3 H3 → GI G3 H3 → Rd1 (cfX X) G3 H3 v1 (.list as) := fun G3 H3 s3 g3 => Res.step (cl := .b) (p := true) (H0 := H2) (io := io) re2.gi a1 s3 rfl
        have t2 : ∀ G3 H3, Ext G2 H2 G3 H3 → GI G3 H3 → Rd1 (cfX X) G3 H3 v2 (.list bs) := fun G3 H3 s3 g3 => Res.step (cl := .b) (p := true) (H0 := H2) (io := io) re2.gi a2 s3 rfl
        obtain ⟨a, xs, rfl, l1, k1⟩ := a1.sqL
        obtain ⟨b, ys, rfl, l2, k2⟩ := a2.sqL
        refine ⟨a, b, xs, ys, rfl, l1, l2, q2 G2 H2 StepOf.refl re2 _ (srcE_zip hl fun G3 H3 s3 g3 => ?_)⟩
        obtain ⟨a', xs', e1, m1, n1⟩ := (t1 G3 H3 s3 g3).sqL
        obtain ⟨b', ys', e2, m2, n2⟩ := (t2 G3 H3 s3 g3).sqL
        cases e1
        cases e2
        exact ⟨xs', ys', m1, n1, m2, n2⟩
      · rw [if_neg hl] at q2
        exact q2.elim
    | _ => exact q2.elim
  | _ => exact q2.elim
theorem jg_tupK {es : List Expr} {m n : Nat} {gs : Tgs} {pos : Pos} (hc : HotK X) (h : JGs X io es gs) (hn : (assignEach es X.env).length = n := by rfl) (hst : (assignEach es X.env).findIdx? (·.1) = none := by rfl) : JG X io (.Tuple es m pos) (gT n gs) :=
  pgI (pg_tupK hc h hn hst) fun v σ H Q q => by
    obtain ⟨G, ρ, d, ρ', re, r, e, q⟩ := q
    cases d with
    | tuple ds =>
      have e : (if ds.length = n then gs ds ρ else none) = some ρ' := e
      split at e
      · rename_i hl
        obtain ⟨a, xs, rfl, ha, ra⟩ := (Rep.rd r).sqT
        exact ⟨a, xs, rfl, ha, by rw [ra.length]; exact hl, G, ρ, ds, ρ', re, ra, e, q⟩
      · cases e
    | _ => cases e
theorem js_lcK (k : Nat) (i : Nat) {y : Str} {py spos : Pos} {elt tg iter : Expr} {ifs : List Expr} {scope : Scope} (own : List (Str × Nat)) {pos : Pos} {fi : MI} {g : Tg} {t : MT} {f : M} (hc : HotK X) (hN : X.N.Nodup) (hi : JIK X io W p tg iter fi) (ok : BlkOk X.N X.env.scope scope own)
    (hg : Blks X scope fun Y => JG Y (ioV (ownV own)) tg g) (ht : ∀ s H C cl fp, JTs (Blk X s H scope cl C fp) io true ifs t) (he : ∀ s H C cl fp, J (Blk X s H scope cl C fp) io W0 true .f elt f)
    (hk : k = 0 ∨ k = 1) (hio : io i = false) (hy : X.N[i]? = some y := by rfl) (hyl : X.env.scope.names.lookup y = some .local := by rfl)
    (hsw : swapsWith (.ListComp elt [⟨tg, iter, ifs, 0⟩] scope pos) (some (.Name y py)) spos.line X.env = pure true := by rfl) (hs : ∀ x, foldedSetIterable iter X.env x = pure x := by intro _; rfl) :
    JS X io W rk (.Assign [.Name y py] (.ListComp elt [⟨tg, iter, ifs, 0⟩] scope pos) spos) (sSet i k (mLc (ownV own) fi g t f)) :=
  psI (ps_lcK (g := tG X (ioV (ownV own)) g) (tt := tJT X io W0 true t) (te := tJ X io W0 true .f f) hc hN hy hyl hsw hi.pi ok hg (fun s H C cl fp _ => (ht s H C cl fp).ts) (fun s H C cl fp _ => (he s H C cl fp).pe) hs) fun D σ H q => by
    rcases hk with hk | hk <;> subst hk
    · exact lc_of own (pos := pos) hN ok ht he hs (set_tj0 hio (fun _ _ _ e => mLc_ok e) q)
    · exact lc_of own (pos := pos) hN ok ht he hs (set_tj hio q)
end
end Nc
set_option maxHeartbeats 4000000
namespace Nc
open PySem PySem.Spec PyProof.Rows L2 HotX
/-- what such a def promises, q the exception and its object -/
structure FnE (P : Program) (w : World) (K : PySem.W.Frag) (mg : Str → Option Value) (base : Heap) (CX : CXT) (k : Nat) (f : Addr) (fd : FuncData) (ps : List Str) (q : Addr × Obj) (sp : Sp) : Prop where
  len : ∀ vs H Q E, sp vs H Q E → vs.length = ps.length
  run : ∀ (A : Around) (outer : List Env) (s : Shared) (H : Hp) (args : Args) (us : List Value) (vs : List V) (Q : VK) (E : XK), L2H.RoomH k A ∧ L2H.Hot1 A q ∧ L2H.PinOk outer H s q → Env0 P w K mg base A outer s H → BindsTo s fd args (ps.zip us) → Vals vs us → sp vs H Q E →
    codeAny (model P w) A (.call (.ref f) args) (CR CX outer P w H s Q E) s
section
variable {P : Program} {w : World} {K : PySem.W.Frag} {mg : Str → Option Value} {base : Heap} {x qual : Str} {params : Arguments} {body : List Stmt} {scope : Scope} {dvs : List V} {kws : List (Str × V)} {f : Addr} {fd : FuncData}
theorem cxH_hot {CX : CXT} {N : List Str} {cdv : Value} {A : Around} {outer : List Env} {s : Shared} {H : Hp} {E : XK} {q : Addr × Obj} (h : L2H.Hot1 A q) (p : L2H.PinOk outer H s q) : HotK (L2H.cxH CX P w K mg base N qual scope f cdv A outer s H E q) := by
  obtain ⟨h1, vs, h2, h3⟩ := h
  exact ⟨q.1, ⟨h1, q.2, vs, p.get, h2, h3⟩, p.free, p.nofs, by intro z; cases z⟩
theorem fnE_of {CX : CXT} {N ps : List Str} {k : Nat} {q : Addr × Obj} {sp : Sp} (F : FunD K x qual params body scope dvs kws f fd) (S : FnScope N ps scope) (len : ∀ vs H Q E, sp vs H Q E → vs.length = ps.length)
    (hbody : ∀ (cdv : Value) (A : Around) (outer : List Env) (s : Shared) (H : Hp) (vs : List V) (Q : VK) (E : XK), HotK (L2H.cxH CX P w K mg base N qual scope f cdv A outer s H E q) → L2H.RoomH k (A.deeper (envOfC qual scope s.heap.objs.size f cdv)) → sp vs H Q E →
      ∃ t, PSs (L2H.cxH CX P w K mg base N qual scope f cdv A outer s H E q) body t ∧ t { nx := fun _ H' => Q .non H', rt := Q } (L2.start N vs) H) : FnE P w K mg base CX (k + 1) f fd ps q sp := by
  obtain ⟨oc, od, dV, kV, doc, pm, an, cdv, ct, osl, rfl, lk, hcd, _, _⟩ := F.ex
  refine ⟨len, fun A outer s H args us vs Q E ⟨hr, hot, pin⟩ e0 hb r hs => ?_⟩
  have kx : K.In s.heap := e0.mod.kin.keeps fun b o e => (e0.bs b o e).1
  have kinds : ∀ y ∈ ps.zip us, scope.names.lookup y.1 = some .local ∨ (scope.names.lookup y.1 = some .cell ∧ ((cellsFrom (s.heap.objs.size + 1) scope.names []).lookup y.1).isSome = true) := fun ⟨n, v⟩ hy =>
    (S.par n (List.of_mem_zip hy).1).elim .inl fun z => .inr ⟨z, PySem.W.cellsFrom_some _ _ _ (.inl z)⟩
  refine codeAny_call_function hr.depth (kx _ _ lk) rfl S.co S.gen rfl (PySem.W.codeRec_of kx hcd) (hb _ _ _ _ (wpAny_newFunctionEnv_cells S.kind kinds fun env he s1 z => ?_))
  subst he
  refine ⟨(e0.mod.nolimit.keeps fun b o e => (e0.bs b o e).1 : s.heap.NoLimit).keeps z.toInCall.keep, codeAny_func ?_⟩
  obtain ⟨t, ht, hq⟩ := hbody cdv A outer s H vs Q E (cxH_hot hot pin) (hr.deeper _) hs
  have I : Inv (L2H.cxH CX P w K mg base N qual scope f cdv A outer s H E q) [] (L2.start N vs) H s1 := L2H.inv_startH S pin e0 (len _ _ _ _ hs) r z
  refine wpAny_mono (ht.run [] s1 (L2.start N vs) H _ I hq) (fun fl s' h => ?_) fun e s' h => h
  cases fl with
  | ret u =>
    obtain ⟨v, σ', H', J, rv, k⟩ := h
    exact ⟨v, H', J.os, J.bare, J.base, J.hok, rv, k⟩
  | next =>
    obtain ⟨σ', H', J, k⟩ := h
    exact ⟨V.non, H', J.os, J.bare, J.base, J.hok, rfl, k⟩
  | brk => exact h.elim fun _ h => h.elim fun _ h => False.elim h.2
  | cont => exact h.elim fun _ h => h.elim fun _ h => False.elim h.2
end
section
variable {X : Cx} {CX : CXT} {k : Nat} {f : Addr} {fd : FuncData} {ps : List Str} {sp : Sp} {x : Str} {n pos : Pos} {e : Expr} {es : List Expr} {t : TA} {q : Addr × Obj}
/-- its call, where nothing may be raised -/
theorem pe_callE (F : FnE X.prog X.w X.K X.mg X.base CX k f fd ps q sp) (hr : L2H.RoomH k X.A) (hot : L2H.Hot1 X.A q) (hq : q ∈ X.pn) (hg : Gl X x) (hm : X.mg x = some (.ref f)) (hk : PySem.W.keepIn X.K (.ref f) = true) (hb : Binds X.K fd ps [])
    (hx : ∀ σ, PassesAt CX X σ fun _ _ _ => False) (ha : PA X (e :: es) t) (hd : (x == ("__debug__" : Str)) = false := by decide) (he : starEach (e :: es) X.env = (false, eval e X.env) :: starEach es X.env := by rfl)
    (hp : (backTo pos (starEach es X.env)).any (·.1) = false := by rfl) : PE X (.Call (.Name x n) (e :: es) [] pos) fun σ H Q => t σ H fun vs H1 => sp vs H1 Q fun _ _ _ => False := by
  refine ⟨fun pins s σ H Q I h => wpAny_Call_Name_kw (ld_glob I hg hm ?_ hd)⟩
  refine PySem.W.callWith_K (h₀ := X.base) I.ok.mod.kin hk (thn (ha.run pos pins s σ H _ I h) fun us s1 ⟨vs, H1, J, r, z⟩ => ⟨J.kIn, ?_⟩) he hp
  have l : us.length = ps.length := r.length.symm.trans (F.len _ _ _ _ z)
  have b := hb s1 us J.kIn (by rw [List.append_nil]; exact l)
  rw [List.append_nil] at b
  have P1 := J.pin q (List.mem_append_left _ hq)
  have pin : L2H.PinOk X.stack H1 s1 q := ⟨P1.1, P1.2.1, fun hm => (List.mem_cons.mp (J.stkSub q.1 hm)).elim P1.2.2.1 P1.2.2.2.1, P1.2.2.2.2⟩
  refine wpAny_call (codeAny_mono (F.run X.A X.stack s1 H1 ⟨us, []⟩ us vs Q _ ⟨hr, hot, pin⟩ J.env0 b r z) fun y s' h => ?_)
  cases y with
  | error e => exact hx σ pins H1 s1 e s' J h
  | ok fl =>
    cases fl with
    | ret u => exact J.after h
    | next => exact h.elim
    | brk => exact h.elim
    | cont => exact h.elim
end
end Nc
set_option maxHeartbeats 4000000
namespace Nc
open PySem PySem.Spec L2
open PyProof.Rows hiding St
/-- the def gives the text nm for the exception at a -/
def spE (a : Addr) (nm : Str) : Sp := fun vs H Q E => vs = [.ref a] ∧ ∃ G, GI G H ∧ (∀ b, G b ≠ some .res) ∧ (∀ b i, G b ≠ some (.own i)) ∧ ∀ G' H', Stp (fun _ => true) G H G' H' → GI G' H' → Q (.str nm) H'
def io0 : Nat → Bool := fun i => i == 0
section
variable {P : Program} {w : World} {K : PySem.W.Frag} {mg : Str → Option Value} {base : Heap} {x qual : Str} {params : Arguments} {body : List Stmt} {scope : Scope} {dvs : List V} {kws : List (Str × V)} {f : Addr} {fd : FuncData}
theorem Stp.lend0 {io : Nat → Bool} {G G' : Gh} {H H' : Hp} (s : Stp io G H G' H') (n1 : ∀ b, G b ≠ some .res) (n2 : ∀ b i, G b ≠ some (.own i)) : Stp (fun _ => true) G H G' H' :=
  ⟨s.fz, s.un, s.kp, s.dm, s.ow, fun a h e => (s.rt a h e).elim .inl fun ⟨i, _, z⟩ => absurd z (n2 a i), s.tp, s.fr⟩
theorem fnE_str {CX : CXT} {N : List Str} {p1 : Str} {k : Nat} {q : Addr × Obj} {nm : Str} {W : WX} {s : S} {ρ' : Rho} (F : FunD K x qual params body scope dvs kws f fd) (S : FnScope N [p1] scope)
    (hs : s (List.replicate N.length none) = .ok (.ret (.str nm), ρ'))
    (hb : ∀ (cdv : Value) (A : Around) (outer : List Env) (s0 : Shared) (H : Hp) (E : XK), HotK (L2H.cxH CX P w K mg base N qual scope f cdv A outer s0 H E q) → L2H.RoomH k (A.deeper (envOfC qual scope s0.heap.objs.size f cdv)) →
      ESs (L2H.cxH CX P w K mg base N qual scope f cdv A outer s0 H E q) io0 W 0 q.1 0 body s) : FnE P w K mg base CX (k + 1) f fd [p1] q (spE q.1 nm) := by
  refine fnE_of F S (fun vs H Q E h => by rw [h.1]; rfl) fun cdv A outer s0 H vs Q E hot hr h => ⟨_, hb cdv A outer s0 H E hot hr, ?_⟩
  obtain ⟨rfl, G, gi, n1, n2, k⟩ := h
  have hN : 1 ≤ N.length := by
    have := congrArg List.length S.pre
    rw [List.length_take] at this
    have e : ([p1] : List Str).length = 1 := rfl
    omega
  refine ⟨by unfold Ex L2.start; simp, G, List.replicate N.length none, ⟨?_, gi, fun i k d e => ?_⟩, ?_⟩
  · unfold L2.start
    simp
    omega
  · rw [List.getElem?_replicate] at e
    split at e <;> cases e
  · rw [hs]
    intro σ' G' H' _ st re v r
    obtain ⟨B, t, _⟩ := r
    cases t with
    | leaf r => exact (Rep.rd r).str ▸ k G' H' (st.lend0 n1 n2) re.gi
end
def sTry (i : Nat) (s : S) (h : Str → Option Str) : S := fun ρ => match s ρ with
  | .exc x => match h x with
    | some nm => if i < ρ.length then .ok (.ret (.str nm), List.replicate ρ.length none) else .bad
    | none => .bad
  | r => r
section
variable {X : Cx} {io : Nat → Bool} {W : WX} {rk : Nat} {G G1 G2 G' : Gh} {H H0 H1 H2 H' : Hp} {σ σ1 σ2 σ' : L2.St} {ρ ρ1 ρ2 ρ' : Rho}
theorem gi_fix (g : GI G H) (s : Stp io G H G' H') : ∃ G2, Stp io G H G2 H' ∧ GI G2 H' := by
  have ne : ∀ a, H a ≠ none → (if H' a = none then none else G' a) = G' a := fun a h => if_neg (s.dm a h)
  refine ⟨fun a => if H' a = none then none else G' a, ⟨fun a h => ?_, fun a h e => (ne a h).trans (s.un a h e), s.kp, s.dm, fun a i h e => s.ow a i h ((ne a h).symm.trans e), fun a h e => s.rt a h ((ne a h).symm.trans e), s.tp, s.fr⟩, fun a h e => ?_⟩
  · have : H a ≠ none := g a (by rw [h]; simp)
    exact (ne a this).trans (s.fz a h)
  · exact h (if_pos e)
/-- what a handler's suite is to do -/
def tH (X : Cx) (h : Str → Option Str) (i : Nat) (a : Addr) (cls : Value) (d : Option Addr) : TS := fun D σ H => ∃ (y nm : Str) (C : Addr), cls = .ref C ∧ d = none ∧ h y = some nm ∧ X.mg y = some (.ref C) ∧ σ[i]? = some (some (.ref a)) ∧
  ∃ G, GI G H ∧ (∀ b, G b ≠ some .res) ∧ (∀ b i, G b ≠ some (.own i)) ∧ ∀ G' H', Stp (fun _ => true) G H G' H' → GI G' H' → D.rt (.str nm) H'
theorem js_try (i : Nat) {tx n : Str} {ca : Value} {np pos pos' : Pos} {body suite : List Stmt} {b0 : Stmt} {s : S} {h : Str → Option Str} (hst : X.stack = X.env :: X.outer) (hf : X.env.frame = some X.env.locals) (hN : X.N.Nodup) (hi : X.N[i]? = some n) (hln : X.env.kindOf n = some .local)
    (hc : Names X tx ca) (tk : L2N.Takes X W) (hcl : ∀ y nm C, h y = some nm → X.mg y = some (.ref C) → PySem.W.exmOne X.K (.ref C) ca = some true)
    (hb : ∀ (W : WX) (pn : List (Addr × Obj)) (xe : Value → Shared → Prop), L2N.Takes (X.tr pn xe) W → PassesOwn (model X.prog X.w) X.A X.env xe → JSs (X.tr pn xe) io W rk body s)
    (hsu : ∀ (a : Addr) (oe : Obj) (y nm : Str) (C : Addr) (pn : List (Addr × Obj)), h y = some nm → X.mg y = some (.ref C) → L2N.Zn (.ref C) none oe → (∃ vs, oe.data = .fields vs) → PSs (X.suite a ((a, oe) :: pn)) (b0 :: suite) (tH X h i a (.ref C) none))
    (hio : io i = false) : JS X io W rk (.Try body [.ExceptHandler (some (.Name tx np)) (some n) (b0 :: suite) pos'] [] [] pos) (sTry i s h) := by
  refine psI (L2N.ps_try_as (tb := fun W => tS X io W rk s) (ts := tH X h i) hst hf hN hi hln hc tk (fun W pn xe tk p => hb W pn xe tk p) fun a oe cls d pn hz hfi => ?_) fun D σ H q => ?_
  · refine ⟨fun pins s σ H D I z => ?_⟩
    obtain ⟨y, nm, C, rfl, rfl, z1, z2, z3⟩ := id z
    exact (hsu a oe y nm C pn z1 z2 hz hfi).run pins s σ H D I z
  · obtain ⟨G, ρ, re, q⟩ := q
    refine ⟨G, ρ, re, ?_⟩
    unfold sTry at q
    cases e : s ρ with
    | bad => rw [e] at q; exact q.elim
    | ok r => rw [e] at q; exact q
    | exc y =>
      rw [e] at q
      dsimp only at q
      cases eh : h y with
      | none => rw [eh] at q; exact q.elim
      | some nm =>
        rw [eh] at q
        dsimp only at q
        by_cases hi2 : i < ρ.length
        case neg => rw [if_neg hi2] at q; exact q.elim
        rw [if_pos hi2] at q
        intro σ1 k1 C G1 H1 hm s1
        refine ⟨true, hcl y nm C eh hm, fun _ a _ => ?_, fun z => by cases z⟩
        obtain ⟨G2, s2, g2⟩ := gi_fix re.gi s1
        have hi3 : i < σ1.length := by
          rw [k1.len, ← re.len]
          exact hi2
        refine ⟨y, nm, C, rfl, rfl, eh, hm, List.getElem?_set_self hi3, Gin (List.replicate 1 none) G2, fun b z => g2 b fun w => z (Gin_none w), fun b z => ?_, fun b i => gin_plain, fun G3 H3 s3 g3 => ?_⟩
        · unfold Gin at z
          split at z
          · cases z
          · obtain ⟨_, _, z⟩ := Option.map_eq_some_iff.mp z
            cases z
          · cases z
        · have ex := ext_back g2 s3
          have st : Stp io G H (Gout (List.replicate 1 none) G2 G3) H3 := s2.trans (ex.stp g2)
          have gi : GI (Gout (List.replicate 1 none) G2 G3) H3 := fun b z => (Gout_some z).elim (fun z => g3 b z) fun z => s3.dm b (g2 b z)
          have re3 : RE (cfX X) (Gout (List.replicate 1 none) G2 G3) σ1 H3 (List.replicate ρ.length none) := ⟨by rw [List.length_replicate, k1.len, ← re.len], gi, fun j k d e => by
            rw [List.getElem?_replicate] at e
            split at e <;> cases e⟩
          exact q σ1 _ H3 k1 st re3 (.str nm) ⟨[], by cases rk with
            | zero => exact .leaf (.str nm)
            | succ k => exact .atom (.str nm) rfl, by simp, fun _ z => by cases z⟩
end
end Nc
set_option maxHeartbeats 4000000
namespace Nc
open PySem PySem.Spec L2
open PyProof.Rows hiding St
def insU (k : Int) : List Int → List Int
  | [] => [k]
  | x :: r => if k < x then k :: x :: r else if k = x then x :: r else x :: insU k r
def ssI (l : List Int) : List Int := l.foldr insU []
theorem mem_insU {k j : Int} : ∀ {l : List Int}, j ∈ insU k l ↔ j = k ∨ j ∈ l
  | [] => by simp [insU]
  | x :: r => by
    unfold insU
    split
    · simp
    · split
      · rename_i h
        subst h
        simp
      · rw [List.mem_cons, mem_insU (l := r), List.mem_cons]
        constructor
        · rintro (h | h | h)
          · exact .inr (.inl h)
          · exact .inl h
          · exact .inr (.inr h)
        · rintro (h | h | h)
          · exact .inr (.inl h)
          · exact .inl h
          · exact .inr (.inr h)
theorem insU_sorted (k : Int) : ∀ {l : List Int}, l.Pairwise (· < ·) → (insU k l).Pairwise (· < ·)
  | [], _ => by simp [insU]
  | x :: r, h => by
    obtain ⟨h1, h2⟩ := List.pairwise_cons.mp h
    unfold insU
    split
    · rename_i hk
      refine List.pairwise_cons.mpr ⟨fun y hy => ?_, h⟩
      rcases List.mem_cons.mp hy with rfl | hy
      · exact hk
      · exact Int.lt_trans hk (h1 y hy)
    · split
      · exact h
      · refine List.pairwise_cons.mpr ⟨fun y hy => ?_, insU_sorted k h2⟩
        rcases mem_insU.mp hy with rfl | hy
        · omega
        · exact h1 y hy
theorem mem_ssI {j : Int} : ∀ {l : List Int}, j ∈ ssI l ↔ j ∈ l
  | [] => Iff.rfl
  | x :: r => by
    show j ∈ insU x (ssI r) ↔ _
    rw [mem_insU, mem_ssI (l := r), List.mem_cons]
theorem ssI_sorted : ∀ l : List Int, (ssI l).Pairwise (· < ·)
  | [] => .nil
  | x :: r => insU_sorted x (ssI_sorted r)
theorem strictI : ∀ {l m : List Int}, l.Pairwise (· < ·) → m.Pairwise (· < ·) → (∀ k, k ∈ l ↔ k ∈ m) → l = m
  | [], [], _, _, _ => rfl
  | [], y :: m, _, _, h => absurd ((h y).mpr List.mem_cons_self) (by simp)
  | x :: l, [], _, _, h => absurd ((h x).mp List.mem_cons_self) (by simp)
  | x :: l, y :: m, hl, hm, h => by
    obtain ⟨l1, l2⟩ := List.pairwise_cons.mp hl
    obtain ⟨m1, m2⟩ := List.pairwise_cons.mp hm
    have e : x = y := by
      rcases List.mem_cons.mp ((h x).mp List.mem_cons_self) with e | q
      · exact e
      · rcases List.mem_cons.mp ((h y).mpr List.mem_cons_self) with e | q2
        · exact e.symm
        · have a := m1 x q
          have b := l1 y q2
          omega
    subst e
    rw [strictI l2 m2 fun k => ?_]
    constructor
    · intro q
      rcases List.mem_cons.mp ((h k).mp (List.mem_cons_of_mem _ q)) with e | z
      · have := l1 k q
        omega
      · exact z
    · intro q
      rcases List.mem_cons.mp ((h k).mpr (List.mem_cons_of_mem _ q)) with e | z
      · have := m1 k q
        omega
      · exact z
section
variable {P : Program} {w : World} {A : Around} {E : Value → Shared → Prop} {s : Shared}
theorem set_callI {l : Addr} {items : Array Value} (ns : List Int) {Q : Value → Shared → Prop} (nh : A.handled = none) (isl : s.heap.IsList l items) (hit : IntsAre items.toList ns) (hb : ns.length + 1 < scanBound)
    (k : ∀ (h' : Heap) (tk c : Nat), SetR w h' s.heap.objs.size (fun j => decide (j ∈ ns)) c → c ≤ ns.length → (∀ b o, s.heap.get? b = some o → h'.get? b = some o) → Q (.ref s.heap.objs.size) { s with heap := h', toks := tk }) :
    wpAny (model P w) A (call (.type "set") [.ref l]) Q E s := by
  have len : items.size = ns.length := by
    have q := IntsAre.length hit
    rw [Array.length_toList] at q
    exact q
  have made := F.called_set.made; have cmro := F.called_set.mro; have csub := F.called_set.sub
  obtain ⟨c0, cs, emro⟩ := cmro
  refine wpAny_call (codeAny_of_tree ?_)
  show wpAny _ _ (callAny (.type "set") _) _ _ _
  refine wpAny_pure ⟨Code.quiet_builtin _ (by decide +kernel), codeAny_builtin F.entry_type_call ?_⟩
  rw [Around.under_plain (weight_type_call_type "set" [.ref l] []) rfl]
  have nt := F.called_set.notType; have cc := F.called_set.canCreate; have tc := F.typeCall_set_1 (.ref l)
  repeat any_goals first | assumption | wp_step
  refine codeAny_mono (code_set_led1 (.ref l) (E := E) (Q₁ := fun v s1 => v = .ref s.heap.objs.size ∧ s1 = { s with heap := s.heap.push (newSet w) }) ⟨rfl, rfl⟩) fun r s1 hr => ?_
  rcases r with _ | fl
  · exact hr
  cases fl with
  | ret v =>
    obtain ⟨rfl, rfl⟩ := hr
    have atS : (s.heap.push (newSet w)).get? s.heap.objs.size = some (newSet w) := Heap.get?_push_size _ rfl
    have isS : Shared.TypeIs { s with heap := s.heap.push (newSet w) } (.ref s.heap.objs.size) "set" := ⟨_, atS, rfl⟩
    have il := F.called_set.init.lookup; have ib := F.called_set.init.bind (.ref s.heap.objs.size)
    repeat any_goals first | assumption | wp_step
    refine codeAny_mono (codeAny_call_builtin (R := wants (fun r s2 => r = .none ∧ ∃ h' tk c, s2 = { s with heap := h', toks := tk } ∧ SetR w h' s.heap.objs.size (fun j => decide (j ∈ ns)) c ∧ c ≤ ns.length ∧ ∀ b o, s.heap.get? b = some o → h'.get? b = some o) E)
      F.called_set.init.plain F.entry_set_init (check_set_init_1 isS ?_)) fun r2 s2 hr2 => ?_
    · obtain ⟨⟨lc, ld, lo, ls⟩, hol, hcl, nl, hdl⟩ := id isl
      cases hcl; cases hdl
      have atL : (s.heap.push (newSet w)).get? l = some { cls := .type "list", dict := ld, data := .seq items nl, slots := ls } := Heap.get?_push_of_some _ hol
      have ss := F.sub_list_set; have sf := F.sub_list_frozenset
      have nd : (Value.type "list" == Value.type "dict") = false := by decide
      have isl1 : (s.heap.push (newSet w)).IsList l items := isl.push _
      unfold Builtin.«set.__init__» noKeywords Builtin.Frozenset.updateFrom
      generalize hi : pyIter = itr
      wp_walk
      subst hi
      refine wpAny_pyIter_list isl1 (wpAny_bind (wpAny_runValue ?_))
      have lS : l < s.heap.objs.size := Heap.lt_size hol
      have sz1 : (s.heap.push (newSet w)).objs.size = s.heap.objs.size + 1 := Heap.size_push ..
      have ne : l ≠ (s.heap.push (newSet w)).objs.size := by rw [sz1]; exact Nat.ne_of_lt (Nat.lt_succ_of_lt lS)
      have nf : s.heap.objs.size ∉ [(s.heap.push (newSet w)).objs.size, l] := by
        rw [sz1]
        intro z
        rcases List.mem_cons.mp z with z | z
        · exact absurd z (Nat.ne_of_lt (Nat.lt_succ_self _))
        · exact absurd (List.mem_singleton.mp z) (Nat.ne_of_gt lS)
      have nh3 : A.in1.in1.in1.handled = none := by simp [nh]
      have val : ∀ (i : Nat) (v : Value), items[i]? = some v → ∃ k t, ns[i]? = some k ∧ v = .int k t := fun i v hv => by
        have hi : i < ns.length := by rw [← len]; exact (Array.getElem?_eq_some_iff.mp hv).1
        obtain ⟨t, e⟩ := PyProof.Rows.IntsAre.int_at hit i v (by rw [Array.getElem?_toList]; exact hv)
        exact ⟨ns[i], t, List.getElem?_eq_getElem hi, by rw [e, List.getD_eq_getElem?_getD, List.getElem?_eq_getElem hi] <;> rfl⟩
      refine set_update_ints ((Walks.list nh3 _ l ne items).toS) s.heap.objs.size nf ns len hb val (items.size - 0) 0 _ (by omega) (Nat.zero_le _) ⟨⟨_, Heap.get?_push_size _ rfl, rfl, rfl⟩, isl1.push _⟩ ⟨0, Nat.le_refl 0, setR_new_at (Heap.get?_push_of_some _ atS)⟩ fun s' c hm hc hS => ?_
      obtain ⟨h', g2, d2, t2, o2⟩ := s'
      cases hm.gens
      cases hm.drawn
      cases hm.os
      show wpAny _ _ _ _ _ _
      refine wpAny_pure ?_
      show wpAny _ _ (ret Value.none) _ _ _
      rw [len] at hc
      refine wpAny_pure ⟨rfl, h', t2, c, rfl, hS, hc, fun b o e => ?_⟩
      have b0 : b < s.heap.objs.size := Heap.lt_size e
      refine hm.heap b o (fun z => ?_) (Heap.get?_push_of_some _ (Heap.get?_push_of_some _ e))
      rcases List.mem_cons.mp z with z | z
      · exact Nat.ne_of_lt b0 z
      · rw [List.mem_singleton.mp z, sz1] at b0
        exact absurd (Nat.lt_of_succ_lt b0) (Nat.lt_irrefl _)
    · rcases r2 with _ | fl2
      · exact hr2
      cases fl2 with
      | ret r =>
        obtain ⟨rfl, h', tk, c, rfl, RS, gt, kp⟩ := hr2
        repeat any_goals first | assumption | wp_step
        exact k _ _ _ RS gt kp
      | _ => exact hr2.elim
  | _ => exact hr.elim
end
end Nc
set_option maxHeartbeats 4000000
namespace Nc
open PySem PySem.Spec L2
open PyProof.Rows hiding St
section
variable {X : Cx} {io : Nat → Bool} {W : WX} {rk : Nat} {c : Cf} {p p1 p2 p3 : Bool} {cl cl1 cl2 cl3 : Cls} {G G0 G1 G2 G' : Gh} {H H0 H1 H2 H' : Hp} {σ σ1 σ2 σ' : L2.St} {ρ ρ1 ρ2 ρ' : Rho}
def intsD : List D → Option (List Int)
  | [] => some []
  | .int i :: r => (intsD r).map (i :: ·)
  | _ => none
theorem intsD_some : ∀ {ds : List D} {ns : List Int}, intsD ds = some ns → ds = ns.map PyData.int
  | [], ns, h => by cases h; rfl
  | d :: ds, ns, h => by
    cases d with
    | int i =>
      obtain ⟨m, hm, e⟩ := Option.map_eq_some_iff.mp (show (intsD ds).map (i :: ·) = some ns from h)
      subst e
      rw [intsD_some hm]
      rfl
    | _ => cases h
theorem intsD_map : ∀ ns : List Int, intsD (ns.map PyData.int) = some ns
  | [] => rfl
  | n :: ns => by
    show (intsD (ns.map PyData.int)).map (n :: ·) = _
    rw [intsD_map ns]
    rfl
def dSSI : D → Option D
  | .list ds => (intsD ds).bind fun ns => if ns.length < 64 then some (.list ((ssI ns).map .int)) else none
  | _ => none
theorem repl_ints_inv : ∀ {ns : List Int} {xs : List V}, RepL c G H xs (ns.map PyData.int) → xs = ns.map V.int
  | [], _, h => by cases h; rfl
  | n :: ns, _, h => by
    cases h with
    | cons r1 r2 =>
      cases r1
      rw [repl_ints_inv r2]
      rfl
theorem repl_ints (G : Gh) (H : Hp) : ∀ ns : List Int, RepL c G H (ns.map V.int) (ns.map PyData.int)
  | [] => .nil
  | n :: ns => .cons (.int n) (repl_ints G H ns)
def rSetI (K : PySem.W.Frag) (w : World) : List V → Hp → VK → Prop := fun xs H Q => ∃ (l : Addr) (ns : List Int), xs = [V.ref l] ∧ SqL K H l (ns.map V.int) ∧ ns.length < 64 ∧ ∀ a k, H a = none → k < 64 → Q (.ref a) (upd H a (SetO w a (fun j => decide (j ∈ ns)) k))
theorem call_setI (hc : X.calm = true) : CallR X (.type "set") (rSetI X.K X.w) := by
  intro pins s σ H xs us Q I r h
  obtain ⟨l, ns, rfl, hl, h64, q⟩ := h
  rw [Vals.ref1 r]
  obtain ⟨its, rv, pl, hz⟩ := I.list hl
  have hn : H s.heap.objs.size = none := I.hok.fresh (Nat.le_refl _)
  refine set_callI (P := X.prog) (w := X.w) ns (I.ok.hd hc) pl.isList (by simpa using RZ.intsAre_vals rv) (by unfold scanBound; omega) fun h' tk k R hk kp => ?_
  exact ⟨.ref s.heap.objs.size, upd H s.heap.objs.size (SetO X.w s.heap.objs.size (fun j => decide (j ∈ ns)) k), I.laid (t' := tk) kp (Nat.le_refl _) (setO_new R), rfl, q _ k hn (by omega)⟩
theorem j_ssI {e : Expr} {f : M} {pn pn2 pos pos2 : Pos} (hc : X.calm = true) (hm1 : X.mg "sorted" = none) (hm2 : X.mg "set" = none) (he : J X io W p cl e f) (h1 : cl.st true = true := by rfl) (hg1 : Gl X "sorted" := by rfl) (hg2 : Gl X "set" := by rfl)
    (hs1 : starEach [.Call (.Name "set" pn2) [e] [] pos2] X.env = [(false, eval (.Call (.Name "set" pn2) [e] [] pos2) X.env)] := by rfl) (hpl1 : (backTo pos (starEach [] X.env)).any (·.1) = false := by rfl)
    (hs2 : starEach [e] X.env = [(false, eval e X.env)] := by rfl) (hpl2 : (backTo pos2 (starEach [] X.env)).any (·.1) = false := by rfl) :
    J X io W p (.n 1) (.Call (.Name "sorted" pn) [.Call (.Name "set" pn2) [e] [] pos2] [] pos) (mU dSSI f) := by
  refine ⟨peI (pe_callB (cr_sortedSet hc) hg1 hm1 boot_sorted (pa_cons (pe_callTy (call_setI hc) hg2 hm2 PyProof.Rows.boot_set (pa1 he hs2) (by decide) (by decide) hs2 hpl2) pa_nil hs1) (by decide) (by decide) hs1 hpl1) fun σ H Q q => ?_, fun e => pu_bind (he.pu e) fun _ _ _ _ e => pu_of e⟩
  obtain ⟨G, ρ, re, q⟩ := q
  refine ⟨G, ρ, re, (good_bindT re.gi q).mono fun d ρ1 G1 H1 s1 re1 q1 v1 r1 => ?_⟩
  obtain ⟨z, e, o⟩ := Good.of (Q := Q) re1 q1 (H0 := H) (fun a h => (s1.stp re.gi).dm a h) fun d ρ' G' H' k v n => k v n
  cases d <;> try (exact nomatch (show (none : Option D) = some z from e))
  case list ds =>
    obtain ⟨ns, hl, e⟩ := Option.bind_eq_some_iff.mp (show ((intsD ds).bind fun ns => if ns.length < 64 then some (PyData.list ((ssI ns).map .int)) else none) = some z from e)
    obtain ⟨small, ez⟩ := ifS e
    subst ez
    rw [intsD_some hl] at r1
    obtain ⟨a, xs, rfl, ha, ra⟩ := (r1.rd h1).sqL
    rw [repl_ints_inv ra] at ha
    refine ⟨a, ns, rfl, ha, small, fun b k hb hk => ⟨b, _, k, rfl, upd_same, hk, fun ms p2 hp hm hl2 hn => ?_⟩⟩
    have em : ms = ssI ns := strictI hp (ssI_sorted ns) fun j => by
      rw [hm, mem_ssI]
      simp
    subst em
    have g1 : Gr H1 (L2.upd H1 b (SetO X.w b (fun j => decide (j ∈ ns)) k)) := Gr.upd hb
    have g2 := Gr.upd (o := .lst ((ssI ns).map V.int)) hn
    refine o _ _ (fun a o h => g2 a o (g1 a o h)) (New.anti (fun a h => g1.dm h) (.lst1 (g1.gi re1.gi) hn (repl_ints _ _ _)))
def dLt2 : D → D → Option D
  | .tuple [.int a, .int b], .tuple [.int c, .int d] => some (.bool (decide (a < c ∨ (a = c ∧ b < d))))
  | d, e => dLt d e
theorem dLt2_some {d e z : D} (h : dLt2 d e = some z) : (∃ a b c f, d = .tuple [.int a, .int b] ∧ e = .tuple [.int c, .int f] ∧ z = .bool (decide (a < c ∨ (a = c ∧ b < f)))) ∨ dLt d e = some z := by
  unfold dLt2 at h
  split at h
  · rename_i a b c f
    exact .inl ⟨a, b, c, f, rfl, rfl, (Option.some.inj h).symm⟩
  · exact .inr h
theorem two_at {pins : List (Addr × Obj)} {s : Shared} {x : V} {a b : Int} (I : Inv X pins σ H s) (hd : Rd1 (cfX X) G H x (.tuple [.int a, .int b])) : ∃ k t t', x = .ref k ∧ IsTup s.heap k #[.int a t, .int b t'] := by
  obtain ⟨k, xs, rfl, hk, ra⟩ := hd.sqT
  cases ra with
  | cons r1 r2 =>
    cases r2 with
    | cons r2 r3 =>
      cases r3
      cases r1
      cases r2
      obtain ⟨its, rv, pl, _⟩ := I.tuple hk
      cases rv with
      | cons w1 rv =>
        cases rv with
        | cons w2 rv =>
          cases rv
          obtain ⟨t, rfl⟩ := w1
          obtain ⟨t', rfl⟩ := w2
          exact ⟨k, t, t', rfl, pl⟩
theorem op_ltD2 (hu : X.A.units + 64 < cLine) : OpR X (compareOp .Lt) (rD (cfX X) dLt2) := by
  intro pins s σ H x y v u Q I rx ry q
  obtain ⟨G, d, e, z, gi, hd, he, hz, o⟩ := q
  rcases dLt2_some hz with ⟨a, b, c, f, rfl, rfl, rfl⟩ | hz
  · obtain ⟨k, t1, t2, rfl, hk⟩ := two_at I hd
    obtain ⟨l, t3, t4, rfl, hl⟩ := two_at I he
    cases rx
    cases ry
    have R := Ob.RcOp.tuples_lt (A := X.A) (s := s) (e := fun j => if j = 0 then a == c else b == f) (r := fun j => if j = 0 then decide (a < c) else decide (b < f)) hk hl (by omega) (fun j h1 h2 => by
      have ej : j = 0 ∨ j = 1 := by
        have h1 : j < 2 := h1
        omega
      rcases ej with ej | ej <;> subst ej
      · exact SeqAt.EqAt.int_int a t1 c t3
      · exact SeqAt.EqAt.int_int b t2 f t4) (fun j h1 h2 _ => by
      have ej : j = 0 ∨ j = 1 := by
        have h1 : j < 2 := h1
        omega
      rcases ej with ej | ej <;> subst ej
      · exact Ob.RcOp.lt_int a c t1 t3
      · exact Ob.RcOp.lt_int b f t2 t4)
    have w : Ob.lexAt (fun j => if j = 0 then a == c else b == f) (fun j => if j = 0 then decide (a < c) else decide (b < f)) (decide ((#[Value.int a t1, Value.int b t2] : Array Value).size < (#[Value.int c t3, Value.int f t4] : Array Value).size)) 0
        (min (#[Value.int a t1, Value.int b t2] : Array Value).size (#[Value.int c t3, Value.int f t4] : Array Value).size) = decide (a < c ∨ (a = c ∧ b < f)) := by
      show (if (a == c) = true then (if (b == f) = true then decide (2 < 2) else decide (b < f)) else decide (a < c)) = _
      by_cases h : a = c
      · subst h
        rw [if_pos (beq_self_eq_true a)]
        by_cases h2 : b = f
        · subst h2
          rw [if_pos (beq_self_eq_true b)]
          simp
        · rw [if_neg (fun h' => h2 (beq_iff_eq.mp h'))]
          simp
      · rw [if_neg (fun h' => h (beq_iff_eq.mp h'))]
        simp [h]
    rw [w] at R
    exact R X.prog X.w X.xe (EP X pins σ Q) ⟨.bl _, H, I, rfl, o.bool⟩
  · exact op_ltD pins s σ H x y v u Q I rx ry ⟨G, d, e, z, gi, hd, he, hz, o⟩
def iZpT (f g : M) : MI := fun ρ => (f ρ).bind fun x => (g x.2).bind fun y => match x.1, y.1 with
  | .tuple as, .tuple bs => .ok (zpD as bs, y.2)
  | _, _ => .bad
theorem srcE_zipT {a b : Addr} {as bs : List D} (h : ∀ G H, Ext G0 H0 G H → GI G H → ∃ xs ys, SqT c.K H a xs ∧ RepL c G H xs as ∧ SqT c.K H b ys ∧ RepL c G H ys bs) : SrcE c G0 H0 (RZ.ItzT c.K a b) (zpD as bs) where
  go := fun G H i s g hi => by
    obtain ⟨xs, ys, h1, h2, h3, h4⟩ := h G H s g
    unfold zpD at hi
    rw [List.length_zipWith] at hi
    exact ⟨xs, ys, xs[i]'(by rw [h2.length]; omega), ys[i]'(by rw [h4.length]; omega), h1, h3, List.getElem?_eq_getElem _, List.getElem?_eq_getElem _⟩
  yld := fun G H i d x H' s g hd y => by
    obtain ⟨T, u, v, rfl, hT, rfl, yu, yv⟩ := y
    obtain ⟨dx, dy, e1, e2, rfl⟩ := zp_get hd
    obtain ⟨xs, ys, h1, h2, h3, h4⟩ := h G H s g
    obtain ⟨u', hu, ru⟩ := h2.get e1
    obtain ⟨v', hv, rv⟩ := h4.get e2
    have a1 := yu xs h1
    have a2 := yv ys h3
    rw [hu] at a1
    rw [hv] at a2
    cases a1
    cases a2
    have gr : Gr H (L2.upd H T (.tup [u, v])) := Gr.upd hT
    have ex : Ext G H G (L2.upd H T (.tup [u, v])) := gr.ext
    refine ⟨gr, .tup (.inl (.inl (by simp [L2.upd]))) (.cons (ru.stp (ex.stp (io := fun _ => false) g)) (.cons (rv.stp (ex.stp (io := fun _ => false) g)) .nil))⟩
  stop := fun G H s g => by
    obtain ⟨xs, ys, h1, h2, h3, h4⟩ := h G H s g
    refine ⟨xs, ys, h1, h3, ?_⟩
    rw [h2.length, h4.length]
    unfold zpD
    rw [List.length_zipWith]
    omega
theorem jie_zip {e e2 : Expr} {f g : M} {pn pos tpos : Pos} {elts : List Expr} {kk : Nat} (hm : X.mg "zip" = none) (he : J X io W p1 cl1 e f) (he2 : J X io W p2 cl2 e2 g) (hg : Gl X "zip" := by rfl) (h1 : cl1.st p2 = true := by rfl) (h2 : cl2.st true = true := by rfl)
    (hs : starEach [e, e2] X.env = (false, eval e X.env) :: starEach [e2] X.env := by rfl) (hs2 : starEach [e2] X.env = (false, eval e2 X.env) :: starEach [] X.env := by rfl) (hp : (backTo pos (starEach [e2] X.env)).any (·.1) = false := by rfl) :
    JIE X io W (p1 && p2) (.Tuple elts kk tpos) (.Call (.Name "zip" pn) [e, e2] [] pos) (iZpT f g) := by
  refine ⟨piI (RZ.pi_zipA hg hm (pa_cons he.pe (pa_cons he2.pe pa_nil hs2) hs) hs hp) fun σ H Rr q => ?_, fun z => ?_⟩
  case refine_2 =>
    obtain ⟨z1, z2⟩ := and_t z
    exact pu_bind (he.pu z1) fun b ρ z ρ' e => pu_bind (f := g) (he2.pu z2) (fun b2 ρ z ρ' e => by
      dsimp only at e
      split at e
      · cases e; rfl
      · cases e) ρ z ρ' e
  obtain ⟨G, ρ, re, q⟩ := q
  refine ⟨G, ρ, re, (Good.bind (p1 := p1) (p2 := p2) re.gi q).mono fun d ρ1 G1 H1 s1 re1 q1 v1 r1 => ⟨G1, ρ1, re1, (good_bindT re1.gi q1).mono fun d2 ρ2 G2 H2 s2 re2 q2 v2 r2 => ?_⟩⟩
  have a1 := r1.step re1.gi s2 h1
  have a2 := r2.rd h2
  cases d with
  | tuple as =>
    cases d2 with
    | tuple bs =>
      dsimp only at q2
      have t1 : ∀ G3 H3, Ext G2 H2 G3 H3 → GI G3 H3 → Rd1 (cfX X) G3 H3 v1 (.tuple as) := fun G3 H3 s3 g3 => Res.step (cl := .b) (p := true) (H0 := H2) (io := io) re2.gi a1 s3 rfl
      have t2 : ∀ G3 H3, Ext G2 H2 G3 H3 → GI G3 H3 → Rd1 (cfX X) G3 H3 v2 (.tuple bs) := fun G3 H3 s3 g3 => Res.step (cl := .b) (p := true) (H0 := H2) (io := io) re2.gi a2 s3 rfl
      obtain ⟨a, xs, rfl, l1, k1⟩ := a1.sqT
      obtain ⟨b, ys, rfl, l2, k2⟩ := a2.sqT
      refine ⟨a, b, xs, ys, rfl, .inr ⟨l1, l2, q2 G2 H2 StepOf.refl re2 _ (srcE_zipT fun G3 H3 s3 g3 => ?_)⟩⟩
      obtain ⟨a', xs', e1, m1, n1⟩ := (t1 G3 H3 s3 g3).sqT
      obtain ⟨b', ys', e2, m2, n2⟩ := (t2 G3 H3 s3 g3).sqT
      cases e1
      cases e2
      exact ⟨xs', ys', m1, n1, m2, n2⟩
    | _ => exact q2.elim
  | _ => exact q2.elim
def mSel (F1 F2 : List D → R D) (fi fa : M) : M := fun ρ => (fi ρ).bind fun x => match x.1 with
  | .int 0 => mCallP 1 F1 (aCons fa aNil) x.2
  | .int 1 => mCallP 1 F2 (aCons fa aNil) x.2
  | _ => .bad
theorem pe_sel {k : Nat} {f1 f2 : Addr} {d1 d2 : FuncData} {ps1 ps2 : List Str} {sp1 sp2 : Sp} {E : L2.St → XK} {fe a : Expr} {tf : TE} {t : TA} {pos : Pos} (hf : PE X fe tf) (F1 : FnOk X.prog X.w X.K X.mg X.base (L2N.CX X.prog X.w) k f1 d1 ps1 sp1) (F2 : FnOk X.prog X.w X.K X.mg X.base (L2N.CX X.prog X.w) k f2 d2 ps2 sp2)
    (hr : Room k X.A) (k1 : PySem.W.keepIn X.K (.ref f1) = true) (k2 : PySem.W.keepIn X.K (.ref f2) = true) (b1 : Binds X.K d1 ps1 []) (b2 : Binds X.K d2 ps2 []) (hx : ∀ σ, PassesAt (L2N.CX X.prog X.w) X σ (E σ)) (ha : PA X [a] t)
    (ht : eval (.Call fe [a] [] pos) X.env = (do callWith pos (← eval fe X.env) [] (backTo pos (starEach [a] X.env)) (backToKw pos (keywordEach [] X.env))) := by rfl)
    (he : starEach [a] X.env = (false, eval a X.env) :: starEach [] X.env := by rfl) (hp : (backTo pos (starEach [] X.env)).any (·.1) = false := by rfl) :
    PE X (.Call fe [a] [] pos) fun σ H Q => tf σ H fun y H1 => (y = .ref f1 ∧ tCallS sp1 E t σ H1 Q) ∨ (y = .ref f2 ∧ tCallS sp2 E t σ H1 Q) := by
  refine ⟨fun pins s σ H Q I h => Call_ (thn (hf.run pins s σ H _ I h) fun u s1 ⟨y, H1, I1, ry, q⟩ => ?_) ht⟩
  rcases q with ⟨rfl, q⟩ | ⟨rfl, q⟩
  · obtain rfl : u = Value.ref f1 := ry
    exact PySem.W.callWith_K (h₀ := X.base) I1.ok.mod.kin k1 (thn (ha.run pos pins s1 σ H1 _ I1 q) fun us s2 ⟨vs, H2, I2, r, z⟩ => ⟨I2.kIn, run_fnS F1 hr b1 (hx σ) I2 r z⟩) he hp
  · obtain rfl : u = Value.ref f2 := ry
    exact PySem.W.callWith_K (h₀ := X.base) I1.ok.mod.kin k2 (thn (ha.run pos pins s1 σ H1 _ I1 q) fun us s2 ⟨vs, H2, I2, r, z⟩ => ⟨I2.kIn, run_fnS F2 hr b2 (hx σ) I2 r z⟩) he hp
theorem j_sel {k rk : Nat} {f1 f2 : Addr} {d1 d2 : FuncData} {ps1 ps2 : List Str} {F1 F2 : List D → R D} {x1 x2 : Str} {q1 q2 lp sp pos : Pos} {ie a : Expr} {fi fa : M}
    (O1 : FnOk X.prog X.w X.K X.mg X.base (L2N.CX X.prog X.w) k f1 d1 ps1 (spF (cfX X) X.mg (fcP 1 rk F1))) (O2 : FnOk X.prog X.w X.K X.mg X.base (L2N.CX X.prog X.w) k f2 d2 ps2 (spF (cfX X) X.mg (fcP 1 rk F2))) (hr : Room k X.A)
    (m1 : X.mg x1 = some (.ref f1)) (m2 : X.mg x2 = some (.ref f2)) (k1 : PySem.W.keepIn X.K (.ref f1) = true) (k2 : PySem.W.keepIn X.K (.ref f2) = true) (b1 : Binds X.K d1 ps1 []) (b2 : Binds X.K d2 ps2 []) (tk : L2N.Takes X W) (hi : J X io W true cl1 ie fi) (ha : J X io W false .f a fa)
    (h1 : cl1.st true = true := by rfl) (g1 : Gl X x1 := by rfl) (g2 : Gl X x2 := by rfl) (n1 : (x1 == ("__debug__" : Str)) = false := by decide) (n2 : (x2 == ("__debug__" : Str)) = false := by decide) (hs : PlainIx ie := by exact fun _ _ => rfl)
    (s1 : starEach [.Name x1 q1, .Name x2 q2] X.env = (false, eval (.Name x1 q1) X.env) :: starEach [.Name x2 q2] X.env := by rfl) (s2 : starEach [.Name x2 q2] X.env = (false, eval (.Name x2 q2) X.env) :: starEach [] X.env := by rfl)
    (ht : eval (.Call (.Subscript (.List [.Name x1 q1, .Name x2 q2] lp) ie sp) [a] [] pos) X.env = (do callWith pos (← eval (.Subscript (.List [.Name x1 q1, .Name x2 q2] lp) ie sp) X.env) [] (backTo pos (starEach [a] X.env)) (backToKw pos (keywordEach [] X.env))) := by rfl)
    (he : starEach [a] X.env = (false, eval a X.env) :: starEach [] X.env := by rfl) (hp : (backTo pos (starEach [] X.env)).any (·.1) = false := by rfl) :
    J X io W false (.n rk) (.Call (.Subscript (.List [.Name x1 q1, .Name x2 q2] lp) ie sp) [a] [] pos) (mSel F1 F2 fi fa) := by
  refine ⟨peI (pe_sel (E := WE W) (pe_ix ix_list (pe_lst (pa_cons (pe_glob (v := .ref f1) g1 m1 rfl n1) (pa_cons (pe_glob (v := .ref f2) g2 m2 rfl n2) pa_nil s2) s1)) hi.pe hs) O1 O2 hr k1 k2 b1 b2 (fun σ => L2N.passAt tk σ) (ja_cons ha ja_nil he).pa ht he hp) fun σ H Q q => ?_, fun z => by cases z⟩
  obtain ⟨G, ρ, re, q⟩ := q
  refine ⟨by show 2 ≤ sizeLine; decide, fun l hl => ?_⟩
  have gr : Gr H (L2.upd H l (.lst [.ref f1, .ref f2])) := Gr.upd hl
  have re0 := re.gr gr
  refine ⟨G, ρ, re0, (Good.bind (p1 := true) (p2 := false) re0.gi (Good.gr re.gi gr q)).mono fun d ρ1 G1 H1 st1 re1 z v r => ?_⟩
  have rd := r.rd h1
  have atl : H1 l = some (.lst [.ref f1, .ref f2]) := (show Ext G _ G1 H1 from st1).h l _ upd_same
  have fin : ∀ {F : List D → R D}, Good X io W false σ G1 H1 (mCallP 1 F (aCons fa aNil) ρ1) (fun d _ G' H' => ∀ v, Res (cfX X) (.n rk) H G' H' v d → Q v H') → tCallS (spF (cfX X) X.mg (fcP 1 rk F)) (WE W) (tJA X io W false (aCons fa aNil)) σ H1 Q := fun {F} z => by
    refine callP_of (p := false) ⟨G1, ρ1, re1, z.mono fun d ρ2 G2 H2 st2 re2 k v r => k v ?_⟩
    exact New.anti (fun a h => (show Ext G _ G1 H1 from st1).dm (gr.dm h)) r
  cases d with
  | int i =>
    obtain rfl := rd.int
    match i, z with
    | 0, z => exact ⟨l, [.ref f1, .ref f2], 0, .ref f1, rfl, rfl, .inl (.inl atl), rfl, .inl ⟨rfl, fin z⟩⟩
    | 1, z => exact ⟨l, [.ref f1, .ref f2], 1, .ref f2, rfl, rfl, .inl (.inl atl), rfl, .inr ⟨rfl, fin z⟩⟩
    | .ofNat (n + 2), z => exact z.elim
    | .negSucc n, z => exact z.elim
  | _ => exact z.elim
end
end Nc
set_option maxHeartbeats 4000000
namespace Nc
open PySem PySem.Spec L2
open PyProof.Rows hiding St
theorem takes0N {X : Cx} : L2N.Takes X W0 := fun u s' ⟨_, _, _, _, _, _, _, _, _, _, _, _, _, _, _, _, w⟩ => w.elim
/-- the class at D is an exception as it should be -/
def excB (K : PySem.W.Frag) (D : Addr) : Bool :=
  (PySem.W.findIn K (.ref D) "__getattribute__" == some (some (.builtin "BaseException.__getattribute__"))) && (PySem.W.findIn K (.ref D) "__getattr__" == some none) && (PySem.W.subIn K (.ref D) (.type "BaseException") == some true) && PySem.W.hasDictIn K D &&
  (PySem.W.findIn K (.ref D) "__class__" == some (some (.builtin "object.__class__"))) && (PySem.W.specialIn K (.builtin "object.__class__") "__get__" == some (some (.builtin "getset_descriptor.__get__"))) && (PySem.W.takesIn K (.builtin "object.__class__") == some true) && (PySem.W.mroIn K D (.type "object") == some true)
theorem excB_ok {K : PySem.W.Frag} {D : Addr} (h : excB K D = true) : ExcC K D := by
  unfold excB at h
  simp only [Bool.and_eq_true] at h
  obtain ⟨⟨⟨⟨⟨⟨⟨h1, h2⟩, h3⟩, h4⟩, h5⟩, h6⟩, h7⟩, h8⟩ := h
  exact ⟨eq_of_beq h1, eq_of_beq h2, eq_of_beq h3, h4, eq_of_beq h5, eq_of_beq h6, eq_of_beq h7, eq_of_beq h8⟩
/-- isinstance's answer; an except clause's -/
def isB (K : PySem.W.Frag) (D : Addr) (cv : Value) (b : Bool) : Bool := PySem.W.kitOne K (.ref D) cv == some b
theorem isB_ok {K : PySem.W.Frag} {D : Addr} {cv : Value} {b : Bool} (h : isB K D cv b = true) : PySem.W.kitOne K (.ref D) cv = some b := eq_of_beq h
def exmB (K : PySem.W.Frag) (D : Addr) (cv : Value) : Bool := PySem.W.exmOne K (.ref D) cv == some true
theorem exmB_ok {K : PySem.W.Frag} {D : Addr} {cv : Value} (h : exmB K D cv = true) : PySem.W.exmOne K (.ref D) cv = some true := eq_of_beq h
section
variable {X : Cx} {W : WX}
theorem passNo (σ : L2.St) : PassesAt (L2N.CX X.prog X.w) X σ fun _ _ _ => False := fun _ _ _ _ _ _ ⟨_, _, _, _, _, _, _, _, _, _, _, _, w⟩ => w.elim
/-- except X as n: return f(n) -/
theorem ps_hret {k i : Nat} {f : Addr} {fd : FuncData} {p1 fx n nm : Str} {h : Str → Option Str} {C a : Addr} {oe : Obj} {pn : List (Addr × Obj)} {q1 q2 q3 q4 : Pos} (F : FnE X.prog X.w X.K X.mg X.base (L2N.CX X.prog X.w) k f fd [p1] (a, oe) (spE a nm)) (hr : Room k X.A)
    (hm : X.mg fx = some (.ref f)) (hk : PySem.W.keepIn X.K (.ref f) = true) (hb : Binds X.K fd [p1] []) (hu : ∀ y z, h y = some z → X.mg y = some (.ref C) → z = nm) (hz : L2N.Zn (.ref C) none oe) (hf : ∃ vs, oe.data = .fields vs)
    (hN : X.N[i]? = some n := by rfl) (hv : Vis X.env.scope n := by first | exact Or.inl rfl | exact Or.inr (Or.inl rfl) | exact Or.inr (Or.inr rfl)) (hd : (n == ("__debug__" : Str)) = false := by decide) (hcd : (n == ("__classdict__" : Str)) = false := by decide)
    (hg : Gl X fx := by rfl) (hdf : (fx == ("__debug__" : Str)) = false := by decide) (h1 : starEach [.Name n q2] X.env = (false, eval (.Name n q2) X.env) :: starEach [] X.env := by rfl) (h2 : (backTo q3 (starEach [] X.env)).any (·.1) = false := by rfl) :
    PSs (X.suite a ((a, oe) :: pn)) [.Return (some (.Call (.Name fx q1) [.Name n q2] [] q3)) q4] (tH X h i a (.ref C) none) := by
  obtain ⟨vs, ev⟩ := hf
  have hot : L2H.Hot1 (X.suite a ((a, oe) :: pn)).A (a, oe) := ⟨rfl, vs, ev, hz.2.2 vs ev⟩
  refine pssI (pss_one (ps_ret (pe_callE (X := X.suite a ((a, oe) :: pn)) F ⟨hr.dp, hr.un⟩ hot List.mem_cons_self hg hm hk hb (fun σ => passNo σ) (pa_cons (pe_var (X := X.suite a ((a, oe) :: pn)) (i := i) hN hv hd hcd) pa_nil h1) hdf h1 h2))) fun D σ H z => ?_
  obtain ⟨y, z, C', e1, _, z1, z2, z3, G, z4, z5, z6, z7⟩ := z
  cases e1
  obtain rfl := hu y z z1 z2
  exact ⟨_, z3, rfl, G, z4, z5, z6, z7⟩
end
end Nc
set_option maxHeartbeats 0
namespace L61
open PySem PySem.Spec L2 Nc
open PyProof.Rows hiding St
abbrev prog : Program := (PySem.Challenge.rw_notechains_k61_moves_told_back).prog
def top (i : Nat) : Stmt := PySem.Challenge.pw_notechains_k61_moves_told_back.main.body.getD i (.Pass ⟨0, 0, 0, 0⟩)
abbrev t_is_integer : Stmt := top 18
def d_is_integer : He.DefD := ⟨("is_integer", none), "is_integer", "is_integer", defArgs t_is_integer, defBody t_is_integer, defScope t_is_integer, [], []⟩
abbrev t_is_note : Stmt := top 19
def d_is_note : He.DefD := ⟨("is_note", none), "is_note", "is_note", defArgs t_is_note, defBody t_is_note, defScope t_is_note, [], []⟩
abbrev t_is_row : Stmt := top 22
def d_is_row : He.DefD := ⟨("is_row", none), "is_row", "is_row", defArgs t_is_row, defBody t_is_row, defScope t_is_row, [], []⟩
abbrev t_require_observed : Stmt := top 23
def d_require_observed : He.DefD := ⟨("require_observed", none), "require_observed", "require_observed", defArgs t_require_observed, defBody t_require_observed, defScope t_require_observed, [], []⟩
abbrev t_moves_of : Stmt := top 24
def d_moves_of : He.DefD := ⟨("moves_of", none), "moves_of", "moves_of", defArgs t_moves_of, defBody t_moves_of, defScope t_moves_of, [], []⟩
abbrev t_moves_told : Stmt := top 25
def d_moves_told : He.DefD := ⟨("moves_told", none), "moves_told", "moves_told", defArgs t_moves_told, defBody t_moves_told, defScope t_moves_told, [], []⟩
abbrev t_patch_told : Stmt := top 26
def d_patch_told : He.DefD := ⟨("patch_told", none), "patch_told", "patch_told", defArgs t_patch_told, defBody t_patch_told, defScope t_patch_told, [], []⟩
abbrev t__law_source : Stmt := top 28
def d__law_source : He.DefD := ⟨("_law_source", none), "_law_source", "_law_source", defArgs t__law_source, defBody t__law_source, defScope t__law_source, [], []⟩
abbrev t__law_pick : Stmt := top 29
def d__law_pick : He.DefD := ⟨("_law_pick", none), "_law_pick", "_law_pick", defArgs t__law_pick, defBody t__law_pick, defScope t__law_pick, [], []⟩
abbrev t__law_error_name : Stmt := top 30
def d__law_error_name : He.DefD := ⟨("_law_error_name", none), "_law_error_name", "_law_error_name", defArgs t__law_error_name, defBody t__law_error_name, defScope t__law_error_name, [], []⟩
abbrev t__law_made : Stmt := top 31
def d__law_made : He.DefD := ⟨("_law_made", none), "_law_made", "_law_made", defArgs t__law_made, defBody t__law_made, defScope t__law_made, [], []⟩
abbrev t__law_sounds : Stmt := top 32
def d__law_sounds : He.DefD := ⟨("_law_sounds", none), "_law_sounds", "_law_sounds", defArgs t__law_sounds, defBody t__law_sounds, defScope t__law_sounds, [], []⟩
abbrev t__law_fits : Stmt := top 33
def d__law_fits : He.DefD := ⟨("_law_fits", none), "_law_fits", "_law_fits", defArgs t__law_fits, defBody t__law_fits, defScope t__law_fits, [], []⟩
abbrev t__law_told : Stmt := top 34
def d__law_told : He.DefD := ⟨("_law_told", none), "_law_told", "_law_told", defArgs t__law_told, defBody t__law_told, defScope t__law_told, [], []⟩
abbrev t__law_outcome : Stmt := top 35
def d__law_outcome : He.DefD := ⟨("_law_outcome", none), "_law_outcome", "_law_outcome", defArgs t__law_outcome, defBody t__law_outcome, defScope t__law_outcome, [], []⟩
abbrev t_law : Stmt := top 36
def d_law : He.DefD := ⟨("law", none), "law", "law", defArgs t_law, defBody t_law, defScope t_law, [], []⟩
def fn : List He.DefD := [d_is_integer, d_is_note, d_is_row, d_require_observed, d_moves_of, d_moves_told, d_patch_told, d__law_source, d__law_pick, d__law_error_name, d__law_made, d__law_sounds, d__law_fits, d__law_told, d__law_outcome, d_law]
def fa : List He.Fa := [.glo "is_integer", .glo "is_note", .glo "is_row", .glo "require_observed", .glo "moves_of", .glo "moves_told", .glo "patch_told", .glo "_law_source", .glo "_law_pick", .glo "_law_error_name", .glo "_law_made", .glo "_law_sounds", .glo "_law_fits", .glo "_law_told", .glo "_law_outcome", .glo "law", .glo "ChainError", .glo "InvalidHeard", .glo "InvalidHistory", .glo "InvalidIndex", .glo "InvalidNote", .glo "InvalidNumber", .glo "InvalidObserved", .glo "InvalidPatch", .glo "InvalidRack", .glo "InvalidRule", .glo "InvalidStrokes", .glo "NotPossible", .glo "NothingToUndo", .glo "TooMany", .int "CHANNELS" 4, .int "KEYS" 128, .int "MAX_OBSERVED" 10, .free "ValueError", .free "all", .free "any", .free "bool", .free "int", .free "isinstance", .free "len", .free "max", .free "min", .free "range", .free "set", .free "sorted", .free "tuple", .free "zip", .exc "InvalidObserved"]
def tb : List He.Tab := []
def ex (K : PySem.W.Frag) : Bool := noLst K && excB K (He.ga K "InvalidObserved") && exmB K (He.ga K "InvalidObserved") (.ref (He.ga K "ChainError")) && isB K (He.ga K "InvalidObserved") (.ref (He.ga K "InvalidPatch")) false && isB K (He.ga K "InvalidObserved") (.ref (He.ga K "InvalidNote")) false && isB K (He.ga K "InvalidObserved") (.ref (He.ga K "InvalidIndex")) false && isB K (He.ga K "InvalidObserved") (.ref (He.ga K "InvalidRack")) false && isB K (He.ga K "InvalidObserved") (.ref (He.ga K "InvalidHistory")) false && isB K (He.ga K "InvalidObserved") (.ref (He.ga K "InvalidNumber")) false && isB K (He.ga K "InvalidObserved") (.ref (He.ga K "InvalidRule")) false && isB K (He.ga K "InvalidObserved") (.ref (He.ga K "InvalidStrokes")) false && isB K (He.ga K "InvalidObserved") (.ref (He.ga K "InvalidHeard")) false && isB K (He.ga K "InvalidObserved") (.ref (He.ga K "InvalidObserved")) true && isB K (He.ga K "InvalidObserved") (.ref (He.ga K "NotPossible")) false && isB K (He.ga K "InvalidObserved") (.ref (He.ga K "TooMany")) false && isB K (He.ga K "InvalidObserved") (.ref (He.ga K "NothingToUndo")) false && isB K (He.ga K "InvalidObserved") (.ref (He.ga K "ChainError")) true && isB K (He.ga K "InvalidObserved") (.type "ValueError") true
theorem ex_at0 {K : PySem.W.Frag} (h : ex K = true) : (excB K (He.ga K "InvalidObserved")) = true := (He.ba (He.ba (He.ba (He.ba (He.ba (He.ba (He.ba (He.ba (He.ba (He.ba (He.ba (He.ba (He.ba (He.ba (He.ba (He.ba (He.ba h).1).1).1).1).1).1).1).1).1).1).1).1).1).1).1).1).2
theorem ex_at1 {K : PySem.W.Frag} (h : ex K = true) : (exmB K (He.ga K "InvalidObserved") (.ref (He.ga K "ChainError"))) = true := (He.ba (He.ba (He.ba (He.ba (He.ba (He.ba (He.ba (He.ba (He.ba (He.ba (He.ba (He.ba (He.ba (He.ba (He.ba (He.ba h).1).1).1).1).1).1).1).1).1).1).1).1).1).1).1).2
theorem ex_at2 {K : PySem.W.Frag} (h : ex K = true) : (isB K (He.ga K "InvalidObserved") (.ref (He.ga K "InvalidPatch")) false) = true := (He.ba (He.ba (He.ba (He.ba (He.ba (He.ba (He.ba (He.ba (He.ba (He.ba (He.ba (He.ba (He.ba (He.ba (He.ba h).1).1).1).1).1).1).1).1).1).1).1).1).1).1).2
theorem ex_at3 {K : PySem.W.Frag} (h : ex K = true) : (isB K (He.ga K "InvalidObserved") (.ref (He.ga K "InvalidNote")) false) = true := (He.ba (He.ba (He.ba (He.ba (He.ba (He.ba (He.ba (He.ba (He.ba (He.ba (He.ba (He.ba (He.ba (He.ba h).1).1).1).1).1).1).1).1).1).1).1).1).1).2
theorem ex_at4 {K : PySem.W.Frag} (h : ex K = true) : (isB K (He.ga K "InvalidObserved") (.ref (He.ga K "InvalidIndex")) false) = true := (He.ba (He.ba (He.ba (He.ba (He.ba (He.ba (He.ba (He.ba (He.ba (He.ba (He.ba (He.ba (He.ba h).1).1).1).1).1).1).1).1).1).1).1).1).2
theorem ex_at5 {K : PySem.W.Frag} (h : ex K = true) : (isB K (He.ga K "InvalidObserved") (.ref (He.ga K "InvalidRack")) false) = true := (He.ba (He.ba (He.ba (He.ba (He.ba (He.ba (He.ba (He.ba (He.ba (He.ba (He.ba (He.ba h).1).1).1).1).1).1).1).1).1).1).1).2
theorem ex_at6 {K : PySem.W.Frag} (h : ex K = true) : (isB K (He.ga K "InvalidObserved") (.ref (He.ga K "InvalidHistory")) false) = true := (He.ba (He.ba (He.ba (He.ba (He.ba (He.ba (He.ba (He.ba (He.ba (He.ba (He.ba h).1).1).1).1).1).1).1).1).1).1).2
theorem ex_at7 {K : PySem.W.Frag} (h : ex K = true) : (isB K (He.ga K "InvalidObserved") (.ref (He.ga K "InvalidNumber")) false) = true := (He.ba (He.ba (He.ba (He.ba (He.ba (He.ba (He.ba (He.ba (He.ba (He.ba h).1).1).1).1).1).1).1).1).1).2
theorem ex_at8 {K : PySem.W.Frag} (h : ex K = true) : (isB K (He.ga K "InvalidObserved") (.ref (He.ga K "InvalidRule")) false) = true := (He.ba (He.ba (He.ba (He.ba (He.ba (He.ba (He.ba (He.ba (He.ba h).1).1).1).1).1).1).1).1).2
theorem ex_at9 {K : PySem.W.Frag} (h : ex K = true) : (isB K (He.ga K "InvalidObserved") (.ref (He.ga K "InvalidStrokes")) false) = true := (He.ba (He.ba (He.ba (He.ba (He.ba (He.ba (He.ba (He.ba h).1).1).1).1).1).1).1).2
theorem ex_at10 {K : PySem.W.Frag} (h : ex K = true) : (isB K (He.ga K "InvalidObserved") (.ref (He.ga K "InvalidHeard")) false) = true := (He.ba (He.ba (He.ba (He.ba (He.ba (He.ba (He.ba h).1).1).1).1).1).1).2
theorem ex_at11 {K : PySem.W.Frag} (h : ex K = true) : (isB K (He.ga K "InvalidObserved") (.ref (He.ga K "InvalidObserved")) true) = true := (He.ba (He.ba (He.ba (He.ba (He.ba (He.ba h).1).1).1).1).1).2
theorem ex_at12 {K : PySem.W.Frag} (h : ex K = true) : (isB K (He.ga K "InvalidObserved") (.ref (He.ga K "NotPossible")) false) = true := (He.ba (He.ba (He.ba (He.ba (He.ba h).1).1).1).1).2
theorem ex_at13 {K : PySem.W.Frag} (h : ex K = true) : (isB K (He.ga K "InvalidObserved") (.ref (He.ga K "TooMany")) false) = true := (He.ba (He.ba (He.ba (He.ba h).1).1).1).2
theorem ex_at14 {K : PySem.W.Frag} (h : ex K = true) : (isB K (He.ga K "InvalidObserved") (.ref (He.ga K "NothingToUndo")) false) = true := (He.ba (He.ba (He.ba h).1).1).2
theorem ex_at15 {K : PySem.W.Frag} (h : ex K = true) : (isB K (He.ga K "InvalidObserved") (.ref (He.ga K "ChainError")) true) = true := (He.ba (He.ba h).1).2
theorem ex_at16 {K : PySem.W.Frag} (h : ex K = true) : (isB K (He.ga K "InvalidObserved") (.type "ValueError") true) = true := (He.ba h).2
theorem ex_nl {K : PySem.W.Frag} (h : ex K = true) : noLst K = true := (He.ba (He.ba (He.ba (He.ba (He.ba (He.ba (He.ba (He.ba (He.ba (He.ba (He.ba (He.ba (He.ba (He.ba (He.ba (He.ba (He.ba h).1).1).1).1).1).1).1).1).1).1).1).1).1).1).1).1).1
/-- what is known of the module -/
structure Fx (w : World) (K : PySem.W.Frag) (mg : Str → Option Value) : Prop where
  h : ∃ h : Heap, K.In h ∧ h.Ns mainGlobals mg
  s : He.SaysT fa fn tb w K
  m : ex K = true
variable {w : World} {K : PySem.W.Frag} {mg : Str → Option Value} {base : Heap}
theorem g_is_integer (c : Fx w K mg) : mg "is_integer" = some (.ref (He.ga K "is_integer")) := by
  obtain ⟨h, hi, hn⟩ := c.h
  exact He.glo_ok hi hn (c.s.d.fact 0)
theorem g_is_note (c : Fx w K mg) : mg "is_note" = some (.ref (He.ga K "is_note")) := by
  obtain ⟨h, hi, hn⟩ := c.h
  exact He.glo_ok hi hn (c.s.d.fact 1)
theorem g_is_row (c : Fx w K mg) : mg "is_row" = some (.ref (He.ga K "is_row")) := by
  obtain ⟨h, hi, hn⟩ := c.h
  exact He.glo_ok hi hn (c.s.d.fact 2)
theorem g_require_observed (c : Fx w K mg) : mg "require_observed" = some (.ref (He.ga K "require_observed")) := by
  obtain ⟨h, hi, hn⟩ := c.h
  exact He.glo_ok hi hn (c.s.d.fact 3)
theorem g_moves_of (c : Fx w K mg) : mg "moves_of" = some (.ref (He.ga K "moves_of")) := by
  obtain ⟨h, hi, hn⟩ := c.h
  exact He.glo_ok hi hn (c.s.d.fact 4)
theorem g_moves_told (c : Fx w K mg) : mg "moves_told" = some (.ref (He.ga K "moves_told")) := by
  obtain ⟨h, hi, hn⟩ := c.h
  exact He.glo_ok hi hn (c.s.d.fact 5)
theorem g_patch_told (c : Fx w K mg) : mg "patch_told" = some (.ref (He.ga K "patch_told")) := by
  obtain ⟨h, hi, hn⟩ := c.h
  exact He.glo_ok hi hn (c.s.d.fact 6)
theorem g__law_source (c : Fx w K mg) : mg "_law_source" = some (.ref (He.ga K "_law_source")) := by
  obtain ⟨h, hi, hn⟩ := c.h
  exact He.glo_ok hi hn (c.s.d.fact 7)
theorem g__law_pick (c : Fx w K mg) : mg "_law_pick" = some (.ref (He.ga K "_law_pick")) := by
  obtain ⟨h, hi, hn⟩ := c.h
  exact He.glo_ok hi hn (c.s.d.fact 8)
theorem g__law_error_name (c : Fx w K mg) : mg "_law_error_name" = some (.ref (He.ga K "_law_error_name")) := by
  obtain ⟨h, hi, hn⟩ := c.h
  exact He.glo_ok hi hn (c.s.d.fact 9)
theorem g__law_made (c : Fx w K mg) : mg "_law_made" = some (.ref (He.ga K "_law_made")) := by
  obtain ⟨h, hi, hn⟩ := c.h
  exact He.glo_ok hi hn (c.s.d.fact 10)
theorem g__law_sounds (c : Fx w K mg) : mg "_law_sounds" = some (.ref (He.ga K "_law_sounds")) := by
  obtain ⟨h, hi, hn⟩ := c.h
  exact He.glo_ok hi hn (c.s.d.fact 11)
theorem g__law_fits (c : Fx w K mg) : mg "_law_fits" = some (.ref (He.ga K "_law_fits")) := by
  obtain ⟨h, hi, hn⟩ := c.h
  exact He.glo_ok hi hn (c.s.d.fact 12)
theorem g__law_told (c : Fx w K mg) : mg "_law_told" = some (.ref (He.ga K "_law_told")) := by
  obtain ⟨h, hi, hn⟩ := c.h
  exact He.glo_ok hi hn (c.s.d.fact 13)
theorem g__law_outcome (c : Fx w K mg) : mg "_law_outcome" = some (.ref (He.ga K "_law_outcome")) := by
  obtain ⟨h, hi, hn⟩ := c.h
  exact He.glo_ok hi hn (c.s.d.fact 14)
theorem g_law (c : Fx w K mg) : mg "law" = some (.ref (He.ga K "law")) := by
  obtain ⟨h, hi, hn⟩ := c.h
  exact He.glo_ok hi hn (c.s.d.fact 15)
theorem g_ChainError (c : Fx w K mg) : mg "ChainError" = some (.ref (He.ga K "ChainError")) := by
  obtain ⟨h, hi, hn⟩ := c.h
  exact He.glo_ok hi hn (c.s.d.fact 16)
theorem g_InvalidHeard (c : Fx w K mg) : mg "InvalidHeard" = some (.ref (He.ga K "InvalidHeard")) := by
  obtain ⟨h, hi, hn⟩ := c.h
  exact He.glo_ok hi hn (c.s.d.fact 17)
theorem g_InvalidHistory (c : Fx w K mg) : mg "InvalidHistory" = some (.ref (He.ga K "InvalidHistory")) := by
  obtain ⟨h, hi, hn⟩ := c.h
  exact He.glo_ok hi hn (c.s.d.fact 18)
theorem g_InvalidIndex (c : Fx w K mg) : mg "InvalidIndex" = some (.ref (He.ga K "InvalidIndex")) := by
  obtain ⟨h, hi, hn⟩ := c.h
  exact He.glo_ok hi hn (c.s.d.fact 19)
theorem g_InvalidNote (c : Fx w K mg) : mg "InvalidNote" = some (.ref (He.ga K "InvalidNote")) := by
  obtain ⟨h, hi, hn⟩ := c.h
  exact He.glo_ok hi hn (c.s.d.fact 20)
theorem g_InvalidNumber (c : Fx w K mg) : mg "InvalidNumber" = some (.ref (He.ga K "InvalidNumber")) := by
  obtain ⟨h, hi, hn⟩ := c.h
  exact He.glo_ok hi hn (c.s.d.fact 21)
theorem g_InvalidObserved (c : Fx w K mg) : mg "InvalidObserved" = some (.ref (He.ga K "InvalidObserved")) := by
  obtain ⟨h, hi, hn⟩ := c.h
  exact He.glo_ok hi hn (c.s.d.fact 22)
theorem g_InvalidPatch (c : Fx w K mg) : mg "InvalidPatch" = some (.ref (He.ga K "InvalidPatch")) := by
  obtain ⟨h, hi, hn⟩ := c.h
  exact He.glo_ok hi hn (c.s.d.fact 23)
theorem g_InvalidRack (c : Fx w K mg) : mg "InvalidRack" = some (.ref (He.ga K "InvalidRack")) := by
  obtain ⟨h, hi, hn⟩ := c.h
  exact He.glo_ok hi hn (c.s.d.fact 24)
theorem g_InvalidRule (c : Fx w K mg) : mg "InvalidRule" = some (.ref (He.ga K "InvalidRule")) := by
  obtain ⟨h, hi, hn⟩ := c.h
  exact He.glo_ok hi hn (c.s.d.fact 25)
theorem g_InvalidStrokes (c : Fx w K mg) : mg "InvalidStrokes" = some (.ref (He.ga K "InvalidStrokes")) := by
  obtain ⟨h, hi, hn⟩ := c.h
  exact He.glo_ok hi hn (c.s.d.fact 26)
theorem g_NotPossible (c : Fx w K mg) : mg "NotPossible" = some (.ref (He.ga K "NotPossible")) := by
  obtain ⟨h, hi, hn⟩ := c.h
  exact He.glo_ok hi hn (c.s.d.fact 27)
theorem g_NothingToUndo (c : Fx w K mg) : mg "NothingToUndo" = some (.ref (He.ga K "NothingToUndo")) := by
  obtain ⟨h, hi, hn⟩ := c.h
  exact He.glo_ok hi hn (c.s.d.fact 28)
theorem g_TooMany (c : Fx w K mg) : mg "TooMany" = some (.ref (He.ga K "TooMany")) := by
  obtain ⟨h, hi, hn⟩ := c.h
  exact He.glo_ok hi hn (c.s.d.fact 29)
theorem gi_CHANNELS (c : Fx w K mg) : ∃ t, mg "CHANNELS" = some (.int 4 t) := by
  obtain ⟨h, hi, hn⟩ := c.h
  exact He.int_ok hi hn (c.s.d.fact 30)
theorem gi_KEYS (c : Fx w K mg) : ∃ t, mg "KEYS" = some (.int 128 t) := by
  obtain ⟨h, hi, hn⟩ := c.h
  exact He.int_ok hi hn (c.s.d.fact 31)
theorem gi_MAX_OBSERVED (c : Fx w K mg) : ∃ t, mg "MAX_OBSERVED" = some (.int 10 t) := by
  obtain ⟨h, hi, hn⟩ := c.h
  exact He.int_ok hi hn (c.s.d.fact 32)
theorem gb_ValueError (c : Fx w K mg) : mg "ValueError" = none := by
  obtain ⟨h, hi, hn⟩ := c.h
  exact He.free_ok hi hn (c.s.d.fact 33)
theorem gb_all (c : Fx w K mg) : mg "all" = none := by
  obtain ⟨h, hi, hn⟩ := c.h
  exact He.free_ok hi hn (c.s.d.fact 34)
theorem gb_any (c : Fx w K mg) : mg "any" = none := by
  obtain ⟨h, hi, hn⟩ := c.h
  exact He.free_ok hi hn (c.s.d.fact 35)
theorem gb_bool (c : Fx w K mg) : mg "bool" = none := by
  obtain ⟨h, hi, hn⟩ := c.h
  exact He.free_ok hi hn (c.s.d.fact 36)
theorem gb_int (c : Fx w K mg) : mg "int" = none := by
  obtain ⟨h, hi, hn⟩ := c.h
  exact He.free_ok hi hn (c.s.d.fact 37)
theorem gb_isinstance (c : Fx w K mg) : mg "isinstance" = none := by
  obtain ⟨h, hi, hn⟩ := c.h
  exact He.free_ok hi hn (c.s.d.fact 38)
theorem gb_len (c : Fx w K mg) : mg "len" = none := by
  obtain ⟨h, hi, hn⟩ := c.h
  exact He.free_ok hi hn (c.s.d.fact 39)
theorem gb_max (c : Fx w K mg) : mg "max" = none := by
  obtain ⟨h, hi, hn⟩ := c.h
  exact He.free_ok hi hn (c.s.d.fact 40)
theorem gb_min (c : Fx w K mg) : mg "min" = none := by
  obtain ⟨h, hi, hn⟩ := c.h
  exact He.free_ok hi hn (c.s.d.fact 41)
theorem gb_range (c : Fx w K mg) : mg "range" = none := by
  obtain ⟨h, hi, hn⟩ := c.h
  exact He.free_ok hi hn (c.s.d.fact 42)
theorem gb_set (c : Fx w K mg) : mg "set" = none := by
  obtain ⟨h, hi, hn⟩ := c.h
  exact He.free_ok hi hn (c.s.d.fact 43)
theorem gb_sorted (c : Fx w K mg) : mg "sorted" = none := by
  obtain ⟨h, hi, hn⟩ := c.h
  exact He.free_ok hi hn (c.s.d.fact 44)
theorem gb_tuple (c : Fx w K mg) : mg "tuple" = none := by
  obtain ⟨h, hi, hn⟩ := c.h
  exact He.free_ok hi hn (c.s.d.fact 45)
theorem gb_zip (c : Fx w K mg) : mg "zip" = none := by
  obtain ⟨h, hi, hn⟩ := c.h
  exact He.free_ok hi hn (c.s.d.fact 46)
theorem mk_InvalidObserved {X : Cx} {m : Str} {j : Nat} {p p2 pos : Pos} (c : Fx w X.K X.mg) (hg : Gl X "InvalidObserved") : L2N.PMk X (.Call (.Name "InvalidObserved" p) [.Constant (.str m) j p2] [] pos) (fun _ H Q => Q (.ref (He.ga X.K "InvalidObserved")) none H) := mk_exc (c.s.d.fact 47) (g_InvalidObserved c) hg
abbrev N_is_integer : List Str := ["value", "low", "high"]
def s_is_integer : S :=
    (sRet (mAnd (mU (dIsI .int) (mVar 0)) (mAnd (mNot (mU (dIsI .bool) (mVar 0))) (mCh dLe dLe (mVar 1) (mVar 0) (mVar 2)))))
def F_is_integer : List D → R D := runP 3 3 s_is_integer
theorem ok_is_integer (c : Fx w K mg) : ∃ fd, FnOk prog w K mg base (L2N.CX prog w) 1 (He.ga K "is_integer") fd ["value", "low", "high"] (spF ⟨prog, w, K⟩ mg (fcP 3 0 F_is_integer)) ∧ Binds K fd ["value", "low", "high"] [] ∧ PySem.W.keepIn K (.ref (He.ga K "is_integer")) = true := by
  obtain ⟨fd, F⟩ := c.s.d.def_ 0
  refine ⟨fd, fcP_ok (n := 3) (rk := 0) (N := N_is_integer) (s := s_is_integer) F (C8.fnScope_by (by decide +kernel)) rfl ?_, F.bindsN fun _ _ _ _ _ _ us hl => match us, hl with | [_, _, _], _ => rfl, F.kp⟩
  intro cdv A outer s0 H0 E hr
  have hu80 := room80 hr
  have hu64 := room64 hr
  have hu65 := room65 hr
  have hu16 := room16 hr
  have nd : N_is_integer.Nodup := by decide +kernel
  have tk := L2N.takes_of (X := cxOf (L2N.CX prog w) prog w K mg base N_is_integer "is_integer" (defScope t_is_integer) (He.ga K "is_integer") cdv A outer s0 H0 E) (E := E) rfl rfl rfl rfl
  exact
    (js_one (js_ret (j_and (j_isi .int (gb_isinstance c) (gb_int c) (by decide +kernel) (j_var 0)) (j_and (j_not (j_isi .bool (gb_isinstance c) (gb_bool c) (by decide +kernel) (j_var 0))) (j_one (J.frz (j_chain op_leD op_leD (j_var 1) (j_var 0) (j_var 2))))))))
abbrev N_moves_of : List Str := ["observed", "some", "row", "shift", "keys", "gone", "key", "low", "high"]
def s_moves_of : S :=
    (sSeq (sSet 1 0 (mLc [2] (iA (mVar 0)) (gN 2) (fun ρ => toB (mB dNe (mB dIxK (mVar 2) (mC (.int 1))) (mTup aNil) ρ)) (mVar 2)))
    (sSeq (sSet 3 0 (mB dSub (mB dIxK (mB dIxK (mB dIxK (mB dIxK (mVar 1) (mC (.int 0))) (mC (.int 1))) (mC (.int 0))) (mC (.int 1))) (mB dIxK (mB dIxK (mB dIxK (mVar 1) (mC (.int 0))) (mC (.int 0))) (mC (.int 1)))))
    (sSeq (sIf (fun ρ => toB (mB dNe (mLc [2] (iA (mVar 1)) (gN 2) (fun ρ => toB (mB dNe (mB dIxK (mVar 2) (mC (.int 1))) (mTup (aCons (mTup (aCons (mB dIxK (mB dIxK (mVar 2) (mC (.int 0))) (mC (.int 0))) (aCons (mB dAdd (mB dIxK (mB dIxK (mVar 2) (mC (.int 0))) (mC (.int 1))) (mVar 3)) aNil))) aNil)) ρ)) (mVar 2)) (mLst aNil) ρ))
      (sRet (mLst aNil))
      sNil)
    (sSeq (sSet 4 0 (mLc [2] (iA (mVar 1)) (gN 2) tTrue (mB dIxK (mB dIxK (mVar 2) (mC (.int 0))) (mC (.int 1)))))
    (sSeq (sSet 5 0 (mLc [2] (iA (mVar 0)) (gN 2) (tAndM (fun ρ => toB (mB dEq (mB dIxK (mVar 2) (mC (.int 1))) (mTup aNil) ρ)) (fun ρ => toB (mCh dLe dLt2 (mC (.int 0)) (mB dAdd (mB dIxK (mB dIxK (mVar 2) (mC (.int 0))) (mC (.int 1))) (mVar 3)) (mC (.int 128)) ρ))) (mB dIxK (mB dIxK (mVar 2) (mC (.int 0))) (mC (.int 1)))))
    (sSeq (sIf (fun ρ => toB (mB dNe (mLc [6] (iA (mVar 5)) (gN 6) (fun ρ => toB (mCh dLe dLe (mU dMinL (mVar 4)) (mVar 6) (mU dMaxL (mVar 4)) ρ)) (mVar 6)) (mLst aNil) ρ))
      (sRet (mLst aNil))
      sNil)
    (sSeq (sSet 7 0 (mB dAdd (mU dMaxL (mB dAdd (mLst (aCons (mU dNeg (mC (.int 1))) aNil)) (mLc [6] (iA (mVar 5)) (gN 6) (fun ρ => toB (mB dLt2 (mVar 6) (mU dMinL (mVar 4)) ρ)) (mVar 6)))) (mC (.int 1))))
    (sSeq (sSet 8 0 (mB dSub (mU dMinL (mB dAdd (mLst (aCons (mC (.int 128)) aNil)) (mLc [6] (iA (mVar 5)) (gN 6) (fun ρ => toB (mB dGt1 (mVar 6) (mU dMaxL (mVar 4)) ρ)) (mVar 6)))) (mC (.int 1))))
    (sSeq (sRet (mLst (aCons (mTup (aCons (mVar 3) (aCons (mTup (aCons (mVar 7) (aCons (mU dMinL (mVar 4)) aNil))) (aCons (mTup (aCons (mU dMaxL (mVar 4)) (aCons (mVar 8) aNil))) aNil)))) aNil)))
    sNil)))))))))
def F_moves_of : List D → R D := runP 9 1 s_moves_of
theorem ok_moves_of (c : Fx w K mg) : ∃ fd, FnOk prog w K mg base (L2N.CX prog w) 1 (He.ga K "moves_of") fd ["observed"] (spF ⟨prog, w, K⟩ mg (fcP 1 1 F_moves_of)) ∧ Binds K fd ["observed"] [] ∧ PySem.W.keepIn K (.ref (He.ga K "moves_of")) = true := by
  obtain ⟨fd, F⟩ := c.s.d.def_ 4
  refine ⟨fd, fcP_ok (n := 1) (rk := 1) (N := N_moves_of) (s := s_moves_of) F (C8.fnScope_by (by decide +kernel)) rfl ?_, F.bindsN fun _ _ _ _ _ _ us hl => match us, hl with | [_], _ => rfl, F.kp⟩
  intro cdv A outer s0 H0 E hr
  have hu80 := room80 hr
  have hu64 := room64 hr
  have hu65 := room65 hr
  have hu16 := room16 hr
  have nd : N_moves_of.Nodup := by decide +kernel
  have tk := L2N.takes_of (X := cxOf (L2N.CX prog w) prog w K mg base N_moves_of "moves_of" (defScope t_moves_of) (He.ga K "moves_of") cdv A outer s0 H0 E) (E := E) rfl rfl rfl rfl
  exact
    (js_cons (js_setLc 0 1 [("row", 2)] rfl nd (ji_any (j_var 0)) (blkOk_by (by kernel_rfl)) (fun _ _ _ _ _ => (jg_name 2 rfl nd)) (fun _ _ _ _ _ => (jts_one (jt_cmp (op_neD' hu64) (j_ix (ix_K hu16) (j_var 2) j_int) (j_tup ja_nil)))) (fun _ _ _ _ _ => (j_var 2)) (by decide) rfl)
    (js_cons (js_set 3 rfl (J.frz (j_bin op_subD (j_ix (ix_K hu16) (j_ix (ix_K hu16) (j_ix (ix_K hu16) (j_ix (ix_K hu16) (j_var 1) j_int) j_int) j_int) j_int) (j_ix (ix_K hu16) (j_ix (ix_K hu16) (j_ix (ix_K hu16) (j_var 1) j_int) j_int) j_int))) nd)
    (js_cons (js_if (jt_cmp (op_neD' hu64) (j_lc [("row", 2)] rfl nd (ji_any (j_var 1)) (blkOk_by (by kernel_rfl)) (fun _ _ _ _ _ => (jg_name 2 rfl nd)) (fun _ _ _ _ _ => (jts_one (jt_cmp (op_neD' hu64) (j_ix (ix_K hu16) (j_var 2) j_int) (j_tup (ja_cons (j_tup (ja_cons (j_ix (ix_K hu16) (j_ix (ix_K hu16) (j_var 2) j_int) j_int) (ja_cons (J.frz (j_bin op_addD (j_ix (ix_K hu16) (j_ix (ix_K hu16) (j_var 2) j_int) j_int) (j_var 3))) ja_nil))) ja_nil))))) (fun _ _ _ _ _ => (j_var 2))) (j_lst ja_nil))
      (js_one (js_retNew (j_lst ja_nil)))
      js_nil)
    (js_cons (js_set 4 rfl (J.frz (j_lc [("row", 2)] rfl nd (ji_any (j_var 1)) (blkOk_by (by kernel_rfl)) (fun _ _ _ _ _ => (jg_name 2 rfl nd)) (fun _ _ _ _ _ => jts_nil) (fun _ _ _ _ _ => (j_ix (ix_K hu16) (j_ix (ix_K hu16) (j_var 2) j_int) j_int)))) nd)
    (js_cons (js_setLc 0 5 [("row", 2)] rfl nd (ji_any (j_var 0)) (blkOk_by (by kernel_rfl)) (fun _ _ _ _ _ => (jg_name 2 rfl nd)) (fun _ _ _ _ _ => (jts_one (JW.t (jw_and (jt_cmp (op_eqD' hu64) (j_ix (ix_K hu16) (j_var 2) j_int) (j_tup ja_nil)) (jw_and1 (jt_chain op_leD (op_ltD2 hu64) j_int (j_bin op_addD (j_ix (ix_K hu16) (j_ix (ix_K hu16) (j_var 2) j_int) j_int) (j_var 3)) (j_gint (gi_KEYS c)))))))) (fun _ _ _ _ _ => (j_ix (ix_K hu16) (j_ix (ix_K hu16) (j_var 2) j_int) j_int)) (by decide) rfl)
    (js_cons (js_if (jt_cmp (op_neD' hu64) (j_lc [("key", 6)] rfl nd (ji_any (j_var 5)) (blkOk_by (by kernel_rfl)) (fun _ _ _ _ _ => (jg_name 6 rfl nd)) (fun _ _ _ _ _ => (jts_one (jt_chain op_leD op_leD (j_callBf (call_minL rfl hu80) (gb_min c) (by decide +kernel) (j_var 4)) (j_var 6) (j_callBf (call_maxL rfl hu80) (gb_max c) (by decide +kernel) (j_var 4))))) (fun _ _ _ _ _ => (j_var 6))) (j_lst ja_nil))
      (js_one (js_retNew (j_lst ja_nil)))
      js_nil)
    (js_cons (js_set 7 rfl (J.frz (j_bin op_addD (j_callBf (call_maxL rfl hu80) (gb_max c) (by decide +kernel) (j_bin op_addD (j_lst (ja_cons (J.frz (j_un un_negD j_int)) ja_nil)) (j_lc [("key", 6)] rfl nd (ji_any (j_var 5)) (blkOk_by (by kernel_rfl)) (fun _ _ _ _ _ => (jg_name 6 rfl nd)) (fun _ _ _ _ _ => (jts_one (jt_cmp (op_ltD2 hu64) (j_var 6) (j_callBf (call_minL rfl hu80) (gb_min c) (by decide +kernel) (j_var 4))))) (fun _ _ _ _ _ => (j_var 6))))) j_int)) nd)
    (js_cons (js_set 8 rfl (J.frz (j_bin op_subD (j_callBf (call_minL rfl hu80) (gb_min c) (by decide +kernel) (j_bin op_addD (j_lst (ja_cons (j_gint (gi_KEYS c)) ja_nil)) (j_lc [("key", 6)] rfl nd (ji_any (j_var 5)) (blkOk_by (by kernel_rfl)) (fun _ _ _ _ _ => (jg_name 6 rfl nd)) (fun _ _ _ _ _ => (jts_one (jt_cmp (op_gtD1 hu64) (j_var 6) (j_callBf (call_maxL rfl hu80) (gb_max c) (by decide +kernel) (j_var 4))))) (fun _ _ _ _ _ => (j_var 6))))) j_int)) nd)
    (js_cons (js_retNew (j_lst (ja_cons (j_tup (ja_cons (j_var 3) (ja_cons (j_tup (ja_cons (j_var 7) (ja_cons (j_callBf (call_minL rfl hu80) (gb_min c) (by decide +kernel) (j_var 4)) ja_nil))) (ja_cons (j_tup (ja_cons (j_callBf (call_maxL rfl hu80) (gb_max c) (by decide +kernel) (j_var 4)) (ja_cons (j_var 8) ja_nil))) ja_nil)))) ja_nil)))
    js_nil)))))))))
abbrev N__law_source : List Str := ["script", "k", "cell", "primes", "seed"]
def s__law_source : S :=
    (sSeq (sSet 2 0 (mC (.int 0)))
    (sSeq (sIf (fun ρ => toB (mB dLt2 (mVar 1) (mU dLen (mVar 0)) ρ))
      (sSet 2 0 (mB dIxK (mVar 0) (mVar 1)))
      sNil)
    (sSeq (sSet 3 0 (mLst (aCons (mC (.int 2147483647)) (aCons (mC (.int 2147483629)) (aCons (mC (.int 2147483587)) (aCons (mC (.int 2147483579)) (aCons (mC (.int 2147483563)) (aCons (mC (.int 2147483549)) (aCons (mC (.int 2147483543)) (aCons (mC (.int 2147483497)) aNil))))))))))
    (sSeq (sSet 4 0 (mB dMod (mB dMul (mB dAdd (mB dMod (mVar 2) (mC (.int 2147483489))) (mC (.int 1))) (mB dAdd (mC (.int 48271)) (mB dMul (mC (.int 2)) (mVar 1)))) (mC (.int 2147483489))))
    (sSeq (sSet 4 0 (mB dAdd (mB dAdd (mB dMod (mB dMul (mVar 4) (mVar 4)) (mC (.int 2147483477))) (mVar 1)) (mC (.int 1))))
    (sSeq (sIf (fun ρ => toB (mB dGe (mVar 2) (mB dPow (mC (.int 10)) (mC (.int 18))) ρ))
      (sRet (mLst (aCons (mVar 2) (aCons (mVar 4) (aCons (mB dIxK (mVar 3) (mB dMod (mVar 1) (mC (.int 8)))) aNil)))))
      sNil)
    (sSeq (sRet (mLst (aCons (mC (.int 0)) (aCons (mVar 4) (aCons (mB dIxK (mVar 3) (mB dMod (mVar 1) (mC (.int 8)))) aNil)))))
    sNil)))))))
def F__law_source : List D → R D := runP 5 2 s__law_source
theorem ok__law_source (c : Fx w K mg) : ∃ fd, FnOk prog w K mg base (L2N.CX prog w) 1 (He.ga K "_law_source") fd ["script", "k"] (spF ⟨prog, w, K⟩ mg (fcP 2 1 F__law_source)) ∧ Binds K fd ["script", "k"] [] ∧ PySem.W.keepIn K (.ref (He.ga K "_law_source")) = true := by
  obtain ⟨fd, F⟩ := c.s.d.def_ 7
  refine ⟨fd, fcP_ok (n := 2) (rk := 1) (N := N__law_source) (s := s__law_source) F (C8.fnScope_by (by decide +kernel)) rfl ?_, F.bindsN fun _ _ _ _ _ _ us hl => match us, hl with | [_, _], _ => rfl, F.kp⟩
  intro cdv A outer s0 H0 E hr
  have hu80 := room80 hr
  have hu64 := room64 hr
  have hu65 := room65 hr
  have hu16 := room16 hr
  have nd : N__law_source.Nodup := by decide +kernel
  have tk := L2N.takes_of (X := cxOf (L2N.CX prog w) prog w K mg base N__law_source "_law_source" (defScope t__law_source) (He.ga K "_law_source") cdv A outer s0 H0 E) (E := E) rfl rfl rfl rfl
  exact
    (js_cons (js_set 2 rfl j_int nd)
    (js_cons (js_if (jt_cmp (op_ltD2 hu64) (j_var 1) (j_callB call_lenD (gb_len c) (by decide +kernel) (j_var 0)))
      (js_one (js_set 2 rfl (j_ix (ix_K hu16) (j_var 0) (j_var 1)) nd))
      js_nil)
    (js_cons (js_set 3 rfl (J.frz (j_lst (ja_cons j_int (ja_cons j_int (ja_cons j_int (ja_cons j_int (ja_cons j_int (ja_cons j_int (ja_cons j_int (ja_cons j_int ja_nil)))))))))) nd)
    (js_cons (js_set 4 rfl (J.frz (j_bin op_modD (j_bin op_mulD (j_bin op_addD (j_bin op_modD (j_var 2) j_int) j_int) (j_bin op_addD j_int (j_bin op_mulD j_int (j_var 1)))) j_int)) nd)
    (js_cons (js_set 4 rfl (J.frz (j_bin op_addD (j_bin op_addD (j_bin op_modD (j_bin op_mulD (j_var 4) (j_var 4)) j_int) (j_var 1)) j_int)) nd)
    (js_cons (js_if (jt_cmp op_geD (j_var 2) (j_bin op_powD j_int j_int))
      (js_one (js_retNew (j_lst (ja_cons (j_var 2) (ja_cons (j_var 4) (ja_cons (j_ix (ix_K hu16) (j_var 3) (j_bin op_modD (j_var 1) j_int)) ja_nil))))))
      js_nil)
    (js_cons (js_retNew (j_lst (ja_cons j_int (ja_cons (j_var 4) (ja_cons (j_ix (ix_K hu16) (j_var 3) (j_bin op_modD (j_var 1) j_int)) ja_nil)))))
    js_nil)))))))
abbrev N__law_pick : List Str := ["source", "size", "drawn"]
def s__law_pick : S :=
    (sSeq (sIf (fun ρ => toB (mB dGt1 (mB dIxK (mPeek 0) (mC (.int 0))) (mC (.int 0)) ρ))
      (sSeq (sSet 2 0 (mB dMod (mB dIxK (mPeek 0) (mC (.int 0))) (mVar 1)))
      (sSeq (sPut 0 (mB dFdiv (mB dIxK (mPeek 0) (mC (.int 0))) (mVar 1)) (mC (.int 0)))
      (sSeq (sRet (mVar 2))
      sNil)))
      sNil)
    (sSeq (sPut 0 (mB dAdd (mB dMod (mB dMul (mB dIxK (mPeek 0) (mC (.int 1))) (mC (.int 48271))) (mB dIxK (mPeek 0) (mC (.int 2)))) (mC (.int 1))) (mC (.int 1)))
    (sSeq (sRet (mB dMod (mB dFdiv (mB dMod (mB dMul (mB dIxK (mPeek 0) (mC (.int 1))) (mB dIxK (mPeek 0) (mC (.int 1)))) (mC (.int 2147483423))) (mC (.int 7))) (mVar 1)))
    sNil)))
def fc__law_pick : Fc := ⟨[1, 0], 0, runB 3 [1, 0] s__law_pick⟩
theorem ok__law_pick (c : Fx w K mg) : ∃ fd, FnOk prog w K mg base (L2N.CX prog w) 1 (He.ga K "_law_pick") fd ["source", "size"] (spF ⟨prog, w, K⟩ mg fc__law_pick) ∧ Binds K fd ["source", "size"] [] ∧ PySem.W.keepIn K (.ref (He.ga K "_law_pick")) = true := by
  obtain ⟨fd, F⟩ := c.s.d.def_ 8
  refine ⟨fd, fc_ok (fc := fc__law_pick) (N := N__law_pick) (s := s__law_pick) F (C8.fnScope_by (by decide +kernel)) rfl (fun _ => rfl) ?_, F.bindsN fun _ _ _ _ _ _ us hl => match us, hl with | [_, _], _ => rfl, F.kp⟩
  intro cdv A outer s0 H0 E hr
  have hu80 := room80 hr
  have hu64 := room64 hr
  have hu65 := room65 hr
  have hu16 := room16 hr
  have nd : N__law_pick.Nodup := by decide +kernel
  have tk := L2N.takes_of (X := cxOf (L2N.CX prog w) prog w K mg base N__law_pick "_law_pick" (defScope t__law_pick) (He.ga K "_law_pick") cdv A outer s0 H0 E) (E := E) rfl rfl rfl rfl
  exact
    (js_cons (js_if (jt_cmp (op_gtD1 hu64) (j_ix (ix_K hu16) (j_peek 0) j_int) j_int)
      (js_cons (js_set 2 rfl (J.frz (j_bin op_modD (j_ix (ix_K hu16) (j_peek 0) j_int) (j_var 1))) nd)
      (js_cons (js_put 0 (J.frz (j_bin op_fdivD (j_ix (ix_K hu16) (j_peek 0) j_int) (j_var 1))) j_int)
      (js_cons (js_ret (j_var 2))
      js_nil)))
      js_nil)
    (js_cons (js_put 0 (J.frz (j_bin op_addD (j_bin op_modD (j_bin op_mulD (j_ix (ix_K hu16) (j_peek 0) j_int) j_int) (j_ix (ix_K hu16) (j_peek 0) j_int)) j_int)) j_int)
    (js_cons (js_ret (J.frz (j_bin op_modD (j_bin op_fdivD (j_bin op_modD (j_bin op_mulD (j_ix (ix_K hu16) (j_peek 0) j_int) (j_ix (ix_K hu16) (j_peek 0) j_int)) j_int) j_int) (j_var 1))))
    js_nil)))
abbrev N__law_error_name : List Str := ["e", "some", "names", "found", "name", "good"]
def s__law_error_name : S :=
    (sSeq (sSet 1 1 (mBs [false, false, false]))
    (sSeq (sSet 1 1 (mB dAdd (mPeek 1) (mBs [false, false, false])))
    (sSeq (sSet 1 1 (mB dAdd (mPeek 1) (mBs [false, false, false])))
    (sSeq (sSet 1 1 (mB dAdd (mPeek 1) (mBs [true, false, false])))
    (sSeq (sSet 1 1 (mB dAdd (mPeek 1) (mBs [false, true, true])))
    (sSeq (sSet 2 0 (mC (.str "patch note index rack history number rule strokes heard observed not many undo base value")))
    (sSeq (sSet 3 0 (mLc [4, 5] (iZp (mSpl (mVar 2) (mC (.str " "))) (mPeek 1)) (gT 2 (gsCons (gN 4) (gsCons (gN 5) gsNil))) (fun ρ => toB ((mVar 5) ρ)) (mVar 4)))
    (sSeq (sRet (mIf (fun ρ => toB (mB dEq (mSl (mVar 3) (oSome (mC (.int 1))) oNone) (mLst (aCons (mC (.str "base")) (aCons (mC (.str "value")) aNil))) ρ)) (mB dIxK (mVar 3) (mC (.int 0))) (mC (.str "else"))))
    sNil))))))))
theorem run__law_error_name : s__law_error_name (List.replicate N__law_error_name.length none) = .ok (.ret (.str "observed"), [none, some (1, .list [.bool false, .bool false, .bool false, .bool false, .bool false, .bool false, .bool false, .bool false, .bool false, .bool true, .bool false, .bool false, .bool false, .bool true, .bool true]), some (0, .str "patch note index rack history number rule strokes heard observed not many undo base value"), some (0, .list [.str "observed", .str "base", .str "value"]), none, none]) := by kernel_rfl
theorem ok__law_error_name (c : Fx w K mg) : ∃ fd, (∀ (a : Addr) (oe : Obj), L2N.Zn (.ref (He.ga K "InvalidObserved")) none oe → (∃ vs, oe.data = .fields vs) → FnE prog w K mg base (L2N.CX prog w) 1 (He.ga K "_law_error_name") fd ["e"] (a, oe) (spE a "observed")) ∧ Binds K fd ["e"] [] ∧ PySem.W.keepIn K (.ref (He.ga K "_law_error_name")) = true := by
  obtain ⟨fd, F⟩ := c.s.d.def_ 9
  refine ⟨fd, fun a oe hz hf => fnE_str (k := 0) (N := N__law_error_name) (W := W0) (s := s__law_error_name) F (C8.fnScope_by (by decide +kernel)) run__law_error_name ?_, F.bindsN fun _ _ _ _ _ _ us hl => match us, hl with | [_], _ => rfl, F.kp⟩
  intro cdv A outer s0 H E hot hr
  have hu64 : (A.deeper (envOfC d__law_error_name.qual d__law_error_name.scope s0.heap.objs.size (He.ga K "_law_error_name") cdv)).units + 64 < cLine := by
    have := hr.un
    omega
  have hu16 : (A.deeper (envOfC d__law_error_name.qual d__law_error_name.scope s0.heap.objs.size (He.ga K "_law_error_name") cdv)).units + 16 < cLine := by omega
  have nd : N__law_error_name.Nodup := by decide +kernel
  exact
    (es_cons rfl (ps_setE (rk := 0) (i := 1) rfl (pe_iss (io := io0) (W := W0) (.cons (pis (q := (a, oe)) (j := 0) List.mem_cons_self (excB_ok (ex_at0 c.m)) hz.zc hf (gb_isinstance c) (pe_glob (v := .ref (He.ga K "InvalidPatch")) rfl (g_InvalidPatch c) rfl) (fun _ z => z) (isB_ok (ex_at2 c.m))) (.cons (pis (q := (a, oe)) (j := 0) List.mem_cons_self (excB_ok (ex_at0 c.m)) hz.zc hf (gb_isinstance c) (pe_glob (v := .ref (He.ga K "InvalidNote")) rfl (g_InvalidNote c) rfl) (fun _ z => z) (isB_ok (ex_at3 c.m))) (.cons (pis (q := (a, oe)) (j := 0) List.mem_cons_self (excB_ok (ex_at0 c.m)) hz.zc hf (gb_isinstance c) (pe_glob (v := .ref (He.ga K "InvalidIndex")) rfl (g_InvalidIndex c) rfl) (fun _ z => z) (isB_ok (ex_at4 c.m))) .nil rfl) rfl) rfl) (by decide)) nd)
    (es_cons rfl (ps_setE (rk := 0) (i := 1) rfl (pe_add op_addD (j_peek 1) (pe_iss (io := io0) (W := W0) (.cons (pis (q := (a, oe)) (j := 0) List.mem_cons_self (excB_ok (ex_at0 c.m)) hz.zc hf (gb_isinstance c) (pe_glob (v := .ref (He.ga K "InvalidRack")) rfl (g_InvalidRack c) rfl) (fun _ z => z) (isB_ok (ex_at5 c.m))) (.cons (pis (q := (a, oe)) (j := 0) List.mem_cons_self (excB_ok (ex_at0 c.m)) hz.zc hf (gb_isinstance c) (pe_glob (v := .ref (He.ga K "InvalidHistory")) rfl (g_InvalidHistory c) rfl) (fun _ z => z) (isB_ok (ex_at6 c.m))) (.cons (pis (q := (a, oe)) (j := 0) List.mem_cons_self (excB_ok (ex_at0 c.m)) hz.zc hf (gb_isinstance c) (pe_glob (v := .ref (He.ga K "InvalidNumber")) rfl (g_InvalidNumber c) rfl) (fun _ z => z) (isB_ok (ex_at7 c.m))) .nil rfl) rfl) rfl) (by decide))) nd)
    (es_cons rfl (ps_setE (rk := 0) (i := 1) rfl (pe_add op_addD (j_peek 1) (pe_iss (io := io0) (W := W0) (.cons (pis (q := (a, oe)) (j := 0) List.mem_cons_self (excB_ok (ex_at0 c.m)) hz.zc hf (gb_isinstance c) (pe_glob (v := .ref (He.ga K "InvalidRule")) rfl (g_InvalidRule c) rfl) (fun _ z => z) (isB_ok (ex_at8 c.m))) (.cons (pis (q := (a, oe)) (j := 0) List.mem_cons_self (excB_ok (ex_at0 c.m)) hz.zc hf (gb_isinstance c) (pe_glob (v := .ref (He.ga K "InvalidStrokes")) rfl (g_InvalidStrokes c) rfl) (fun _ z => z) (isB_ok (ex_at9 c.m))) (.cons (pis (q := (a, oe)) (j := 0) List.mem_cons_self (excB_ok (ex_at0 c.m)) hz.zc hf (gb_isinstance c) (pe_glob (v := .ref (He.ga K "InvalidHeard")) rfl (g_InvalidHeard c) rfl) (fun _ z => z) (isB_ok (ex_at10 c.m))) .nil rfl) rfl) rfl) (by decide))) nd)
    (es_cons rfl (ps_setE (rk := 0) (i := 1) rfl (pe_add op_addD (j_peek 1) (pe_iss (io := io0) (W := W0) (.cons (pis (q := (a, oe)) (j := 0) List.mem_cons_self (excB_ok (ex_at0 c.m)) hz.zc hf (gb_isinstance c) (pe_glob (v := .ref (He.ga K "InvalidObserved")) rfl (g_InvalidObserved c) rfl) (fun _ z => z) (isB_ok (ex_at11 c.m))) (.cons (pis (q := (a, oe)) (j := 0) List.mem_cons_self (excB_ok (ex_at0 c.m)) hz.zc hf (gb_isinstance c) (pe_glob (v := .ref (He.ga K "NotPossible")) rfl (g_NotPossible c) rfl) (fun _ z => z) (isB_ok (ex_at12 c.m))) (.cons (pis (q := (a, oe)) (j := 0) List.mem_cons_self (excB_ok (ex_at0 c.m)) hz.zc hf (gb_isinstance c) (pe_glob (v := .ref (He.ga K "TooMany")) rfl (g_TooMany c) rfl) (fun _ z => z) (isB_ok (ex_at13 c.m))) .nil rfl) rfl) rfl) (by decide))) nd)
    (es_cons rfl (ps_setE (rk := 0) (i := 1) rfl (pe_add op_addD (j_peek 1) (pe_iss (io := io0) (W := W0) (.cons (pis (q := (a, oe)) (j := 0) List.mem_cons_self (excB_ok (ex_at0 c.m)) hz.zc hf (gb_isinstance c) (pe_glob (v := .ref (He.ga K "NothingToUndo")) rfl (g_NothingToUndo c) rfl) (fun _ z => z) (isB_ok (ex_at14 c.m))) (.cons (pis (q := (a, oe)) (j := 0) List.mem_cons_self (excB_ok (ex_at0 c.m)) hz.zc hf (gb_isinstance c) (pe_glob (v := .ref (He.ga K "ChainError")) rfl (g_ChainError c) rfl) (fun _ z => z) (isB_ok (ex_at15 c.m))) (.cons (pis (q := (a, oe)) (j := 0) List.mem_cons_self (excB_ok (ex_at0 c.m)) hz.zc hf (gb_isinstance c) (pe_bltn (v := .ty "ValueError") rfl (gb_ValueError c) (by decide +kernel) rfl) (fun _ z => z) (isB_ok (ex_at16 c.m))) .nil rfl) rfl) rfl) (by decide))) nd)
    (JSs.e (js_cons (js_set 2 rfl j_str nd)
    (js_cons (js_lcK 0 3 [("name", 4), ("good", 5)] hot nd (ji_zipK (gb_zip c) (j_split (j_var 2) j_str) (j_peek 1)) (blkOk_by (by kernel_rfl)) (fun _ _ _ _ _ hot => jg_tupK hot (jgs_cons (jg_name 4 rfl nd) (jgs_cons (jg_name 5 rfl nd) jgs_nil))) (fun _ _ _ _ _ => (jts_one (jt_val (j_var 5)))) (fun _ _ _ _ _ => (j_var 4)) (Or.inl rfl) rfl)
    (js_cons (js_ret (j_if (jt_cmp (op_eqD' hu64) (j_slice (j_var 3) (jo_some j_int) jo_none) (j_lst (ja_cons j_str (ja_cons j_str ja_nil)))) (j_ix (ix_K hu16) (j_var 3) j_int) j_str))
    js_nil)))))))))
abbrev N__law_made : List Str := ["box_so", "some", "found", "channel", "key", "note_so"]
def s__law_made : S :=
    (sSeq (sSet 2 1 (mLst aNil))
    (sSeq (sFor (iA (mVar 1)) (gT 2 (gsCons (gN 3) (gsCons (gN 4) gsNil)))
      (sIf (fun ρ => toB (mB dEq (mB dIxK (mVar 0) (mC (.int 0))) (mC (.str "move")) ρ))
        (sExpr (mApp 2 (mTup (aCons (mVar 3) (aCons (mB dAdd (mVar 4) (mB dIxK (mVar 0) (mC (.int 1)))) aNil)))))
        (sIf (fun ρ => toB (mB dEq (mB dIxK (mVar 0) (mC (.int 0))) (mC (.str "route")) ρ))
          (sExpr (mApp 2 (mIf (fun ρ => toB (mB dEq (mVar 3) (mB dIxK (mVar 0) (mC (.int 1))) ρ)) (mTup (aCons (mB dIxK (mVar 0) (mC (.int 2))) (aCons (mVar 4) aNil))) (mTup (aCons (mVar 3) (aCons (mVar 4) aNil))))))
          (sIf (fun ρ => toB (mB dEq (mB dIxK (mVar 0) (mC (.int 0))) (mC (.str "layer")) ρ))
            (sSet 2 1 (mB dAdd (mPeek 2) (mLst (aCons (mTup (aCons (mVar 3) (aCons (mVar 4) aNil))) (aCons (mTup (aCons (mB dIxK (mVar 0) (mC (.int 2))) (aCons (mB dAdd (mVar 4) (mB dIxK (mVar 0) (mC (.int 1)))) aNil))) aNil)))))
            (sIf (tAndM (fun ρ => toB (mB dLe (mB dIxK (mVar 0) (mC (.int 1))) (mVar 4) ρ)) (fun ρ => toB (mB dLe (mVar 4) (mB dIxK (mVar 0) (mC (.int 2))) ρ)))
              (sExpr (mApp 2 (mTup (aCons (mVar 3) (aCons (mVar 4) aNil)))))
              sNil)))))
    (sSeq (sRet (mU dSS2 (mLc [5] (iA (mTake 2)) (gN 5) (tAndM (fun ρ => toB (mB dLe (mC (.int 0)) (mB dIxK (mVar 5) (mC (.int 1))) ρ)) (fun ρ => toB (mB dLe (mB dIxK (mVar 5) (mC (.int 1))) (mC (.int 127)) ρ))) (mVar 5))))
    sNil)))
def F__law_made : List D → R D := runP 6 2 s__law_made
theorem ok__law_made (c : Fx w K mg) : ∃ fd, FnOk prog w K mg base (L2N.CX prog w) 1 (He.ga K "_law_made") fd ["box_so", "some"] (spF ⟨prog, w, K⟩ mg (fcP 2 1 F__law_made)) ∧ Binds K fd ["box_so", "some"] [] ∧ PySem.W.keepIn K (.ref (He.ga K "_law_made")) = true := by
  obtain ⟨fd, F⟩ := c.s.d.def_ 10
  refine ⟨fd, fcP_ok (n := 2) (rk := 1) (N := N__law_made) (s := s__law_made) F (C8.fnScope_by (by decide +kernel)) rfl ?_, F.bindsN fun _ _ _ _ _ _ us hl => match us, hl with | [_, _], _ => rfl, F.kp⟩
  intro cdv A outer s0 H0 E hr
  have hu80 := room80 hr
  have hu64 := room64 hr
  have hu65 := room65 hr
  have hu16 := room16 hr
  have nd : N__law_made.Nodup := by decide +kernel
  have tk := L2N.takes_of (X := cxOf (L2N.CX prog w) prog w K mg base N__law_made "_law_made" (defScope t__law_made) (He.ga K "_law_made") cdv A outer s0 H0 E) (E := E) rfl rfl rfl rfl
  exact
    (js_cons (js_setN 2 rfl (j_lst ja_nil) nd)
    (js_cons (js_for (passes_of rfl) rfl (ji_any (j_var 1)) (jg_tup rfl (jgs_cons (jg_name 3 rfl nd) (jgs_cons (jg_name 4 rfl nd) jgs_nil)))
      (js_one (js_if (jt_cmp (op_eqD' hu64) (j_ix (ix_K hu16) (j_var 0) j_int) j_str)
        (js_one (js_expr (j_append 2 (j_tup (ja_cons (j_var 3) (ja_cons (J.frz (j_bin op_addD (j_var 4) (j_ix (ix_K hu16) (j_var 0) j_int))) ja_nil))))))
        (js_one (js_if (jt_cmp (op_eqD' hu64) (j_ix (ix_K hu16) (j_var 0) j_int) j_str)
          (js_one (js_expr (j_append 2 (j_if (jt_cmp (op_eqD' hu64) (j_var 3) (j_ix (ix_K hu16) (j_var 0) j_int)) (j_tup (ja_cons (j_ix (ix_K hu16) (j_var 0) j_int) (ja_cons (j_var 4) ja_nil))) (j_tup (ja_cons (j_var 3) (ja_cons (j_var 4) ja_nil)))))))
          (js_one (js_if (jt_cmp (op_eqD' hu64) (j_ix (ix_K hu16) (j_var 0) j_int) j_str)
            (js_one (js_setN 2 rfl (j_bin op_addD (j_peek 2) (j_lst (ja_cons (j_tup (ja_cons (j_var 3) (ja_cons (j_var 4) ja_nil))) (ja_cons (j_tup (ja_cons (j_ix (ix_K hu16) (j_var 0) j_int) (ja_cons (J.frz (j_bin op_addD (j_var 4) (j_ix (ix_K hu16) (j_var 0) j_int))) ja_nil))) ja_nil)))) nd))
            (js_one (js_if (JW.t (jw_and (jt_cmp op_leD (j_ix (ix_K hu16) (j_var 0) j_int) (j_var 4)) (jw_and1 (jt_cmp op_leD (j_var 4) (j_ix (ix_K hu16) (j_var 0) j_int)))))
              (js_one (js_expr (j_append 2 (j_tup (ja_cons (j_var 3) (ja_cons (j_var 4) ja_nil))))))
              js_nil)))))))))
    (js_cons (js_retNew (j_ss2 rfl hu80 (gb_sorted c) (gb_set c) (j_lc [("note_so", 5)] rfl nd (ji_any (j_take 2)) (blkOk_by (by kernel_rfl)) (fun _ _ _ _ _ => (jg_name 5 rfl nd)) (fun _ _ _ _ _ => (jts_one (JW.t (jw_and (jt_cmp op_leD j_int (j_ix (ix_K hu16) (j_var 5) j_int)) (jw_and1 (jt_cmp op_leD (j_ix (ix_K hu16) (j_var 5) j_int) j_int)))))) (fun _ _ _ _ _ => (j_var 5)))))
    js_nil)))
abbrev N__law_fits : List Str := ["observed_so", "n", "low", "high", "note_so", "told", "there"]
def s__law_fits : S :=
    (sSeq (sFor (iA (mVar 0)) (gT 2 (gsCons (gN 4) (gsCons (gN 5) gsNil)))
      (sSeq (sSet 6 0 (mAnd (mB dLe (mVar 2) (mB dIxK (mVar 4) (mC (.int 1)))) (mAnd (mB dLe (mB dIxK (mVar 4) (mC (.int 1))) (mVar 3)) (mAnd (mB dLe (mC (.int 0)) (mB dAdd (mB dIxK (mVar 4) (mC (.int 1))) (mVar 1))) (mB dLe (mB dAdd (mB dIxK (mVar 4) (mC (.int 1))) (mVar 1)) (mC (.int 127)))))))
      (sSeq (sIf (fun ρ => toB (mB dNe (mVar 5) (mIf (fun ρ => toB ((mVar 6) ρ)) (mTup (aCons (mTup (aCons (mB dIxK (mVar 4) (mC (.int 0))) (aCons (mB dAdd (mB dIxK (mVar 4) (mC (.int 1))) (mVar 1)) aNil))) aNil)) (mTup aNil)) ρ))
        (sRet (mC (.bool false)))
        sNil)
      sNil)))
    (sSeq (sRet (mC (.bool true)))
    sNil))
def F__law_fits : List D → R D := runP 7 4 s__law_fits
theorem ok__law_fits (c : Fx w K mg) : ∃ fd, FnOk prog w K mg base (L2N.CX prog w) 1 (He.ga K "_law_fits") fd ["observed_so", "n", "low", "high"] (spF ⟨prog, w, K⟩ mg (fcP 4 0 F__law_fits)) ∧ Binds K fd ["observed_so", "n", "low", "high"] [] ∧ PySem.W.keepIn K (.ref (He.ga K "_law_fits")) = true := by
  obtain ⟨fd, F⟩ := c.s.d.def_ 12
  refine ⟨fd, fcP_ok (n := 4) (rk := 0) (N := N__law_fits) (s := s__law_fits) F (C8.fnScope_by (by decide +kernel)) rfl ?_, F.bindsN fun _ _ _ _ _ _ us hl => match us, hl with | [_, _, _, _], _ => rfl, F.kp⟩
  intro cdv A outer s0 H0 E hr
  have hu80 := room80 hr
  have hu64 := room64 hr
  have hu65 := room65 hr
  have hu16 := room16 hr
  have nd : N__law_fits.Nodup := by decide +kernel
  have tk := L2N.takes_of (X := cxOf (L2N.CX prog w) prog w K mg base N__law_fits "_law_fits" (defScope t__law_fits) (He.ga K "_law_fits") cdv A outer s0 H0 E) (E := E) rfl rfl rfl rfl
  exact
    (js_cons (js_for (passes_of rfl) rfl (ji_any (j_var 0)) (jg_tup rfl (jgs_cons (jg_name 4 rfl nd) (jgs_cons (jg_name 5 rfl nd) jgs_nil)))
      (js_cons (js_set 6 rfl (j_and (j_cmp op_leD (j_var 2) (j_ix (ix_K hu16) (j_var 4) j_int)) (j_and (j_cmp op_leD (j_ix (ix_K hu16) (j_var 4) j_int) (j_var 3)) (j_and (j_cmp op_leD j_int (j_bin op_addD (j_ix (ix_K hu16) (j_var 4) j_int) (j_var 1))) (j_one (J.frz (j_cmp op_leD (j_bin op_addD (j_ix (ix_K hu16) (j_var 4) j_int) (j_var 1)) j_int)))))) nd)
      (js_cons (js_if (jt_cmp (op_neD' hu64) (j_var 5) (j_if (jt_val (j_var 6)) (j_tup (ja_cons (j_tup (ja_cons (j_ix (ix_K hu16) (j_var 4) j_int) (ja_cons (J.frz (j_bin op_addD (j_ix (ix_K hu16) (j_var 4) j_int) (j_var 1))) ja_nil))) ja_nil)) (j_tup ja_nil)))
        (js_one (js_ret j_bool))
        js_nil)
      js_nil)))
    (js_cons (js_ret j_bool)
    js_nil))
abbrev N_is_note : List Str := ["value"]
def s_is_note : S :=
    (sSeq (sIf (tOrM (tNotM (fun ρ => toB ((mU (dIsI .tuple) (mVar 0)) ρ))) (fun ρ => toB (mB dNe (mU dLen (mVar 0)) (mC (.int 2)) ρ)))
      (sRet (mC (.bool false)))
      sNil)
    (sSeq (sRet (mAnd (mCallP 3 F_is_integer (aCons (mB dIxK (mVar 0) (mC (.int 0))) (aCons (mC (.int 0)) (aCons (mB dSub (mC (.int 4)) (mC (.int 1))) aNil)))) (mCallP 3 F_is_integer (aCons (mB dIxK (mVar 0) (mC (.int 1))) (aCons (mC (.int 0)) (aCons (mB dSub (mC (.int 128)) (mC (.int 1))) aNil))))))
    sNil))
def F_is_note : List D → R D := runP 1 1 s_is_note
theorem ok_is_note (c : Fx w K mg) : ∃ fd, FnOk prog w K mg base (L2N.CX prog w) 2 (He.ga K "is_note") fd ["value"] (spF ⟨prog, w, K⟩ mg (fcP 1 0 F_is_note)) ∧ Binds K fd ["value"] [] ∧ PySem.W.keepIn K (.ref (He.ga K "is_note")) = true := by
  obtain ⟨fd, F⟩ := c.s.d.def_ 1
  obtain ⟨fd_is_integer, ok_is_integer, b_is_integer, k_is_integer⟩ := ok_is_integer c (base := base)
  refine ⟨fd, fcP_ok (n := 1) (rk := 0) (N := N_is_note) (s := s_is_note) F (C8.fnScope_by (by decide +kernel)) rfl ?_, F.bindsN fun _ _ _ _ _ _ us hl => match us, hl with | [_], _ => rfl, F.kp⟩
  intro cdv A outer s0 H0 E hr
  have hu80 := room80 hr
  have hu64 := room64 hr
  have hu65 := room65 hr
  have hu16 := room16 hr
  have nd : N_is_note.Nodup := by decide +kernel
  have tk := L2N.takes_of (X := cxOf (L2N.CX prog w) prog w K mg base N_is_note "is_note" (defScope t_is_note) (He.ga K "is_note") cdv A outer s0 H0 E) (E := E) rfl rfl rfl rfl
  exact
    (js_cons (js_if (JW.t (jw_or (jt_not (jt_val (j_isi .tuple (gb_isinstance c) (gb_tuple c) (by decide +kernel) (j_var 0)))) (jw_or1 (jt_cmp (op_neD' hu64) (j_callB call_lenD (gb_len c) (by decide +kernel) (j_var 0)) j_int))))
      (js_one (js_ret j_bool))
      js_nil)
    (js_cons (js_ret (j_and (j_callP ok_is_integer (hr.mono (by decide)) (g_is_integer c) k_is_integer b_is_integer tk (ja_cons (j_ix (ix_K hu16) (j_var 0) j_int) (ja_cons j_int (ja_cons (J.frz (j_bin op_subD (j_gint (gi_CHANNELS c)) j_int)) ja_nil)))) (j_one (J.n0 (j_callP ok_is_integer (hr.mono (by decide)) (g_is_integer c) k_is_integer b_is_integer tk (ja_cons (j_ix (ix_K hu16) (j_var 0) j_int) (ja_cons j_int (ja_cons (J.frz (j_bin op_subD (j_gint (gi_KEYS c)) j_int)) ja_nil))))))))
    js_nil))
abbrev N__law_sounds : List Str := ["patch_so", "note_so", "some", "box_so"]
def s__law_sounds : S :=
    (sSeq (sSet 2 0 (mLst (aCons (mVar 1) aNil)))
    (sSeq (sFor (iA (mVar 0)) (gN 3)
      (sSet 2 0 (mCallP 2 F__law_made (aCons (mVar 3) (aCons (mVar 2) aNil)))))
    (sSeq (sRet (mU dTuple (mVar 2)))
    sNil)))
def F__law_sounds : List D → R D := runP 4 2 s__law_sounds
theorem ok__law_sounds (c : Fx w K mg) : ∃ fd, FnOk prog w K mg base (L2N.CX prog w) 2 (He.ga K "_law_sounds") fd ["patch_so", "note_so"] (spF ⟨prog, w, K⟩ mg (fcP 2 0 F__law_sounds)) ∧ Binds K fd ["patch_so", "note_so"] [] ∧ PySem.W.keepIn K (.ref (He.ga K "_law_sounds")) = true := by
  obtain ⟨fd, F⟩ := c.s.d.def_ 11
  obtain ⟨fd__law_made, ok__law_made, b__law_made, k__law_made⟩ := ok__law_made c (base := base)
  refine ⟨fd, fcP_ok (n := 2) (rk := 0) (N := N__law_sounds) (s := s__law_sounds) F (C8.fnScope_by (by decide +kernel)) rfl ?_, F.bindsN fun _ _ _ _ _ _ us hl => match us, hl with | [_, _], _ => rfl, F.kp⟩
  intro cdv A outer s0 H0 E hr
  have hu80 := room80 hr
  have hu64 := room64 hr
  have hu65 := room65 hr
  have hu16 := room16 hr
  have nd : N__law_sounds.Nodup := by decide +kernel
  have tk := L2N.takes_of (X := cxOf (L2N.CX prog w) prog w K mg base N__law_sounds "_law_sounds" (defScope t__law_sounds) (He.ga K "_law_sounds") cdv A outer s0 H0 E) (E := E) rfl rfl rfl rfl
  exact
    (js_cons (js_set 2 rfl (J.frz (j_lst (ja_cons (j_var 1) ja_nil))) nd)
    (js_cons (js_for (passes_of rfl) rfl (ji_any (j_var 0)) (jg_name 3 rfl nd)
      (js_one (js_set 2 rfl (J.frz (j_callP ok__law_made (hr.mono (by decide)) (g__law_made c) k__law_made b__law_made tk (ja_cons (j_var 3) (ja_cons (j_var 2) ja_nil)))) nd)))
    (js_cons (js_ret (J.frz (j_callTy call_tupleD (gb_tuple c) (by decide +kernel) (j_var 2))))
    js_nil)))
abbrev N__law_told : List Str := ["observed_so", "found", "shifts_so", "note_so", "told", "one", "n", "lows_so", "highs_so", "low", "high"]
def s__law_told : S :=
    (sSeq (sSet 1 1 (mLst aNil))
    (sSeq (sSet 2 0 (mLst aNil))
    (sSeq (sFor (iA (mVar 0)) (gT 2 (gsCons (gN 3) (gsCons (gN 4) gsNil)))
      (sSet 2 0 (mB dAdd (mVar 2) (mLc [5] (iA (mVar 4)) (gN 5) tTrue (mB dSub (mB dIxK (mVar 5) (mC (.int 1))) (mB dIxK (mVar 3) (mC (.int 1))))))))
    (sSeq (sSet 2 0 (mU dSSI (mVar 2)))
    (sSeq (sFor (iA (mVar 2)) (gN 6)
      (sSeq (sPar 7 1 8 1 (mLst aNil) (mLst aNil))
      (sSeq (sFor (iR1 (mC (.int 128))) (gN 9)
        (sFor (iR2 (mVar 9) (mC (.int 128))) (gN 10)
          (sIf (fun ρ => toB ((mCallP 4 F__law_fits (aCons (mVar 0) (aCons (mVar 6) (aCons (mVar 9) (aCons (mVar 10) aNil))))) ρ))
            (sSeq (sExpr (mApp 7 (mVar 9)))
            (sSeq (sExpr (mApp 8 (mVar 10)))
            sNil))
            sNil)))
      (sSeq (sIf (fun ρ => toB (mB dNe (mPeek 7) (mLst aNil) ρ))
        (sExpr (mApp 1 (mTup (aCons (mVar 6) (aCons (mTup (aCons (mU dMinL (mPeek 7)) (aCons (mU dMaxL (mPeek 7)) aNil))) (aCons (mTup (aCons (mU dMinL (mPeek 8)) (aCons (mU dMaxL (mPeek 8)) aNil))) aNil))))))
        sNil)
      sNil))))
    (sSeq (sRetO 1 1)
    sNil))))))
def F__law_told : List D → R D := runP 11 1 s__law_told
theorem ok__law_told (c : Fx w K mg) : ∃ fd, FnOk prog w K mg base (L2N.CX prog w) 2 (He.ga K "_law_told") fd ["observed_so"] (spF ⟨prog, w, K⟩ mg (fcP 1 1 F__law_told)) ∧ Binds K fd ["observed_so"] [] ∧ PySem.W.keepIn K (.ref (He.ga K "_law_told")) = true := by
  obtain ⟨fd, F⟩ := c.s.d.def_ 13
  obtain ⟨fd__law_fits, ok__law_fits, b__law_fits, k__law_fits⟩ := ok__law_fits c (base := base)
  refine ⟨fd, fcP_ok (n := 1) (rk := 1) (N := N__law_told) (s := s__law_told) F (C8.fnScope_by (by decide +kernel)) rfl ?_, F.bindsN fun _ _ _ _ _ _ us hl => match us, hl with | [_], _ => rfl, F.kp⟩
  intro cdv A outer s0 H0 E hr
  have hu80 := room80 hr
  have hu64 := room64 hr
  have hu65 := room65 hr
  have hu16 := room16 hr
  have nd : N__law_told.Nodup := by decide +kernel
  have tk := L2N.takes_of (X := cxOf (L2N.CX prog w) prog w K mg base N__law_told "_law_told" (defScope t__law_told) (He.ga K "_law_told") cdv A outer s0 H0 E) (E := E) rfl rfl rfl rfl
  exact
    (js_cons (js_setN 1 rfl (j_lst ja_nil) nd)
    (js_cons (js_set 2 rfl (J.frz (j_lst ja_nil)) nd)
    (js_cons (js_for (passes_of rfl) rfl (ji_any (j_var 0)) (jg_tup rfl (jgs_cons (jg_name 3 rfl nd) (jgs_cons (jg_name 4 rfl nd) jgs_nil)))
      (js_one (js_set 2 rfl (J.frz (j_bin op_addD (j_var 2) (j_lc [("one", 5)] rfl nd (ji_any (j_var 4)) (blkOk_by (by kernel_rfl)) (fun _ _ _ _ _ => (jg_name 5 rfl nd)) (fun _ _ _ _ _ => jts_nil) (fun _ _ _ _ _ => (J.frz (j_bin op_subD (j_ix (ix_K hu16) (j_var 5) j_int) (j_ix (ix_K hu16) (j_var 3) j_int))))))) nd)))
    (js_cons (js_set 2 rfl (J.frz (j_ssI rfl (gb_sorted c) (gb_set c) (j_var 2))) nd)
    (js_cons (js_for (passes_of rfl) rfl (ji_any (j_var 2)) (jg_name 6 rfl nd)
      (js_cons (js_par 7 8 rfl rfl rfl (by decide) (j_lst ja_nil) (j_lst ja_nil) nd)
      (js_cons (js_for (passes_of rfl) rfl (ji_range1 (gb_range c) j_int) (jg_name 9 rfl nd)
        (js_one (js_for (passes_of rfl) rfl (ji_range2 (gb_range c) (j_var 9) j_int) (jg_name 10 rfl nd)
          (js_one (js_if (jt_val (j_callP ok__law_fits (hr.mono (by decide)) (g__law_fits c) k__law_fits b__law_fits tk (ja_cons (j_var 0) (ja_cons (j_var 6) (ja_cons (j_var 9) (ja_cons (j_var 10) ja_nil))))))
            (js_cons (js_expr (j_append 7 (j_var 9)))
            (js_cons (js_expr (j_append 8 (j_var 10)))
            js_nil))
            js_nil)))))
      (js_cons (js_if (jt_cmp (op_neD' hu64) (j_peek 7) (j_lst ja_nil))
        (js_one (js_expr (j_append 1 (j_tup (ja_cons (j_var 6) (ja_cons (j_tup (ja_cons (j_callBf (call_minL rfl hu80) (gb_min c) (by decide +kernel) (j_peek 7)) (ja_cons (j_callBf (call_maxL rfl hu80) (gb_max c) (by decide +kernel) (j_peek 7)) ja_nil))) (ja_cons (j_tup (ja_cons (j_callBf (call_minL rfl hu80) (gb_min c) (by decide +kernel) (j_peek 8)) (ja_cons (j_callBf (call_maxL rfl hu80) (gb_max c) (by decide +kernel) (j_peek 8)) ja_nil))) ja_nil)))))))
        js_nil)
      js_nil))))
    (js_cons (js_retO 1 rfl)
    js_nil))))))
abbrev N_is_row : List Str := ["value", "note", "one", "other"]
def s_is_row : S :=
    (sSeq (sIf (tOrM (tNotM (fun ρ => toB ((mU (dIsI .tuple) (mVar 0)) ρ))) (tOrM (fun ρ => toB (mB dNe (mU dLen (mVar 0)) (mC (.int 2)) ρ)) (tOrM (tNotM (fun ρ => toB ((mCallP 1 F_is_note (aCons (mB dIxK (mVar 0) (mC (.int 0))) aNil)) ρ))) (tNotM (fun ρ => toB ((mU (dIsI .tuple) (mB dIxK (mVar 0) (mC (.int 1)))) ρ))))))
      (sRet (mC (.bool false)))
      sNil)
    (sSeq (sIf (tNotM (fun ρ => toB ((mU dAll (mLc [1] (iA (mB dIxK (mVar 0) (mC (.int 1)))) (gN 1) tTrue (mCallP 1 F_is_note (aCons (mVar 1) aNil)))) ρ)))
      (sRet (mC (.bool false)))
      sNil)
    (sSeq (sRet (mU dAll (mLc [2, 3] (iZpT (mB dIxK (mVar 0) (mC (.int 1))) (mSl (mB dIxK (mVar 0) (mC (.int 1))) (oSome (mC (.int 1))) oNone)) (gT 2 (gsCons (gN 2) (gsCons (gN 3) gsNil))) tTrue (mB dLt2 (mVar 2) (mVar 3)))))
    sNil)))
def F_is_row : List D → R D := runP 4 1 s_is_row
theorem ok_is_row (c : Fx w K mg) : ∃ fd, FnOk prog w K mg base (L2N.CX prog w) 3 (He.ga K "is_row") fd ["value"] (spF ⟨prog, w, K⟩ mg (fcP 1 0 F_is_row)) ∧ Binds K fd ["value"] [] ∧ PySem.W.keepIn K (.ref (He.ga K "is_row")) = true := by
  obtain ⟨fd, F⟩ := c.s.d.def_ 2
  obtain ⟨fd_is_note, ok_is_note, b_is_note, k_is_note⟩ := ok_is_note c (base := base)
  refine ⟨fd, fcP_ok (n := 1) (rk := 0) (N := N_is_row) (s := s_is_row) F (C8.fnScope_by (by decide +kernel)) rfl ?_, F.bindsN fun _ _ _ _ _ _ us hl => match us, hl with | [_], _ => rfl, F.kp⟩
  intro cdv A outer s0 H0 E hr
  have hu80 := room80 hr
  have hu64 := room64 hr
  have hu65 := room65 hr
  have hu16 := room16 hr
  have nd : N_is_row.Nodup := by decide +kernel
  have tk := L2N.takes_of (X := cxOf (L2N.CX prog w) prog w K mg base N_is_row "is_row" (defScope t_is_row) (He.ga K "is_row") cdv A outer s0 H0 E) (E := E) rfl rfl rfl rfl
  exact
    (js_cons (js_if (JW.t (jw_or (jt_not (jt_val (j_isi .tuple (gb_isinstance c) (gb_tuple c) (by decide +kernel) (j_var 0)))) (jw_or (jt_cmp (op_neD' hu64) (j_callB call_lenD (gb_len c) (by decide +kernel) (j_var 0)) j_int) (jw_or (jt_not (jt_val (j_callP ok_is_note (hr.mono (by decide)) (g_is_note c) k_is_note b_is_note tk (ja_cons (j_ix (ix_K hu16) (j_var 0) j_int) ja_nil)))) (jw_or1 (jt_not (jt_val (j_isi .tuple (gb_isinstance c) (gb_tuple c) (by decide +kernel) (j_ix (ix_K hu16) (j_var 0) j_int)))))))))
      (js_one (js_ret j_bool))
      js_nil)
    (js_cons (js_if (jt_not (jt_val (j_callB (call_allD rfl) (gb_all c) (by decide +kernel) (j_lc [("note", 1)] rfl nd (ji_any (j_ix (ix_K hu16) (j_var 0) j_int)) (blkOk_by (by kernel_rfl)) (fun _ _ _ _ _ => (jg_name 1 rfl nd)) (fun _ _ _ _ _ => jts_nil) (fun _ _ _ _ _ => (J.n0 (j_callP ok_is_note (hr.mono (by decide)) (g_is_note c) k_is_note b_is_note takes0N (ja_cons (j_var 1) ja_nil))))))))
      (js_one (js_ret j_bool))
      js_nil)
    (js_cons (js_ret (J.frz (j_callB (call_allD rfl) (gb_all c) (by decide +kernel) (j_lcX [("one", 2), ("other", 3)] rfl nd (jie_zip (gb_zip c) (j_ix (ix_K hu16) (j_var 0) j_int) (j_slice (j_ix (ix_K hu16) (j_var 0) j_int) (jo_some j_int) jo_none)) (blkOk_by (by kernel_rfl)) (fun _ _ _ _ _ => (jg_tup rfl (jgs_cons (jg_name 2 rfl nd) (jgs_cons (jg_name 3 rfl nd) jgs_nil)))) (fun _ _ _ _ _ => jts_nil) (fun _ _ _ _ _ => (J.frz (j_cmp (op_ltD2 hu64) (j_var 2) (j_var 3))))))))
    js_nil)))
abbrev N_require_observed : List Str := ["value", "row"]
def s_require_observed : S :=
    (sSeq (sIf (tOrM (tNotM (fun ρ => toB ((mU (dIsI .tuple) (mVar 0)) ρ))) (tNotM (fun ρ => toB (mCh dLe dLe (mC (.int 1)) (mU dLen (mVar 0)) (mC (.int 10)) ρ))))
      (sRaise "InvalidObserved")
      sNil)
    (sSeq (sIf (tOrM (tNotM (fun ρ => toB ((mU dAll (mLc [1] (iA (mVar 0)) (gN 1) tTrue (mCallP 1 F_is_row (aCons (mVar 1) aNil)))) ρ))) (tNotM (fun ρ => toB ((mU dAny (mLc [1] (iA (mVar 0)) (gN 1) tTrue (mB dNe (mB dIxK (mVar 1) (mC (.int 1))) (mTup aNil)))) ρ))))
      (sRaise "InvalidObserved")
      sNil)
    sNil))
def F_require_observed : List D → R D := runP 2 1 s_require_observed
theorem ok_require_observed (c : Fx w K mg) : ∃ fd, FnOk prog w K mg base (L2N.CX prog w) 4 (He.ga K "require_observed") fd ["value"] (spF ⟨prog, w, K⟩ mg (fcP 1 0 F_require_observed)) ∧ Binds K fd ["value"] [] ∧ PySem.W.keepIn K (.ref (He.ga K "require_observed")) = true := by
  obtain ⟨fd, F⟩ := c.s.d.def_ 3
  obtain ⟨fd_is_row, ok_is_row, b_is_row, k_is_row⟩ := ok_is_row c (base := base)
  refine ⟨fd, fcP_ok (n := 1) (rk := 0) (N := N_require_observed) (s := s_require_observed) F (C8.fnScope_by (by decide +kernel)) rfl ?_, F.bindsN fun _ _ _ _ _ _ us hl => match us, hl with | [_], _ => rfl, F.kp⟩
  intro cdv A outer s0 H0 E hr
  have hu80 := room80 hr
  have hu64 := room64 hr
  have hu65 := room65 hr
  have hu16 := room16 hr
  have nd : N_require_observed.Nodup := by decide +kernel
  have tk := L2N.takes_of (X := cxOf (L2N.CX prog w) prog w K mg base N_require_observed "require_observed" (defScope t_require_observed) (He.ga K "require_observed") cdv A outer s0 H0 E) (E := E) rfl rfl rfl rfl
  exact
    (js_cons (js_if (JW.t (jw_or (jt_not (jt_val (j_isi .tuple (gb_isinstance c) (gb_tuple c) (by decide +kernel) (j_var 0)))) (jw_or1 (jt_not (jt_chain op_leD op_leD j_int (j_callB call_lenD (gb_len c) (by decide +kernel) (j_var 0)) (j_gint (gi_MAX_OBSERVED c)))))))
      (js_one (js_raise rfl tk (g_InvalidObserved c) (mk_InvalidObserved c rfl)))
      js_nil)
    (js_cons (js_if (JW.t (jw_or (jt_not (jt_val (j_callB (call_allD rfl) (gb_all c) (by decide +kernel) (j_lc [("row", 1)] rfl nd (ji_any (j_var 0)) (blkOk_by (by kernel_rfl)) (fun _ _ _ _ _ => (jg_name 1 rfl nd)) (fun _ _ _ _ _ => jts_nil) (fun _ _ _ _ _ => (J.n0 (j_callP ok_is_row (hr.mono (by decide)) (g_is_row c) k_is_row b_is_row takes0N (ja_cons (j_var 1) ja_nil)))))))) (jw_or1 (jt_not (jt_val (j_callB (call_anyD rfl) (gb_any c) (by decide +kernel) (j_lc [("row", 1)] rfl nd (ji_any (j_var 0)) (blkOk_by (by kernel_rfl)) (fun _ _ _ _ _ => (jg_name 1 rfl nd)) (fun _ _ _ _ _ => jts_nil) (fun _ _ _ _ _ => (J.frz (j_cmp (op_neD' hu64) (j_ix (ix_K hu16) (j_var 1) j_int) (j_tup ja_nil)))))))))))
      (js_one (js_raise rfl tk (g_InvalidObserved c) (mk_InvalidObserved c rfl)))
      js_nil)
    js_nil))
abbrev N_moves_told : List Str := ["observed"]
def s_moves_told : S :=
    (sSeq (sExpr (mCallP 1 F_require_observed (aCons (mVar 0) aNil)))
    (sSeq (sRet (mCallP 1 F_moves_of (aCons (mVar 0) aNil)))
    sNil))
def F_moves_told : List D → R D := runP 1 1 s_moves_told
theorem ok_moves_told (c : Fx w K mg) : ∃ fd, FnOk prog w K mg base (L2N.CX prog w) 5 (He.ga K "moves_told") fd ["observed"] (spF ⟨prog, w, K⟩ mg (fcP 1 0 F_moves_told)) ∧ Binds K fd ["observed"] [] ∧ PySem.W.keepIn K (.ref (He.ga K "moves_told")) = true := by
  obtain ⟨fd, F⟩ := c.s.d.def_ 5
  obtain ⟨fd_require_observed, ok_require_observed, b_require_observed, k_require_observed⟩ := ok_require_observed c (base := base)
  obtain ⟨fd_moves_of, ok_moves_of, b_moves_of, k_moves_of⟩ := ok_moves_of c (base := base)
  refine ⟨fd, fcP_ok (n := 1) (rk := 0) (N := N_moves_told) (s := s_moves_told) F (C8.fnScope_by (by decide +kernel)) rfl ?_, F.bindsN fun _ _ _ _ _ _ us hl => match us, hl with | [_], _ => rfl, F.kp⟩
  intro cdv A outer s0 H0 E hr
  have hu80 := room80 hr
  have hu64 := room64 hr
  have hu65 := room65 hr
  have hu16 := room16 hr
  have nd : N_moves_told.Nodup := by decide +kernel
  have tk := L2N.takes_of (X := cxOf (L2N.CX prog w) prog w K mg base N_moves_told "moves_told" (defScope t_moves_told) (He.ga K "moves_told") cdv A outer s0 H0 E) (E := E) rfl rfl rfl rfl
  exact
    (js_cons (js_expr (j_callP ok_require_observed (hr.mono (by decide)) (g_require_observed c) k_require_observed b_require_observed tk (ja_cons (j_var 0) ja_nil)))
    (js_cons (js_ret (J.frz (j_callP ok_moves_of (hr.mono (by decide)) (g_moves_of c) k_moves_of b_moves_of tk (ja_cons (j_var 0) ja_nil))))
    js_nil))
abbrev N_patch_told : List Str := ["observed", "found", "shift", "lows", "highs"]
def s_patch_told : S :=
    (sSeq (sExpr (mCallP 1 F_require_observed (aCons (mVar 0) aNil)))
    (sSeq (sSet 1 0 (mCallP 1 F_moves_of (aCons (mVar 0) aNil)))
    (sSeq (sIf (fun ρ => toB (mB dEq (mVar 1) (mLst aNil) ρ))
      (sRet (mC .none))
      sNil)
    (sSeq (sAsg (gT 3 (gsCons (gN 2) (gsCons (gN 3) (gsCons (gN 4) gsNil)))) (mB dIxK (mVar 1) (mC (.int 0))))
    (sSeq (sRet (mTup (aCons (mTup (aCons (mC (.str "range")) (aCons (mB dIxK (mVar 3) (mC (.int 0))) (aCons (mB dIxK (mVar 4) (mC (.int 0))) aNil)))) (aCons (mTup (aCons (mC (.str "move")) (aCons (mVar 2) aNil))) aNil))))
    sNil)))))
def F_patch_told : List D → R D := runP 5 1 s_patch_told
theorem ok_patch_told (c : Fx w K mg) : ∃ fd, FnOk prog w K mg base (L2N.CX prog w) 5 (He.ga K "patch_told") fd ["observed"] (spF ⟨prog, w, K⟩ mg (fcP 1 0 F_patch_told)) ∧ Binds K fd ["observed"] [] ∧ PySem.W.keepIn K (.ref (He.ga K "patch_told")) = true := by
  obtain ⟨fd, F⟩ := c.s.d.def_ 6
  obtain ⟨fd_require_observed, ok_require_observed, b_require_observed, k_require_observed⟩ := ok_require_observed c (base := base)
  obtain ⟨fd_moves_of, ok_moves_of, b_moves_of, k_moves_of⟩ := ok_moves_of c (base := base)
  refine ⟨fd, fcP_ok (n := 1) (rk := 0) (N := N_patch_told) (s := s_patch_told) F (C8.fnScope_by (by decide +kernel)) rfl ?_, F.bindsN fun _ _ _ _ _ _ us hl => match us, hl with | [_], _ => rfl, F.kp⟩
  intro cdv A outer s0 H0 E hr
  have hu80 := room80 hr
  have hu64 := room64 hr
  have hu65 := room65 hr
  have hu16 := room16 hr
  have nd : N_patch_told.Nodup := by decide +kernel
  have tk := L2N.takes_of (X := cxOf (L2N.CX prog w) prog w K mg base N_patch_told "patch_told" (defScope t_patch_told) (He.ga K "patch_told") cdv A outer s0 H0 E) (E := E) rfl rfl rfl rfl
  exact
    (js_cons (js_expr (j_callP ok_require_observed (hr.mono (by decide)) (g_require_observed c) k_require_observed b_require_observed tk (ja_cons (j_var 0) ja_nil)))
    (js_cons (js_set 1 rfl (J.frz (j_callP ok_moves_of (hr.mono (by decide)) (g_moves_of c) k_moves_of b_moves_of tk (ja_cons (j_var 0) ja_nil))) nd)
    (js_cons (js_if (jt_cmp (op_eqD' hu64) (j_var 1) (j_lst ja_nil))
      (js_one (js_ret j_none))
      js_nil)
    (js_cons (js_asg (j_ix (ix_K hu16) (j_var 1) j_int) (jg_tup rfl (jgs_cons (jg_name 2 rfl nd) (jgs_cons (jg_name 3 rfl nd) (jgs_cons (jg_name 4 rfl nd) jgs_nil)))))
    (js_cons (js_ret (j_tup (ja_cons (j_tup (ja_cons j_str (ja_cons (j_ix (ix_K hu16) (j_var 3) j_int) (ja_cons (j_ix (ix_K hu16) (j_var 4) j_int) ja_nil)))) (ja_cons (j_tup (ja_cons j_str (ja_cons (j_var 2) ja_nil))) ja_nil))))
    js_nil)))))
abbrev N__law_outcome : List Str := ["call", "value", "e"]
def h__law_outcome : Str → Option Str := fun y => if y == "InvalidObserved" then some "observed" else none
theorem h_some {y z : Str} (h : h__law_outcome y = some z) : y = "InvalidObserved" ∧ z = "observed" := by
  unfold h__law_outcome at h
  split at h
  · rename_i e
    exact ⟨eq_of_beq e, (Option.some.inj h).symm⟩
  · cases h
def s__law_outcome : S :=
    (sSeq (sTry 2 (sExpr (mSel F_moves_told F_patch_told (mVar 0) (mVar 1))) h__law_outcome)
    (sSeq (sRet (mC (.str "fine")))
    sNil))
def F__law_outcome : List D → R D := runP 3 2 s__law_outcome
theorem ok__law_outcome (c : Fx w K mg) : ∃ fd, FnOk prog w K mg base (L2N.CX prog w) 6 (He.ga K "_law_outcome") fd ["call", "value"] (spF ⟨prog, w, K⟩ mg (fcP 2 0 F__law_outcome)) ∧ Binds K fd ["call", "value"] [] ∧ PySem.W.keepIn K (.ref (He.ga K "_law_outcome")) = true := by
  obtain ⟨fd, F⟩ := c.s.d.def_ 14
  obtain ⟨fd_moves_told, ok_moves_told, b_moves_told, k_moves_told⟩ := ok_moves_told c (base := base)
  obtain ⟨fd_patch_told, ok_patch_told, b_patch_told, k_patch_told⟩ := ok_patch_told c (base := base)
  obtain ⟨fd_E, ok_E, b_E, k_E⟩ := ok__law_error_name c (base := base)
  refine ⟨fd, fcP_ok (n := 2) (rk := 0) (N := N__law_outcome) (s := s__law_outcome) F (C8.fnScope_by (by decide +kernel)) rfl ?_, F.bindsN fun _ _ _ _ _ _ us hl => match us, hl with | [_, _], _ => rfl, F.kp⟩
  intro cdv A outer s0 H0 E hr
  have nd : N__law_outcome.Nodup := by decide +kernel
  have tk := L2N.takes_of (X := cxOf (L2N.CX prog w) prog w K mg base N__law_outcome "_law_outcome" (defScope t__law_outcome) (He.ga K "_law_outcome") cdv A outer s0 H0 E) (E := E) rfl rfl rfl rfl
  refine js_cons (js_try 2 (h := h__law_outcome) (ca := .ref (He.ga K "ChainError")) rfl rfl nd rfl rfl ⟨rfl, by decide, .inl (g_ChainError c)⟩ tk (fun y nm C hy hm => ?_) (fun W pn xe tk p => js_one (js_expr (j_sel ok_moves_told ok_patch_told (hr.mono (by decide)) (g_moves_told c) (g_patch_told c) k_moves_told k_patch_told b_moves_told b_patch_told tk (j_var 0) (J.eff (j_var 1))))) (fun a oe y nm C pn hy hm hz hf => ?_) rfl) (js_cons (js_ret j_str) js_nil)
  · obtain ⟨rfl, rfl⟩ := h_some hy
    cases (g_InvalidObserved c).symm.trans hm
    exact exmB_ok (ex_at1 c.m)
  · obtain ⟨rfl, rfl⟩ := h_some hy
    cases (g_InvalidObserved c).symm.trans hm
    exact ps_hret (ok_E a oe hz hf) (hr.mono (by decide)) (g__law_error_name c) k_E b_E (fun y z h _ => (h_some h).2) hz hf
abbrev N_law : List Str := ["script", "k", "source", "low", "n", "patch_so", "observed_so", "turn", "note_so", "told", "due", "patch_told_so", "lows_so", "highs_so", "odd", "one"]
def s_law : S :=
    (sSeq (sFor (iR1 (mB dMax (mC (.int 3)) (mB dMin (mC (.int 8)) (mU dLen (mVar 0))))) (gN 1)
      (sSeq (sSet 2 1 (mCallP 2 F__law_source (aCons (mVar 0) (aCons (mVar 1) aNil))))
      (sSeq (sPar 3 0 4 0 (mCall fc__law_pick [some 2, none] (aLend 2 (aCons (mC (.int 120)) aNil))) (mB dSub (mCall fc__law_pick [some 2, none] (aLend 2 (aCons (mC (.int 61)) aNil))) (mC (.int 30))))
      (sSeq (sSet 5 0 (mTup (aCons (mTup (aCons (mC (.str "range")) (aCons (mVar 3) (aCons (mB dAdd (mVar 3) (mCall fc__law_pick [some 2, none] (aLend 2 (aCons (mB dSub (mC (.int 128)) (mVar 3)) aNil)))) aNil)))) (aCons (mTup (aCons (mC (.str "move")) (aCons (mVar 4) aNil))) aNil))))
      (sSeq (sSet 6 0 (mTup aNil))
      (sSeq (sFor (iR1 (mB dAdd (mC (.int 1)) (mCall fc__law_pick [some 2, none] (aLend 2 (aCons (mC (.int 9)) aNil))))) (gN 7)
        (sSeq (sSet 8 0 (mTup (aCons (mCall fc__law_pick [some 2, none] (aLend 2 (aCons (mC (.int 4)) aNil))) (aCons (mB dMin (mC (.int 127)) (mB dMax (mC (.int 0)) (mB dSub (mB dAdd (mVar 3) (mCall fc__law_pick [some 2, none] (aLend 2 (aCons (mC (.int 41)) aNil)))) (mC (.int 15))))) aNil))))
        (sSeq (sSet 9 0 (mCallP 2 F__law_sounds (aCons (mVar 5) (aCons (mVar 8) aNil))))
        (sSeq (sIf (fun ρ => toB (mB dEq (mCall fc__law_pick [some 2, none] (aLend 2 (aCons (mC (.int 25)) aNil))) (mC (.int 0)) ρ))
          (sSet 9 0 (mCallP 2 F__law_sounds (aCons (mTup (aCons (mTup (aCons (mC (.str "move")) (aCons (mCall fc__law_pick [some 2, none] (aLend 2 (aCons (mC (.int 5)) aNil))) aNil))) aNil)) (aCons (mVar 8) aNil))))
          sNil)
        (sSeq (sSet 6 0 (mB dAdd (mVar 6) (mTup (aCons (mTup (aCons (mVar 8) (aCons (mVar 9) aNil))) aNil))))
        sNil)))))
      (sSeq (sIf (fun ρ => toB (mB dNe (mLc [8, 9] (iA (mVar 6)) (gT 2 (gsCons (gN 8) (gsCons (gN 9) gsNil))) (fun ρ => toB (mB dNe (mVar 9) (mTup aNil) ρ)) (mC (.int 1))) (mLst aNil) ρ))
        (sSeq (sPar 10 0 11 0 (mCallP 1 F__law_told (aCons (mVar 6) aNil)) (mCallP 1 F_patch_told (aCons (mVar 6) aNil)))
        (sSeq (sIf (tOrM (fun ρ => toB (mB dNe (mCallP 1 F_moves_told (aCons (mVar 6) aNil)) (mVar 10) ρ)) (fun ρ => toB (mB dNe (mB dIs (mVar 11) (mC .none)) (mB dEq (mVar 10) (mLst aNil)) ρ)))
          (sRet (mC (.bool false)))
          sNil)
        (sSeq (sIf (fun ρ => toB (mB dNe (mVar 10) (mLst aNil) ρ))
          (sSeq (sAsg (gT 3 (gsCons (gN 4) (gsCons (gN 12) (gsCons (gN 13) gsNil)))) (mB dIxK (mVar 10) (mC (.int 0))))
          (sSeq (sIf (fun ρ => toB (mB dNe (mVar 11) (mTup (aCons (mTup (aCons (mC (.str "range")) (aCons (mB dIxK (mVar 12) (mC (.int 0))) (aCons (mB dIxK (mVar 13) (mC (.int 0))) aNil)))) (aCons (mTup (aCons (mC (.str "move")) (aCons (mVar 4) aNil))) aNil))) ρ))
            (sRet (mC (.bool false)))
            sNil)
          sNil))
          sNil)
        sNil)))
        sNil)
      (sSeq (sSet 14 0 (mLst (aCons (mC .none) (aCons (mTup aNil) (aCons (mTup (aCons (mTup (aCons (mTup (aCons (mC (.int 0)) (aCons (mC (.int 5)) aNil))) (aCons (mTup aNil) aNil))) aNil)) (aCons (mLst (aCons (mTup (aCons (mTup (aCons (mC (.int 0)) (aCons (mC (.int 5)) aNil))) (aCons (mTup (aCons (mTup (aCons (mC (.int 0)) (aCons (mC (.int 6)) aNil))) aNil)) aNil))) aNil)) (aCons (mB dMul (mTup (aCons (mTup (aCons (mTup (aCons (mC (.int 0)) (aCons (mC (.int 5)) aNil))) (aCons (mTup (aCons (mTup (aCons (mC (.int 0)) (aCons (mC (.int 6)) aNil))) aNil)) aNil))) aNil)) (mC (.int 11))) aNil)))))))
      (sSeq (sSet 14 0 (mB dAdd (mVar 14) (mLst (aCons (mTup (aCons (mTup (aCons (mTup (aCons (mC (.int 0)) (aCons (mC (.int 5)) aNil))) (aCons (mTup (aCons (mTup (aCons (mC (.int 0)) (aCons (mC (.int 128)) aNil))) aNil)) aNil))) aNil)) aNil))))
      (sSeq (sSet 14 0 (mB dAdd (mVar 14) (mLst (aCons (mTup (aCons (mTup (aCons (mTup (aCons (mC (.int 0)) (aCons (mC (.int 5)) aNil))) (aCons (mTup (aCons (mTup (aCons (mC (.int 0)) (aCons (mC (.int 7)) aNil))) (aCons (mTup (aCons (mC (.int 0)) (aCons (mC (.int 6)) aNil))) aNil))) aNil))) aNil)) (aCons (mTup (aCons (mTup (aCons (mTup (aCons (mC (.int 4)) (aCons (mC (.int 5)) aNil))) (aCons (mTup (aCons (mTup (aCons (mC (.int 0)) (aCons (mC (.int 6)) aNil))) aNil)) aNil))) aNil)) aNil)))))
      (sSeq (sIf (fun ρ => toB (mB dNe (mB dAdd (mLc [15] (iA (mVar 14)) (gN 15) tTrue (mCallP 2 F__law_outcome (aCons (mC (.int 0)) (aCons (mVar 15) aNil)))) (mLc [15] (iA (mVar 14)) (gN 15) tTrue (mCallP 2 F__law_outcome (aCons (mC (.int 1)) (aCons (mVar 15) aNil))))) (mB dMulL (mLst (aCons (mC (.str "observed")) aNil)) (mC (.int 16))) ρ))
        (sRet (mC (.bool false)))
        sNil)
      sNil)))))))))))
    (sSeq (sSet 6 0 (mTup (aCons (mTup (aCons (mTup (aCons (mC (.int 0)) (aCons (mC (.int 60)) aNil))) (aCons (mTup (aCons (mTup (aCons (mC (.int 0)) (aCons (mC (.int 65)) aNil))) aNil)) aNil))) (aCons (mTup (aCons (mTup (aCons (mC (.int 0)) (aCons (mC (.int 70)) aNil))) (aCons (mTup aNil) aNil))) aNil))))
    (sSeq (sIf (fun ρ => toB (mB dNe (mCallP 1 F_moves_told (aCons (mVar 6) aNil)) (mLst (aCons (mTup (aCons (mC (.int 5)) (aCons (mTup (aCons (mC (.int 0)) (aCons (mC (.int 60)) aNil))) (aCons (mTup (aCons (mC (.int 60)) (aCons (mC (.int 69)) aNil))) aNil)))) aNil)) ρ))
      (sRet (mC (.bool false)))
      sNil)
    (sSeq (sIf (fun ρ => toB (mB dNe (mCallP 1 F_patch_told (aCons (mVar 6) aNil)) (mTup (aCons (mTup (aCons (mC (.str "range")) (aCons (mC (.int 0)) (aCons (mC (.int 60)) aNil)))) (aCons (mTup (aCons (mC (.str "move")) (aCons (mC (.int 5)) aNil))) aNil))) ρ))
      (sRet (mC (.bool false)))
      sNil)
    (sSeq (sRet (mB dEq (mCallP 1 F_moves_told (aCons (mTup (aCons (mTup (aCons (mTup (aCons (mC (.int 0)) (aCons (mC (.int 60)) aNil))) (aCons (mTup (aCons (mTup (aCons (mC (.int 0)) (aCons (mC (.int 61)) aNil))) aNil)) aNil))) (aCons (mTup (aCons (mTup (aCons (mC (.int 0)) (aCons (mC (.int 61)) aNil))) (aCons (mTup (aCons (mTup (aCons (mC (.int 0)) (aCons (mC (.int 63)) aNil))) aNil)) aNil))) aNil))) aNil)) (mLst aNil)))
    sNil)))))
theorem ok_law (c : Fx w K mg) : ∃ fd, (∀ base : Heap, FnOk prog w K mg base L2.CX0 60 (He.ga K "law") fd ["script"] (spLaw ⟨prog, w, K⟩ 16 s_law)) ∧ ∀ (s : Shared) (u : Value), BindsTo s fd ⟨[u], []⟩ [("script", u)] := by
  obtain ⟨fd, F⟩ := c.s.d.def_ 15
  refine ⟨fd, fun base => ?_, fun s u => F.bindsA (ps := ["script"]) (fun _ _ _ _ _ _ us hl => match us, hl with | [_], _ => rfl) s [u] rfl⟩
  obtain ⟨fd_moves_told, ok_moves_told, b_moves_told, k_moves_told⟩ := ok_moves_told c (base := base)
  obtain ⟨fd_patch_told, ok_patch_told, b_patch_told, k_patch_told⟩ := ok_patch_told c (base := base)
  obtain ⟨fd__law_source, ok__law_source, b__law_source, k__law_source⟩ := ok__law_source c (base := base)
  obtain ⟨fd__law_pick, ok__law_pick, b__law_pick, k__law_pick⟩ := ok__law_pick c (base := base)
  obtain ⟨fd__law_sounds, ok__law_sounds, b__law_sounds, k__law_sounds⟩ := ok__law_sounds c (base := base)
  obtain ⟨fd__law_told, ok__law_told, b__law_told, k__law_told⟩ := ok__law_told c (base := base)
  obtain ⟨fd__law_outcome, ok__law_outcome, b__law_outcome, k__law_outcome⟩ := ok__law_outcome c (base := base)
  refine law_ok (k := 59) (N := N_law) (s := s_law) F (C8.fnScope_by (by decide +kernel)) ?_
  intro cdv A outer s0 H0 E hr
  have hu80 := room80 hr
  have hu64 := room64 hr
  have hu65 := room65 hr
  have hu16 := room16 hr
  have nd : N_law.Nodup := by decide +kernel
  exact
    (js_cons (js_for (passes_of rfl) rfl (ji_range1 (gb_range c) (j_callB2 (call_maxD rfl) (gb_max c) (by decide +kernel) j_int (j_callB2 (call_minD rfl) (gb_min c) (by decide +kernel) j_int (j_callB call_lenD (gb_len c) (by decide +kernel) (j_var 0))))) (jg_name 1 rfl nd)
      (js_cons (js_setN 2 rfl (j_callP ok__law_source (hr.mono (by decide)) (g__law_source c) k__law_source b__law_source takes0N (ja_cons (j_var 0) (ja_cons (j_var 1) ja_nil))) nd)
      (js_cons (js_par 3 4 rfl rfl rfl (by decide) (J.f0 (J.n0 (j_callR ok__law_pick (hr.mono (by decide)) (g__law_pick c) k__law_pick b__law_pick takes0N (jk_io 2 (jk_fz j_int jk_nil)) (nod_hd (by simp))))) (J.f0 (J.frz (j_bin op_subD (j_callR ok__law_pick (hr.mono (by decide)) (g__law_pick c) k__law_pick b__law_pick takes0N (jk_io 2 (jk_fz j_int jk_nil)) (nod_hd (by simp))) j_int))) nd)
      (js_cons (js_set 5 rfl (j_tup (ja_cons (j_tup (ja_cons j_str (ja_cons (j_var 3) (ja_cons (J.frz (j_bin op_addD (j_var 3) (j_callR ok__law_pick (hr.mono (by decide)) (g__law_pick c) k__law_pick b__law_pick takes0N (jk_io 2 (jk_fz (J.frz (j_bin op_subD j_int (j_var 3))) jk_nil)) (nod_hd (by simp))))) ja_nil)))) (ja_cons (j_tup (ja_cons j_str (ja_cons (j_var 4) ja_nil))) ja_nil))) nd)
      (js_cons (js_set 6 rfl (j_tup ja_nil) nd)
      (js_cons (js_for (passes_of rfl) rfl (ji_range1 (gb_range c) (j_bin op_addD j_int (j_callR ok__law_pick (hr.mono (by decide)) (g__law_pick c) k__law_pick b__law_pick takes0N (jk_io 2 (jk_fz j_int jk_nil)) (nod_hd (by simp))))) (jg_name 7 rfl nd)
        (js_cons (js_set 8 rfl (j_tup (ja_cons (J.n0 (j_callR ok__law_pick (hr.mono (by decide)) (g__law_pick c) k__law_pick b__law_pick takes0N (jk_io 2 (jk_fz j_int jk_nil)) (nod_hd (by simp)))) (ja_cons (J.frz (j_callB2 (call_minD rfl) (gb_min c) (by decide +kernel) j_int (j_callB2 (call_maxD rfl) (gb_max c) (by decide +kernel) j_int (j_bin op_subD (j_bin op_addD (j_var 3) (j_callR ok__law_pick (hr.mono (by decide)) (g__law_pick c) k__law_pick b__law_pick takes0N (jk_io 2 (jk_fz j_int jk_nil)) (nod_hd (by simp)))) j_int)))) ja_nil))) nd)
        (js_cons (js_set 9 rfl (J.n0 (j_callP ok__law_sounds (hr.mono (by decide)) (g__law_sounds c) k__law_sounds b__law_sounds takes0N (ja_cons (j_var 5) (ja_cons (j_var 8) ja_nil)))) nd)
        (js_cons (js_if (jt_cmp (op_eqD' hu64) (j_callR ok__law_pick (hr.mono (by decide)) (g__law_pick c) k__law_pick b__law_pick takes0N (jk_io 2 (jk_fz j_int jk_nil)) (nod_hd (by simp))) j_int)
          (js_one (js_set 9 rfl (J.n0 (j_callP ok__law_sounds (hr.mono (by decide)) (g__law_sounds c) k__law_sounds b__law_sounds takes0N (ja_cons (j_tup (ja_cons (j_tup (ja_cons j_str (ja_cons (J.n0 (j_callR ok__law_pick (hr.mono (by decide)) (g__law_pick c) k__law_pick b__law_pick takes0N (jk_io 2 (jk_fz j_int jk_nil)) (nod_hd (by simp)))) ja_nil))) ja_nil)) (ja_cons (j_var 8) ja_nil)))) nd))
          js_nil)
        (js_cons (js_set 6 rfl (J.frz (j_bin op_addD (j_var 6) (j_tup (ja_cons (j_tup (ja_cons (j_var 8) (ja_cons (j_var 9) ja_nil))) ja_nil)))) nd)
        js_nil)))))
      (js_cons (js_if (jt_cmp (op_neD' hu64) (j_lc [("note_so", 8), ("told", 9)] rfl nd (ji_any (j_var 6)) (blkOk_by (by kernel_rfl)) (fun _ _ _ _ _ => (jg_tup rfl (jgs_cons (jg_name 8 rfl nd) (jgs_cons (jg_name 9 rfl nd) jgs_nil)))) (fun _ _ _ _ _ => (jts_one (jt_cmp (op_neD' hu64) (j_var 9) (j_tup ja_nil)))) (fun _ _ _ _ _ => j_int)) (j_lst ja_nil))
        (js_cons (js_par 10 11 rfl rfl rfl (by decide) (J.f0 (J.frz (j_callP ok__law_told (hr.mono (by decide)) (g__law_told c) k__law_told b__law_told takes0N (ja_cons (j_var 6) ja_nil)))) (J.f0 (J.n0 (j_callP ok_patch_told (hr.mono (by decide)) (g_patch_told c) k_patch_told b_patch_told takes0N (ja_cons (j_var 6) ja_nil)))) nd)
        (js_cons (js_if (JW.t (jw_or (jt_cmp (op_neD' hu64) (j_callP ok_moves_told (hr.mono (by decide)) (g_moves_told c) k_moves_told b_moves_told takes0N (ja_cons (j_var 6) ja_nil)) (j_var 10)) (jw_or1 (jt_cmp (op_neD' hu64) (j_cmp op_isD (j_var 11) j_none) (j_cmp (op_eqD' hu64) (j_var 10) (j_lst ja_nil))))))
          (js_one (js_ret j_bool))
          js_nil)
        (js_cons (js_if (jt_cmp (op_neD' hu64) (j_var 10) (j_lst ja_nil))
          (js_cons (js_asg (j_ix (ix_K hu16) (j_var 10) j_int) (jg_tup rfl (jgs_cons (jg_name 4 rfl nd) (jgs_cons (jg_name 12 rfl nd) (jgs_cons (jg_name 13 rfl nd) jgs_nil)))))
          (js_cons (js_if (jt_cmp (op_neD' hu64) (j_var 11) (j_tup (ja_cons (j_tup (ja_cons j_str (ja_cons (j_ix (ix_K hu16) (j_var 12) j_int) (ja_cons (j_ix (ix_K hu16) (j_var 13) j_int) ja_nil)))) (ja_cons (j_tup (ja_cons j_str (ja_cons (j_var 4) ja_nil))) ja_nil))))
            (js_one (js_ret j_bool))
            js_nil)
          js_nil))
          js_nil)
        js_nil)))
        js_nil)
      (js_cons (js_set 14 rfl (J.frz (j_lst (ja_cons j_none (ja_cons (j_tup ja_nil) (ja_cons (j_tup (ja_cons (j_tup (ja_cons (j_tup (ja_cons j_int (ja_cons j_int ja_nil))) (ja_cons (j_tup ja_nil) ja_nil))) ja_nil)) (ja_cons (J.frz (j_lst (ja_cons (j_tup (ja_cons (j_tup (ja_cons j_int (ja_cons j_int ja_nil))) (ja_cons (j_tup (ja_cons (j_tup (ja_cons j_int (ja_cons j_int ja_nil))) ja_nil)) ja_nil))) ja_nil))) (ja_cons (J.frz (j_bin op_mulD (j_tup (ja_cons (j_tup (ja_cons (j_tup (ja_cons j_int (ja_cons j_int ja_nil))) (ja_cons (j_tup (ja_cons (j_tup (ja_cons j_int (ja_cons j_int ja_nil))) ja_nil)) ja_nil))) ja_nil)) j_int)) ja_nil))))))) nd)
      (js_cons (js_set 14 rfl (J.frz (j_bin op_addD (j_var 14) (j_lst (ja_cons (j_tup (ja_cons (j_tup (ja_cons (j_tup (ja_cons j_int (ja_cons j_int ja_nil))) (ja_cons (j_tup (ja_cons (j_tup (ja_cons j_int (ja_cons j_int ja_nil))) ja_nil)) ja_nil))) ja_nil)) ja_nil)))) nd)
      (js_cons (js_set 14 rfl (J.frz (j_bin op_addD (j_var 14) (j_lst (ja_cons (j_tup (ja_cons (j_tup (ja_cons (j_tup (ja_cons j_int (ja_cons j_int ja_nil))) (ja_cons (j_tup (ja_cons (j_tup (ja_cons j_int (ja_cons j_int ja_nil))) (ja_cons (j_tup (ja_cons j_int (ja_cons j_int ja_nil))) ja_nil))) ja_nil))) ja_nil)) (ja_cons (j_tup (ja_cons (j_tup (ja_cons (j_tup (ja_cons j_int (ja_cons j_int ja_nil))) (ja_cons (j_tup (ja_cons (j_tup (ja_cons j_int (ja_cons j_int ja_nil))) ja_nil)) ja_nil))) ja_nil)) ja_nil))))) nd)
      (js_cons (js_if (jt_cmp (op_neD' hu64) (j_bin op_addD (j_lc [("one", 15)] rfl nd (ji_any (j_var 14)) (blkOk_by (by kernel_rfl)) (fun _ _ _ _ _ => (jg_name 15 rfl nd)) (fun _ _ _ _ _ => jts_nil) (fun _ _ _ _ _ => (J.n0 (j_callP ok__law_outcome (hr.mono (by decide)) (g__law_outcome c) k__law_outcome b__law_outcome takes0N (ja_cons j_int (ja_cons (j_var 15) ja_nil)))))) (j_lc [("one", 15)] rfl nd (ji_any (j_var 14)) (blkOk_by (by kernel_rfl)) (fun _ _ _ _ _ => (jg_name 15 rfl nd)) (fun _ _ _ _ _ => jts_nil) (fun _ _ _ _ _ => (J.n0 (j_callP ok__law_outcome (hr.mono (by decide)) (g__law_outcome c) k__law_outcome b__law_outcome takes0N (ja_cons j_int (ja_cons (j_var 15) ja_nil))))))) (j_mulL (j_lst (ja_cons j_str ja_nil)) j_int))
        (js_one (js_ret j_bool))
        js_nil)
      js_nil)))))))))))
    (js_cons (js_set 6 rfl (j_tup (ja_cons (j_tup (ja_cons (j_tup (ja_cons j_int (ja_cons j_int ja_nil))) (ja_cons (j_tup (ja_cons (j_tup (ja_cons j_int (ja_cons j_int ja_nil))) ja_nil)) ja_nil))) (ja_cons (j_tup (ja_cons (j_tup (ja_cons j_int (ja_cons j_int ja_nil))) (ja_cons (j_tup ja_nil) ja_nil))) ja_nil))) nd)
    (js_cons (js_if (jt_cmp (op_neD' hu64) (j_callP ok_moves_told (hr.mono (by decide)) (g_moves_told c) k_moves_told b_moves_told takes0N (ja_cons (j_var 6) ja_nil)) (j_lst (ja_cons (j_tup (ja_cons j_int (ja_cons (j_tup (ja_cons j_int (ja_cons j_int ja_nil))) (ja_cons (j_tup (ja_cons j_int (ja_cons j_int ja_nil))) ja_nil)))) ja_nil)))
      (js_one (js_ret j_bool))
      js_nil)
    (js_cons (js_if (jt_cmp (op_neD' hu64) (j_callP ok_patch_told (hr.mono (by decide)) (g_patch_told c) k_patch_told b_patch_told takes0N (ja_cons (j_var 6) ja_nil)) (j_tup (ja_cons (j_tup (ja_cons j_str (ja_cons j_int (ja_cons j_int ja_nil)))) (ja_cons (j_tup (ja_cons j_str (ja_cons j_int ja_nil))) ja_nil))))
      (js_one (js_ret j_bool))
      js_nil)
    (js_cons (js_ret (J.frz (j_cmp (op_eqD' hu64) (j_callP ok_moves_told (hr.mono (by decide)) (g_moves_told c) k_moves_told b_moves_told takes0N (ja_cons (j_tup (ja_cons (j_tup (ja_cons (j_tup (ja_cons j_int (ja_cons j_int ja_nil))) (ja_cons (j_tup (ja_cons (j_tup (ja_cons j_int (ja_cons j_int ja_nil))) ja_nil)) ja_nil))) (ja_cons (j_tup (ja_cons (j_tup (ja_cons j_int (ja_cons j_int ja_nil))) (ja_cons (j_tup (ja_cons (j_tup (ja_cons j_int (ja_cons j_int ja_nil))) ja_nil)) ja_nil))) ja_nil))) ja_nil)) (j_lst ja_nil))))
    js_nil)))))
end L61
set_option maxHeartbeats 2000000
namespace L61
open PySem PySem.Spec L2 Nc
open PyProof.Rows hiding St

inductive Bx where
  | mv (s : Int)
  | rg (lo hi : Int)
  | rt (a b : Int)
  | ly (s c : Int)
def encB : Bx → D
  | .mv s => .tuple [.str "move", .int s]
  | .rg lo hi => .tuple [.str "range", .int lo, .int hi]
  | .rt a b => .tuple [.str "route", .int a, .int b]
  | .ly s c => .tuple [.str "layer", .int s, .int c]
def Bx.Ok : Bx → Prop
  | .mv s => -127 ≤ s ∧ s ≤ 127
  | .rg lo hi => 0 ≤ lo ∧ lo ≤ hi ∧ hi ≤ 127
  | .rt a b => 0 ≤ a ∧ a ≤ 3 ∧ 0 ≤ b ∧ b ≤ 3 ∧ a ≠ b
  | .ly s c => -127 ≤ s ∧ s ≤ 127 ∧ 0 ≤ c ∧ c ≤ 3
def gen : Bx → P2 → List P2
  | .mv s, n => [(n.1, n.2 + s)]
  | .rg lo hi, n => if lo ≤ n.2 ∧ n.2 ≤ hi then [n] else []
  | .rt a b, n => [(if n.1 = a then b else n.1, n.2)]
  | .ly s c, n => [n, (c, n.2 + s)]
def inK (p : P2) : Bool := decide (0 ≤ p.2 ∧ p.2 < 128)
def stepB (b : Bx) (l : List P2) : List P2 := ssP ((l.flatMap (gen b)).filter inK)
def snds (bs : List Bx) (n : P2) : List P2 := bs.foldl (fun l b => stepB b l) [n]
theorem gen_len (b : Bx) (n : P2) : (gen b n).length ≤ 2 := by
  cases b <;> simp [gen]
  split <;> simp
theorem gen_nok {b : Bx} (hb : b.Ok) {n p : P2} (hn : nok n) (hp : p ∈ gen b n) (hk : inK p = true) : nok p := by
  have hk2 : 0 ≤ p.2 ∧ p.2 < 128 := of_decide_eq_true hk
  unfold nok at hn ⊢
  cases b with
  | mv s =>
    have e : p = (n.1, n.2 + s) := by simpa [gen] using hp
    subst e
    simp only at hk2 ⊢
    omega
  | rg lo hi =>
    simp only [gen] at hp
    split at hp
    · have e : p = n := by simpa using hp
      subst e
      omega
    · cases hp
  | rt x y =>
    have e : p = (if n.1 = x then y else n.1, n.2) := by simpa [gen] using hp
    subst e
    simp only at hk2 ⊢
    unfold Bx.Ok at hb
    split <;> omega
  | ly s c =>
    have e : p = n ∨ p = (c, n.2 + s) := by simpa [gen] using hp
    unfold Bx.Ok at hb
    rcases e with e | e
    · subst e
      omega
    · subst e
      simp only at hk2 ⊢
      omega
theorem step_mem {b : Bx} {l : List P2} {p : P2} : p ∈ stepB b l ↔ (∃ x ∈ l, p ∈ gen b x) ∧ inK p = true := by
  unfold stepB
  rw [mem_ssP, List.mem_filter, List.mem_flatMap]
theorem step_nok {b : Bx} (hb : b.Ok) {l : List P2} (h : Nok l) : Nok (stepB b l) := fun p hp => by
  obtain ⟨⟨x, hx, hg⟩, hk⟩ := step_mem.mp hp
  exact gen_nok hb (h x hx) hg hk
theorem flat_len (b : Bx) : ∀ l : List P2, (l.flatMap (gen b)).length ≤ 2 * l.length
  | [] => by simp
  | x :: l => by
    have h1 := flat_len b l
    have h2 := gen_len b x
    rw [List.flatMap_cons, List.length_append, List.length_cons]
    omega
theorem filt_len (b : Bx) (l : List P2) : ((l.flatMap (gen b)).filter inK).length ≤ 2 * l.length := Nat.le_trans (List.length_filter_le _ _) (flat_len b l)
theorem step_len (b : Bx) (l : List P2) : (stepB b l).length ≤ 2 * l.length := Nat.le_trans (ssP_length _) (filt_len b l)
theorem snds_snoc (bs : List Bx) (b : Bx) (n : P2) : snds (bs ++ [b]) n = stepB b (snds bs n) := by
  unfold snds
  rw [List.foldl_append]
  rfl
theorem snds_all (n : P2) (hn : nok n) (bs : List Bx) (hb : ∀ b ∈ bs, b.Ok) : Nok (snds bs n) ∧ (snds bs n).length ≤ 2 ^ bs.length ∧ (snds bs n).Pairwise (fun a b => plt a b = true) := by
  have main : ∀ (m : Nat) (bs : List Bx), bs.length = m → (∀ b ∈ bs, b.Ok) → Nok (snds bs n) ∧ (snds bs n).length ≤ 2 ^ bs.length ∧ (snds bs n).Pairwise (fun a b => plt a b = true) := by
    intro m
    induction m with
    | zero =>
      intro bs e _
      have e2 : bs = [] := List.length_eq_zero_iff.mp e
      subst e2
      refine ⟨fun p hp => ?_, by simp [snds], by simp [snds]⟩
      have e3 : p = n := by simpa [snds] using hp
      exact e3 ▸ hn
    | succ m ih =>
      intro bs e hb
      rcases List.eq_nil_or_concat bs with e2 | ⟨cs, b, e2⟩
      · subst e2
        cases e
      · rw [List.concat_eq_append] at e2
        subst e2
        have hl : cs.length = m := by
          rw [List.length_append] at e
          simpa using e
        obtain ⟨i1, i2, i3⟩ := ih cs hl fun x hx => hb x (List.mem_append_left _ hx)
        rw [snds_snoc]
        refine ⟨step_nok (hb b (by simp)) i1, ?_, ssP_sorted _⟩
        refine Nat.le_trans (step_len b _) ?_
        rw [List.length_append]
        show 2 * (snds cs n).length ≤ 2 ^ (cs.length + 1)
        rw [Nat.pow_succ]
        omega
  exact main bs.length bs rfl hb
def lm_body : S := (sIf (fun ρ => toB (mB dEq (mB dIxK (mVar 0) (mC (.int 0))) (mC (.str "move")) ρ))
        (sExpr (mApp 2 (mTup (aCons (mVar 3) (aCons (mB dAdd (mVar 4) (mB dIxK (mVar 0) (mC (.int 1)))) aNil)))))
        (sIf (fun ρ => toB (mB dEq (mB dIxK (mVar 0) (mC (.int 0))) (mC (.str "route")) ρ))
          (sExpr (mApp 2 (mIf (fun ρ => toB (mB dEq (mVar 3) (mB dIxK (mVar 0) (mC (.int 1))) ρ)) (mTup (aCons (mB dIxK (mVar 0) (mC (.int 2))) (aCons (mVar 4) aNil))) (mTup (aCons (mVar 3) (aCons (mVar 4) aNil))))))
          (sIf (fun ρ => toB (mB dEq (mB dIxK (mVar 0) (mC (.int 0))) (mC (.str "layer")) ρ))
            (sSet 2 1 (mB dAdd (mPeek 2) (mLst (aCons (mTup (aCons (mVar 3) (aCons (mVar 4) aNil))) (aCons (mTup (aCons (mB dIxK (mVar 0) (mC (.int 2))) (aCons (mB dAdd (mVar 4) (mB dIxK (mVar 0) (mC (.int 1)))) aNil))) aNil)))))
            (sIf (tAndM (fun ρ => toB (mB dLe (mB dIxK (mVar 0) (mC (.int 1))) (mVar 4) ρ)) (fun ρ => toB (mB dLe (mVar 4) (mB dIxK (mVar 0) (mC (.int 2))) ρ)))
              (sExpr (mApp 2 (mTup (aCons (mVar 3) (aCons (mVar 4) aNil)))))
              sNil))))
theorem lm_step (b : Bx) (S0 x5 : Slot) (f : List P2) (c k : Int) (hf : f.length ≤ 2000) : lm_body [some (0, encB b), S0, some (1, .list (f.map encP)), some (0, .int c), some (0, .int k), x5] =
    .ok (.nx, [some (0, encB b), S0, some (1, .list ((f ++ gen b (c, k)).map encP)), some (0, .int c), some (0, .int k), x5]) := by
  have h1 : f.length < 16777216 := by omega
  have h2 : f.length + 2 ≤ 16777216 := by omega
  unfold lm_body
  cases b with
  | mv s => simp [sIf, toB, mB, mC, mVar, ix0, ix1, ix2, encB, encP, e_mm, sExpr, mApp, lstOf, mTup, aCons, aNil, dAdd, gen, big, h1]
  | rg lo hi =>
    by_cases g1 : lo ≤ k
    · by_cases g2 : k ≤ hi <;> simp [sIf, toB, mB, mC, mVar, ix0, ix1, ix2, encB, encP, e_am, e_aa, e_ao, e_al, sExpr, mApp, lstOf, mTup, aCons, aNil, dAdd, dLe, tAndM, sNil, gen, big, h1, g1, g2]
    · simp [sIf, toB, mB, mC, mVar, ix0, ix1, ix2, encB, encP, e_am, e_aa, e_ao, e_al, sExpr, mApp, lstOf, mTup, aCons, aNil, dAdd, dLe, tAndM, sNil, gen, big, h1, g1]
  | rt x y =>
    by_cases g1 : c = x <;> simp [sIf, toB, mB, mC, mVar, ix0, ix1, ix2, encB, encP, e_om, e_oa, e_oo, e_int, sExpr, mApp, lstOf, mTup, aCons, aNil, dAdd, mIf, gen, big, h1, g1]
  | ly s c => simp [sIf, toB, mB, mC, mVar, mPeek, ix0, ix1, ix2, encB, encP, e_lm, e_lo, e_ll, sSet, mLst, mTup, aCons, aNil, dAdd, gen, big, h1, h2]
theorem law_made_ok {b : Bx} (hb : b.Ok) {l : List P2} (h : Nok l) (hl : l.length ≤ 512) : F__law_made [encB b, .list (l.map encP)] = .ok (.list ((stepB b l).map encP)) := by
  have lp := loop_to (g := gT 2 (gsCons (gN 3) (gsCons (gN 4) gsNil))) (s := lm_body) encP
    (fun pre ρ => ∃ x3 x4, ρ = [some (0, encB b), some (0, .list (l.map encP)), some (1, .list ((pre.flatMap (gen b)).map encP)), x3, x4, none]) l (ρ := [some (0, encB b), some (0, .list (l.map encP)), some (1, .list []), none, none, none]) ⟨none, none, rfl⟩
    fun pre x post ρ e ⟨x3, x4, i⟩ => by
      subst i
      obtain ⟨c, k⟩ := x
      have hp : pre.length ≤ 512 := by
        have := congrArg List.length e
        rw [List.length_append, List.length_cons] at this
        omega
      have hf := flat_len b pre
      refine ⟨_, _, rfl, lm_step b _ _ (pre.flatMap (gen b)) c k (by omega), some (0, .int c), some (0, .int k), ?_⟩
      rw [List.flatMap_append, List.flatMap_singleton]
  obtain ⟨ρ', h1, x3, x4, h2⟩ := lp
  subst h2
  have q := compP_map (g := gN 5) (t := (tAndM (fun ρ => toB (mB dLe (mC (.int 0)) (mB dIxK (mVar 5) (mC (.int 1))) ρ)) (fun ρ => toB (mB dLe (mB dIxK (mVar 5) (mC (.int 1))) (mC (.int 127)) ρ)))) (f := mVar 5) (ρ := [some (0, encB b), some (0, .list (l.map encP)), some (0, .list ((l.flatMap (gen b)).map encP)), x3, x4, none]) encP inK encP (l.flatMap (gen b)) fun x _ => by
    refine ⟨_, rfl, ?_, fun _ => ⟨_, rfl⟩⟩
    obtain ⟨c, k⟩ := x
    by_cases h1 : 0 ≤ k
    · by_cases h2 : k < 128
      · have h3 : k ≤ 127 := by omega
        simp [tAndM, toB, mC, mB, mVar, encP, ix1, dLe, inK, R.of, h1, h2, h3]
      · have h3 : ¬ k ≤ 127 := by omega
        simp [tAndM, toB, mC, mB, mVar, encP, ix1, dLe, inK, R.of, h1, h2, h3]
    · simp [tAndM, toB, mC, mB, mVar, encP, ix1, dLe, inK, R.of, h1]
  have hf := filt_len b l
  have hl2 : (((l.flatMap (gen b)).filter inK).map encP).length ≤ big := by
    rw [List.length_map]
    refine Nat.le_trans hf ?_
    unfold big
    omega
  have ss := dSS2_nok (l := (l.flatMap (gen b)).filter inK) (fun p hp => by
    obtain ⟨h1, h2⟩ := List.mem_filter.mp hp
    obtain ⟨x, hx, hg⟩ := List.mem_flatMap.mp h1
    exact gen_nok hb (h x hx) hg h2)
  refine runP_ret (ρ := [some (0, encB b), some (0, .list (l.map encP)), some (0, .list ((l.flatMap (gen b)).map encP)), x3, x4, none]) ?_
  unfold s__law_made
  refine (seq_nx (ρ1 := [some (0, encB b), some (0, .list (l.map encP)), some (1, .list []), none, none, none]) rfl).trans ?_
  refine (seq_nx (ρ1 := [some (0, encB b), some (0, .list (l.map encP)), some (1, .list ((l.flatMap (gen b)).map encP)), x3, x4, none]) h1).trans ?_
  refine seq_ret ?_
  simp only [sRet, mU, mLc, iA, mTake, List.getElem?_cons_succ, List.getElem?_cons_zero, R.bind_ok, itemsD, wipeR, List.set_cons_succ, List.set_cons_zero, or_true, if_true, q, if_pos hl2, ss, R.of_some]
  rfl
theorem law_sounds_ok {bs : List Bx} (hb : ∀ b ∈ bs, b.Ok) (hl : bs.length ≤ 12) {n : P2} (hn : nok n) : F__law_sounds [.tuple (bs.map encB), encP n] = .ok (.tuple ((snds bs n).map encP)) := by
  have lp := loop_to (g := gN 3) (s := sSet 2 0 (mCallP 2 F__law_made (aCons (mVar 3) (aCons (mVar 2) aNil)))) encB
    (fun pre ρ => ∃ x3, ρ = [some (0, .tuple (bs.map encB)), some (0, encP n), some (0, .list ((snds pre n).map encP)), x3]) bs (ρ := [some (0, .tuple (bs.map encB)), some (0, encP n), some (0, .list ([n].map encP)), none]) ⟨none, rfl⟩
    fun pre x post ρ e ⟨x3, i⟩ => by
      subst i
      have hpre : ∀ b ∈ pre, b.Ok := fun b hb' => hb b (by rw [e]; simp [hb'])
      have hx : x.Ok := hb x (by rw [e]; simp)
      have hln : pre.length + 1 ≤ 12 := by
        have := congrArg List.length e
        rw [List.length_append, List.length_cons] at this
        omega
      obtain ⟨i1, i2, i3⟩ := snds_all n hn pre hpre
      have h16 : (snds pre n).length ≤ 512 := nok_len i1 i3
      refine ⟨_, [some (0, .tuple (bs.map encB)), some (0, encP n), some (0, .list ((stepB x (snds pre n)).map encP)), some (0, encB x)], rfl, ?_, some (0, encB x), by rw [snds_snoc]⟩
      simp [sSet, mCallP, aCons, aNil, mVar, law_made_ok hx i1 h16]
  obtain ⟨ρ', h1, x3, h2⟩ := lp
  subst h2
  refine runP_ret (ρ := [some (0, .tuple (bs.map encB)), some (0, encP n), some (0, .list ((snds bs n).map encP)), x3]) ?_
  unfold s__law_sounds
  refine (seq_nx (ρ1 := [some (0, .tuple (bs.map encB)), some (0, encP n), some (0, .list ([n].map encP)), none]) rfl).trans ?_
  refine (seq_nx (ρ1 := [some (0, .tuple (bs.map encB)), some (0, encP n), some (0, .list ((snds bs n).map encP)), x3]) h1).trans ?_
  rfl
end L61
set_option maxHeartbeats 2000000
namespace L61
open PySem PySem.Spec L2 Nc
open PyProof.Rows hiding St
theorem v_ok {ρ : Rho} {i : Nat} {d : D} (h : ρ[i]? = some (some (0, d)) := by rfl) : mVar i ρ = .ok (d, ρ) := by
  unfold mVar
  rw [h]
  rfl
theorem b_ok {g : D → D → Option D} {f h : M} {ρ ρ1 ρ2 : Rho} {x y z : D} (h1 : f ρ = .ok (x, ρ1)) (h2 : h ρ1 = .ok (y, ρ2)) (h3 : g x y = some z) : mB g f h ρ = .ok (z, ρ2) := by
  unfold mB
  rw [h1, R.bind_ok, h2, R.bind_ok, h3, R.of_some]
theorem u_ok {g : D → Option D} {f : M} {ρ ρ1 : Rho} {x z : D} (h1 : f ρ = .ok (x, ρ1)) (h3 : g x = some z) : mU g f ρ = .ok (z, ρ1) := by
  unfold mU
  rw [h1, R.bind_ok, h3, R.of_some]
theorem t_ok {f : M} {ρ ρ' : Rho} {b : Bool} (h : f ρ = .ok (.bool b, ρ')) : toB (f ρ) = .ok (b, ρ') := by
  unfold toB
  rw [h]
  rfl
theorem s_if {t : MT} {s u : S} {ρ ρ' : Rho} {b : Bool} (h : t ρ = .ok (b, ρ')) : sIf t s u ρ = if b = true then s ρ' else u ρ' := by
  unfold sIf
  rw [h]
  rfl
theorem m_if {t : MT} {s u : M} {ρ ρ' : Rho} {b : Bool} (h : t ρ = .ok (b, ρ')) : mIf t s u ρ = if b = true then s ρ' else u ρ' := by
  unfold mIf
  rw [h]
  rfl
theorem a_cons {f : M} {g : MA} {ρ ρ1 ρ2 : Rho} {x : D} {l : List D} (h1 : f ρ = .ok (x, ρ1)) (h2 : g ρ1 = .ok (l, ρ2)) : aCons f g ρ = .ok (x :: l, ρ2) := by
  unfold aCons
  rw [h1, R.bind_ok, h2]
  rfl
theorem tup_ok {f : MA} {ρ ρ1 : Rho} {l : List D} (h : f ρ = .ok (l, ρ1)) (hl : l.length ≤ 1000 := by simp) : mTup f ρ = .ok (.tuple l, ρ1) := by
  unfold mTup
  rw [h, R.bind_ok]
  exact if_pos (by unfold big; show l.length ≤ _; omega)
theorem lst_ok {f : MA} {ρ ρ1 : Rho} {l : List D} (h : f ρ = .ok (l, ρ1)) (hl : l.length ≤ 1000 := by simp) : mLst f ρ = .ok (.list l, ρ1) := by
  unfold mLst
  rw [h, R.bind_ok]
  exact if_pos (by unfold big; show l.length ≤ _; omega)
theorem set_ok {i k : Nat} {f : M} {ρ ρ1 ρ2 : Rho} {d : D} (h : f ρ = .ok (d, ρ1)) (e : ρ1.set i (some (k, d)) = ρ2 := by rfl) : sSet i k f ρ = .ok (.nx, ρ2) := by
  unfold sSet
  rw [h, ← e]
  rfl
theorem ret_ok {f : M} {ρ ρ1 : Rho} {d : D} (h : f ρ = .ok (d, ρ1)) : sRet f ρ = .ok (.ret d, ρ1) := by
  unfold sRet
  rw [h]
  rfl
theorem call_ok {n : Nat} {F : List D → R D} {fa : MA} {ρ ρ1 : Rho} {l : List D} {d : D} (h : fa ρ = .ok (l, ρ1)) (q : F l = .ok d) (hl : l.length = n := by rfl) : mCallP n F fa ρ = .ok (d, ρ1) := by
  unfold mCallP
  rw [h, R.bind_ok]
  dsimp only
  rw [if_pos hl, q]
  rfl
theorem par_ok {i k1 j k2 : Nat} {f g : M} {ρ ρ1 ρ2 ρ3 : Rho} {x y : D} (h1 : f ρ = .ok (x, ρ1)) (h2 : g ρ1 = .ok (y, ρ2)) (e : (ρ2.set i (some (k1, x))).set j (some (k2, y)) = ρ3 := by rfl) : sPar i k1 j k2 f g ρ = .ok (.nx, ρ3) := by
  unfold sPar
  rw [h1, R.bind_ok, h2, R.bind_ok, ← e]
theorem lc_ok {vs : List Nat} {f : M} {g : Tg} {t : MT} {e : M} {ρ ρ1 : Rho} {d : D} {ds ys : List D} (h1 : f ρ = .ok (d, ρ1)) (h2 : itemsD d = some ds) (h3 : compP g t e ds (wipeR ρ1 vs) = .ok ys) (hl : ys.length ≤ big) : mLc vs (iA f) g t e ρ = .ok (.list ys, ρ1) := by
  unfold mLc iA
  rw [h1, R.bind_ok]
  simp only [h2, R.bind_ok, h3, if_pos hl]
theorem app_ok {i : Nat} {f : M} {ρ ρ2 : Rho} {ds : List D} {d : D} (h0 : ρ[i]? = some (some (1, .list ds))) (hf : f ρ = .ok (d, ρ)) (hl : ds.length < big) (e : ρ.set i (some (1, .list (ds ++ [d]))) = ρ2 := by rfl) : mApp i f ρ = .ok (.none, ρ2) := by
  have l0 : lstOf ρ i = some ds := by simp [lstOf, h0]
  unfold mApp
  rw [l0]
  dsimp only
  rw [hf, R.bind_ok]
  dsimp only
  rw [l0]
  dsimp only
  rw [if_pos hl, e]
theorem expr_ok {f : M} {ρ ρ1 : Rho} {d : D} (h : f ρ = .ok (d, ρ1)) : sExpr f ρ = .ok (.nx, ρ1) := by
  unfold sExpr
  rw [h]
  rfl
theorem for_ok {fi : MI} {g : Tg} {s : S} {ρ ρ1 : Rho} {ds : List D} {z : R (Fl × Rho)} (h1 : fi ρ = .ok (ds, ρ1)) (h2 : loopF g s ds ρ1 = z) : sFor fi g s ρ = z := by
  unfold sFor
  rw [h1, R.bind_ok]
  exact h2
theorem iA_ok {f : M} {ρ ρ1 : Rho} {d : D} {ds : List D} (h1 : f ρ = .ok (d, ρ1)) (h2 : itemsD d = some ds) : iA f ρ = .ok (ds, ρ1) := by
  unfold iA
  rw [h1, R.bind_ok]
  simp only [h2]
theorem loop_nx {g : Tg} {s : S} {d : D} {ds : List D} {ρ ρ1 ρ2 : Rho} (h1 : g d ρ = some ρ1) (h2 : s ρ1 = .ok (.nx, ρ2)) : loopF g s (d :: ds) ρ = loopF g s ds ρ2 := by
  rw [loopF, h1]
  dsimp only
  rw [h2]
  rfl
theorem loop_ret {g : Tg} {s : S} {d v : D} {ds : List D} {ρ ρ1 ρ2 : Rho} (h1 : g d ρ = some ρ1) (h2 : s ρ1 = .ok (.ret v, ρ2)) : loopF g s (d :: ds) ρ = .ok (.ret v, ρ2) := by
  rw [loopF, h1]
  dsimp only
  rw [h2]
  rfl
theorem take_ok {i : Nat} {ρ ρ2 : Rho} {d : D} (h : ρ[i]? = some (some (1, d))) (e : ρ.set i (some (0, d)) = ρ2 := by rfl) : mTake i ρ = .ok (d, ρ2) := by
  unfold mTake
  rw [h]
  dsimp only
  rw [if_pos (Or.inr rfl), e]
theorem asg_ok {g : Tg} {f : M} {ρ ρ1 ρ2 : Rho} {d : D} (h : f ρ = .ok (d, ρ1)) (e : g d ρ1 = some ρ2) : sAsg g f ρ = .ok (.nx, ρ2) := by
  unfold sAsg
  rw [h, R.bind_ok]
  dsimp only
  rw [e]
theorem not_ok {f : MT} {ρ ρ1 : Rho} {b : Bool} (h : f ρ = .ok (b, ρ1)) : tNotM f ρ = .ok (!b, ρ1) := by
  unfold tNotM
  rw [h]
  rfl
theorem or_f {f g : MT} {ρ ρ1 ρ2 : Rho} {b : Bool} (h : f ρ = .ok (false, ρ1)) (k : g ρ1 = .ok (b, ρ2)) : tOrM f g ρ = .ok (b, ρ2) := by
  unfold tOrM
  rw [h, R.bind_ok]
  exact k
theorem and_t {f g : M} {ρ ρ1 : Rho} {z : R (D × Rho)} (h : f ρ = .ok (.bool true, ρ1)) (k : g ρ1 = z) : mAnd f g ρ = z := by
  unfold mAnd
  rw [h, R.bind_ok]
  exact k
theorem ch_t {g g' : D → D → Option D} {fa fb fc : M} {ρ ρ1 ρ2 ρ3 : Rho} {x y z r : D} (h1 : fa ρ = .ok (x, ρ1)) (h2 : fb ρ1 = .ok (y, ρ2)) (h3 : fc ρ2 = .ok (z, ρ3)) (e1 : g x y = some (.bool true)) (e2 : g' y z = some r) : mCh g g' fa fb fc ρ = .ok (r, ρ3) := by
  unfold mCh
  rw [h1, R.bind_ok]
  dsimp only
  rw [h2, R.bind_ok]
  dsimp only
  rw [e1]
  dsimp only
  rw [h3, R.bind_ok]
  dsimp only
  rw [e2]
  rfl
structure Rw where
  c : Int
  k : Int
  o : Option Int
def Rw.Ok (r : Rw) : Prop := 0 ≤ r.c ∧ r.c ≤ 3 ∧ 0 ≤ r.k ∧ r.k ≤ 127 ∧ ∀ s, r.o = some s → 0 ≤ r.k + s ∧ r.k + s ≤ 127
abbrev nD (c k : Int) : D := .tuple [.int c, .int k]
def tD (c k : Int) : Option Int → D
  | none => .tuple []
  | some s => .tuple [nD c (k + s)]
def rD (r : Rw) : D := .tuple [nD r.c r.k, tD r.c r.k r.o]
abbrev rsD (rows : List Rw) : D := .tuple (rows.map rD)
theorem sm_nD (c k : Int) : Sm 1 (nD c k) := sm_tup fun d hd => by
  rcases List.mem_cons.mp hd with rfl | hd
  · exact sm_int _
  · rw [List.mem_singleton.mp hd]
    exact sm_int _
theorem sm_tD (c k : Int) (o : Option Int) : Sm 2 (tD c k o) := by
  cases o with
  | none => exact (sm_tup (n := 1) fun d hd => by cases hd)
  | some s =>
    refine sm_tup fun d hd => ?_
    rw [List.mem_singleton.mp hd]
    exact sm_nD _ _
theorem eqv_int (a b : Int) : PyData.eqv (.int a) (.int b) = decide (a = b) := by
  simp only [PyData.eqv]
  by_cases h : a = b <;> simp [h]
theorem eqv_nD (c k c' k' : Int) : PyData.eqv (nD c k) (nD c' k') = (decide (c = c') && decide (k = k')) := by
  simp only [nD, PyData.eqv, PyData.eqvAll]
  by_cases h : c = c' <;> by_cases h2 : k = k' <;> simp [h, h2]
theorem eqv_tD (c k : Int) (o o' : Option Int) : PyData.eqv (tD c k o) (tD c k o') = decide (o = o') := by
  cases o with
  | none =>
    cases o' with
    | none => simp [tD, PyData.eqv, PyData.eqvAll]
    | some s => simp [tD, PyData.eqv, PyData.eqvAll]
  | some s =>
    cases o' with
    | none => simp [tD, PyData.eqv, PyData.eqvAll]
    | some s' =>
      have e := eqv_nD c (k + s) c (k + s')
      simp only [tD, PyData.eqv, PyData.eqvAll] at e ⊢
      by_cases h : s = s'
      · subst h
        simpa using e
      · have h2 : ¬ (k + s = k + s') := by omega
        simp only [decide_true, h2, decide_false, Bool.and_false] at e
        simp [h]
theorem ne_tD (c k : Int) (o o' : Option Int) : dNe (tD c k o) (tD c k o') = some (.bool (!decide (o = o'))) := by
  unfold dNe
  rw [if_pos ⟨(sm_tD c k o).shaped, (sm_tD c k o').shaped⟩, eqv_tD]
theorem eq_tD (c k : Int) (o o' : Option Int) : dEq (tD c k o) (tD c k o') = some (.bool (decide (o = o'))) := by
  unfold dEq
  rw [if_pos ⟨(sm_tD c k o).shaped, (sm_tD c k o').shaped⟩, eqv_tD]
theorem row0 (r : Rw) : dIxK (rD r) (.int 0) = some (nD r.c r.k) := ix0 _ _
theorem row1 (r : Rw) : dIxK (rD r) (.int 1) = some (tD r.c r.k r.o) := ix1 _ _ _
theorem note0 (c k : Int) : dIxK (nD c k) (.int 0) = some (.int c) := ix0 _ _
theorem note1 (c k : Int) : dIxK (nD c k) (.int 1) = some (.int k) := ix1 _ _ _
theorem ch_ok {g g' : D → D → Option D} {fa fb fc : M} {ρ ρ1 ρ2 : Rho} {x y z : D} {a b : Bool} (h1 : fa ρ = .ok (x, ρ1)) (h2 : fb ρ1 = .ok (y, ρ2)) (h3 : fc ρ2 = .ok (z, ρ2)) (e1 : g x y = some (.bool a)) (e2 : g' y z = some (.bool b)) : mCh g g' fa fb fc ρ = .ok (.bool (a && b), ρ2) := by
  unfold mCh
  rw [h1, R.bind_ok]
  dsimp only
  rw [h2, R.bind_ok]
  dsimp only
  rw [e1]
  cases a with
  | true =>
    dsimp only
    rw [h3, R.bind_ok]
    dsimp only
    rw [e2]
    rfl
  | false => rfl
theorem and_ok {f g : M} {ρ : Rho} {a b : Bool} (h : f ρ = .ok (.bool a, ρ)) (k : g ρ = .ok (.bool b, ρ)) : mAnd f g ρ = .ok (.bool (a && b), ρ) := by
  unfold mAnd
  rw [h, R.bind_ok]
  cases a with
  | true => exact k
  | false => rfl
theorem tand_ok {f g : MT} {ρ : Rho} {a b : Bool} (h : f ρ = .ok (a, ρ)) (k : g ρ = .ok (b, ρ)) : tAndM f g ρ = .ok (a && b, ρ) := by
  unfold tAndM
  rw [h, R.bind_ok]
  cases a with
  | true => exact k
  | false => rfl
theorem or_ok {f g : MT} {ρ : Rho} {a b : Bool} (h : f ρ = .ok (a, ρ)) (k : g ρ = .ok (b, ρ)) : tOrM f g ρ = .ok (a || b, ρ) := by
  unfold tOrM
  rw [h, R.bind_ok]
  cases a with
  | true => rfl
  | false => exact k
theorem le_I (a b : Int) : dLe (.int a) (.int b) = some (.bool (decide (a ≤ b))) := rfl
theorem lt_I (a b : Int) : dLt2 (.int a) (.int b) = some (.bool (decide (a < b))) := rfl
theorem isint_ok (k lo hi : Int) (h1 : lo ≤ k) (h2 : k ≤ hi) : F_is_integer [.int k, .int lo, .int hi] = .ok (.bool true) := by
  refine runP_ret (ρ := [some (0, .int k), some (0, .int lo), some (0, .int hi)]) ?_
  show s_is_integer [some (0, .int k), some (0, .int lo), some (0, .int hi)] = _
  unfold s_is_integer
  refine ret_ok (and_t (u_ok (x := .int k) v_ok rfl) (and_t (ρ1 := [some (0, .int k), some (0, .int lo), some (0, .int hi)]) ?_ (ch_t (x := .int lo) (y := .int k) (z := .int hi) v_ok v_ok v_ok ?_ ?_)))
  · unfold mNot
    rw [u_ok (x := .int k) (z := .bool false) (ρ1 := [some (0, .int k), some (0, .int lo), some (0, .int hi)]) v_ok rfl]
    rfl
  · rw [le_I, decide_eq_true h1]
  · rw [le_I, decide_eq_true h2]
theorem isnote_ok (c k : Int) (h : 0 ≤ c ∧ c ≤ 3 ∧ 0 ≤ k ∧ k ≤ 127) : F_is_note [nD c k] = .ok (.bool true) := by
  refine runP_ret (ρ := [some (0, nD c k)]) ?_
  show s_is_note [some (0, nD c k)] = _
  unfold s_is_note
  have t : tOrM (tNotM (fun ρ => toB ((mU (dIsI .tuple) (mVar 0)) ρ))) (fun ρ => toB (mB dNe (mU dLen (mVar 0)) (mC (.int 2)) ρ)) [some (0, nD c k)] = .ok (false, [some (0, nD c k)]) := by
    refine or_f (not_ok (b := true) (t_ok (u_ok v_ok rfl))) (t_ok (b_ok (x := .int 2) (u_ok v_ok rfl) rfl ?_))
    kernel_rfl
  refine (seq_nx ((s_if t).trans rfl)).trans (seq_ret (ret_ok (and_t (ρ1 := [some (0, nD c k)]) ?_ ?_)))
  · exact call_ok (l := [.int c, .int 0, .int 3]) (a_cons (b_ok v_ok rfl (note0 _ _)) (a_cons rfl (a_cons (b_ok rfl rfl rfl) rfl))) (isint_ok _ _ _ (by omega) (by omega))
  · exact call_ok (l := [.int k, .int 0, .int 127]) (a_cons (b_ok v_ok rfl (note1 _ _)) (a_cons rfl (a_cons (b_ok rfl rfl rfl) rfl))) (isint_ok _ _ _ (by omega) (by omega))
theorem isrow_ok (r : Rw) (h : r.Ok) : F_is_row [rD r] = .ok (.bool true) := by
  obtain ⟨c, k, o⟩ := r
  obtain ⟨h1, h2, h3, h4, h5⟩ := h
  dsimp only at h1 h2 h3 h4 h5
  refine runP_ret (ρ := [some (0, rD ⟨c, k, o⟩), none, none, none]) ?_
  show s_is_row [some (0, rD ⟨c, k, o⟩), none, none, none] = _
  unfold s_is_row
  have t : tOrM (tNotM (fun ρ => toB ((mU (dIsI .tuple) (mVar 0)) ρ))) (tOrM (fun ρ => toB (mB dNe (mU dLen (mVar 0)) (mC (.int 2)) ρ)) (tOrM (tNotM (fun ρ => toB ((mCallP 1 F_is_note (aCons (mB dIxK (mVar 0) (mC (.int 0))) aNil)) ρ))) (tNotM (fun ρ => toB ((mU (dIsI .tuple) (mB dIxK (mVar 0) (mC (.int 1)))) ρ)))))
      [some (0, rD ⟨c, k, o⟩), none, none, none] = .ok (false, [some (0, rD ⟨c, k, o⟩), none, none, none]) := by
    refine or_f (not_ok (b := true) (t_ok (u_ok v_ok rfl))) (or_f (t_ok (b_ok (x := .int 2) (u_ok v_ok rfl) rfl (by kernel_rfl))) (or_f (not_ok (b := true) (t_ok (call_ok (a_cons (b_ok v_ok rfl (row0 _)) rfl) (isnote_ok _ _ ⟨h1, h2, h3, h4⟩)))) (not_ok (b := true) (t_ok (u_ok (b_ok v_ok rfl (row1 _)) ?_)))))
    cases o <;> rfl
  refine (seq_nx ((s_if t).trans rfl)).trans ?_
  have t2 : tNotM (fun ρ => toB ((mU dAll (mLc [1] (iA (mB dIxK (mVar 0) (mC (.int 1)))) (gN 1) tTrue (mCallP 1 F_is_note (aCons (mVar 1) aNil)))) ρ)) [some (0, rD ⟨c, k, o⟩), none, none, none] = .ok (false, [some (0, rD ⟨c, k, o⟩), none, none, none]) := by
    cases o with
    | none => exact not_ok (b := true) (t_ok (u_ok (lc_ok (ds := []) (ys := []) (b_ok v_ok rfl (row1 _)) rfl rfl (by decide)) rfl))
    | some s =>
      obtain ⟨a, b⟩ := h5 s rfl
      have q := compP_map (g := gN 1) (t := tTrue) (f := mCallP 1 F_is_note (aCons (mVar 1) aNil)) (ρ := [some (0, rD ⟨c, k, some s⟩), none, none, none]) (fun _ => nD c (k + s)) (fun _ => true) (fun _ => (.bool true : D)) [()] fun _ _ =>
        ⟨[some (0, rD ⟨c, k, some s⟩), some (0, nD c (k + s)), none, none], rfl, ⟨_, rfl⟩, fun _ => ⟨_, call_ok (a_cons v_ok rfl) (isnote_ok _ _ ⟨h1, h2, a, b⟩)⟩⟩
      exact not_ok (b := true) (t_ok (u_ok (lc_ok (ds := [nD c (k + s)]) (ys := [.bool true]) (b_ok v_ok rfl (row1 _)) rfl q (by decide)) rfl))
  refine (seq_nx ((s_if t2).trans rfl)).trans (seq_ret (ret_ok ?_))
  cases o with
  | none => rfl
  | some s => rfl
end L61
set_option maxHeartbeats 2000000
namespace L61
open PySem PySem.Spec L2 Nc
open PyProof.Rows hiding St
open PySem.W (alike alikeAll dataLe dataLt dataLt_int minD maxD)
def mnI : Int → List Int → Int
  | a, [] => a
  | a, x :: l => mnI (if x < a then x else a) l
def mxI : Int → List Int → Int
  | a, [] => a
  | a, x :: l => mxI (if a < x then x else a) l
abbrev iL (l : List Int) : List D := l.map PyData.int
theorem cmp_ints (l : List Int) (hl : l.length ≤ 100000) : cmpB (iL l) = true := by
  unfold cmpB
  rw [Bool.and_eq_true, Bool.and_eq_true]
  refine ⟨⟨?_, ?_⟩, ?_⟩
  · unfold allAlikeB
    rw [List.all_eq_true]
    intro a ha
    rw [List.all_eq_true]
    intro b hb
    obtain ⟨x, _, rfl⟩ := List.mem_map.mp ha
    obtain ⟨y, _, rfl⟩ := List.mem_map.mp hb
    simp [alike]
  · unfold noNone
    rw [List.all_eq_true]
    intro a ha
    obtain ⟨x, _, rfl⟩ := List.mem_map.mp ha
    rfl
  · exact (sm_lst (n := 0) fun d hd => by
      obtain ⟨x, _, rfl⟩ := List.mem_map.mp hd
      exact sm_int x).shaped
theorem minD_int : ∀ (l : List Int) (a : Int), minD (.int a) (iL l) = .int (mnI a l)
  | [], a => rfl
  | x :: l, a => by
    show minD (if dataLt (.int x) (.int a) then .int x else .int a) (iL l) = .int (mnI (if x < a then x else a) l)
    rw [dataLt_int]
    by_cases h : x < a
    · rw [if_pos h, if_pos (by simpa using h), minD_int l x]
    · rw [if_neg h, if_neg (by simpa using h), minD_int l a]
theorem maxD_int : ∀ (l : List Int) (a : Int), maxD (.int a) (iL l) = .int (mxI a l)
  | [], a => rfl
  | x :: l, a => by
    show maxD (if dataLt (.int a) (.int x) then .int x else .int a) (iL l) = .int (mxI (if a < x then x else a) l)
    rw [dataLt_int]
    by_cases h : a < x
    · rw [if_pos h, if_pos (by simpa using h), maxD_int l x]
    · rw [if_neg h, if_neg (by simpa using h), maxD_int l a]
theorem min_ok (a : Int) (l : List Int) (hl : l.length ≤ 90000) : dMinL (.list (iL (a :: l))) = some (.int (mnI a l)) := by
  show (if cmpB (iL (a :: l)) = true then some (minD (.int a) (iL l)) else none) = _
  rw [if_pos (cmp_ints _ (by simp; omega)), minD_int]
theorem max_ok (a : Int) (l : List Int) (hl : l.length ≤ 90000) : dMaxL (.list (iL (a :: l))) = some (.int (mxI a l)) := by
  show (if cmpB (iL (a :: l)) = true then some (maxD (.int a) (iL l)) else none) = _
  rw [if_pos (cmp_ints _ (by simp; omega)), maxD_int]
theorem mnI_spec : ∀ (l : List Int) (a : Int), mnI a l ∈ a :: l ∧ ∀ x ∈ a :: l, mnI a l ≤ x
  | [], a => ⟨List.mem_cons_self, fun x hx => by rw [List.mem_singleton.mp hx]; exact Int.le_refl _⟩
  | y :: l, a => by
    obtain ⟨h1, h2⟩ := mnI_spec l (if y < a then y else a)
    have e : mnI a (y :: l) = mnI (if y < a then y else a) l := rfl
    rw [e]
    refine ⟨?_, fun x hx => ?_⟩
    · rcases List.mem_cons.mp h1 with h | h
      · rw [h]
        split
        · simp
        · simp
      · exact List.mem_cons_of_mem _ (List.mem_cons_of_mem _ h)
    · have h0 := h2 (if y < a then y else a) List.mem_cons_self
      have h3 : mnI (if y < a then y else a) l ≤ y ∧ mnI (if y < a then y else a) l ≤ a := by
        generalize mnI (if y < a then y else a) l = m at h0 ⊢
        split at h0 <;> omega
      rcases List.mem_cons.mp hx with h | h
      · rw [h]
        first | exact h3.1 | exact h3.2
      · rcases List.mem_cons.mp h with h | h
        · rw [h]
          first | exact h3.1 | exact h3.2
        · exact h2 x (List.mem_cons_of_mem _ h)
theorem mxI_spec : ∀ (l : List Int) (a : Int), mxI a l ∈ a :: l ∧ ∀ x ∈ a :: l, x ≤ mxI a l
  | [], a => ⟨List.mem_cons_self, fun x hx => by rw [List.mem_singleton.mp hx]; exact Int.le_refl _⟩
  | y :: l, a => by
    obtain ⟨h1, h2⟩ := mxI_spec l (if a < y then y else a)
    have e : mxI a (y :: l) = mxI (if a < y then y else a) l := rfl
    rw [e]
    refine ⟨?_, fun x hx => ?_⟩
    · rcases List.mem_cons.mp h1 with h | h
      · rw [h]
        split
        · simp
        · simp
      · exact List.mem_cons_of_mem _ (List.mem_cons_of_mem _ h)
    · have h0 := h2 (if a < y then y else a) List.mem_cons_self
      have h3 : y ≤ mxI (if a < y then y else a) l ∧ a ≤ mxI (if a < y then y else a) l := by
        generalize mxI (if a < y then y else a) l = m at h0 ⊢
        split at h0 <;> omega
      rcases List.mem_cons.mp hx with h | h
      · rw [h]
        first | exact h3.1 | exact h3.2
      · rcases List.mem_cons.mp h with h | h
        · rw [h]
          first | exact h3.1 | exact h3.2
        · exact h2 x (List.mem_cons_of_mem _ h)
theorem mnI_eq {l : List Int} {a m : Int} (h1 : m ∈ a :: l) (h2 : ∀ x ∈ a :: l, m ≤ x) : mnI a l = m := by
  obtain ⟨k1, k2⟩ := mnI_spec l a
  have := k2 m h1
  have := h2 _ k1
  omega
theorem mxI_eq {l : List Int} {a m : Int} (h1 : m ∈ a :: l) (h2 : ∀ x ∈ a :: l, x ≤ m) : mxI a l = m := by
  obtain ⟨k1, k2⟩ := mxI_spec l a
  have := k2 m h1
  have := h2 _ k1
  omega
theorem bools_of : ∀ l : List Bool, bools (l.map PyData.bool) = some l
  | [] => rfl
  | b :: l => by
    show (bools (l.map PyData.bool)).map (b :: ·) = _
    rw [bools_of l]
    rfl
def some' (rows : List Rw) : List Rw := rows.filter fun r => r.o.isSome
theorem require_ok (rows : List Rw) (h1 : rows ≠ []) (h2 : rows.length ≤ 10) (h : ∀ r ∈ rows, r.Ok) (hs : some' rows ≠ []) : F_require_observed [rsD rows] = .ok .none := by
  refine runP_nx (ρ := [some (0, rsD rows), none]) ?_
  show s_require_observed [some (0, rsD rows), none] = _
  unfold s_require_observed
  have len : dLen (rsD rows) = some (.int (rows.length : Int)) := by
    show some (PyData.int ((rows.map rD).length : Int)) = _
    rw [List.length_map]
  have hp : 1 ≤ rows.length := by
    cases rows with
    | nil => exact absurd rfl h1
    | cons _ _ => simp
  have t1 : tOrM (tNotM (fun ρ => toB ((mU (dIsI .tuple) (mVar 0)) ρ))) (tNotM (fun ρ => toB (mCh dLe dLe (mC (.int 1)) (mU dLen (mVar 0)) (mC (.int 10)) ρ))) [some (0, rsD rows), none] = .ok (false, [some (0, rsD rows), none]) := by
    refine or_f (not_ok (b := true) (t_ok (u_ok v_ok rfl))) (not_ok (b := true) (t_ok (ch_t (x := .int 1) (y := .int (rows.length : Int)) (z := .int 10) rfl (u_ok v_ok len) rfl ?_ ?_)))
    · rw [le_I, decide_eq_true (by omega)]
    · rw [le_I, decide_eq_true (by omega)]
  have q1 := compP_map (g := gN 1) (t := tTrue) (f := mCallP 1 F_is_row (aCons (mVar 1) aNil)) (ρ := [some (0, rsD rows), none]) rD (fun _ => true) (fun _ => (.bool true : D)) rows fun r hr =>
    ⟨[some (0, rsD rows), some (0, rD r)], rfl, ⟨_, rfl⟩, fun _ => ⟨_, call_ok (a_cons v_ok rfl) (isrow_ok r (h r hr))⟩⟩
  rw [List.filter_eq_self.mpr (fun _ _ => rfl)] at q1
  have q2 := compP_map (g := gN 1) (t := tTrue) (f := mB dNe (mB dIxK (mVar 1) (mC (.int 1))) (mTup aNil)) (ρ := [some (0, rsD rows), none]) rD (fun _ => true) (fun r => (.bool (!decide (r.o = none)) : D)) rows fun r hr =>
    ⟨[some (0, rsD rows), some (0, rD r)], rfl, ⟨_, rfl⟩, fun _ => ⟨_, b_ok (b_ok v_ok rfl (row1 r)) (tup_ok rfl) (ne_tD r.c r.k r.o none)⟩⟩
  rw [List.filter_eq_self.mpr (fun _ _ => rfl)] at q2
  have hb : ∀ {f : Rw → D}, (rows.map f).length ≤ big := fun {f} => by
    rw [List.length_map]
    unfold big
    omega
  have a1 : dAll (.list (rows.map fun _ => (.bool true : D))) = some (.bool true) := by
    have e : (rows.map fun _ => (.bool true : D)) = (rows.map fun _ => true).map PyData.bool := by rw [List.map_map]; rfl
    rw [e]
    show (bools _).map (fun bs => PyData.bool (bs.all _root_.id)) = _
    rw [bools_of, Option.map_some]
    congr 2
    simp
  have a2 : dAny (.list (rows.map fun r => (.bool (!decide (r.o = none)) : D))) = some (.bool true) := by
    have e : (rows.map fun r => (.bool (!decide (r.o = none)) : D)) = (rows.map fun r => !decide (r.o = none)).map PyData.bool := by rw [List.map_map]; rfl
    rw [e]
    show (bools _).map (fun bs => PyData.bool (bs.any _root_.id)) = _
    rw [bools_of, Option.map_some]
    congr 2
    cases e2 : some' rows with
    | nil => exact absurd e2 hs
    | cons r l =>
      have hr : r ∈ some' rows := by rw [e2]; exact List.mem_cons_self
      obtain ⟨m1, m2⟩ := List.mem_filter.mp hr
      refine List.any_eq_true.mpr ⟨true, List.mem_map.mpr ⟨r, m1, ?_⟩, rfl⟩
      cases eo : r.o with
      | none => rw [eo] at m2; cases m2
      | some _ => simp
  have t2 : tOrM (tNotM (fun ρ => toB ((mU dAll (mLc [1] (iA (mVar 0)) (gN 1) tTrue (mCallP 1 F_is_row (aCons (mVar 1) aNil)))) ρ))) (tNotM (fun ρ => toB ((mU dAny (mLc [1] (iA (mVar 0)) (gN 1) tTrue (mB dNe (mB dIxK (mVar 1) (mC (.int 1))) (mTup aNil)))) ρ))) [some (0, rsD rows), none] = .ok (false, [some (0, rsD rows), none]) :=
    or_f (not_ok (b := true) (t_ok (u_ok (lc_ok v_ok rfl q1 hb) a1))) (not_ok (b := true) (t_ok (u_ok (lc_ok v_ok rfl q2 hb) a2)))
  exact (seq_nx ((s_if t1).trans rfl)).trans ((seq_nx ((s_if t2).trans rfl)).trans rfl)
end L61
set_option maxHeartbeats 2000000
namespace L61
open PySem PySem.Spec L2 Nc
open PyProof.Rows hiding St
theorem ne_nil {l : List D} {n : Nat} (h : ∀ d ∈ l, Sm n d) (hn : n ≤ 10) : dNe (.list l) (.list []) = some (.bool (!decide (l = []))) := by
  unfold dNe
  have s1 : SeqAt.shaped (.list l) = true := ((sm_lst h).mono (show n + 1 ≤ 11 by omega)).shaped
  rw [if_pos ⟨s1, (sm_lst (n := 0) (fun d hd => by cases hd)).shaped⟩]
  cases l with
  | nil => rfl
  | cons x r => simp [PyData.eqv, PyData.eqvAll]
theorem sm_rD (r : Rw) : Sm 3 (rD r) := sm_tup fun d hd => by
  rcases List.mem_cons.mp hd with rfl | hd
  · exact (sm_nD _ _).mono (by decide)
  · rw [List.mem_singleton.mp hd]
    exact sm_tD _ _ _
theorem ne_rows (l : List Rw) : dNe (.list (l.map rD)) (.list []) = some (.bool (!decide (l = []))) := by
  rw [ne_nil (n := 3) (fun d hd => by
    obtain ⟨r, _, rfl⟩ := List.mem_map.mp hd
    exact sm_rD r) (by decide)]
  congr 3
  simp
theorem ne_ints (l : List Int) : dNe (.list (iL l)) (.list []) = some (.bool (!decide (l = []))) := by
  rw [ne_nil (n := 0) (fun d hd => by
    obtain ⟨r, _, rfl⟩ := List.mem_map.mp hd
    exact sm_int r) (by decide)]
  congr 3
  simp
theorem runP_ret' {n m : Nat} {s : S} {ds : List D} {sm : D} (h : ∃ ρ, s (ins (List.replicate m 0) ds ++ List.replicate (n - m) none) = .ok (.ret sm, ρ)) : runP n m s ds = .ok sm := by
  obtain ⟨ρ, h⟩ := h
  exact runP_ret h
def gone (rows : List Rw) (s : Int) : List Int := (rows.filter fun r => decide (r.o = none) && (decide (0 ≤ r.k + s) && decide (r.k + s < 128))).map (·.k)
structure Mv where
  s : Int
  low : Int
  mn : Int
  mx : Int
  high : Int
def encM : Option Mv → D
  | none => .list []
  | some m => .list [.tuple [.int m.s, nD m.low m.mn, nD m.mx m.high]]
def mn (r0 : Rw) (rs : List Rw) : Int := mnI r0.k (rs.map (·.k))
def mx (r0 : Rw) (rs : List Rw) : Int := mxI r0.k (rs.map (·.k))
def mv (rows : List Rw) (s : Int) (r0 : Rw) (rs : List Rw) : Option Mv :=
  if ((r0 :: rs).filter fun r => !decide (r.o = some s)) ≠ [] then none
  else if ((gone rows s).filter fun g => decide (mn r0 rs ≤ g) && decide (g ≤ mx r0 rs)) ≠ [] then none
  else some ⟨s, mxI (-1) ((gone rows s).filter fun g => decide (g < mn r0 rs)) + 1, mn r0 rs, mx r0 rs, mnI 128 ((gone rows s).filter fun g => decide (mx r0 rs < g)) - 1⟩
theorem some_eq (rows : List Rw) : (rows.filter fun r => !decide (r.o = none)) = some' rows := by
  unfold some'
  congr 1
  funext r
  cases r.o <;> rfl
abbrev mf (rows : List Rw) (S1 S2 S3 S4 S5 S6 S7 S8 : Slot) : Rho := [some (0, rsD rows), S1, S2, S3, S4, S5, S6, S7, S8]
theorem gt_I (a b : Int) : dGt1 (.int a) (.int b) = some (.bool (decide (b < a))) := rfl
theorem moves_ok (rows : List Rw) (hl : rows.length ≤ 10) (r0 : Rw) (rs : List Rw) (s : Int) (h0 : some' rows = r0 :: rs) (hs : r0.o = some s) : F_moves_of [rsD rows] = .ok (encM (mv rows s r0 rs)) := by
  have lb : ∀ {α : Type} (f : Rw → Bool) (g : Rw → α) , ((rows.filter f).map g).length ≤ 10 := fun f g => by
    rw [List.length_map]
    exact Nat.le_trans (List.length_filter_le _ _) hl
  have lsm : (r0 :: rs).length ≤ 10 := by
    rw [← h0]
    exact Nat.le_trans (List.length_filter_le _ _) hl
  have lrs : rs.length ≤ 9 := by simpa using lsm
  have lg : (gone rows s).length ≤ 10 := by unfold gone; exact lb _ _
  have big10 : ∀ {n : Nat}, n ≤ 10 → n ≤ big := fun h => by unfold big; omega
  let SM : D := .list ((r0 :: rs).map rD)
  let KS : D := .list (iL (r0.k :: rs.map (·.k)))
  let GO : D := .list (iL (gone rows s))
  -- some
  have q1 := compP_map (g := gN 2) (t := fun ρ => toB (mB dNe (mB dIxK (mVar 2) (mC (.int 1))) (mTup aNil) ρ)) (f := mVar 2) (ρ := mf rows none none none none none none none none) rD (fun r => !decide (r.o = none)) rD rows fun r _ =>
    ⟨mf rows none (some (0, rD r)) none none none none none none, rfl, ⟨_, t_ok (b_ok (b_ok v_ok rfl (row1 r)) (tup_ok rfl) (ne_tD r.c r.k r.o none))⟩, fun _ => ⟨_, v_ok⟩⟩
  rw [some_eq, h0] at q1
  have s1 : sSet 1 0 (mLc [2] (iA (mVar 0)) (gN 2) (fun ρ => toB (mB dNe (mB dIxK (mVar 2) (mC (.int 1))) (mTup aNil) ρ)) (mVar 2)) (mf rows none none none none none none none none) = .ok (.nx, mf rows (some (0, SM)) none none none none none none none) :=
    set_ok (lc_ok v_ok rfl q1 (by rw [List.length_map]; exact big10 lsm))
  -- shift
  have e1 : dIxK SM (.int 0) = some (rD r0) := lx0 _ _
  have e2 : dIxK (rD r0) (.int 1) = some (.tuple [nD r0.c (r0.k + s)]) := by
    rw [row1, hs]
    rfl
  have s2 : sSet 3 0 (mB dSub (mB dIxK (mB dIxK (mB dIxK (mB dIxK (mVar 1) (mC (.int 0))) (mC (.int 1))) (mC (.int 0))) (mC (.int 1))) (mB dIxK (mB dIxK (mB dIxK (mVar 1) (mC (.int 0))) (mC (.int 0))) (mC (.int 1)))) (mf rows (some (0, SM)) none none none none none none none) =
      .ok (.nx, mf rows (some (0, SM)) none (some (0, .int s)) none none none none none) := by
    refine set_ok (d := .int s) (b_ok (b_ok (b_ok (b_ok (b_ok v_ok rfl e1) rfl e2) rfl (ix0 _ _)) rfl (note1 _ _)) (b_ok (b_ok (b_ok v_ok rfl e1) rfl (row0 r0)) rfl (note1 _ _)) ?_)
    show some (PyData.int (r0.k + s - r0.k)) = _
    congr 2
    omega
  -- other shifts
  have q3 := compP_map (g := gN 2) (t := fun ρ => toB (mB dNe (mB dIxK (mVar 2) (mC (.int 1))) (mTup (aCons (mTup (aCons (mB dIxK (mB dIxK (mVar 2) (mC (.int 0))) (mC (.int 0))) (aCons (mB dAdd (mB dIxK (mB dIxK (mVar 2) (mC (.int 0))) (mC (.int 1))) (mVar 3)) aNil))) aNil)) ρ)) (f := mVar 2)
    (ρ := mf rows (some (0, SM)) none (some (0, .int s)) none none none none none) rD (fun r => !decide (r.o = some s)) rD (r0 :: rs) fun r _ =>
    ⟨mf rows (some (0, SM)) (some (0, rD r)) (some (0, .int s)) none none none none none, rfl, ⟨_, t_ok (b_ok (b_ok v_ok rfl (row1 r)) (tup_ok (a_cons (tup_ok (a_cons (b_ok (b_ok v_ok rfl (row0 r)) rfl (note0 _ _)) (a_cons (b_ok (b_ok (b_ok v_ok rfl (row0 r)) rfl (note1 _ _)) v_ok rfl) rfl))) rfl)) (ne_tD r.c r.k r.o (some s)))⟩, fun _ => ⟨_, v_ok⟩⟩
  have t3 : toB (mB dNe (mLc [2] (iA (mVar 1)) (gN 2) (fun ρ => toB (mB dNe (mB dIxK (mVar 2) (mC (.int 1))) (mTup (aCons (mTup (aCons (mB dIxK (mB dIxK (mVar 2) (mC (.int 0))) (mC (.int 0))) (aCons (mB dAdd (mB dIxK (mB dIxK (mVar 2) (mC (.int 0))) (mC (.int 1))) (mVar 3)) aNil))) aNil)) ρ)) (mVar 2)) (mLst aNil)
      (mf rows (some (0, SM)) none (some (0, .int s)) none none none none none)) = .ok (!decide (((r0 :: rs).filter fun r => !decide (r.o = some s)) = []), mf rows (some (0, SM)) none (some (0, .int s)) none none none none none) :=
    t_ok (b_ok (lc_ok v_ok rfl q3 (by rw [List.length_map]; exact big10 (Nat.le_trans (List.length_filter_le _ _) lsm))) (lst_ok rfl) (ne_rows _))
  refine runP_ret' (sm := encM (mv rows s r0 rs)) ?_
  show ∃ ρ', s_moves_of (mf rows none none none none none none none none) = .ok (.ret (encM (mv rows s r0 rs)), ρ')
  unfold s_moves_of
  rw [seq_nx s1, seq_nx s2]
  by_cases c1 : ((r0 :: rs).filter fun r => !decide (r.o = some s)) = []
  case neg =>
    refine ⟨mf rows (some (0, SM)) none (some (0, .int s)) none none none none none, seq_ret ((s_if t3).trans ?_)⟩
    rw [decide_eq_false c1, if_pos (show (!false) = true from rfl)]
    unfold mv
    rw [if_pos c1]
    exact ret_ok (lst_ok rfl)
  rw [decide_eq_true c1] at t3
  rw [seq_nx ((s_if t3).trans rfl)]
  -- keys
  have q4 := compP_map (g := gN 2) (t := tTrue) (f := mB dIxK (mB dIxK (mVar 2) (mC (.int 0))) (mC (.int 1))) (ρ := mf rows (some (0, SM)) none (some (0, .int s)) none none none none none) rD (fun _ => true) (fun r => (.int r.k : D)) (r0 :: rs) fun r _ =>
    ⟨mf rows (some (0, SM)) (some (0, rD r)) (some (0, .int s)) none none none none none, rfl, ⟨_, rfl⟩, fun _ => ⟨_, b_ok (b_ok v_ok rfl (row0 r)) rfl (note1 _ _)⟩⟩
  rw [List.filter_eq_self.mpr (fun _ _ => rfl)] at q4
  have e4 : (r0 :: rs).map (fun r => (.int r.k : D)) = iL (r0.k :: rs.map (·.k)) := by simp [iL]
  rw [e4] at q4
  have s4 : sSet 4 0 (mLc [2] (iA (mVar 1)) (gN 2) tTrue (mB dIxK (mB dIxK (mVar 2) (mC (.int 0))) (mC (.int 1)))) (mf rows (some (0, SM)) none (some (0, .int s)) none none none none none) = .ok (.nx, mf rows (some (0, SM)) none (some (0, .int s)) (some (0, KS)) none none none none) :=
    set_ok (lc_ok v_ok rfl q4 (by rw [List.length_map]; exact big10 (by simp; omega)))
  rw [seq_nx s4]
  -- gone
  have q5 := compP_map (g := gN 2) (t := tAndM (fun ρ => toB (mB dEq (mB dIxK (mVar 2) (mC (.int 1))) (mTup aNil) ρ)) (fun ρ => toB (mCh dLe dLt2 (mC (.int 0)) (mB dAdd (mB dIxK (mB dIxK (mVar 2) (mC (.int 0))) (mC (.int 1))) (mVar 3)) (mC (.int 128)) ρ))) (f := mB dIxK (mB dIxK (mVar 2) (mC (.int 0))) (mC (.int 1)))
    (ρ := mf rows (some (0, SM)) none (some (0, .int s)) (some (0, KS)) none none none none) rD (fun r => decide (r.o = none) && (decide (0 ≤ r.k + s) && decide (r.k + s < 128))) (fun r => (.int r.k : D)) rows fun r _ =>
    ⟨mf rows (some (0, SM)) (some (0, rD r)) (some (0, .int s)) (some (0, KS)) none none none none, rfl, ⟨_, tand_ok (t_ok (b_ok (b_ok v_ok rfl (row1 r)) (tup_ok rfl) (eq_tD r.c r.k r.o none))) (t_ok (ch_ok rfl (b_ok (b_ok (b_ok v_ok rfl (row0 r)) rfl (note1 _ _)) v_ok rfl) rfl (le_I _ _) (lt_I _ _)))⟩,
      fun _ => ⟨_, b_ok (b_ok v_ok rfl (row0 r)) rfl (note1 _ _)⟩⟩
  have e5 : (rows.filter fun r => decide (r.o = none) && (decide (0 ≤ r.k + s) && decide (r.k + s < 128))).map (fun r => (.int r.k : D)) = iL (gone rows s) := by
    unfold gone iL
    rw [List.map_map]
    rfl
  rw [e5] at q5
  have s5 : sSet 5 0 (mLc [2] (iA (mVar 0)) (gN 2) (tAndM (fun ρ => toB (mB dEq (mB dIxK (mVar 2) (mC (.int 1))) (mTup aNil) ρ)) (fun ρ => toB (mCh dLe dLt2 (mC (.int 0)) (mB dAdd (mB dIxK (mB dIxK (mVar 2) (mC (.int 0))) (mC (.int 1))) (mVar 3)) (mC (.int 128)) ρ))) (mB dIxK (mB dIxK (mVar 2) (mC (.int 0))) (mC (.int 1))))
      (mf rows (some (0, SM)) none (some (0, .int s)) (some (0, KS)) none none none none) = .ok (.nx, mf rows (some (0, SM)) none (some (0, .int s)) (some (0, KS)) (some (0, GO)) none none none) :=
    set_ok (lc_ok v_ok rfl q5 (by rw [List.length_map]; exact big10 lg))
  rw [seq_nx s5]
  have lk : (rs.map (·.k)).length ≤ 90000 := by rw [List.length_map]; omega
  have mn0 : dMinL KS = some (.int (mn r0 rs)) := min_ok _ _ lk
  have mx0 : dMaxL KS = some (.int (mx r0 rs)) := max_ok _ _ lk
  -- some within
  have q6 := compP_map (g := gN 6) (t := fun ρ => toB (mCh dLe dLe (mU dMinL (mVar 4)) (mVar 6) (mU dMaxL (mVar 4)) ρ)) (f := mVar 6) (ρ := mf rows (some (0, SM)) none (some (0, .int s)) (some (0, KS)) (some (0, GO)) none none none) PyData.int (fun g => decide (mn r0 rs ≤ g) && decide (g ≤ mx r0 rs)) PyData.int (gone rows s) fun g _ =>
    ⟨mf rows (some (0, SM)) none (some (0, .int s)) (some (0, KS)) (some (0, GO)) (some (0, .int g)) none none, rfl, ⟨_, t_ok (ch_ok (u_ok v_ok mn0) v_ok (u_ok v_ok mx0) (le_I _ _) (le_I _ _))⟩, fun _ => ⟨_, v_ok⟩⟩
  have t6 : toB (mB dNe (mLc [6] (iA (mVar 5)) (gN 6) (fun ρ => toB (mCh dLe dLe (mU dMinL (mVar 4)) (mVar 6) (mU dMaxL (mVar 4)) ρ)) (mVar 6)) (mLst aNil) (mf rows (some (0, SM)) none (some (0, .int s)) (some (0, KS)) (some (0, GO)) none none none)) =
      .ok (!decide (((gone rows s).filter fun g => decide (mn r0 rs ≤ g) && decide (g ≤ mx r0 rs)) = []), mf rows (some (0, SM)) none (some (0, .int s)) (some (0, KS)) (some (0, GO)) none none none) :=
    t_ok (b_ok (lc_ok v_ok rfl q6 (by rw [List.length_map]; exact big10 (Nat.le_trans (List.length_filter_le _ _) lg))) (lst_ok rfl) (ne_ints _))
  by_cases c2 : ((gone rows s).filter fun g => decide (mn r0 rs ≤ g) && decide (g ≤ mx r0 rs)) = []
  case neg =>
    refine ⟨mf rows (some (0, SM)) none (some (0, .int s)) (some (0, KS)) (some (0, GO)) none none none, seq_ret ((s_if t6).trans ?_)⟩
    rw [decide_eq_false c2, if_pos (show (!false) = true from rfl)]
    unfold mv
    rw [if_neg (fun z => z c1), if_pos c2]
    exact ret_ok (lst_ok rfl)
  rw [decide_eq_true c2] at t6
  rw [seq_nx ((s_if t6).trans rfl)]
  -- the ends
  have q7 := compP_map (g := gN 6) (t := fun ρ => toB (mB dLt2 (mVar 6) (mU dMinL (mVar 4)) ρ)) (f := mVar 6) (ρ := mf rows (some (0, SM)) none (some (0, .int s)) (some (0, KS)) (some (0, GO)) none none none) PyData.int (fun g => decide (g < mn r0 rs)) PyData.int (gone rows s) fun g _ =>
    ⟨mf rows (some (0, SM)) none (some (0, .int s)) (some (0, KS)) (some (0, GO)) (some (0, .int g)) none none, rfl, ⟨_, t_ok (b_ok v_ok (u_ok v_ok mn0) (lt_I _ _))⟩, fun _ => ⟨_, v_ok⟩⟩
  let LO : Int := mxI (-1) ((gone rows s).filter fun g => decide (g < mn r0 rs)) + 1
  have lf : ∀ f : Int → Bool, ((gone rows s).filter f).length ≤ 10 := fun f => Nat.le_trans (List.length_filter_le _ _) lg
  have a7 : dAdd (.list [.int (-1)]) (.list (iL ((gone rows s).filter fun g => decide (g < mn r0 rs)))) = some (.list (iL (-1 :: (gone rows s).filter fun g => decide (g < mn r0 rs)))) := by
    show (if _ then _ else _) = _
    rw [if_pos]
    · rfl
    · have := lf fun g => decide (g < mn r0 rs)
      rw [List.length_map]
      unfold big
      show 1 + _ ≤ _
      omega
  have s7 : sSet 7 0 (mB dAdd (mU dMaxL (mB dAdd (mLst (aCons (mU dNeg (mC (.int 1))) aNil)) (mLc [6] (iA (mVar 5)) (gN 6) (fun ρ => toB (mB dLt2 (mVar 6) (mU dMinL (mVar 4)) ρ)) (mVar 6)))) (mC (.int 1))) (mf rows (some (0, SM)) none (some (0, .int s)) (some (0, KS)) (some (0, GO)) none none none) =
      .ok (.nx, mf rows (some (0, SM)) none (some (0, .int s)) (some (0, KS)) (some (0, GO)) none (some (0, .int LO)) none) :=
    set_ok (b_ok (u_ok (b_ok (lst_ok (a_cons (u_ok (x := .int 1) rfl rfl) rfl)) (lc_ok v_ok rfl q7 (by rw [List.length_map]; exact big10 (lf _))) a7) (max_ok _ _ (by have := lf fun g => decide (g < mn r0 rs); omega))) rfl rfl)
  rw [seq_nx s7]
  have q8 := compP_map (g := gN 6) (t := fun ρ => toB (mB dGt1 (mVar 6) (mU dMaxL (mVar 4)) ρ)) (f := mVar 6) (ρ := mf rows (some (0, SM)) none (some (0, .int s)) (some (0, KS)) (some (0, GO)) none (some (0, .int LO)) none) PyData.int (fun g => decide (mx r0 rs < g)) PyData.int (gone rows s) fun g _ =>
    ⟨mf rows (some (0, SM)) none (some (0, .int s)) (some (0, KS)) (some (0, GO)) (some (0, .int g)) (some (0, .int LO)) none, rfl, ⟨_, t_ok (b_ok v_ok (u_ok v_ok mx0) (gt_I _ _))⟩, fun _ => ⟨_, v_ok⟩⟩
  let HI : Int := mnI 128 ((gone rows s).filter fun g => decide (mx r0 rs < g)) - 1
  have a8 : dAdd (.list [.int 128]) (.list (iL ((gone rows s).filter fun g => decide (mx r0 rs < g)))) = some (.list (iL (128 :: (gone rows s).filter fun g => decide (mx r0 rs < g)))) := by
    show (if _ then _ else _) = _
    rw [if_pos]
    · rfl
    · have := lf fun g => decide (mx r0 rs < g)
      rw [List.length_map]
      unfold big
      show 1 + _ ≤ _
      omega
  have s8 : sSet 8 0 (mB dSub (mU dMinL (mB dAdd (mLst (aCons (mC (.int 128)) aNil)) (mLc [6] (iA (mVar 5)) (gN 6) (fun ρ => toB (mB dGt1 (mVar 6) (mU dMaxL (mVar 4)) ρ)) (mVar 6)))) (mC (.int 1))) (mf rows (some (0, SM)) none (some (0, .int s)) (some (0, KS)) (some (0, GO)) none (some (0, .int LO)) none) =
      .ok (.nx, mf rows (some (0, SM)) none (some (0, .int s)) (some (0, KS)) (some (0, GO)) none (some (0, .int LO)) (some (0, .int HI))) :=
    set_ok (b_ok (u_ok (b_ok (lst_ok (a_cons rfl rfl)) (lc_ok v_ok rfl q8 (by rw [List.length_map]; exact big10 (lf _))) a8) (min_ok _ _ (by have := lf fun g => decide (mx r0 rs < g); omega))) rfl rfl)
  rw [seq_nx s8]
  refine ⟨mf rows (some (0, SM)) none (some (0, .int s)) (some (0, KS)) (some (0, GO)) none (some (0, .int LO)) (some (0, .int HI)), seq_ret ?_⟩
  unfold mv
  rw [if_neg (fun z => z c1), if_neg (fun z => z c2)]
  exact ret_ok (lst_ok (a_cons (tup_ok (a_cons v_ok (a_cons (tup_ok (a_cons v_ok (a_cons (u_ok v_ok mn0) rfl))) (a_cons (tup_ok (a_cons (u_ok v_ok mx0) (a_cons v_ok rfl))) rfl)))) rfl))
end L61
set_option maxHeartbeats 2000000
namespace L61
open PySem PySem.Spec L2 Nc
open PyProof.Rows hiding St
def there (r : Rw) (n low high : Int) : Bool := decide (low ≤ r.k) && (decide (r.k ≤ high) && (decide (0 ≤ r.k + n) && decide (r.k + n ≤ 127)))
def fit1 (n low high : Int) (r : Rw) : Bool := decide (r.o = if there r n low high = true then some n else none)
def fits (rows : List Rw) (n low high : Int) : Bool := rows.all (fit1 n low high)
def fitB : S := (sSeq (sSet 6 0 (mAnd (mB dLe (mVar 2) (mB dIxK (mVar 4) (mC (.int 1)))) (mAnd (mB dLe (mB dIxK (mVar 4) (mC (.int 1))) (mVar 3)) (mAnd (mB dLe (mC (.int 0)) (mB dAdd (mB dIxK (mVar 4) (mC (.int 1))) (mVar 1))) (mB dLe (mB dAdd (mB dIxK (mVar 4) (mC (.int 1))) (mVar 1)) (mC (.int 127)))))))
      (sSeq (sIf (fun ρ => toB (mB dNe (mVar 5) (mIf (fun ρ => toB ((mVar 6) ρ)) (mTup (aCons (mTup (aCons (mB dIxK (mVar 4) (mC (.int 0))) (aCons (mB dAdd (mB dIxK (mVar 4) (mC (.int 1))) (mVar 1)) aNil))) aNil)) (mTup aNil)) ρ))
        (sRet (mC (.bool false)))
        sNil)
      sNil))
abbrev ff (rows : List Rw) (n low high : Int) (x4 x5 x6 : Slot) : Rho := [some (0, rsD rows), some (0, .int n), some (0, .int low), some (0, .int high), x4, x5, x6]
theorem fit_step (rows : List Rw) (n low high : Int) (r : Rw) (x6 : Slot) : fitB (ff rows n low high (some (0, nD r.c r.k)) (some (0, tD r.c r.k r.o)) x6) =
    if fit1 n low high r = true then .ok (.nx, ff rows n low high (some (0, nD r.c r.k)) (some (0, tD r.c r.k r.o)) (some (0, .bool (there r n low high)))) else .ok (.ret (.bool false), ff rows n low high (some (0, nD r.c r.k)) (some (0, tD r.c r.k r.o)) (some (0, .bool (there r n low high)))) := by
  have s1 : sSet 6 0 (mAnd (mB dLe (mVar 2) (mB dIxK (mVar 4) (mC (.int 1)))) (mAnd (mB dLe (mB dIxK (mVar 4) (mC (.int 1))) (mVar 3)) (mAnd (mB dLe (mC (.int 0)) (mB dAdd (mB dIxK (mVar 4) (mC (.int 1))) (mVar 1))) (mB dLe (mB dAdd (mB dIxK (mVar 4) (mC (.int 1))) (mVar 1)) (mC (.int 127)))))) (ff rows n low high (some (0, nD r.c r.k)) (some (0, tD r.c r.k r.o)) x6) =
      .ok (.nx, ff rows n low high (some (0, nD r.c r.k)) (some (0, tD r.c r.k r.o)) (some (0, .bool (there r n low high)))) :=
    set_ok (and_ok (b_ok v_ok (b_ok v_ok rfl (note1 _ _)) (le_I _ _)) (and_ok (b_ok (b_ok v_ok rfl (note1 _ _)) v_ok (le_I _ _)) (and_ok (b_ok rfl (b_ok (b_ok v_ok rfl (note1 _ _)) v_ok rfl) (le_I _ _)) (b_ok (b_ok (b_ok v_ok rfl (note1 _ _)) v_ok rfl) rfl (le_I _ _)))))
  have i1 : mIf (fun ρ => toB ((mVar 6) ρ)) (mTup (aCons (mTup (aCons (mB dIxK (mVar 4) (mC (.int 0))) (aCons (mB dAdd (mB dIxK (mVar 4) (mC (.int 1))) (mVar 1)) aNil))) aNil)) (mTup aNil) (ff rows n low high (some (0, nD r.c r.k)) (some (0, tD r.c r.k r.o)) (some (0, .bool (there r n low high)))) =
      .ok (tD r.c r.k (if there r n low high = true then some n else none), ff rows n low high (some (0, nD r.c r.k)) (some (0, tD r.c r.k r.o)) (some (0, .bool (there r n low high)))) := by
    refine (m_if (t_ok v_ok)).trans ?_
    cases there r n low high with
    | true => exact tup_ok (a_cons (tup_ok (a_cons (b_ok v_ok rfl (note0 _ _)) (a_cons (b_ok (b_ok v_ok rfl (note1 _ _)) v_ok rfl) rfl))) rfl)
    | false => exact tup_ok rfl
  have t1 : toB (mB dNe (mVar 5) (mIf (fun ρ => toB ((mVar 6) ρ)) (mTup (aCons (mTup (aCons (mB dIxK (mVar 4) (mC (.int 0))) (aCons (mB dAdd (mB dIxK (mVar 4) (mC (.int 1))) (mVar 1)) aNil))) aNil)) (mTup aNil)) (ff rows n low high (some (0, nD r.c r.k)) (some (0, tD r.c r.k r.o)) (some (0, .bool (there r n low high))))) =
      .ok (!fit1 n low high r, ff rows n low high (some (0, nD r.c r.k)) (some (0, tD r.c r.k r.o)) (some (0, .bool (there r n low high)))) := t_ok (b_ok v_ok i1 (ne_tD _ _ _ _))
  unfold fitB
  refine (seq_nx s1).trans ?_
  cases h : fit1 n low high r with
  | true =>
    rw [h] at t1
    exact (seq_nx ((s_if t1).trans rfl)).trans rfl
  | false =>
    rw [h] at t1
    exact seq_ret ((s_if t1).trans rfl)
theorem fit_loop (rows : List Rw) (n low high : Int) : ∀ (l : List Rw) (x4 x5 x6 : Slot), ∃ y4 y5 y6, loopF (gT 2 (gsCons (gN 4) (gsCons (gN 5) gsNil))) fitB (l.map rD) (ff rows n low high x4 x5 x6) =
    if fits l n low high = true then .ok (.nx, ff rows n low high y4 y5 y6) else .ok (.ret (.bool false), ff rows n low high y4 y5 y6)
  | [], x4, x5, x6 => ⟨x4, x5, x6, rfl⟩
  | r :: l, x4, x5, x6 => by
    have st := fit_step rows n low high r x6
    have g : gT 2 (gsCons (gN 4) (gsCons (gN 5) gsNil)) (rD r) (ff rows n low high x4 x5 x6) = some (ff rows n low high (some (0, nD r.c r.k)) (some (0, tD r.c r.k r.o)) x6) := rfl
    have e : fits (r :: l) n low high = (fit1 n low high r && fits l n low high) := rfl
    rw [e, List.map_cons]
    cases h : fit1 n low high r with
    | true =>
      rw [h, if_pos rfl] at st
      obtain ⟨y4, y5, y6, ih⟩ := fit_loop rows n low high l (some (0, nD r.c r.k)) (some (0, tD r.c r.k r.o)) (some (0, .bool (there r n low high)))
      exact ⟨y4, y5, y6, (loop_nx g st).trans ih⟩
    | false =>
      rw [h, if_neg (by simp)] at st
      exact ⟨_, _, _, loop_ret g st⟩
theorem fits_ok (rows : List Rw) (n low high : Int) : F__law_fits [rsD rows, .int n, .int low, .int high] = .ok (.bool (fits rows n low high)) := by
  obtain ⟨y4, y5, y6, lp⟩ := fit_loop rows n low high rows none none none
  refine runP_ret (ρ := ff rows n low high y4 y5 y6) ?_
  show s__law_fits (ff rows n low high none none none) = _
  unfold s__law_fits
  cases h : fits rows n low high with
  | true =>
    rw [h, if_pos rfl] at lp
    exact (seq_nx (for_ok (iA_ok v_ok rfl) lp)).trans rfl
  | false =>
    rw [h, if_neg (by simp)] at lp
    exact seq_ret (for_ok (iA_ok v_ok rfl) lp)
theorem iR2_ok {f g : M} {ρ : Rho} {i j : Int} (h1 : f ρ = .ok (.int i, ρ)) (h2 : g ρ = .ok (.int j, ρ)) (a : -(2 ^ 62) ≤ i) (b : i < 2 ^ 62) (c : -(2 ^ 62) ≤ j) (d : j < 2 ^ 62) : iR2 f g ρ = .ok (rngD i (j - i).toNat, ρ) := by
  unfold iR2
  rw [h1, R.bind_ok]
  dsimp only
  rw [h2, R.bind_ok]
  dsimp only
  rw [if_pos ⟨a, b, c, d⟩]
def pairsOf (l : Nat) : List (Int × Int) := (List.range (128 - l)).map fun (j : Nat) => ((l : Int), (l : Int) + (j : Int))
def allPairs : List (Int × Int) := (List.range 128).flatMap pairsOf
def hits (rows : List Rw) (n : Int) (L : List (Int × Int)) : List (Int × Int) := L.filter fun p => fits rows n p.1 p.2
abbrev tf (rows : List Rw) (S1 S2 S3 S4 S5 : Slot) (n : Int) (acc : List (Int × Int)) (x9 x10 : Slot) : Rho :=
  [some (0, rsD rows), S1, S2, S3, S4, S5, some (0, .int n), some (1, .list (iL (acc.map (·.1)))), some (1, .list (iL (acc.map (·.2)))), x9, x10]
def hitB : S := (sIf (fun ρ => toB ((mCallP 4 F__law_fits (aCons (mVar 0) (aCons (mVar 6) (aCons (mVar 9) (aCons (mVar 10) aNil))))) ρ))
            (sSeq (sExpr (mApp 7 (mVar 9)))
            (sSeq (sExpr (mApp 8 (mVar 10)))
            sNil))
            sNil)
theorem hit_step (rows : List Rw) (S1 S2 S3 S4 S5 : Slot) (n : Int) (acc : List (Int × Int)) (low high : Int) (hl : acc.length ≤ 100000) : hitB (tf rows S1 S2 S3 S4 S5 n acc (some (0, .int low)) (some (0, .int high))) =
    .ok (.nx, tf rows S1 S2 S3 S4 S5 n (acc ++ hits rows n [(low, high)]) (some (0, .int low)) (some (0, .int high))) := by
  have t : toB (mCallP 4 F__law_fits (aCons (mVar 0) (aCons (mVar 6) (aCons (mVar 9) (aCons (mVar 10) aNil)))) (tf rows S1 S2 S3 S4 S5 n acc (some (0, .int low)) (some (0, .int high)))) = .ok (fits rows n low high, tf rows S1 S2 S3 S4 S5 n acc (some (0, .int low)) (some (0, .int high))) :=
    t_ok (call_ok (a_cons v_ok (a_cons v_ok (a_cons v_ok (a_cons v_ok rfl)))) (fits_ok rows n low high))
  have bl : ∀ f : Int × Int → Int, (iL (acc.map f)).length < big := fun f => by
    rw [List.length_map, List.length_map]
    unfold big
    omega
  unfold hitB
  refine (s_if t).trans ?_
  cases h : fits rows n low high with
  | true =>
    have e : hits rows n [(low, high)] = [(low, high)] := by simp [hits, h]
    rw [e, if_pos rfl]
    refine (seq_nx (expr_ok (app_ok (ds := iL (acc.map (·.1))) rfl v_ok (bl _)))).trans ?_
    refine (seq_nx (expr_ok (app_ok (ds := iL (acc.map (·.2))) rfl v_ok (bl _) (ρ2 := tf rows S1 S2 S3 S4 S5 n (acc ++ [(low, high)]) (some (0, .int low)) (some (0, .int high))) ?_))).trans rfl
    unfold tf iL
    simp
  | false =>
    have e : hits rows n [(low, high)] = [] := by simp [hits, h]
    rw [e, List.append_nil]
    rfl
theorem low_loop (rows : List Rw) (S1 S2 S3 S4 S5 : Slot) (n : Int) (acc : List (Int × Int)) (l : Nat) (hl : acc.length ≤ 90000) (hl2 : l < 128) (x10 : Slot) :
    ∃ y10, (sFor (iR2 (mVar 9) (mC (.int 128))) (gN 10) hitB) (tf rows S1 S2 S3 S4 S5 n acc (some (0, .int (l : Int))) x10) = .ok (.nx, tf rows S1 S2 S3 S4 S5 n (acc ++ hits rows n (pairsOf l)) (some (0, .int (l : Int))) y10) := by
  have lp := loop_to (g := gN 10) (s := hitB) (fun (j : Nat) => (.int ((l : Int) + (j : Int)) : D))
    (fun pre ρ => ∃ y, ρ = tf rows S1 S2 S3 S4 S5 n (acc ++ hits rows n (pre.map fun (j : Nat) => ((l : Int), (l : Int) + (j : Int)))) (some (0, .int (l : Int))) y) (List.range (128 - l))
    (ρ := tf rows S1 S2 S3 S4 S5 n acc (some (0, .int (l : Int))) x10) ⟨x10, by simp [hits]⟩
    fun pre j post ρ e ⟨y, i⟩ => by
      subst i
      have hp : pre.length ≤ 128 := by
        have := congrArg List.length e
        rw [List.length_range, List.length_append] at this
        omega
      refine ⟨_, _, rfl, hit_step rows S1 S2 S3 S4 S5 n _ (l : Int) ((l : Int) + (j : Int)) ?_, some (0, .int ((l : Int) + (j : Int))), ?_⟩
      · rw [List.length_append]
        have : (hits rows n (pre.map fun (j : Nat) => ((l : Int), (l : Int) + (j : Int)))).length ≤ 128 := by
          unfold hits
          refine Nat.le_trans (List.length_filter_le _ _) ?_
          rw [List.length_map]
          exact hp
        omega
      · unfold hits
        rw [List.map_append, List.filter_append, List.append_assoc]
        rfl
  obtain ⟨ρ', h1, y, h2⟩ := lp
  subst h2
  refine ⟨y, for_ok (ρ1 := tf rows S1 S2 S3 S4 S5 n acc (some (0, .int (l : Int))) x10) (ds := rngD (l : Int) (128 - l)) ?_ h1⟩
  have e : ((128 : Int) - (l : Int)).toNat = 128 - l := by omega
  have q := iR2_ok (f := mVar 9) (g := mC (.int 128)) (ρ := tf rows S1 S2 S3 S4 S5 n acc (some (0, .int (l : Int))) x10) (i := (l : Int)) (j := 128) v_ok rfl (by omega) (by omega) (by omega) (by omega)
  rw [e] at q
  exact q
end L61
set_option maxHeartbeats 2000000
namespace L61
open PySem PySem.Spec L2 Nc
open PyProof.Rows hiding St
theorem hits_len (rows : List Rw) (n : Int) (L : List (Int × Int)) : (hits rows n L).length ≤ L.length := List.length_filter_le _ _
theorem pairs_len (l : Nat) : (pairsOf l).length ≤ 128 := by
  unfold pairsOf
  rw [List.length_map, List.length_range]
  omega
theorem flat_len2 : ∀ L : List Nat, (L.flatMap pairsOf).length ≤ 128 * L.length
  | [] => by simp
  | x :: L => by
    have a := flat_len2 L
    have b := pairs_len x
    rw [List.flatMap_cons, List.length_append, List.length_cons]
    omega
theorem all_loop (rows : List Rw) (S1 S2 S3 S4 S5 : Slot) (n : Int) (x9 x10 : Slot) :
    ∃ y9 y10, (sFor (iR1 (mC (.int 128))) (gN 9) (sFor (iR2 (mVar 9) (mC (.int 128))) (gN 10) hitB)) (tf rows S1 S2 S3 S4 S5 n [] x9 x10) = .ok (.nx, tf rows S1 S2 S3 S4 S5 n (hits rows n allPairs) y9 y10) := by
  have lp := loop_to (g := gN 9) (s := sFor (iR2 (mVar 9) (mC (.int 128))) (gN 10) hitB) (fun (l : Nat) => (.int (0 + (l : Int)) : D))
    (fun pre ρ => ∃ y9 y10, ρ = tf rows S1 S2 S3 S4 S5 n (hits rows n (pre.flatMap pairsOf)) y9 y10) (List.range 128)
    (ρ := tf rows S1 S2 S3 S4 S5 n [] x9 x10) ⟨x9, x10, rfl⟩
    fun pre l post ρ e ⟨y9, y10, i⟩ => by
      subst i
      have hp : pre.length ≤ 128 := by
        have := congrArg List.length e
        rw [List.length_range, List.length_append] at this
        omega
      have hx : l < 128 := List.mem_range.mp (by rw [e]; simp)
      have hh := hits_len rows n (pre.flatMap pairsOf)
      have hf := flat_len2 pre
      obtain ⟨z, q⟩ := low_loop rows S1 S2 S3 S4 S5 n (hits rows n (pre.flatMap pairsOf)) l (by omega) hx y10
      refine ⟨tf rows S1 S2 S3 S4 S5 n (hits rows n (pre.flatMap pairsOf)) (some (0, .int (l : Int))) y10, _, ?_, q, some (0, .int (l : Int)), z, ?_⟩
      · show some _ = _
        rw [Int.zero_add]
        rfl
      · unfold hits
        rw [List.flatMap_append, List.filter_append, List.flatMap_singleton]
  obtain ⟨ρ', h1, y9, y10, h2⟩ := lp
  subst h2
  exact ⟨y9, y10, for_ok (ρ1 := tf rows S1 S2 S3 S4 S5 n [] x9 x10) (ds := rngD 0 128) rfl h1⟩
/-- what is told of one shift -/
def told1 (rows : List Rw) (n : Int) : List D := match hits rows n allPairs with
  | [] => []
  | p :: ps => [.tuple [.int n, nD (mnI p.1 (ps.map (·.1))) (mxI p.1 (ps.map (·.1))), nD (mnI p.2 (ps.map (·.2))) (mxI p.2 (ps.map (·.2)))]]
def shiftB : S := (sSeq (sPar 7 1 8 1 (mLst aNil) (mLst aNil))
      (sSeq (sFor (iR1 (mC (.int 128))) (gN 9)
        (sFor (iR2 (mVar 9) (mC (.int 128))) (gN 10) hitB))
      (sSeq (sIf (fun ρ => toB (mB dNe (mPeek 7) (mLst aNil) ρ))
        (sExpr (mApp 1 (mTup (aCons (mVar 6) (aCons (mTup (aCons (mU dMinL (mPeek 7)) (aCons (mU dMaxL (mPeek 7)) aNil))) (aCons (mTup (aCons (mU dMinL (mPeek 8)) (aCons (mU dMaxL (mPeek 8)) aNil))) aNil))))))
        sNil)
      sNil)))
theorem pk_ok {i k : Nat} {ρ : Rho} {ds : List D} (h : ρ[i]? = some (some (1, .list ds)) := by rfl) : mPeek i ρ = .ok (.list ds, ρ) := by
  unfold mPeek
  rw [h]
  rfl
theorem shift_step (rows : List Rw) (found : List D) (S2 S3 S4 S5 x7 x8 x9 x10 : Slot) (n : Int) (hf : found.length ≤ 1000) :
    ∃ y7 y8 y9 y10, shiftB [some (0, rsD rows), some (1, .list found), S2, S3, S4, S5, some (0, .int n), x7, x8, x9, x10] = .ok (.nx, [some (0, rsD rows), some (1, .list (found ++ told1 rows n)), S2, S3, S4, S5, some (0, .int n), y7, y8, y9, y10]) := by
  obtain ⟨y9, y10, q⟩ := all_loop rows (some (1, .list found)) S2 S3 S4 S5 n x9 x10
  have hp : (hits rows n allPairs).length ≤ 16384 := by
    have a := hits_len rows n allPairs
    have b := flat_len2 (List.range 128)
    rw [List.length_range] at b
    unfold allPairs at a ⊢
    omega
  have t : toB (mB dNe (mPeek 7) (mLst aNil) (tf rows (some (1, .list found)) S2 S3 S4 S5 n (hits rows n allPairs) y9 y10)) = .ok (!decide ((hits rows n allPairs).map (·.1) = []), tf rows (some (1, .list found)) S2 S3 S4 S5 n (hits rows n allPairs) y9 y10) :=
    t_ok (b_ok (pk_ok (k := 0)) (lst_ok rfl) (ne_ints _))
  unfold shiftB
  refine ⟨some (1, .list (iL ((hits rows n allPairs).map (·.1)))), some (1, .list (iL ((hits rows n allPairs).map (·.2)))), y9, y10, ?_⟩
  refine (seq_nx (ρ1 := tf rows (some (1, .list found)) S2 S3 S4 S5 n [] x9 x10) rfl).trans ((seq_nx q).trans ?_)
  cases e : hits rows n allPairs with
  | nil =>
    rw [e] at t
    refine (seq_nx ((s_if t).trans rfl)).trans ?_
    have z : told1 rows n = [] := by unfold told1; rw [e]
    rw [z, List.append_nil]
    rfl
  | cons p ps =>
    rw [e] at t hp
    rw [List.length_cons] at hp
    have l1 : (ps.map (·.1)).length ≤ 90000 := by rw [List.length_map]; omega
    have l2 : (ps.map (·.2)).length ≤ 90000 := by rw [List.length_map]; omega
    have z : told1 rows n = [.tuple [.int n, nD (mnI p.1 (ps.map (·.1))) (mxI p.1 (ps.map (·.1))), nD (mnI p.2 (ps.map (·.2))) (mxI p.2 (ps.map (·.2)))]] := by unfold told1; rw [e]
    rw [z]
    have b7 : mPeek 7 (tf rows (some (1, .list found)) S2 S3 S4 S5 n (p :: ps) y9 y10) = .ok (.list (iL (p.1 :: ps.map (·.1))), tf rows (some (1, .list found)) S2 S3 S4 S5 n (p :: ps) y9 y10) := pk_ok (k := 0)
    have b8 : mPeek 8 (tf rows (some (1, .list found)) S2 S3 S4 S5 n (p :: ps) y9 y10) = .ok (.list (iL (p.2 :: ps.map (·.2))), tf rows (some (1, .list found)) S2 S3 S4 S5 n (p :: ps) y9 y10) := pk_ok (k := 0)
    refine (seq_nx ((s_if t).trans ?_)).trans rfl
    rw [if_pos (by simp)]
    exact expr_ok (app_ok (ds := found) rfl (tup_ok (a_cons v_ok (a_cons (tup_ok (a_cons (u_ok b7 (min_ok _ _ l1)) (a_cons (u_ok b7 (max_ok _ _ l1)) rfl))) (a_cons (tup_ok (a_cons (u_ok b8 (min_ok _ _ l2)) (a_cons (u_ok b8 (max_ok _ _ l2)) rfl))) rfl)))) (by unfold big; omega))
def shifts (rows : List Rw) : List Int := rows.filterMap (·.o)
def toldD (rows : List Rw) : D := .list ((ssI (shifts rows)).flatMap (told1 rows))
def colB : S := (sSet 2 0 (mB dAdd (mVar 2) (mLc [5] (iA (mVar 4)) (gN 5) tTrue (mB dSub (mB dIxK (mVar 5) (mC (.int 1))) (mB dIxK (mVar 3) (mC (.int 1)))))))
theorem ssI_len : ∀ l : List Int, (ssI l).length ≤ l.length
  | [] => Nat.le_refl _
  | x :: l => by
    have ins : ∀ (k : Int) (l : List Int), (insU k l).length ≤ l.length + 1 := by
      intro k l
      induction l with
      | nil => simp [insU]
      | cons y r ih =>
        unfold insU
        split
        · simp
        · split
          · simp
          · simp only [List.length_cons]
            omega
    have a := ins x (ssI l)
    have b := ssI_len l
    show (insU x (ssI l)).length ≤ _
    rw [List.length_cons]
    omega
theorem told1_len (rows : List Rw) (n : Int) : (told1 rows n).length ≤ 1 := by
  unfold told1
  split <;> simp
theorem flat1_len (rows : List Rw) : ∀ L : List Int, (L.flatMap (told1 rows)).length ≤ L.length
  | [] => by simp
  | x :: L => by
    have a := flat1_len rows L
    have b := told1_len rows x
    rw [List.flatMap_cons, List.length_append, List.length_cons]
    omega
theorem told_ok (rows : List Rw) (hl : rows.length ≤ 10) : F__law_told [rsD rows] = .ok (toldD rows) := by
  have lsh : (shifts rows).length ≤ 10 := Nat.le_trans (List.length_filterMap_le _ _) hl
  have lp1 := loop_to (g := gT 2 (gsCons (gN 3) (gsCons (gN 4) gsNil))) (s := colB) rD
    (fun pre ρ => ∃ x3 x4, ρ = [some (0, rsD rows), some (1, .list []), some (0, .list (iL (pre.filterMap (·.o)))), x3, x4, none, none, none, none, none, none]) rows
    (ρ := [some (0, rsD rows), some (1, .list []), some (0, .list []), none, none, none, none, none, none, none, none]) ⟨none, none, rfl⟩
    fun pre r post ρ e ⟨x3, x4, i⟩ => by
      subst i
      have hp : (pre.filterMap (·.o)).length ≤ 10 := by
        have a := congrArg List.length e
        rw [List.length_append, List.length_cons] at a
        have b := List.length_filterMap_le (·.o) pre
        omega
      refine ⟨[some (0, rsD rows), some (1, .list []), some (0, .list (iL (pre.filterMap (·.o)))), some (0, nD r.c r.k), some (0, tD r.c r.k r.o), none, none, none, none, none, none], [some (0, rsD rows), some (1, .list []), some (0, .list (iL ((pre ++ [r]).filterMap (·.o)))), some (0, nD r.c r.k), some (0, tD r.c r.k r.o), none, none, none, none, none, none], rfl, ?_, some (0, nD r.c r.k), some (0, tD r.c r.k r.o), rfl⟩
      have inner : mLc [5] (iA (mVar 4)) (gN 5) tTrue (mB dSub (mB dIxK (mVar 5) (mC (.int 1))) (mB dIxK (mVar 3) (mC (.int 1)))) [some (0, rsD rows), some (1, .list []), some (0, .list (iL (pre.filterMap (·.o)))), some (0, nD r.c r.k), some (0, tD r.c r.k r.o), none, none, none, none, none, none] =
          .ok (.list (iL ([r].filterMap (·.o))), [some (0, rsD rows), some (1, .list []), some (0, .list (iL (pre.filterMap (·.o)))), some (0, nD r.c r.k), some (0, tD r.c r.k r.o), none, none, none, none, none, none]) := by
        obtain ⟨c, k, o⟩ := r
        cases o with
        | none => exact lc_ok (ds := []) (ys := []) v_ok rfl rfl (by decide)
        | some s =>
          have q := compP_map (g := gN 5) (t := tTrue) (f := mB dSub (mB dIxK (mVar 5) (mC (.int 1))) (mB dIxK (mVar 3) (mC (.int 1)))) (ρ := [some (0, rsD rows), some (1, .list []), some (0, .list (iL (pre.filterMap (·.o)))), some (0, nD c k), some (0, tD c k (some s)), none, none, none, none, none, none]) (fun _ => nD c (k + s)) (fun _ => true) (fun _ => (.int s : D)) [()] fun _ _ =>
            ⟨[some (0, rsD rows), some (1, .list []), some (0, .list (iL (pre.filterMap (·.o)))), some (0, nD c k), some (0, tD c k (some s)), some (0, nD c (k + s)), none, none, none, none, none], rfl, ⟨_, rfl⟩, fun _ => ⟨_, b_ok (b_ok v_ok rfl (note1 _ _)) (b_ok v_ok rfl (note1 _ _)) (by
              show some (PyData.int (k + s - k)) = _
              congr 2
              omega)⟩⟩
          exact lc_ok (ds := [nD c (k + s)]) (ys := [.int s]) v_ok rfl q (show 1 ≤ big by decide)
      unfold colB
      refine set_ok (b_ok v_ok inner (z := .list (iL ((pre ++ [r]).filterMap (·.o)))) ?_)
      show (if _ then _ else _) = _
      have h1 := List.length_filterMap_le (·.o) [r]
      rw [if_pos (by rw [List.length_map, List.length_map]; unfold big; rw [List.length_singleton] at h1; omega)]
      rw [List.filterMap_append]
      unfold iL
      rw [List.map_append]
  obtain ⟨ρ', h1, x3, x4, h2⟩ := lp1
  subst h2
  have hs : dSSI (.list (iL (shifts rows))) = some (.list (iL (ssI (shifts rows)))) := by
    show (intsD ((shifts rows).map PyData.int)).bind _ = _
    rw [intsD_map]
    show (if _ then _ else _) = _
    rw [if_pos (by omega)]
  have l2 := ssI_len (shifts rows)
  have lp2 := loop_to (g := gN 6) (s := shiftB) PyData.int
    (fun pre ρ => ∃ x6 x7 x8 x9 x10, ρ = [some (0, rsD rows), some (1, .list (pre.flatMap (told1 rows))), some (0, .list (iL (ssI (shifts rows)))), x3, x4, none, x6, x7, x8, x9, x10]) (ssI (shifts rows))
    (ρ := [some (0, rsD rows), some (1, .list []), some (0, .list (iL (ssI (shifts rows)))), x3, x4, none, none, none, none, none, none]) ⟨none, none, none, none, none, rfl⟩
    fun pre n post ρ e ⟨x6, x7, x8, x9, x10, i⟩ => by
      subst i
      have hp : pre.length ≤ 10 := by
        have a := congrArg List.length e
        rw [List.length_append] at a
        omega
      have hf := flat1_len rows pre
      obtain ⟨y7, y8, y9, y10, q⟩ := shift_step rows (pre.flatMap (told1 rows)) (some (0, .list (iL (ssI (shifts rows))))) x3 x4 none x7 x8 x9 x10 n (by omega)
      exact ⟨_, _, rfl, q, some (0, .int n), y7, y8, y9, y10, by rw [List.flatMap_append, List.flatMap_singleton]⟩
  obtain ⟨ρ', h3, x6, x7, x8, x9, x10, h4⟩ := lp2
  subst h4
  refine runP_ret (ρ := [some (0, rsD rows), none, some (0, .list (iL (ssI (shifts rows)))), x3, x4, none, x6, x7, x8, x9, x10]) ?_
  show s__law_told [some (0, rsD rows), none, none, none, none, none, none, none, none, none, none] = _
  unfold s__law_told
  refine (seq_nx (ρ1 := [some (0, rsD rows), some (1, .list []), none, none, none, none, none, none, none, none, none]) rfl).trans ?_
  refine (seq_nx (ρ1 := [some (0, rsD rows), some (1, .list []), some (0, .list []), none, none, none, none, none, none, none, none]) rfl).trans ?_
  refine (seq_nx (for_ok (iA_ok v_ok rfl) h1)).trans ?_
  refine (seq_nx (set_ok (u_ok v_ok hs))).trans ?_
  refine (seq_nx (for_ok (iA_ok v_ok rfl) h3)).trans ?_
  exact seq_ret rfl
end L61
set_option maxHeartbeats 2000000
namespace L61
open PySem PySem.Spec L2 Nc
open PyProof.Rows hiding St
theorem mem_pairs {l h : Int} : (l, h) ∈ allPairs ↔ 0 ≤ l ∧ l ≤ h ∧ h ≤ 127 := by
  unfold allPairs
  rw [List.mem_flatMap]
  constructor
  · rintro ⟨a, ha, hp⟩
    unfold pairsOf at hp
    obtain ⟨j, hj, e⟩ := List.mem_map.mp hp
    have ha := List.mem_range.mp ha
    have hj := List.mem_range.mp hj
    injection e with e1 e2
    omega
  · rintro ⟨h1, h2, h3⟩
    refine ⟨l.toNat, List.mem_range.mpr (by omega), ?_⟩
    unfold pairsOf
    refine List.mem_map.mpr ⟨(h - l).toNat, List.mem_range.mpr (by omega), ?_⟩
    refine Prod.ext ?_ ?_
    · show ((l.toNat : Nat) : Int) = l
      omega
    · show ((l.toNat : Nat) : Int) + (((h - l).toNat : Nat) : Int) = h
      omega
theorem mem_hits {rows : List Rw} {n l h : Int} : (l, h) ∈ hits rows n allPairs ↔ (0 ≤ l ∧ l ≤ h ∧ h ≤ 127) ∧ fits rows n l h = true := by
  unfold hits
  rw [List.mem_filter, mem_pairs]
theorem fits_iff {rows : List Rw} {n l h : Int} : fits rows n l h = true ↔ ∀ r ∈ rows, r.o = if there r n l h = true then some n else none := by
  unfold fits fit1
  rw [List.all_eq_true]
  constructor
  · exact fun q r hr => of_decide_eq_true (q r hr)
  · exact fun q r hr => decide_eq_true (q r hr)
theorem there_iff {r : Rw} {n l h : Int} : there r n l h = true ↔ l ≤ r.k ∧ r.k ≤ h ∧ 0 ≤ r.k + n ∧ r.k + n ≤ 127 := by
  unfold there
  simp only [Bool.and_eq_true, decide_eq_true_eq]
theorem mem_gone {rows : List Rw} {s g : Int} : g ∈ gone rows s ↔ ∃ r ∈ rows, r.o = none ∧ 0 ≤ r.k + s ∧ r.k + s < 128 ∧ r.k = g := by
  unfold gone
  rw [List.mem_map]
  constructor
  · rintro ⟨r, hr, e⟩
    obtain ⟨h1, h2⟩ := List.mem_filter.mp hr
    simp only [Bool.and_eq_true, decide_eq_true_eq] at h2
    exact ⟨r, h1, h2.1, h2.2.1, h2.2.2, e⟩
  · rintro ⟨r, hr, h1, h2, h3, e⟩
    refine ⟨r, List.mem_filter.mpr ⟨hr, ?_⟩, e⟩
    simp only [Bool.and_eq_true, decide_eq_true_eq]
    exact ⟨h1, h2, h3⟩
theorem told_none {rows : List Rw} {n : Int} (h : ∀ l h, 0 ≤ l → l ≤ h → h ≤ 127 → fits rows n l h = true → False) : told1 rows n = [] := by
  have e : hits rows n allPairs = [] := by
    cases q : hits rows n allPairs with
    | nil => rfl
    | cons p ps =>
      have hp : p ∈ hits rows n allPairs := by rw [q]; exact List.mem_cons_self
      obtain ⟨l, hi⟩ := p
      obtain ⟨⟨a, b, c⟩, d⟩ := mem_hits.mp hp
      exact (h l hi a b c d).elim
  unfold told1
  rw [e]
theorem told_eq (rows : List Rw) (hok : ∀ r ∈ rows, r.Ok) (r0 : Rw) (rs : List Rw) (s : Int) (h0 : some' rows = r0 :: rs) (hs : r0.o = some s) : toldD rows = encM (mv rows s r0 rs) := by
  have msm : ∀ r, r ∈ r0 :: rs ↔ r ∈ rows ∧ r.o.isSome = true := fun r => by
    rw [← h0]
    exact List.mem_filter
  have m0 : r0 ∈ rows := ((msm r0).mp List.mem_cons_self).1
  unfold toldD
  by_cases c1 : ((r0 :: rs).filter fun r => !decide (r.o = some s)) = []
  case neg =>
    have e2 : mv rows s r0 rs = none := by
      unfold mv
      rw [if_pos c1]
    rw [e2]
    show PyData.list _ = PyData.list []
    congr 1
    cases q : ((r0 :: rs).filter fun r => !decide (r.o = some s)) with
    | nil => exact absurd q c1
    | cons r l =>
      have hr : r ∈ (r0 :: rs).filter fun r => !decide (r.o = some s) := by rw [q]; exact List.mem_cons_self
      obtain ⟨a1, a2⟩ := List.mem_filter.mp hr
      have a2 : ¬ r.o = some s := by simpa using a2
      obtain ⟨b1, b2⟩ := (msm r).mp a1
      refine List.flatMap_eq_nil_iff.mpr fun n _ => told_none fun l h _ _ _ hf => ?_
      have f := fits_iff.mp hf
      have f0 := f r0 m0
      have f1 := f r b1
      rw [hs] at f0
      have e0 : s = n := by
        split at f0
        · exact Option.some.inj f0
        · cases f0
      subst e0
      split at f1
      · exact a2 f1
      · rw [f1] at b2
        cases b2
  have alls : ∀ r ∈ r0 :: rs, r.o = some s := fun r hr => by
    by_cases z : r.o = some s
    · exact z
    · have : r ∈ (r0 :: rs).filter fun r => !decide (r.o = some s) := List.mem_filter.mpr ⟨hr, by simp [z]⟩
      rw [c1] at this
      cases this
  -- one shift alone
  have sh : ssI (shifts rows) = [s] := by
    refine strictI (ssI_sorted _) (by simp) fun j => ?_
    rw [mem_ssI, List.mem_singleton]
    unfold shifts
    rw [List.mem_filterMap]
    constructor
    · rintro ⟨r, hr, e⟩
      have := alls r ((msm r).mpr ⟨hr, by rw [e]; rfl⟩)
      rw [e] at this
      exact Option.some.inj this
    · rintro rfl
      exact ⟨r0, m0, hs⟩
  rw [sh, List.flatMap_singleton]
  have fit : ∀ l h, fits rows s l h = true ↔ (∀ r ∈ r0 :: rs, l ≤ r.k ∧ r.k ≤ h) ∧ ∀ g ∈ gone rows s, ¬ (l ≤ g ∧ g ≤ h) := fun l h => by
    rw [fits_iff]
    constructor
    · refine fun f => ⟨fun r hr => ?_, fun g hg z => ?_⟩
      · have a := f r ((msm r).mp hr).1
        rw [alls r hr] at a
        split at a
        · rename_i t
          have := there_iff.mp t
          exact ⟨this.1, this.2.1⟩
        · cases a
      · obtain ⟨r, hr, e1, e2, e3, rfl⟩ := mem_gone.mp hg
        have a := f r hr
        rw [e1, if_pos (there_iff.mpr ⟨z.1, z.2, e2, by omega⟩)] at a
        cases a
    · rintro ⟨f1, f2⟩ r hr
      cases eo : r.o with
      | none =>
        rw [if_neg fun t => ?_]
        have t := there_iff.mp t
        exact f2 r.k (mem_gone.mpr ⟨r, hr, eo, t.2.2.1, by omega, rfl⟩) ⟨t.1, t.2.1⟩
      | some t =>
        have m := (msm r).mpr ⟨hr, by rw [eo]; rfl⟩
        have e := alls r m
        rw [eo] at e
        cases e
        obtain ⟨a, b⟩ := f1 r m
        obtain ⟨_, _, _, _, k5⟩ := hok r hr
        obtain ⟨k6, k7⟩ := k5 s eo
        rw [if_pos (there_iff.mpr ⟨a, b, k6, k7⟩)]
  -- the keys
  obtain ⟨n1, n2⟩ := mnI_spec (rs.map (·.k)) r0.k
  obtain ⟨x1, x2⟩ := mxI_spec (rs.map (·.k)) r0.k
  have kmem : ∀ k, k ∈ r0.k :: rs.map (·.k) ↔ ∃ r ∈ r0 :: rs, r.k = k := fun k => by
    have e : r0.k :: rs.map (·.k) = (r0 :: rs).map (·.k) := rfl
    rw [e, List.mem_map]
  have kok : ∀ k, k ∈ r0.k :: rs.map (·.k) → 0 ≤ k ∧ k ≤ 127 := fun k hk => by
    obtain ⟨r, hr, rfl⟩ := (kmem k).mp hk
    obtain ⟨_, _, a, b, _⟩ := hok r ((msm r).mp hr).1
    exact ⟨a, b⟩
  have emn : mn r0 rs = mnI r0.k (rs.map (·.k)) := rfl
  have emx : mx r0 rs = mxI r0.k (rs.map (·.k)) := rfl
  rw [← emn] at n1 n2
  rw [← emx] at x1 x2
  have fit2 : ∀ l h, fits rows s l h = true ↔ (l ≤ mn r0 rs ∧ mx r0 rs ≤ h) ∧ ∀ g ∈ gone rows s, ¬ (l ≤ g ∧ g ≤ h) := fun l h => by
    rw [fit]
    refine and_congr_left fun _ => ⟨fun f => ?_, fun ⟨a, b⟩ r hr => ?_⟩
    · obtain ⟨r, hr, e⟩ := (kmem _).mp n1
      obtain ⟨r', hr', e'⟩ := (kmem _).mp x1
      have a := (f r hr).1
      have b := (f r' hr').2
      omega
    · have p := n2 r.k ((kmem _).mpr ⟨r, hr, rfl⟩)
      have q := x2 r.k ((kmem _).mpr ⟨r, hr, rfl⟩)
      omega
  have b1 := kok _ n1
  have b2 := kok _ x1
  have b3 : mn r0 rs ≤ mx r0 rs := by
    have a := n2 _ x1
    exact a
  by_cases c2 : ((gone rows s).filter fun g => decide (mn r0 rs ≤ g) && decide (g ≤ mx r0 rs)) = []
  case neg =>
    have e2 : mv rows s r0 rs = none := by
      unfold mv
      rw [if_neg (fun z => z c1), if_pos c2]
    rw [e2]
    show PyData.list _ = PyData.list []
    congr 1
    cases q : ((gone rows s).filter fun g => decide (mn r0 rs ≤ g) && decide (g ≤ mx r0 rs)) with
    | nil => exact absurd q c2
    | cons g l =>
      have hg : g ∈ (gone rows s).filter fun g => decide (mn r0 rs ≤ g) && decide (g ≤ mx r0 rs) := by rw [q]; exact List.mem_cons_self
      obtain ⟨a1, a2⟩ := List.mem_filter.mp hg
      simp only [Bool.and_eq_true, decide_eq_true_eq] at a2
      refine told_none fun l h _ _ _ hf => ?_
      obtain ⟨⟨p1, p2⟩, p3⟩ := (fit2 l h).mp hf
      exact p3 g a1 ⟨by omega, by omega⟩
  have nomid : ∀ g ∈ gone rows s, g < mn r0 rs ∨ mx r0 rs < g := fun g hg => by
    by_cases z : mn r0 rs ≤ g ∧ g ≤ mx r0 rs
    · have : g ∈ (gone rows s).filter fun g => decide (mn r0 rs ≤ g) && decide (g ≤ mx r0 rs) := List.mem_filter.mpr ⟨hg, by simp [z.1, z.2]⟩
      rw [c2] at this
      cases this
    · omega
  obtain ⟨l1, l2⟩ := mxI_spec ((gone rows s).filter fun g => decide (g < mn r0 rs)) (-1)
  obtain ⟨u1, u2⟩ := mnI_spec ((gone rows s).filter fun g => decide (mx r0 rs < g)) 128
  have e2 : mv rows s r0 rs = some ⟨s, mxI (-1) ((gone rows s).filter fun g => decide (g < mn r0 rs)) + 1, mn r0 rs, mx r0 rs, mnI 128 ((gone rows s).filter fun g => decide (mx r0 rs < g)) - 1⟩ := by
    unfold mv
    rw [if_neg (fun z => z c1), if_neg (fun z => z c2)]
  rw [e2]
  generalize mxI (-1) ((gone rows s).filter fun g => decide (g < mn r0 rs)) = L at l1 l2 ⊢
  generalize mnI 128 ((gone rows s).filter fun g => decide (mx r0 rs < g)) = U at u1 u2 ⊢
  have lL : -1 ≤ L := l2 _ List.mem_cons_self
  have uU : U ≤ 128 := u2 _ List.mem_cons_self
  have Lm : L < mn r0 rs := by
    rcases List.mem_cons.mp l1 with z | z
    · omega
    · exact of_decide_eq_true (List.mem_filter.mp z).2
  have Um : mx r0 rs < U := by
    rcases List.mem_cons.mp u1 with z | z
    · omega
    · exact of_decide_eq_true (List.mem_filter.mp z).2
  have fit3 : ∀ l h, 0 ≤ l → l ≤ h → h ≤ 127 → (fits rows s l h = true ↔ L < l ∧ l ≤ mn r0 rs ∧ mx r0 rs ≤ h ∧ h < U) := fun l h h1 h2 h3 => by
    rw [fit2]
    constructor
    · rintro ⟨⟨p1, p2⟩, p3⟩
      refine ⟨?_, p1, p2, ?_⟩
      · rcases List.mem_cons.mp l1 with z | z
        · omega
        · have a := p3 L (List.mem_filter.mp z).1
          omega
      · rcases List.mem_cons.mp u1 with z | z
        · omega
        · have a := p3 U (List.mem_filter.mp z).1
          omega
    · rintro ⟨p1, p2, p3, p4⟩
      refine ⟨⟨p2, p3⟩, fun g hg z => ?_⟩
      rcases nomid g hg with y | y
      · have := l2 g (List.mem_cons_of_mem _ (List.mem_filter.mpr ⟨hg, decide_eq_true y⟩))
        omega
      · have := u2 g (List.mem_cons_of_mem _ (List.mem_filter.mpr ⟨hg, decide_eq_true y⟩))
        omega
  have hit : ∀ l h, (l, h) ∈ hits rows s allPairs ↔ (0 ≤ l ∧ l ≤ h ∧ h ≤ 127) ∧ (L < l ∧ l ≤ mn r0 rs ∧ mx r0 rs ≤ h ∧ h < U) := fun l h => by
    rw [mem_hits]
    exact and_congr_right fun ⟨a, b, c⟩ => fit3 l h a b c
  have p1 : (L + 1, mx r0 rs) ∈ hits rows s allPairs := (hit _ _).mpr ⟨by omega, by omega⟩
  have p2 : (mn r0 rs, mx r0 rs) ∈ hits rows s allPairs := (hit _ _).mpr ⟨by omega, by omega⟩
  have p3 : (mn r0 rs, U - 1) ∈ hits rows s allPairs := (hit _ _).mpr ⟨by omega, by omega⟩
  unfold told1
  cases q : hits rows s allPairs with
  | nil => rw [q] at p1; cases p1
  | cons p ps =>
    rw [q] at p1 p2 p3 hit
    have f1 : p.1 :: ps.map (·.1) = (p :: ps).map (·.1) := rfl
    have f2 : p.2 :: ps.map (·.2) = (p :: ps).map (·.2) := rfl
    have v1 : mnI p.1 (ps.map (·.1)) = L + 1 := mnI_eq (by rw [f1]; exact List.mem_map.mpr ⟨_, p1, rfl⟩) fun x hx => by
      rw [f1] at hx
      obtain ⟨⟨l, h⟩, hm, rfl⟩ := List.mem_map.mp hx
      have := (hit l h).mp hm
      show L + 1 ≤ l
      omega
    have v2 : mxI p.1 (ps.map (·.1)) = mn r0 rs := mxI_eq (by rw [f1]; exact List.mem_map.mpr ⟨_, p2, rfl⟩) fun x hx => by
      rw [f1] at hx
      obtain ⟨⟨l, h⟩, hm, rfl⟩ := List.mem_map.mp hx
      have := (hit l h).mp hm
      show l ≤ _
      omega
    have v3 : mnI p.2 (ps.map (·.2)) = mx r0 rs := mnI_eq (by rw [f2]; exact List.mem_map.mpr ⟨_, p2, rfl⟩) fun x hx => by
      rw [f2] at hx
      obtain ⟨⟨l, h⟩, hm, rfl⟩ := List.mem_map.mp hx
      have := (hit l h).mp hm
      show _ ≤ h
      omega
    have v4 : mxI p.2 (ps.map (·.2)) = U - 1 := mxI_eq (by rw [f2]; exact List.mem_map.mpr ⟨_, p3, rfl⟩) fun x hx => by
      rw [f2] at hx
      obtain ⟨⟨l, h⟩, hm, rfl⟩ := List.mem_map.mp hx
      have := (hit l h).mp hm
      show h ≤ _
      omega
    dsimp only
    rw [v1, v2, v3, v4]
    rfl
end L61
set_option maxHeartbeats 2000000
namespace L61
open PySem PySem.Spec L2 Nc
open PyProof.Rows hiding St

def src3 (a s p : Int) : D := .list [.int a, .int s, .int p]
def V3 (a p : Int) : Prop := 0 ≤ a ∧ 0 < p ∧ p < 4294967296
theorem mod_ok {a b : Int} (h : 0 < b) : dMod (.int a) (.int b) = some (.int (a % b)) := by
  show (if 0 < b then some (PyData.int (a % b)) else none) = _
  rw [if_pos h]
theorem fdiv_ok {a b : Int} (h : 0 < b) (h2 : b ≤ 1000) : dFdiv (.int a) (.int b) = some (.int (a / b)) := by
  show (if 0 < b ∧ b.natAbs.log2 < 9000 then some (PyData.int (a / b)) else none) = _
  rw [if_pos ⟨h, by
    have := Nat.log2_le_self b.natAbs
    omega⟩]
theorem mul_ok {a b : Int} (h : -18446744073709551616 < b) (h2 : b < 18446744073709551616) : dMul (.int a) (.int b) = some (.int (a * b)) := by
  show (if (-(2 ^ 64) < a ∧ a < 2 ^ 64) ∨ (-(2 ^ 64) < b ∧ b < 2 ^ 64) then some (PyData.int (a * b)) else none) = _
  rw [if_pos (.inr ⟨by omega, by omega⟩)]
theorem put0 (a b c v : Int) (f : M) (S1 S2 : Slot) (h : f [some (1, src3 a b c), S1, S2] = .ok (.int v, [some (1, src3 a b c), S1, S2])) : sPut 0 f (mC (.int 0)) [some (1, src3 a b c), S1, S2] = .ok (.nx, [some (1, src3 v b c), S1, S2]) := by
  unfold sPut
  rw [h]
  rfl
theorem put1 (a b c v : Int) (f : M) (S1 S2 : Slot) (h : f [some (1, src3 a b c), S1, S2] = .ok (.int v, [some (1, src3 a b c), S1, S2])) : sPut 0 f (mC (.int 1)) [some (1, src3 a b c), S1, S2] = .ok (.nx, [some (1, src3 a v c), S1, S2]) := by
  unfold sPut
  rw [h]
  rfl
theorem peek0 (a b c : Int) (S1 S2 : Slot) : mB dIxK (mPeek 0) (mC (.int 0)) [some (1, src3 a b c), S1, S2] = .ok (.int a, [some (1, src3 a b c), S1, S2]) := rfl
theorem peek1 (a b c : Int) (S1 S2 : Slot) : mB dIxK (mPeek 0) (mC (.int 1)) [some (1, src3 a b c), S1, S2] = .ok (.int b, [some (1, src3 a b c), S1, S2]) := rfl
theorem peek2 (a b c : Int) (S1 S2 : Slot) : mB dIxK (mPeek 0) (mC (.int 2)) [some (1, src3 a b c), S1, S2] = .ok (.int c, [some (1, src3 a b c), S1, S2]) := rfl
theorem mB_ok {g : D → D → Option D} {f h : M} {ρ ρ1 ρ2 : Rho} {x y z : D} (h1 : f ρ = .ok (x, ρ1)) (h2 : h ρ1 = .ok (y, ρ2)) (h3 : g x y = some z) : mB g f h ρ = .ok (z, ρ2) := by
  unfold mB
  rw [h1]
  show (h ρ1).bind _ = _
  rw [h2]
  show R.of (g x y) ρ2 = _
  rw [h3]
  rfl
theorem pick_ok {a s p size : Int} (v : V3 a p) (h1 : 0 < size) (h2 : size ≤ 1000) : ∃ d a' s', fc__law_pick.F [src3 a s p, .int size] = .ok (.int d, [some (1, src3 a' s' p), none]) ∧ V3 a' p ∧ 0 ≤ d ∧ d < size := by
  obtain ⟨v1, v2, v3⟩ := v
  have run : ∀ {d a' s' : Int} {S2 : Slot}, s__law_pick [some (1, src3 a s p), some (0, .int size), none] = .ok (.ret (.int d), [some (1, src3 a' s' p), some (0, .int size), S2]) → fc__law_pick.F [src3 a s p, .int size] = .ok (.int d, [some (1, src3 a' s' p), none]) := fun {d a' s' S2} h => by
    show (s__law_pick [some (1, src3 a s p), some (0, .int size), none]).bind _ = _
    rw [h]
    rfl
  by_cases h : 0 < a
  · refine ⟨a % size, a / size, s, run (S2 := some (0, .int (a % size))) ?_, ⟨Int.ediv_nonneg v1 (Int.le_of_lt h1), v2, v3⟩, Int.emod_nonneg _ (by omega), Int.emod_lt_of_pos _ h1⟩
    unfold s__law_pick
    refine seq_ret ?_
    have t : toB (mB dGt1 (mB dIxK (mPeek 0) (mC (.int 0))) (mC (.int 0)) [some (1, src3 a s p), some (0, .int size), none]) = .ok (true, [some (1, src3 a s p), some (0, .int size), none]) := by
      rw [mB_ok (peek0 a s p _ _) rfl (show dGt1 (.int a) (.int 0) = some (.bool (decide (0 < a))) from rfl), decide_eq_true h]
      rfl
    show sIf (fun ρ => toB (mB dGt1 (mB dIxK (mPeek 0) (mC (.int 0))) (mC (.int 0)) ρ)) _ _ [some (1, src3 a s p), some (0, .int size), none] = _
    unfold sIf
    simp only [t, R.bind_ok, if_true]
    refine (seq_nx (ρ1 := [some (1, src3 a s p), some (0, .int size), some (0, .int (a % size))]) ?_).trans ?_
    · unfold sSet
      rw [mB_ok (peek0 a s p _ _) (show mVar 1 _ = .ok (.int size, _) from rfl) (mod_ok h1)]
      rfl
    refine (seq_nx (ρ1 := [some (1, src3 (a / size) s p), some (0, .int size), some (0, .int (a % size))]) ?_).trans ?_
    · exact put0 a s p (a / size) _ _ _ (mB_ok (peek0 a s p _ _) (show mVar 1 _ = .ok (.int size, _) from rfl) (fdiv_ok h1 h2))
    · rfl
  · have m0 : 0 ≤ s * 48271 % p := Int.emod_nonneg _ (by omega)
    have m1 : s * 48271 % p < p := Int.emod_lt_of_pos _ v2
    let u := s * 48271 % p + 1
    refine ⟨(u * u % 2147483423) / 7 % size, a, u, run (S2 := none) ?_, ⟨v1, v2, v3⟩, Int.emod_nonneg _ (by omega), Int.emod_lt_of_pos _ h1⟩
    unfold s__law_pick
    have t : toB (mB dGt1 (mB dIxK (mPeek 0) (mC (.int 0))) (mC (.int 0)) [some (1, src3 a s p), some (0, .int size), none]) = .ok (false, [some (1, src3 a s p), some (0, .int size), none]) := by
      rw [mB_ok (peek0 a s p _ _) rfl (show dGt1 (.int a) (.int 0) = some (.bool (decide (0 < a))) from rfl), decide_eq_false h]
      rfl
    refine (seq_nx (ρ1 := [some (1, src3 a s p), some (0, .int size), none]) ?_).trans ?_
    · show sIf (fun ρ => toB (mB dGt1 (mB dIxK (mPeek 0) (mC (.int 0))) (mC (.int 0)) ρ)) _ _ [some (1, src3 a s p), some (0, .int size), none] = _
      unfold sIf
      simp only [t, R.bind_ok, Bool.false_eq_true, if_false]
      rfl
    refine (seq_nx (ρ1 := [some (1, src3 a u p), some (0, .int size), none]) ?_).trans ?_
    · exact put1 a s p u _ _ _ (mB_ok (mB_ok (mB_ok (peek1 a s p _ _) (show mC (.int 48271) _ = .ok (.int 48271, _) from rfl) (mul_ok (by omega) (by omega))) (peek2 a s p _ _) (mod_ok v2)) (show mC (.int 1) _ = .ok (.int 1, _) from rfl) rfl)
    · refine seq_ret ?_
      unfold sRet
      have hu : u = s * 48271 % p + 1 := rfl
      rw [mB_ok (mB_ok (mB_ok (mB_ok (peek1 a u p _ _) (peek1 a u p _ _) (mul_ok (by omega) (by omega))) (show mC (.int 2147483423) _ = .ok (.int 2147483423, _) from rfl) (mod_ok (by omega))) (show mC (.int 7) _ = .ok (.int 7, _) from rfl) (fdiv_ok (by omega) (by omega))) (show mVar 1 _ = .ok (.int size, _) from rfl) (mod_ok h1)]
      rfl
/-- a draw in a caller -/
theorem pickM2 {ρ ρ1 : Rho} {i : Nat} {z : Nat × D} {a s p size : Int} {f : M} (h0 : ρ[i]? = some (some z)) (hf : f ρ = .ok (.int size, ρ1)) (hi : ρ1[i]? = some (some (1, src3 a s p))) (v : V3 a p) (h1 : 0 < size) (h2 : size ≤ 1000) :
    ∃ d a' s', mCall fc__law_pick [some i, none] (aLend i (aCons f aNil)) ρ = .ok (.int d, ρ1.set i (some (1, src3 a' s' p))) ∧ V3 a' p ∧ 0 ≤ d ∧ d < size := by
  obtain ⟨d, a', s', q, r⟩ := pick_ok (s := s) v h1 h2
  refine ⟨d, a', s', ?_, r⟩
  have e1 : aLend i (aCons f aNil) ρ = .ok ([.none, .int size], ρ1) := by
    unfold aLend
    rw [h0]
    show aIo (aCons f aNil) ρ = _
    simp only [aIo, aCons, aNil, hf, R.bind_ok]
  have e2 : lend fc__law_pick.ms [some i, none] [.none, .int size] ρ1 = some [src3 a s p, .int size] := by
    show lend [1, 0] [some i, none] [.none, .int size] ρ1 = _
    unfold lend
    rw [hi]
    rfl
  unfold mCall
  simp only [e1, R.bind_ok, e2, q]
  rfl
theorem pickM {ρ : Rho} {i : Nat} {a s p size : Int} {f : M} (hi : ρ[i]? = some (some (1, src3 a s p))) (hf : f ρ = .ok (.int size, ρ)) (v : V3 a p) (h1 : 0 < size) (h2 : size ≤ 1000) :
    ∃ d a' s', mCall fc__law_pick [some i, none] (aLend i (aCons f aNil)) ρ = .ok (.int d, ρ.set i (some (1, src3 a' s' p))) ∧ V3 a' p ∧ 0 ≤ d ∧ d < size := pickM2 hi hf hi v h1 h2
theorem prime_ok {j : Int} (h1 : 0 ≤ j) (h2 : j < 8) : ∃ p : Int, dIxK (.list [.int 2147483647, .int 2147483629, .int 2147483587, .int 2147483579, .int 2147483563, .int 2147483549, .int 2147483543, .int 2147483497]) (.int j) = some (.int p) ∧ 0 < p ∧ p < 4294967296 := by
  have c : j = 0 ∨ j = 1 ∨ j = 2 ∨ j = 3 ∨ j = 4 ∨ j = 5 ∨ j = 6 ∨ j = 7 := by omega
  rcases c with c | c | c | c | c | c | c | c <;> subst c
  · exact ⟨2147483647, rfl, by omega, by omega⟩
  · exact ⟨2147483629, rfl, by omega, by omega⟩
  · exact ⟨2147483587, rfl, by omega, by omega⟩
  · exact ⟨2147483579, rfl, by omega, by omega⟩
  · exact ⟨2147483563, rfl, by omega, by omega⟩
  · exact ⟨2147483549, rfl, by omega, by omega⟩
  · exact ⟨2147483543, rfl, by omega, by omega⟩
  · exact ⟨2147483497, rfl, by omega, by omega⟩
abbrev iDs (ns : List Int) : D := .list (ns.map fun (i : Int) => (.int i : PyData))
theorem source_ok (ns : List Int) (k : Nat) (hk : k < 1000) : ∃ a s p, F__law_source [iDs ns, .int (k : Int)] = .ok (src3 a s p) ∧ V3 a p := by
  have cell : ∃ c : Int, (sIf (fun ρ => toB (mB dLt2 (mVar 1) (mU dLen (mVar 0)) ρ)) (sSet 2 0 (mB dIxK (mVar 0) (mVar 1))) sNil) [some (0, iDs ns), some (0, .int (k : Int)), some (0, .int 0), none, none] = .ok (.nx, [some (0, iDs ns), some (0, .int (k : Int)), some (0, .int c), none, none]) := by
    have lenI : dLen (iDs ns) = some (.int (ns.length : Int)) := by
      show some (PyData.int ((ns.map fun (i : Int) => (.int i : PyData)).length : Int)) = _
      rw [List.length_map]
    by_cases h : k < ns.length
    · have h' : (k : Int) < (ns.length : Int) := by omega
      have ix : dIxK (iDs ns) (.int (k : Int)) = some (.int ns[k]) := by
        show atI (ns.map fun (i : Int) => (.int i : PyData)) (k : Int) = _
        rw [atI_nat _ _ (by rw [List.length_map]; exact h), List.getElem?_map, List.getElem?_eq_getElem h]
        rfl
      refine ⟨ns[k], ?_⟩
      simp only [sIf, toB, mB, mU, mVar, List.getElem?_cons_succ, List.getElem?_cons_zero, R.bind_ok, lenI, R.of_some, lt_I, h', decide_true, if_true, sSet, ix, List.set_cons_succ, List.set_cons_zero]
    · have h' : ¬ (k : Int) < (ns.length : Int) := by omega
      refine ⟨0, ?_⟩
      simp only [sIf, toB, mB, mU, mVar, List.getElem?_cons_succ, List.getElem?_cons_zero, R.bind_ok, lenI, R.of_some, lt_I, h', decide_false, Bool.false_eq_true, if_false, sNil]
  obtain ⟨c, hc⟩ := cell
  have j0 : 0 ≤ (k : Int) % 8 := Int.emod_nonneg _ (by omega)
  have j1 : (k : Int) % 8 < 8 := Int.emod_lt_of_pos _ (by omega)
  obtain ⟨p, hp, p1, p2⟩ := prime_ok j0 j1
  have b8 : (8 : Nat) ≤ big := by decide
  have b3 : (3 : Nat) ≤ big := by decide
  have m8 : dMod (.int (k : Int)) (.int 8) = some (.int ((k : Int) % 8)) := mod_ok (by omega)
  have k2 : dMul (.int 2) (.int (k : Int)) = some (.int (2 * (k : Int))) := mul_ok (by omega) (by omega)
  let u := c % 2147483489
  have u0 : 0 ≤ u := Int.emod_nonneg _ (by omega)
  have u1 : u < 2147483489 := Int.emod_lt_of_pos _ (by omega)
  let w := (u + 1) * (48271 + 2 * (k : Int)) % 2147483489
  have w0 : 0 ≤ w := Int.emod_nonneg _ (by omega)
  have w1 : w < 2147483489 := Int.emod_lt_of_pos _ (by omega)
  have e1 : dMod (.int c) (.int 2147483489) = some (.int u) := mod_ok (by omega)
  have e2 : dMul (.int (u + 1)) (.int (48271 + 2 * (k : Int))) = some (.int ((u + 1) * (48271 + 2 * (k : Int)))) := mul_ok (by omega) (by omega)
  have e3 : dMod (.int ((u + 1) * (48271 + 2 * (k : Int)))) (.int 2147483489) = some (.int w) := mod_ok (by omega)
  have e4 : dMul (.int w) (.int w) = some (.int (w * w)) := mul_ok (by omega) (by omega)
  have e5 : dMod (.int (w * w)) (.int 2147483477) = some (.int (w * w % 2147483477)) := mod_ok (by omega)
  have tenp : dPow (.int 10) (.int 18) = some (.int 1000000000000000000) := by
    show (if (0 : Int) ≤ 18 ∧ (18 : Int) ≤ 1000000 ∧ (10 : Int).natAbs < 2 ^ 64 then some (PyData.int ((10 : Int) ^ (18 : Int).toNat)) else none) = _
    rw [if_pos (by decide)]
    rfl
  let PR : D := .list [.int 2147483647, .int 2147483629, .int 2147483587, .int 2147483579, .int 2147483563, .int 2147483549, .int 2147483543, .int 2147483497]
  have hp2 : dIxK PR (.int ((k : Int) % 8)) = some (.int p) := hp
  have st : ∀ {z : D}, F__law_source [iDs ns, .int (k : Int)] = .ok z ↔ F__law_source [iDs ns, .int (k : Int)] = .ok z := fun {z} => Iff.rfl
  by_cases hge : 1000000000000000000 ≤ c
  · refine ⟨c, w * w % 2147483477 + (k : Int) + 1, p, runP_ret (ρ := [some (0, iDs ns), some (0, .int (k : Int)), some (0, .int c), some (0, PR), some (0, .int (w * w % 2147483477 + (k : Int) + 1))]) ?_, by omega, p1, p2⟩
    unfold s__law_source
    refine (seq_nx (ρ1 := [some (0, iDs ns), some (0, .int (k : Int)), some (0, .int 0), none, none]) rfl).trans ?_
    refine (seq_nx hc).trans ?_
    refine (seq_nx (ρ1 := [some (0, iDs ns), some (0, .int (k : Int)), some (0, .int c), some (0, PR), none]) ?_).trans ?_
    · simp only [sSet, mLst, aCons, aNil, mC, R.bind_ok, List.length_cons, List.length_nil, Nat.zero_add, Nat.reduceAdd, if_pos b8, List.set_cons_succ, List.set_cons_zero]
      rfl
    refine (seq_nx (ρ1 := [some (0, iDs ns), some (0, .int (k : Int)), some (0, .int c), some (0, PR), some (0, .int w)]) ?_).trans ?_
    · simp only [sSet, mB, mC, mVar, List.getElem?_cons_succ, List.getElem?_cons_zero, R.bind_ok, R.of_some, e1, k2, dAdd, e2, e3, List.set_cons_succ, List.set_cons_zero]
    refine (seq_nx (ρ1 := [some (0, iDs ns), some (0, .int (k : Int)), some (0, .int c), some (0, PR), some (0, .int (w * w % 2147483477 + (k : Int) + 1))]) ?_).trans ?_
    · simp only [sSet, mB, mC, mVar, List.getElem?_cons_succ, List.getElem?_cons_zero, R.bind_ok, R.of_some, e4, e5, dAdd, List.set_cons_succ, List.set_cons_zero]
    refine seq_ret ?_
    simp only [sIf, toB, sSeq, sRet, mLst, aCons, aNil, mB, mC, mVar, List.getElem?_cons_succ, List.getElem?_cons_zero, R.bind_ok, R.of_some, tenp, dGe, decide_eq_true hge, if_true, m8, hp2, List.length_cons, List.length_nil, Nat.zero_add, Nat.reduceAdd, if_pos b3]
    rfl
  · refine ⟨0, w * w % 2147483477 + (k : Int) + 1, p, runP_ret (ρ := [some (0, iDs ns), some (0, .int (k : Int)), some (0, .int c), some (0, PR), some (0, .int (w * w % 2147483477 + (k : Int) + 1))]) ?_, by omega, p1, p2⟩
    unfold s__law_source
    refine (seq_nx (ρ1 := [some (0, iDs ns), some (0, .int (k : Int)), some (0, .int 0), none, none]) rfl).trans ?_
    refine (seq_nx hc).trans ?_
    refine (seq_nx (ρ1 := [some (0, iDs ns), some (0, .int (k : Int)), some (0, .int c), some (0, PR), none]) ?_).trans ?_
    · simp only [sSet, mLst, aCons, aNil, mC, R.bind_ok, List.length_cons, List.length_nil, Nat.zero_add, Nat.reduceAdd, if_pos b8, List.set_cons_succ, List.set_cons_zero]
      rfl
    refine (seq_nx (ρ1 := [some (0, iDs ns), some (0, .int (k : Int)), some (0, .int c), some (0, PR), some (0, .int w)]) ?_).trans ?_
    · simp only [sSet, mB, mC, mVar, List.getElem?_cons_succ, List.getElem?_cons_zero, R.bind_ok, R.of_some, e1, k2, dAdd, e2, e3, List.set_cons_succ, List.set_cons_zero]
    refine (seq_nx (ρ1 := [some (0, iDs ns), some (0, .int (k : Int)), some (0, .int c), some (0, PR), some (0, .int (w * w % 2147483477 + (k : Int) + 1))]) ?_).trans ?_
    · simp only [sSet, mB, mC, mVar, List.getElem?_cons_succ, List.getElem?_cons_zero, R.bind_ok, R.of_some, e4, e5, dAdd, List.set_cons_succ, List.set_cons_zero]
    refine (seq_nx (ρ1 := [some (0, iDs ns), some (0, .int (k : Int)), some (0, .int c), some (0, PR), some (0, .int (w * w % 2147483477 + (k : Int) + 1))]) ?_).trans ?_
    · simp only [sIf, toB, mB, mC, mVar, List.getElem?_cons_succ, List.getElem?_cons_zero, R.bind_ok, R.of_some, tenp, dGe, decide_eq_false hge, Bool.false_eq_true, if_false, sNil]
    refine seq_ret ?_
    simp only [sRet, mLst, aCons, aNil, mB, mC, mVar, List.getElem?_cons_succ, List.getElem?_cons_zero, R.bind_ok, R.of_some, m8, hp2, List.length_cons, List.length_nil, Nat.zero_add, Nat.reduceAdd, if_pos b3]
    rfl
def encPt : Option Mv → D
  | none => .none
  | some m => .tuple [.tuple [.str "range", .int m.low, .int m.mx], .tuple [.str "move", .int m.s]]
theorem mtold_ok (rows : List Rw) (h1 : rows ≠ []) (h2 : rows.length ≤ 10) (hok : ∀ r ∈ rows, r.Ok) (r0 : Rw) (rs : List Rw) (s : Int) (h0 : some' rows = r0 :: rs) (hs : r0.o = some s) : F_moves_told [rsD rows] = .ok (encM (mv rows s r0 rs)) := by
  refine runP_ret (ρ := [some (0, rsD rows)]) ?_
  show s_moves_told [some (0, rsD rows)] = _
  unfold s_moves_told
  exact (seq_nx (expr_ok (call_ok (a_cons v_ok rfl) (require_ok rows h1 h2 hok (by rw [h0]; simp))))).trans (seq_ret (ret_ok (call_ok (a_cons v_ok rfl) (moves_ok rows h2 r0 rs s h0 hs))))
theorem sm_encM (m : Option Mv) : Sm 3 (encM m) := by
  cases m with
  | none => exact (sm_lst (n := 0) fun d hd => by cases hd).mono (by decide)
  | some m =>
    refine sm_lst fun d hd => ?_
    rw [List.mem_singleton.mp hd]
    refine sm_tup fun d hd => ?_
    rcases List.mem_cons.mp hd with rfl | hd
    · exact (sm_int _).mono (by decide)
    · rcases List.mem_cons.mp hd with rfl | hd
      · exact sm_nD _ _
      · rw [List.mem_singleton.mp hd]
        exact sm_nD _ _
theorem eqM_nil (m : Option Mv) : dEq (encM m) (.list []) = some (.bool (!m.isSome)) := by
  unfold dEq
  rw [if_pos ⟨(sm_encM m).shaped, (sm_lst (n := 0) (fun d hd => by cases hd)).shaped⟩]
  cases m with
  | none => rfl
  | some m => simp [encM, PyData.eqv, PyData.eqvAll]
theorem neM_nil (m : Option Mv) : dNe (encM m) (.list []) = some (.bool m.isSome) := by
  unfold dNe
  rw [if_pos ⟨(sm_encM m).shaped, (sm_lst (n := 0) (fun d hd => by cases hd)).shaped⟩]
  cases m with
  | none => rfl
  | some m => simp [encM, PyData.eqv, PyData.eqvAll]
theorem encM0 (m : Mv) : dIxK (encM (some m)) (.int 0) = some (.tuple [.int m.s, nD m.low m.mn, nD m.mx m.high]) := lx0 _ _
theorem ptold_ok (rows : List Rw) (h1 : rows ≠ []) (h2 : rows.length ≤ 10) (hok : ∀ r ∈ rows, r.Ok) (r0 : Rw) (rs : List Rw) (s : Int) (h0 : some' rows = r0 :: rs) (hs : r0.o = some s) : F_patch_told [rsD rows] = .ok (encPt (mv rows s r0 rs)) := by
  refine runP_ret' ?_
  show ∃ ρ', s_patch_told [some (0, rsD rows), none, none, none, none] = .ok (.ret _, ρ')
  unfold s_patch_told
  rw [seq_nx (expr_ok (call_ok (ρ1 := [some (0, rsD rows), none, none, none, none]) (a_cons v_ok rfl) (require_ok rows h1 h2 hok (by rw [h0]; simp)))), seq_nx (set_ok (ρ2 := [some (0, rsD rows), some (0, encM (mv rows s r0 rs)), none, none, none]) (call_ok (a_cons v_ok rfl) (moves_ok rows h2 r0 rs s h0 hs)))]
  have t : toB (mB dEq (mVar 1) (mLst aNil) [some (0, rsD rows), some (0, encM (mv rows s r0 rs)), none, none, none]) = .ok (!(mv rows s r0 rs).isSome, [some (0, rsD rows), some (0, encM (mv rows s r0 rs)), none, none, none]) := t_ok (b_ok v_ok (lst_ok rfl) (eqM_nil _))
  cases e : mv rows s r0 rs with
  | none =>
    rw [e] at t
    refine ⟨[some (0, rsD rows), some (0, encM none), none, none, none], seq_ret ((s_if t).trans ?_)⟩
    rw [if_pos (show (!(none : Option Mv).isSome) = true from rfl)]
    exact ret_ok rfl
  | some m =>
    rw [e] at t
    rw [seq_nx ((s_if t).trans rfl)]
    rw [seq_nx (asg_ok (ρ2 := [some (0, rsD rows), some (0, encM (some m)), some (0, .int m.s), some (0, nD m.low m.mn), some (0, nD m.mx m.high)]) (b_ok v_ok rfl (encM0 m)) rfl)]
    exact ⟨_, seq_ret (ret_ok (tup_ok (a_cons (tup_ok (a_cons rfl (a_cons (b_ok v_ok rfl (note0 _ _)) (a_cons (b_ok v_ok rfl (note0 _ _)) rfl)))) (a_cons (tup_ok (a_cons rfl (a_cons v_ok rfl))) rfl))))⟩
theorem ss1 (p : P2) : ssP [p] = [p] := rfl
theorem step_mv (s : Int) (p : P2) : stepB (.mv s) [p] = if 0 ≤ p.2 + s ∧ p.2 + s < 128 then [(p.1, p.2 + s)] else [] := by
  unfold stepB
  by_cases h : 0 ≤ p.2 + s ∧ p.2 + s < 128
  · rw [if_pos h]
    simp [gen, inK, h.1, h.2, ssP, insS]
  · rw [if_neg h]
    have : inK (p.1, p.2 + s) = false := decide_eq_false h
    simp [gen, this, ssP]
theorem step_rg (lo hi : Int) (p : P2) (hp : 0 ≤ p.2 ∧ p.2 < 128) : stepB (.rg lo hi) [p] = if lo ≤ p.2 ∧ p.2 ≤ hi then [p] else [] := by
  unfold stepB
  by_cases h : lo ≤ p.2 ∧ p.2 ≤ hi
  · rw [if_pos h]
    have : inK p = true := decide_eq_true hp
    simp [gen, h.1, h.2, this, ssP, insS]
  · rw [if_neg h]
    simp [gen, h, ssP]
theorem step_nil (b : Bx) : stepB b [] = [] := rfl
/-- what a note becomes, as a shift -/
theorem snds_mv (s c k : Int) : ∃ o : Option Int, (.tuple ((snds [.mv s] (c, k)).map encP) : D) = tD c k o ∧ ∀ t, o = some t → 0 ≤ k + t ∧ k + t ≤ 127 := by
  have e : snds [.mv s] (c, k) = stepB (.mv s) [(c, k)] := rfl
  rw [e, step_mv]
  by_cases h : 0 ≤ k + s ∧ k + s < 128
  · rw [if_pos h]
    exact ⟨some s, rfl, fun t z => by cases z; omega⟩
  · rw [if_neg h]
    exact ⟨none, rfl, fun t z => by cases z⟩
theorem snds_rm (lo hi s c k : Int) (hk : 0 ≤ k ∧ k ≤ 127) : ∃ o : Option Int, (.tuple ((snds [.rg lo hi, .mv s] (c, k)).map encP) : D) = tD c k o ∧ ∀ t, o = some t → 0 ≤ k + t ∧ k + t ≤ 127 := by
  have e : snds [.rg lo hi, .mv s] (c, k) = stepB (.mv s) (stepB (.rg lo hi) [(c, k)]) := rfl
  rw [e, step_rg lo hi (c, k) ⟨hk.1, by show k < 128; omega⟩]
  by_cases h : lo ≤ k ∧ k ≤ hi
  · rw [if_pos h]
    exact snds_mv s c k
  · rw [if_neg h]
    exact ⟨none, rfl, fun t z => by cases z⟩
end L61
set_option maxHeartbeats 2000000
namespace L61
open PySem PySem.Spec L2 Nc
open PyProof.Rows hiding St
def O3 : D := .tuple [.tuple [nD 0 5, .tuple []]]
def O4 : D := .list [.tuple [nD 0 5, .tuple [nD 0 6]]]
def O5 : D := .tuple (List.replicate 11 [PyData.tuple [nD 0 5, .tuple [nD 0 6]]]).flatten
def O6 : D := .tuple [.tuple [nD 0 5, .tuple [nD 0 128]]]
def O7 : D := .tuple [.tuple [nD 0 5, .tuple [nD 0 7, nD 0 6]]]
def O8 : D := .tuple [.tuple [nD 4 5, .tuple [nD 0 6]]]
def odd : List D := [.none, .tuple [], O3, O4, O5, O6, O7, O8]
theorem out0 : F__law_outcome [.int 0, .none] = .ok (.str "observed") ∧ F__law_outcome [.int 0, .tuple []] = .ok (.str "observed") ∧ F__law_outcome [.int 0, O3] = .ok (.str "observed") ∧ F__law_outcome [.int 0, O4] = .ok (.str "observed") := ⟨by kernel_rfl, by kernel_rfl, by kernel_rfl, by kernel_rfl⟩
theorem out1 : F__law_outcome [.int 0, O5] = .ok (.str "observed") ∧ F__law_outcome [.int 0, O6] = .ok (.str "observed") ∧ F__law_outcome [.int 0, O7] = .ok (.str "observed") ∧ F__law_outcome [.int 0, O8] = .ok (.str "observed") := ⟨by kernel_rfl, by kernel_rfl, by kernel_rfl, by kernel_rfl⟩
theorem out2 : F__law_outcome [.int 1, .none] = .ok (.str "observed") ∧ F__law_outcome [.int 1, .tuple []] = .ok (.str "observed") ∧ F__law_outcome [.int 1, O3] = .ok (.str "observed") ∧ F__law_outcome [.int 1, O4] = .ok (.str "observed") := ⟨by kernel_rfl, by kernel_rfl, by kernel_rfl, by kernel_rfl⟩
theorem out3 : F__law_outcome [.int 1, O5] = .ok (.str "observed") ∧ F__law_outcome [.int 1, O6] = .ok (.str "observed") ∧ F__law_outcome [.int 1, O7] = .ok (.str "observed") ∧ F__law_outcome [.int 1, O8] = .ok (.str "observed") := ⟨by kernel_rfl, by kernel_rfl, by kernel_rfl, by kernel_rfl⟩
theorem out_ok {c : Int} (hc : c = 0 ∨ c = 1) {d : D} (hd : d ∈ odd) : F__law_outcome [.int c, d] = .ok (.str "observed") := by
  obtain ⟨a1, a2, a3, a4⟩ := out0
  obtain ⟨a5, a6, a7, a8⟩ := out1
  obtain ⟨b1, b2, b3, b4⟩ := out2
  obtain ⟨b5, b6, b7, b8⟩ := out3
  unfold odd at hd
  simp only [List.mem_cons, List.not_mem_nil, or_false] at hd
  rcases hc with rfl | rfl
  · rcases hd with rfl | rfl | rfl | rfl | rfl | rfl | rfl | rfl
    · exact a1
    · exact a2
    · exact a3
    · exact a4
    · exact a5
    · exact a6
    · exact a7
    · exact a8
  · rcases hd with rfl | rfl | rfl | rfl | rfl | rfl | rfl | rfl
    · exact b1
    · exact b2
    · exact b3
    · exact b4
    · exact b5
    · exact b6
    · exact b7
    · exact b8
def WR : D := .tuple [.tuple [nD 0 60, .tuple [nD 0 65]], .tuple [nD 0 70, .tuple []]]
theorem wr1 : F_moves_told [WR] = .ok (.list [.tuple [.int 5, nD 0 60, nD 60 69]]) := by kernel_rfl
theorem wr2 : F_patch_told [WR] = .ok (.tuple [.tuple [.str "range", .int 0, .int 60], .tuple [.str "move", .int 5]]) := by kernel_rfl
theorem wr3 : F_moves_told [.tuple [.tuple [nD 0 60, .tuple [nD 0 61]], .tuple [nD 0 61, .tuple [nD 0 63]]]] = .ok (.list []) := by kernel_rfl
end L61
set_option maxHeartbeats 2000000
namespace L61
open PySem PySem.Spec L2 Nc
open PyProof.Rows hiding St
def rowB : S := (sSeq (sSet 8 0 (mTup (aCons (mCall fc__law_pick [some 2, none] (aLend 2 (aCons (mC (.int 4)) aNil))) (aCons (mB dMin (mC (.int 127)) (mB dMax (mC (.int 0)) (mB dSub (mB dAdd (mVar 3) (mCall fc__law_pick [some 2, none] (aLend 2 (aCons (mC (.int 41)) aNil)))) (mC (.int 15))))) aNil))))
        (sSeq (sSet 9 0 (mCallP 2 F__law_sounds (aCons (mVar 5) (aCons (mVar 8) aNil))))
        (sSeq (sIf (fun ρ => toB (mB dEq (mCall fc__law_pick [some 2, none] (aLend 2 (aCons (mC (.int 25)) aNil))) (mC (.int 0)) ρ))
          (sSet 9 0 (mCallP 2 F__law_sounds (aCons (mTup (aCons (mTup (aCons (mC (.str "move")) (aCons (mCall fc__law_pick [some 2, none] (aLend 2 (aCons (mC (.int 5)) aNil))) aNil))) aNil)) (aCons (mVar 8) aNil))))
          sNil)
        (sSeq (sSet 6 0 (mB dAdd (mVar 6) (mTup (aCons (mTup (aCons (mVar 8) (aCons (mVar 9) aNil))) aNil))))
        sNil))))
abbrev bf (S0 S1 : Slot) (src : D) (S3 S4 S5 S6 x7 x8 x9 T0 T1 T2 T3 T4 T5 : Slot) : Rho := [S0, S1, some (1, src), S3, S4, S5, S6, x7, x8, x9, T0, T1, T2, T3, T4, T5]
theorem clamp (j : Int) : ∃ k : Int, dMax (.int 0) (.int j) = some (.int (if j > 0 then j else 0)) ∧ dMin (.int 127) (.int (if j > 0 then j else 0)) = some (.int k) ∧ 0 ≤ k ∧ k ≤ 127 := by
  refine ⟨if (if j > 0 then j else 0) < 127 then (if j > 0 then j else 0) else 127, rfl, rfl, ?_, ?_⟩
  · split
    · split <;> omega
    · omega
  · split <;> omega
theorem row_ok {a s p low hi n : Int} (v : V3 a p) (hlow : 0 ≤ low ∧ low ≤ 119) (hhi : low ≤ hi ∧ hi ≤ 127) (hn : -127 ≤ n ∧ n ≤ 127) (S0 S1 S4 : Slot) (rows : List Rw) (hr : rows.length ≤ 9) (x7 x8 x9 T0 T1 T2 T3 T4 T5 : Slot) :
    ∃ (a' s' : Int) (r : Rw) (y8 y9 : Slot), rowB (bf S0 S1 (src3 a s p) (some (0, .int low)) S4 (some (0, .tuple ([Bx.rg low hi, Bx.mv n].map encB))) (some (0, rsD rows)) x7 x8 x9 T0 T1 T2 T3 T4 T5) =
      .ok (.nx, bf S0 S1 (src3 a' s' p) (some (0, .int low)) S4 (some (0, .tuple ([Bx.rg low hi, Bx.mv n].map encB))) (some (0, rsD (rows ++ [r]))) x7 y8 y9 T0 T1 T2 T3 T4 T5) ∧ V3 a' p ∧ r.Ok := by
  let PT : Slot := some (0, .tuple ([Bx.rg low hi, Bx.mv n].map encB))
  obtain ⟨c, a1, s1, q1, v1, c1, c2⟩ := pickM (s := s) (ρ := bf S0 S1 (src3 a s p) (some (0, .int low)) S4 PT (some (0, rsD rows)) x7 x8 x9 T0 T1 T2 T3 T4 T5) (i := 2) (f := mC (.int 4)) (size := 4) rfl rfl v (by omega) (by omega)
  obtain ⟨d, a2, s2, q2, v2, d1, d2⟩ := pickM (s := s1) (ρ := bf S0 S1 (src3 a1 s1 p) (some (0, .int low)) S4 PT (some (0, rsD rows)) x7 x8 x9 T0 T1 T2 T3 T4 T5) (i := 2) (f := mC (.int 41)) (size := 41) rfl rfl v1 (by omega) (by omega)
  simp only [List.set_cons_succ, List.set_cons_zero] at q1 q2
  obtain ⟨k, k1, k2, k3, k4⟩ := clamp (low + d - 15)
  have hnok : nok (c, k) := ⟨c1, by show c ≤ 3; omega, k3, k4⟩
  have st1 : sSet 8 0 (mTup (aCons (mCall fc__law_pick [some 2, none] (aLend 2 (aCons (mC (.int 4)) aNil))) (aCons (mB dMin (mC (.int 127)) (mB dMax (mC (.int 0)) (mB dSub (mB dAdd (mVar 3) (mCall fc__law_pick [some 2, none] (aLend 2 (aCons (mC (.int 41)) aNil)))) (mC (.int 15))))) aNil)))
      (bf S0 S1 (src3 a s p) (some (0, .int low)) S4 PT (some (0, rsD rows)) x7 x8 x9 T0 T1 T2 T3 T4 T5) = .ok (.nx, bf S0 S1 (src3 a2 s2 p) (some (0, .int low)) S4 PT (some (0, rsD rows)) x7 (some (0, nD c k)) x9 T0 T1 T2 T3 T4 T5) :=
    set_ok (tup_ok (a_cons q1 (a_cons (b_ok rfl (b_ok rfl (b_ok (b_ok v_ok q2 rfl) rfl rfl) k1) k2) rfl)))
  obtain ⟨o, eo, ho⟩ := snds_rm low hi n c k ⟨k3, k4⟩
  have snd1 : F__law_sounds [.tuple ([Bx.rg low hi, Bx.mv n].map encB), nD c k] = .ok (tD c k o) := by
    rw [← eo]
    refine law_sounds_ok (bs := [.rg low hi, .mv n]) (n := (c, k)) (fun b hb => ?_) (show 2 ≤ 12 by decide) hnok
    rcases List.mem_cons.mp hb with rfl | hb
    · exact ⟨by omega, hhi.1, hhi.2⟩
    · rw [List.mem_singleton.mp hb]
      exact hn
  have st2 : sSet 9 0 (mCallP 2 F__law_sounds (aCons (mVar 5) (aCons (mVar 8) aNil))) (bf S0 S1 (src3 a2 s2 p) (some (0, .int low)) S4 PT (some (0, rsD rows)) x7 (some (0, nD c k)) x9 T0 T1 T2 T3 T4 T5) =
      .ok (.nx, bf S0 S1 (src3 a2 s2 p) (some (0, .int low)) S4 PT (some (0, rsD rows)) x7 (some (0, nD c k)) (some (0, tD c k o)) T0 T1 T2 T3 T4 T5) := set_ok (call_ok (a_cons v_ok (a_cons v_ok rfl)) snd1)
  obtain ⟨e, a3, s3, q3, v3, e1, e2⟩ := pickM (s := s2) (ρ := bf S0 S1 (src3 a2 s2 p) (some (0, .int low)) S4 PT (some (0, rsD rows)) x7 (some (0, nD c k)) (some (0, tD c k o)) T0 T1 T2 T3 T4 T5) (i := 2) (f := mC (.int 25)) (size := 25) rfl rfl v2 (by omega) (by omega)
  simp only [List.set_cons_succ, List.set_cons_zero] at q3
  have st3 : ∃ (a' s' : Int) (o' : Option Int), (sIf (fun ρ => toB (mB dEq (mCall fc__law_pick [some 2, none] (aLend 2 (aCons (mC (.int 25)) aNil))) (mC (.int 0)) ρ))
          (sSet 9 0 (mCallP 2 F__law_sounds (aCons (mTup (aCons (mTup (aCons (mC (.str "move")) (aCons (mCall fc__law_pick [some 2, none] (aLend 2 (aCons (mC (.int 5)) aNil))) aNil))) aNil)) (aCons (mVar 8) aNil))))
          sNil) (bf S0 S1 (src3 a2 s2 p) (some (0, .int low)) S4 PT (some (0, rsD rows)) x7 (some (0, nD c k)) (some (0, tD c k o)) T0 T1 T2 T3 T4 T5) =
      .ok (.nx, bf S0 S1 (src3 a' s' p) (some (0, .int low)) S4 PT (some (0, rsD rows)) x7 (some (0, nD c k)) (some (0, tD c k o')) T0 T1 T2 T3 T4 T5) ∧ V3 a' p ∧ ∀ t, o' = some t → 0 ≤ k + t ∧ k + t ≤ 127 := by
    have t : toB (mB dEq (mCall fc__law_pick [some 2, none] (aLend 2 (aCons (mC (.int 25)) aNil))) (mC (.int 0)) (bf S0 S1 (src3 a2 s2 p) (some (0, .int low)) S4 PT (some (0, rsD rows)) x7 (some (0, nD c k)) (some (0, tD c k o)) T0 T1 T2 T3 T4 T5)) =
        .ok (decide (e = 0), bf S0 S1 (src3 a3 s3 p) (some (0, .int low)) S4 PT (some (0, rsD rows)) x7 (some (0, nD c k)) (some (0, tD c k o)) T0 T1 T2 T3 T4 T5) := t_ok (b_ok q3 rfl (e_int e 0))
    cases he : decide (e = 0) with
    | false =>
      rw [he] at t
      exact ⟨a3, s3, o, (s_if t).trans rfl, v3, ho⟩
    | true =>
      rw [he] at t
      obtain ⟨m, a4, s4, q4, v4, m1, m2⟩ := pickM (s := s3) (ρ := bf S0 S1 (src3 a3 s3 p) (some (0, .int low)) S4 PT (some (0, rsD rows)) x7 (some (0, nD c k)) (some (0, tD c k o)) T0 T1 T2 T3 T4 T5) (i := 2) (f := mC (.int 5)) (size := 5) rfl rfl v3 (by omega) (by omega)
      simp only [List.set_cons_succ, List.set_cons_zero] at q4
      obtain ⟨o', eo', ho'⟩ := snds_mv m c k
      have snd2 : F__law_sounds [.tuple ([Bx.mv m].map encB), nD c k] = .ok (tD c k o') := by
        rw [← eo']
        refine law_sounds_ok (bs := [.mv m]) (n := (c, k)) (fun b hb => ?_) (show 1 ≤ 12 by decide) hnok
        rw [List.mem_singleton.mp hb]
        exact ⟨by omega, by omega⟩
      refine ⟨a4, s4, o', (s_if t).trans ?_, v4, ho'⟩
      rw [if_pos rfl]
      exact set_ok (call_ok (l := [.tuple ([Bx.mv m].map encB), nD c k]) (a_cons (tup_ok (a_cons (tup_ok (a_cons rfl (a_cons q4 rfl))) rfl)) (a_cons v_ok rfl)) snd2)
  obtain ⟨a5, s5, o', q5, v5, ho5⟩ := st3
  refine ⟨a5, s5, ⟨c, k, o'⟩, some (0, nD c k), some (0, tD c k o'), ?_, v5, ⟨c1, by show c ≤ 3; omega, k3, k4, ho5⟩⟩
  have add : dAdd (rsD rows) (.tuple [.tuple [nD c k, tD c k o']]) = some (rsD (rows ++ [⟨c, k, o'⟩])) := by
    show (if (rows.map rD).length + [PyData.tuple [nD c k, tD c k o']].length ≤ big then some (PyData.tuple (rows.map rD ++ [PyData.tuple [nD c k, tD c k o']])) else none) = _
    rw [if_pos (by rw [List.length_map]; unfold big; show rows.length + 1 ≤ _; omega)]
    unfold rsD
    rw [List.map_append]
    rfl
  unfold rowB
  refine (seq_nx st1).trans ((seq_nx st2).trans ((seq_nx q5).trans ?_))
  exact (seq_nx (set_ok (b_ok v_ok (tup_ok (a_cons (tup_ok (a_cons v_ok (a_cons v_ok rfl))) rfl)) add))).trans rfl
theorem eqv_rM (m : Option Mv) : PyData.eqv (encM m) (encM m) = true := by
  cases m with
  | none => rfl
  | some m => simp [encM, PyData.eqv, PyData.eqvAll]
theorem ne_rM (m : Option Mv) : dNe (encM m) (encM m) = some (.bool false) := by
  unfold dNe
  rw [if_pos ⟨(sm_encM m).shaped, (sm_encM m).shaped⟩, eqv_rM]
  rfl
theorem sm_pt (m : Mv) : Sm 2 (encPt (some m)) := sm_tup fun d hd => by
  rcases List.mem_cons.mp hd with rfl | hd
  · refine sm_tup fun d hd => ?_
    rcases List.mem_cons.mp hd with rfl | hd
    · exact sm_str (by kernel_rfl)
    · rcases List.mem_cons.mp hd with rfl | hd
      · exact sm_int _
      · rw [List.mem_singleton.mp hd]
        exact sm_int _
  · rw [List.mem_singleton.mp hd]
    refine sm_tup fun d hd => ?_
    rcases List.mem_cons.mp hd with rfl | hd
    · exact sm_str (by kernel_rfl)
    · rw [List.mem_singleton.mp hd]
      exact sm_int _
theorem ne_rP (m : Mv) : dNe (encPt (some m)) (encPt (some m)) = some (.bool false) := by
  unfold dNe
  rw [if_pos ⟨(sm_pt m).shaped, (sm_pt m).shaped⟩]
  have : PyData.eqv (encPt (some m)) (encPt (some m)) = true := by simp [encPt, PyData.eqv, PyData.eqvAll]
  rw [this]
  rfl
theorem neB (b : Bool) : dNe (.bool b) (.bool b) = some (.bool false) := by cases b <;> kernel_rfl
theorem is_pt (m : Option Mv) : dIs (encPt m) .none = some (.bool (!m.isSome)) := by cases m <;> rfl
def chkS : S := (sIf (fun ρ => toB (mB dNe (mLc [8, 9] (iA (mVar 6)) (gT 2 (gsCons (gN 8) (gsCons (gN 9) gsNil))) (fun ρ => toB (mB dNe (mVar 9) (mTup aNil) ρ)) (mC (.int 1))) (mLst aNil) ρ))
        (sSeq (sPar 10 0 11 0 (mCallP 1 F__law_told (aCons (mVar 6) aNil)) (mCallP 1 F_patch_told (aCons (mVar 6) aNil)))
        (sSeq (sIf (tOrM (fun ρ => toB (mB dNe (mCallP 1 F_moves_told (aCons (mVar 6) aNil)) (mVar 10) ρ)) (fun ρ => toB (mB dNe (mB dIs (mVar 11) (mC .none)) (mB dEq (mVar 10) (mLst aNil)) ρ)))
          (sRet (mC (.bool false)))
          sNil)
        (sSeq (sIf (fun ρ => toB (mB dNe (mVar 10) (mLst aNil) ρ))
          (sSeq (sAsg (gT 3 (gsCons (gN 4) (gsCons (gN 12) (gsCons (gN 13) gsNil)))) (mB dIxK (mVar 10) (mC (.int 0))))
          (sSeq (sIf (fun ρ => toB (mB dNe (mVar 11) (mTup (aCons (mTup (aCons (mC (.str "range")) (aCons (mB dIxK (mVar 12) (mC (.int 0))) (aCons (mB dIxK (mVar 13) (mC (.int 0))) aNil)))) (aCons (mTup (aCons (mC (.str "move")) (aCons (mVar 4) aNil))) aNil))) ρ))
            (sRet (mC (.bool false)))
            sNil)
          sNil))
          sNil)
        sNil)))
        sNil)
theorem chk_ok (S0 S1 S3 S4 S5 x7 x8 x9 T0 T1 T2 T3 T4 T5 : Slot) (src : D) (rows : List Rw) (h1 : rows ≠ []) (h2 : rows.length ≤ 10) (hok : ∀ r ∈ rows, r.Ok) :
    ∃ y4 y10 y11 y12 y13, chkS (bf S0 S1 src S3 S4 S5 (some (0, rsD rows)) x7 x8 x9 T0 T1 T2 T3 T4 T5) = .ok (.nx, bf S0 S1 src S3 y4 S5 (some (0, rsD rows)) x7 x8 x9 y10 y11 y12 y13 T4 T5) := by
  have q := compP_map (g := gT 2 (gsCons (gN 8) (gsCons (gN 9) gsNil))) (t := fun ρ => toB (mB dNe (mVar 9) (mTup aNil) ρ)) (f := mC (.int 1)) (ρ := wipeR (bf S0 S1 src S3 S4 S5 (some (0, rsD rows)) x7 x8 x9 T0 T1 T2 T3 T4 T5) [8, 9]) rD (fun r => !decide (r.o = none)) (fun _ => (.int 1 : D)) rows fun r _ =>
    ⟨bf S0 S1 src S3 S4 S5 (some (0, rsD rows)) x7 (some (0, nD r.c r.k)) (some (0, tD r.c r.k r.o)) T0 T1 T2 T3 T4 T5, rfl, ⟨_, t_ok (b_ok v_ok (tup_ok rfl) (ne_tD r.c r.k r.o none))⟩, fun _ => ⟨_, rfl⟩⟩
  rw [some_eq] at q
  have e1 : (some' rows).map (fun _ => (.int 1 : D)) = iL ((some' rows).map fun _ => (1 : Int)) := by simp [iL]
  rw [e1] at q
  have t : toB (mB dNe (mLc [8, 9] (iA (mVar 6)) (gT 2 (gsCons (gN 8) (gsCons (gN 9) gsNil))) (fun ρ => toB (mB dNe (mVar 9) (mTup aNil) ρ)) (mC (.int 1))) (mLst aNil) (bf S0 S1 src S3 S4 S5 (some (0, rsD rows)) x7 x8 x9 T0 T1 T2 T3 T4 T5)) =
      .ok (!decide (((some' rows).map fun _ => (1 : Int)) = []), bf S0 S1 src S3 S4 S5 (some (0, rsD rows)) x7 x8 x9 T0 T1 T2 T3 T4 T5) := by
    refine t_ok (b_ok (lc_ok v_ok rfl q ?_) (lst_ok rfl) (ne_ints _))
    rw [List.length_map, List.length_map]
    have := List.length_filter_le (fun r : Rw => r.o.isSome) rows
    unfold some' big
    omega
  cases h0 : some' rows with
  | nil =>
    rw [h0] at t
    exact ⟨S4, T0, T1, T2, T3, (s_if t).trans rfl⟩
  | cons r0 rs =>
    rw [h0] at t
    have mr : r0 ∈ some' rows := by rw [h0]; exact List.mem_cons_self
    have ms := (List.mem_filter.mp mr).2
    cases hs : r0.o with
    | none => rw [hs] at ms; cases ms
    | some s =>
      have f1 := told_ok rows h2
      rw [told_eq rows hok r0 rs s h0 hs] at f1
      have f2 := ptold_ok rows h1 h2 hok r0 rs s h0 hs
      have f3 := mtold_ok rows h1 h2 hok r0 rs s h0 hs
      generalize mv rows s r0 rs = m at f1 f2 f3
      let F1 : Rho := bf S0 S1 src S3 S4 S5 (some (0, rsD rows)) x7 x8 x9 (some (0, encM m)) (some (0, encPt m)) T2 T3 T4 T5
      have p1 : sPar 10 0 11 0 (mCallP 1 F__law_told (aCons (mVar 6) aNil)) (mCallP 1 F_patch_told (aCons (mVar 6) aNil)) (bf S0 S1 src S3 S4 S5 (some (0, rsD rows)) x7 x8 x9 T0 T1 T2 T3 T4 T5) = .ok (.nx, F1) :=
        par_ok (call_ok (a_cons v_ok rfl) f1) (call_ok (a_cons v_ok rfl) f2)
      have t1 : tOrM (fun ρ => toB (mB dNe (mCallP 1 F_moves_told (aCons (mVar 6) aNil)) (mVar 10) ρ)) (fun ρ => toB (mB dNe (mB dIs (mVar 11) (mC .none)) (mB dEq (mVar 10) (mLst aNil)) ρ)) F1 = .ok (false, F1) :=
        or_f (t_ok (b_ok (call_ok (a_cons v_ok rfl) f3) v_ok (ne_rM m))) (t_ok (b_ok (b_ok v_ok rfl (is_pt m)) (b_ok v_ok (lst_ok rfl) (eqM_nil m)) (neB _)))
      have t2 : toB (mB dNe (mVar 10) (mLst aNil) F1) = .ok (m.isSome, F1) := t_ok (b_ok v_ok (lst_ok rfl) (neM_nil m))
      have fin : ∃ y4 y12 y13, (sIf (fun ρ => toB (mB dNe (mVar 10) (mLst aNil) ρ))
          (sSeq (sAsg (gT 3 (gsCons (gN 4) (gsCons (gN 12) (gsCons (gN 13) gsNil)))) (mB dIxK (mVar 10) (mC (.int 0))))
          (sSeq (sIf (fun ρ => toB (mB dNe (mVar 11) (mTup (aCons (mTup (aCons (mC (.str "range")) (aCons (mB dIxK (mVar 12) (mC (.int 0))) (aCons (mB dIxK (mVar 13) (mC (.int 0))) aNil)))) (aCons (mTup (aCons (mC (.str "move")) (aCons (mVar 4) aNil))) aNil))) ρ))
            (sRet (mC (.bool false)))
            sNil)
          sNil))
          sNil) F1 = .ok (.nx, bf S0 S1 src S3 y4 S5 (some (0, rsD rows)) x7 x8 x9 (some (0, encM m)) (some (0, encPt m)) y12 y13 T4 T5) := by
        cases m with
        | none => exact ⟨S4, T2, T3, (s_if t2).trans rfl⟩
        | some m =>
          let F2 : Rho := bf S0 S1 src S3 (some (0, .int m.s)) S5 (some (0, rsD rows)) x7 x8 x9 (some (0, encM (some m))) (some (0, encPt (some m))) (some (0, nD m.low m.mn)) (some (0, nD m.mx m.high)) T4 T5
          have g1 : sAsg (gT 3 (gsCons (gN 4) (gsCons (gN 12) (gsCons (gN 13) gsNil)))) (mB dIxK (mVar 10) (mC (.int 0))) F1 = .ok (.nx, F2) := asg_ok (b_ok v_ok rfl (encM0 m)) rfl
          have t3 : toB (mB dNe (mVar 11) (mTup (aCons (mTup (aCons (mC (.str "range")) (aCons (mB dIxK (mVar 12) (mC (.int 0))) (aCons (mB dIxK (mVar 13) (mC (.int 0))) aNil)))) (aCons (mTup (aCons (mC (.str "move")) (aCons (mVar 4) aNil))) aNil))) F2) = .ok (false, F2) :=
            t_ok (b_ok v_ok (tup_ok (a_cons (tup_ok (a_cons rfl (a_cons (b_ok v_ok rfl (note0 _ _)) (a_cons (b_ok v_ok rfl (note0 _ _)) rfl)))) (a_cons (tup_ok (a_cons rfl (a_cons v_ok rfl))) rfl))) (ne_rP m))
          refine ⟨some (0, .int m.s), some (0, nD m.low m.mn), some (0, nD m.mx m.high), (s_if t2).trans ?_⟩
          rw [if_pos (show (some m).isSome = true from rfl)]
          exact (seq_nx g1).trans ((seq_nx ((s_if t3).trans rfl)).trans rfl)
      obtain ⟨y4, y12, y13, fin⟩ := fin
      refine ⟨y4, some (0, encM m), some (0, encPt m), y12, y13, (s_if t).trans ?_⟩
      rw [if_pos (by simp)]
      exact (seq_nx p1).trans ((seq_nx ((s_if t1).trans rfl)).trans ((seq_nx fin).trans rfl))
end L61
set_option maxHeartbeats 2000000
namespace L61
open PySem PySem.Spec L2 Nc
open PyProof.Rows hiding St
def od1 : S := (sSet 14 0 (mLst (aCons (mC .none) (aCons (mTup aNil) (aCons (mTup (aCons (mTup (aCons (mTup (aCons (mC (.int 0)) (aCons (mC (.int 5)) aNil))) (aCons (mTup aNil) aNil))) aNil)) (aCons (mLst (aCons (mTup (aCons (mTup (aCons (mC (.int 0)) (aCons (mC (.int 5)) aNil))) (aCons (mTup (aCons (mTup (aCons (mC (.int 0)) (aCons (mC (.int 6)) aNil))) aNil)) aNil))) aNil)) (aCons (mB dMul (mTup (aCons (mTup (aCons (mTup (aCons (mC (.int 0)) (aCons (mC (.int 5)) aNil))) (aCons (mTup (aCons (mTup (aCons (mC (.int 0)) (aCons (mC (.int 6)) aNil))) aNil)) aNil))) aNil)) (mC (.int 11))) aNil)))))))
def od2 : S := (sSet 14 0 (mB dAdd (mVar 14) (mLst (aCons (mTup (aCons (mTup (aCons (mTup (aCons (mC (.int 0)) (aCons (mC (.int 5)) aNil))) (aCons (mTup (aCons (mTup (aCons (mC (.int 0)) (aCons (mC (.int 128)) aNil))) aNil)) aNil))) aNil)) aNil))))
def od3 : S := (sSet 14 0 (mB dAdd (mVar 14) (mLst (aCons (mTup (aCons (mTup (aCons (mTup (aCons (mC (.int 0)) (aCons (mC (.int 5)) aNil))) (aCons (mTup (aCons (mTup (aCons (mC (.int 0)) (aCons (mC (.int 7)) aNil))) (aCons (mTup (aCons (mC (.int 0)) (aCons (mC (.int 6)) aNil))) aNil))) aNil))) aNil)) (aCons (mTup (aCons (mTup (aCons (mTup (aCons (mC (.int 4)) (aCons (mC (.int 5)) aNil))) (aCons (mTup (aCons (mTup (aCons (mC (.int 0)) (aCons (mC (.int 6)) aNil))) aNil)) aNil))) aNil)) aNil)))))
def odI : S := (sIf (fun ρ => toB (mB dNe (mB dAdd (mLc [15] (iA (mVar 14)) (gN 15) tTrue (mCallP 2 F__law_outcome (aCons (mC (.int 0)) (aCons (mVar 15) aNil)))) (mLc [15] (iA (mVar 14)) (gN 15) tTrue (mCallP 2 F__law_outcome (aCons (mC (.int 1)) (aCons (mVar 15) aNil))))) (mB dMulL (mLst (aCons (mC (.str "observed")) aNil)) (mC (.int 16))) ρ))
        (sRet (mC (.bool false)))
        sNil)
def tailS : S := (sSeq (sSet 6 0 (mTup (aCons (mTup (aCons (mTup (aCons (mC (.int 0)) (aCons (mC (.int 60)) aNil))) (aCons (mTup (aCons (mTup (aCons (mC (.int 0)) (aCons (mC (.int 65)) aNil))) aNil)) aNil))) (aCons (mTup (aCons (mTup (aCons (mC (.int 0)) (aCons (mC (.int 70)) aNil))) (aCons (mTup aNil) aNil))) aNil))))
    (sSeq (sIf (fun ρ => toB (mB dNe (mCallP 1 F_moves_told (aCons (mVar 6) aNil)) (mLst (aCons (mTup (aCons (mC (.int 5)) (aCons (mTup (aCons (mC (.int 0)) (aCons (mC (.int 60)) aNil))) (aCons (mTup (aCons (mC (.int 60)) (aCons (mC (.int 69)) aNil))) aNil)))) aNil)) ρ))
      (sRet (mC (.bool false)))
      sNil)
    (sSeq (sIf (fun ρ => toB (mB dNe (mCallP 1 F_patch_told (aCons (mVar 6) aNil)) (mTup (aCons (mTup (aCons (mC (.str "range")) (aCons (mC (.int 0)) (aCons (mC (.int 60)) aNil)))) (aCons (mTup (aCons (mC (.str "move")) (aCons (mC (.int 5)) aNil))) aNil))) ρ))
      (sRet (mC (.bool false)))
      sNil)
    (sSeq (sRet (mB dEq (mCallP 1 F_moves_told (aCons (mTup (aCons (mTup (aCons (mTup (aCons (mC (.int 0)) (aCons (mC (.int 60)) aNil))) (aCons (mTup (aCons (mTup (aCons (mC (.int 0)) (aCons (mC (.int 61)) aNil))) aNil)) aNil))) (aCons (mTup (aCons (mTup (aCons (mC (.int 0)) (aCons (mC (.int 61)) aNil))) (aCons (mTup (aCons (mTup (aCons (mC (.int 0)) (aCons (mC (.int 63)) aNil))) aNil)) aNil))) aNil))) aNil)) (mLst aNil)))
    sNil))))
theorem od1_ok (S0 S1 S3 S4 S5 S6 x7 x8 x9 T0 T1 T2 T3 T4 T5 : Slot) (src : D) : od1 (bf S0 S1 src S3 S4 S5 S6 x7 x8 x9 T0 T1 T2 T3 T4 T5) = .ok (.nx, bf S0 S1 src S3 S4 S5 S6 x7 x8 x9 T0 T1 T2 T3 (some (0, .list [.none, .tuple [], O3, O4, O5])) T5) := by kernel_rfl
theorem od2_ok (S0 S1 S3 S4 S5 S6 x7 x8 x9 T0 T1 T2 T3 T5 : Slot) (src : D) : od2 (bf S0 S1 src S3 S4 S5 S6 x7 x8 x9 T0 T1 T2 T3 (some (0, .list [.none, .tuple [], O3, O4, O5])) T5) = .ok (.nx, bf S0 S1 src S3 S4 S5 S6 x7 x8 x9 T0 T1 T2 T3 (some (0, .list [.none, .tuple [], O3, O4, O5, O6])) T5) := by kernel_rfl
theorem od3_ok (S0 S1 S3 S4 S5 S6 x7 x8 x9 T0 T1 T2 T3 T5 : Slot) (src : D) : od3 (bf S0 S1 src S3 S4 S5 S6 x7 x8 x9 T0 T1 T2 T3 (some (0, .list [.none, .tuple [], O3, O4, O5, O6])) T5) = .ok (.nx, bf S0 S1 src S3 S4 S5 S6 x7 x8 x9 T0 T1 T2 T3 (some (0, .list odd)) T5) := by kernel_rfl
abbrev obs (n : Nat) : D := .list (List.replicate n (.str "observed"))
theorem lc_out (c : Int) (hc : c = 0 ∨ c = 1) (S0 S1 S3 S4 S5 S6 x7 x8 x9 T0 T1 T2 T3 T5 : Slot) (src : D) : mLc [15] (iA (mVar 14)) (gN 15) tTrue (mCallP 2 F__law_outcome (aCons (mC (.int c)) (aCons (mVar 15) aNil))) (bf S0 S1 src S3 S4 S5 S6 x7 x8 x9 T0 T1 T2 T3 (some (0, .list odd)) T5) =
    .ok (obs 8, bf S0 S1 src S3 S4 S5 S6 x7 x8 x9 T0 T1 T2 T3 (some (0, .list odd)) T5) := by
  have q := compP_map (g := gN 15) (t := tTrue) (f := mCallP 2 F__law_outcome (aCons (mC (.int c)) (aCons (mVar 15) aNil))) (ρ := wipeR (bf S0 S1 src S3 S4 S5 S6 x7 x8 x9 T0 T1 T2 T3 (some (0, .list odd)) T5) [15]) (fun d : D => d) (fun _ => true) (fun _ => (.str "observed" : D)) odd fun d hd =>
    ⟨bf S0 S1 src S3 S4 S5 S6 x7 x8 x9 T0 T1 T2 T3 (some (0, .list odd)) (some (0, d)), rfl, ⟨_, rfl⟩, fun _ => ⟨_, call_ok (l := [.int c, d]) (a_cons rfl (a_cons v_ok rfl)) (out_ok hc hd)⟩⟩
  rw [List.filter_eq_self.mpr (fun _ _ => rfl), List.map_id'] at q
  exact lc_ok (ds := odd) v_ok rfl q (show 8 ≤ big by decide)
theorem odI_ok (S0 S1 S3 S4 S5 S6 x7 x8 x9 T0 T1 T2 T3 T5 : Slot) (src : D) : odI (bf S0 S1 src S3 S4 S5 S6 x7 x8 x9 T0 T1 T2 T3 (some (0, .list odd)) T5) = .ok (.nx, bf S0 S1 src S3 S4 S5 S6 x7 x8 x9 T0 T1 T2 T3 (some (0, .list odd)) T5) := by
  have a : dAdd (obs 8) (obs 8) = some (obs 16) := by kernel_rfl
  have m : dMulL (.list [.str "observed"]) (.int 16) = some (obs 16) := by kernel_rfl
  have n : dNe (obs 16) (obs 16) = some (.bool false) := by kernel_rfl
  have l0 := lc_out 0 (.inl rfl) S0 S1 S3 S4 S5 S6 x7 x8 x9 T0 T1 T2 T3 T5 src
  have l1 := lc_out 1 (.inr rfl) S0 S1 S3 S4 S5 S6 x7 x8 x9 T0 T1 T2 T3 T5 src
  generalize hF : bf S0 S1 src S3 S4 S5 S6 x7 x8 x9 T0 T1 T2 T3 (some (0, .list odd)) T5 = F at l0 l1 ⊢
  have r : mB dMulL (mLst (aCons (mC (.str "observed")) aNil)) (mC (.int 16)) F = .ok (obs 16, F) := b_ok (x := .list [.str "observed"]) (y := .int 16) (lst_ok (a_cons rfl rfl)) rfl m
  have l : mB dAdd (mLc [15] (iA (mVar 14)) (gN 15) tTrue (mCallP 2 F__law_outcome (aCons (mC (.int 0)) (aCons (mVar 15) aNil)))) (mLc [15] (iA (mVar 14)) (gN 15) tTrue (mCallP 2 F__law_outcome (aCons (mC (.int 1)) (aCons (mVar 15) aNil)))) F = .ok (obs 16, F) := b_ok l0 l1 a
  generalize obs 16 = z at r l n
  unfold odI
  exact (s_if (t_ok (b_ok l r n))).trans rfl
def lawBody : S := (sSeq (sSet 2 1 (mCallP 2 F__law_source (aCons (mVar 0) (aCons (mVar 1) aNil))))
      (sSeq (sPar 3 0 4 0 (mCall fc__law_pick [some 2, none] (aLend 2 (aCons (mC (.int 120)) aNil))) (mB dSub (mCall fc__law_pick [some 2, none] (aLend 2 (aCons (mC (.int 61)) aNil))) (mC (.int 30))))
      (sSeq (sSet 5 0 (mTup (aCons (mTup (aCons (mC (.str "range")) (aCons (mVar 3) (aCons (mB dAdd (mVar 3) (mCall fc__law_pick [some 2, none] (aLend 2 (aCons (mB dSub (mC (.int 128)) (mVar 3)) aNil)))) aNil)))) (aCons (mTup (aCons (mC (.str "move")) (aCons (mVar 4) aNil))) aNil))))
      (sSeq (sSet 6 0 (mTup aNil))
      (sSeq (sFor (iR1 (mB dAdd (mC (.int 1)) (mCall fc__law_pick [some 2, none] (aLend 2 (aCons (mC (.int 9)) aNil))))) (gN 7) rowB)
      (sSeq chkS (sSeq od1 (sSeq od2 (sSeq od3 (sSeq odI sNil))))))))))
theorem iR1_ok' {f : M} {ρ ρ1 : Rho} {i : Int} (h : f ρ = .ok (.int i, ρ1)) (a : -(2 ^ 62) ≤ i) (b : i < 2 ^ 62) : iR1 f ρ = .ok (rngD 0 i.toNat, ρ1) := by
  unfold iR1
  rw [h, R.bind_ok]
  dsimp only
  rw [if_pos ⟨a, b⟩]
theorem rows_ok {a s p low hi n : Int} (v : V3 a p) (hlow : 0 ≤ low ∧ low ≤ 119) (hhi : low ≤ hi ∧ hi ≤ 127) (hn : -127 ≤ n ∧ n ≤ 127) (S0 S1 S4 x7 x8 x9 T0 T1 T2 T3 T4 T5 : Slot) :
    ∃ (a' s' : Int) (rows : List Rw) (y7 y8 y9 : Slot), (sFor (iR1 (mB dAdd (mC (.int 1)) (mCall fc__law_pick [some 2, none] (aLend 2 (aCons (mC (.int 9)) aNil))))) (gN 7) rowB) (bf S0 S1 (src3 a s p) (some (0, .int low)) S4 (some (0, .tuple ([Bx.rg low hi, Bx.mv n].map encB))) (some (0, .tuple [])) x7 x8 x9 T0 T1 T2 T3 T4 T5) =
      .ok (.nx, bf S0 S1 (src3 a' s' p) (some (0, .int low)) S4 (some (0, .tuple ([Bx.rg low hi, Bx.mv n].map encB))) (some (0, rsD rows)) y7 y8 y9 T0 T1 T2 T3 T4 T5) ∧ rows ≠ [] ∧ rows.length ≤ 10 ∧ ∀ r ∈ rows, r.Ok := by
  obtain ⟨e, a1, s1, q1, v1, e1, e2⟩ := pickM (s := s) (ρ := bf S0 S1 (src3 a s p) (some (0, .int low)) S4 (some (0, .tuple ([Bx.rg low hi, Bx.mv n].map encB))) (some (0, .tuple [])) x7 x8 x9 T0 T1 T2 T3 T4 T5) (i := 2) (f := mC (.int 9)) (size := 9) rfl rfl v (by omega) (by omega)
  simp only [List.set_cons_succ, List.set_cons_zero] at q1
  have it := iR1_ok' (f := mB dAdd (mC (.int 1)) (mCall fc__law_pick [some 2, none] (aLend 2 (aCons (mC (.int 9)) aNil)))) (b_ok (x := .int 1) (z := .int (1 + e)) rfl q1 rfl) (by omega) (by omega)
  generalize ht : (1 + e).toNat = m at it
  have hm : 1 ≤ m ∧ m ≤ 9 := by omega
  have lp := loop_to (g := gN 7) (s := rowB) (fun (i : Nat) => (.int (0 + (i : Int)) : D))
    (fun pre ρ => ∃ (a s : Int) (rows : List Rw) (x7 x8 x9 : Slot), ρ = bf S0 S1 (src3 a s p) (some (0, .int low)) S4 (some (0, .tuple ([Bx.rg low hi, Bx.mv n].map encB))) (some (0, rsD rows)) x7 x8 x9 T0 T1 T2 T3 T4 T5 ∧ V3 a p ∧ rows.length = pre.length ∧ ∀ r ∈ rows, r.Ok) (List.range m)
    (ρ := bf S0 S1 (src3 a1 s1 p) (some (0, .int low)) S4 (some (0, .tuple ([Bx.rg low hi, Bx.mv n].map encB))) (some (0, .tuple [])) x7 x8 x9 T0 T1 T2 T3 T4 T5) ⟨a1, s1, [], x7, x8, x9, rfl, v1, rfl, fun r hr => by cases hr⟩
    fun pre x post ρ e ⟨a, s, rows, x7, x8, x9, i, v, l, ok⟩ => by
      subst i
      have hp : pre.length < m := by
        have a := congrArg List.length e
        rw [List.length_range, List.length_append, List.length_cons] at a
        omega
      obtain ⟨a', s', r, y8, y9, z, v', rok⟩ := row_ok (s := s) v hlow hhi hn S0 S1 S4 rows (by omega) (some (0, .int (0 + (x : Int)))) x8 x9 T0 T1 T2 T3 T4 T5
      refine ⟨_, _, rfl, z, a', s', rows ++ [r], some (0, .int (0 + (x : Int))), y8, y9, rfl, v', by simp [l], fun q hq => ?_⟩
      rcases List.mem_append.mp hq with h | h
      · exact ok q h
      · rw [List.mem_singleton.mp h]
        exact rok
  obtain ⟨ρ', h1, a', s', rows, y7, y8, y9, h2, _, l, ok⟩ := lp
  subst h2
  rw [List.length_range] at l
  refine ⟨a', s', rows, y7, y8, y9, for_ok it h1, fun z => ?_, by omega, ok⟩
  rw [z] at l
  have l : 0 = m := l
  omega
theorem body_ok (ns : List Int) (k : Nat) (hk : k < 1000) (S2 S3 S4 S5 S6 x7 x8 x9 T0 T1 T2 T3 T4 T5 : Slot) :
    ∃ y1 y2 y3 y4 y5 y6 y7 y8 y9 z0 z1 z2 z3 z4 z5, lawBody [some (0, iDs ns), some (0, .int (k : Int)), S2, S3, S4, S5, S6, x7, x8, x9, T0, T1, T2, T3, T4, T5] = .ok (.nx, [some (0, iDs ns), y1, y2, y3, y4, y5, y6, y7, y8, y9, z0, z1, z2, z3, z4, z5]) := by
  obtain ⟨a, s, p, q1, v1⟩ := source_ok ns k hk
  let A : Slot := some (0, iDs ns)
  let B : Slot := some (0, .int (k : Int))
  obtain ⟨low, a1, s1, d1, v2, l1, l2⟩ := pickM (s := s) (ρ := bf A B (src3 a s p) S3 S4 S5 S6 x7 x8 x9 T0 T1 T2 T3 T4 T5) (i := 2) (f := mC (.int 120)) (size := 120) rfl rfl v1 (by omega) (by omega)
  obtain ⟨n, a2, s2, d2, v3, n1, n2⟩ := pickM (s := s1) (ρ := bf A B (src3 a1 s1 p) S3 S4 S5 S6 x7 x8 x9 T0 T1 T2 T3 T4 T5) (i := 2) (f := mC (.int 61)) (size := 61) rfl rfl v2 (by omega) (by omega)
  simp only [List.set_cons_succ, List.set_cons_zero] at d1 d2
  obtain ⟨w, a3, s3, d3, v4, w1, w2⟩ := pickM (s := s2) (ρ := bf A B (src3 a2 s2 p) (some (0, .int low)) (some (0, .int (n - 30))) S5 S6 x7 x8 x9 T0 T1 T2 T3 T4 T5) (i := 2) (f := mB dSub (mC (.int 128)) (mVar 3)) (size := 128 - low) rfl (b_ok rfl v_ok rfl) v3 (by omega) (by omega)
  simp only [List.set_cons_succ, List.set_cons_zero] at d3
  obtain ⟨a4, s4, rows, y7, y8, y9, r1, r2, r3, r4⟩ := rows_ok (s := s3) v4 (low := low) (hi := low + w) (n := n - 30) (by omega) (by omega) (by omega) A B (some (0, .int (n - 30))) x7 x8 x9 T0 T1 T2 T3 T4 T5
  obtain ⟨z4, z10, z11, z12, z13, c⟩ := chk_ok A B (some (0, .int low)) (some (0, .int (n - 30))) (some (0, .tuple ([Bx.rg low (low + w), Bx.mv (n - 30)].map encB))) y7 y8 y9 T0 T1 T2 T3 T4 T5 (src3 a4 s4 p) rows r2 r3 r4
  refine ⟨B, some (1, src3 a4 s4 p), some (0, .int low), z4, some (0, .tuple ([Bx.rg low (low + w), Bx.mv (n - 30)].map encB)), some (0, rsD rows), y7, y8, y9, z10, z11, z12, z13, some (0, .list odd), T5, ?_⟩
  unfold lawBody
  refine (seq_nx (ρ1 := bf A B (src3 a s p) S3 S4 S5 S6 x7 x8 x9 T0 T1 T2 T3 T4 T5) (set_ok (call_ok (a_cons v_ok (a_cons v_ok rfl)) q1))).trans ?_
  refine (seq_nx (ρ1 := bf A B (src3 a2 s2 p) (some (0, .int low)) (some (0, .int (n - 30))) S5 S6 x7 x8 x9 T0 T1 T2 T3 T4 T5) (par_ok d1 (b_ok d2 rfl rfl))).trans ?_
  refine (seq_nx (ρ1 := bf A B (src3 a3 s3 p) (some (0, .int low)) (some (0, .int (n - 30))) (some (0, .tuple ([Bx.rg low (low + w), Bx.mv (n - 30)].map encB))) S6 x7 x8 x9 T0 T1 T2 T3 T4 T5)
    (set_ok (tup_ok (a_cons (tup_ok (a_cons rfl (a_cons v_ok (a_cons (b_ok v_ok d3 rfl) rfl)))) (a_cons (tup_ok (a_cons rfl (a_cons v_ok rfl))) rfl))))).trans ?_
  refine (seq_nx (ρ1 := bf A B (src3 a3 s3 p) (some (0, .int low)) (some (0, .int (n - 30))) (some (0, .tuple ([Bx.rg low (low + w), Bx.mv (n - 30)].map encB))) (some (0, .tuple [])) x7 x8 x9 T0 T1 T2 T3 T4 T5) (set_ok (tup_ok rfl))).trans ?_
  refine (seq_nx r1).trans ((seq_nx c).trans ((seq_nx (od1_ok ..)).trans ((seq_nx (od2_ok ..)).trans ((seq_nx (od3_ok ..)).trans ((seq_nx (odI_ok ..)).trans rfl)))))
theorem tailS_ok (S0 S1 S2 S3 S4 S5 S6 x7 x8 x9 T0 T1 T2 T3 T4 T5 : Slot) : ∃ ρ', tailS [S0, S1, S2, S3, S4, S5, S6, x7, x8, x9, T0, T1, T2, T3, T4, T5] = .ok (.ret (.bool true), ρ') := by
  let F : Rho := [S0, S1, S2, S3, S4, S5, some (0, WR), x7, x8, x9, T0, T1, T2, T3, T4, T5]
  have n1 : dNe (.list [.tuple [.int 5, nD 0 60, nD 60 69]]) (.list [.tuple [.int 5, nD 0 60, nD 60 69]]) = some (.bool false) := by kernel_rfl
  have n2 : dNe (.tuple [.tuple [.str "range", .int 0, .int 60], .tuple [.str "move", .int 5]]) (.tuple [.tuple [.str "range", .int 0, .int 60], .tuple [.str "move", .int 5]]) = some (.bool false) := by kernel_rfl
  have n3 : dEq (.list []) (.list []) = some (.bool true) := by kernel_rfl
  refine ⟨F, ?_⟩
  unfold tailS
  refine (seq_nx (ρ1 := F) (set_ok (ρ1 := [S0, S1, S2, S3, S4, S5, S6, x7, x8, x9, T0, T1, T2, T3, T4, T5]) (d := WR) rfl)).trans ?_
  refine (seq_nx ((s_if (t_ok (b_ok (ρ2 := F) (call_ok (l := [WR]) (ρ1 := F) (a_cons v_ok rfl) wr1) (y := .list [.tuple [.int 5, nD 0 60, nD 60 69]]) rfl n1))).trans rfl)).trans ?_
  refine (seq_nx ((s_if (t_ok (b_ok (ρ2 := F) (call_ok (l := [WR]) (ρ1 := F) (a_cons v_ok rfl) wr2) (y := .tuple [.tuple [.str "range", .int 0, .int 60], .tuple [.str "move", .int 5]]) rfl n2))).trans rfl)).trans ?_
  exact seq_ret (ret_ok (b_ok (ρ2 := F) (call_ok (l := [.tuple [.tuple [nD 0 60, .tuple [nD 0 61]], .tuple [nD 0 61, .tuple [nD 0 63]]]]) (ρ1 := F) rfl wr3) (y := .list []) rfl n3))
theorem pure_ (ns : List Int) (_h : ns.length ≤ 63) : ∃ ρ', s_law (some (0, iDs ns) :: List.replicate (N_law.length - 1) none) = .ok (.ret (.bool true), ρ') := by
  have lenI : dLen (iDs ns) = some (.int (ns.length : Int)) := by
    show some (PyData.int ((ns.map fun (i : Int) => (.int i : PyData))).length) = _
    rw [List.length_map]
  let F : Rho := [some (0, iDs ns), none, none, none, none, none, none, none, none, none, none, none, none, none, none, none]
  have hr : ∃ m : Nat, m ≤ 8 ∧ (iR1 (mB dMax (mC (.int 3)) (mB dMin (mC (.int 8)) (mU dLen (mVar 0))))) F = .ok (rngD 0 m, F) := by
    have e1 : dMin (.int 8) (.int (ns.length : Int)) = some (.int (if (ns.length : Int) < 8 then (ns.length : Int) else 8)) := rfl
    generalize hj : (if (ns.length : Int) < 8 then (ns.length : Int) else 8) = j at e1
    have j1 : 0 ≤ j ∧ j ≤ 8 := by
      rw [← hj]
      split <;> omega
    have e2 : dMax (.int 3) (.int j) = some (.int (if j > 3 then j else 3)) := rfl
    generalize hi : (if j > 3 then j else 3) = i at e2
    have i1 : 0 ≤ i ∧ i ≤ 8 := by
      rw [← hi]
      split <;> omega
    exact ⟨i.toNat, by omega, iR1_ok' (b_ok rfl (b_ok rfl (u_ok v_ok lenI) e1) e2) (by omega) (by omega)⟩
  obtain ⟨m, hm, hr⟩ := hr
  have lp := loop_to (g := gN 1) (s := lawBody) (fun (i : Nat) => (.int (0 + (i : Int)) : D))
    (fun _ ρ => ∃ y1 y2 y3 y4 y5 y6 y7 y8 y9 z0 z1 z2 z3 z4 z5, ρ = [some (0, iDs ns), y1, y2, y3, y4, y5, y6, y7, y8, y9, z0, z1, z2, z3, z4, z5]) (List.range m)
    (ρ := F) ⟨none, none, none, none, none, none, none, none, none, none, none, none, none, none, none, rfl⟩
    fun pre x post ρ e ⟨y1, y2, y3, y4, y5, y6, y7, y8, y9, z0, z1, z2, z3, z4, z5, i⟩ => by
      subst i
      have hx : x < m := List.mem_range.mp (by rw [e]; simp)
      obtain ⟨u1, u2, u3, u4, u5, u6, u7, u8, u9, t0, t1, t2, t3, t4, t5, z⟩ := body_ok ns x (by omega) y2 y3 y4 y5 y6 y7 y8 y9 z0 z1 z2 z3 z4 z5
      refine ⟨[some (0, iDs ns), some (0, .int (x : Int)), y2, y3, y4, y5, y6, y7, y8, y9, z0, z1, z2, z3, z4, z5], _, ?_, z, u1, u2, u3, u4, u5, u6, u7, u8, u9, t0, t1, t2, t3, t4, t5, rfl⟩
      show some _ = _
      rw [Int.zero_add]
      rfl
  obtain ⟨ρ', h1, y1, y2, y3, y4, y5, y6, y7, y8, y9, z0, z1, z2, z3, z4, z5, h2⟩ := lp
  subst h2
  obtain ⟨ρ2, ht⟩ := tailS_ok (some (0, iDs ns)) y1 y2 y3 y4 y5 y6 y7 y8 y9 z0 z1 z2 z3 z4 z5
  refine ⟨ρ2, ?_⟩
  show s_law F = _
  unfold s_law
  exact (seq_nx (for_ok hr h1)).trans ht
end L61
set_option maxHeartbeats 0
namespace L61
open PySem PySem.Spec L2 Nc
open PyProof.Rows hiding St
abbrev RR : PySem.W.OpenRow := PySem.W.OpenLaw.row PySem.Challenge.rw_notechains_k61_moves_told_back
abbrev hk : PySem.W.Hook := He.hookX 4 fa fn tb [] ex
def ob (s : PySem.W.SharedT) : He.AlX := He.obsX 4 fa fn tb [] ex (HandSHeadRun.getT s)
theorem ob_eq (s : PySem.W.SharedT) : ob s = hk.obs s.abs := He.obsX_eq (HandSHeadRun.getT_eq s)
def n1 : List PySem.Str := ["ChainError", "InvalidPatch", "InvalidNote", "InvalidIndex", "InvalidRack", "InvalidHistory", "InvalidNumber", "InvalidRule", "InvalidStrokes", "InvalidHeard", "InvalidObserved", "NotPossible", "TooMany", "NothingToUndo", "CHANNELS", "KEYS", "is_integer", "is_note", "MAX_OBSERVED", "is_row"]
def n2 : List PySem.Str := ["require_observed", "moves_of", "moves_told", "patch_told", "_law_source", "_law_pick", "_law_error_name", "_law_made", "_law_sounds", "_law_fits", "_law_told", "_law_outcome"]
def nms : List PySem.Str := n1 ++ n2
theorem run (w : World) : HandSHeadRun.RunEq RR (PySem.W.view RR.prog [36]) hk ob 6000 nms w := by
  refine PySem.W.byRow2 "special-get-raises" (P := fun w => HandSHeadRun.RunEq RR (PySem.W.view RR.prog [36]) hk ob 6000 nms w) ?_ ?_ w
  · intro w os
    kernel_rfl
  · intro w os
    kernel_rfl
end L61
open PySem PySem.W PySem.Calls PyProof.Rows
theorem L61.join (pure_ : ∀ ns : List Int, ns.length ≤ 63 → ∃ ρ', L61.s_law (some (0, .list (ns.map fun (i : Int) => (.int i : PyData))) :: List.replicate (L61.N_law.length - 1) none) = .ok (.ret (.bool true), ρ')) : PySem.Challenge.rw_notechains_k61_moves_told_back.Holds := by
  w_on; o_law
  refine HandSHeadRun.head_any (r := OpenLaw.row PySem.Challenge.rw_notechains_k61_moves_told_back) (q := view (OpenLaw.row PySem.Challenge.rw_notechains_k61_moves_told_back).prog [36]) (H := L61.hk) (ob := L61.ob) (M := 6000) (loose := L61.nms) (d := HandSHeadRun.topDef (OpenLaw.row PySem.Challenge.rw_notechains_k61_moves_told_back).prog 36) (kwd := []) L61.ob_eq
    (by kernel_rfl) (fun s => by kernel_rfl) L61.run (by kernel_rfl) (by kernel_rfl) (by kernel_rfl) (by rfl) (by first | assumption | decide +kernel) (by decide +kernel) ⟨rfl, rfl, rfl, rfl, rfl, by decide +kernel⟩ ?hw ?hc
  case hw => w_witness2
  case hc =>
    refine L2.walk_ofE (l := PySem.Challenge.rw_notechains_k61_moves_told_back) (n := 63) (k := 60) (x := "script") (CX := L2.CX0) rfl (by decide) (by kernel_rfl) ⟨rfl, by decide, by decide⟩ ?F ?CX
    case CX => exact fun _ _ _ _ z => z
    case F =>
      intro w mg fa h Y G hmg0
      have hmg : mg ("law" : PySem.Str) = some (.ref fa) := by
        have e : (HandSHeadRun.topDef (OpenLaw.row PySem.Challenge.rw_notechains_k61_moves_told_back).prog 36).name = ("law" : PySem.Str) := by kernel_rfl
        rw [← e]
        exact hmg0
      obtain ⟨K, hK, hs⟩ := Y
      have c : L61.Fx w K mg := ⟨⟨h, hK, G⟩, hs.t, hs.more⟩
      have hga : He.ga K "law" = fa := by
        have q := L61.g_law c
        rw [hmg] at q
        exact (Value.ref.inj (Option.some.inj q)).symm
      obtain ⟨fd, ok, bd⟩ := L61.ok_law c
      refine ⟨K, fd, Nc.spLaw ⟨L61.prog, w, K⟩ L61.N_law.length L61.s_law, hK, bd, Nc.law_in (L61.ex_nl c.m) pure_, fun base kb gb => ?_⟩
      rw [← hga]
      exact ok base
theorem PySem.Challenge.cw_notechains_k61_moves_told_back_holds : PySem.Challenge.rw_notechains_k61_moves_told_back.Holds := by
  exact L61.join L61.pure_
