import PyProof.Rows.All
import Wide.All
import OpenK.AllK
import Wide.FinOn
import HandS.ForMost
import HandS.Exc
import HandS.ExcInit
import HandS.TryMany
import HandS.WordsExc
import HandS.Flow
import HandS.Deep
import HandS.TupAny
import HandS.Star
import KE.KDictKeyed
import HandS.Style
import HandS.TryOnly
import PyProof.AutoSeq1
import PyProof.SeqRoads
import PyProof.Rows.Range3
import HandS.IsInst
import PyProof.Draws
import PyProof.EnumMake
import HandS.Zip0
import HandS.Iter
import HandS.Comp
import HandS.ExcField
import PyProof.InstNe
import HandS.TupMul
import KE.KDictDisplayH
import PySem.Challenge.RW_plugbooks_k40_dozing
set_option Elab.async false
set_option linter.all false
set_option maxRecDepth 100000
/-! L3a: data, owned values, and how they lie in the abstract heap. -/
namespace L3
open PySem PySem.Spec PyProof.Rows L2

/-! ### data -/
inductive D where
 | non | bl (b : Bool) | int (i : Int) | str (x : Str)
 | tup (l : List D) | lst (l : List D) | dic (ks vs : List D) | ins (C : Nat) (fs : List Str) (vs : List D)
/-- what a slot holds: data, or an object that nobody else holds -/
inductive W where
 | d (x : D) | lst (l : List D) | dic (ks vs : List D) | ins (C : Nat) (fs : List Str) (vs : List W)
mutual
def frz : W → D
 | .d x => x
 | .lst l => .lst l
 | .dic ks vs => .dic ks vs
 | .ins C fs vs => .ins C fs (frzs vs)
termination_by structural x => x
def frzs : List W → List D
 | [] => []
 | a :: r => frz a :: frzs r
termination_by structural x => x
end
mutual
def toNK : D → Option NestedKey
 | .non => some .none
 | .bl b => some (.num (if b then 1 else 0))
 | .int i => some (.num i)
 | .str x => some (.text x)
 | .tup l => (toNKs l).map .tup
 | _ => none
termination_by structural x => x
def toNKs : List D → Option (List NestedKey)
 | [] => some []
 | a :: r => match toNK a, toNKs r with
   | some k, some ks => some (k :: ks)
   | _, _ => none
termination_by structural x => x
end
/-- a key of a dict of ints and texts -/
def toKey : D → Option Key
 | .int i => some (.inl i)
 | .str x => some (.inr x)
 | _ => none
def isTup : D → Bool
 | .tup _ => true
 | _ => false

/-! ### sets of addresses -/
abbrev AS := Addr → Prop
def un (S T : AS) : AS := fun a => S a ∨ T a
def emp : AS := fun _ => False
def dis (S T : AS) : Prop := ∀ a, S a → T a → False
def sub (S T : AS) : Prop := ∀ a, S a → T a
open Classical in
/-- the heap without the objects of S -/
noncomputable def hid (H : Hp) (S : AS) : Hp := fun a => if S a then none else H a
theorem hid_some {H : Hp} {S : AS} {a : Addr} {o : HO} : hid H S a = some o ↔ H a = some o ∧ ¬ S a := by
  unfold hid
  split <;> simp_all
theorem hid_same {H : Hp} {S : AS} : Same (hid H S) H := fun _ _ h => (hid_some.mp h).1
theorem hid_congr {H : Hp} {S T : AS} (h : ∀ a, S a ↔ T a) : hid H S = hid H T := by
  have : S = T := funext fun a => propext (h a)
  rw [this]
theorem hid_anti {H : Hp} {S T : AS} (h : sub S T) : Same (hid H T) (hid H S) := fun a o e => by
  rw [hid_some] at *
  exact ⟨e.1, fun z => e.2 (h a z)⟩

/-! ### dicts of tuples -/
section
variable (P : Program) (w : World)
/-- at a: a dict whose keys are tuples; es: key, where the key stands, value -/
def NDO (a : Addr) (es : List (NestedKey × Addr × V)) : HO := .ext fun h => es.length ≤ sizeLine ∧ (a == sysModules) = false ∧ (es.map (·.1)).Nodup ∧ (∀ e ∈ es, e.1.depth ≤ 8) ∧
  ∃ xs : List (NestedKey × Addr × Value), Paired (fun (p : NestedKey × Addr × V) (q : NestedKey × Addr × Value) => p.1 = q.1 ∧ p.2.1 = q.2.1 ∧ RelV p.2.2 q.2.2) es xs ∧
  ∃ o es' ep, h.get? a = some o ∧ o.ExactDict ∧ o.data = .dict es' ep ∧ es'.toList = xs.map (entryOfKey (nestedKind P w))
variable (K : PySem.W.Frag) (ca : Nat → Addr)
mutual
/-- v is the data d, read in the heap G -/
def RepD (G : Hp) : D → V → Prop
 | .non, v => v = .non
 | .bl b, v => v = .bl b
 | .int i, v => v = .int i
 | .str x, v => v = .str x ∧ PyData.strOk x = true
 | .tup l, v => ∃ a xs, v = .ref a ∧ SqT K G a xs ∧ RepDs G l xs
 | .lst l, v => ∃ a xs, v = .ref a ∧ SqL K G a xs ∧ RepDs G l xs
 | .dic ks vs, v => ∃ a xs ys, v = .ref a ∧ RepDs G ks xs ∧ RepDs G vs ys ∧ xs.length = ys.length ∧
    ((∃ kv : List (Key × V), G a = some (.dK kv) ∧ (kv.map (·.1)).Nodup ∧ kv.map (fun p => kV p.1) = xs ∧ kv.map (·.2) = ys) ∨
     (ks ≠ [] ∧ ∃ es : List (NestedKey × Addr × V), G a = some (NDO P w a es) ∧ toNKs ks = some (es.map (·.1)) ∧ es.map (fun e => V.ref e.2.1) = xs ∧ es.map (·.2.2) = ys ∧ ks.all isTup = true))
 | .ins C fs vs, v => ∃ a dx xs, v = .ref a ∧ G a = some (.ins (ca C) dx (fs.zip xs)) ∧ RepDs G vs xs ∧ fs.length = xs.length
termination_by structural x => x
def RepDs (G : Hp) : List D → List V → Prop
 | [], xs => xs = []
 | d :: r, xs => ∃ x s, xs = x :: s ∧ RepD G d x ∧ RepDs G r s
termination_by structural x => x
end
/-- a dict's object in H, what it holds in G -/
def DicAt (G H : Hp) (ks vs : List D) (a : Addr) : Prop := ∃ xs ys, RepDs P w K ca G ks xs ∧ RepDs P w K ca G vs ys ∧ xs.length = ys.length ∧
    ((∃ kv : List (Key × V), H a = some (.dK kv) ∧ (kv.map (·.1)).Nodup ∧ kv.map (fun p => kV p.1) = xs ∧ kv.map (·.2) = ys) ∨
     (ks ≠ [] ∧ ∃ es : List (NestedKey × Addr × V), H a = some (NDO P w a es) ∧ toNKs ks = some (es.map (·.1)) ∧ es.map (fun e => V.ref e.2.1) = xs ∧ es.map (·.2.2) = ys ∧ ks.all isTup = true))
mutual
def RepB (G H : Hp) : D → V → Prop
 | .lst l, v => ∃ a xs, v = .ref a ∧ SqL K H a xs ∧ RepDs P w K ca G l xs
 | .dic ks vs, v => ∃ a, v = .ref a ∧ DicAt P w K ca G H ks vs a
 | .ins C fs vs, v => ∃ a dx xs, v = .ref a ∧ H a = some (.ins (ca C) dx (fs.zip xs)) ∧ RepBs G H vs xs ∧ fs.length = xs.length
 | .non, v => v = .non
 | .bl b, v => v = .bl b
 | .int i, v => v = .int i
 | .str x, v => v = .str x ∧ PyData.strOk x = true
 | .tup l, v => ∃ a xs, v = .ref a ∧ SqT K G a xs ∧ RepDs P w K ca G l xs
termination_by structural x => x
def RepBs (G H : Hp) : List D → List V → Prop
 | [], xs => xs = []
 | d :: r, xs => ∃ x s, xs = x :: s ∧ RepB G H d x ∧ RepBs G H r s
termination_by structural x => x
end
mutual
def RepW (G H : Hp) : W → V → AS → Prop
 | .d x, v, _ => RepD P w K ca G x v
 | .lst l, v, S => ∃ a xs, v = .ref a ∧ S a ∧ H a = some (.lst xs) ∧ RepDs P w K ca G l xs
 | .dic ks vs, v, S => ∃ a, v = .ref a ∧ S a ∧ DicAt P w K ca G H ks vs a
 | .ins C fs vs, v, S => ∃ a dx xs T, v = .ref a ∧ S a ∧ ¬ T a ∧ sub T S ∧ H a = some (.ins (ca C) dx (fs.zip xs)) ∧ RepWs G H vs xs T ∧ fs.length = xs.length
termination_by structural x => x
def RepWs (G H : Hp) : List W → List V → AS → Prop
 | [], xs, _ => xs = []
 | x :: r, xs, S => ∃ v s S1 S2, xs = v :: s ∧ sub S1 S ∧ sub S2 S ∧ dis S1 S2 ∧ RepW G H x v S1 ∧ RepWs G H r s S2
termination_by structural x => x
end
end

section
variable {P : Program} {w : World} {K : PySem.W.Frag} {ca : Nat → Addr} {G G' H H' : Hp}
theorem SqT.mono {a : Addr} {xs : List V} (s : Same G G') (h : SqT K G a xs) : SqT K G' a xs := by
  rcases h with (h | ⟨o, h⟩) | h
  · exact .inl (.inl (s _ _ h))
  · exact .inl (.inr ⟨o, s _ _ h⟩)
  · exact .inr h
theorem SqL.mono {a : Addr} {xs : List V} (s : Same G G') (h : SqL K G a xs) : SqL K G' a xs := s.seq h
mutual
theorem RepD.mono (s : Same G G') : (d : D) → {v : V} → RepD P w K ca G d v → RepD P w K ca G' d v
 | .non, _, h => h
 | .bl _, _, h => h
 | .int _, _, h => h
 | .str _, _, h => h
 | .tup l, _, h => by
   obtain ⟨a, xs, e, h1, h2⟩ := h
   exact ⟨a, xs, e, SqT.mono s h1, RepDs.mono s l h2⟩
 | .lst l, _, h => by
   obtain ⟨a, xs, e, h1, h2⟩ := h
   exact ⟨a, xs, e, SqL.mono s h1, RepDs.mono s l h2⟩
 | .dic ks vs, _, h => by
   obtain ⟨a, xs, ys, e, h1, h2, hl, h3⟩ := h
   refine ⟨a, xs, ys, e, RepDs.mono s ks h1, RepDs.mono s vs h2, hl, ?_⟩
   rcases h3 with ⟨kv, q, r⟩ | ⟨q0, es, q, r⟩
   · exact .inl ⟨kv, s _ _ q, r⟩
   · exact .inr ⟨q0, es, s _ _ q, r⟩
 | .ins C fs vs, _, h => by
   obtain ⟨a, dx, xs, e, h1, h2, hl⟩ := h
   exact ⟨a, dx, xs, e, s _ _ h1, RepDs.mono s vs h2, hl⟩
termination_by structural x => x
theorem RepDs.mono (s : Same G G') : (l : List D) → {xs : List V} → RepDs P w K ca G l xs → RepDs P w K ca G' l xs
 | [], _, h => h
 | d :: r, _, h => by
   obtain ⟨x, t, e, h1, h2⟩ := h
   exact ⟨x, t, e, RepD.mono s d h1, RepDs.mono s r h2⟩
termination_by structural x => x
end
theorem DicAt.mono {a : Addr} {ks vs : List D} (s : Same G G') (k : ∀ o, H a = some o → H' a = some o) (h : DicAt P w K ca G H ks vs a) : DicAt P w K ca G' H' ks vs a := by
  obtain ⟨xs, ys, h1, h2, hl, h3⟩ := h
  refine ⟨xs, ys, RepDs.mono s ks h1, RepDs.mono s vs h2, hl, ?_⟩
  rcases h3 with ⟨kv, q, r⟩ | ⟨q0, es, q, r⟩
  · exact .inl ⟨kv, k _ q, r⟩
  · exact .inr ⟨q0, es, k _ q, r⟩
theorem RepD.dicAt {ks vs : List D} {v : V} (h : RepD P w K ca G (.dic ks vs) v) : ∃ a, v = .ref a ∧ DicAt P w K ca G G ks vs a := by
  obtain ⟨a, xs, ys, e, r⟩ := h
  exact ⟨a, e, xs, ys, r⟩
theorem RepD.of_dicAt {ks vs : List D} {a : Addr} (h : DicAt P w K ca G G ks vs a) : RepD P w K ca G (.dic ks vs) (.ref a) := by
  obtain ⟨xs, ys, r⟩ := h
  exact ⟨a, xs, ys, rfl, r⟩
mutual
theorem RepB.mono (s : Same G G') (k : Same H H') : (d : D) → {v : V} → RepB P w K ca G H d v → RepB P w K ca G' H' d v
 | .non, _, h => h
 | .bl _, _, h => h
 | .int _, _, h => h
 | .str _, _, h => h
 | .tup l, _, h => by
   obtain ⟨a, xs, e, h1, h2⟩ := h
   exact ⟨a, xs, e, SqT.mono s h1, RepDs.mono s l h2⟩
 | .lst l, _, h => by
   obtain ⟨a, xs, e, h1, h2⟩ := h
   exact ⟨a, xs, e, SqL.mono k h1, RepDs.mono s l h2⟩
 | .dic ks vs, _, h => by
   obtain ⟨a, e, h1⟩ := h
   exact ⟨a, e, h1.mono s (k a)⟩
 | .ins C fs vs, _, h => by
   obtain ⟨a, dx, xs, e, h1, h2, hl⟩ := h
   exact ⟨a, dx, xs, e, k _ _ h1, RepBs.mono s k vs h2, hl⟩
termination_by structural x => x
theorem RepBs.mono (s : Same G G') (k : Same H H') : (l : List D) → {xs : List V} → RepBs P w K ca G H l xs → RepBs P w K ca G' H' l xs
 | [], _, h => h
 | d :: r, _, h => by
   obtain ⟨x, t, e, h1, h2⟩ := h
   exact ⟨x, t, e, RepB.mono s k d h1, RepBs.mono s k r h2⟩
termination_by structural x => x
end
mutual
/-- data is borrowed -/
theorem RepD.borrow (s : Same G H) : (d : D) → {v : V} → RepD P w K ca G d v → RepB P w K ca G H d v
 | .non, _, h => h
 | .bl _, _, h => h
 | .int _, _, h => h
 | .str _, _, h => h
 | .tup l, _, h => h
 | .lst l, _, h => by
   obtain ⟨a, xs, e, h1, h2⟩ := h
   exact ⟨a, xs, e, SqL.mono s h1, h2⟩
 | .dic ks vs, _, h => by
   obtain ⟨a, e, h1⟩ := h.dicAt
   exact ⟨a, e, h1.mono (Same.refl _) (s a)⟩
 | .ins C fs vs, _, h => by
   obtain ⟨a, dx, xs, e, h1, h2, hl⟩ := h
   exact ⟨a, dx, xs, e, s _ _ h1, RepDs.borrow s vs h2, hl⟩
termination_by structural x => x
theorem RepDs.borrow (s : Same G H) : (l : List D) → {xs : List V} → RepDs P w K ca G l xs → RepBs P w K ca G H l xs
 | [], _, h => h
 | d :: r, _, h => by
   obtain ⟨x, t, e, h1, h2⟩ := h
   exact ⟨x, t, e, RepD.borrow s d h1, RepDs.borrow s r h2⟩
termination_by structural x => x
end
mutual
/-- what is borrowed is data of the whole heap -/
theorem RepB.data (s : Same G H) : (d : D) → {v : V} → RepB P w K ca G H d v → RepD P w K ca H d v
 | .non, _, h => h
 | .bl _, _, h => h
 | .int _, _, h => h
 | .str _, _, h => h
 | .tup l, _, h => RepD.mono s (.tup l) h
 | .lst l, _, h => by
   obtain ⟨a, xs, e, h1, h2⟩ := h
   exact ⟨a, xs, e, h1, RepDs.mono s l h2⟩
 | .dic ks vs, _, h => by
   obtain ⟨a, e, h1⟩ := h
   rw [e]
   exact .of_dicAt (h1.mono s fun _ z => z)
 | .ins C fs vs, _, h => by
   obtain ⟨a, dx, xs, e, h1, h2, hl⟩ := h
   exact ⟨a, dx, xs, e, h1, RepBs.data s vs h2, hl⟩
termination_by structural x => x
theorem RepBs.data (s : Same G H) : (l : List D) → {xs : List V} → RepBs P w K ca G H l xs → RepDs P w K ca H l xs
 | [], _, h => h
 | d :: r, _, h => by
   obtain ⟨x, t, e, h1, h2⟩ := h
   exact ⟨x, t, e, RepB.data s d h1, RepBs.data s r h2⟩
termination_by structural x => x
end
mutual
theorem RepW.mono {S S' : AS} (s : Same G G') (hs : sub S S') (k : ∀ a o, S a → H a = some o → H' a = some o) : (x : W) → {v : V} → RepW P w K ca G H x v S → RepW P w K ca G' H' x v S'
 | .d x, _, h => RepD.mono s x h
 | .lst l, _, h => by
   obtain ⟨a, xs, e, hS, h1, h2⟩ := h
   exact ⟨a, xs, e, hs _ hS, k _ _ hS h1, RepDs.mono s l h2⟩
 | .dic ks vs, _, h => by
   obtain ⟨a, e, hS, h1⟩ := h
   exact ⟨a, e, hs _ hS, h1.mono s fun o => k a o hS⟩
 | .ins C fs vs, _, h => by
   obtain ⟨a, dx, xs, T, e, hS, hT, hTS, h1, h2, hl⟩ := h
   exact ⟨a, dx, xs, T, e, hs _ hS, hT, fun b z => hs _ (hTS b z), k _ _ hS h1, RepWs.mono s (fun _ z => z) (fun b o z => k b o (hTS b z)) vs h2, hl⟩
termination_by structural x => x
theorem RepWs.mono {S S' : AS} (s : Same G G') (hs : sub S S') (k : ∀ a o, S a → H a = some o → H' a = some o) : (l : List W) → {xs : List V} → RepWs P w K ca G H l xs S → RepWs P w K ca G' H' l xs S'
 | [], _, h => h
 | d :: r, _, h => by
   obtain ⟨x, t, S1, S2, e, a1, a2, dj, h1, h2⟩ := h
   exact ⟨x, t, S1, S2, e, fun b z => hs _ (a1 b z), fun b z => hs _ (a2 b z), dj, RepW.mono s (fun _ z => z) (fun b o z => k b o (a1 b z)) d h1, RepWs.mono s (fun _ z => z) (fun b o z => k b o (a2 b z)) r h2⟩
termination_by structural x => x
end
mutual
/-- what is owned becomes data, of a heap that shows its objects -/
theorem RepW.freeze {S : AS} (s : Same G G') (k : ∀ a o, S a → H a = some o → G' a = some o) : (x : W) → {v : V} → RepW P w K ca G H x v S → RepD P w K ca G' (frz x) v
 | .d x, _, h => RepD.mono s x h
 | .lst l, _, h => by
   obtain ⟨a, xs, e, hS, h1, h2⟩ := h
   exact ⟨a, xs, e, SqL.of (k _ _ hS h1), RepDs.mono s l h2⟩
 | .dic ks vs, _, h => by
   obtain ⟨a, e, hS, h1⟩ := h
   rw [e]
   exact .of_dicAt (h1.mono s fun o => k a o hS)
 | .ins C fs vs, _, h => by
   obtain ⟨a, dx, xs, T, e, hS, hT, hTS, h1, h2, hl⟩ := h
   exact ⟨a, dx, xs, e, k _ _ hS h1, RepWs.freeze s (fun b o z => k b o (hTS b z)) vs h2, hl⟩
termination_by structural x => x
theorem RepWs.freeze {S : AS} (s : Same G G') (k : ∀ a o, S a → H a = some o → G' a = some o) : (l : List W) → {xs : List V} → RepWs P w K ca G H l xs S → RepDs P w K ca G' (frzs l) xs
 | [], _, h => h
 | d :: r, _, h => by
   obtain ⟨x, t, S1, S2, e, a1, a2, dj, h1, h2⟩ := h
   exact ⟨x, t, e, RepW.freeze s (fun b o z => k b o (a1 b z)) d h1, RepWs.freeze s (fun b o z => k b o (a2 b z)) r h2⟩
termination_by structural x => x
end
mutual
/-- what is owned may be borrowed -/
theorem RepW.borrow {S : AS} (s : Same G H) : (x : W) → {v : V} → RepW P w K ca G H x v S → RepB P w K ca G H (frz x) v
 | .d x, _, h => RepD.borrow s x h
 | .lst l, _, h => by
   obtain ⟨a, xs, e, hS, h1, h2⟩ := h
   exact ⟨a, xs, e, SqL.of h1, h2⟩
 | .dic ks vs, _, h => by
   obtain ⟨a, e, hS, h1⟩ := h
   exact ⟨a, e, h1⟩
 | .ins C fs vs, _, h => by
   obtain ⟨a, dx, xs, T, e, hS, hT, hTS, h1, h2, hl⟩ := h
   exact ⟨a, dx, xs, e, h1, RepWs.borrow s vs h2, hl⟩
termination_by structural x => x
theorem RepWs.borrow {S : AS} (s : Same G H) : (l : List W) → {xs : List V} → RepWs P w K ca G H l xs S → RepBs P w K ca G H (frzs l) xs
 | [], _, h => h
 | d :: r, _, h => by
   obtain ⟨x, t, S1, S2, e, a1, a2, dj, h1, h2⟩ := h
   exact ⟨x, t, e, RepW.borrow s d h1, RepWs.borrow s r h2⟩
termination_by structural x => x
end
theorem RepDs.length : {l : List D} → {xs : List V} → RepDs P w K ca G l xs → l.length = xs.length
 | [], _, h => by rw [show _ = [] from h]; rfl
 | d :: r, _, h => by
   obtain ⟨x, t, e, h1, h2⟩ := h
   rw [e, List.length_cons, List.length_cons, RepDs.length h2]
theorem RepDs.append : {l m : List D} → {xs ys : List V} → RepDs P w K ca G l xs → RepDs P w K ca G m ys → RepDs P w K ca G (l ++ m) (xs ++ ys)
 | [], _, _, _, h, h' => by
   rw [show _ = [] from h]
   exact h'
 | d :: r, _, _, _, h, h' => by
   obtain ⟨x, t, e, h1, h2⟩ := h
   rw [e]
   exact ⟨x, _, rfl, h1, RepDs.append h2 h'⟩
theorem RepDs.get : {l : List D} → {xs : List V} → {i : Nat} → {d : D} → RepDs P w K ca G l xs → l[i]? = some d → ∃ x, xs[i]? = some x ∧ RepD P w K ca G d x
 | [], _, _, _, _, e => by simp at e
 | d :: r, _, 0, _, h, e => by
   obtain ⟨x, t, ex, h1, h2⟩ := h
   simp at e; subst e; subst ex
   exact ⟨x, rfl, h1⟩
 | d :: r, _, i + 1, _, h, e => by
   obtain ⟨x, t, ex, h1, h2⟩ := h
   subst ex
   obtain ⟨y, e1, e2⟩ := RepDs.get (i := i) h2 (by simpa using e)
   exact ⟨y, by simpa using e1, e2⟩
theorem RepDs.take : {l : List D} → {xs : List V} → (n : Nat) → RepDs P w K ca G l xs → RepDs P w K ca G (l.take n) (xs.take n)
 | [], _, n, h => by
   rw [show _ = [] from h]
   simp; rfl
 | d :: r, _, 0, h => by simp; rfl
 | d :: r, _, n + 1, h => by
   obtain ⟨x, t, ex, h1, h2⟩ := h
   subst ex
   exact ⟨x, _, rfl, h1, RepDs.take n h2⟩
theorem RepDs.drop : {l : List D} → {xs : List V} → (n : Nat) → RepDs P w K ca G l xs → RepDs P w K ca G (l.drop n) (xs.drop n)
 | [], _, n, h => by
   rw [show _ = [] from h]
   simp; rfl
 | d :: r, _, 0, h => h
 | d :: r, _, n + 1, h => by
   obtain ⟨x, t, ex, h1, h2⟩ := h
   subst ex
   exact RepDs.drop n h2
end
end L3

set_option Elab.async false
set_option linter.all false
set_option maxRecDepth 100000
/-! L3b: frames, what a step leaves, the judgements, sequencing. -/
namespace L3
open PySem PySem.Spec PyProof.Rows L2

abbrev Ro := List (Option W)
/-- an exception: its class, its fields -/
structure Ex where
  C : Nat
  fs : List Str
  vs : List D
inductive ER where
  | ok (w : W) (ρ : Ro)
  | ex (x : Ex) (ρ : Ro)
  | no
def ER.bind : ER → (W → Ro → ER) → ER
  | .ok w ρ, k => k w ρ
  | .ex x ρ, _ => .ex x ρ
  | .no, _ => .no

section
variable (P : Program) (w : World) (K : PySem.W.Frag) (ca : Nat → Addr)
def RepSl (G H : Hp) : Ro → L2.St → AS → Prop
 | [], σ, _ => σ = []
 | none :: r, σ, S => ∃ x t, σ = x :: t ∧ RepSl G H r t S
 | some y :: r, σ, S => ∃ v t S1 S2, σ = some v :: t ∧ sub S1 S ∧ sub S2 S ∧ dis S1 S2 ∧ RepW P w K ca G H y v S1 ∧ RepSl G H r t S2
/-- an exception as it flies -/
def RepX (G : Hp) (x : Ex) (cls : Value) (d : Option Addr) : Prop := cls = .ref (ca x.C) ∧ ∃ dd fv xs, d = some dd ∧ G dd = some (.xd fv) ∧ RepDs P w K ca G x.vs xs ∧ x.fs.length = xs.length ∧ ∀ f, fv.lookup f = (x.fs.zip xs).lookup f
end
/-- the classes' places, and what is kept besides -/
structure Ca where
  cl : Nat → Addr
  ks : List Nat
  kp : L2.St → Hp → Prop
  km : ∀ {σ σ' : L2.St} {G G' : Hp}, (∀ i ∈ ks, σ'[i]? = σ[i]?) → Same G G' → kp σ G → kp σ' G'
instance : Coe Ca (Nat → Addr) := ⟨Ca.cl⟩
instance : CoeFun Ca (fun _ => Nat → Addr) := ⟨Ca.cl⟩
def Ca.of (cl : Nat → Addr) : Ca := ⟨cl, [], fun _ _ => True, fun _ _ _ => trivial⟩
theorem Ca.km0 (ca : Ca) {σ : L2.St} {G G' : Hp} (s : Same G G') (h : ca.kp σ G) : ca.kp σ G' := ca.km (fun _ _ => rfl) s h
theorem Ca.kmS (ca : Ca) {σ : L2.St} {G : Hp} {i : Nat} {x : Option V} (hi : i ∉ ca.ks) (h : ca.kp σ G) : ca.kp (σ.set i x) G := ca.km (fun j hj => by
  rw [List.getElem?_set_ne]
  rintro rfl
  exact hi hj) (Same.refl _) h
theorem ks1 {i j : Nat} (h : i ≠ j) : i ∉ [j] := fun z => h (by simpa using z)
theorem ksv {vs : List Nat} {j : Nat} (h : j ∉ vs) : ∀ i ∈ vs, i ∉ [j] := fun i hi z => by
  have e : i = j := by simpa using z
  subst e
  exact h hi
/-- the state of a frame: Z: what others own, S: what this frame's slots own -/
structure Fr0 (P : Program) (w : World) (K : PySem.W.Frag) (ca : Ca) (Z S : AS) (ρ : Ro) (σ : L2.St) (H : Hp) : Prop where
  dj : dis Z S
  az : ∀ a, Z a → H a ≠ none
  as : ∀ a, S a → H a ≠ none
  rep : RepSl P w K ca (hid H (un Z S)) H ρ σ S
  kp : ca.kp σ (hid H (un Z S))
abbrev Fr (X : Cx) (ca : Ca) (Z S : AS) (ρ : Ro) (σ : L2.St) (H : Hp) : Prop := Fr0 X.prog X.w X.K ca Z S ρ σ H
/-- a step: what is not owned stays; what is owned then was owned, or is new -/
structure Nx (S : AS) (H : Hp) (q : Bool) (S' : AS) (H' : Hp) : Prop where
  keep : ∀ b o, ¬ S b → H b = some o → H' b = some o
  own : ∀ b, S' b → S b ∨ H b = none
  al : ∀ b, S' b → H' b ≠ none
  qt : q = true → Same H H'

section
variable {P : Program} {w : World} {K : PySem.W.Frag} {ca : Nat → Addr} {G G' H H' H1 H2 : Hp} {S S' S1 S2 Z T : AS} {q q1 q2 : Bool}
theorem RepSl.mono (s : Same G G') : {ρ : Ro} → {σ : L2.St} → {S S' : AS} → sub S S' → (∀ a o, S a → H a = some o → H' a = some o) → RepSl P w K ca G H ρ σ S → RepSl P w K ca G' H' ρ σ S'
 | [], _, _, _, _, _, h => h
 | none :: r, _, _, _, hs, k, h => by
   obtain ⟨x, t, e, h1⟩ := h
   exact ⟨x, t, e, RepSl.mono s hs k h1⟩
 | some y :: r, _, _, _, hs, k, h => by
   obtain ⟨v, t, S1, S2, e, a1, a2, dj, h1, h2⟩ := h
   exact ⟨v, t, S1, S2, e, fun a z => hs a (a1 a z), fun a z => hs a (a2 a z), dj, RepW.mono s (fun _ z => z) (fun a o z => k a o (a1 a z)) y h1, RepSl.mono s (fun _ z => z) (fun a o z => k a o (a2 a z)) h2⟩
theorem Nx.refl (al : ∀ b, S b → H b ≠ none) : Nx S H true S H := ⟨fun _ _ _ e => e, fun _ z => .inl z, al, fun _ => Same.refl _⟩
theorem Nx.trans (a : Nx S H q1 S1 H1) (b : Nx S1 H1 q2 S2 H2) : Nx S H (q1 && q2) S2 H2 where
  keep := fun c o hc e => b.keep c o (fun z => (a.own c z).elim hc fun n => by rw [e] at n; cases n) (a.keep c o hc e)
  own := fun c z => by
    rcases b.own c z with z | z
    · exact a.own c z
    · cases e : H c with
      | none => exact .inr rfl
      | some o =>
        by_cases hc : S c
        · exact .inl hc
        · rw [a.keep c o hc e] at z; cases z
  al := b.al
  qt := fun h => by
    rw [Bool.and_eq_true] at h
    exact (a.qt h.1).trans (b.qt h.2)
theorem Nx.weak (a : Nx S H q S1 H1) (h : q2 = true → q = true) : Nx S H q2 S1 H1 := ⟨a.keep, a.own, a.al, fun z => a.qt (h z)⟩
theorem Nx.shrink (a : Nx S H q S1 H1) (h : sub S2 S1) : Nx S H q S2 H1 := ⟨a.keep, fun b z => a.own b (h b z), fun b z => a.al b (h b z), a.qt⟩
theorem Nx.free (a : Nx S H q S1 H1) {b : Addr} (n : H1 b = none) (hb : ¬ S b) : H b = none := by
  cases e : H b with
  | none => rfl
  | some o => rw [a.keep b o hb e] at n; cases n
/-- everything is kept -/
theorem Same.ne {a : Addr} (s : Same H H') (h : H a ≠ none) : H' a ≠ none := fun n => by
  cases e : H a with
  | none => exact h e
  | some o => rw [s a o e] at n; cases n
theorem Nx.same (s : Same H H') (al : ∀ b, S b → H b ≠ none) : Nx S H true S H' := ⟨fun b o _ e => s b o e, fun b z => .inl z, fun b z => Same.ne s (al b z), fun _ => s⟩
theorem Nx.dj (a : Nx S H q S1 H1) (dj : dis Z S) (az : ∀ a, Z a → H a ≠ none) : dis Z S1 := fun b hz hs => (a.own b hs).elim (dj b hz) (az b hz)
theorem Nx.az (a : Nx S H q S1 H1) (dj : dis Z S) (az : ∀ a, Z a → H a ≠ none) : ∀ a, Z a → H1 a ≠ none := fun b hz n => by
  cases e : H b with
  | none => exact az b hz e
  | some o => rw [a.keep b o (dj b hz) e] at n; cases n
theorem Nx.hid (a : Nx S H q S1 H1) : Same (hid H (un Z S)) (hid H1 (un Z S1)) := fun b o e => by
  rw [hid_some] at *
  refine ⟨a.keep b o (fun z => e.2 (.inr z)) e.1, fun z => ?_⟩
  rcases z with z | z
  · exact e.2 (.inl z)
  · rcases a.own b z with z | z
    · exact e.2 (.inr z)
    · rw [e.1] at z; cases z
/-- .. where the hidden set only shrinks -/
theorem hid_upd_same {T : AS} (s : Same H H') (hT : ∀ a, T a → H a ≠ none) : Same (L3.hid H T) (L3.hid H' T) := fun b o e => by
  rw [hid_some] at *
  exact ⟨s b o e.1, e.2⟩
end

section
variable {X : Cx} {ca : Ca} {Wx : WX} {Z S S1 S2 : AS} {σ : L2.St} {H H1 H2 : Hp} {ρ ρ1 ρ2 : Ro} {q q1 q2 : Bool}
theorem Fr.same (fr : Fr X ca Z S ρ σ H) (s : Same H H1) : Fr X ca Z S ρ σ H1 := ⟨fr.dj, fun a z => Same.ne s (fr.az a z), fun a z => Same.ne s (fr.as a z),
  fr.rep.mono (hid_upd_same s fun a z => z.elim (fr.az a) (fr.as a)) (fun _ z => z) (fun a o _ e => s a o e), ca.km0 (hid_upd_same s fun a z => z.elim (fr.az a) (fr.as a)) fr.kp⟩

/-- what an expression leaves: an owned value -/
def OKE (X : Cx) (ca : Ca) (Z S : AS) (H : Hp) (q : Bool) (σ : L2.St) (w : W) (ρ' : Ro) (v : V) (H' : Hp) : Prop :=
  ∃ S' Sw, Nx S H q (un S' Sw) H' ∧ dis S' Sw ∧ RepSl X.prog X.w X.K ca (hid H' (un Z (un S' Sw))) H' ρ' σ S' ∧ RepW X.prog X.w X.K ca (hid H' (un Z (un S' Sw))) H' w v Sw
/-- .. data (k), or what is borrowed -/
def RepKd (X : Cx) (ca : Ca) (k : Bool) (G H : Hp) (d : D) (v : V) : Prop := if k = true then RepD X.prog X.w X.K ca G d v else RepB X.prog X.w X.K ca G H d v
def OKB (X : Cx) (ca : Ca) (k : Bool) (Z S : AS) (H : Hp) (q : Bool) (σ : L2.St) (d : D) (ρ' : Ro) (v : V) (H' : Hp) : Prop :=
  ∃ S', Nx S H q S' H' ∧ Fr X ca Z S' ρ' σ H' ∧ RepKd X ca k (hid H' (un Z S')) H' d v
def EXE (X : Cx) (ca : Ca) (Z S : AS) (H : Hp) (σ : L2.St) (x : Ex) (ρ' : Ro) (cls : Value) (d : Option Addr) (H' : Hp) : Prop :=
  ∃ S', Nx S H false S' H' ∧ Fr X ca Z S' ρ' σ H' ∧ RepX X.prog X.w X.K ca (hid H' (un Z S')) x cls d
def PoE (X : Cx) (ca : Ca) (Wx : WX) (q : Bool) (Z S : AS) (σ : L2.St) (H : Hp) (r : ER) (Q : VK) : Prop := match r with
  | .ok w ρ' => ∀ v H', OKE X ca Z S H q σ w ρ' v H' → Q v H'
  | .ex x ρ' => ∀ cls d H', EXE X ca Z S H σ x ρ' cls d H' → Wx cls d σ H'
  | .no => False
def PoB (X : Cx) (ca : Ca) (Wx : WX) (q k : Bool) (Z S : AS) (σ : L2.St) (H : Hp) (r : ER) (Q : VK) : Prop := match r with
  | .ok w ρ' => ∀ v H', OKB X ca k Z S H q σ (frz w) ρ' v H' → Q v H'
  | .ex x ρ' => ∀ cls d H', EXE X ca Z S H σ x ρ' cls d H' → Wx cls d σ H'
  | .no => False
/-- THE JUDGEMENTS: e gives what f says: an owned value; data or something borrowed -/
structure DE (X : Cx) (ca : Ca) (Wx : WX) (q : Bool) (e : Expr) (f : Ro → ER) : Prop where
  run : PE X e fun σ H Q => ∃ Z S ρ, Fr X ca Z S ρ σ H ∧ PoE X ca Wx q Z S σ H (f ρ) Q
structure DB (X : Cx) (ca : Ca) (Wx : WX) (q k : Bool) (e : Expr) (f : Ro → ER) : Prop where
  run : PE X e fun σ H Q => ∃ Z S ρ, Fr X ca Z S ρ σ H ∧ PoB X ca Wx q k Z S σ H (f ρ) Q

theorem RepKd.bor {k : Bool} {G H : Hp} {d : D} {v : V} (s : Same G H) (h : RepKd X ca k G H d v) : RepB X.prog X.w X.K ca G H d v := by
  unfold RepKd at h
  split at h
  · exact h.borrow s
  · exact h
theorem OKE.toB (fr : Fr X ca Z S ρ σ H) {w : W} {v : V} (o : OKE X ca Z S H q σ w ρ1 v H1) : OKB X ca true Z S H q σ (frz w) ρ1 v H1 := by
  obtain ⟨S', Sw, nx, dj, rs, rw'⟩ := o
  have nx' : Nx S H q S' H1 := nx.shrink fun _ z => .inl z
  have dz : dis Z (un S' Sw) := nx.dj fr.dj fr.az
  have sm : Same (hid H1 (un Z (un S' Sw))) (hid H1 (un Z S')) := hid_anti fun a z => z.elim .inl fun z => .inr (.inl z)
  refine ⟨S', nx', ⟨fun a z y => dz a z (.inl y), nx.az fr.dj fr.az, fun a z => nx.al a (.inl z), rs.mono sm (fun _ z => z) (fun _ _ _ e => e), ca.km0 nx'.hid fr.kp⟩, ?_⟩
  show RepKd X ca true _ _ _ _
  unfold RepKd
  rw [if_pos rfl]
  exact rw'.freeze sm (fun a o z e => hid_some.mpr ⟨e, fun y => y.elim (fun y => dz a y (.inr z)) fun y => dj a y z⟩)
theorem OKB.toE {d : D} {v : V} (o : OKB X ca true Z S H q σ d ρ1 v H1) : OKE X ca Z S H q σ (.d d) ρ1 v H1 := by
  obtain ⟨S', nx, fr', rp⟩ := o
  have e : hid H1 (un Z (un S' emp)) = hid H1 (un Z S') := hid_congr fun a => ⟨fun z => z.elim .inl fun z => z.elim .inr fun z => z.elim, fun z => z.elim .inl fun z => .inr (.inl z)⟩
  unfold RepKd at rp
  rw [if_pos rfl] at rp
  refine ⟨S', emp, ⟨nx.keep, fun b z => z.elim (nx.own b) fun z => z.elim, fun b z => z.elim (nx.al b) fun z => z.elim, nx.qt⟩, fun _ _ z => z, ?_, ?_⟩
  · rw [e]; exact fr'.rep
  · rw [e]; exact rp
/-- an owned value, frozen -/
theorem DE.b {e : Expr} {f : Ro → ER} (h : DE X ca Wx q e f) : DB X ca Wx q true e f := ⟨⟨fun pins s σ H Q I ⟨Z, S, ρ, fr, po⟩ => h.run.run pins s σ H Q I ⟨Z, S, ρ, fr, by
  cases e : f ρ with
  | ok w ρ' =>
    rw [e] at po
    exact fun v H' o => po v H' (o.toB fr)
  | ex x ρ' =>
    rw [e] at po
    exact po
  | no =>
    rw [e] at po
    exact po⟩⟩⟩
/-- data as a value -/
def dat (r : ER) : ER := match r with
  | .ok w ρ => .ok (.d (frz w)) ρ
  | .ex x ρ => .ex x ρ
  | .no => .no
theorem DB.e {e : Expr} {f : Ro → ER} (h : DB X ca Wx q true e f) : DE X ca Wx q e fun ρ => dat (f ρ) := ⟨⟨fun pins s σ H Q I ⟨Z, S, ρ, fr, po⟩ => h.run.run pins s σ H Q I ⟨Z, S, ρ, fr, by
  cases e : f ρ with
  | ok w ρ' =>
    rw [e] at po
    exact fun v H' o => po v H' o.toE
  | ex x ρ' =>
    rw [e] at po
    exact po
  | no =>
    rw [e] at po
    exact po⟩⟩⟩
theorem PoB.shift {k : Bool} {r : ER} {Q : VK} (h : PoB X ca Wx (q && q1) k Z S σ H r Q) (nx : Nx S H q S1 H1) : PoB X ca Wx q1 k Z S1 σ H1 r Q := by
  cases r with
  | ok w ρ' => exact fun v H' ⟨S', n, r⟩ => h v H' ⟨S', nx.trans n, r⟩
  | ex x ρ' => exact fun c d H' ⟨S', n, r⟩ => h c d H' ⟨S', (nx.trans n).weak (fun z => nomatch z), r⟩
  | no => exact h
theorem PoE.shift {r : ER} {Q : VK} (h : PoE X ca Wx (q && q1) Z S σ H r Q) (nx : Nx S H q S1 H1) : PoE X ca Wx q1 Z S1 σ H1 r Q := by
  cases r with
  | ok w ρ' => exact fun v H' ⟨S', Sw, n, r⟩ => h v H' ⟨S', Sw, nx.trans n, r⟩
  | ex x ρ' => exact fun c d H' ⟨S', n, r⟩ => h c d H' ⟨S', (nx.trans n).weak (fun z => nomatch z), r⟩
  | no => exact h

variable {pins : List (Addr × Obj)} {s : Shared} {a b : Expr} {fa fb : Ro → ER} {α : Type}
/-- what is asked of an exception by what follows -/
def PoX (X : Cx) (ca : Ca) (Wx : WX) (Z S : AS) (σ : L2.St) (H : Hp) (x : Ex) (ρ' : Ro) : Prop := ∀ cls d H', EXE X ca Z S H σ x ρ' cls d H' → Wx cls d σ H'
/-- evaluate, then go on; r: the whole's result, of which the end is wanted -/
theorem DB.seq {k : Bool} {Post : V → Value → Shared → Prop} (ha : DB X ca Wx q k a fa) (I : Inv X pins σ H s) (fr : Fr X ca Z S ρ σ H)
    (hk : ∀ w ρ1, fa ρ = .ok w ρ1 → ∀ v u s1 H1, Inv X pins σ H1 s1 → RelV v u → OKB X ca k Z S H q σ (frz w) ρ1 v H1 → Post v u s1)
    (hx : ∀ x ρ1, fa ρ = .ex x ρ1 → PoX X ca Wx Z S σ H x ρ1) (hn : fa ρ ≠ .no) :
    wpAny (model X.prog X.w) X.A (eval a X.env) (fun u s1 => ∃ v, Post v u s1) X.xe s := by
  cases e : fa ρ with
  | ok w ρ1 => exact thn (ha.run.run pins s σ H (fun v H1 => OKB X ca k Z S H q σ (frz w) ρ1 v H1) I ⟨Z, S, ρ, fr, by rw [e]; exact fun v H' o => o⟩) fun u s1 ⟨v, H1, I1, rv, o⟩ => ⟨v, hk w ρ1 e v u s1 H1 I1 rv o⟩
  | ex x ρ1 => exact thn (ha.run.run pins s σ H (fun v H1 => False) I ⟨Z, S, ρ, fr, by rw [e]; exact hx x ρ1 e⟩) fun u s1 ⟨v, H1, I1, rv, o⟩ => o.elim
  | no => exact absurd e hn
/-- .. where the whole is a bind -/
theorem DB.bindB {k kk : Bool} {kf : W → Ro → ER} {Q : VK} {Post : Value → Shared → Prop} (ha : DB X ca Wx q k a fa) (I : Inv X pins σ H s) (fr : Fr X ca Z S ρ σ H) (h : PoB X ca Wx q1 kk Z S σ H ((fa ρ).bind kf) Q)
    (hk : ∀ w ρ1 v u s1 H1, Inv X pins σ H1 s1 → RelV v u → OKB X ca k Z S H q σ (frz w) ρ1 v H1 → PoB X ca Wx q1 kk Z S σ H (kf w ρ1) Q → Post u s1) :
    wpAny (model X.prog X.w) X.A (eval a X.env) Post X.xe s := by
  have z := DB.seq (Post := fun v u s1 => Post u s1) ha I fr (fun w ρ1 e v u s1 H1 I1 rv o => hk w ρ1 v u s1 H1 I1 rv o (by rw [e] at h; exact h)) (fun x ρ1 e => by rw [e] at h; exact h) (fun e => by rw [e] at h; exact h)
  exact thn z fun u s1 ⟨_, p⟩ => p
theorem DB.bindE {k : Bool} {kf : W → Ro → ER} {Q : VK} {Post : Value → Shared → Prop} (ha : DB X ca Wx q k a fa) (I : Inv X pins σ H s) (fr : Fr X ca Z S ρ σ H) (h : PoE X ca Wx q1 Z S σ H ((fa ρ).bind kf) Q)
    (hk : ∀ w ρ1 v u s1 H1, Inv X pins σ H1 s1 → RelV v u → OKB X ca k Z S H q σ (frz w) ρ1 v H1 → PoE X ca Wx q1 Z S σ H (kf w ρ1) Q → Post u s1) :
    wpAny (model X.prog X.w) X.A (eval a X.env) Post X.xe s := by
  have z := DB.seq (Post := fun v u s1 => Post u s1) ha I fr (fun w ρ1 e v u s1 H1 I1 rv o => hk w ρ1 v u s1 H1 I1 rv o (by rw [e] at h; exact h)) (fun x ρ1 e => by rw [e] at h; exact h) (fun e => by rw [e] at h; exact h)
  exact thn z fun u s1 ⟨_, p⟩ => p
/-- what was read stays: data always, a borrowed thing while all is kept -/
theorem RepKd.keep {k : Bool} {d : D} {v : V} (r : RepKd X ca k (hid H1 (un Z S1)) H1 d v) (nx : Nx S1 H1 q S2 H2) (h : k = true ∨ q = true) : RepKd X ca k (hid H2 (un Z S2)) H2 d v := by
  unfold RepKd at *
  split at r
  · rename_i e
    rw [if_pos e]
    exact r.mono nx.hid
  · rename_i e
    rw [if_neg e]
    exact r.mono nx.hid (nx.qt (h.elim (fun z => absurd z e) id))
end
end L3

set_option Elab.async false
set_option linter.all false
set_option maxRecDepth 100000
/-! L3c: equality of data, slots, names, constants, operators. -/
namespace L3
open PySem PySem.Spec PyProof.Rows L2

/-! ### equality -/
mutual
def toP : D → Option PyData
 | .non => some .none
 | .bl b => some (.bool b)
 | .int i => some (.int i)
 | .str x => some (.str x)
 | .tup l => (toPs l).map .tuple
 | .lst l => (toPs l).map .list
 | _ => none
termination_by structural x => x
def toPs : List D → Option (List PyData)
 | [] => some []
 | a :: r => match toP a, toPs r with
   | some k, some ks => some (k :: ks)
   | _, _ => none
termination_by structural x => x
end
mutual
def dep : D → Nat
 | .tup l => deps l + 1
 | .lst l => deps l + 1
 | _ => 0
termination_by structural x => x
def deps : List D → Nat
 | [] => 0
 | a :: r => max (dep a) (deps r)
termination_by structural x => x
end
mutual
def plain : D → Bool
 | .tup l => plains l
 | .lst l => plains l
 | .dic _ _ => false
 | .ins _ _ _ => false
 | _ => true
termination_by structural x => x
def plains : List D → Bool
 | [] => true
 | a :: r => plain a && plains r
termination_by structural x => x
end
mutual
def eqD : D → D → Bool
 | .non, .non => true
 | .bl a, .bl b => a == b
 | .bl a, .int j => (if a then 1 else 0) == j
 | .int i, .bl b => i == (if b then 1 else 0)
 | .int i, .int j => i == j
 | .str x, .str y => x == y
 | .tup a, .tup b => eqDs a b
 | .lst a, .lst b => eqDs a b
 | _, _ => false
termination_by structural x => x
def eqDs : List D → List D → Bool
 | [], [] => true
 | a :: r, b :: s => eqD a b && eqDs r s
 | _, _ => false
termination_by structural x => x
end
theorem toPs_cons {a : D} {r : List D} {p : List PyData} (h : toPs (a :: r) = some p) : ∃ k ks, toP a = some k ∧ toPs r = some ks ∧ p = k :: ks := by
  unfold toPs at h
  split at h
  · rename_i k ks e1 e2
    cases h
    exact ⟨k, ks, e1, e2, rfl⟩
  · cases h
mutual
theorem toP_of_plain : (d : D) → plain d = true → ∃ p, toP d = some p ∧ p.depth = dep d
 | .non, _ => ⟨_, rfl, rfl⟩
 | .bl _, _ => ⟨_, rfl, rfl⟩
 | .int _, _ => ⟨_, rfl, rfl⟩
 | .str _, _ => ⟨_, rfl, rfl⟩
 | .tup l, h => by
   obtain ⟨p, e, hd⟩ := toPs_of_plain l h
   refine ⟨.tuple p, by unfold toP; rw [e]; rfl, ?_⟩
   unfold PyData.depth dep
   rw [hd]
 | .lst l, h => by
   obtain ⟨p, e, hd⟩ := toPs_of_plain l h
   refine ⟨.list p, by unfold toP; rw [e]; rfl, ?_⟩
   unfold PyData.depth dep
   rw [hd]
 | .dic _ _, h => by cases h
 | .ins _ _ _, h => by cases h
termination_by structural x => x
theorem toPs_of_plain : (l : List D) → plains l = true → ∃ p, toPs l = some p ∧ PyData.depthAll p = deps l
 | [], _ => ⟨[], rfl, rfl⟩
 | a :: r, h => by
   unfold plains at h
   rw [Bool.and_eq_true] at h
   obtain ⟨p, e1, h1⟩ := toP_of_plain a h.1
   obtain ⟨ps, e2, h2⟩ := toPs_of_plain r h.2
   refine ⟨p :: ps, by unfold toPs; rw [e1, e2], ?_⟩
   unfold PyData.depthAll deps
   rw [h1, h2]
termination_by structural x => x
end
theorem map_some {α β : Type} {f : α → β} {o : Option α} {b : β} (h : o.map f = some b) : ∃ a, o = some a ∧ f a = b := Option.map_eq_some_iff.mp h
mutual
theorem eqD_eqv : (a b : D) → {p q : PyData} → toP a = some p → toP b = some q → eqD a b = PyData.eqv p q
 | .non, b, p, q, h, h' => by
   cases h
   cases b <;> first | (cases h'; rfl) | (obtain ⟨z, _, rfl⟩ := map_some h'; rfl) | cases h'
 | .bl x, b, p, q, h, h' => by
   cases h
   cases b <;> first | (cases h'; rfl) | (obtain ⟨z, _, rfl⟩ := map_some h'; rfl) | cases h'
 | .int x, b, p, q, h, h' => by
   cases h
   cases b <;> first | (cases h'; rfl) | (obtain ⟨z, _, rfl⟩ := map_some h'; rfl) | cases h'
 | .str x, b, p, q, h, h' => by
   cases h
   cases b <;> first | (cases h'; rfl) | (obtain ⟨z, _, rfl⟩ := map_some h'; rfl) | cases h'
 | .tup l, b, p, q, h, h' => by
   obtain ⟨ps, e, rfl⟩ := map_some h
   cases b with
   | tup m =>
     obtain ⟨qs, e', rfl⟩ := map_some h'
     unfold eqD PyData.eqv
     exact eqDs_eqv l m e e'
   | lst m => obtain ⟨qs, e', rfl⟩ := map_some h'; rfl
   | dic _ _ => cases h'
   | ins _ _ _ => cases h'
   | _ => cases h'; rfl
 | .lst l, b, p, q, h, h' => by
   obtain ⟨ps, e, rfl⟩ := map_some h
   cases b with
   | lst m =>
     obtain ⟨qs, e', rfl⟩ := map_some h'
     unfold eqD PyData.eqv
     exact eqDs_eqv l m e e'
   | tup m => obtain ⟨qs, e', rfl⟩ := map_some h'; rfl
   | dic _ _ => cases h'
   | ins _ _ _ => cases h'
   | _ => cases h'; rfl
 | .dic _ _, _, _, _, h, _ => by cases h
 | .ins _ _ _, _, _, _, h, _ => by cases h
termination_by structural x => x
theorem eqDs_eqv : (a b : List D) → {p q : List PyData} → toPs a = some p → toPs b = some q → eqDs a b = PyData.eqvAll p q
 | [], b, p, q, h, h' => by
   cases h
   cases b with
   | nil => cases h'; rfl
   | cons c s => obtain ⟨k, ks, _, _, rfl⟩ := toPs_cons h'; rfl
 | a :: r, b, p, q, h, h' => by
   obtain ⟨k, ks, e1, e2, rfl⟩ := toPs_cons h
   cases b with
   | nil => cases h'; rfl
   | cons c s =>
     obtain ⟨k', ks', e1', e2', rfl⟩ := toPs_cons h'
     unfold eqDs PyData.eqvAll
     rw [eqD_eqv a c e1 e1', eqDs_eqv r s e2 e2']
termination_by structural x => x
end
section
variable {P : Program} {w : World} {K : PySem.W.Frag} {ca : Nat → Addr} {G G' H H' : Hp}
mutual
theorem RepD.dp : (d : D) → {v : V} → {p : PyData} → RepD P w K ca H d v → toP d = some p → Dp K H v p ∧ p.canLay0 = true
 | .non, _, _, h, e => by cases e; cases h; exact ⟨.non, rfl⟩
 | .bl b, _, _, h, e => by cases e; cases h; exact ⟨.bl b, rfl⟩
 | .int i, _, _, h, e => by cases e; cases h; exact ⟨.int i, rfl⟩
 | .str x, _, _, h, e => by cases e; obtain ⟨rfl, z⟩ := h; exact ⟨.str x, z⟩
 | .tup l, _, _, h, e => by
   obtain ⟨ps, e', ep⟩ := map_some e
   subst ep
   obtain ⟨a, xs, ev, h1, h2⟩ := h
   subst ev
   obtain ⟨q1, q2⟩ := RepDs.dp l h2 e'
   exact ⟨.tup h1 q1, q2⟩
 | .lst l, _, _, h, e => by
   obtain ⟨ps, e', ep⟩ := map_some e
   subst ep
   obtain ⟨a, xs, ev, h1, h2⟩ := h
   subst ev
   obtain ⟨q1, q2⟩ := RepDs.dp l h2 e'
   exact ⟨.lst h1 q1, q2⟩
 | .dic _ _, _, _, _, e => by cases e
 | .ins _ _ _, _, _, _, e => by cases e
termination_by structural x => x
theorem RepDs.dp : (l : List D) → {xs : List V} → {p : List PyData} → RepDs P w K ca H l xs → toPs l = some p → DpAll K H xs p ∧ PyData.canLayAll0 p = true
 | [], _, _, h, e => by cases e; rw [show _ = [] from h]; exact ⟨.nil, rfl⟩
 | d :: r, _, _, h, e => by
   obtain ⟨k, ks, e1, e2, rfl⟩ := toPs_cons e
   obtain ⟨x, t, rfl, h1, h2⟩ := h
   obtain ⟨a1, a2⟩ := RepD.dp d h1 e1
   obtain ⟨b1, b2⟩ := RepDs.dp r h2 e2
   refine ⟨.cons a1 b1, ?_⟩
   unfold PyData.canLayAll0
   rw [a2, b2]
   rfl
termination_by structural x => x
end

/-! ### slots -/
theorem RepSl.get : {ρ : Ro} → {σ : L2.St} → {S : AS} → {i : Nat} → {y : W} → RepSl P w K ca G H ρ σ S → ρ[i]? = some (some y) → ∃ v T, σ[i]? = some (some v) ∧ sub T S ∧ RepW P w K ca G H y v T
 | [], _, _, _, _, _, e => by simp at e
 | none :: r, _, _, 0, _, _, e => by simp at e
 | none :: r, _, _, i + 1, _, h, e => by
   obtain ⟨x, t, rfl, h1⟩ := h
   obtain ⟨v, T, a, b, c⟩ := RepSl.get (i := i) h1 (by simpa using e)
   exact ⟨v, T, by simpa using a, b, c⟩
 | some y' :: r, _, _, 0, _, h, e => by
   obtain ⟨v, t, S1, S2, rfl, a1, a2, dj, h1, h2⟩ := h
   simp at e; subst e
   exact ⟨v, S1, rfl, a1, h1⟩
 | some y' :: r, _, _, i + 1, _, h, e => by
   obtain ⟨v, t, S1, S2, rfl, a1, a2, dj, h1, h2⟩ := h
   obtain ⟨v', T, a, b, c⟩ := RepSl.get (i := i) h2 (by simpa using e)
   exact ⟨v', T, by simpa using a, fun x z => a2 x (b x z), c⟩
/-- a slot's object is taken out -/
theorem RepSl.take : {ρ : Ro} → {σ : L2.St} → {S : AS} → {i : Nat} → {y : W} → RepSl P w K ca G H ρ σ S → ρ[i]? = some (some y) →
    ∃ v T U, σ[i]? = some (some v) ∧ sub T S ∧ sub U S ∧ dis T U ∧ RepW P w K ca G H y v T ∧ RepSl P w K ca G H (ρ.set i none) σ U
 | [], _, _, _, _, _, e => by simp at e
 | none :: r, _, _, 0, _, _, e => by simp at e
 | none :: r, _, _, i + 1, _, h, e => by
   obtain ⟨x, t, rfl, h1⟩ := h
   obtain ⟨v, T, U, a, b, c, d, r1, r2⟩ := RepSl.take (i := i) h1 (by simpa using e)
   exact ⟨v, T, U, by simpa using a, b, c, d, r1, x, t, rfl, r2⟩
 | some y' :: r, _, _, 0, _, h, e => by
   obtain ⟨v, t, S1, S2, rfl, a1, a2, dj, h1, h2⟩ := h
   simp at e; subst e
   exact ⟨v, S1, S2, rfl, a1, a2, dj, h1, _, t, rfl, h2⟩
 | some y' :: r, _, S, i + 1, _, h, e => by
   obtain ⟨v, t, S1, S2, rfl, a1, a2, dj, h1, h2⟩ := h
   obtain ⟨v', T, U, a, b, c, d, r1, r2⟩ := RepSl.take (i := i) h2 (by simpa using e)
   refine ⟨v', T, un S1 U, by simpa using a, fun x z => a2 x (b x z), fun x z => z.elim (a1 x) fun z => a2 x (c x z), fun x z y => y.elim (fun y => dj x y (b x z)) (d x z), r1, ?_⟩
   exact ⟨v, t, S1, U, rfl, fun x z => .inl z, fun x z => .inr z, fun x z y => dj x z (c x y), h1, r2⟩
/-- .. and put back -/
theorem RepSl.put : {ρ : Ro} → {σ : L2.St} → {T U : AS} → {i : Nat} → {y : W} → {v : V} → RepSl P w K ca G H (ρ.set i none) σ U → i < ρ.length → σ[i]? = some (some v) → dis T U → RepW P w K ca G H y v T →
    RepSl P w K ca G H (ρ.set i (some y)) σ (un T U)
 | [], _, _, _, _, _, _, _, hl, _, _, _ => by simp at hl
 | _ :: r, _, T, U, 0, y, v, h, _, e, dj, rw' => by
   obtain ⟨x, t, rfl, h1⟩ := h
   simp at e; subst e
   exact ⟨v, t, T, U, rfl, fun x z => .inl z, fun x z => .inr z, dj, rw', h1⟩
 | none :: r, _, T, U, i + 1, y, v, h, hl, e, dj, rw' => by
   obtain ⟨x, t, rfl, h1⟩ := h
   exact ⟨x, t, rfl, RepSl.put (i := i) h1 (by simpa using hl) (by simpa using e) dj rw'⟩
 | some y' :: r, _, T, U, i + 1, y, v, h, hl, e, dj, rw' => by
   obtain ⟨v', t, S1, S2, rfl, a1, a2, dj', h1, h2⟩ := h
   have h3 := RepSl.put (i := i) h2 (by simpa using hl) (by simpa using e) (fun x z w => dj x z (a2 x w)) rw'
   exact ⟨v', t, S1, un T S2, rfl, fun x z => .inr (a1 x z), fun x z => z.elim .inl fun z => .inr (a2 x z), fun x z w => w.elim (fun w => dj x w (a1 x z)) (dj' x z), h1, h3⟩
theorem RepSl.len : {ρ : Ro} → {σ : L2.St} → {S : AS} → RepSl P w K ca G H ρ σ S → ρ.length = σ.length
 | [], _, _, h => by
   have e : _ = [] := h
   rw [e]
   rfl
 | none :: r, _, _, h => by
   obtain ⟨x, t, rfl, h1⟩ := h
   rw [List.length_cons, List.length_cons, RepSl.len h1]
 | some y :: r, _, _, h => by
   obtain ⟨v, t, S1, S2, rfl, a1, a2, dj, h1, h2⟩ := h
   rw [List.length_cons, List.length_cons, RepSl.len h2]
/-- a slot is stored -/
theorem RepSl.store : {ρ : Ro} → {σ : L2.St} → {T U : AS} → {i : Nat} → {y : W} → {v : V} → RepSl P w K ca G H ρ σ U → dis T U → RepW P w K ca G H y v T →
    RepSl P w K ca G H (ρ.set i (some y)) (σ.set i (some v)) (un T U)
 | [], _, _, _, _, _, _, h, _, _ => by rw [show _ = [] from h]; rfl
 | none :: r, _, T, U, 0, y, v, h, dj, rw' => by
   obtain ⟨x, t, rfl, h1⟩ := h
   exact ⟨v, t, T, U, rfl, fun x z => .inl z, fun x z => .inr z, dj, rw', h1⟩
 | some y' :: r, _, T, U, 0, y, v, h, dj, rw' => by
   obtain ⟨v', t, S1, S2, rfl, a1, a2, dj', h1, h2⟩ := h
   exact ⟨v, t, T, S2, rfl, fun x z => .inl z, fun x z => .inr (a2 x z), fun x z w => dj x z (a2 x w), rw', h2⟩
 | none :: r, _, T, U, i + 1, y, v, h, dj, rw' => by
   obtain ⟨x, t, rfl, h1⟩ := h
   exact ⟨x, _, rfl, RepSl.store (i := i) h1 dj rw'⟩
 | some y' :: r, _, T, U, i + 1, y, v, h, dj, rw' => by
   obtain ⟨v', t, S1, S2, rfl, a1, a2, dj', h1, h2⟩ := h
   have h3 := RepSl.store (i := i) h2 (fun x z w => dj x z (a2 x w)) rw'
   exact ⟨v', _, S1, un T S2, rfl, fun x z => .inr (a1 x z), fun x z => z.elim .inl fun z => .inr (a2 x z), fun x z w => w.elim (fun w => dj x w (a1 x z)) (dj' x z), h1, h3⟩
/-- a slot is forgotten -/
theorem RepSl.drop : {ρ : Ro} → {σ : L2.St} → {U : AS} → {i : Nat} → RepSl P w K ca G H ρ σ U → RepSl P w K ca G H (ρ.set i none) σ U
 | [], _, _, _, h => h
 | none :: r, _, _, 0, h => h
 | some y' :: r, _, _, 0, h => by
   obtain ⟨v', t, S1, S2, rfl, a1, a2, dj', h1, h2⟩ := h
   exact ⟨_, t, rfl, h2.mono (Same.refl _) a2 fun _ _ _ e => e⟩
 | none :: r, _, _, i + 1, h => by
   obtain ⟨x, t, rfl, h1⟩ := h
   exact ⟨x, _, rfl, RepSl.drop (i := i) h1⟩
 | some y' :: r, _, _, i + 1, h => by
   obtain ⟨v', t, S1, S2, rfl, a1, a2, dj', h1, h2⟩ := h
   exact ⟨v', _, S1, S2, rfl, a1, a2, dj', h1, RepSl.drop (i := i) h2⟩
end
end L3

set_option Elab.async false
set_option linter.all false
set_option maxRecDepth 100000
/-! L3d: rules for expressions: constants, names, operators, tests. -/
namespace L3
open PySem PySem.Spec PyProof.Rows L2

section
variable {X : Cx} {ca : Ca} {Wx : WX} {Z S S1 S2 T : AS} {σ : L2.St} {H H1 H2 : Hp} {ρ ρ1 ρ2 : Ro} {q q1 q2 k k1 k2 : Bool} {a b c e : Expr} {fa fb fc : Ro → ER} {pos : Pos} {pins : List (Addr × Obj)} {s : Shared}

theorem okb_d {d : D} {v : V} {ρ' : Ro} (fr : Fr X ca Z S ρ' σ H) (r : RepD X.prog X.w X.K ca (hid H (un Z S)) d v) : OKB X ca true Z S H true σ d ρ' v H :=
  ⟨S, Nx.refl fr.as, fr, by unfold RepKd; rw [if_pos rfl]; exact r⟩
/-- behind a pure step: all is kept, the value is data -/
theorem okb_pure {d : D} {v : V} {ρ' : Ro} (fr : Fr X ca Z S ρ' σ H) (s : Same H H1) (r : RepD X.prog X.w X.K ca (hid H1 (un Z S)) d v) : OKB X ca true Z S H true σ d ρ' v H1 :=
  ⟨S, Nx.same s fr.as, fr.same s, by unfold RepKd; rw [if_pos rfl]; exact r⟩
theorem Fr.al (fr : Fr X ca Z S ρ σ H) : ∀ a, un Z S a → H a ≠ none := fun a z => z.elim (fr.az a) (fr.as a)

/-! ### constants -/
def c_const (d : D) : Ro → ER := fun ρ => .ok (.d d) ρ
theorem db_const {t : TE} {d : D} {v : V} (h : PE X e t) (ht : ∀ σ H Q, Q v H → t σ H Q) (hd : ∀ G, RepD X.prog X.w X.K ca G d v) : DB X ca Wx true true e (c_const d) :=
  ⟨⟨fun pins s σ H Q I ⟨Z, S, ρ, fr, po⟩ => h.run pins s σ H Q I (ht σ H Q (po v H (okb_d fr (hd _))))⟩⟩
theorem db_int {i j} : DB X ca Wx true true (.Constant (.int i) j pos) (c_const (.int i)) := db_const pe_int (fun _ _ _ h => h) fun _ => rfl
theorem db_bl {i j} : DB X ca Wx true true (.Constant (.bool i) j pos) (c_const (.bl i)) := db_const pe_bl (fun _ _ _ h => h) fun _ => rfl
theorem db_non {j} : DB X ca Wx true true (.Constant .none j pos) (c_const .non) := db_const pe_non (fun _ _ _ h => h) fun _ => rfl
theorem db_str {i j} (hs : PyData.strOk i = true := by decide +kernel) : DB X ca Wx true true (.Constant (.str i) j pos) (c_const (.str i)) := db_const pe_str (fun _ _ _ h => h) fun _ => ⟨rfl, hs⟩
/-- a module's constant -/
theorem db_glob {x : Str} {d : D} {v : V} {u : Value} (hg : Gl X x) (hm : X.mg x = some u) (r : RelV v u) (hd : ∀ G, RepD X.prog X.w X.K ca G d v) (hdb : (x == ("__debug__" : Str)) = false := by decide) : DB X ca Wx true true (.Name x pos) (c_const d) :=
  db_const (pe_glob hg hm r hdb) (fun _ _ _ h => h) hd

/-! ### names -/
/-- a name, looked at -/
def c_peek (i : Nat) : Ro → ER := fun ρ => match ρ[i]? with
  | some (some w) => .ok (.d (frz w)) ρ
  | _ => .no
/-- a name, as a value: what it holds is frozen -/
def c_var (i : Nat) : Ro → ER := fun ρ => match ρ[i]? with
  | some (some w) => .ok (.d (frz w)) (ρ.set i (some (.d (frz w))))
  | _ => .no
/-- a name's object, handed on; the name is not used any more -/
def c_move (i : Nat) : Ro → ER := fun ρ => match ρ[i]? with
  | some (some w) => .ok w (ρ.set i none)
  | _ => .no
theorem db_peek (i : Nat) (h : PE X e (tVar i)) : DB X ca Wx true false e (c_peek i) := by
  refine ⟨⟨fun pins s σ H Q I ⟨Z, S, ρ, fr, po⟩ => ?_⟩⟩
  unfold c_peek at po
  split at po
  · rename_i w hw
    obtain ⟨v, T, e1, e2, e3⟩ := fr.rep.get hw
    refine h.run pins s σ H Q I ⟨v, e1, po v H ⟨S, Nx.refl fr.as, fr, ?_⟩⟩
    unfold RepKd
    rw [if_neg (by decide)]
    exact e3.borrow hid_same
  · exact po.elim
theorem db_var (i : Nat) (h : PE X e (tVar i)) : DB X ca Wx true true e (c_var i) := by
  refine ⟨⟨fun pins s σ H Q I ⟨Z, S, ρ, fr, po⟩ => ?_⟩⟩
  unfold c_var at po
  split at po
  · rename_i w hw
    obtain ⟨v, T, U, e1, a1, a2, dj, e3, e4⟩ := fr.rep.take hw
    have hl : i < ρ.length := by
      have := (List.getElem?_eq_some_iff.mp hw).1
      exact this
    have sm : Same (hid H (un Z S)) (hid H (un Z U)) := hid_anti fun a z => z.elim .inl fun z => .inr (a2 a z)
    have rd : RepD X.prog X.w X.K ca (hid H (un Z U)) (frz w) v := e3.freeze sm fun a o z e => hid_some.mpr ⟨e, fun y => y.elim (fun y => fr.dj a y (a1 a z)) fun y => dj a z y⟩
    have e5 := (e4.mono sm (fun _ z => z) (fun _ _ _ e => e)).put (T := emp) (y := .d (frz w)) hl e1 (fun _ z => z.elim) rd
    refine h.run pins s σ H Q I ⟨v, e1, po v H ⟨U, (Nx.refl fr.as).shrink a2, ⟨fun a z y => fr.dj a z (a2 a y), fr.az, fun a z => fr.as a (a2 a z), ?_, ca.km0 sm fr.kp⟩, ?_⟩⟩
    · exact e5.mono (Same.refl _) (fun a z => z.elim (fun z => z.elim) id) fun _ _ _ e => e
    · unfold RepKd
      rw [if_pos rfl]
      exact rd
  · exact po.elim
theorem de_move (i : Nat) (h : PE X e (tVar i)) : DE X ca Wx true e (c_move i) := by
  refine ⟨⟨fun pins s σ H Q I ⟨Z, S, ρ, fr, po⟩ => ?_⟩⟩
  unfold c_move at po
  split at po
  · rename_i w hw
    obtain ⟨v, T, U, e1, a1, a2, dj, e3, e4⟩ := fr.rep.take hw
    have sm : Same (hid H (un Z S)) (hid H (un Z (un U T))) := hid_anti fun a z => z.elim .inl fun z => .inr (z.elim (a2 a) (a1 a))
    refine h.run pins s σ H Q I ⟨v, e1, po v H ⟨U, T, (Nx.refl fr.as).shrink fun a z => z.elim (a2 a) (a1 a), fun a z y => dj a y z, ?_, ?_⟩⟩
    · exact e4.mono sm (fun _ z => z) fun _ _ _ e => e
    · exact e3.mono sm (fun _ z => z) fun _ _ _ e => e
  · exact po.elim

/-! ### pure operators of two -/
/-- what an operator makes of data; T: what is not to be seen in the answer -/
def Op2 (X : Cx) (ca : Ca) (f : Value → Value → Sem Value) (g : D → D → Option D) : Prop :=
  ∀ (pins : List (Addr × Obj)) (s : Shared) (σ : L2.St) (H : Hp) (T : AS) (x y : V) (u v : Value) (da db d : D) (Q : VK), (∀ a, T a → H a ≠ none) → Inv X pins σ H s → RelV x u → RelV y v →
    RepB X.prog X.w X.K ca (hid H T) H da x → RepB X.prog X.w X.K ca (hid H T) H db y → g da db = some d → (∀ z H', Same H H' → RepD X.prog X.w X.K ca (hid H' T) d z → Q z H') →
    wpAny (model X.prog X.w) X.A (f u v) (EP X pins σ Q) X.xe s
def c_op2 (g : D → D → Option D) (fa fb : Ro → ER) : Ro → ER := fun ρ => (fa ρ).bind fun x ρ1 => (fb ρ1).bind fun y ρ2 => match g (frz x) (frz y) with
  | some d => .ok (.d d) ρ2
  | none => .no
theorem op2_seq {f : Value → Value → Sem Value} {g : D → D → Option D} {Q : VK} (ho : Op2 X ca f g) (ha : DB X ca Wx q1 k1 a fa) (hb : DB X ca Wx q2 k2 b fb) (hq : k1 = true ∨ q2 = true) (I : Inv X pins σ H s) (fr : Fr X ca Z S ρ σ H)
    (po : PoB X ca Wx (q1 && q2) true Z S σ H (c_op2 g fa fb ρ) Q) :
    wpAny (model X.prog X.w) X.A (eval a X.env) (fun v s₁ => wpAny (model X.prog X.w) X.A (eval b X.env) (fun u s₂ => wpAny (model X.prog X.w) X.A (f v u) (EP X pins σ Q) X.xe s₂) X.xe s₁) X.xe s := by
  refine ha.bindB I fr po fun w1 ρ1 v1 u1 s1 H1 I1 r1 o1 po1 => ?_
  obtain ⟨S1, nx1, fr1, rp1⟩ := o1
  refine hb.bindB I1 fr1 (po1.shift nx1) fun w2 ρ2 v2 u2 s2 H2 I2 r2 o2 po2 => ?_
  obtain ⟨S2, nx2, fr2, rp2⟩ := o2
  cases e : g (frz w1) (frz w2) with
  | none => rw [e] at po2; exact po2.elim
  | some d =>
    rw [e] at po2
    refine ho pins s2 σ H2 (un Z S2) v1 v2 u1 u2 (frz w1) (frz w2) d Q fr2.al I2 r1 r2 ((rp1.keep nx2 hq).bor hid_same) (rp2.bor hid_same) e fun z H' sm rd => ?_
    obtain ⟨S', n', f', r'⟩ := okb_pure fr2 sm rd
    exact po2 z H' ⟨S', Nx.weak (q := q2 && true) (nx2.trans n') (fun z => by rw [z]; rfl), f', r'⟩
theorem db_bin {op : Operator} {g : D → D → Option D} (ho : Op2 X ca (binaryOp op) g) (ha : DB X ca Wx q1 k1 a fa) (hb : DB X ca Wx q2 k2 b fb) (hq : k1 = true ∨ q2 = true := by first | exact .inl rfl | exact .inr rfl) :
    DB X ca Wx (q1 && q2) true (.BinOp a op b pos) (c_op2 g fa fb) := ⟨⟨fun pins s σ H Q I ⟨Z, S, ρ, fr, po⟩ => wpAny_BinOp (op2_seq ho ha hb hq I fr po)⟩⟩
theorem db_cmp {op : CmpOp} {g : D → D → Option D} (ho : Op2 X ca (compareOp op) g) (ha : DB X ca Wx q1 k1 a fa) (hb : DB X ca Wx q2 k2 b fb) (hq : k1 = true ∨ q2 = true := by first | exact .inl rfl | exact .inr rfl) (hm : behindInMarks op b = false := by first | rfl | decide) :
    DB X ca Wx (q1 && q2) true (.Compare a [op] [b] pos) (c_op2 g fa fb) := ⟨⟨fun pins s σ H Q I ⟨Z, S, ρ, fr, po⟩ => wpAny_Compare1 (op2_seq ho ha hb hq I fr po) hm⟩⟩
end
end L3

set_option Elab.async false
set_option linter.all false
set_option maxRecDepth 100000
set_option maxHeartbeats 1000000
/-! L3e: what the operators make of data. -/
namespace L3
open PySem PySem.Spec PyProof.Rows L2

section
variable {P : Program} {w : World} {K : PySem.W.Frag} {ca : Nat → Addr} {H : Hp} {T : AS} {p : Addr}
theorem same_new {o : HO} (hp : H p = none) : Same H (upd H p o) := fun a u e => by rw [upd_ne (ne_of_none e hp)]; exact e
theorem hid_new {o : HO} (hT : ∀ a, T a → H a ≠ none) (hp : H p = none) : hid (upd H p o) T p = some o := hid_some.mpr ⟨upd_same, fun z => hT p z hp⟩
theorem hid_grow {o : HO} (hT : ∀ a, T a → H a ≠ none) (hp : H p = none) : Same (hid H T) (hid (upd H p o) T) := hid_upd_same (same_new hp) hT
theorem rep_new_lst {l : List D} {xs : List V} (hT : ∀ a, T a → H a ≠ none) (hp : H p = none) (r : RepDs P w K ca (hid H T) l xs) : RepD P w K ca (hid (upd H p (.lst xs)) T) (.lst l) (.ref p) :=
  ⟨p, xs, rfl, SqL.of (hid_new hT hp), r.mono (hid_grow hT hp)⟩
theorem rep_new_tup {l : List D} {xs : List V} (hT : ∀ a, T a → H a ≠ none) (hp : H p = none) (r : RepDs P w K ca (hid H T) l xs) : RepD P w K ca (hid (upd H p (.tup xs)) T) (.tup l) (.ref p) :=
  ⟨p, xs, rfl, SqT.of (hid_new hT hp), r.mono (hid_grow hT hp)⟩
theorem RepDs.nil_iff {l : List D} {xs : List V} (r : RepDs P w K ca H l xs) : xs = [] ↔ l = [] := by
  have := r.length
  cases l <;> cases xs <;> simp_all
theorem RepDs.flatten {l : List D} {xs : List V} (r : RepDs P w K ca H l xs) : (n : Nat) → RepDs P w K ca H (List.replicate n l).flatten (List.replicate n xs).flatten
  | 0 => rfl
  | n + 1 => by
    rw [List.replicate_succ, List.replicate_succ, List.flatten_cons, List.flatten_cons]
    exact r.append (RepDs.flatten r n)
end

/-! ### the functions on data -/
def maxLen : Nat := 16777216
theorem maxLen_eq : maxLen = sizeLine := by rw [sizeLine_eq]; rfl
def addD : D → D → Option D
  | .int i, .int j => some (.int (i + j))
  | .str x, .str y => if x.length + y.length ≤ maxLen && PyData.strOk (x ++ y) then some (.str (x ++ y)) else none
  | .lst l, .lst m => if l.length + m.length ≤ maxLen then some (.lst (l ++ m)) else none
  | .tup l, .tup m => if l.length + m.length ≤ maxLen then some (.tup (l ++ m)) else none
  | _, _ => none
def subD : D → D → Option D
  | .int i, .int j => some (.int (i - j))
  | _, _ => none
def mulD : D → D → Option D
  | .int i, .int j => if (-(2 ^ 64) < i && i < 2 ^ 64) || (-(2 ^ 64) < j && j < 2 ^ 64) then some (.int (i * j)) else none
  | .lst l, .int k => if -(2 ^ 63) ≤ k && k < 2 ^ 63 && l.length * k.toNat ≤ maxLen then some (.lst (List.replicate k.toNat l).flatten) else none
  | _, _ => none
def fdivD : D → D → Option D
  | .int i, .int j => if j ≠ 0 && j.natAbs < 1073741824 then some (.int (i.fdiv j)) else none
  | _, _ => none
def modD : D → D → Option D
  | .int i, .int j => if j ≠ 0 then some (.int (i.fmod j)) else none
  | _, _ => none
def powD : D → D → Option D
  | .int i, .int j => if 0 ≤ j && j ≤ 1000000 && i.natAbs < 2 ^ 64 then some (.int (i ^ j.toNat)) else none
  | _, _ => none
def cmpD (f : Int → Int → Bool) : D → D → Option D
  | .int i, .int j => some (.bl (f i j))
  | _, _ => none
def eqC (a b : D) : Option D := if plain a && plain b && min (dep a) (dep b) ≤ 60 then some (.bl (eqD a b)) else none
def neC (a b : D) : Option D := if plain a && plain b && min (dep a) (dep b) ≤ 60 then some (.bl (!eqD a b)) else none
def isN (a b : D) : Option D := match b with
  | .non => some (.bl (match a with | .non => true | _ => false))
  | _ => none
def notN (a b : D) : Option D := match b with
  | .non => some (.bl (match a with | .non => false | _ => true))
  | _ => none

section
variable {X : Cx} {ca : Ca}
/-- a scalar answer -/
theorem op2_int {f : Value → Value → Sem Value} {C : Int → Int → Prop} {g : Int → Int → V} {gd : D → D → Option D} (h : OpR X f (rI C g)) (hg : ∀ a b d, gd a b = some d → ∃ i j, a = .int i ∧ b = .int j ∧ C i j ∧ ∀ G, RepD X.prog X.w X.K ca G d (g i j)) : Op2 X ca f gd := by
  intro pins s σ H T x y u v da db d Q hT I rx ry hx hy e hq
  obtain ⟨i, j, rfl, rfl, c, r⟩ := hg da db d e
  exact h pins s σ H x y u v Q I rx ry ⟨i, j, hx, hy, c, hq _ H (Same.refl _) (r _)⟩
theorem op2_int0 {f : Value → Value → Sem Value} {g : Int → Int → V} {gd : D → D → Option D} (h : OpR X f (rI0 g)) (hg : ∀ a b d, gd a b = some d → ∃ i j, a = .int i ∧ b = .int j ∧ ∀ G, RepD X.prog X.w X.K ca G d (g i j)) : Op2 X ca f gd := by
  intro pins s σ H T x y u v da db d Q hT I rx ry hx hy e hq
  obtain ⟨i, j, rfl, rfl, r⟩ := hg da db d e
  exact h pins s σ H x y u v Q I rx ry ⟨i, j, hx, hy, hq _ H (Same.refl _) (r _)⟩
theorem o_sub : Op2 X ca (binaryOp .Sub) subD := op2_int0 op_sub fun a b d e => by
  unfold subD at e
  split at e
  · cases e; exact ⟨_, _, rfl, rfl, fun _ => rfl⟩
  · cases e
theorem o_fdiv : Op2 X ca (binaryOp .FloorDiv) fdivD := op2_int op_fdivN fun a b d e => by
  unfold fdivD at e
  split at e
  · split at e
    · rename_i h
      cases e
      simp only [ne_eq, decide_not, Bool.and_eq_true, Bool.not_eq_true', decide_eq_false_iff_not, decide_eq_true_eq] at h
      exact ⟨_, _, rfl, rfl, ⟨h.1, h.2⟩, fun _ => rfl⟩
    · cases e
  · cases e
theorem o_mod : Op2 X ca (binaryOp .Mod) modD := op2_int op_modN fun a b d e => by
  unfold modD at e
  split at e
  · split at e
    · rename_i h
      cases e
      exact ⟨_, _, rfl, rfl, h, fun _ => rfl⟩
    · cases e
  · cases e
theorem o_pow : Op2 X ca (binaryOp .Pow) powD := op2_int op_pow fun a b d e => by
  unfold powD at e
  split at e
  · split at e
    · rename_i h
      cases e
      simp only [Bool.and_eq_true, decide_eq_true_eq] at h
      exact ⟨_, _, rfl, rfl, ⟨h.1.1, h.1.2, h.2⟩, fun _ => rfl⟩
    · cases e
  · cases e
theorem cmpD_some {f : Int → Int → Bool} {a b d : D} (e : cmpD f a b = some d) : ∃ i j, a = .int i ∧ b = .int j ∧ d = .bl (f i j) := by
  unfold cmpD at e
  split at e
  · cases e; exact ⟨_, _, rfl, rfl, rfl⟩
  · cases e
theorem o_lt : Op2 X ca (compareOp .Lt) (cmpD fun i j => decide (i < j)) := op2_int0 op_lt fun a b d e => by
  obtain ⟨i, j, rfl, rfl, rfl⟩ := cmpD_some e; exact ⟨_, _, rfl, rfl, fun _ => rfl⟩
theorem o_le : Op2 X ca (compareOp .LtE) (cmpD fun i j => decide (i ≤ j)) := op2_int0 op_le fun a b d e => by
  obtain ⟨i, j, rfl, rfl, rfl⟩ := cmpD_some e; exact ⟨_, _, rfl, rfl, fun _ => rfl⟩
theorem o_gt : Op2 X ca (compareOp .Gt) (cmpD fun i j => decide (j < i)) := op2_int0 op_gt fun a b d e => by
  obtain ⟨i, j, rfl, rfl, rfl⟩ := cmpD_some e; exact ⟨_, _, rfl, rfl, fun _ => rfl⟩
theorem o_ge : Op2 X ca (compareOp .GtE) (cmpD fun i j => decide (j ≤ i)) := op2_int0 op_ge fun a b d e => by
  obtain ⟨i, j, rfl, rfl, rfl⟩ := cmpD_some e; exact ⟨_, _, rfl, rfl, fun _ => rfl⟩
/-- list + list, wherever they stand -/
theorem add_lsts {pins : List (Addr × Obj)} {σ : L2.St} {H : Hp} {s : Shared} {a b : Addr} {xs ys : List V} {Q : VK} (I : Inv X pins σ H s) (ha : SqL X.K H a xs) (hb : SqL X.K H b ys) (hz : xs.length + ys.length ≤ sizeLine)
    (hq : ∀ p, H p = none → Q (.ref p) (upd H p (.lst (xs ++ ys)))) : wpAny (model X.prog X.w) X.A (binaryOp .Add (.ref a) (.ref b)) (EP X pins σ Q) X.xe s := by
  obtain ⟨its, r, ⟨⟨c1, d1, dt1, sl1⟩, n, ho, hc, _, hd⟩, _⟩ := I.list ha
  obtain ⟨its2, r2, ⟨⟨c2, d2, dt2, sl2⟩, n2, ho2, hc2, _, hd2⟩, _⟩ := I.list hb
  simp only at hc hd hc2 hd2
  subst hc hd hc2 hd2
  have hl := r.length
  have hl2 := r2.length
  have W := list_addW a b its.toArray its2.toArray n n2 d1 d2 sl1 sl2 (by simp only [List.size_toArray]; omega)
  refine concat_meets ⟨_, ho, rfl⟩ ⟨_, ho2, rfl⟩ noFill_list_add
    seq_list_add PySem.F.slot_list_add PySem.F.entry_list_add (PySem.F.args_list_add_2 _ _) W ⟨ho, ho2, ?_⟩
  rw [show its.toArray ++ its2.toArray = (its ++ its2).toArray by simp]
  exact ⟨.ref _, _, I.lnew (t' := s.toks) (r.append r2) (by rw [List.length_append]; omega), rfl, hq _ I.fresh⟩
theorem o_add : Op2 X ca (binaryOp .Add) addD := by
  intro pins s σ H T x y u v da db d Q hT I rx ry hx hy e hq
  unfold addD at e
  split at e
  · cases e
    exact op_add pins s σ H x y u v Q I rx ry ⟨_, _, hx, hy, hq _ H (Same.refl _) rfl⟩
  · split at e
    · rename_i h
      cases e
      rw [maxLen_eq, Bool.and_eq_true, decide_eq_true_eq] at h
      obtain ⟨rfl, _⟩ := hx
      obtain ⟨rfl, _⟩ := hy
      exact op_add_str pins s σ H _ _ u v Q I rx ry ⟨_, _, rfl, rfl, h.1, hq _ H (Same.refl _) ⟨rfl, h.2⟩⟩
    · cases e
  · split at e
    · rename_i h
      cases e
      rw [maxLen_eq] at h
      obtain ⟨a, xs, rfl, h1, h2⟩ := hx
      obtain ⟨b, ys, rfl, h3, h4⟩ := hy
      obtain rfl : u = Value.ref a := rx
      obtain rfl : v = Value.ref b := ry
      exact add_lsts I h1 h3 (by rw [← h2.length, ← h4.length]; exact h) fun p hp => hq _ _ (same_new hp) (rep_new_lst hT hp (h2.append h4))
    · cases e
  · split at e
    · rename_i h
      cases e
      rw [maxLen_eq] at h
      obtain ⟨a, xs, rfl, h1, h2⟩ := hx
      obtain ⟨b, ys, rfl, h3, h4⟩ := hy
      refine op_catA pins s σ H _ _ u v Q I rx ry ⟨a, b, xs, ys, rfl, rfl, SqT.mono hid_same h1, SqT.mono hid_same h3, by rw [← h2.length, ← h4.length]; exact h, fun z => ?_, fun z z2 => ?_, fun z z2 p hp => ?_⟩
      · rw [h2.nil_iff.mp z, List.nil_append] at hq
        exact hq _ H (Same.refl _) ⟨b, ys, rfl, h3, h4⟩
      · rw [h4.nil_iff.mp z2, List.append_nil] at hq
        exact hq _ H (Same.refl _) ⟨a, xs, rfl, h1, h2⟩
      · exact hq _ _ (same_new hp) (rep_new_tup hT hp (h2.append h4))
    · cases e
  · cases e
theorem o_eq (hu : X.A.units + 64 < cLine) : Op2 X ca (compareOp .Eq) eqC := by
  intro pins s σ H T x y u v da db d Q hT I rx ry hx hy e hq
  unfold eqC at e
  split at e
  · rename_i h
    cases e
    simp only [Bool.and_eq_true, decide_eq_true_eq] at h
    obtain ⟨⟨h1, h2⟩, h3⟩ := h
    obtain ⟨p, ep, dp⟩ := toP_of_plain da h1
    obtain ⟨p', ep', dp'⟩ := toP_of_plain db h2
    obtain ⟨a1, a2⟩ := (hx.data hid_same).dp da ep
    obtain ⟨b1, b2⟩ := (hy.data hid_same).dp db ep'
    obtain ⟨as, r1⟩ := Dp.reads I _ _ u a1 rx
    obtain ⟨bs, r2⟩ := Dp.reads I _ _ v b1 ry
    rw [eqD_eqv da db ep ep'] at hq
    exact SeqAt.compareEq_reads r1 r2 a2 b2 (by rw [dp, dp']; omega) ⟨.bl _, H, I, rfl, hq _ H (Same.refl _) rfl⟩
  · cases e
theorem o_ne (hu : X.A.units + 64 < cLine) : Op2 X ca (compareOp .NotEq) neC := by
  intro pins s σ H T x y u v da db d Q hT I rx ry hx hy e hq
  unfold neC at e
  split at e
  · rename_i h
    cases e
    simp only [Bool.and_eq_true, decide_eq_true_eq] at h
    obtain ⟨⟨h1, h2⟩, h3⟩ := h
    obtain ⟨p, ep, dp⟩ := toP_of_plain da h1
    obtain ⟨p', ep', dp'⟩ := toP_of_plain db h2
    obtain ⟨a1, a2⟩ := (hx.data hid_same).dp da ep
    obtain ⟨b1, b2⟩ := (hy.data hid_same).dp db ep'
    obtain ⟨as, r1⟩ := Dp.reads I _ _ u a1 rx
    obtain ⟨bs, r2⟩ := Dp.reads I _ _ v b1 ry
    rw [eqD_eqv da db ep ep'] at hq
    exact SeqAt.compareNe_reads r1 r2 a2 b2 (by rw [dp, dp']; omega) ⟨.bl _, H, I, rfl, hq _ H (Same.refl _) rfl⟩
  · cases e
theorem o_isN : Op2 X ca (compareOp .Is) isN := by
  intro pins s σ H T x y u v da db d Q hT I rx ry hx hy e hq
  unfold isN at e
  split at e
  · cases e
    refine op_isN pins s σ H x y u v Q I rx ry ⟨hy, hq _ H (Same.refl _) ?_⟩
    cases da with
    | non => rw [show x = .non from hx]; rfl
    | bl b => rw [show x = .bl b from hx]; rfl
    | int b => rw [show x = .int b from hx]; rfl
    | str b => rw [show x = .str b from hx.1]; rfl
    | tup b => obtain ⟨a, xs, rfl, _⟩ := hx; rfl
    | lst b => obtain ⟨a, xs, rfl, _⟩ := hx; rfl
    | dic b c => obtain ⟨a, rfl, _⟩ := hx; rfl
    | ins C fs vs => obtain ⟨a, dx, xs, rfl, _⟩ := hx; rfl
  · cases e
theorem o_notN : Op2 X ca (compareOp .IsNot) notN := by
  intro pins s σ H T x y u v da db d Q hT I rx ry hx hy e hq
  unfold notN at e
  split at e
  · cases e
    refine op_notN pins s σ H x y u v Q I rx ry ⟨hy, hq _ H (Same.refl _) ?_⟩
    cases da with
    | non => rw [show x = .non from hx]; rfl
    | bl b => rw [show x = .bl b from hx]; rfl
    | int b => rw [show x = .int b from hx]; rfl
    | str b => rw [show x = .str b from hx.1]; rfl
    | tup b => obtain ⟨a, xs, rfl, _⟩ := hx; rfl
    | lst b => obtain ⟨a, xs, rfl, _⟩ := hx; rfl
    | dic b c => obtain ⟨a, rfl, _⟩ := hx; rfl
    | ins C fs vs => obtain ⟨a, dx, xs, rfl, _⟩ := hx; rfl
  · cases e
end
end L3

set_option Elab.async false
set_option linter.all false
set_option maxRecDepth 100000
set_option maxHeartbeats 1000000
/-! L3f: tests, and, or, not, if-expressions. -/
namespace L3
open PySem PySem.Spec PyProof.Rows L2

section
variable {X : Cx} {ca : Ca} {Wx : WX} {Z S S1 S2 T : AS} {σ : L2.St} {H H1 H2 : Hp} {ρ ρ1 ρ2 : Ro} {q q1 q2 q3 k k1 k2 : Bool} {a b c e : Expr} {rest : List Expr} {fa fb fc : Ro → ER} {pos : Pos} {pins : List (Addr × Obj)} {s : Shared}
def OKT (X : Cx) (ca : Ca) (Z S : AS) (H : Hp) (q : Bool) (σ : L2.St) (ρ' : Ro) (H' : Hp) : Prop := ∃ S', Nx S H q S' H' ∧ Fr X ca Z S' ρ' σ H'
def PoT (X : Cx) (ca : Ca) (Wx : WX) (q : Bool) (Z S : AS) (σ : L2.St) (H : Hp) (r : ER) (Q : Bool → Hp → Prop) : Prop := match r with
  | .ok (.d (.bl b)) ρ' => ∀ H', OKT X ca Z S H q σ ρ' H' → Q b H'
  | .ok _ _ => False
  | .ex x ρ' => ∀ cls d H', EXE X ca Z S H σ x ρ' cls d H' → Wx cls d σ H'
  | .no => False
/-- e as a test -/
structure DT (X : Cx) (ca : Ca) (Wx : WX) (q : Bool) (e : Expr) (f : Ro → ER) : Prop where
  run : PT X e fun σ H Q => ∃ Z S ρ, Fr X ca Z S ρ σ H ∧ PoT X ca Wx q Z S σ H (f ρ) Q
/-- .. as a chain's rest -/
structure DW (X : Cx) (ca : Ca) (Wx : WX) (q : Bool) (e : Expr) (f : Ro → ER) : Prop where
  run : PW X e fun σ H Q => ∃ Z S ρ, Fr X ca Z S ρ σ H ∧ PoT X ca Wx q Z S σ H (f ρ) Q
theorem DW.t {f : Ro → ER} (h : DW X ca Wx q e f) : DT X ca Wx q e f := ⟨h.run.pt⟩
theorem PoT.shift {r : ER} {Q : Bool → Hp → Prop} (h : PoT X ca Wx (q && q1) Z S σ H r Q) (nx : Nx S H q S1 H1) : PoT X ca Wx q1 Z S1 σ H1 r Q := by
  cases r with
  | ok w ρ' =>
    cases w with
    | d x => cases x <;> first | exact h.elim | exact fun H' ⟨S', n, r⟩ => h H' ⟨S', nx.trans n, r⟩
    | _ => exact h.elim
  | ex x ρ' => exact fun c d H' ⟨S', n, r⟩ => h c d H' ⟨S', (nx.trans n).weak (fun z => nomatch z), r⟩
  | no => exact h
/-- a test's answer, then go on -/
def ER.tb (r : ER) (k : Bool → Ro → ER) : ER := match r with
  | .ok (.d (.bl b)) ρ => k b ρ
  | .ok _ _ => .no
  | .ex x ρ => .ex x ρ
  | .no => .no
theorem DT.seq {Post : Bool → Shared → Prop} (ha : DT X ca Wx q a fa) (I : Inv X pins σ H s) (fr : Fr X ca Z S ρ σ H)
    (hk : ∀ b ρ1, fa ρ = .ok (.d (.bl b)) ρ1 → ∀ s1 H1, Inv X pins σ H1 s1 → OKT X ca Z S H q σ ρ1 H1 → Post b s1)
    (hx : ∀ x ρ1, fa ρ = .ex x ρ1 → PoX X ca Wx Z S σ H x ρ1) (hr : (∃ b ρ1, fa ρ = .ok (.d (.bl b)) ρ1) ∨ (∃ x ρ1, fa ρ = .ex x ρ1)) :
    wpAny (model X.prog X.w) X.A (isTrue a X.env (eval a X.env)) Post X.xe s := by
  rcases hr with ⟨b, ρ1, e⟩ | ⟨x, ρ1, e⟩
  · exact thn (ha.run.run pins s σ H (fun b' H1 => b' = b ∧ OKT X ca Z S H q σ ρ1 H1) I ⟨Z, S, ρ, fr, by rw [e]; exact fun H' o => ⟨rfl, o⟩⟩) fun b' s1 ⟨H1, I1, eb, o⟩ => by rw [eb]; exact hk b ρ1 e s1 H1 I1 o
  · exact thn (ha.run.run pins s σ H (fun _ _ => False) I ⟨Z, S, ρ, fr, by rw [e]; exact hx x ρ1 e⟩) fun u s1 ⟨H1, I1, o⟩ => o.elim
theorem tb_cases {r : ER} {kk : Bool → Ro → ER} : (∃ b ρ1, r = .ok (.d (.bl b)) ρ1 ∧ r.tb kk = kk b ρ1) ∨ (∃ x ρ1, r = .ex x ρ1 ∧ r.tb kk = .ex x ρ1) ∨ r.tb kk = .no := by
  cases r with
  | ok w ρ1 =>
    cases w with
    | d x =>
      cases x with
      | bl b => exact .inl ⟨b, ρ1, rfl, rfl⟩
      | _ => exact .inr (.inr rfl)
    | _ => exact .inr (.inr rfl)
  | ex x ρ1 => exact .inr (.inl ⟨x, ρ1, rfl, rfl⟩)
  | no => exact .inr (.inr rfl)
theorem DT.bindT {kk : Bool → Ro → ER} {Q : Bool → Hp → Prop} {Post : Bool → Shared → Prop} (ha : DT X ca Wx q a fa) (I : Inv X pins σ H s) (fr : Fr X ca Z S ρ σ H) (h : PoT X ca Wx q1 Z S σ H ((fa ρ).tb kk) Q)
    (hk : ∀ b ρ1 s1 H1, Inv X pins σ H1 s1 → OKT X ca Z S H q σ ρ1 H1 → PoT X ca Wx q1 Z S σ H (kk b ρ1) Q → Post b s1) : wpAny (model X.prog X.w) X.A (isTrue a X.env (eval a X.env)) Post X.xe s := by
  rcases tb_cases (r := fa ρ) (kk := kk) with ⟨b, ρ1, e1, e2⟩ | ⟨x, ρ1, e1, e2⟩ | e2
  · rw [e2] at h
    exact DT.seq ha I fr (fun b' ρ' e s1 H1 I1 o => by rw [e1] at e; cases e; exact hk _ _ s1 H1 I1 o h) (fun x ρ' e => by rw [e1] at e; cases e) (.inl ⟨b, ρ1, e1⟩)
  · rw [e2] at h
    exact DT.seq ha I fr (fun b' ρ' e => by rw [e1] at e; cases e) (fun x ρ' e => by rw [e1] at e; cases e; exact h) (.inr ⟨x, ρ1, e1⟩)
  · rw [e2] at h
    exact h.elim
theorem DT.bindB {kk : Bool → Ro → ER} {Q : VK} {k : Bool} {Post : Bool → Shared → Prop} (ha : DT X ca Wx q a fa) (I : Inv X pins σ H s) (fr : Fr X ca Z S ρ σ H) (h : PoB X ca Wx q1 k Z S σ H ((fa ρ).tb kk) Q)
    (hk : ∀ b ρ1 s1 H1, Inv X pins σ H1 s1 → OKT X ca Z S H q σ ρ1 H1 → PoB X ca Wx q1 k Z S σ H (kk b ρ1) Q → Post b s1) : wpAny (model X.prog X.w) X.A (isTrue a X.env (eval a X.env)) Post X.xe s := by
  rcases tb_cases (r := fa ρ) (kk := kk) with ⟨b, ρ1, e1, e2⟩ | ⟨x, ρ1, e1, e2⟩ | e2
  · rw [e2] at h
    exact DT.seq ha I fr (fun b' ρ' e s1 H1 I1 o => by rw [e1] at e; cases e; exact hk _ _ s1 H1 I1 o h) (fun x ρ' e => by rw [e1] at e; cases e) (.inl ⟨b, ρ1, e1⟩)
  · rw [e2] at h
    exact DT.seq ha I fr (fun b' ρ' e => by rw [e1] at e; cases e) (fun x ρ' e => by rw [e1] at e; cases e; exact h) (.inr ⟨x, ρ1, e1⟩)
  · rw [e2] at h
    exact h.elim
theorem DT.bindE {kk : Bool → Ro → ER} {Q : VK} {Post : Bool → Shared → Prop} (ha : DT X ca Wx q a fa) (I : Inv X pins σ H s) (fr : Fr X ca Z S ρ σ H) (h : PoE X ca Wx q1 Z S σ H ((fa ρ).tb kk) Q)
    (hk : ∀ b ρ1 s1 H1, Inv X pins σ H1 s1 → OKT X ca Z S H q σ ρ1 H1 → PoE X ca Wx q1 Z S σ H (kk b ρ1) Q → Post b s1) : wpAny (model X.prog X.w) X.A (isTrue a X.env (eval a X.env)) Post X.xe s := by
  rcases tb_cases (r := fa ρ) (kk := kk) with ⟨b, ρ1, e1, e2⟩ | ⟨x, ρ1, e1, e2⟩ | e2
  · rw [e2] at h
    exact DT.seq ha I fr (fun b' ρ' e s1 H1 I1 o => by rw [e1] at e; cases e; exact hk _ _ s1 H1 I1 o h) (fun x ρ' e => by rw [e1] at e; cases e) (.inl ⟨b, ρ1, e1⟩)
  · rw [e2] at h
    exact DT.seq ha I fr (fun b' ρ' e => by rw [e1] at e; cases e) (fun x ρ' e => by rw [e1] at e; cases e; exact h) (.inr ⟨x, ρ1, e1⟩)
  · rw [e2] at h
    exact h.elim

/-! ### truth -/
/-- an own class's truth -/
def TrB (X : Cx) (ca : Ca) (tb : Nat → Option Bool) : Prop := ∀ (pins : List (Addr × Obj)) (s : Shared) (σ : L2.St) (H : Hp) (C : Nat) (fs : List Str) (vs : List D) (a : Addr) (b : Bool) (Q : Bool → Hp → Prop),
  ∀ A, (A = X.A ∨ A = X.A.in1.in1) → Inv X pins σ H s → RepD X.prog X.w X.K ca H (.ins C fs vs) (.ref a) → tb C = some b → (∀ H', Same H H' → Q b H') → wpAny (model X.prog X.w) A (truthy (.ref a)) (TP X pins σ Q) X.xe s
def truD (tb : Nat → Option Bool) : D → Option Bool
  | .non => some false
  | .bl b => some b
  | .int i => some (i != 0)
  | .str x => if x.length ≤ maxLen then some ((x.length : Int) != 0) else none
  | .tup l => some (!l.isEmpty)
  | .lst l => some (!l.isEmpty)
  | .dic _ _ => none
  | .ins C _ _ => tb C
theorem isEmpty_rep {P : Program} {w : World} {K : PySem.W.Frag} {G : Hp} {l : List D} {xs : List V} (r : RepDs P w K ca G l xs) : l.isEmpty = xs.isEmpty := by
  have := r.length
  cases l <;> cases xs <;> simp_all
theorem ndo_dict {P : Program} {w : World} {a : Addr} {es : List (NestedKey × Addr × V)} {h : Heap} (hk : HOk P w H h) (e : H a = some (NDO P w a es)) :
    es.length ≤ sizeLine ∧ (a == sysModules) = false ∧ (es.map (·.1)).Nodup ∧ (∀ e ∈ es, e.1.depth ≤ 8) ∧
    ∃ xs : List (NestedKey × Addr × Value), Paired (fun (p : NestedKey × Addr × V) (q : NestedKey × Addr × Value) => p.1 = q.1 ∧ p.2.1 = q.2.1 ∧ RelV p.2.2 q.2.2) es xs ∧
    ∃ o es' ep, h.get? a = some o ∧ o.ExactDict ∧ o.data = .dict es' ep ∧ es'.toList = xs.map (entryOfKey (nestedKind P w)) := by
  have x : ObjOk P w H h a (NDO P w a es) := hk a _ e
  exact x.1
theorem tru_rep {tb : Nat → Option Bool} {d : D} {v : V} {u : Value} {k : Bool} {Q : Bool → Hp → Prop} (tr : TrB X ca tb) (I : Inv X pins σ H s) (r : RelV v u) (h : RepB X.prog X.w X.K ca (hid H T) H d v) (e : truD tb d = some k) (q : ∀ H', Same H H' → Q k H') :
    wpAny (model X.prog X.w) X.A (truthy u) (TP X pins σ Q) X.xe s := by
  have go : TruV X.K v H k → wpAny (model X.prog X.w) X.A (truthy u) (TP X pins σ Q) X.xe s := fun t => tru_ok pins s σ H v u Q I r ⟨k, t, q H (Same.refl _)⟩
  cases d with
  | non => cases e; exact go (by rw [show v = .non from h]; rfl)
  | bl b => cases e; exact go (by rw [show v = .bl k from h]; rfl)
  | int i => cases e; exact go (by rw [show v = .int i from h]; rfl)
  | str x =>
    obtain ⟨rfl, z⟩ := h
    have e' : (if x.length ≤ maxLen then some ((x.length : Int) != 0) else none) = some k := e
    split at e'
    · rename_i hl
      cases e'
      rw [maxLen_eq] at hl
      exact go ⟨hl, rfl⟩
    · cases e'
  | tup l =>
    cases e
    obtain ⟨a, xs, rfl, h1, h2⟩ := h
    exact go (.inr (.inl ⟨xs, SqT.mono hid_same h1, by rw [isEmpty_rep h2]⟩))
  | lst l =>
    cases e
    obtain ⟨a, xs, rfl, h1, h2⟩ := h
    exact go (.inl ⟨xs, h1, by rw [isEmpty_rep h2]⟩)
  | dic ks vs => cases e
  | ins C fs vs =>
    have hd := RepB.data hid_same (.ins C fs vs) h
    obtain ⟨a, dx, xs, rfl, h1, _⟩ := h
    obtain rfl : u = Value.ref a := r
    exact tr pins s σ H C fs vs a k Q _ (.inl rfl) I hd e q

def c_truth (tb : Nat → Option Bool) (fa : Ro → ER) : Ro → ER := fun ρ => (fa ρ).bind fun w ρ1 => match truD tb (frz w) with
  | some b => .ok (.d (.bl b)) ρ1
  | none => .no
theorem dt_truth {tb : Nat → Option Bool} (tr : TrB X ca tb) (ha : DB X ca Wx q k a fa) (he : ∀ whole, isTrue a X.env whole = (do let v ← whole; standAt a.pos; holding [v] (truthy v)) := by intro _; rfl) : DT X ca Wx q a (c_truth tb fa) := by
  refine ⟨⟨fun pins s σ H Q I ⟨Z, S, ρ, fr, po⟩ => ?_⟩⟩
  refine isTrue_plain ?_ (he _)
  have go : ∀ w ρ1, fa ρ = .ok w ρ1 → ∀ v u s1 H1, Inv X pins σ H1 s1 → RelV v u → OKB X ca k Z S H q σ (frz w) ρ1 v H1 → wpAny (model X.prog X.w) X.A (truthy u) (TP X pins σ Q) X.xe s1 := fun w ρ1 e v u s1 H1 I1 r1 o => by
    unfold c_truth at po
    rw [e] at po
    simp only [ER.bind] at po
    obtain ⟨S1, nx, fr1, rp⟩ := o
    cases et : truD tb (frz w) with
    | none => rw [et] at po; exact po.elim
    | some b =>
      rw [et] at po
      exact tru_rep tr I1 r1 (rp.bor hid_same) et fun H' sm => po H' ⟨S1, Nx.weak (q := q && true) (nx.trans (Nx.same sm fr1.as)) (fun z => by rw [z]; rfl), fr1.same sm⟩
  exact thn (DB.seq (Post := fun v u s1 => wpAny (model X.prog X.w) X.A (truthy u) (TP X pins σ Q) X.xe s1) ha I fr go (fun x ρ1 e => by unfold c_truth at po; rw [e] at po; exact po) (fun e => by unfold c_truth at po; rw [e] at po; exact po)) fun u s1 ⟨_, p⟩ => p
/-- a comparison as a test: its answer is a bool -/
theorem dt_cmp {op : CmpOp} {g : D → D → Option D} (ho : Op2 X ca (compareOp op) g) (ha : DB X ca Wx q1 k1 a fa) (hb : DB X ca Wx q2 k2 b fb) (hq : k1 = true ∨ q2 = true := by first | exact .inl rfl | exact .inr rfl) (hm : behindInMarks op b = false := by first | rfl | decide) :
    DT X ca Wx (q1 && q2) (.Compare a [op] [b] pos) (c_op2 g fa fb) := by
  refine ⟨⟨fun pins s σ H Q I ⟨Z, S, ρ, fr, po⟩ => ?_⟩⟩
  have po' : PoB X ca Wx (q1 && q2) true Z S σ H (c_op2 g fa fb ρ) fun v H' => ∃ b, v = .bl b ∧ Q b H' := by
    cases e : c_op2 g fa fb ρ with
    | ok w ρ' =>
      rw [e] at po
      cases w with
      | d x => cases x <;> first | exact po.elim | exact fun v H' ⟨S', n, f, r⟩ => ⟨_, r, po H' ⟨S', n, f⟩⟩
      | _ => exact po.elim
    | ex x ρ' => rw [e] at po; exact po
    | no => rw [e] at po; exact po
  refine wpAny_isTrue_Compare1 (thn (op2_seq ho ha hb hq I fr po') fun v s1 h1 => thn h1 fun u s2 h2 => thn h2 fun c s3 ⟨x, H1, I1, r1, q1⟩ => ?_) hm
  obtain ⟨d, rfl, q⟩ := q1
  cases r1
  exact wpAny_truthy_bool ⟨H1, I1, q⟩
def c_not (fa : Ro → ER) : Ro → ER := fun ρ => (fa ρ).tb fun b ρ1 => .ok (.d (.bl (!b))) ρ1
theorem dt_not (ha : DT X ca Wx q a fa) : DT X ca Wx q (.UnaryOp .Not a pos) (c_not fa) := by
  refine ⟨⟨fun pins s σ H Q I ⟨Z, S, ρ, fr, po⟩ => isTrue_not ?_⟩⟩
  exact ha.bindT I fr po fun b ρ1 s1 H1 I1 o po1 => ⟨H1, I1, po1 H1 o⟩
def c_and (fa fb : Ro → ER) : Ro → ER := fun ρ => (fa ρ).tb fun b ρ1 => if b = true then fb ρ1 else .ok (.d (.bl false)) ρ1
def c_or (fa fb : Ro → ER) : Ro → ER := fun ρ => (fa ρ).tb fun b ρ1 => if b = true then .ok (.d (.bl true)) ρ1 else fb ρ1
theorem OKT.weak (o : OKT X ca Z S H q σ ρ1 H1) (h : q1 = true → q = true) : OKT X ca Z S H q1 σ ρ1 H1 := let ⟨S', n, f⟩ := o; ⟨S', n.weak h, f⟩
theorem dw_and1 (ha : DT X ca Wx q a fa) : DW X ca Wx q (.BoolOp .And [a] pos) fa := ⟨pw_and1 ha.run⟩
theorem dw_or1 (ha : DT X ca Wx q a fa) : DW X ca Wx q (.BoolOp .Or [a] pos) fa := ⟨pw_or1 ha.run⟩
theorem dw_and (ha : DT X ca Wx q1 a fa) (hb : DW X ca Wx q2 (.BoolOp .And (b :: rest) pos) fb) : DW X ca Wx (q1 && q2) (.BoolOp .And (a :: b :: rest) pos) (c_and fa fb) := by
  refine ⟨⟨fun wh pins s σ H Q I ⟨Z, S, ρ, fr, po⟩ => isTrue_and ?_⟩⟩
  refine ha.bindT I fr po fun b ρ1 s1 H1 I1 o po1 => ?_
  cases b with
  | true =>
    rw [if_pos rfl] at po1
    obtain ⟨S1, nx, fr1⟩ := o
    exact hb.run.run wh pins s1 σ H1 Q I1 ⟨Z, S1, ρ1, fr1, po1.shift nx⟩
  | false =>
    rw [if_neg Bool.false_ne_true] at po1
    exact ⟨H1, I1, po1 H1 (o.weak fun z => (Bool.and_eq_true_iff.mp z).1)⟩
theorem dw_or (ha : DT X ca Wx q1 a fa) (hb : DW X ca Wx q2 (.BoolOp .Or (b :: rest) pos) fb) : DW X ca Wx (q1 && q2) (.BoolOp .Or (a :: b :: rest) pos) (c_or fa fb) := by
  refine ⟨⟨fun wh pins s σ H Q I ⟨Z, S, ρ, fr, po⟩ => isTrue_or ?_⟩⟩
  refine ha.bindT I fr po fun b ρ1 s1 H1 I1 o po1 => ?_
  cases b with
  | true =>
    rw [if_pos rfl] at po1
    exact ⟨H1, I1, po1 H1 (o.weak fun z => (Bool.and_eq_true_iff.mp z).1)⟩
  | false =>
    rw [if_neg Bool.false_ne_true] at po1
    obtain ⟨S1, nx, fr1⟩ := o
    exact hb.run.run wh pins s1 σ H1 Q I1 ⟨Z, S1, ρ1, fr1, po1.shift nx⟩
/-- a if c else b -/
def c_if (fc fa fb : Ro → ER) : Ro → ER := fun ρ => (fc ρ).tb fun b ρ1 => if b = true then fa ρ1 else fb ρ1
theorem PoB.weak {k : Bool} {r : ER} {Q : VK} (h : PoB X ca Wx q k Z S σ H r Q) (hq : q1 = true → q = true) (hh : q = true → q1 = true) : PoB X ca Wx q1 k Z S σ H r Q := by
  have : q = q1 := by cases q <;> cases q1 <;> simp_all
  rw [← this]; exact h
theorem db_if (hc : DT X ca Wx q1 c fc) (ha : DB X ca Wx q2 k a fa) (hb : DB X ca Wx q2 k b fb) : DB X ca Wx (q1 && q2) k (.IfExp c a b pos) (c_if fc fa fb) := by
  refine ⟨⟨fun pins s σ H Q I ⟨Z, S, ρ, fr, po⟩ => wpAny_IfExp ?_⟩⟩
  refine hc.bindB I fr po fun b ρ1 s1 H1 I1 o po1 => ?_
  obtain ⟨S1, nx, fr1⟩ := o
  cases b with
  | true => exact ha.run.run pins s1 σ H1 Q I1 ⟨Z, S1, ρ1, fr1, (show PoB X ca Wx (q1 && q2) k Z S σ H (fa ρ1) Q from po1).shift nx⟩
  | false => exact hb.run.run pins s1 σ H1 Q I1 ⟨Z, S1, ρ1, fr1, (show PoB X ca Wx (q1 && q2) k Z S σ H (fb ρ1) Q from po1).shift nx⟩
theorem de_if (hc : DT X ca Wx q1 c fc) (ha : DE X ca Wx q2 a fa) (hb : DE X ca Wx q2 b fb) : DE X ca Wx (q1 && q2) (.IfExp c a b pos) (c_if fc fa fb) := by
  refine ⟨⟨fun pins s σ H Q I ⟨Z, S, ρ, fr, po⟩ => wpAny_IfExp ?_⟩⟩
  refine hc.bindE I fr po fun b ρ1 s1 H1 I1 o po1 => ?_
  obtain ⟨S1, nx, fr1⟩ := o
  cases b with
  | true => exact ha.run.run pins s1 σ H1 Q I1 ⟨Z, S1, ρ1, fr1, (show PoE X ca Wx (q1 && q2) Z S σ H (fa ρ1) Q from po1).shift nx⟩
  | false => exact hb.run.run pins s1 σ H1 Q I1 ⟨Z, S1, ρ1, fr1, (show PoE X ca Wx (q1 && q2) Z S σ H (fb ρ1) Q from po1).shift nx⟩
/-- weaken what is said of quietness -/
theorem DB.lo (h : DB X ca Wx q k a fa) : DB X ca Wx false k a fa := ⟨⟨fun pins s σ H Q I ⟨Z, S, ρ, fr, po⟩ => h.run.run pins s σ H Q I ⟨Z, S, ρ, fr, by
  cases e : fa ρ with
  | ok w ρ' => rw [e] at po; exact fun v H' ⟨S', n, r⟩ => po v H' ⟨S', n.weak (fun z => nomatch z), r⟩
  | ex x ρ' => rw [e] at po; exact po
  | no => rw [e] at po; exact po⟩⟩⟩
theorem DE.lo (h : DE X ca Wx q a fa) : DE X ca Wx false a fa := ⟨⟨fun pins s σ H Q I ⟨Z, S, ρ, fr, po⟩ => h.run.run pins s σ H Q I ⟨Z, S, ρ, fr, by
  cases e : fa ρ with
  | ok w ρ' => rw [e] at po; exact fun v H' ⟨S', Sw, n, r⟩ => po v H' ⟨S', Sw, n.weak (fun z => nomatch z), r⟩
  | ex x ρ' => rw [e] at po; exact po
  | no => rw [e] at po; exact po⟩⟩⟩
theorem DB.bor (h : DB X ca Wx q true a fa) : DB X ca Wx q false a fa := ⟨⟨fun pins s σ H Q I ⟨Z, S, ρ, fr, po⟩ => h.run.run pins s σ H Q I ⟨Z, S, ρ, fr, by
  cases e : fa ρ with
  | ok w ρ' => rw [e] at po; exact fun v H' ⟨S', n, f, r⟩ => po v H' ⟨S', n, f, by unfold RepKd at *; rw [if_neg Bool.false_ne_true]; exact r.borrow hid_same⟩
  | ex x ρ' => rw [e] at po; exact po
  | no => rw [e] at po; exact po⟩⟩⟩
/-- a test as a value: and, or of bools -/
theorem okt_b (o : OKT X ca Z S H q σ ρ1 H1) (b : Bool) : OKB X ca true Z S H q σ (.bl b) ρ1 (.bl b) H1 := let ⟨S', n, f⟩ := o; ⟨S', n, f, rfl⟩
/-- x and y, x or y, not x, as values: by truth -/
def c_andV (tb : Nat → Option Bool) (fa fb : Ro → ER) : Ro → ER := fun ρ => (fa ρ).bind fun w ρ1 => match truD tb (frz w) with
  | some true => fb ρ1
  | some false => .ok (.d (frz w)) ρ1
  | none => .no
def c_orV (tb : Nat → Option Bool) (fa fb : Ro → ER) : Ro → ER := fun ρ => (fa ρ).bind fun w ρ1 => match truD tb (frz w) with
  | some true => .ok (.d (frz w)) ρ1
  | some false => fb ρ1
  | none => .no
def c_notV (tb : Nat → Option Bool) (fa : Ro → ER) : Ro → ER := fun ρ => (fa ρ).bind fun w ρ1 => match truD tb (frz w) with
  | some b => .ok (.d (.bl (!b))) ρ1
  | none => .no
theorem db_one {op} (h : DB X ca Wx q k a fa) : DB X ca Wx q k (.BoolOp op [a] pos) fa := ⟨pe_one h.run⟩
theorem db_and {tb : Nat → Option Bool} (tr : TrB X ca tb) (ha : DB X ca Wx q1 true a fa) (hb : DB X ca Wx q2 true (.BoolOp .And (b :: rest) pos) fb) : DB X ca Wx (q1 && q2) true (.BoolOp .And (a :: b :: rest) pos) (c_andV tb fa fb) := by
  refine ⟨⟨fun pins s σ H Q I ⟨Z, S, ρ, fr, po⟩ => BoolOp_and ?_⟩⟩
  refine ha.bindB I fr po fun w ρ1 v u s1 H1 I1 r1 o po1 => ?_
  obtain ⟨S1, nx, fr1, rp⟩ := o
  cases et : truD tb (frz w) with
  | none => rw [et] at po1; exact po1.elim
  | some t =>
    rw [et] at po1
    have rp' : RepD X.prog X.w X.K ca (hid H1 (un Z S1)) (frz w) v := by unfold RepKd at rp; rw [if_pos rfl] at rp; exact rp
    refine thn (tru_rep (Q := fun b H' => b = t ∧ Same H1 H') tr I1 r1 (rp.bor hid_same) et fun H' sm => ⟨rfl, sm⟩) fun b s2 ⟨H2, I2, eb, sm⟩ => ?_
    subst eb
    have nx2 := nx.trans (Nx.same sm fr1.as)
    cases b with
    | true => exact hb.run.run pins s2 σ H2 Q I2 ⟨Z, S1, ρ1, fr1.same sm, PoB.shift (q := q1) (q1 := q2) po1 (nx2.weak fun z => by rw [z]; rfl)⟩
    | false => exact ⟨v, H2, I2, r1, po1 v H2 ⟨S1, nx2.weak fun z => by rw [(Bool.and_eq_true_iff.mp z).1]; rfl, fr1.same sm, by unfold RepKd; rw [if_pos rfl]; exact rp'.mono (Nx.hid (Nx.same sm fr1.as))⟩⟩
theorem db_or {tb : Nat → Option Bool} (tr : TrB X ca tb) (ha : DB X ca Wx q1 true a fa) (hb : DB X ca Wx q2 true (.BoolOp .Or (b :: rest) pos) fb) : DB X ca Wx (q1 && q2) true (.BoolOp .Or (a :: b :: rest) pos) (c_orV tb fa fb) := by
  refine ⟨⟨fun pins s σ H Q I ⟨Z, S, ρ, fr, po⟩ => BoolOp_or ?_⟩⟩
  refine ha.bindB I fr po fun w ρ1 v u s1 H1 I1 r1 o po1 => ?_
  obtain ⟨S1, nx, fr1, rp⟩ := o
  cases et : truD tb (frz w) with
  | none => rw [et] at po1; exact po1.elim
  | some t =>
    rw [et] at po1
    have rp' : RepD X.prog X.w X.K ca (hid H1 (un Z S1)) (frz w) v := by unfold RepKd at rp; rw [if_pos rfl] at rp; exact rp
    refine thn (tru_rep (Q := fun b H' => b = t ∧ Same H1 H') tr I1 r1 (rp.bor hid_same) et fun H' sm => ⟨rfl, sm⟩) fun b s2 ⟨H2, I2, eb, sm⟩ => ?_
    subst eb
    have nx2 := nx.trans (Nx.same sm fr1.as)
    cases b with
    | false => exact hb.run.run pins s2 σ H2 Q I2 ⟨Z, S1, ρ1, fr1.same sm, PoB.shift (q := q1) (q1 := q2) po1 (nx2.weak fun z => by rw [z]; rfl)⟩
    | true => exact ⟨v, H2, I2, r1, po1 v H2 ⟨S1, nx2.weak fun z => by rw [(Bool.and_eq_true_iff.mp z).1]; rfl, fr1.same sm, by unfold RepKd; rw [if_pos rfl]; exact rp'.mono (Nx.hid (Nx.same sm fr1.as))⟩⟩
theorem db_not {tb : Nat → Option Bool} (tr : TrB X ca tb) (ha : DB X ca Wx q k a fa) : DB X ca Wx q true (.UnaryOp .Not a pos) (c_notV tb fa) := by
  refine ⟨⟨fun pins s σ H Q I ⟨Z, S, ρ, fr, po⟩ => UnaryOp_ ?_⟩⟩
  refine ha.bindB I fr po fun w ρ1 v u s1 H1 I1 r1 o po1 => ?_
  obtain ⟨S1, nx, fr1, rp⟩ := o
  cases et : truD tb (frz w) with
  | none => rw [et] at po1; exact po1.elim
  | some t =>
    rw [et] at po1
    refine not_of (thn (tru_rep (Q := fun b H' => b = t ∧ Same H1 H') tr I1 r1 (rp.bor hid_same) et fun H' sm => ⟨rfl, sm⟩) fun b s2 ⟨H2, I2, eb, sm⟩ => ?_)
    subst eb
    have nx2 := nx.trans (Nx.same sm fr1.as)
    exact ⟨.bl (!b), H2, I2, rfl, po1 _ H2 ⟨S1, nx2.weak fun z => by rw [z]; rfl, fr1.same sm, by unfold RepKd; rw [if_pos rfl]; rfl⟩⟩
end
end L3

set_option Elab.async false
set_option linter.all false
set_option maxRecDepth 100000
set_option maxHeartbeats 1000000
/-! L3g: dicts of data: look-up; in; subscripts. -/
namespace L3
open PySem PySem.Spec PyProof.Rows L2

/-! ### dicts as two lists -/
def dget : List D → List D → D → Option D
  | a :: r, v :: s, k => if eqD a k then some v else dget r s k
  | _, _, _ => none
/-- d[k] = x: the values' list where k is there -/
def dset : List D → List D → D → D → List D
  | a :: r, v :: s, k, x => if eqD a k then x :: s else v :: dset r s k x
  | _, s, _, _ => s
def keyK (k : D) : Bool := (toKey k).isSome
def keyN (k : D) : Bool := isTup k && match toNK k with
  | some n => decide (n.depth ≤ 8)
  | none => false
/-- k may be asked of a dict with these keys -/
def keyOk (ks : List D) (k : D) : Bool := (ks.all keyK && keyK k) || (ks.all keyN && keyN k)

theorem toNKs_cons {a : D} {r : List D} {p : List NestedKey} (h : toNKs (a :: r) = some p) : ∃ k ks, toNK a = some k ∧ toNKs r = some ks ∧ p = k :: ks := by
  unfold toNKs at h
  split at h
  · rename_i k ks e1 e2
    cases h
    exact ⟨k, ks, e1, e2, rfl⟩
  · cases h
theorem beqNK_num (i j : Int) : NestedKey.beq (.num i) (.num j) = (i == j) := by
  unfold NestedKey.beq
  rw [Bool.eq_iff_iff]
  simp
theorem beqNK_text (i j : Str) : NestedKey.beq (.text i) (.text j) = (i == j) := by
  unfold NestedKey.beq
  rw [Bool.eq_iff_iff]
  simp
mutual
theorem eqD_nk : (a b : D) → {x y : NestedKey} → toNK a = some x → toNK b = some y → eqD a b = NestedKey.beq x y
  | .non, b, x, y, h, h' => by
    cases h
    cases b <;> first | (cases h'; rfl) | (obtain ⟨z, _, rfl⟩ := map_some h'; rfl) | cases h'
  | .bl p, b, x, y, h, h' => by
    cases h
    cases b with
    | bl q => cases h'; rw [beqNK_num]; cases p <;> cases q <;> rfl
    | int j => cases h'; rw [beqNK_num]; rfl
    | tup m => obtain ⟨z, _, rfl⟩ := map_some h'; rfl
    | non => cases h'; rfl
    | str _ => cases h'; rfl
    | _ => cases h'
  | .int i, b, x, y, h, h' => by
    cases h
    cases b with
    | bl q => cases h'; rw [beqNK_num]; rfl
    | int j => cases h'; rw [beqNK_num]; rfl
    | tup m => obtain ⟨z, _, rfl⟩ := map_some h'; rfl
    | non => cases h'; rfl
    | str _ => cases h'; rfl
    | _ => cases h'
  | .str i, b, x, y, h, h' => by
    cases h
    cases b with
    | str j => cases h'; rw [beqNK_text]; rfl
    | tup m => obtain ⟨z, _, rfl⟩ := map_some h'; rfl
    | non => cases h'; rfl
    | bl q => cases h'; rfl
    | int j => cases h'; rfl
    | _ => cases h'
  | .tup l, b, x, y, h, h' => by
    obtain ⟨ps, e, rfl⟩ := map_some h
    cases b with
    | tup m =>
      obtain ⟨qs, e', rfl⟩ := map_some h'
      unfold eqD NestedKey.beq
      exact eqDs_nk l m e e'
    | lst m => cases h'
    | dic _ _ => cases h'
    | ins _ _ _ => cases h'
    | _ => cases h'; rfl
  | .lst l, b, x, y, h, h' => by cases h
  | .dic _ _, _, _, _, h, _ => by cases h
  | .ins _ _ _, _, _, _, h, _ => by cases h
termination_by structural x => x
theorem eqDs_nk : (a b : List D) → {p q : List NestedKey} → toNKs a = some p → toNKs b = some q → eqDs a b = NestedKey.beqAll p q
  | [], b, p, q, h, h' => by
    cases h
    cases b with
    | nil => cases h'; rfl
    | cons c s => obtain ⟨k, ks, _, _, rfl⟩ := toNKs_cons h'; rfl
  | a :: r, b, p, q, h, h' => by
    obtain ⟨k, ks, e1, e2, rfl⟩ := toNKs_cons h
    cases b with
    | nil => cases h'; rfl
    | cons c s =>
      obtain ⟨k', ks', e1', e2', rfl⟩ := toNKs_cons h'
      unfold eqDs NestedKey.beqAll
      rw [eqD_nk a c e1 e1', eqDs_nk r s e2 e2']
termination_by structural x => x
end
theorem eqD_key {a b : D} {x y : Key} (h : toKey a = some x) (h' : toKey b = some y) : eqD a b = decide (x = y) := by
  cases a <;> first | cases h | skip
  · cases b <;> first | cases h' | skip
    · rw [key_ll]; rfl
    · rw [key_lr]; rfl
  · cases b <;> first | cases h' | skip
    · rw [key_rl]; rfl
    · rw [key_rr]
      show (_ == _) = _
      rw [Bool.eq_iff_iff]
      simp
theorem eqD_nkey {a b : D} {x y : NestedKey} (h : toNK a = some x) (h' : toNK b = some y) : eqD a b = decide (x = y) := by
  rw [eqD_nk a b h h', NestedKey.decide_eq]

section
variable {P : Program} {w : World} {K : PySem.W.Frag} {ca : Nat → Addr} {G H : Hp}
theorem key_of_rep {k : D} {x : Key} (r : RepD P w K ca G k (kV x)) : toKey k = some x := by
  cases k with
  | non => cases x <;> cases (show _ = V.non from r)
  | bl b => cases x <;> cases (show _ = V.bl b from r)
  | int i => cases x <;> cases (show _ = V.int i from r); rfl
  | str s => cases x <;> cases (show _ = V.str s from r.1); rfl
  | tup l => obtain ⟨a, xs, e, _⟩ := r; cases x <;> cases e
  | lst l => obtain ⟨a, xs, e, _⟩ := r; cases x <;> cases e
  | dic l m => obtain ⟨a, xs, ys, e, _⟩ := r; cases x <;> cases e
  | ins C f l => obtain ⟨a, dx, xs, e, _⟩ := r; cases x <;> cases e
theorem rep_of_key {k : D} {x : Key} {v : V} (r : RepD P w K ca G k v) (h : toKey k = some x) : v = kV x := by
  cases k <;> first | cases h | skip
  · exact r
  · exact r.1
/-- look-up, once for both kinds of keys -/
theorem dget_val {κ : Type} [DecidableEq κ] {kf : D → Option κ} (hk : ∀ {a b x y}, kf a = some x → kf b = some y → eqD a b = decide (x = y)) {k : D} {x : κ} (hx : kf k = some x) :
    {ks vs : List D} → {kv : List (κ × V)} → ks.map kf = kv.map (fun p => some p.1) → RepDs P w K ca G vs (kv.map (·.2)) →
    (∀ d, dget ks vs k = some d → ∃ v, valV kv x = some v ∧ RepD P w K ca G d v) ∧ (dget ks vs k = none → valV kv x = none)
  | [], _, [], _, _ => ⟨(fun _ e => nomatch e), fun _ => rfl⟩
  | [], _, _ :: _, e, _ => by cases e
  | _ :: _, _, [], e, _ => by cases e
  | a :: r, [], p :: s, _, h => nomatch (show _ = [] from h)
  | a :: r, v :: t, p :: s, e, h => by
    rw [List.map_cons, List.map_cons, List.cons.injEq] at e
    obtain ⟨y, ys, ey, h1, h2⟩ := h
    rw [List.map_cons, List.cons.injEq] at ey
    obtain ⟨rfl, rfl⟩ := ey
    have ih := dget_val hk hx e.2 h2
    have eq := hk e.1 hx
    unfold dget
    rw [eq]
    by_cases c : p.1 = x
    · rw [decide_eq_true c, if_pos rfl, valV_pos c]
      exact ⟨(fun d z => by cases z; exact ⟨_, rfl, h1⟩), fun z => nomatch z⟩
    · rw [decide_eq_false c, if_neg Bool.false_ne_true, valV_neg c]
      exact ih
theorem keys_K {ks : List D} {kv : List (Key × V)} (r : RepDs P w K ca G ks (kv.map fun p => kV p.1)) : ks.map toKey = kv.map (fun p => some p.1) := by
  induction kv generalizing ks with
  | nil =>
    cases ks with
    | nil => rfl
    | cons a r' => obtain ⟨_, _, e, _⟩ := r; cases e
  | cons p s ih =>
    cases ks with
    | nil => cases (show _ = [] from r)
    | cons a r' =>
      obtain ⟨x, t, e, h1, h2⟩ := r
      rw [List.map_cons, List.cons.injEq] at e
      obtain ⟨rfl, rfl⟩ := e
      rw [List.map_cons, List.map_cons, key_of_rep h1, ih h2]
theorem keys_N {ks : List D} {l : List NestedKey} (h : toNKs ks = some l) : ks.map toNK = l.map some := by
  induction ks generalizing l with
  | nil => cases h; rfl
  | cons a r ih =>
    obtain ⟨k, ks', e1, e2, rfl⟩ := toNKs_cons h
    rw [List.map_cons, List.map_cons, e1, ih e2]
end
section
variable {X : Cx} {ca : Ca} {pins : List (Addr × Obj)} {s : Shared} {σ : L2.St} {H G : Hp}
mutual
theorem RepD.nested (I : Inv X pins σ H s) : (d : D) → {v : V} → {u : Value} → {k : NestedKey} → RepD X.prog X.w X.K ca H d v → toNK d = some k → RelV v u → NestedIs s.heap k u
  | .non, _, _, _, h, e, r => by cases e; cases h; cases r; exact .none
  | .bl b, _, _, _, h, e, r => by cases e; cases h; cases r; exact .bool rfl
  | .int i, _, _, _, h, e, r => by cases e; cases h; obtain ⟨t, rfl⟩ := r; exact .int _ _
  | .str x, _, _, _, h, e, r => by cases e; obtain ⟨rfl, _⟩ := h; obtain ⟨t, rfl⟩ := r; exact .text _ _
  | .tup l, _, _, _, h, e, r => by
    obtain ⟨ps, e', ep⟩ := map_some e
    subst ep
    obtain ⟨a, xs, ev, h1, h2⟩ := h
    subst ev
    cases r
    obtain ⟨its, rv, ⟨o, ho, hc, n, hd⟩, _⟩ := I.tuple h1
    exact .tup ho hc hd (RepDs.nested I l h2 e' rv)
  | .lst _, _, _, _, _, e, _ => by cases e
  | .dic _ _, _, _, _, _, e, _ => by cases e
  | .ins _ _ _, _, _, _, _, e, _ => by cases e
termination_by structural x => x
theorem RepDs.nested (I : Inv X pins σ H s) : (l : List D) → {xs : List V} → {us : List Value} → {ks : List NestedKey} → RepDs X.prog X.w X.K ca H l xs → toNKs l = some ks → Vals xs us → NestedAll s.heap ks us
  | [], _, _, _, h, e, r => by
    cases e
    have z : _ = [] := h
    subst z
    cases r
    exact .nil
  | d :: t, _, _, _, h, e, r => by
    obtain ⟨k, ks, e1, e2, rfl⟩ := toNKs_cons e
    obtain ⟨x, t', ex, h1, h2⟩ := h
    subst ex
    cases r with
    | cons r1 r2 => exact .cons (RepD.nested I d h1 e1 r1) (RepDs.nested I t h2 e2 r2)
termination_by structural x => x
end
/-- what a dict of tuples is to the library -/
theorem ndo_keyed {a : Addr} {es : List (NestedKey × Addr × V)} {ks : List D} (I : Inv X pins σ H s) (e : H a = some (NDO X.prog X.w a es)) (hk : toNKs ks = some (es.map (·.1))) (hr : RepDs X.prog X.w X.K ca H ks (es.map fun e => V.ref e.2.1)) :
    es.length ≤ sizeLine ∧ (a == sysModules) = false ∧ ∃ xs : List (NestedKey × Addr × Value), Paired (fun (p : NestedKey × Addr × V) (q : NestedKey × Addr × Value) => p.1 = q.1 ∧ p.2.1 = q.2.1 ∧ RelV p.2.2 q.2.2) es xs ∧
      s.heap.DictOfH (nestedKind X.prog X.w) a xs ∧ KV (es.map fun e => (e.1, e.2.2)) (pairsH xs) := by
  obtain ⟨z1, z2, z3, z4, xs, pr, o, es', ep, g1, g2, g3, g4⟩ := ndo_dict I.hok e
  refine ⟨z1, z2, xs, pr, ?_, ?_⟩
  · have key : ∀ {l : List (NestedKey × Addr × V)} {m : List (NestedKey × Addr × Value)} {js : List D}, Paired (fun (p : NestedKey × Addr × V) (q : NestedKey × Addr × Value) => p.1 = q.1 ∧ p.2.1 = q.2.1 ∧ RelV p.2.2 q.2.2) l m → (∀ e ∈ l, e.1.depth ≤ 8) → toNKs js = some (l.map (·.1)) → RepDs X.prog X.w X.K ca H js (l.map fun e => V.ref e.2.1) →
        (∀ x ∈ m, (nestedKind X.prog X.w).is s.heap x.1 x.2.1) ∧ m.map (·.1) = l.map (·.1) := by
      intro l m js p
      induction p generalizing js with
      | nil => exact fun _ _ _ => ⟨(fun _ h => nomatch h), rfl⟩
      | @cons x y l m r _ ih =>
        intro hd hj hrj
        cases js with
        | nil => cases (show _ = [] from hrj)
        | cons j js =>
          obtain ⟨k, ks', e1, e2, e3⟩ := toNKs_cons hj
          rw [List.map_cons, List.cons.injEq] at e3
          obtain ⟨rfl, rfl⟩ := e3
          obtain ⟨v, t, ev, h1, h2⟩ := hrj
          rw [List.map_cons, List.cons.injEq] at ev
          obtain ⟨rfl, rfl⟩ := ev
          obtain ⟨i1, i2⟩ := ih (fun e he => hd e (List.mem_cons_of_mem _ he)) e2 h2
          refine ⟨fun z hz => ?_, by rw [List.map_cons, List.map_cons, i2, r.1]⟩
          rcases List.mem_cons.mp hz with rfl | hz
          · rw [← r.1, ← r.2.1]
            exact ⟨RepD.nested I j h1 e1 rfl, hd _ List.mem_cons_self⟩
          · exact i1 z hz
    obtain ⟨k1, k2⟩ := key pr z4 hk hr
    exact ⟨o, es', ep, g1, g2, g3, g4, k1, by rw [k2]; exact z3⟩
  · clear hk hr g1 g2 g3 g4 z1 z3 z4 e
    induction pr with
    | nil => exact .nil
    | cons r _ ih => exact .cons ⟨r.1, r.2.2⟩ ih
theorem keyN_of {k : D} (h : keyN k = true) : ∃ l n, k = .tup l ∧ toNK k = some n ∧ n.depth ≤ 8 := by
  unfold keyN at h
  rw [Bool.and_eq_true] at h
  obtain ⟨h1, h2⟩ := h
  cases k <;> first | cases h1 | skip
  rename_i l
  split at h2
  · rename_i n e
    exact ⟨l, n, rfl, e, by simpa using h2⟩
  · cases h2
theorem all_empty {ks : List D} (h1 : ks.all keyK = true) (h2 : ks.all isTup = true) : ks = [] := by
  cases ks with
  | nil => rfl
  | cons a r =>
    rw [List.all_cons, Bool.and_eq_true] at h1 h2
    cases a <;> simp_all [keyK, toKey, isTup]
end
end L3

set_option Elab.async false
set_option linter.all false
set_option maxRecDepth 100000
set_option maxHeartbeats 1000000
/-! L3h: in, subscripts, slices, displays. -/
namespace L3
open PySem PySem.Spec PyProof.Rows L2

def inC (x c : D) : Option Bool := match c with
  | .lst l => if plain x && plains l && min (deps l) (dep x) ≤ 60 then some (l.any fun z => eqD z x) else none
  | .tup l => if plain x && plains l && min (deps l) (dep x) ≤ 60 then some (l.any fun z => eqD z x) else none
  | .dic ks vs => if keyOk ks x then some (dget ks vs x).isSome else none
  | .str z => match x with
    | .str y => if y.cps.size = 1 then some (decide (y.cps.toList.headD 0 ∈ z.cps.toList)) else none
    | _ => none
  | _ => none
def inD (x c : D) : Option D := (inC x c).map .bl
def ninD (x c : D) : Option D := (inC x c).map fun b => .bl (!b)
def subD' (c i : D) : Option D := match c with
  | .lst l => match i with | .int j => atI l j | _ => none
  | .tup l => match i with | .int j => atI l j | _ => none
  | .str z => match i with | .int j => if z.length ≤ maxLen then (atI z.cps.toList j).map fun c => .str ⟨#[c]⟩ else none | _ => none
  | .dic ks vs => if keyOk ks i then dget ks vs i else none
  | _ => none

section
variable {X : Cx} {ca : Ca} {Wx : WX} {Z S S1 S2 T : AS} {σ : L2.St} {H H1 H2 G : Hp} {ρ ρ1 ρ2 : Ro} {q q1 q2 q3 k k1 k2 : Bool} {a b c e : Expr} {es rest : List Expr} {fa fb fc : Ro → ER} {pos : Pos} {pins : List (Addr × Obj)} {s : Shared}
theorem any_eqv : {l : List D} → {p : List PyData} → {x : D} → {px : PyData} → toPs l = some p → toP x = some px → l.any (fun z => eqD z x) = p.any fun y => PyData.eqv y px
  | [], _, _, _, e, _ => by cases e; rfl
  | a :: r, _, x, px, e, ex => by
    obtain ⟨k, ks, e1, e2, rfl⟩ := toPs_cons e
    rw [List.any_cons, List.any_cons, eqD_eqv a x e1 ex, any_eqv e2 ex]
/-- a dict, borrowed, asked for a key -/
theorem dic_ask {ks vs : List D} {x : D} {a : Addr} {y : V} {u : Value} (hu : X.A.units + 64 < cLine) (I : Inv X pins σ H s) (h : DicAt X.prog X.w X.K ca (hid H T) H ks vs a) (hx : RepB X.prog X.w X.K ca (hid H T) H x y) (rx : RelV y u) (ok : keyOk ks x = true) :
    (∀ {Q : Value → Shared → Prop}, (∀ s', Inv X pins σ H s' → Q (.bool (dget ks vs x).isSome) s') → wpAny (model X.prog X.w) X.A (compareOp .In u (.ref a)) Q X.xe s) ∧
    (∀ {Q : Value → Shared → Prop}, (∀ s', Inv X pins σ H s' → Q (.bool (!(dget ks vs x).isSome)) s') → wpAny (model X.prog X.w) X.A (compareOp .NotIn u (.ref a)) Q X.xe s) ∧
    (∀ {Q : Value → Shared → Prop} {d : D}, dget ks vs x = some d → (∀ z w' s', RepD X.prog X.w X.K ca (hid H T) d z → RelV z w' → Inv X pins σ H s' → Q w' s') → wpAny (model X.prog X.w) X.A (getItem (.ref a) u) Q X.xe s) := by
  obtain ⟨xs, ys, h1, h2, hl, h3⟩ := h
  have hx' := hx.data hid_same
  have hu1 : X.A.units + 1 < cLine := by omega
  have okK : ks.all isTup = true → ks ≠ [] → keyN x = true := fun t n => by
    unfold keyOk at ok
    rw [Bool.or_eq_true, Bool.and_eq_true, Bool.and_eq_true] at ok
    rcases ok with ok | ok
    · exact absurd (all_empty ok.1 t) n
    · exact ok.2
  rcases h3 with ⟨kv, e1, nd, e2, e3⟩ | ⟨n0, es, e1, e2, e3, e4, e5⟩
  · -- ints and texts
    subst e2 e3
    have kk := keys_K h1
    by_cases n : kv = []
    · -- the empty dict: a key of any kind
      subst n
      have ks0 : ks = [] := by cases ks with | nil => rfl | cons a r => cases kk
      subst ks0
      have dn : dget [] vs x = none := by unfold dget; rfl
      rw [dn]
      obtain ⟨z, hd, vs', rel, dd⟩ := dk_rd I.hok (Rd.of e1)
      cases rel
      unfold keyOk at ok
      rw [Bool.or_eq_true, Bool.and_eq_true, Bool.and_eq_true] at ok
      rcases ok with ok | ok
      · obtain ⟨key, hk⟩ := Option.isSome_iff_exists.mp ok.2
        obtain rfl := rep_of_key hx' hk
        have g : DGet H a (kV key) (valV [] key) := DGet.k e1
        exact ⟨fun hq => d_in hu1 I g rx hq, fun hq => d_notIn hu1 I g rx hq, fun e => by cases e⟩
      · obtain ⟨l, nk, rfl, en, hdp⟩ := keyN_of ok.2
        obtain ⟨p, zs, rfl, q1, q2⟩ := hx'
        cases rx
        have his : (nestedKind X.prog X.w).is s.heap nk p := ⟨RepD.nested I (.tup l) (v := .ref p) ⟨p, zs, rfl, q1, q2⟩ en rfl, hdp⟩
        obtain ⟨o, es', ep, g1, g2, g3, _, g4, _⟩ := dd
        have g5 : es'.toList = [] := by
          generalize es'.toList = l at g4
          cases g4
          rfl
        have D0 : s.heap.DictOfH (nestedKind X.prog X.w) a [] := ⟨o, es', ep, g1, g2, g3, g5, (fun _ h => nomatch h), List.nodup_nil⟩
        have room : (nestedKind X.prog X.w).room X.A.in1 := by show X.A.units + 1 + 8 < cLine; omega
        exact ⟨fun hq => wpAny_in_heap room his hd D0 (hq _ (I.tok _)), fun hq => wpAny_notIn_heap room his hd D0 (hq _ (I.tok _)), fun e => by cases e⟩
    · have kN : ∃ key, toKey x = some key := by
        unfold keyOk at ok
        rw [Bool.or_eq_true, Bool.and_eq_true, Bool.and_eq_true] at ok
        rcases ok with ok | ok
        · exact Option.isSome_iff_exists.mp ok.2
        · exfalso
          cases kv with
          | nil => exact n rfl
          | cons p r =>
            cases ks with
            | nil => cases kk
            | cons a r' =>
              rw [List.map_cons, List.map_cons, List.cons.injEq] at kk
              have := ok.1
              rw [List.all_cons, Bool.and_eq_true] at this
              obtain ⟨l, nk, rfl, _⟩ := keyN_of this.1
              cases kk.1
      obtain ⟨key, hk⟩ := kN
      obtain rfl := rep_of_key hx' hk
      have g : DGet H a (kV key) (valV kv key) := DGet.k e1
      obtain ⟨dv1, dv2⟩ := dget_val (P := X.prog) (w := X.w) (K := X.K) (ca := ca) (G := hid H T) (kf := toKey) (fun h h' => eqD_key h h') hk kk h2
      have isS : (valV kv key).isSome = (dget ks vs x).isSome := by
        cases e : dget ks vs x with
        | none => rw [dv2 e]; rfl
        | some d => obtain ⟨v, ev, _⟩ := dv1 d e; rw [ev]; rfl
      refine ⟨fun hq => d_in hu1 I g rx (by rw [isS]; exact hq), fun hq => d_notIn hu1 I g rx (by rw [isS]; exact hq), fun e hq => ?_⟩
      obtain ⟨v, ev, rv⟩ := dv1 _ e
      rw [ev] at g
      exact d_getItem hu1 I g rx fun w' s' I' rw' => hq v w' s' rv rw' I'
  · obtain ⟨l, nk, rfl, en, hdp⟩ := keyN_of (okK e5 n0)
    obtain ⟨p, zs, rfl, q1, q2⟩ := hx'
    cases rx
    have his : (nestedKind X.prog X.w).is s.heap nk p := ⟨RepD.nested I (.tup l) (v := .ref p) ⟨p, zs, rfl, q1, q2⟩ en rfl, hdp⟩
    subst e3 e4
    obtain ⟨z1, z2, xs', pr, DD, kvr⟩ := ndo_keyed I e1 e2 (h1.mono hid_same)
    have room : (nestedKind X.prog X.w).room X.A.in1 := by show X.A.units + 1 + 8 < cLine; omega
    have kk := keys_N e2
    obtain ⟨dv1, dv2⟩ := dget_val (P := X.prog) (w := X.w) (K := X.K) (ca := ca) (G := hid H T) (kf := toNK) (kv := es.map fun e => (e.1, e.2.2)) (fun h h' => eqD_nkey h h') en (by rw [kk, List.map_map, List.map_map]; rfl) (by rw [List.map_map]; exact h2)
    have rel := kvr.val nk
    have isS : (valueAt (pairsH xs') nk).isSome = (dget ks vs (.tup l)).isSome := by
      rw [← rel.isSome_eq]
      cases e : dget ks vs (.tup l) with
      | none => rw [dv2 e]; rfl
      | some d => obtain ⟨v, ev, _⟩ := dv1 d e; rw [ev]; rfl
    refine ⟨fun hq => in_keyed room his z2 ⟨xs', DD, rfl⟩ (by rw [isS]; exact hq _ (I.tok _)), fun hq => notIn_keyed room his z2 ⟨xs', DD, rfl⟩ (by rw [isS]; exact hq _ (I.tok _)), fun e hq => ?_⟩
    obtain ⟨v, ev, rv⟩ := dv1 _ e
    rw [ev] at rel
    cases e' : valueAt (pairsH xs') nk with
    | none => rw [e'] at rel; exact rel.elim
    | some w' =>
      rw [e'] at rel
      exact getItem_keyed room his ⟨xs', DD, rfl⟩ e' (hq v w' _ rv rel (I.tok _))
theorem reads_of {d : D} {v : V} {u : Value} {p : PyData} (I : Inv X pins σ H s) (h : RepB X.prog X.w X.K ca (hid H T) H d v) (e : toP d = some p) (r : RelV v u) : (∃ as, Reads s.heap u p as) ∧ p.canLay0 = true := by
  obtain ⟨a1, a2⟩ := (h.data hid_same).dp d e
  exact ⟨Dp.reads I _ _ u a1 r, a2⟩
theorem o_in_core {x y : V} {u v : Value} {da db : D} {bb : Bool} (hu : X.A.units + 64 < cLine) (I : Inv X pins σ H s) (rx : RelV x u) (ry : RelV y v) (hx : RepB X.prog X.w X.K ca (hid H T) H da x) (hy : RepB X.prog X.w X.K ca (hid H T) H db y) (e : inC da db = some bb) :
    (∀ {Q : Value → Shared → Prop}, (∀ s', Inv X pins σ H s' → Q (.bool bb) s') → wpAny (model X.prog X.w) X.A (compareOp .In u v) Q X.xe s) ∧
    (∀ {Q : Value → Shared → Prop}, (∀ s', Inv X pins σ H s' → Q (.bool (!bb)) s') → wpAny (model X.prog X.w) X.A (compareOp .NotIn u v) Q X.xe s) := by
  unfold inC at e
  split at e
  · split at e
    · rename_i l h
      cases e
      simp only [Bool.and_eq_true, decide_eq_true_eq] at h
      obtain ⟨⟨h1, h2⟩, h3⟩ := h
      obtain ⟨p, ep, dp⟩ := toP_of_plain da h1
      obtain ⟨p', ep', dp'⟩ := toPs_of_plain l h2
      obtain ⟨⟨as, r1⟩, c1⟩ := reads_of I hx ep rx
      obtain ⟨⟨bs, r2⟩, c2⟩ := reads_of I hy (p := .list p') (by unfold toP; rw [ep']; rfl) ry
      rw [any_eqv ep' ep]
      exact ⟨fun hq => SeqAt.in_list_reads r2 r1 c2 c1 (by rw [dp, dp']; omega) (hq _ I), fun hq => SeqAt.notIn_list_reads r2 r1 c2 c1 (by rw [dp, dp']; omega) (hq _ I)⟩
    · cases e
  · split at e
    · rename_i l h
      cases e
      simp only [Bool.and_eq_true, decide_eq_true_eq] at h
      obtain ⟨⟨h1, h2⟩, h3⟩ := h
      obtain ⟨p, ep, dp⟩ := toP_of_plain da h1
      obtain ⟨p', ep', dp'⟩ := toPs_of_plain l h2
      obtain ⟨⟨as, r1⟩, c1⟩ := reads_of I hx ep rx
      obtain ⟨⟨bs, r2⟩, c2⟩ := reads_of I hy (p := .tuple p') (by unfold toP; rw [ep']; rfl) ry
      rw [any_eqv ep' ep]
      exact ⟨fun hq => SeqAt.in_tuple_reads r2 r1 c2 c1 (by rw [dp, dp']; omega) (hq _ I), fun hq => SeqAt.notIn_tuple_reads r2 r1 c2 c1 (by rw [dp, dp']; omega) (hq _ I)⟩
    · cases e
  · split at e
    · rename_i ks vs ok
      cases e
      obtain ⟨a, rfl, hd⟩ := hy
      obtain rfl : v = Value.ref a := ry
      obtain ⟨z1, z2, _⟩ := dic_ask hu I hd hx rx ok
      exact ⟨z1, z2⟩
    · cases e
  · split at e
    · split at e
      · rename_i z yy hsz
        cases e
        obtain ⟨rfl, _⟩ := hx
        obtain ⟨rfl, _⟩ := hy
        obtain ⟨⟨l⟩⟩ := yy
        have : ∃ c, l = [c] := by
          cases l with
          | nil => cases hsz
          | cons c r => cases r with
            | nil => exact ⟨c, rfl⟩
            | cons _ _ => simp at hsz
        obtain ⟨c, rfl⟩ := this
        exact ⟨fun hq => thn (op_in_sign pins s σ H _ _ u v (fun z H' => z = .bl (decide (c ∈ _)) ∧ H' = H) I rx ry ⟨c, _, rfl, rfl, rfl, rfl⟩) (fun w' s' ⟨z, H', I', r', ez, eH⟩ => by subst ez eH; cases r'; exact hq s' I'),
          fun hq => thn (op_notIn_sign pins s σ H _ _ u v (fun z H' => z = .bl (!decide (c ∈ _)) ∧ H' = H) I rx ry ⟨c, _, rfl, rfl, rfl, rfl⟩) (fun w' s' ⟨z, H', I', r', ez, eH⟩ => by subst ez eH; cases r'; exact hq s' I')⟩
      · cases e
    · cases e
  · cases e
theorem o_in (hu : X.A.units + 64 < cLine) : Op2 X ca (compareOp .In) inD := by
  intro pins s σ H T x y u v da db d Q hT I rx ry hx hy e hq
  obtain ⟨b, e1, rfl⟩ := map_some e
  exact (o_in_core hu I rx ry hx hy e1).1 fun s' I' => ⟨.bl b, H, I', rfl, hq _ H (Same.refl _) rfl⟩
theorem o_notin (hu : X.A.units + 64 < cLine) : Op2 X ca (compareOp .NotIn) ninD := by
  intro pins s σ H T x y u v da db d Q hT I rx ry hx hy e hq
  obtain ⟨b, e1, rfl⟩ := map_some e
  exact (o_in_core hu I rx ry hx hy e1).2 fun s' I' => ⟨.bl (!b), H, I', rfl, hq _ H (Same.refl _) rfl⟩
end
end L3

set_option Elab.async false
set_option linter.all false
set_option maxRecDepth 100000
set_option maxHeartbeats 1000000
/-! L3i: subscripts, slices, displays, chains. -/
namespace L3
open PySem PySem.Spec PyProof.Rows L2

/-! ### lists of values -/
inductive LR where
  | ok (ds : List D) (ρ : Ro)
  | ex (x : Ex) (ρ : Ro)
  | no
def l_nil : Ro → LR := fun ρ => .ok [] ρ
def l_cons (fa : Ro → ER) (fr : Ro → LR) : Ro → LR := fun ρ => match fa ρ with
  | .ok w ρ1 => match fr ρ1 with
    | .ok ds ρ2 => .ok (frz w :: ds) ρ2
    | .ex x ρ2 => .ex x ρ2
    | .no => .no
  | .ex x ρ1 => .ex x ρ1
  | .no => .no
def seqD : D → Option (List D)
  | .tup l => some l
  | .lst l => some l
  | _ => none
def l_star (fa : Ro → ER) (fr : Ro → LR) : Ro → LR := fun ρ => match fa ρ with
  | .ok w ρ1 => match seqD (frz w) with
    | some l => match fr ρ1 with
      | .ok ds ρ2 => .ok (l ++ ds) ρ2
      | .ex x ρ2 => .ex x ρ2
      | .no => .no
    | none => .no
  | .ex x ρ1 => .ex x ρ1
  | .no => .no
def c_tup (f : Ro → LR) : Ro → ER := fun ρ => match f ρ with
  | .ok ds ρ1 => if ds.length ≤ maxLen then .ok (.d (.tup ds)) ρ1 else .no
  | .ex x ρ1 => .ex x ρ1
  | .no => .no
def c_lst (f : Ro → LR) : Ro → ER := fun ρ => match f ρ with
  | .ok ds ρ1 => if ds.length ≤ maxLen then .ok (.lst ds) ρ1 else .no
  | .ex x ρ1 => .ex x ρ1
  | .no => .no
def cutD {α : Type} (xs : List α) (lo hi : Option Int) : List α := (xs.drop (HT.sIx xs.length 0 lo)).take (HT.sIx xs.length xs.length hi - HT.sIx xs.length 0 lo)
def sliceD (c : D) (lo hi : Option Int) : Option D := match c with
  | .lst l => some (.lst (cutD l lo hi))
  | .tup l => some (.tup (cutD l lo hi))
  | .str z => if z.length ≤ maxLen && PyData.strOk (cutS z lo hi) then some (.str (cutS z lo hi)) else none
  | _ => none
def negD : D → Option D
  | .int i => some (.int (-i))
  | _ => none
def c_op1 (g : D → Option D) (fa : Ro → ER) : Ro → ER := fun ρ => (fa ρ).bind fun w ρ1 => match g (frz w) with
  | some d => .ok (.d d) ρ1
  | none => .no
/-- a chain of two comparisons -/
def c_chain (g g' : D → D → Option D) (fa fb fc : Ro → ER) : Ro → ER := fun ρ => (fa ρ).bind fun x ρ1 => (fb ρ1).bind fun y ρ2 => match g (frz x) (frz y) with
  | some (.bl true) => (fc ρ2).bind fun z ρ3 => match g' (frz y) (frz z) with
    | some d => .ok (.d d) ρ3
    | none => .no
  | some (.bl false) => .ok (.d (.bl false)) ρ2
  | _ => .no

section
variable {X : Cx} {ca : Ca} {Wx : WX} {Z S S1 S2 T : AS} {σ : L2.St} {H H1 H2 G : Hp} {ρ ρ1 ρ2 : Ro} {q q1 q2 q3 k k1 k2 k3 : Bool} {a b c e : Expr} {es rest : List Expr} {fa fb fc : Ro → ER} {fr fl : Ro → LR} {pos p : Pos} {pins : List (Addr × Obj)} {s : Shared}
theorem RepKd.d {d : D} {v : V} (h : RepKd X ca true G H d v) : RepD X.prog X.w X.K ca G d v := by
  unfold RepKd at h; rw [if_pos rfl] at h; exact h
theorem RepKd.of {d : D} {v : V} (h : RepD X.prog X.w X.K ca G d v) : RepKd X ca true G H d v := by
  unfold RepKd; rw [if_pos rfl]; exact h
def OKL (X : Cx) (ca : Ca) (Z S : AS) (H : Hp) (q : Bool) (σ : L2.St) (ds : List D) (ρ' : Ro) (vs : List V) (H' : Hp) : Prop :=
  ∃ S', Nx S H q S' H' ∧ Fr X ca Z S' ρ' σ H' ∧ RepDs X.prog X.w X.K ca (hid H' (un Z S')) ds vs
def PoL (X : Cx) (ca : Ca) (Wx : WX) (q : Bool) (Z S : AS) (σ : L2.St) (H : Hp) (r : LR) (Q : List V → Hp → Prop) : Prop := match r with
  | .ok ds ρ' => ∀ vs H', OKL X ca Z S H q σ ds ρ' vs H' → Q vs H'
  | .ex x ρ' => ∀ cls d H', EXE X ca Z S H σ x ρ' cls d H' → Wx cls d σ H'
  | .no => False
structure DL (X : Cx) (ca : Ca) (Wx : WX) (q : Bool) (es : List Expr) (f : Ro → LR) : Prop where
  run : PA X es fun σ H Q => ∃ Z S ρ, Fr X ca Z S ρ σ H ∧ PoL X ca Wx q Z S σ H (f ρ) Q
theorem _root_.L2.PA.imp {t t' : TA} (h : PA X es t) (i : ∀ σ H Q, t' σ H Q → t σ H Q) : PA X es t' := ⟨fun pos pins s σ H Q I q => h.run pos pins s σ H Q I (i _ _ _ q)⟩
theorem _root_.L2.PE.imp {t t' : TE} (h : PE X e t) (i : ∀ σ H Q, t' σ H Q → t σ H Q) : PE X e t' := ⟨fun pins s σ H Q I q => h.run pins s σ H Q I (i _ _ _ q)⟩
theorem PoL.shift {r : LR} {Q : List V → Hp → Prop} (h : PoL X ca Wx (q && q1) Z S σ H r Q) (nx : Nx S H q S1 H1) : PoL X ca Wx q1 Z S1 σ H1 r Q := by
  cases r with
  | ok w ρ' => exact fun v H' ⟨S', n, r⟩ => h v H' ⟨S', nx.trans n, r⟩
  | ex x ρ' => exact fun c d H' ⟨S', n, r⟩ => h c d H' ⟨S', (nx.trans n).weak (fun z => nomatch z), r⟩
  | no => exact h
theorem dl_nil : DL X ca Wx true [] l_nil := ⟨pa_nil.imp fun σ H Q ⟨Z, S, ρ, fr, po⟩ => po [] H ⟨S, Nx.refl fr.as, fr, rfl⟩⟩
theorem dl_cons (ha : DB X ca Wx q1 true a fa) (hr : DL X ca Wx q2 rest fr) (hs : starEach (a :: rest) X.env = (false, eval a X.env) :: starEach rest X.env := by rfl) : DL X ca Wx (q1 && q2) (a :: rest) (l_cons fa fr) := by
  refine ⟨(pa_cons ha.run hr.run hs).imp fun σ H Q ⟨Z, S, ρ, f, po⟩ => ?_⟩
  refine ⟨Z, S, ρ, f, ?_⟩
  unfold l_cons at po
  cases e : fa ρ with
  | no => rw [e] at po; exact po.elim
  | ex x ρ1 => rw [e] at po; exact po
  | ok w ρ1 =>
    rw [e] at po
    refine fun v H1 o => ?_
    obtain ⟨S1, nx, fr1, rp⟩ := o
    refine ⟨Z, S1, ρ1, fr1, ?_⟩
    simp only at po
    cases e2 : fr ρ1 with
    | no => rw [e2] at po; exact po.elim
    | ex x ρ2 =>
      rw [e2] at po
      exact (show PoL X ca Wx (q1 && q2) Z S σ H (.ex x ρ2) Q from po).shift nx
    | ok ds ρ2 =>
      rw [e2] at po
      exact fun vs H2 ⟨S2, nx2, fr2, rs⟩ => po (v :: vs) H2 ⟨S2, nx.trans nx2, fr2, v, vs, rfl, rp.d.mono nx2.hid, rs⟩
theorem dl_star (ha : DB X ca Wx q1 true a fa) (hr : DL X ca Wx q2 rest fr) : DL X ca Wx (q1 && q2) (.Starred a p :: rest) (l_star fa fr) := by
  refine ⟨L2.PA.imp (StX.pa_star ha.run hr.run) fun σ H Q ⟨Z, S, ρ, f, po⟩ => ?_⟩
  refine ⟨Z, S, ρ, f, ?_⟩
  unfold l_star at po
  cases e : fa ρ with
  | no => rw [e] at po; exact po.elim
  | ex x ρ1 => rw [e] at po; exact po
  | ok w ρ1 =>
    rw [e] at po
    refine fun v H1 o => ?_
    obtain ⟨S1, nx, fr1, rp⟩ := o
    simp only at po
    have rp := rp.d
    have hq : ∀ l, seqD (frz w) = some l → ∃ p xs, v = V.ref p ∧ (SqT X.K (hid H1 (un Z S1)) p xs ∨ SqL X.K (hid H1 (un Z S1)) p xs) ∧ RepDs X.prog X.w X.K ca (hid H1 (un Z S1)) l xs := fun l el => by
      cases hw : frz w <;> rw [hw] at el rp <;> first | cases el | skip
      · obtain ⟨p, xs, ev, h1, h2⟩ := rp; exact ⟨p, xs, ev, .inl h1, h2⟩
      · obtain ⟨p, xs, ev, h1, h2⟩ := rp; exact ⟨p, xs, ev, .inr h1, h2⟩
    cases el : seqD (frz w) with
    | none => rw [el] at po; exact po.elim
    | some l =>
      rw [el] at po
      simp only at po
      obtain ⟨p, xs, ev, h1, h2⟩ := hq l el
      refine ⟨p, xs, ev, h1.imp (SqT.mono hid_same) (SqL.mono hid_same), Z, S1, ρ1, fr1, ?_⟩
      cases e2 : fr ρ1 with
      | no => rw [e2] at po; exact po.elim
      | ex x ρ2 =>
        rw [e2] at po
        exact (show PoL X ca Wx (q1 && q2) Z S σ H (.ex x ρ2) Q from po).shift nx
      | ok ds ρ2 =>
        rw [e2] at po
        exact fun vs H2 ⟨S2, nx2, fr2, rs⟩ => po (xs ++ vs) H2 ⟨S2, nx.trans nx2, fr2, (h2.mono nx2.hid).append rs⟩
theorem db_tup {x1} (h : DL X ca Wx q es fl) : DB X ca Wx q true (.Tuple es x1 pos) (c_tup fl) := by
  refine ⟨(pe_tup h.run).imp fun σ H Q ⟨Z, S, ρ, f, po⟩ => ⟨Z, S, ρ, f, ?_⟩⟩
  unfold c_tup at po
  cases e : fl ρ with
  | no => rw [e] at po; exact po.elim
  | ex x ρ1 => rw [e] at po; exact po
  | ok ds ρ1 =>
    rw [e] at po
    simp only at po
    split at po
    · rename_i hl
      rw [maxLen_eq] at hl
      intro vs H1 ⟨S1, nx, fr1, rs⟩
      refine ⟨by rw [← rs.length]; exact hl, fun p hp => po _ _ ⟨S1, Nx.weak (q := q && true) (nx.trans (Nx.same (same_new hp) fr1.as)) (fun z => by rw [z]; rfl), fr1.same (same_new hp), RepKd.of (rep_new_tup fr1.al hp rs)⟩⟩
    · exact po.elim
theorem de_lst (h : DL X ca Wx q es fl) : DE X ca Wx q (.List es pos) (c_lst fl) := by
  refine ⟨(pe_lst h.run).imp fun σ H Q ⟨Z, S, ρ, f, po⟩ => ⟨Z, S, ρ, f, ?_⟩⟩
  unfold c_lst at po
  cases e : fl ρ with
  | no => rw [e] at po; exact po.elim
  | ex x ρ1 => rw [e] at po; exact po
  | ok ds ρ1 =>
    rw [e] at po
    simp only at po
    split at po
    · rename_i hl
      rw [maxLen_eq] at hl
      intro vs H1 ⟨S1, nx, fr1, rs⟩
      refine ⟨by rw [← rs.length]; exact hl, fun p hp => po _ _ ?_⟩
      have sm : Same H1 (upd H1 p (.lst vs)) := same_new hp
      have hps : ¬ S1 p := fun z => fr1.as p z hp
      have hpz : ¬ Z p := fun z => fr1.az p z hp
      have hg : Same (hid H1 (un Z S1)) (hid (upd H1 p (.lst vs)) (un Z (un S1 fun a => a = p))) := fun a o e => by
        rw [hid_some] at *
        refine ⟨sm a o e.1, fun z => ?_⟩
        rcases z with z | z | z
        · exact e.2 (.inl z)
        · exact e.2 (.inr z)
        · rw [z, hp] at e; cases e.1
      refine ⟨S1, fun a => a = p, ⟨fun b o hb e => sm b o (nx.keep b o hb e), fun b z => ?_, fun b z => ?_, fun z => (nx.qt z).trans sm⟩, fun a z y => hps (y ▸ z), fr1.rep.mono hg (fun _ z => z) (fun a o _ e => sm a o e), p, vs, rfl, rfl, upd_same, rs.mono hg⟩
      · rcases z with z | z
        · exact nx.own b z
        · by_cases hs : S p
          · rw [z]; exact .inl hs
          · rw [z]; exact .inr (nx.free hp hs)
      · rcases z with z | z
        · exact Same.ne sm (fr1.as b z)
        · rw [z, upd_same]; simp
    · exact po.elim

/-! ### subscripts -/
theorem strOk_one {z : Str} {i : Int} {c : Nat} (h : PyData.strOk z = true) (e : atI z.cps.toList i = some c) : PyData.strOk ⟨#[c]⟩ = true := by
  obtain ⟨j, _, h2, _⟩ := atI_get e
  have m : c ∈ z.cps.toList := List.mem_of_getElem? h2
  unfold PyData.strOk at *
  rw [Array.all_eq_true'] at h
  have := h c (by simpa using m)
  simpa using this
theorem atI_rep {l : List D} {xs : List V} {i : Int} {d : D} (r : RepDs X.prog X.w X.K ca G l xs) (e : atI l i = some d) : ∃ v, atI xs i = some v ∧ RepD X.prog X.w X.K ca G d v := by
  unfold atI at *
  rw [← r.length]
  cases h : ixN l.length i with
  | none => rw [h] at e; cases e
  | some j =>
    rw [h] at e
    exact r.get (i := j) e
theorem db_sub (hu : X.A.units + 64 < cLine) (ha : DB X ca Wx q1 k1 a fa) (hb : DB X ca Wx q2 k2 b fb) (hq : k1 = true ∨ q2 = true := by first | exact .inl rfl | exact .inr rfl) (hs : PlainIx b := by exact fun _ _ => rfl) :
    DB X ca Wx (q1 && q2) true (.Subscript a b pos) (c_op2 subD' fa fb) := by
  refine ⟨⟨fun pins s σ H Q I ⟨Z, S, ρ, fr, po⟩ => Subscript_ ?_⟩⟩
  refine ha.bindB I fr po fun w1 ρ1 v1 u1 s1 H1 I1 r1 o1 po1 => ?_
  obtain ⟨S1, nx1, fr1, rp1⟩ := o1
  refine hb.bindB I1 fr1 (po1.shift nx1) fun w2 ρ2 v2 u2 s2 H2 I2 r2 o2 po2 => ?_
  obtain ⟨S2, nx2, fr2, rp2⟩ := o2
  have b1 := (rp1.keep nx2 hq).bor hid_same
  have b2 := rp2.bor hid_same
  cases e : subD' (frz w1) (frz w2) with
  | none => rw [e] at po2; exact po2.elim
  | some d =>
    rw [e] at po2
    have fin : ∀ z, RepD X.prog X.w X.K ca (hid H2 (un Z S2)) d z → Q z H2 := fun z rd => po2 z H2 ⟨S2, nx2, fr2, RepKd.of rd⟩
    generalize frz w1 = c at e b1
    generalize frz w2 = i at e b2
    unfold subD' at e
    split at e
    · split at e
      · obtain ⟨p, xs, rfl, g1, g2⟩ := b1
        obtain ⟨v, ev, rv⟩ := atI_rep g2 e
        exact ix_list a b pins s2 σ H2 _ v2 u1 u2 Q I2 r1 r2 ⟨p, xs, _, v, rfl, b2, g1, ev, fin v rv⟩ (hs _ _)
      · cases e
    · split at e
      · obtain ⟨p, xs, rfl, g1, g2⟩ := b1
        obtain ⟨v, ev, rv⟩ := atI_rep g2 e
        exact ix_tup a b pins s2 σ H2 _ v2 u1 u2 Q I2 r1 r2 ⟨p, xs, _, v, rfl, b2, SqT.mono hid_same g1, ev, fin v rv⟩ (hs _ _)
      · cases e
    · split at e
      · split at e
        · rename_i hl
          obtain ⟨ch, ec, rfl⟩ := map_some e
          obtain ⟨rfl, ok⟩ := b1
          rw [maxLen_eq] at hl
          exact ix_str a b pins s2 σ H2 _ v2 u1 u2 Q I2 r1 r2 ⟨_, _, ch, rfl, b2, hl, ec, fin _ ⟨rfl, strOk_one ok ec⟩⟩ (hs _ _)
        · cases e
      · cases e
    · split at e
      · rename_i ok
        obtain ⟨p, rfl, dd⟩ := b1
        obtain rfl : u1 = Value.ref p := r1
        have hT : s2.TypeIs (.ref p) "dict" := by
          obtain ⟨xs, ys, _, _, _, h3⟩ := dd
          rcases h3 with ⟨kv, e1, _⟩ | ⟨_, es, e1, _⟩
          · obtain ⟨z, hd, vs', rel, dd⟩ := dk_rd I2.hok (Rd.of e1)
            exact dd.typeIs
          · obtain ⟨_, _, _, _, _, _, o, _, _, g1, g2, _⟩ := ndo_dict I2.hok e1
            exact ⟨o, g1, g2.1⟩
        unfold subscriptTail
        refine wpAny_bind ?_
        rw [getitemInPython_of_ne hT.not_modules]
        refine wpAny_bind (wpAny_specialOf hT PySem.F.slot_dict_getitem.lookup ?_)
        have fin2 : wpAny (model X.prog X.w) X.A (subscripted b false (.ref p) u2) (fun r s₃ => wpAny (model X.prog X.w) X.A (letTemporaryGo a (.ref p) r >>= fun _ => pure r) (EP X pins σ Q) X.xe s₃) X.xe s2 := by
          rw [hs]
          exact wpAny_operating (wpAny_mono ((dic_ask hu I2 dd b2 r2 ok).2.2 (Q := EP X pins σ Q) e fun z w' s' rd rz I' => ⟨z, H2, I', rz, fin z rd⟩) (fun r s₃ h₃ => wpAny_bind (wpAny_letTemporaryGo (wpAny_pure h₃))) fun _ _ x => x)
        first
          | exact wpAny_bind (wpAny_pure (wpAny_bind fin2))
          | exact wpAny_bind fin2
          | exact wpAny_pure (wpAny_bind fin2)
      · cases e
    · cases e
end
end L3

set_option Elab.async false
set_option linter.all false
set_option maxRecDepth 100000
set_option maxHeartbeats 1000000
/-! L3j: slices, minus, chains, products; fields. -/
namespace L3
open PySem PySem.Spec PyProof.Rows L2
/-- a written part of a slice -/
inductive PR where
  | ok (i : Option Int) (ρ : Ro)
  | ex (x : Ex) (ρ : Ro)
  | no
def p_none : Ro → PR := fun ρ => .ok none ρ
def p_some (fa : Ro → ER) : Ro → PR := fun ρ => match fa ρ with
  | .ok w ρ1 => match frz w with
    | .int i => .ok (some i) ρ1
    | _ => .no
  | .ex x ρ1 => .ex x ρ1
  | .no => .no
def c_slice (fa : Ro → ER) (fl fh : Ro → PR) : Ro → ER := fun ρ => (fa ρ).bind fun w ρ1 => match fl ρ1 with
  | .ok lo ρ2 => match fh ρ2 with
    | .ok hi ρ3 => match sliceD (frz w) lo hi with
      | some (.lst l) => .ok (.lst l) ρ3
      | some d => .ok (.d d) ρ3
      | none => .no
    | .ex x ρ3 => .ex x ρ3
    | .no => .no
  | .ex x ρ2 => .ex x ρ2
  | .no => .no
def getf : List Str → List D → Str → Option D
  | f :: r, d :: s, g => if g = f then some d else getf r s g
  | _, _, _ => none
def fldD (g : Str) : D → Option D
  | .ins _ fs vs => getf fs vs g
  | _ => none
section
variable {X : Cx} {ca : Ca} {Wx : WX} {Z S S1 S2 T : AS} {σ : L2.St} {H H1 H2 G : Hp} {ρ ρ1 ρ2 : Ro} {q q1 q2 q3 k k1 k2 k3 : Bool} {a b c e : Expr} {lo hi : Option Expr} {es rest : List Expr} {fa fb fc : Ro → ER} {fl fh : Ro → PR} {pos p p2 : Pos} {pins : List (Addr × Obj)} {s : Shared}
def PoP (X : Cx) (ca : Ca) (Wx : WX) (q : Bool) (Z S : AS) (σ : L2.St) (H : Hp) (r : PR) (Q : Option Int → Hp → Prop) : Prop := match r with
  | .ok i ρ' => ∀ H', OKT X ca Z S H q σ ρ' H' → Q i H'
  | .ex x ρ' => ∀ cls d H', EXE X ca Z S H σ x ρ' cls d H' → Wx cls d σ H'
  | .no => False
structure DP (X : Cx) (ca : Ca) (Wx : WX) (q : Bool) (o : Option Expr) (f : Ro → PR) : Prop where
  run : PO X o fun σ H Q => ∃ Z S ρ, Fr X ca Z S ρ σ H ∧ PoP X ca Wx q Z S σ H (f ρ) Q
theorem _root_.L2.PO.imp {o : Option Expr} {t t' : TO} (h : PO X o t) (i : ∀ σ H Q, t' σ H Q → t σ H Q) : PO X o t' := ⟨fun pins s σ H Q I q => h.run pins s σ H Q I (i _ _ _ q)⟩
theorem PoP.shift {r : PR} {Q : Option Int → Hp → Prop} (h : PoP X ca Wx (q && q1) Z S σ H r Q) (nx : Nx S H q S1 H1) : PoP X ca Wx q1 Z S1 σ H1 r Q := by
  cases r with
  | ok w ρ' => exact fun H' ⟨S', n, r⟩ => h H' ⟨S', nx.trans n, r⟩
  | ex x ρ' => exact fun c d H' ⟨S', n, r⟩ => h c d H' ⟨S', (nx.trans n).weak (fun z => nomatch z), r⟩
  | no => exact h
theorem dp_none : DP X ca Wx true none p_none := ⟨po_none.imp fun σ H Q ⟨Z, S, ρ, fr, po⟩ => po H ⟨S, Nx.refl fr.as, fr⟩⟩
theorem dp_some (ha : DB X ca Wx q k a fa) : DP X ca Wx q (some a) (p_some fa) := by
  refine ⟨(po_some ha.run).imp fun σ H Q ⟨Z, S, ρ, f, po⟩ => ⟨Z, S, ρ, f, ?_⟩⟩
  unfold p_some at po
  cases e : fa ρ with
  | no => rw [e] at po; exact po.elim
  | ex x ρ1 => rw [e] at po; exact po
  | ok w ρ1 =>
    rw [e] at po
    intro v H1 ⟨S1, nx, fr1, rp⟩
    have rp := rp.bor hid_same
    simp only at po
    split at po
    · rename_i i ew
      rw [ew] at rp
      exact ⟨i, rp, po H1 ⟨S1, nx, fr1⟩⟩
    · exact po.elim
theorem cutV_rep {l : List D} {xs : List V} (r : RepDs X.prog X.w X.K ca G l xs) (lo hi : Option Int) : RepDs X.prog X.w X.K ca G (cutD l lo hi) (cutV xs lo hi) := by
  unfold cutD cutV
  rw [← r.length]
  exact (r.drop _).take _
theorem cut_whole {l : List D} {lo hi : Option Int} (h : HT.sIx l.length 0 lo = 0 ∧ HT.sIx l.length l.length hi = l.length) : cutD l lo hi = l := by
  unfold cutD
  rw [h.1, h.2]
  simp
/-- a new list, owned -/
theorem oke_lst {ds : List D} {vs : List V} {p : Addr} (nx : Nx S H q S1 H1) (fr1 : Fr X ca Z S1 ρ1 σ H1) (rs : RepDs X.prog X.w X.K ca (hid H1 (un Z S1)) ds vs) (hp : H1 p = none) : OKE X ca Z S H q σ (.lst ds) ρ1 (.ref p) (upd H1 p (.lst vs)) := by
  have sm : Same H1 (upd H1 p (.lst vs)) := same_new hp
  have hps : ¬ S1 p := fun z => fr1.as p z hp
  have hpz : ¬ Z p := fun z => fr1.az p z hp
  have hg : Same (hid H1 (un Z S1)) (hid (upd H1 p (.lst vs)) (un Z (un S1 fun a => a = p))) := fun a o e => by
    rw [hid_some] at *
    refine ⟨sm a o e.1, fun z => ?_⟩
    rcases z with z | z | z
    · exact e.2 (.inl z)
    · exact e.2 (.inr z)
    · rw [z, hp] at e; cases e.1
  refine ⟨S1, fun a => a = p, ⟨fun b o hb e => sm b o (nx.keep b o hb e), fun b z => ?_, fun b z => ?_, fun z => (nx.qt z).trans sm⟩, fun a z y => hps (y ▸ z), fr1.rep.mono hg (fun _ z => z) (fun a o _ e => sm a o e), p, vs, rfl, rfl, upd_same, rs.mono hg⟩
  · rcases z with z | z
    · exact nx.own b z
    · by_cases hs : S p
      · rw [z]; exact .inl hs
      · rw [z]; exact .inr (nx.free hp hs)
  · rcases z with z | z
    · exact Same.ne sm (fr1.as b z)
    · rw [z, upd_same]; simp
theorem de_slice (ha : DB X ca Wx q1 k a fa) (hl : DP X ca Wx q2 lo fl) (hh : DP X ca Wx q3 hi fh) (hq : k = true ∨ (q2 = true ∧ q3 = true) := by first | exact .inl rfl | exact .inr ⟨rfl, rfl⟩) : DE X ca Wx (q1 && (q2 && q3)) (.Subscript a (.Slice lo hi none p2) pos) (c_slice fa fl fh) := by
  refine ⟨(pe_slice ((sl_list (X := X)).or ((sl_tupA (X := X)).or sl_str)) ha.run hl.run hh.run).imp fun σ H Q ⟨Z, S, ρ, f, po⟩ => ⟨Z, S, ρ, f, ?_⟩⟩
  unfold c_slice at po
  cases e : fa ρ with
  | no => rw [e] at po; exact po.elim
  | ex x ρ1 => rw [e] at po; exact po
  | ok w ρ1 =>
    rw [e] at po
    intro v H1 ⟨S1, nx1, fr1, rp⟩
    refine ⟨Z, S1, ρ1, fr1, ?_⟩
    simp only [ER.bind] at po
    cases e2 : fl ρ1 with
    | no => rw [e2] at po; exact po.elim
    | ex x ρ2 =>
      rw [e2] at po
      exact (show PoE X ca Wx (q1 && (q2 && q3)) Z S σ H (.ex x ρ2) Q from po).shift nx1
    | ok lo' ρ2 =>
      rw [e2] at po
      intro H2 ⟨S2, nx2, fr2⟩
      refine ⟨Z, S2, ρ2, fr2, ?_⟩
      simp only at po
      cases e3 : fh ρ2 with
      | no => rw [e3] at po; exact po.elim
      | ex x ρ3 =>
        rw [e3] at po
        exact ((show PoE X ca Wx (q1 && (q2 && q3)) Z S σ H (.ex x ρ3) Q from po).shift nx1).shift nx2
      | ok hi' ρ3 =>
        rw [e3] at po
        intro H3 ⟨S3, nx3, fr3⟩
        have r2 := rp.keep nx2 (hq.imp id And.left)
        have r3 := (r2.keep nx3 (hq.imp id And.right)).bor hid_same
        have nxt : Nx S H (q1 && (q2 && q3)) S3 H3 := (nx1.trans (nx2.trans nx3))
        simp only at po
        generalize frz w = c at po r3
        cases c with
        | lst l =>
          obtain ⟨p, xs, rfl, g1, g2⟩ := r3
          exact .inl ⟨p, xs, rfl, g1, fun z hz => po _ _ (oke_lst nxt fr3 (cutV_rep g2 _ _) hz)⟩
        | tup l =>
          obtain ⟨p, xs, rfl, g1, g2⟩ := r3
          refine .inr (.inl ⟨p, xs, rfl, SqT.mono hid_same g1, fun hw => ?_, fun hw z hz => ?_⟩)
          · rw [← g2.length] at hw
            refine po _ _ (OKB.toE ⟨S3, nxt, fr3, RepKd.of ?_⟩)
            show RepD _ _ _ _ _ (.tup (cutD l lo' hi')) _
            rw [cut_whole hw]
            exact ⟨p, xs, rfl, g1, g2⟩
          · exact po _ _ (OKB.toE ⟨S3, Nx.weak (q := (q1 && (q2 && q3)) && true) (nxt.trans (Nx.same (same_new hz) fr3.as)) (fun z => by rw [z]; rfl), fr3.same (same_new hz), RepKd.of (rep_new_tup fr3.al hz (cutV_rep g2 _ _))⟩)
        | str z =>
          obtain ⟨rfl, ok⟩ := r3
          have po' : PoE X ca Wx (q1 && (q2 && q3)) Z S σ H (match (if z.length ≤ maxLen && PyData.strOk (cutS z lo' hi') then some (D.str (cutS z lo' hi')) else none) with | some (.lst l) => .ok (.lst l) ρ3 | some d => .ok (.d d) ρ3 | none => .no) Q := po
          split at po'
          · rename_i hc
            split at hc
            · cases hc
            · cases hc
          · rename_i d _ hc
            split at hc
            · rename_i h1
              cases hc
              rw [Bool.and_eq_true, decide_eq_true_eq, maxLen_eq] at h1
              exact .inr (.inr ⟨z, rfl, h1.1, po' _ _ (OKB.toE ⟨S3, nxt, fr3, RepKd.of ⟨rfl, h1.2⟩⟩)⟩)
            · cases hc
          · exact po'.elim
        | _ => exact po.elim
/-- -x -/
theorem db_neg (ha : DB X ca Wx q k a fa) : DB X ca Wx q true (.UnaryOp .USub a pos) (c_op1 negD fa) := by
  refine ⟨(pe_un un_neg ha.run).imp fun σ H Q ⟨Z, S, ρ, f, po⟩ => ⟨Z, S, ρ, f, ?_⟩⟩
  unfold c_op1 at po
  cases e : fa ρ with
  | no => rw [e] at po; exact po.elim
  | ex x ρ1 => rw [e] at po; exact po
  | ok w ρ1 =>
    rw [e] at po
    intro v H1 ⟨S1, nx1, fr1, rp⟩
    have rp := rp.bor hid_same
    simp only [ER.bind] at po
    generalize frz w = c at po rp
    cases c with
    | int i => exact ⟨i, rp, po _ _ ⟨S1, nx1, fr1, RepKd.of rfl⟩⟩
    | _ => exact po.elim
/-- e.f -/
theorem getf_look {fs : List Str} {vs : List D} {xs : List V} {f : Str} {d : D} (e : getf fs vs f = some d) (r : RepBs X.prog X.w X.K ca G H vs xs) : ∃ v, (fs.zip xs).lookup f = some v ∧ RepB X.prog X.w X.K ca G H d v := by
  induction fs generalizing vs xs with
  | nil => cases vs <;> cases e
  | cons g t ih =>
    cases vs with
    | nil => cases e
    | cons d' s =>
      obtain ⟨x, y, ex, h1, h2⟩ := r
      subst ex
      unfold getf at e
      rw [List.zip_cons_cons]
      by_cases c : f = g
      · rw [if_pos c] at e
        cases e
        refine ⟨x, ?_, h1⟩
        rw [c]
        simp [List.lookup]
      · rw [if_neg c] at e
        obtain ⟨v, e1, e2⟩ := ih e h2
        refine ⟨v, ?_, e2⟩
        have : (f == g) = false := by simpa using c
        simp [List.lookup, this, e1]
theorem getf_lookD {fs : List Str} {vs : List D} {xs : List V} {f : Str} {d : D} (e : getf fs vs f = some d) (r : RepDs X.prog X.w X.K ca G vs xs) : ∃ v, (fs.zip xs).lookup f = some v ∧ RepD X.prog X.w X.K ca G d v := by
  induction fs generalizing vs xs with
  | nil => cases vs <;> cases e
  | cons g t ih =>
    cases vs with
    | nil => cases e
    | cons d' s =>
      obtain ⟨x, y, ex, h1, h2⟩ := r
      subst ex
      unfold getf at e
      rw [List.zip_cons_cons]
      by_cases c : f = g
      · rw [if_pos c] at e
        cases e
        refine ⟨x, ?_, h1⟩
        rw [c]
        simp [List.lookup]
      · rw [if_neg c] at e
        obtain ⟨v, e1, e2⟩ := ih e h2
        refine ⟨v, ?_, e2⟩
        have : (f == g) = false := by simpa using c
        simp [List.lookup, this, e1]
/-- the classes whose instances have the field -/
def FldOk (X : Cx) (ca : Ca) (n : Nat) (f : Str) : Prop := ∀ C, C < n → Cls X.K (ca C) ∧ NoAttr X.K (ca C) f
def fldN (n : Nat) (g : Str) : D → Option D
  | .ins C fs vs => if C < n then getf fs vs g else none
  | _ => none
theorem db_fld {n : Nat} {f : Str} (ok : FldOk X ca n f) (ha : DB X ca Wx q k a fa) (hb : attributeBase a f X.env (eval a X.env) = eval a X.env := by rfl) : DB X ca Wx q k (.Attribute a f pos) (c_op1 (fldN n f) fa) := by
  refine ⟨(pe_fld ha.run hb).imp fun σ H Q ⟨Z, S, ρ, fr, po⟩ => ⟨Z, S, ρ, fr, ?_⟩⟩
  unfold c_op1 at po
  cases e : fa ρ with
  | no => rw [e] at po; exact po.elim
  | ex x ρ1 => rw [e] at po; exact po
  | ok w ρ1 =>
    rw [e] at po
    intro v H1 ⟨S1, nx1, fr1, rp⟩
    simp only [ER.bind] at po
    generalize frz w = c at po rp
    cases c with
    | ins C fs vs =>
      have po' : PoB X ca Wx q k Z S σ H (match (if C < n then getf fs vs f else none) with | some d => .ok (.d d) ρ1 | none => .no) Q := po
      split at po'
      · rename_i d hd
        split at hd
        · rename_i hC
          unfold RepKd at rp
          split at rp
          · rename_i hk
            obtain ⟨p, dx, xs, rfl, g1, g2, g3⟩ := rp
            obtain ⟨v, e1, e2⟩ := getf_lookD hd g2
            refine ⟨p, ca C, dx, _, v, rfl, (hid_some.mp g1).1, (ok C hC).1, (ok C hC).2, e1, po' v H1 ⟨S1, nx1, fr1, ?_⟩⟩
            unfold RepKd; rw [if_pos hk]; exact e2
          · rename_i hk
            obtain ⟨p, dx, xs, rfl, g1, g2, g3⟩ := rp
            obtain ⟨v, e1, e2⟩ := getf_look hd g2
            refine ⟨p, ca C, dx, _, v, rfl, g1, (ok C hC).1, (ok C hC).2, e1, po' v H1 ⟨S1, nx1, fr1, ?_⟩⟩
            unfold RepKd; rw [if_neg hk]; exact e2
        · cases hd
      · exact po'.elim
    | _ => exact po.elim
end
end L3

set_option Elab.async false
set_option linter.all false
set_option maxRecDepth 100000
set_option maxHeartbeats 1000000
/-! L3k: statements. -/
namespace L3
open PySem PySem.Spec PyProof.Rows L2

inductive SR where
  | nx (ρ : Ro)
  | rt (w : W) (ρ : Ro)
  | br (ρ : Ro)
  | ct (ρ : Ro)
  | ex (x : Ex) (ρ : Ro)
  | no
def s_nil : Ro → SR := fun ρ => .nx ρ
def s_seq (f g : Ro → SR) : Ro → SR := fun ρ => match f ρ with
  | .nx ρ1 => g ρ1
  | r => r
def s_ret (f : Ro → ER) : Ro → SR := fun ρ => match f ρ with
  | .ok w ρ1 => .rt w ρ1
  | .ex x ρ1 => .ex x ρ1
  | .no => .no
def s_retN : Ro → SR := fun ρ => .rt (.d .non) ρ
def s_expr (f : Ro → ER) : Ro → SR := fun ρ => match f ρ with
  | .ok _ ρ1 => .nx ρ1
  | .ex x ρ1 => .ex x ρ1
  | .no => .no
def s_break : Ro → SR := fun ρ => .br ρ
def s_cont : Ro → SR := fun ρ => .ct ρ
def s_set (i : Nat) (f : Ro → ER) : Ro → SR := fun ρ => match f ρ with
  | .ok w ρ1 => .nx (ρ1.set i (some w))
  | .ex x ρ1 => .ex x ρ1
  | .no => .no
def s_if (fc : Ro → ER) (f g : Ro → SR) : Ro → SR := fun ρ => match fc ρ with
  | .ok (.d (.bl b)) ρ1 => if b = true then f ρ1 else g ρ1
  | .ok _ _ => .no
  | .ex x ρ1 => .ex x ρ1
  | .no => .no
/-- fuel: n turns at most -/
def s_whileN (fc : Ro → ER) (f : Ro → SR) : Nat → Ro → SR
  | 0, _ => .no
  | n + 1, ρ => match fc ρ with
    | .ok (.d (.bl b)) ρ1 => if b = true then (match f ρ1 with
      | .nx ρ2 => s_whileN fc f n ρ2
      | .ct ρ2 => s_whileN fc f n ρ2
      | .br ρ2 => .nx ρ2
      | r => r) else .nx ρ1
    | .ok _ _ => .no
    | .ex x ρ1 => .ex x ρ1
    | .no => .no

section
variable {X : Cx} {ca : Ca} {Wx : WX} {Z S S1 S2 T : AS} {σ σ1 : L2.St} {H H1 H2 G : Hp} {ρ ρ1 ρ2 : Ro} {q q1 q2 q3 k k1 k2 k3 : Bool} {a b c e : Expr} {es : List Expr} {fa fb fc : Ro → ER} {f g : Ro → SR} {pos p p2 : Pos} {pins : List (Addr × Obj)} {s : Shared} {pin : List Nat} {st : Stmt} {rest body orelse : List Stmt}
/-- the pinned slots keep their values -/
def Pn (pin : List Nat) (σ σ' : L2.St) : Prop := ∀ i ∈ pin, σ'[i]? = σ[i]?
theorem Pn.refl : Pn pin σ σ := fun _ _ => rfl
theorem Pn.trans {σ2 : L2.St} (a : Pn pin σ σ1) (b : Pn pin σ1 σ2) : Pn pin σ σ2 := fun i h => (b i h).trans (a i h)
def OKS (X : Cx) (ca : Ca) (pin : List Nat) (Z S : AS) (H : Hp) (σ : L2.St) (ρ' : Ro) (σ' : L2.St) (H' : Hp) : Prop := ∃ S', Nx S H false S' H' ∧ Fr X ca Z S' ρ' σ' H' ∧ Pn pin σ σ'
def OKR (X : Cx) (ca : Ca) (pin : List Nat) (Z S : AS) (H : Hp) (σ : L2.St) (w : W) (ρ' : Ro) (v : V) (σ' : L2.St) (H' : Hp) : Prop :=
  ∃ S' Sw, Nx S H false (un S' Sw) H' ∧ dis S' Sw ∧ RepSl X.prog X.w X.K ca (hid H' (un Z (un S' Sw))) H' ρ' σ' S' ∧ RepW X.prog X.w X.K ca (hid H' (un Z (un S' Sw))) H' w v Sw ∧ Pn pin σ σ'
def OKX (X : Cx) (ca : Ca) (pin : List Nat) (Z S : AS) (H : Hp) (σ : L2.St) (x : Ex) (ρ' : Ro) (cls : Value) (d : Option Addr) (σ' : L2.St) (H' : Hp) : Prop :=
  ∃ S', Nx S H false S' H' ∧ Fr X ca Z S' ρ' σ' H' ∧ RepX X.prog X.w X.K ca (hid H' (un Z S')) x cls d ∧ Pn pin σ σ'
def PoS (X : Cx) (ca : Ca) (Wx : WX) (pin : List Nat) (Z S : AS) (σ : L2.St) (H : Hp) (r : SR) (D : Ends) : Prop := match r with
  | .nx ρ' => ∀ σ' H', OKS X ca pin Z S H σ ρ' σ' H' → D.nx σ' H'
  | .br ρ' => ∀ σ' H', OKS X ca pin Z S H σ ρ' σ' H' → D.bk σ' H'
  | .ct ρ' => ∀ σ' H', OKS X ca pin Z S H σ ρ' σ' H' → D.ct σ' H'
  | .rt w ρ' => ∀ v σ' H', OKR X ca pin Z S H σ w ρ' v σ' H' → D.rt v H'
  | .ex x ρ' => ∀ cls d σ' H', OKX X ca pin Z S H σ x ρ' cls d σ' H' → Wx cls d σ' H'
  | .no => False
structure DS (X : Cx) (ca : Ca) (Wx : WX) (pin : List Nat) (st : Stmt) (f : Ro → SR) : Prop where
  run : PS X st fun D σ H => ∃ Z S ρ, Fr X ca Z S ρ σ H ∧ PoS X ca Wx pin Z S σ H (f ρ) D
structure DSs (X : Cx) (ca : Ca) (Wx : WX) (pin : List Nat) (st : List Stmt) (f : Ro → SR) : Prop where
  run : PSs X st fun D σ H => ∃ Z S ρ, Fr X ca Z S ρ σ H ∧ PoS X ca Wx pin Z S σ H (f ρ) D
theorem _root_.L2.PS.imp {t t' : TS} (h : PS X st t) (i : ∀ D σ H, t' D σ H → t D σ H) : PS X st t' := ⟨fun pins s σ H D I q => h.run pins s σ H D I (i _ _ _ q)⟩
theorem _root_.L2.PSs.imp {t t' : TS} (h : PSs X rest t) (i : ∀ D σ H, t' D σ H → t D σ H) : PSs X rest t' := ⟨fun pins s σ H D I q => h.run pins s σ H D I (i _ _ _ q)⟩
theorem PoS.shift {r : SR} {D : Ends} (h : PoS X ca Wx pin Z S σ H r D) (nx : Nx S H q S1 H1) (pn : Pn pin σ σ1) : PoS X ca Wx pin Z S1 σ1 H1 r D := by
  cases r with
  | nx ρ' => exact fun σ' H' ⟨S', n, f, p⟩ => h σ' H' ⟨S', (nx.trans n).weak (fun z => nomatch z), f, pn.trans p⟩
  | br ρ' => exact fun σ' H' ⟨S', n, f, p⟩ => h σ' H' ⟨S', (nx.trans n).weak (fun z => nomatch z), f, pn.trans p⟩
  | ct ρ' => exact fun σ' H' ⟨S', n, f, p⟩ => h σ' H' ⟨S', (nx.trans n).weak (fun z => nomatch z), f, pn.trans p⟩
  | rt w ρ' => exact fun v σ' H' ⟨S', Sw, n, a, b, c, p⟩ => h v σ' H' ⟨S', Sw, (nx.trans n).weak (fun z => nomatch z), a, b, c, pn.trans p⟩
  | ex x ρ' => exact fun c d σ' H' ⟨S', n, f, r, p⟩ => h c d σ' H' ⟨S', (nx.trans n).weak (fun z => nomatch z), f, r, pn.trans p⟩
  | no => exact h
/-- only the ends that r reaches count -/
theorem PoS.ends {r : SR} {D D' : Ends} (h : PoS X ca Wx pin Z S σ H r D) (h1 : ∀ ρ', r = .nx ρ' → ∀ σ' H', D.nx σ' H' → D'.nx σ' H') (h2 : ∀ v H', D.rt v H' → D'.rt v H') (h3 : ∀ ρ', r = .br ρ' → ∀ σ' H', D.bk σ' H' → D'.bk σ' H') (h4 : ∀ ρ', r = .ct ρ' → ∀ σ' H', D.ct σ' H' → D'.ct σ' H') : PoS X ca Wx pin Z S σ H r D' := by
  cases r with
  | nx ρ' => exact fun σ' H' o => h1 ρ' rfl σ' H' (h σ' H' o)
  | br ρ' => exact fun σ' H' o => h3 ρ' rfl σ' H' (h σ' H' o)
  | ct ρ' => exact fun σ' H' o => h4 ρ' rfl σ' H' (h σ' H' o)
  | rt w ρ' => exact fun v σ' H' o => h2 v H' (h v σ' H' o)
  | ex x ρ' => exact h
  | no => exact h
theorem oks_refl (fr : Fr X ca Z S ρ σ H) : OKS X ca pin Z S H σ ρ σ H := ⟨S, (Nx.refl fr.as).weak (fun z => nomatch z), fr, Pn.refl⟩
/-! ### blocks -/
theorem dss_nil : DSs X ca Wx pin [] s_nil := ⟨pss_nil.imp fun D σ H ⟨Z, S, ρ, fr, po⟩ => po σ H (oks_refl fr)⟩
theorem dss_cons (h1 : DS X ca Wx pin st f) (h2 : DSs X ca Wx pin rest g) : DSs X ca Wx pin (st :: rest) (s_seq f g) := by
  refine ⟨(pss_cons h1.run h2.run).imp fun D σ H ⟨Z, S, ρ, fr, po⟩ => ⟨Z, S, ρ, fr, ?_⟩⟩
  unfold s_seq at po
  cases e : f ρ with
  | nx ρ1 =>
    rw [e] at po
    exact fun σ' H' ⟨S', n, f', p⟩ => ⟨Z, S', ρ1, f', po.shift n p⟩
  | no => rw [e] at po; exact po
  | br _ => rw [e] at po; exact po
  | ct _ => rw [e] at po; exact po
  | rt _ _ => rw [e] at po; exact po
  | ex _ _ => rw [e] at po; exact po
theorem dss_one (h1 : DS X ca Wx pin st f) : DSs X ca Wx pin [st] f := ⟨pss_one h1.run⟩
theorem ds_pass : DS X ca Wx pin (.Pass pos) s_nil := ⟨ps_pass.imp fun D σ H ⟨Z, S, ρ, fr, po⟩ => po σ H (oks_refl fr)⟩
theorem ds_break : DS X ca Wx pin (.Break pos) s_break := ⟨ps_break.imp fun D σ H ⟨Z, S, ρ, fr, po⟩ => po σ H (oks_refl fr)⟩
theorem ds_cont : DS X ca Wx pin (.Continue pos) s_cont := ⟨ps_continue.imp fun D σ H ⟨Z, S, ρ, fr, po⟩ => po σ H (oks_refl fr)⟩
theorem ds_doc {x j pos'} : DS X ca Wx pin (.Expr (.Constant (.str x) j pos) pos') s_nil := ⟨ps_doc.imp fun D σ H ⟨Z, S, ρ, fr, po⟩ => po σ H (oks_refl fr)⟩
theorem EXE.x {x : Ex} {ρ' : Ro} {cls : Value} {d : Option Addr} (h : EXE X ca Z S H σ x ρ' cls d H1) : OKX X ca pin Z S H σ x ρ' cls d σ H1 := let ⟨S', n, f, r⟩ := h; ⟨S', n, f, r, Pn.refl⟩
theorem ds_ret (ha : DE X ca Wx q a fa) : DS X ca Wx pin (.Return (some a) pos) (s_ret fa) := by
  refine ⟨(ps_ret ha.run).imp fun D σ H ⟨Z, S, ρ, fr, po⟩ => ⟨Z, S, ρ, fr, ?_⟩⟩
  unfold s_ret at po
  cases e : fa ρ with
  | ok w ρ1 => rw [e] at po; exact fun v H' ⟨S', Sw, n, a, b, c⟩ => po v σ H' ⟨S', Sw, n.weak (fun z => nomatch z), a, b, c, Pn.refl⟩
  | ex x ρ1 => rw [e] at po; exact fun cls d H' o => po cls d σ H' o.x
  | no => rw [e] at po; exact po
theorem ds_retN : DS X ca Wx pin (.Return none pos) s_retN := by
  refine ⟨ps_retN.imp fun D σ H ⟨Z, S, ρ, fr, po⟩ => po .non σ H ?_⟩
  obtain ⟨S', Sw, n, a, b, c⟩ := OKB.toE (okb_d (d := .non) (v := .non) fr rfl)
  exact ⟨S', Sw, n.weak (fun z => nomatch z), a, b, c, Pn.refl⟩
theorem ds_expr (ha : DE X ca Wx q a fa) (hs : swapsWith a none pos.line X.env = pure false := by rfl) : DS X ca Wx pin (.Expr a pos) (s_expr fa) := by
  refine ⟨(ps_expr ha.run hs).imp fun D σ H ⟨Z, S, ρ, fr, po⟩ => ⟨Z, S, ρ, fr, ?_⟩⟩
  unfold s_expr at po
  cases e : fa ρ with
  | ok w ρ1 =>
    rw [e] at po
    refine fun v H' o => ?_
    obtain ⟨S', n, f, _⟩ := o.toB fr
    exact po σ H' ⟨S', n.weak (fun z => nomatch z), f, Pn.refl⟩
  | ex x ρ1 => rw [e] at po; exact fun cls d H' o => po cls d σ H' o.x
  | no => rw [e] at po; exact po
/-- a value goes to a slot -/
theorem oke_store {w : W} {v : V} {i : Nat} (fr : Fr X ca Z S ρ σ H) (o : OKE X ca Z S H q σ w ρ1 v H1) (hi : i ∉ pin) (hks : i ∉ ca.ks) : OKS X ca pin Z S H σ (ρ1.set i (some w)) (σ.set i (some v)) H1 := by
  obtain ⟨S', Sw, n, dj, rs, rw'⟩ := o
  have dz : dis Z (un S' Sw) := n.dj fr.dj fr.az
  refine ⟨un S' Sw, n.weak (fun z => nomatch z), ⟨dz, n.az fr.dj fr.az, n.al, ?_, ca.kmS hks (ca.km0 n.hid fr.kp)⟩, fun j hj => ?_⟩
  · exact (rs.store (fun a z y => dj a y z) rw').mono (Same.refl _) (fun a z => z.elim .inr .inl) fun _ _ _ e => e
  · rw [List.getElem?_set_ne]
    rintro rfl
    exact hi hj
theorem ds_set {i : Nat} {x : Str} {pos' : Pos} (hN : X.N.Nodup) (hi : X.N[i]? = some x) (hx : Loc X.env.scope x) (ha : DE X ca Wx q a fa) (hpn : i ∉ pin := by decide) (hks : i ∉ ca.ks := by first | exact List.not_mem_nil | exact ks1 (by decide)) (hs : swapsWith a (some (.Name x pos')) pos.line X.env = pure false := by rfl)
    (hf : X.fn x = true ∨ X.env.scope.names.lookup x = some .local := by first | exact .inl rfl | exact .inr rfl | assumption) : DS X ca Wx pin (.Assign [.Name x pos'] a pos) (s_set i fa) := by
  refine ⟨(ps_set hN hi hx ha.run hs hf).imp fun D σ H ⟨Z, S, ρ, fr, po⟩ => ⟨Z, S, ρ, fr, ?_⟩⟩
  unfold s_set at po
  cases e : fa ρ with
  | ok w ρ1 => rw [e] at po; exact fun v H' o => po _ H' (oke_store fr o hpn hks)
  | ex x ρ1 => rw [e] at po; exact fun cls d H' o => po cls d σ H' o.x
  | no => rw [e] at po; exact po
theorem ds_if (hc : DT X ca Wx q c fc) (h1 : DSs X ca Wx pin body f) (h2 : DSs X ca Wx pin orelse g) : DS X ca Wx pin (.If c body orelse pos) (s_if fc f g) := by
  refine ⟨(ps_if hc.run h1.run h2.run).imp fun D σ H ⟨Z, S, ρ, fr, po⟩ => ⟨Z, S, ρ, fr, ?_⟩⟩
  unfold s_if at po
  cases e : fc ρ with
  | ok w ρ1 =>
    rw [e] at po
    cases w with
    | d x =>
      cases x <;> first | exact po.elim | skip
      rename_i b
      intro H1 ⟨S1, n, f1⟩
      cases b with
      | true => exact ⟨Z, S1, ρ1, f1, PoS.shift (r := f ρ1) po n Pn.refl⟩
      | false => exact ⟨Z, S1, ρ1, f1, PoS.shift (r := g ρ1) po n Pn.refl⟩
    | _ => exact po.elim
  | ex x ρ1 => rw [e] at po; exact fun cls d H' o => po cls d σ H' o.x
  | no => rw [e] at po; exact po
/-- a while of at most n turns -/
theorem ds_while (n : Nat) (hp : PassesOwn (model X.prog X.w) X.A X.env X.xe) (hc : DT X ca Wx q c fc) (h1 : DSs X ca Wx pin body f) : DS X ca Wx pin (.While c body [] pos) (s_whileN fc f n) := by
  refine ⟨(ps_while hp hc.run h1.run).imp fun D σ H ⟨Z, S, ρ, fr, po⟩ => ?_⟩
  refine ⟨fun m σ' H' => ∃ S' ρ', Fr X ca Z S' ρ' σ' H' ∧ PoS X ca Wx pin Z S' σ' H' (s_whileN fc f m ρ') D, ⟨n, S, ρ, fr, po⟩, ?_⟩
  rintro m σ' H' ⟨S', ρ', fr', po'⟩
  cases m with
  | zero => exact po'.elim
  | succ m =>
    unfold s_whileN at po'
    refine ⟨Z, S', ρ', fr', ?_⟩
    cases e : fc ρ' with
    | ok w ρ1 =>
      rw [e] at po'
      cases w with
      | d x =>
        cases x <;> first | exact po'.elim | skip
        rename_i b
        intro H1 ⟨S1, n1, f1⟩
        cases b with
        | false => exact (show PoS X ca Wx pin Z S' σ' H' (.nx ρ1) D from po') σ' H1 ⟨S1, n1.weak (fun z => nomatch z), f1, Pn.refl⟩
        | true =>
          have po2 : PoS X ca Wx pin Z S' σ' H' (match f ρ1 with | .nx ρ2 => s_whileN fc f m ρ2 | .ct ρ2 => s_whileN fc f m ρ2 | .br ρ2 => .nx ρ2 | r => r) D := po'
          refine ⟨fun σ2 H2 => ∃ S' ρ', Fr X ca Z S' ρ' σ2 H2 ∧ PoS X ca Wx pin Z S' σ2 H2 (s_whileN fc f m ρ') D, fun σ2 H2 w => ⟨m, Nat.lt_succ_self _, w⟩, Z, S1, ρ1, f1, ?_⟩
          cases e2 : f ρ1 with
          | nx ρ2 => rw [e2] at po2; exact fun σ2 H2 ⟨S2, n2, f2, p2⟩ => ⟨S2, ρ2, f2, (po2.shift n1 Pn.refl).shift n2 p2⟩
          | ct ρ2 => rw [e2] at po2; exact fun σ2 H2 ⟨S2, n2, f2, p2⟩ => ⟨S2, ρ2, f2, (po2.shift n1 Pn.refl).shift n2 p2⟩
          | br ρ2 => rw [e2] at po2; exact PoS.shift (r := .nx ρ2) po2 n1 Pn.refl
          | rt w ρ2 => rw [e2] at po2; exact PoS.shift (r := .rt w ρ2) po2 n1 Pn.refl
          | ex x ρ2 => rw [e2] at po2; exact PoS.shift (r := .ex x ρ2) po2 n1 Pn.refl
          | no => rw [e2] at po2; exact po2
      | _ => exact po'.elim
    | ex x ρ1 => rw [e] at po'; exact fun cls d H' o => po' cls d σ' H' o.x
    | no => rw [e] at po'; exact po'
end
end L3

set_option Elab.async false
set_option linter.all false
set_option maxRecDepth 100000
set_option maxHeartbeats 1000000
/-! L3l: targets, several values at once. -/
namespace L3
open PySem PySem.Spec PyProof.Rows L2

/-- where data goes -/
inductive Tg where
  | name (i : Nat)
  | tup (l : List Tg)
mutual
def t_set : Tg → D → Ro → Option Ro
  | .name i, d, ρ => some (ρ.set i (some (.d d)))
  | .tup l, d, ρ => match seqD d with
    | some ds => t_sets l ds ρ
    | none => none
termination_by structural x => x
def t_sets : List Tg → List D → Ro → Option Ro
  | [], [], ρ => some ρ
  | t :: r, d :: s, ρ => match t_set t d ρ with
    | some ρ1 => t_sets r s ρ1
    | none => none
  | _, _, _ => none
termination_by structural x => x
end
def s_unp (t : Tg) (fa : Ro → ER) : Ro → SR := fun ρ => match fa ρ with
  | .ok w ρ1 => match t_set t (frz w) ρ1 with
    | some ρ2 => .nx ρ2
    | none => .no
  | .ex x ρ1 => .ex x ρ1
  | .no => .no
inductive LW where
  | ok (ws : List W) (ρ : Ro)
  | ex (x : Ex) (ρ : Ro)
  | no
def w_nil : Ro → LW := fun ρ => .ok [] ρ
def w_cons (fa : Ro → ER) (fr : Ro → LW) : Ro → LW := fun ρ => match fa ρ with
  | .ok w ρ1 => match fr ρ1 with
    | .ok ws ρ2 => .ok (w :: ws) ρ2
    | .ex x ρ2 => .ex x ρ2
    | .no => .no
  | .ex x ρ1 => .ex x ρ1
  | .no => .no
def setsN : List Nat → List W → Ro → Ro
  | i :: r, w :: s, ρ => setsN r s (ρ.set i (some w))
  | _, _, ρ => ρ
def s_par (is : List Nat) (f : Ro → LW) : Ro → SR := fun ρ => match f ρ with
  | .ok ws ρ1 => if ws.length = is.length then .nx (setsN is ws ρ1) else .no
  | .ex x ρ1 => .ex x ρ1
  | .no => .no

section
variable {X : Cx} {ca : Ca} {Wx : WX} {Z S S1 S2 T : AS} {σ σ1 : L2.St} {H H1 H2 G : Hp} {ρ ρ1 ρ2 : Ro} {q q1 q2 q3 k k1 k2 k3 : Bool} {a b c e tg : Expr} {es tgs : List Expr} {fa fb fc : Ro → ER} {gr gl : Ro → LW} {pos p p2 : Pos} {pins : List (Addr × Obj)} {s : Shared} {pin : List Nat} {rest : List Expr}
/-- what a target leaves: all is kept -/
def OKG (X : Cx) (ca : Ca) (pin : List Nat) (Z S : AS) (H : Hp) (σ : L2.St) (ρ' : Ro) (σ' : L2.St) (H' : Hp) : Prop := ∃ S', Nx S H true S' H' ∧ Fr X ca Z S' ρ' σ' H' ∧ Pn pin σ σ'
structure DG (X : Cx) (ca : Ca) (pin : List Nat) (tg : Expr) (t : Tg) : Prop where
  run : PG X tg fun v σ H Q => ∃ Z S ρ d ρ', Fr X ca Z S ρ σ H ∧ RepD X.prog X.w X.K ca (hid H (un Z S)) d v ∧ t_set t d ρ = some ρ' ∧ ∀ σ' H', OKG X ca pin Z S H σ ρ' σ' H' → Q σ' H'
structure DGs (X : Cx) (ca : Ca) (pin : List Nat) (tgs : List Expr) (ts : List Tg) : Prop where
  run : PGs X tgs fun vs σ H Q => ∃ Z S ρ ds ρ', Fr X ca Z S ρ σ H ∧ RepDs X.prog X.w X.K ca (hid H (un Z S)) ds vs ∧ t_sets ts ds ρ = some ρ' ∧ ∀ σ' H', OKG X ca pin Z S H σ ρ' σ' H' → Q σ' H'
theorem _root_.L2.PG.imp {t t' : TG} (h : PG X tg t) (i : ∀ v σ H Q, t' v σ H Q → t v σ H Q) : PG X tg t' := ⟨fun pins s σ H v u Q I r q => h.run pins s σ H v u Q I r (i _ _ _ _ q)⟩
theorem _root_.L2.PG.or {t t' : TG} (h : PG X tg t) (h' : PG X tg t') : PG X tg (fun v σ H Q => t v σ H Q ∨ t' v σ H Q) := ⟨fun pins s σ H v u Q I r q => q.elim (h.run pins s σ H v u Q I r) (h'.run pins s σ H v u Q I r)⟩
theorem _root_.L2.PGs.imp {t t' : TGs} (h : PGs X tgs t) (i : ∀ v σ H Q, t' v σ H Q → t v σ H Q) : PGs X tgs t' := ⟨fun pins s σ H v u Q I r q => h.run pins s σ H v u Q I r (i _ _ _ _ q)⟩
theorem data_store {d : D} {v : V} {i : Nat} (fr : Fr X ca Z S ρ σ H) (r : RepD X.prog X.w X.K ca (hid H (un Z S)) d v) (hi : i ∉ pin) (hks : i ∉ ca.ks) : OKS X ca pin Z S H σ (ρ.set i (some (.d d))) (σ.set i (some v)) H :=
  oke_store (q := true) fr (OKB.toE ⟨S, Nx.refl fr.as, fr, RepKd.of r⟩) hi hks
theorem data_storeG {d : D} {v : V} {i : Nat} (fr : Fr X ca Z S ρ σ H) (r : RepD X.prog X.w X.K ca (hid H (un Z S)) d v) (hi : i ∉ pin) (hks : i ∉ ca.ks) : OKG X ca pin Z S H σ (ρ.set i (some (.d d))) (σ.set i (some v)) H := by
  have e1 := (fr.rep.store (i := i) (T := emp) (y := .d d) (v := v) (fun _ z => z.elim) r).mono (S' := S) (Same.refl _) (fun b z => z.elim (fun z => z.elim) id) fun _ _ _ e => e
  refine ⟨S, Nx.refl fr.as, ⟨fr.dj, fr.az, fr.as, e1, ca.kmS hks fr.kp⟩, fun j hj => ?_⟩
  rw [List.getElem?_set_ne]
  rintro rfl
  exact hi hj
theorem okg_refl (fr : Fr X ca Z S ρ σ H) : OKG X ca pin Z S H σ ρ σ H := ⟨S, Nx.refl fr.as, fr, Pn.refl⟩
theorem dg_name {i : Nat} {x : Str} (hN : X.N.Nodup) (hi : X.N[i]? = some x) (hx : Loc X.env.scope x) (hpn : i ∉ pin := by decide) (hks : i ∉ ca.ks := by first | exact List.not_mem_nil | exact ks1 (by decide)) (hf : X.fn x = true ∨ X.env.scope.names.lookup x = some .local := by first | exact .inl rfl | exact .inr rfl | assumption) :
    DG X ca pin (.Name x pos) (.name i) := by
  refine ⟨(pg_name hN hi hx hf).imp fun v σ H Q ⟨Z, S, ρ, d, ρ', fr, r, e, h⟩ => h _ _ ?_⟩
  unfold t_set at e
  cases e
  exact data_storeG fr r hpn hks
theorem dgs_nil : DGs X ca pin [] [] := by
  refine ⟨pgs_nil.imp fun vs σ H Q ⟨Z, S, ρ, ds, ρ', fr, r, e, h⟩ => ?_⟩
  cases ds with
  | nil => exact ⟨r, h _ _ (by unfold t_sets at e; cases e; exact okg_refl fr)⟩
  | cons d t => unfold t_sets at e; cases e
theorem dgs_cons {t : Tg} {ts : List Tg} (h1 : DG X ca pin tg t) (h2 : DGs X ca pin tgs ts) (hs : (assignEach (tg :: tgs) X.env).map (·.2) = assign tg X.env :: (assignEach tgs X.env).map (·.2) := by rfl) : DGs X ca pin (tg :: tgs) (t :: ts) := by
  refine ⟨(pgs_cons h1.run h2.run hs).imp fun vs σ H Q ⟨Z, S, ρ, ds, ρ', fr, r, e, h⟩ => ?_⟩
  cases ds with
  | nil => unfold t_sets at e; cases e
  | cons d u =>
    obtain ⟨x, y, ex, r1, r2⟩ := r
    unfold t_sets at e
    cases e1 : t_set t d ρ with
    | none => rw [e1] at e; cases e
    | some ρ1 =>
      rw [e1] at e
      exact ⟨x, y, ex, Z, S, ρ, d, ρ1, fr, r1, e1, fun σ1 H1 ⟨S1, n1, f1, p1⟩ => ⟨Z, S1, ρ1, u, ρ', f1, r2.mono n1.hid, e, fun σ2 H2 ⟨S2, n2, f2, p2⟩ => h σ2 H2 ⟨S2, n1.trans n2, f2, p1.trans p2⟩⟩⟩
theorem dg_tup {ts : List Tg} {k n : Nat} (hc : X.calm = true) (h : DGs X ca pin tgs ts) (hl : ts.length = n := by rfl) (hn : (assignEach tgs X.env).length = n := by rfl) (hst : (assignEach tgs X.env).findIdx? (·.1) = none := by rfl) : DG X ca pin (.Tuple tgs k pos) (.tup ts) := by
  have len : ∀ {l : List Tg} {ds : List D} {ρ ρ' : Ro}, t_sets l ds ρ = some ρ' → ds.length = l.length := by
    intro l
    induction l with
    | nil => intro ds ρ ρ' e; cases ds with
      | nil => rfl
      | cons _ _ => unfold t_sets at e; cases e
    | cons t r ih => intro ds ρ ρ' e; cases ds with
      | nil => unfold t_sets at e; cases e
      | cons d u =>
        unfold t_sets at e
        cases e1 : t_set t d ρ with
        | none => rw [e1] at e; cases e
        | some ρ1 => rw [e1] at e; rw [List.length_cons, List.length_cons, ih e]
  refine ⟨((pg_tup (k := k) (pos := pos) hc h.run hn hst).or (pg_lst hc h.run hn hst)).imp fun v σ H Q ⟨Z, S, ρ, d, ρ', fr, r, e, hq⟩ => ?_⟩
  unfold t_set at e
  cases d with
  | tup ds =>
    obtain ⟨a, xs, rfl, g1, g2⟩ := r
    exact .inl ⟨a, xs, rfl, SqT.mono hid_same g1, by rw [← g2.length, len e, hl], Z, S, ρ, ds, ρ', fr, g2, e, hq⟩
  | lst ds =>
    obtain ⟨a, xs, rfl, g1, g2⟩ := r
    exact .inr ⟨a, xs, rfl, SqL.mono hid_same g1, by rw [← g2.length, len e, hl], Z, S, ρ, ds, ρ', fr, g2, e, hq⟩
  | _ => cases e
/-- target = data -/
theorem ds_unp {t : Tg} (ha : DB X ca Wx q true a fa) (hg : DG X ca pin tg t) (hs : swapsWithSole [tg] a pos.line X.env = pure false := by rfl) (hw : swappedStores [tg] a X.env = pure none := by rfl)
    (h1 : (assignEach [tg] X.env).map (·.2) = [assign tg X.env] := by rfl) : DS X ca Wx pin (.Assign [tg] a pos) (s_unp t fa) := by
  refine ⟨(ps_asg ha.run hg.run hs hw h1).imp fun D σ H ⟨Z, S, ρ, fr, po⟩ => ⟨Z, S, ρ, fr, ?_⟩⟩
  unfold s_unp at po
  cases e : fa ρ with
  | ok w ρ1 =>
    rw [e] at po
    simp only at po
    split at po
    · rename_i ρ2 e2
      exact fun v H1 ⟨S1, n1, f1, r1⟩ => ⟨Z, S1, ρ1, frz w, ρ2, f1, r1.d, e2, fun σ' H' ⟨S2, n2, f2, p2⟩ => po σ' H' ⟨S2, (n1.trans n2).weak (fun z => nomatch z), f2, p2⟩⟩
    · exact po.elim
  | ex x ρ1 => rw [e] at po; exact fun cls d H' o => po cls d σ H' o.x
  | no => rw [e] at po; exact po

/-! ### several owned values -/
def OKW (X : Cx) (ca : Ca) (Z S : AS) (H : Hp) (q : Bool) (σ : L2.St) (ws : List W) (ρ' : Ro) (vs : List V) (H' : Hp) : Prop :=
  ∃ S' Sw, Nx S H q (un S' Sw) H' ∧ dis S' Sw ∧ RepSl X.prog X.w X.K ca (hid H' (un Z (un S' Sw))) H' ρ' σ S' ∧ RepWs X.prog X.w X.K ca (hid H' (un Z (un S' Sw))) H' ws vs Sw
def PoW (X : Cx) (ca : Ca) (Wx : WX) (q : Bool) (Z S : AS) (σ : L2.St) (H : Hp) (r : LW) (Q : List V → Hp → Prop) : Prop := match r with
  | .ok ws ρ' => ∀ vs H', OKW X ca Z S H q σ ws ρ' vs H' → Q vs H'
  | .ex x ρ' => ∀ cls d H', EXE X ca Z S H σ x ρ' cls d H' → Wx cls d σ H'
  | .no => False
structure DLW (X : Cx) (ca : Ca) (Wx : WX) (q : Bool) (es : List Expr) (f : Ro → LW) : Prop where
  run : PA X es fun σ H Q => ∃ Z S ρ, Fr X ca Z S ρ σ H ∧ PoW X ca Wx q Z S σ H (f ρ) Q
theorem OKE.frm {w : W} {v : V} (fr : Fr X ca Z S ρ σ H) (o : OKE X ca Z S H q σ w ρ1 v H1) : ∃ S1 Sa, Nx S H q (un S1 Sa) H1 ∧ dis S1 Sa ∧ Fr X ca (un Z Sa) S1 ρ1 σ H1 ∧ RepW X.prog X.w X.K ca (hid H1 (un (un Z Sa) S1)) H1 w v Sa := by
  obtain ⟨S1, Sa, n, dj, rs, rw'⟩ := o
  have dz : dis Z (un S1 Sa) := n.dj fr.dj fr.az
  have e : hid H1 (un Z (un S1 Sa)) = hid H1 (un (un Z Sa) S1) := hid_congr fun a => by
    simp only [un]
    constructor
    · rintro (h | h | h) <;> simp [h]
    · rintro ((h | h) | h) <;> simp [h]
  rw [e] at rs rw'
  refine ⟨S1, Sa, n, dj, ⟨fun a z y => z.elim (fun z => dz a z (.inl y)) fun z => dj a y z, fun a z => z.elim (n.az fr.dj fr.az a) fun z => n.al a (.inr z), fun a z => n.al a (.inl z), rs, ?_⟩, rw'⟩
  rw [← e]
  exact ca.km0 n.hid fr.kp
theorem dlw_nil : DLW X ca Wx true [] w_nil := by
  refine ⟨pa_nil.imp fun σ H Q ⟨Z, S, ρ, fr, po⟩ => po [] H ⟨S, emp, ?_, fun _ _ z => z, ?_, rfl⟩⟩
  · exact ⟨fun _ _ _ e => e, fun b z => z.elim .inl fun z => z.elim, fun b z => z.elim (fr.as b) fun z => z.elim, fun _ => Same.refl _⟩
  · have e : hid H (un Z (un S emp)) = hid H (un Z S) := hid_congr fun a => ⟨fun z => z.elim .inl fun z => z.elim .inr fun z => z.elim, fun z => z.elim .inl fun z => .inr (.inl z)⟩
    rw [e]
    exact fr.rep
theorem PoW.weak {r : LW} {Q Q' : List V → Hp → Prop} {S1 : AS} (h : PoW X ca Wx q Z S σ H r Q) (i : ∀ ws ρ', r = .ok ws ρ' → ∀ vs H', OKW X ca Z S1 H1 q2 σ ws ρ' vs H' → Q' vs H') (j : ∀ x ρ', r = .ex x ρ' → ∀ cls d H', EXE X ca Z S1 H1 σ x ρ' cls d H' → Wx cls d σ H') : PoW X ca Wx q2 Z S1 σ H1 r Q' := by
  cases r with
  | ok ws ρ' => exact i ws ρ' rfl
  | ex x ρ' => exact j x ρ' rfl
  | no => exact h
theorem dlw_cons (ha : DE X ca Wx q1 a fa) (hr : DLW X ca Wx q2 rest gr) (hs : starEach (a :: rest) X.env = (false, eval a X.env) :: starEach rest X.env := by rfl) : DLW X ca Wx (q1 && q2) (a :: rest) (w_cons fa gr) := by
  refine ⟨(pa_cons ha.run hr.run hs).imp fun σ H Q ⟨Z, S, ρ, fr, po⟩ => ⟨Z, S, ρ, fr, ?_⟩⟩
  unfold w_cons at po
  cases e : fa ρ with
  | no => rw [e] at po; exact po
  | ex x ρ1 => rw [e] at po; exact po
  | ok w ρ1 =>
    rw [e] at po
    intro v H1 o
    obtain ⟨S1, Sa, n1, dj1, f1, r1⟩ := o.frm fr
    refine ⟨un Z Sa, S1, ρ1, f1, ?_⟩
    simp only at po
    have nS1 : Nx S H q1 S1 H1 := n1.shrink fun _ z => .inl z
    cases e2 : gr ρ1 with
    | no => rw [e2] at po; exact po
    | ex x ρ2 =>
      rw [e2] at po
      rintro cls d H2 ⟨S2, n2, f2, x2⟩
      refine po cls d H2 ⟨S2, (nS1.trans n2).weak (fun z => nomatch z), ⟨fun a z y => f2.dj a (.inl z) y, fun a z => f2.az a (.inl z), f2.as, f2.rep.mono ?_ (fun _ z => z) (fun _ _ _ e => e), ca.km0 ?_ f2.kp⟩, ?_⟩
      · exact hid_anti fun a z => z.elim (fun z => .inl (.inl z)) .inr
      · exact hid_anti fun a z => z.elim (fun z => .inl (.inl z)) .inr
      · obtain ⟨ec, dd, fv, xs, ed, g1, g2, g3⟩ := x2
        exact ⟨ec, dd, fv, xs, ed, hid_anti (fun a z => z.elim (fun z => .inl (.inl z)) .inr) _ _ g1, g2.mono (hid_anti fun a z => z.elim (fun z => .inl (.inl z)) .inr), g3⟩
    | ok ws ρ2 =>
      rw [e2] at po
      rintro vs H2 ⟨S2, Sr, n2, dj2, rs2, rw2⟩
      have dz2 : dis (un Z Sa) (un S2 Sr) := n2.dj f1.dj f1.az
      have e3 : hid H2 (un (un Z Sa) (un S2 Sr)) = hid H2 (un Z (un S2 (un Sa Sr))) := hid_congr fun a => by
        simp only [un]
        constructor
        · rintro ((h | h) | h | h) <;> simp [h]
        · rintro (h | h | h | h) <;> simp [h]
      rw [e3] at rs2 rw2
      have hold : ∀ a o, Sa a → H1 a = some o → H2 a = some o := fun a o z eo => n2.keep a o (fun y => dj1 a y z) eo
      refine po (v :: vs) H2 ⟨S2, un Sa Sr, ⟨fun b o hb eo => n2.keep b o (fun z => (nS1.own b z).elim hb fun n => by rw [eo] at n; cases n) (n1.keep b o hb eo), fun b z => ?_, fun b z => ?_, fun z => ?_⟩, fun a z y => y.elim (fun y => dz2 a (.inr y) (.inl z)) (dj2 a z), rs2, v, vs, Sa, Sr, rfl, fun _ z => .inl z, fun _ z => .inr z, fun a z y => dz2 a (.inr z) (.inr y), ?_, rw2⟩
      · have hh : S1 b ∨ H1 b = none → S b ∨ H b = none := fun z => z.elim (fun z => n1.own b (.inl z)) fun n => by
          by_cases hb : S b
          · exact .inl hb
          · exact .inr (n1.free n hb)
        rcases z with z | z | z
        · exact hh (n2.own b (.inl z))
        · exact n1.own b (.inr z)
        · exact hh (n2.own b (.inr z))
      · rcases z with z | z | z
        · exact n2.al b (.inl z)
        · intro n
          cases eo : H1 b with
          | none => exact n1.al b (.inr z) eo
          | some o => rw [hold b o z eo] at n; cases n
        · exact n2.al b (.inr z)
      · rw [Bool.and_eq_true] at z
        exact (n1.qt z.1).trans (n2.qt z.2)
      · refine r1.mono (fun a o eo => ?_) (fun _ z => z) hold
        rw [hid_some] at *
        refine ⟨n2.keep a o (fun z => eo.2 (.inr z)) eo.1, fun z => ?_⟩
        rcases z with z | z | z | z
        · exact eo.2 (.inl (.inl z))
        · rcases n2.own a (.inl z) with z | z
          · exact eo.2 (.inr z)
          · rw [eo.1] at z; cases z
        · exact eo.2 (.inl (.inr z))
        · rcases n2.own a (.inr z) with z | z
          · exact eo.2 (.inr z)
          · rw [eo.1] at z; cases z
def setsV : List Nat → List V → L2.St → L2.St
  | i :: r, w :: s, σ => setsV r s (σ.set i (some w))
  | _, _, σ => σ
theorem RepSl.stores {P : Program} {w : World} {K : PySem.W.Frag} {ca : Nat → Addr} {G H : Hp} : {is : List Nat} → {ws : List W} → {vs : List V} → {ρ : Ro} → {σ : L2.St} → {T U : AS} → RepSl P w K ca G H ρ σ U → dis T U → RepWs P w K ca G H ws vs T → RepSl P w K ca G H (setsN is ws ρ) (setsV is vs σ) (un T U)
  | [], _, _, _, _, _, _, h, _, _ => by
    unfold setsN setsV
    exact h.mono (Same.refl _) (fun _ z => .inr z) fun _ _ _ e => e
  | i :: r, [], _, _, _, _, _, h, _, hw => by
    have e : _ = [] := hw
    subst e
    unfold setsN setsV
    exact h.mono (Same.refl _) (fun _ z => .inr z) fun _ _ _ e => e
  | i :: r, y :: ws, _, ρ, σ, T, U, h, dj, hw => by
    obtain ⟨v, t, S1, S2, e, a1, a2, dd, h1, h2⟩ := hw
    subst e
    unfold setsN setsV
    have q := RepSl.store (i := i) h (fun a z y => dj a (a1 a z) y) h1
    exact (RepSl.stores (is := r) q (fun a z y => y.elim (fun y => dd a y z) (dj a (a2 a z))) h2).mono (Same.refl _) (fun a z => z.elim (fun z => .inl (a2 a z)) fun z => z.elim (fun z => .inl (a1 a z)) .inr) fun _ _ _ e => e
theorem setsV_pin : {is : List Nat} → {vs : List V} → {σ : L2.St} → (∀ i ∈ is, i ∉ pin) → Pn pin σ (setsV is vs σ)
  | [], _, _, _ => Pn.refl
  | _ :: _, [], _, _ => Pn.refl
  | i :: r, v :: vs, σ, h => by
    unfold setsV
    refine Pn.trans (fun j hj => ?_) (setsV_pin (is := r) fun i hi => h i (List.mem_cons_of_mem _ hi))
    rw [List.getElem?_set_ne]
    rintro rfl
    exact h _ List.mem_cons_self hj
theorem kp_sets {is : List Nat} {vs : List V} {G : Hp} (hks : ∀ i ∈ is, i ∉ ca.ks) (h : ca.kp σ G) : ca.kp (setsV is vs σ) G := by
  induction is generalizing vs σ with
  | nil => exact h
  | cons i r ih =>
    cases vs with
    | nil => exact h
    | cons v vs =>
      unfold setsV
      exact ih (fun j hj => hks j (List.mem_cons_of_mem _ hj)) (ca.kmS (hks i List.mem_cons_self) h)
theorem okw_stores {ws : List W} {vs : List V} {is : List Nat} (fr : Fr X ca Z S ρ σ H) (o : OKW X ca Z S H q σ ws ρ1 vs H1) (sm : Same H1 H2) (hi : ∀ i ∈ is, i ∉ pin) (hks : ∀ i ∈ is, i ∉ ca.ks) : OKS X ca pin Z S H σ (setsN is ws ρ1) (setsV is vs σ) H2 := by
  obtain ⟨S', Sw, n, dj, rs, rw'⟩ := o
  have dz : dis Z (un S' Sw) := n.dj fr.dj fr.az
  have hg : Same (hid H1 (un Z (un S' Sw))) (hid H2 (un Z (un S' Sw))) := hid_upd_same sm fun a z => z.elim (n.az fr.dj fr.az a) (n.al a)
  refine ⟨un S' Sw, ⟨fun b o hb e => sm b o (n.keep b o hb e), n.own, fun b z => Same.ne sm (n.al b z), fun z => nomatch z⟩, ⟨dz, fun a z => Same.ne sm (n.az fr.dj fr.az a z), fun b z => Same.ne sm (n.al b z), ?_, kp_sets hks (ca.km0 (n.hid.trans hg) fr.kp)⟩, setsV_pin hi⟩
  have q := (rs.mono hg (fun _ z => z) (fun a o _ e => sm a o e)).stores (is := is) (fun a z y => dj a y z) (rw'.mono hg (fun _ z => z) fun a o _ e => sm a o e)
  exact q.mono (Same.refl _) (fun a z => z.elim .inr .inl) fun _ _ _ e => e
theorem RepWs.len {P : Program} {w : World} {K : PySem.W.Frag} {ca : Nat → Addr} {G H : Hp} : {ws : List W} → {vs : List V} → {T : AS} → RepWs P w K ca G H ws vs T → ws.length = vs.length
  | [], _, _, h => by
    have e : _ = [] := h
    rw [e]
    rfl
  | y :: ws, _, _, h => by
    obtain ⟨v, t, S1, S2, e, a1, a2, dd, h1, h2⟩ := h
    rw [e, List.length_cons, List.length_cons, RepWs.len h2]
/-- a, b = x, y: plain local names -/
theorem ds_par2 {i j : Nat} {x y : Str} {px py pt : Pos} {kt k2 pt2} (hc : X.calm = true) (hN : X.N.Nodup) (hi : X.N[i]? = some x) (hj : X.N[j]? = some y) (hij : i ≠ j) (hx : X.env.scope.names.lookup x = some .local) (hy : X.env.scope.names.lookup y = some .local)
    (ha : DLW X ca Wx q [a, b] gl) (hw : swappedStores [.Tuple [.Name x px, .Name y py] kt pt] (.Tuple [a, b] k2 pt2) X.env = pure (some [x, y])) (hpn : ∀ z ∈ [i, j], z ∉ pin := by decide) (hks : ∀ z ∈ [i, j], z ∉ ca.ks := by first | exact fun _ _ => List.not_mem_nil | exact ksv (by decide))
    (hs : swapsWithSole [.Tuple [.Name x px, .Name y py] kt pt] (.Tuple [a, b] k2 pt2) pos.line X.env = pure false := by rfl) :
    DS X ca Wx pin (.Assign [.Tuple [.Name x px, .Name y py] kt pt] (.Tuple [a, b] k2 pt2) pos) (s_par [i, j] gl) := by
  refine ⟨(ps_par hc hN hi hj hij hx hy ha.run hw hs).imp fun D σ H ⟨Z, S, ρ, fr, po⟩ => ⟨Z, S, ρ, fr, ?_⟩⟩
  unfold s_par at po
  cases e : gl ρ with
  | no => rw [e] at po; exact po
  | ex x ρ1 => rw [e] at po; exact fun cls d H' o => po cls d σ H' o.x
  | ok ws ρ1 =>
    rw [e] at po
    simp only at po
    split at po
    · rename_i hl
      intro vs H1 o
      have hlv : vs.length = 2 := by obtain ⟨_, _, _, _, _, r⟩ := o; rw [← r.len]; exact hl
      match vs, hlv with
      | [v, u], _ => exact ⟨v, u, rfl, po _ H1 (okw_stores (is := [i, j]) fr o (Same.refl _) hpn hks)⟩
    · exact po.elim
theorem ds_par3 {i j l : Nat} {x y z : Str} {px py pz pt : Pos} {kt k2 pt2} (hc : X.calm = true) (hN : X.N.Nodup) (hi : X.N[i]? = some x) (hj : X.N[j]? = some y) (hl : X.N[l]? = some z) (hij : i ≠ j) (hil : i ≠ l) (hjl : j ≠ l)
    (hx : X.env.scope.names.lookup x = some .local) (hy : X.env.scope.names.lookup y = some .local) (hz : X.env.scope.names.lookup z = some .local)
    (ha : DLW X ca Wx q [a, b, c] gl) (hw : swappedStores [.Tuple [.Name x px, .Name y py, .Name z pz] kt pt] (.Tuple [a, b, c] k2 pt2) X.env = pure (some [x, y, z])) (hpn : ∀ z ∈ [i, j, l], z ∉ pin := by decide) (hks : ∀ z ∈ [i, j, l], z ∉ ca.ks := by first | exact fun _ _ => List.not_mem_nil | exact ksv (by decide))
    (hs : swapsWithSole [.Tuple [.Name x px, .Name y py, .Name z pz] kt pt] (.Tuple [a, b, c] k2 pt2) pos.line X.env = pure false := by rfl) :
    DS X ca Wx pin (.Assign [.Tuple [.Name x px, .Name y py, .Name z pz] kt pt] (.Tuple [a, b, c] k2 pt2) pos) (s_par [i, j, l] gl) := by
  refine ⟨(ps_par3 hc hN hi hj hl hij hil hjl hx hy hz ha.run hw hs).imp fun D σ H ⟨Z, S, ρ, fr, po⟩ => ⟨Z, S, ρ, fr, ?_⟩⟩
  unfold s_par at po
  cases e : gl ρ with
  | no => rw [e] at po; exact po
  | ex x ρ1 => rw [e] at po; exact fun cls d H' o => po cls d σ H' o.x
  | ok ws ρ1 =>
    rw [e] at po
    simp only at po
    split at po
    · rename_i hl
      intro vs H1 o
      have hlv : vs.length = 3 := by obtain ⟨_, _, _, _, _, r⟩ := o; rw [← r.len]; exact hl
      match vs, hlv with
      | [v, u, t], _ => exact ⟨v, u, t, rfl, po _ H1 (okw_stores (is := [i, j, l]) fr o (Same.refl _) hpn hks)⟩
    · exact po.elim
/-- names in order -/
def NmsOk (X : Cx) : List Expr → List Nat → Prop
  | [], [] => True
  | .Name x _ :: r, i :: is => X.N[i]? = some x ∧ Loc X.env.scope x ∧ (X.fn x = true ∨ X.env.scope.names.lookup x = some .local) ∧ NmsOk X r is
  | _, _ => False
def gSets (is : List Nat) : TGs := fun vs σ H Q => vs.length = is.length ∧ Q (setsV is vs σ) H
theorem pgs_names : {tgs : List Expr} → {is : List Nat} → X.N.Nodup → NmsOk X tgs is → PGs X tgs (gSets is)
  | [], [], _, _ => pgs_nil.imp fun vs σ H Q ⟨hl, h⟩ => ⟨List.eq_nil_of_length_eq_zero hl, h⟩
  | .Name x p :: r, i :: is, hN, ⟨h1, h2, h3, h4⟩ => (pgs_cons (pg_name hN h1 h2 h3) (pgs_names hN h4)).imp fun vs σ H Q ⟨hl, h⟩ => by
    cases vs with
    | nil => cases hl
    | cons v t => exact ⟨v, t, rfl, by simpa using hl, h⟩
  | [], _ :: _, _, h => h.elim
  | _ :: _, [], _, h => by unfold NmsOk at h; split at h <;> simp_all
/-- a, b, .. = x, y, .. by a tuple -/
theorem ds_parN {is : List Nat} {n : Nat} {kt k2 pt pt2} (hc : X.calm = true) (hN : X.N.Nodup) (hm : NmsOk X tgs is) (ha : DLW X ca Wx q es gl) (hn : is.length = n := by rfl) (hz : n ≤ 1000 := by decide) (hpn : ∀ z ∈ is, z ∉ pin := by decide) (hks : ∀ z ∈ is, z ∉ ca.ks := by first | exact fun _ _ => List.not_mem_nil | exact ksv (by decide))
    (hw : swappedStores [.Tuple tgs kt pt] (.Tuple es k2 pt2) X.env = pure none := by rfl) (hs : swapsWithSole [.Tuple tgs kt pt] (.Tuple es k2 pt2) pos.line X.env = pure false := by rfl)
    (hl : (assignEach tgs X.env).length = n := by rfl) (hst : (assignEach tgs X.env).findIdx? (·.1) = none := by rfl) (h1 : (assignEach [.Tuple tgs kt pt] X.env).map (·.2) = [assign (.Tuple tgs kt pt) X.env] := by rfl) :
    DS X ca Wx pin (.Assign [.Tuple tgs kt pt] (.Tuple es k2 pt2) pos) (s_par is gl) := by
  refine ⟨(ps_asg (pe_tup ha.run) (pg_tup hc (pgs_names hN hm) hl hst) hs hw h1).imp fun D σ H ⟨Z, S, ρ, fr, po⟩ => ⟨Z, S, ρ, fr, ?_⟩⟩
  unfold s_par at po
  cases e : gl ρ with
  | no => rw [e] at po; exact po
  | ex x ρ1 => rw [e] at po; exact fun cls d H' o => po cls d σ H' o.x
  | ok ws ρ1 =>
    rw [e] at po
    simp only at po
    split at po
    · rename_i hl2
      intro vs H1 o
      have hlv : vs.length = is.length := by obtain ⟨_, _, _, _, _, r⟩ := o; rw [← r.len]; exact hl2
      refine ⟨by rw [hlv, hn, sizeLine_eq]; omega, fun p hp => ⟨p, vs, rfl, SqT.of upd_same, by rw [hlv, hn], hlv, po _ _ (okw_stores (is := is) fr o (same_new hp) hpn hks)⟩⟩
    · exact po.elim
end
end L3

set_option Elab.async false
set_option linter.all false
set_option maxRecDepth 100000
set_option maxHeartbeats 1000000
/-! L3m: defs and their calls. -/
namespace L3
open PySem PySem.Spec PyProof.Rows L2

/-- what a def makes of its arguments: its value, and what its changed parameters (mp) are then -/
inductive FR where
  | ok (w : W) (ws : List W)
  | ex (x : Ex) (ws : List W)
  | no
abbrev Den := List W → FR
def outs : List Nat → Ro → Option (List W)
  | [], _ => some []
  | i :: r, ρ => match ρ[i]? with
    | some (some w) => match outs r (ρ.set i none) with
      | some ws => some (w :: ws)
      | none => none
    | _ => none
def d_fun (N : Nat) (mp : List Nat) (f : Ro → SR) : Den := fun ws => match f (ws.map some ++ List.replicate (N - ws.length) none) with
  | .nx ρ => match outs mp ρ with
    | some us => .ok (.d .non) us
    | none => .no
  | .rt w ρ => match outs mp ρ with
    | some us => .ok w us
    | none => .no
  | .ex x ρ => match outs mp ρ with
    | some us => .ex x us
    | none => .no
  | _ => .no
def selV (mp : List Nat) (vs : List V) : List V := mp.map fun i => vs.getD i .non
section
variable (P : Program) (w : World) (K : PySem.W.Frag) (cl : Nat → Addr)
def OKF (mp : List Nat) (vs : List V) (Z S : AS) (H : Hp) (y : W) (us : List W) (v : V) (H' : Hp) : Prop :=
  ∃ S' Sw, Nx S H false (un S' Sw) H' ∧ dis S' Sw ∧ RepWs P w K cl (hid H' (un Z (un S' Sw))) H' us (selV mp vs) S' ∧ RepW P w K cl (hid H' (un Z (un S' Sw))) H' y v Sw
def EXF (mp : List Nat) (vs : List V) (Z S : AS) (H : Hp) (x : Ex) (us : List W) (c : Value) (d : Option Addr) (H' : Hp) : Prop :=
  ∃ S', Nx S H false S' H' ∧ RepWs P w K cl (hid H' (un Z S')) H' us (selV mp vs) S' ∧ RepX P w K cl (hid H' (un Z S')) x c d
def PoF (mp : List Nat) (vs : List V) (Z S : AS) (H : Hp) (r : FR) (Q : VK) (E : XK) : Prop := match r with
  | .ok y us => ∀ v H', OKF P w K cl mp vs Z S H y us v H' → Q v H'
  | .ex x us => ∀ c d H', EXF P w K cl mp vs Z S H x us c d H' → E c d H'
  | .no => False
/-- the promise of a def whose meaning is D -/
def spD (mp : List Nat) (n : Nat) (D : Den) : Sp := fun vs H Q E => vs.length = n ∧ ∃ Z S ws, dis Z S ∧ (∀ a, Z a → H a ≠ none) ∧ (∀ a, S a → H a ≠ none) ∧ RepWs P w K cl (hid H (un Z S)) H ws vs S ∧ PoF P w K cl mp vs Z S H (D ws) Q E
end
section
variable {P : Program} {w : World} {K : PySem.W.Frag} {cl : Nat → Addr} {G H : Hp}
theorem RepSl.outs : {mp : List Nat} → {ρ : Ro} → {σ : L2.St} → {S : AS} → {us : List W} → RepSl P w K cl G H ρ σ S → L3.outs mp ρ = some us → ∃ vs, RepWs P w K cl G H us vs S ∧ vs.length = mp.length ∧ ∀ j (h : j < mp.length), ∃ v, vs[j]? = some v ∧ σ[mp[j]]? = some (some v)
  | [], ρ, σ, S, us, h, e => by
    unfold L3.outs at e
    cases e
    exact ⟨[], rfl, rfl, fun j h => absurd h (Nat.not_lt_zero _)⟩
  | i :: r, ρ, σ, S, us, h, e => by
    unfold L3.outs at e
    split at e
    · rename_i y hy
      split at e
      · rename_i ys hys
        cases e
        obtain ⟨v, T, U, e1, a1, a2, dj, r1, r2⟩ := h.take hy
        obtain ⟨vs, h1, h2, h3⟩ := RepSl.outs (mp := r) r2 hys
        refine ⟨v :: vs, ⟨v, vs, T, U, rfl, a1, a2, dj, r1, h1⟩, by simp [h2], fun j hj => ?_⟩
        cases j with
        | zero => exact ⟨v, rfl, e1⟩
        | succ j => exact h3 j (by simpa using hj)
      · cases e
    · cases e
theorem RepSl.start : {ws : List W} → {vs : List V} → {S : AS} → {n : Nat} → RepWs P w K cl G H ws vs S → RepSl P w K cl G H (ws.map some ++ List.replicate n none) (vs.map some ++ List.replicate n none) S
  | [], _, S, n, h => by
    have e : _ = [] := h
    subst e
    show RepSl P w K cl G H (List.replicate n none) (List.replicate n none) S
    induction n with
    | zero => rfl
    | succ n ih => exact ⟨none, _, rfl, ih⟩
  | y :: ws, _, S, n, h => by
    obtain ⟨v, t, S1, S2, e, a1, a2, dj, h1, h2⟩ := h
    subst e
    exact ⟨v, _, S1, S2, rfl, a1, a2, dj, h1, RepSl.start h2⟩
end
section
variable {P : Program} {w : World} {K : PySem.W.Frag} {mg : Str → Option Value} {base : Heap} {cl : Nat → Addr}
theorem start_get {N : List Str} {vs : List V} {i : Nat} {v : V} (h : i < vs.length) (e : (L2.start N vs)[i]? = some (some v)) : vs.getD i .non = v := by
  unfold L2.start at e
  rw [List.getElem?_append_left (by simpa using h), List.getElem?_map] at e
  rw [List.getD_eq_getElem?_getD]
  cases q : vs[i]? with
  | none => rw [q] at e; cases e
  | some u => rw [q] at e; cases e; rfl
theorem sel_outs {N : List Str} {mp : List Nat} {vs us : List V} {σ : L2.St} (hm : ∀ i ∈ mp, i < vs.length) (hp : Pn mp (L2.start N vs) σ) (hl : us.length = mp.length) (h : ∀ j (h : j < mp.length), ∃ v, us[j]? = some v ∧ σ[mp[j]]? = some (some v)) : us = selV mp vs := by
  apply List.ext_getElem?
  intro j
  by_cases hj : j < mp.length
  · obtain ⟨v, e1, e2⟩ := h j hj
    have mem : mp[j] ∈ mp := List.getElem_mem hj
    rw [hp _ mem] at e2
    rw [e1]
    unfold selV
    rw [List.getElem?_map, List.getElem?_eq_getElem hj, Option.map_some, start_get (hm _ mem) e2]
  · unfold selV
    rw [List.getElem?_eq_none (by omega), List.getElem?_eq_none (by simpa using hj)]
/-- THE RULE: a def by its body -/
theorem okD {x qual : Str} {st : Stmt} {f : Addr} {fd : FuncData} {N ps : List Str} {k n : Nat} {mp : List Nat} {g : Ro → SR} (F : Fun K x qual st f fd) (S : FnScope N ps (defScope st)) (hn : ps.length = n) (hm : ∀ i ∈ mp, i < n)
    (hb : ∀ (cdv : Value) (A : Around) (outer : List Env) (s : Shared) (H : Hp) (E : XK), Room k (A.deeper (envOfC qual (defScope st) s.heap.objs.size f cdv)) →
      DSs (cxOf (L2.CX P w) P w K mg base N qual (defScope st) f cdv A outer s H E) (Ca.of cl) (fun c d _ H' => E c d H') mp (defBody st) g) : FnOk P w K mg base (L2.CX P w) (k + 1) f fd ps (spD P w K cl mp n (d_fun N.length mp g)) := by
  refine Fun.okX F S (fun vs H Q E h => by rw [h.1, hn]) fun cdv A outer s H vs Q E hr hsp => ⟨_, (hb cdv A outer s H E hr).run, ?_⟩
  obtain ⟨hl, Z, T, ws, dj, az, as, rw', po⟩ := hsp
  have hlen := rw'.len
  have e0 : L2.start N vs = vs.map some ++ List.replicate (N.length - ws.length) none := by unfold L2.start; rw [hlen]
  refine ⟨Z, T, ws.map some ++ List.replicate (N.length - ws.length) none, ⟨dj, az, as, ?_, trivial⟩, ?_⟩
  · rw [e0]
    exact RepSl.start rw'
  · unfold d_fun at po
    generalize hr' : g (ws.map some ++ List.replicate (N.length - ws.length) none) = r at po
    have hm' : ∀ i ∈ mp, i < vs.length := fun i h => by rw [hl]; exact hm i h
    cases r with
    | nx ρ =>
      simp only at po
      cases eo : outs mp ρ with
      | none => rw [eo] at po; exact po.elim
      | some us =>
        rw [eo] at po
        intro σ' H' ⟨S', nx, fr, pn⟩
        obtain ⟨ys, h1, h2, h3⟩ := fr.rep.outs eo
        have es := sel_outs hm' pn h2 h3
        subst es
        have eh : hid H' (un Z (un S' emp)) = hid H' (un Z S') := hid_congr fun a => ⟨fun z => z.elim .inl fun z => z.elim .inr fun z => z.elim, fun z => z.elim .inl fun z => .inr (.inl z)⟩
        refine po .non H' ⟨S', emp, ⟨nx.keep, fun b z => z.elim (nx.own b) fun z => z.elim, fun b z => z.elim (nx.al b) fun z => z.elim, nx.qt⟩, fun _ _ z => z, ?_, rfl⟩
        rw [eh]; exact h1
    | rt y ρ =>
      simp only at po
      cases eo : outs mp ρ with
      | none => rw [eo] at po; exact po.elim
      | some us =>
        rw [eo] at po
        intro v σ' H' ⟨S', Sw, nx, dj', rs, rv, pn⟩
        obtain ⟨ys, h1, h2, h3⟩ := rs.outs eo
        have es := sel_outs hm' pn h2 h3
        subst es
        exact po v H' ⟨S', Sw, nx, dj', h1, rv⟩
    | ex x ρ =>
      simp only at po
      cases eo : outs mp ρ with
      | none => rw [eo] at po; exact po.elim
      | some us =>
        rw [eo] at po
        intro c d σ' H' ⟨S', nx, fr, rx, pn⟩
        obtain ⟨ys, h1, h2, h3⟩ := fr.rep.outs eo
        have es := sel_outs hm' pn h2 h3
        subst es
        exact po c d H' ⟨S', nx, h1, rx⟩
    | br ρ => exact po.elim
    | ct ρ => exact po.elim
    | no => exact po.elim
end

/-! ### calls with data -/
def c_call (M : Den) (gl : Ro → LR) : Ro → ER := fun ρ => match gl ρ with
  | .ok ds ρ1 => match M (ds.map .d) with
    | .ok w [] => .ok w ρ1
    | .ex x [] => .ex x ρ1
    | _ => .no
  | .ex x ρ1 => .ex x ρ1
  | .no => .no
section
variable {X : Cx} {ca : Ca} {Wx : WX} {Z S S1 S2 T : AS} {σ σ1 : L2.St} {H H1 H2 G : Hp} {ρ ρ1 ρ2 : Ro} {q q1 q2 q3 k k1 k2 k3 : Bool} {a b c e tg : Expr} {es tgs : List Expr} {fa fb fc : Ro → ER} {pos p p2 apos : Pos} {pins : List (Addr × Obj)} {s : Shared} {pin : List Nat} {rest : List Expr}
theorem RepWs.ofD {P : Program} {w : World} {K : PySem.W.Frag} {cl : Nat → Addr} {G H : Hp} : {ds : List D} → {vs : List V} → RepDs P w K cl G ds vs → RepWs P w K cl G H (ds.map .d) vs emp
  | [], _, h => h
  | d :: r, _, h => by
    obtain ⟨x, t, e, h1, h2⟩ := h
    exact ⟨x, t, emp, emp, e, fun _ z => z, fun _ z => z, fun _ z => z.elim, h1, RepWs.ofD h2⟩
/-- behind a call with data: all is kept -/
theorem okf_data {y : W} {v : V} {mp : List Nat} {vs : List V} {us : List W} (nx : Nx S H q S1 H1) (fr : Fr X ca Z S1 ρ1 σ H1) (o : OKF X.prog X.w X.K ca mp vs (un Z S1) emp H1 y us v H2) : OKE X ca Z S H q σ y ρ1 v H2 := by
  obtain ⟨S', Sw, n, dj, r1, r2⟩ := o
  have sm : Same H1 H2 := fun b o e => n.keep b o (fun z => z.elim) e
  have new : ∀ b, Sw b → H1 b = none := fun b z => (n.own b (.inr z)).elim (fun z => z.elim) id
  have n2 : Nx S1 H1 true (un S1 Sw) H2 := ⟨fun b o _ e => sm b o e, fun b z => z.elim .inl fun z => .inr (new b z), fun b z => z.elim (fun z => Same.ne sm (fr.as b z)) fun z => n.al b (.inr z), fun _ => sm⟩
  refine ⟨S1, Sw, (nx.trans n2).weak (fun z => by rw [z]; rfl), fun a z y => fr.as a z (new a y), fr.rep.mono n2.hid (fun _ z => z) (fun a o _ e => sm a o e), r2.mono (hid_anti fun a z => ?_) (fun _ z => z) fun _ _ _ e => e⟩
  rcases z with z | z | z
  · exact .inl (.inl z)
  · exact .inl (.inr z)
  · exact .inr (.inr z)
theorem exf_data {x : Ex} {mp : List Nat} {vs : List V} {us : List W} {c : Value} {d : Option Addr} (nx : Nx S H q S1 H1) (fr : Fr X ca Z S1 ρ1 σ H1) (o : EXF X.prog X.w X.K ca mp vs (un Z S1) emp H1 x us c d H2) : EXE X ca Z S H σ x ρ1 c d H2 := by
  obtain ⟨S', n, r1, r2⟩ := o
  have sm : Same H1 H2 := fun b o e => n.keep b o (fun z => z.elim) e
  have n2 : Nx S1 H1 true S1 H2 := Nx.same sm fr.as
  refine ⟨S1, (nx.trans n2).weak (fun z => nomatch z), fr.same sm, ?_⟩
  obtain ⟨ec, dd, fv, xs, ed, g1, g2, g3⟩ := r2
  have hs : Same (hid H2 (un (un Z S1) S')) (hid H2 (un Z S1)) := hid_anti fun a z => .inl z
  exact ⟨ec, dd, fv, xs, ed, hs _ _ g1, g2.mono hs, g3⟩
theorem spD_data {M : Den} {mp : List Nat} {n : Nat} {ds : List D} {vs : List V} {Q : VK} {E : XK} (fr : Fr X ca Z S1 ρ1 σ H1) (hl : vs.length = n) (r : RepDs X.prog X.w X.K ca (hid H1 (un Z S1)) ds vs) (h : PoF X.prog X.w X.K ca mp vs (un Z S1) emp H1 (M (ds.map .d)) Q E) :
    spD X.prog X.w X.K ca mp n M vs H1 Q E := by
  have e : hid H1 (un (un Z S1) emp) = hid H1 (un Z S1) := hid_congr fun a => ⟨fun z => z.elim id fun z => z.elim, .inl⟩
  exact ⟨hl, un Z S1, emp, ds.map .d, fun _ _ z => z, fr.al, fun _ z => z.elim, by rw [e]; exact RepWs.ofD r, h⟩
/-- a def of which all is known that a call needs -/
structure OkF (P : Program) (w : World) (K : PySem.W.Frag) (mg : Str → Option Value) (base : Heap) (cl : Nat → Addr) (k : Nat) (mp : List Nat) (n : Nat) (M : Den) (f : Addr) : Prop where
  ex : ∃ fd ps, FnOk P w K mg base (L2.CX P w) k f fd ps (spD P w K cl mp n M) ∧ Binds K fd ps []
  kp : PySem.W.keepIn K (.ref f) = true
theorem call_imp {M : Den} {n kk : Nat} {ds : List D} {vs : List V} {Q : VK} (hl : ds.length = n) (nx : Nx S H q S1 H1) (fr : Fr X ca Z S1 ρ1 σ H1) (r : RepDs X.prog X.w X.K ca (hid H1 (un Z S1)) ds vs)
    (po : PoE X ca Wx q Z S σ H (match M (ds.map .d) with | .ok w [] => .ok w ρ1 | .ex x [] => .ex x ρ1 | _ => .no) Q) : spD X.prog X.w X.K ca [] n M vs H1 Q (WE Wx σ) := by
  refine spD_data fr (by rw [← r.length]; exact hl) r ?_
  cases eD : M (ds.map .d) with
  | ok y ws =>
    rw [eD] at po
    intro v H2 o
    cases ws with
    | nil => exact po v H2 (okf_data nx fr o)
    | cons _ _ => exact po.elim
  | ex x ws =>
    rw [eD] at po
    intro cls d H2 o
    cases ws with
    | nil => exact po cls d H2 (exf_data nx fr o)
    | cons _ _ => exact po.elim
  | no => rw [eD] at po; exact po
/-- f(e, ..) -/
theorem de_call {M : Den} {n kk : Nat} {f : Addr} {x : Str} {gl : Ro → LR} (F : OkF X.prog X.w X.K X.mg X.base ca kk [] n M f) (hr : Room kk X.A) (tk : Takes X Wx) (ha : DL X ca Wx q (e :: es) gl) (hl : ∀ ρ ds ρ1, gl ρ = .ok ds ρ1 → ds.length = n) (hm : X.mg x = some (.ref f) := by rfl) (hg : Gl X x := by rfl)
    (hdb : (x == ("__debug__" : Str)) = false := by decide) (he : starEach (e :: es) X.env = (false, eval e X.env) :: starEach es X.env := by rfl) (hpl : (backTo pos (starEach es X.env)).any (·.1) = false := by rfl) :
    DE X ca Wx q (.Call (.Name x p) (e :: es) [] pos) (c_call M gl) := by
  obtain ⟨fd, ps, F1, hb⟩ := F.ex
  refine ⟨(pe_callS F1 hr hg hm F.kp hb (fun σ => passAt tk σ) ha.run hdb he hpl).imp fun σ H Q ⟨Z, S, ρ, fr, po⟩ => ⟨Z, S, ρ, fr, ?_⟩⟩
  unfold c_call at po
  cases e : gl ρ with
  | no => rw [e] at po; exact po
  | ex x ρ1 => rw [e] at po; exact po
  | ok ds ρ1 =>
    rw [e] at po
    exact fun vs H1 ⟨S1, nx, fr1, r⟩ => call_imp (kk := kk) (hl _ _ _ e) nx fr1 r po
/-- f() -/
theorem de_call0 {M : Den} {kk : Nat} {f : Addr} {x : Str} (F : OkF X.prog X.w X.K X.mg X.base ca kk [] 0 M f) (hr : Room kk X.A) (tk : Takes X Wx) (hm : X.mg x = some (.ref f) := by rfl) (hg : Gl X x := by rfl) (hdb : (x == ("__debug__" : Str)) = false := by decide) :
    DE X ca Wx true (.Call (.Name x p) [] [] pos) (c_call M l_nil) := by
  obtain ⟨fd, ps, F1, hb⟩ := F.ex
  refine ⟨⟨fun pins s σ H Q I ⟨Z, S, ρ, fr, po⟩ => wpAny_Call_Name_kw (ld_glob I hg hm ?_ hdb)⟩⟩
  exact PySem.W.callWith_K0 I.kIn F.kp (run_fnS (us := []) (vs := []) F1 hr hb (passAt tk σ) I .nil (call_imp (ds := []) (kk := kk) rfl (Nx.refl fr.as) fr rfl po))
/-! ### lengths of argument lists -/
def LLen (n : Nat) (gl : Ro → LR) : Prop := ∀ ρ ds ρ1, gl ρ = .ok ds ρ1 → ds.length = n
theorem llen_nil : LLen 0 l_nil := fun _ _ _ e => by cases e; rfl
theorem llen_cons {n : Nat} {gl : Ro → LR} (h : LLen n gl) : LLen (n + 1) (l_cons fa gl) := fun ρ ds ρ1 e => by
  unfold l_cons at e
  cases e1 : fa ρ with
  | no => rw [e1] at e; cases e
  | ex x ρ2 => rw [e1] at e; cases e
  | ok w ρ2 =>
    rw [e1] at e
    simp only at e
    cases e2 : gl ρ2 with
    | no => rw [e2] at e; cases e
    | ex x ρ3 => rw [e2] at e; cases e
    | ok ds' ρ3 =>
      rw [e2] at e
      cases e
      rw [List.length_cons, h _ _ _ e2]
end
end L3

set_option Elab.async false
set_option linter.all false
set_option maxRecDepth 100000
set_option maxHeartbeats 1000000
/-! L3n: instances made, methods, calls that change what is given. -/
namespace L3
open PySem PySem.Spec PyProof.Rows L2

def c_make (C : Nat) (M : Den) (gl : Ro → LR) : Ro → ER := fun ρ => match gl ρ with
  | .ok ds ρ1 => match M (.ins C [] [] :: ds.map .d) with
    | .ok (.d .non) [w] => .ok w ρ1
    | .ex x [_] => .ex x ρ1
    | _ => .no
  | .ex x ρ1 => .ex x ρ1
  | .no => .no
/-- o.m(..): by the class of o -/
def c_meth (mt : Nat → Option Den) (m : Str) (fo : Ro → ER) (gl : Ro → LR) : Ro → ER := fun ρ => (fo ρ).bind fun w ρ1 => match frz w with
  | .ins C fs vs => match mt C, getf fs vs m with
    | some M, none => match gl ρ1 with
      | .ok ds ρ2 => match M (.d (.ins C fs vs) :: ds.map .d) with
        | .ok w [] => .ok w ρ2
        | .ex x [] => .ex x ρ2
        | _ => .no
      | .ex x ρ2 => .ex x ρ2
      | .no => .no
    | _, _ => .no
  | _ => .no
section
variable {X : Cx} {ca : Ca} {Wx : WX} {Z S S1 S2 T : AS} {σ σ1 : L2.St} {H H1 H2 G : Hp} {ρ ρ1 ρ2 : Ro} {q q1 q2 q3 k k1 k2 k3 : Bool} {a b c e o tg : Expr} {es tgs : List Expr} {fa fb fc fo : Ro → ER} {gl : Ro → LR} {pos p p2 apos : Pos} {pins : List (Addr × Obj)} {s : Shared} {pin : List Nat} {rest : List Expr} {kk n : Nat} {M : Den}

/-! ### C(..) -/
theorem run_makeS {CX : CXT} {C f : Addr} {fd : FuncData} {ps : List Str} {sp : Sp} {E : L2.St → XK} {us : List Value} {vs : List V} {Q : VK} (Mk' : Mk X.K C f) (F : FnOk X.prog X.w X.K X.mg X.base CX kk f fd ps sp) (hr : Room (kk + 1) X.A) (hb : Binds X.K fd ps [])
    (hx : PassesAt CX X σ (E σ)) (I : Inv X pins σ H s) (r : Vals vs us)
    (h : ∀ x dx, H x = none → H dx = none → dx ≠ x → sp (.ref x :: vs) (upd (upd H dx (.own x)) x (.ins C dx [])) (fun v H2 => v = .non ∧ Q (.ref x) H2) (E σ)) :
    wpAny (model X.prog X.w) X.A (call (.ref C) us) (EP X pins σ Q) X.xe s := by
  have hq := h (s.heap.objs.size + 1) s.heap.objs.size (I.hok.fresh (Nat.le_succ _)) (I.hok.fresh (Nat.le_refl _)) (Nat.ne_of_lt (Nat.lt_succ_self _))
  have I2 := Inv.made (C := C) I
  have r2 : Vals (V.ref (s.heap.objs.size + 1) :: vs) (Value.ref (s.heap.objs.size + 1) :: us) := .cons rfl r
  have hl : (Value.ref (s.heap.objs.size + 1) :: us).length = ps.length := by
    have e := r2.length
    rw [F.len _ _ _ _ hq] at e
    exact e.symm
  have b := hb _ (Value.ref (s.heap.objs.size + 1) :: us) I2.kIn (by rw [List.append_nil]; exact hl)
  rw [List.append_nil] at b
  refine wpAny_call (make_map (f := f) I.kIn Mk'.makes Mk'.init (beq_iff_eq.mp Mk'.fn) (codeAny_mono (F.run _ X.stack _ _ ⟨Value.ref (s.heap.objs.size + 1) :: us, []⟩ (Value.ref (s.heap.objs.size + 1) :: us) _ _ (E σ) (hr.make C us [])
    (I2.env0.make C us []) b r2 hq) fun r s' hq' => ?_))
  cases r with
  | error e => exact hx pins _ _ e s' I2 hq'
  | ok fl =>
    cases fl with
    | ret u =>
      obtain ⟨v, H', I3, rv, ev, q3⟩ := I2.after hq'
      subst ev
      exact ⟨rv, ⟨V.ref (s.heap.objs.size + 1), H', I3, rfl, q3⟩⟩
    | next => exact False.elim hq'
    | brk => exact False.elim hq'
    | cont => exact False.elim hq'
/-- what is known of a class that is made -/
structure OkC (P : Program) (w : World) (K : PySem.W.Frag) (mg : Str → Option Value) (base : Heap) (cl : Nat → Addr) (k : Nat) (n : Nat) (M : Den) (C : Nat) : Prop where
  ex : ∃ f fd ps, Mk K (cl C) f ∧ FnOk P w K mg base (L2.CX P w) k f fd ps (spD P w K cl [0] n M) ∧ Binds K fd ps []
theorem make_imp {C : Nat} {ds : List D} {vs : List V} {Q : VK} (hl : ds.length + 1 = n) (nx : Nx S H q S1 H1) (fr : Fr X ca Z S1 ρ1 σ H1) (r : RepDs X.prog X.w X.K ca (hid H1 (un Z S1)) ds vs)
    (po : PoE X ca Wx q Z S σ H (match M (.ins C [] [] :: ds.map .d) with | .ok (.d .non) [w] => .ok w ρ1 | .ex x [_] => .ex x ρ1 | _ => .no) Q) (x dx : Addr) (hx : H1 x = none) (hdx : H1 dx = none) (hne : dx ≠ x) :
    spD X.prog X.w X.K ca [0] n M (.ref x :: vs) (upd (upd H1 dx (.own x)) x (.ins (ca C) dx [])) (fun v H2 => v = .non ∧ Q (.ref x) H2) (WE Wx σ) := by
  generalize hH : upd (upd H1 dx (.own x)) x (.ins (ca C) dx []) = H1'
  have sm : Same H1 H1' := fun b o e => by
    rw [← hH, upd_ne (ne_of_none e hx), upd_ne (ne_of_none e hdx)]; exact e
  have ex : H1' x = some (.ins (ca C) dx []) := by rw [← hH, upd_same]
  have fr' := fr.same sm
  have hxz : ¬ un Z S1 x := fun z => fr.al x z hx
  have g0 : Same (hid H1 (un Z S1)) (hid H1' (un (un Z S1) fun b => b = x)) := fun b o e => by
    rw [hid_some] at *
    exact ⟨sm b o e.1, fun z => z.elim e.2 fun z => by rw [z, hx] at e; cases e.1⟩
  refine ⟨by rw [List.length_cons, ← r.length]; exact hl, un Z S1, (fun b => b = x), .ins C [] [] :: ds.map .d, fun b z y => hxz (y ▸ z), fr'.al, fun b z => by rw [z, ex]; simp, ?_, ?_⟩
  · refine ⟨.ref x, vs, (fun b => b = x), emp, rfl, fun _ z => z, fun _ z => z.elim, fun _ _ z => z, ⟨x, dx, [], emp, rfl, rfl, id, fun _ z => z.elim, ex, rfl, rfl⟩, RepWs.ofD (r.mono g0)⟩
  · have own : ∀ b, b = x → H1 b = none := fun b e => by rw [e]; exact hx
    cases eM : M (.ins C [] [] :: ds.map .d) with
    | no => rw [eM] at po; exact po
    | ok y us =>
      rw [eM] at po
      intro v H2 ⟨S', Sw, n2, dj2, rs2, rw2⟩
      have keep2 : ∀ b o, H1 b = some o → H2 b = some o := fun b o e => n2.keep b o (fun z => by rw [own b z] at e; cases e) (sm b o e)
      have new2 : ∀ b, un S' Sw b → H1 b = none := fun b z => (n2.own b z).elim (own b) fun nn => by
        cases e : H1 b with
        | none => rfl
        | some o => rw [sm b o e] at nn; cases nn
      cases y with
      | d dd =>
        cases dd <;> first | exact po.elim | skip
        match us, po with
        | [], po => exact po.elim
        | _ :: _ :: _, po => exact po.elim
        | [y2], po =>
          refine ⟨rw2, po _ H2 ?_⟩
          obtain ⟨v', s', T1, T2, ev, t1, t2, tj, rv, _⟩ := rs2
          have ev' : [V.ref x] = v' :: s' := ev
          cases ev'
          have n3 : Nx S1 H1 true (un S1 T1) H2 := ⟨fun b o _ e => keep2 b o e, fun b z => z.elim .inl fun z => .inr (new2 b (.inl (t1 b z))), fun b z => z.elim (fun z nn => by
            cases e : H1 b with
            | none => exact fr.as b z e
            | some o => rw [keep2 b o e] at nn; cases nn) fun z => n2.al b (.inl (t1 b z)), fun _ => keep2⟩
          refine ⟨S1, T1, (nx.trans n3).weak (fun z => by rw [z]; rfl), fun b z y => fr.as b z (new2 b (.inl (t1 b y))), fr.rep.mono n3.hid (fun _ z => z) (fun b o _ e => keep2 b o e), rv.mono (hid_anti fun b z => ?_) (fun _ z => z) fun _ _ _ e => e⟩
          rcases z with z | z | z
          · exact .inl (.inl z)
          · exact .inl (.inr z)
          · exact .inr (.inl (t1 b z))
      | _ => exact po.elim
    | ex xx us =>
      rw [eM] at po
      intro cls d H2 ⟨S', n2, rs2, rx2⟩
      match us, po with
      | [], po => exact po.elim
      | _ :: _ :: _, po => exact po.elim
      | [y2], po =>
        have keep2 : Same H1 H2 := fun b o e => n2.keep b o (fun z => by rw [own b z] at e; cases e) (sm b o e)
        refine po cls d H2 ⟨S1, (nx.trans (Nx.same keep2 fr.as)).weak (fun z => nomatch z), fr.same keep2, ?_⟩
        obtain ⟨ec, dd, fv, xs, ed, g1, g2, g3⟩ := rx2
        have hs : Same (hid H2 (un (un Z S1) S')) (hid H2 (un Z S1)) := hid_anti fun a z => .inl z
        exact ⟨ec, dd, fv, xs, ed, hs _ _ g1, g2.mono hs, g3⟩
theorem de_make {C : Nat} {x : Str} (F : OkC X.prog X.w X.K X.mg X.base ca kk (n + 1) M C) (hr : Room (kk + 1) X.A) (tk : Takes X Wx) (ha : DL X ca Wx q (e :: es) gl) (hl : LLen n gl) (hm : X.mg x = some (.ref (ca C)) := by rfl) (hg : Gl X x := by rfl)
    (hdb : (x == ("__debug__" : Str)) = false := by decide) (he : starEach (e :: es) X.env = (false, eval e X.env) :: starEach es X.env := by rfl) (hpl : (backTo pos (starEach es X.env)).any (·.1) = false := by rfl) :
    DE X ca Wx q (.Call (.Name x p) (e :: es) [] pos) (c_make C M gl) := by
  obtain ⟨f, fd, ps, mk, F1, hb⟩ := F.ex
  refine ⟨⟨fun pins s σ H Q I ⟨Z, S, ρ, fr, po⟩ => wpAny_Call_Name_kw (ld_glob I hg hm ?_ hdb)⟩⟩
  refine PySem.W.callWith_K (h₀ := X.base) I.ok.mod.kin mk.kp (thn (ha.run.run pos pins s σ H (fun vs H1 => ∃ ds ρ1, gl ρ = .ok ds ρ1 ∧ OKL X ca Z S H q σ ds ρ1 vs H1) I ⟨Z, S, ρ, fr, ?_⟩) fun us s1 ⟨vs, H1, I1, r, ds, ρ1, e1, o⟩ => ⟨I1.kIn, ?_⟩) he hpl
  · unfold c_make at po
    cases e1 : gl ρ with
    | no => rw [e1] at po; exact po
    | ex x ρ1 => rw [e1] at po; exact po
    | ok ds ρ1 => exact fun vs H1 o => ⟨ds, ρ1, rfl, o⟩
  · unfold c_make at po
    rw [e1] at po
    obtain ⟨S1, nx, fr1, rd⟩ := o
    exact run_makeS mk F1 hr hb (E := WE Wx) (passAt tk σ) I1 r (make_imp (by rw [hl _ _ _ e1]) nx fr1 rd po)
theorem de_make0 {C : Nat} {x : Str} (F : OkC X.prog X.w X.K X.mg X.base ca kk 1 M C) (hr : Room (kk + 1) X.A) (tk : Takes X Wx) (hm : X.mg x = some (.ref (ca C)) := by rfl) (hg : Gl X x := by rfl) (hdb : (x == ("__debug__" : Str)) = false := by decide) :
    DE X ca Wx true (.Call (.Name x p) [] [] pos) (c_make C M l_nil) := by
  obtain ⟨f, fd, ps, mk, F1, hb⟩ := F.ex
  refine ⟨⟨fun pins s σ H Q I ⟨Z, S, ρ, fr, po⟩ => wpAny_Call_Name_kw (ld_glob I hg hm ?_ hdb)⟩⟩
  exact PySem.W.callWith_K0 I.kIn mk.kp (run_makeS (us := []) (vs := []) mk F1 hr hb (E := WE Wx) (passAt tk σ) I .nil (make_imp (ds := []) rfl (Nx.refl fr.as) fr rfl po))

/-! ### o.m(..), o data -/
/-- the methods named m of the classes -/
def MtOk (P : Program) (w : World) (K : PySem.W.Frag) (mg : Str → Option Value) (base : Heap) (cl : Nat → Addr) (k : Nat) (mp : List Nat) (n : Nat) (m : Str) (mt : Nat → Option Den) : Prop :=
  ∀ C M, mt C = some M → ∃ f, Cls K (cl C) ∧ Meth K (cl C) m f ∧ OkF P w K mg base cl k mp n M f
theorem getf_none {fs : List Str} {vs : List D} {xs : List V} {f : Str} (e : getf fs vs f = none) (r : RepDs X.prog X.w X.K ca G vs xs) (hl : fs.length = xs.length) : (fs.zip xs).lookup f = none := by
  induction fs generalizing vs xs with
  | nil => rfl
  | cons g t ih =>
    cases vs with
    | nil =>
      have e2 : xs = [] := r
      subst e2
      cases hl
    | cons d' s =>
      obtain ⟨x, y, ex, h1, h2⟩ := r
      subst ex
      unfold getf at e
      rw [List.zip_cons_cons]
      by_cases c : f = g
      · rw [if_pos c] at e
        cases e
      · rw [if_neg c] at e
        have : (f == g) = false := by simpa using c
        simp [List.lookup, this, ih e h2 (by simpa using hl)]
theorem de_meth {m : Str} {mt : Nat → Option Den} {pl : Sem Bool} (F : MtOk X.prog X.w X.K X.mg X.base ca kk [] (n + 1) m mt) (hr : Room kk X.A) (tk : Takes X Wx) (ho : DB X ca Wx q1 true o fo) (ha : DL X ca Wx q2 (e :: es) gl) (hl : LLen n gl)
    (hst : starEach (e :: es) X.env = (false, eval e X.env) :: starEach es X.env := by rfl) (hpl : (backTo pos (starEach es X.env)).any (·.1) = false := by rfl)
    (ht : eval (.Call (.Attribute o m apos) (e :: es) [] pos) X.env = (do
      let ov ← eval o X.env
      standAt apos.atName
      let (f, first) ← holding [ov] (getMethod ov m pl)
      callWith pos f first (backTo pos (starEach (e :: es) X.env)) (backToKw pos (keywordEach [] X.env))) := by rfl) :
    DE X ca Wx (q1 && q2) (.Call (.Attribute o m apos) (e :: es) [] pos) (c_meth mt m fo gl) := by
  refine ⟨⟨fun pins s σ H Q I ⟨Z, S, ρ, fr, po⟩ => PySem.W.methodCall_KW (pl := pl) ?_ ht⟩⟩
  refine ho.bindE I fr po fun w ρ1 v u s1 H1 I1 r1 o1 po1 => ?_
  obtain ⟨S1, nx1, fr1, rp⟩ := o1
  have rp := rp.d
  revert po1
  generalize frz w = dw at rp
  intro po1
  cases dw with
  | ins C fs vs =>
    obtain ⟨a, dx, xs, rfl, g1, g2, g3⟩ := rp
    obtain rfl : u = Value.ref a := r1
    simp only at po1
    cases em : mt C with
    | none => rw [em] at po1; exact po1.elim
    | some M =>
      cases ef : getf fs vs m with
      | some _ => rw [em, ef] at po1; exact po1.elim
      | none =>
        rw [em, ef] at po1
        obtain ⟨f, c, k, O⟩ := F C M em
        obtain ⟨fd, ps, F1, hb⟩ := O.ex
        refine getmeth_ok I1 (hid_some.mp g1).1 c k (getf_none ef g2 g3) ?_
        refine PySem.W.callWith_K (first := [.ref a]) (h₀ := X.base) I.ok.mod.kin k.kp (thn (ha.run.run pos pins s1 σ H1 (fun ys H2 => ∃ ds ρ2, gl ρ1 = .ok ds ρ2 ∧ OKL X ca Z S1 H1 q2 σ ds ρ2 ys H2) I1 ⟨Z, S1, ρ1, fr1, ?_⟩) fun us s2 ⟨ys, H2, I2, r2, ds, ρ2, e2, o2⟩ => ⟨I2.kIn, ?_⟩) hst hpl
        · cases e2 : gl ρ1 with
          | no => rw [e2] at po1; exact po1
          | ex x ρ2 =>
            rw [e2] at po1
            exact fun cls d H' ⟨S2, n2, r⟩ => po1 cls d H' ⟨S2, (nx1.trans n2).weak (fun z => nomatch z), r⟩
          | ok ds ρ2 => exact fun vs H2 o => ⟨ds, ρ2, rfl, o⟩
        · obtain ⟨S2, nx2, fr2, rd⟩ := o2
          rw [e2] at po1
          have rs : RepD X.prog X.w X.K ca (hid H2 (un Z S2)) (.ins C fs vs) (.ref a) := RepD.mono nx2.hid (.ins C fs vs) ⟨a, dx, xs, rfl, g1, g2, g3⟩
          exact run_fnS (us := .ref a :: us) (vs := .ref a :: ys) F1 hr hb (E := WE Wx) (passAt tk σ) I2 (.cons rfl r2) (call_imp (kk := kk) (ds := .ins C fs vs :: ds) (by rw [List.length_cons, hl _ _ _ e2]) (nx1.trans nx2) fr2 ⟨.ref a, ys, rfl, rs, rd⟩ po1)
  | _ => exact po1.elim
theorem de_meth0 {m : Str} {mt : Nat → Option Den} {pl : Sem Bool} (F : MtOk X.prog X.w X.K X.mg X.base ca kk [] 1 m mt) (hr : Room kk X.A) (tk : Takes X Wx) (ho : DB X ca Wx q1 true o fo)
    (ht : eval (.Call (.Attribute o m apos) [] [] pos) X.env = (do
      let ov ← eval o X.env
      standAt apos.atName
      let (f, first) ← holding [ov] (getMethod ov m pl)
      callWith pos f first (backTo pos (starEach [] X.env)) (backToKw pos (keywordEach [] X.env))) := by rfl) :
    DE X ca Wx q1 (.Call (.Attribute o m apos) [] [] pos) (c_meth mt m fo l_nil) := by
  refine ⟨⟨fun pins s σ H Q I ⟨Z, S, ρ, fr, po⟩ => PySem.W.methodCall_KW (pl := pl) ?_ ht⟩⟩
  refine ho.bindE I fr po fun w ρ1 v u s1 H1 I1 r1 o1 po1 => ?_
  obtain ⟨S1, nx1, fr1, rp⟩ := o1
  have rp := rp.d
  revert po1
  generalize frz w = dw at rp
  intro po1
  cases dw with
  | ins C fs vs =>
    obtain ⟨a, dx, xs, rfl, g1, g2, g3⟩ := rp
    obtain rfl : u = Value.ref a := r1
    simp only at po1
    cases em : mt C with
    | none => rw [em] at po1; exact po1.elim
    | some M =>
      cases ef : getf fs vs m with
      | some _ => rw [em, ef] at po1; exact po1.elim
      | none =>
        rw [em, ef] at po1
        obtain ⟨f, c, k, O⟩ := F C M em
        obtain ⟨fd, ps, F1, hb⟩ := O.ex
        refine getmeth_ok I1 (hid_some.mp g1).1 c k (getf_none ef g2 g3) ?_
        exact PySem.W.callWith_K0 (first := [.ref a]) I1.kIn k.kp (run_fnS (us := [.ref a]) (vs := [.ref a]) F1 hr hb (E := WE Wx) (passAt tk σ) I1 (.cons rfl .nil) (call_imp (kk := kk) (ds := [.ins C fs vs]) rfl nx1 fr1 ⟨.ref a, [], rfl, ⟨a, dx, xs, rfl, g1, g2, g3⟩, rfl⟩ po1))
  | _ => exact po1.elim
end
end L3

set_option Elab.async false
set_option linter.all false
set_option maxRecDepth 100000
set_option maxHeartbeats 1000000
/-! L3o: calls that change what stands in slots. -/
namespace L3
open PySem PySem.Spec PyProof.Rows L2

def c_callM (M : Den) (is : List Nat) (gl : Ro → LW) : Ro → ER := fun ρ => match gl ρ with
  | .ok ws ρ1 => match M ws with
    | .ok w us => .ok w (setsN is us ρ1)
    | .ex x us => .ex x (setsN is us ρ1)
    | .no => .no
  | .ex x ρ1 => .ex x ρ1
  | .no => .no
/-- o.m(..), o a slot's object of class C, changed -/
def c_methM (mt : Nat → Option Den) (m : Str) (is : List Nat) (gl : Ro → LW) : Ro → ER := fun ρ => match gl ρ with
  | .ok (.ins C fs vs :: ws) ρ1 => match mt C, getf fs (frzs vs) m with
    | some M, none => match M (.ins C fs vs :: ws) with
      | .ok w us => .ok w (setsN is us ρ1)
      | .ex x us => .ex x (setsN is us ρ1)
      | .no => .no
    | _, _ => .no
  | .ok _ _ => .no
  | .ex x ρ1 => .ex x ρ1
  | .no => .no
def Mv (σ : L2.St) : List (Option Nat) → List V → Prop
  | [], [] => True
  | none :: r, _ :: vs => Mv σ r vs
  | some i :: r, v :: vs => σ[i]? = some (some v) ∧ Mv σ r vs
  | _, _ => False
def mps : Nat → List (Option Nat) → List Nat
  | _, [] => []
  | k, none :: r => mps (k + 1) r
  | k, some _ :: r => k :: mps (k + 1) r
def slots : List (Option Nat) → List Nat
  | [] => []
  | none :: r => slots r
  | some i :: r => i :: slots r
/-- the slots is hold the values xs -/
def PutOk (σ : L2.St) : List Nat → List V → Prop
  | [], [] => True
  | i :: r, v :: vs => σ[i]? = some (some v) ∧ PutOk σ r vs
  | _, _ => False
theorem Mv.put {σ : L2.St} : {mv : List (Option Nat)} → {vs pre : List V} → Mv σ mv vs → PutOk σ (slots mv) ((mps pre.length mv).map fun i => (pre ++ vs).getD i .non)
  | [], [], _, _ => trivial
  | none :: r, v :: vs, pre, h => by
    have := Mv.put (pre := pre ++ [v]) (show Mv σ r vs from h)
    rw [List.length_append, List.append_assoc] at this
    exact this
  | some i :: r, v :: vs, pre, h => by
    have := Mv.put (pre := pre ++ [v]) h.2
    rw [List.length_append, List.append_assoc] at this
    refine ⟨?_, this⟩
    show σ[i]? = some (some ((pre ++ v :: vs).getD pre.length .non))
    rw [List.getD_eq_getElem?_getD, List.getElem?_append_right (Nat.le_refl _), Nat.sub_self]
    exact h.1
  | [], _ :: _, _, h => h.elim
  | none :: _, [], _, h => h.elim
  | some _ :: _, [], _, h => h.elim
theorem RepSl.puts {P : Program} {w : World} {K : PySem.W.Frag} {cl : Nat → Addr} {G H : Hp} {σ : L2.St} : {is : List Nat} → {us : List W} → {vs : List V} → {ρ : Ro} → {T U : AS} → RepSl P w K cl G H ρ σ U → RepWs P w K cl G H us vs T → PutOk σ is vs → dis T U → RepSl P w K cl G H (setsN is us ρ) σ (un T U)
  | [], _, _, _, _, _, h, _, _, _ => by
    unfold setsN
    exact h.mono (Same.refl _) (fun _ z => .inr z) fun _ _ _ e => e
  | _ :: _, [], _, _, _, _, h, _, _, _ => by
    unfold setsN
    exact h.mono (Same.refl _) (fun _ z => .inr z) fun _ _ _ e => e
  | i :: r, y :: us, _, ρ, T, U, h, hw, hp, dj => by
    obtain ⟨v, t, S1, S2, e, a1, a2, dd, h1, h2⟩ := hw
    subst e
    unfold setsN
    have hi : i < ρ.length := by
      rw [h.len]
      exact (List.getElem?_eq_some_iff.mp hp.1).1
    have h3 := (h.drop (i := i)).put hi hp.1 (fun a z y => dj a (a1 a z) y) h1
    exact (RepSl.puts (is := r) h3 h2 hp.2 fun a z y => y.elim (fun y => dd a y z) (dj a (a2 a z))).mono (Same.refl _) (fun a z => z.elim (fun z => .inl (a2 a z)) fun z => z.elim (fun z => .inl (a1 a z)) .inr) fun _ _ _ e => e
section
variable {X : Cx} {ca : Ca} {Wx : WX} {Z S S1 S2 T Sa : AS} {σ σ1 : L2.St} {H H1 H2 G : Hp} {ρ ρ1 ρ2 : Ro} {q q1 q2 q3 k k1 k2 k3 : Bool} {a b c e o tg : Expr} {es tgs : List Expr} {fa fb fc fo : Ro → ER} {gl gr : Ro → LW} {pos p p2 apos : Pos} {pins : List (Addr × Obj)} {s : Shared} {pin : List Nat} {rest : List Expr} {kk n : Nat} {M : Den}
/-- what an argument leaves: m: the slot that its object stood in -/
def Mv1 (σ : L2.St) : Option Nat → V → Prop
  | none, _ => True
  | some i, v => σ[i]? = some (some v)
def PoEm (X : Cx) (ca : Ca) (Wx : WX) (m : Option Nat) (Z S : AS) (σ : L2.St) (H : Hp) (r : ER) (Q : VK) : Prop := match r with
  | .ok w ρ' => ∀ v H', OKE X ca Z S H false σ w ρ' v H' → Mv1 σ m v → Q v H'
  | .ex x ρ' => ∀ cls d H', EXE X ca Z S H σ x ρ' cls d H' → Wx cls d σ H'
  | .no => False
structure DEm (X : Cx) (ca : Ca) (Wx : WX) (m : Option Nat) (e : Expr) (f : Ro → ER) : Prop where
  run : PE X e fun σ H Q => ∃ Z S ρ, Fr X ca Z S ρ σ H ∧ PoEm X ca Wx m Z S σ H (f ρ) Q
theorem DE.m (h : DE X ca Wx q a fa) : DEm X ca Wx none a fa := ⟨h.run.imp fun σ H Q ⟨Z, S, ρ, fr, po⟩ => ⟨Z, S, ρ, fr, by
  cases e : fa ρ with
  | ok w ρ' => rw [e] at po; exact fun v H' ⟨S', Sw, n, r⟩ => po v H' ⟨S', Sw, n.weak (fun z => nomatch z), r⟩ trivial
  | ex x ρ' => rw [e] at po; exact po
  | no => rw [e] at po; exact po⟩⟩
theorem dem_move (i : Nat) (h : PE X e (tVar i)) : DEm X ca Wx (some i) e (c_move i) := by
  refine ⟨⟨fun pins s σ H Q I ⟨Z, S, ρ, fr, po⟩ => ?_⟩⟩
  unfold c_move at po
  split at po
  · rename_i w hw
    obtain ⟨v, T, U, e1, a1, a2, dj, e3, e4⟩ := fr.rep.take hw
    have sm : Same (hid H (un Z S)) (hid H (un Z (un U T))) := hid_anti fun a z => z.elim .inl fun z => .inr (z.elim (a2 a) (a1 a))
    refine h.run pins s σ H Q I ⟨v, e1, po v H ⟨U, T, ((Nx.refl fr.as).shrink fun a z => z.elim (a2 a) (a1 a)).weak (fun z => nomatch z), fun a z y => dj a y z, ?_, ?_⟩ e1⟩
    · exact e4.mono sm (fun _ z => z) fun _ _ _ e => e
    · exact e3.mono sm (fun _ z => z) fun _ _ _ e => e
  · exact po.elim
def OKA (X : Cx) (ca : Ca) (mv : List (Option Nat)) (Z S : AS) (H : Hp) (σ : L2.St) (ws : List W) (ρ' : Ro) (vs : List V) (H' : Hp) : Prop := OKW X ca Z S H false σ ws ρ' vs H' ∧ Mv σ mv vs
def PoA (X : Cx) (ca : Ca) (Wx : WX) (mv : List (Option Nat)) (Z S : AS) (σ : L2.St) (H : Hp) (r : LW) (Q : List V → Hp → Prop) : Prop := match r with
  | .ok ws ρ' => ∀ vs H', OKA X ca mv Z S H σ ws ρ' vs H' → Q vs H'
  | .ex x ρ' => ∀ cls d H', EXE X ca Z S H σ x ρ' cls d H' → Wx cls d σ H'
  | .no => False
structure DA (X : Cx) (ca : Ca) (Wx : WX) (mv : List (Option Nat)) (es : List Expr) (f : Ro → LW) : Prop where
  run : PA X es fun σ H Q => ∃ Z S ρ, Fr X ca Z S ρ σ H ∧ PoA X ca Wx mv Z S σ H (f ρ) Q
theorem da_nil : DA X ca Wx [] [] w_nil := ⟨(dlw_nil (X := X) (ca := ca) (Wx := Wx)).run.imp fun σ H Q ⟨Z, S, ρ, fr, po⟩ => ⟨Z, S, ρ, fr, fun vs H' ⟨S', Sw, n, dj, r1, r2⟩ => po vs H' ⟨⟨S', Sw, n.weak (fun z => nomatch z), dj, r1, r2⟩, by
  have e : vs = [] := r2
  rw [e]; trivial⟩⟩⟩
/-- an owned value, then others -/
theorem okw_cons {w : W} {v : V} {ws : List W} {vs : List V} (n1 : Nx S H q1 (un S1 Sa) H1) (dj1 : dis S1 Sa) (f1 : Fr X ca (un Z Sa) S1 ρ1 σ H1) (r1 : RepW X.prog X.w X.K ca (hid H1 (un (un Z Sa) S1)) H1 w v Sa) (o : OKW X ca (un Z Sa) S1 H1 q2 σ ws ρ2 vs H2) :
    OKW X ca Z S H (q1 && q2) σ (w :: ws) ρ2 (v :: vs) H2 := by
  obtain ⟨S2, Sr, n2, dj2, rs2, rw2⟩ := o
  have nS1 : Nx S H q1 S1 H1 := n1.shrink fun _ z => .inl z
  have dz2 : dis (un Z Sa) (un S2 Sr) := n2.dj f1.dj f1.az
  have e3 : hid H2 (un (un Z Sa) (un S2 Sr)) = hid H2 (un Z (un S2 (un Sa Sr))) := hid_congr fun a => by
    simp only [un]
    constructor
    · rintro ((h | h) | h | h) <;> simp [h]
    · rintro (h | h | h | h) <;> simp [h]
  rw [e3] at rs2 rw2
  have hold : ∀ a o, Sa a → H1 a = some o → H2 a = some o := fun a o z eo => n2.keep a o (fun y => dj1 a y z) eo
  refine ⟨S2, un Sa Sr, ⟨fun b o hb eo => n2.keep b o (fun z => (nS1.own b z).elim hb fun n => by rw [eo] at n; cases n) (n1.keep b o hb eo), fun b z => ?_, fun b z => ?_, fun z => ?_⟩, fun a z y => y.elim (fun y => dz2 a (.inr y) (.inl z)) (dj2 a z), rs2, v, vs, Sa, Sr, rfl, fun _ z => .inl z, fun _ z => .inr z, fun a z y => dz2 a (.inr z) (.inr y), ?_, rw2⟩
  · have hh : S1 b ∨ H1 b = none → S b ∨ H b = none := fun z => z.elim (fun z => n1.own b (.inl z)) fun n => by
      by_cases hb : S b
      · exact .inl hb
      · exact .inr (n1.free n hb)
    rcases z with z | z | z
    · exact hh (n2.own b (.inl z))
    · exact n1.own b (.inr z)
    · exact hh (n2.own b (.inr z))
  · rcases z with z | z | z
    · exact n2.al b (.inl z)
    · intro n
      cases eo : H1 b with
      | none => exact n1.al b (.inr z) eo
      | some o => rw [hold b o z eo] at n; cases n
    · exact n2.al b (.inr z)
  · rw [Bool.and_eq_true] at z
    exact (n1.qt z.1).trans (n2.qt z.2)
  · refine r1.mono (fun a o eo => ?_) (fun _ z => z) hold
    rw [hid_some] at *
    refine ⟨n2.keep a o (fun z => eo.2 (.inr z)) eo.1, fun z => ?_⟩
    rcases z with z | z | z | z
    · exact eo.2 (.inl (.inl z))
    · rcases n2.own a (.inl z) with z | z
      · exact eo.2 (.inr z)
      · rw [eo.1] at z; cases z
    · exact eo.2 (.inl (.inr z))
    · rcases n2.own a (.inr z) with z | z
      · exact eo.2 (.inr z)
      · rw [eo.1] at z; cases z
theorem exe_cons {x : Ex} {cls : Value} {d : Option Addr} (n1 : Nx S H q1 (un S1 Sa) H1) (o : EXE X ca (un Z Sa) S1 H1 σ x ρ2 cls d H2) : EXE X ca Z S H σ x ρ2 cls d H2 := by
  obtain ⟨S2, n2, f2, x2⟩ := o
  have nS1 : Nx S H q1 S1 H1 := n1.shrink fun _ z => .inl z
  refine ⟨S2, (nS1.trans n2).weak (fun z => nomatch z), ⟨fun a z y => f2.dj a (.inl z) y, fun a z => f2.az a (.inl z), f2.as, f2.rep.mono ?_ (fun _ z => z) (fun _ _ _ e => e), ca.km0 ?_ f2.kp⟩, ?_⟩
  · exact hid_anti fun a z => z.elim (fun z => .inl (.inl z)) .inr
  · exact hid_anti fun a z => z.elim (fun z => .inl (.inl z)) .inr
  · obtain ⟨ec, dd, fv, xs, ed, g1, g2, g3⟩ := x2
    exact ⟨ec, dd, fv, xs, ed, hid_anti (fun a z => z.elim (fun z => .inl (.inl z)) .inr) _ _ g1, g2.mono (hid_anti fun a z => z.elim (fun z => .inl (.inl z)) .inr), g3⟩
/-- the rest of a list, behind its first -/
theorem poa_cons {m : Option Nat} {mv : List (Option Nat)} {w : W} {v : V} {Q : List V → Hp → Prop} (fr : Fr X ca Z S ρ σ H) (po : PoA X ca Wx (m :: mv) Z S σ H (match gr ρ1 with | .ok ws ρ2 => .ok (w :: ws) ρ2 | .ex x ρ2 => .ex x ρ2 | .no => .no) Q) (o : OKE X ca Z S H false σ w ρ1 v H1) (hm : Mv1 σ m v) :
    ∃ Z' S', Fr X ca Z' S' ρ1 σ H1 ∧ PoA X ca Wx mv Z' S' σ H1 (gr ρ1) fun vs H2 => Q (v :: vs) H2 := by
  obtain ⟨S1, Sa, n1, dj1, f1, r1⟩ := o.frm fr
  refine ⟨un Z Sa, S1, f1, ?_⟩
  cases e2 : gr ρ1 with
  | no => rw [e2] at po; exact po
  | ex x ρ2 => rw [e2] at po; exact fun cls d H2 o => po cls d H2 (exe_cons n1 o)
  | ok ws ρ2 =>
    rw [e2] at po
    refine fun vs H2 ⟨o, mv'⟩ => po (v :: vs) H2 ⟨okw_cons n1 dj1 f1 r1 o, ?_⟩
    cases m with
    | none => exact mv'
    | some i => exact ⟨hm, mv'⟩
theorem da_cons {m : Option Nat} {mv : List (Option Nat)} (ha : DEm X ca Wx m a fa) (hr : DA X ca Wx mv rest gr) (hs : starEach (a :: rest) X.env = (false, eval a X.env) :: starEach rest X.env := by rfl) : DA X ca Wx (m :: mv) (a :: rest) (w_cons fa gr) := by
  refine ⟨(pa_cons ha.run hr.run hs).imp fun σ H Q ⟨Z, S, ρ, fr, po⟩ => ⟨Z, S, ρ, fr, ?_⟩⟩
  unfold w_cons at po
  cases e : fa ρ with
  | no => rw [e] at po; exact po
  | ex x ρ1 => rw [e] at po; exact po
  | ok w ρ1 =>
    rw [e] at po
    intro v H1 o hm
    obtain ⟨Z', S', f', po'⟩ := poa_cons fr po o hm
    exact ⟨Z', S', ρ1, f', po'⟩
/-- behind a call: the slots get their objects back -/
theorem okf_core {mv : List (Option Nat)} {vs : List V} {us : List W} {Sr : AS} (fr : Fr X ca Z S ρ σ H) (n1 : Nx S H q (un S1 Sa) H1) (dj1 : dis S1 Sa) (rs : RepSl X.prog X.w X.K ca (hid H1 (un Z (un S1 Sa))) H1 ρ1 σ S1) (hv : Mv σ mv vs)
    (n2 : Nx Sa H1 false (un S2 Sr) H2) (dj2 : dis S2 Sr) (r1 : RepWs X.prog X.w X.K ca (hid H2 (un (un Z S1) (un S2 Sr))) H2 us (selV (mps 0 mv) vs) S2) :
    hid H2 (un (un Z S1) (un S2 Sr)) = hid H2 (un Z (un (un S2 S1) Sr)) ∧ Nx S H false (un (un S2 S1) Sr) H2 ∧ dis (un S2 S1) Sr ∧ RepSl X.prog X.w X.K ca (hid H2 (un Z (un (un S2 S1) Sr))) H2 (setsN (slots mv) us ρ1) σ (un S2 S1) := by
  have dz1 : dis Z (un S1 Sa) := n1.dj fr.dj fr.az
  have keep1 : ∀ b o, S1 b → H1 b = some o → H2 b = some o := fun b o z e => n2.keep b o (fun y => dj1 b z y) e
  have o2 : ∀ b, un S2 Sr b → S b ∨ H b = none := fun b z => (n2.own b z).elim (fun z => n1.own b (.inr z)) fun n => by
    by_cases hb : S b
    · exact .inl hb
    · exact .inr (n1.free n hb)
  have d12 : ∀ b, S1 b → un S2 Sr b → False := fun b z y => (n2.own b y).elim (dj1 b z) (n1.al b (.inl z))
  have eG : hid H2 (un (un Z S1) (un S2 Sr)) = hid H2 (un Z (un (un S2 S1) Sr)) := hid_congr fun a => by
    simp only [un]
    constructor
    · rintro ((h | h) | h | h) <;> simp [h]
    · rintro (h | (h | h) | h) <;> simp [h]
  rw [eG] at r1
  refine ⟨eG, ⟨fun b o hb e => n2.keep b o (fun z => (n1.own b (.inr z)).elim hb fun n => by rw [e] at n; cases n) (n1.keep b o hb e), fun b z => ?_, fun b z => ?_, fun z => nomatch z⟩, fun b z y => z.elim (fun z => dj2 b z y) fun z => d12 b z (.inr y), ?_⟩
  · rcases z with (z | z) | z
    · exact o2 b (.inl z)
    · exact n1.own b (.inl z)
    · exact o2 b (.inr z)
  · rcases z with (z | z) | z
    · exact n2.al b (.inl z)
    · intro n
      cases e : H1 b with
      | none => exact n1.al b (.inl z) e
      | some o => rw [keep1 b o z e] at n; cases n
    · exact n2.al b (.inr z)
  · refine RepSl.puts (rs.mono (fun b o e => ?_) (fun _ z => z) keep1) r1 (Mv.put (pre := []) hv) fun b z y => d12 b y (.inl z)
    rw [hid_some] at *
    have nS1 : ¬ S1 b := fun z => e.2 (.inr (.inl z))
    refine ⟨n2.keep b o (fun z => e.2 (.inr (.inr z))) e.1, fun z => ?_⟩
    rcases z with z | (z | z) | z
    · exact e.2 (.inl z)
    · exact (n2.own b (.inl z)).elim (fun z => e.2 (.inr (.inr z))) fun n => by rw [e.1] at n; cases n
    · exact nS1 z
    · exact (n2.own b (.inr z)).elim (fun z => e.2 (.inr (.inr z))) fun n => by rw [e.1] at n; cases n
theorem okf_moved {y : W} {v : V} {mv : List (Option Nat)} {vs : List V} {us : List W} (fr : Fr X ca Z S ρ σ H) (n1 : Nx S H q (un S1 Sa) H1) (dj1 : dis S1 Sa) (rs : RepSl X.prog X.w X.K ca (hid H1 (un Z (un S1 Sa))) H1 ρ1 σ S1) (hv : Mv σ mv vs)
    (o : OKF X.prog X.w X.K ca (mps 0 mv) vs (un Z S1) Sa H1 y us v H2) : OKE X ca Z S H false σ y (setsN (slots mv) us ρ1) v H2 := by
  obtain ⟨S2, Sr, n2, dj2, r1, r2⟩ := o
  obtain ⟨eG, h1, h2, h3⟩ := okf_core fr n1 dj1 rs hv n2 dj2 r1
  rw [eG] at r2
  exact ⟨un S2 S1, Sr, h1, h2, h3, r2⟩
theorem exf_moved {x : Ex} {mv : List (Option Nat)} {vs : List V} {us : List W} {c : Value} {d : Option Addr} (fr : Fr X ca Z S ρ σ H) (n1 : Nx S H q (un S1 Sa) H1) (dj1 : dis S1 Sa) (rs : RepSl X.prog X.w X.K ca (hid H1 (un Z (un S1 Sa))) H1 ρ1 σ S1) (hv : Mv σ mv vs)
    (o : EXF X.prog X.w X.K ca (mps 0 mv) vs (un Z S1) Sa H1 x us c d H2) : EXE X ca Z S H σ x (setsN (slots mv) us ρ1) c d H2 := by
  obtain ⟨S2, n2, r1, r2⟩ := o
  have e0 : hid H2 (un (un Z S1) (un S2 emp)) = hid H2 (un (un Z S1) S2) := hid_congr fun a => ⟨fun z => z.elim .inl fun z => z.elim .inr fun z => z.elim, fun z => z.elim .inl fun z => .inr (.inl z)⟩
  have e1 : hid H2 (un Z (un (un S2 S1) emp)) = hid H2 (un Z (un S2 S1)) := hid_congr fun a => ⟨fun z => z.elim .inl fun z => z.elim .inr fun z => z.elim, fun z => z.elim .inl fun z => .inr (.inl z)⟩
  have n2' : Nx Sa H1 false (un S2 emp) H2 := ⟨n2.keep, fun b z => z.elim (n2.own b) fun z => z.elim, fun b z => z.elim (n2.al b) fun z => z.elim, fun z => nomatch z⟩
  obtain ⟨eG, h1, h2, h3⟩ := okf_core (Sr := emp) fr n1 dj1 rs hv n2' (fun _ _ z => z) (by rw [e0]; exact r1)
  rw [← e0, eG, e1] at r2
  rw [e1] at h3
  have h1' : Nx S H false (un S2 S1) H2 := h1.shrink fun _ z => .inl z
  exact ⟨un S2 S1, h1', ⟨h1'.dj fr.dj fr.az, h1'.az fr.dj fr.az, h1'.al, h3, ca.km0 h1'.hid fr.kp⟩, r2⟩
theorem callM_imp {mv : List (Option Nat)} {ws : List W} {vs : List V} {Q : VK} (hl : mv.length = n) (fr : Fr X ca Z S ρ σ H) (o : OKA X ca mv Z S H σ ws ρ1 vs H1)
    (po : PoE X ca Wx false Z S σ H (match M ws with | .ok w us => .ok w (setsN (slots mv) us ρ1) | .ex x us => .ex x (setsN (slots mv) us ρ1) | .no => .no) Q) : spD X.prog X.w X.K ca (mps 0 mv) n M vs H1 Q (WE Wx σ) := by
  obtain ⟨⟨S1, Sa, n1, dj1, rs, rw'⟩, hv⟩ := o
  have dz1 : dis Z (un S1 Sa) := n1.dj fr.dj fr.az
  have hlen : ∀ {mv : List (Option Nat)} {vs : List V}, Mv σ mv vs → vs.length = mv.length := by
    intro mv
    induction mv with
    | nil => intro vs h; cases vs with
      | nil => rfl
      | cons _ _ => exact h.elim
    | cons m r ih => intro vs h; cases vs with
      | nil => cases m <;> exact h.elim
      | cons v t =>
        cases m with
        | none => rw [List.length_cons, List.length_cons, ih (show Mv σ r t from h)]
        | some i => rw [List.length_cons, List.length_cons, ih h.2]
  have eG : hid H1 (un (un Z S1) Sa) = hid H1 (un Z (un S1 Sa)) := hid_congr fun a => by
    simp only [un]
    constructor
    · rintro ((h | h) | h) <;> simp [h]
    · rintro (h | h | h) <;> simp [h]
  refine ⟨by rw [hlen hv, hl], un Z S1, Sa, ws, fun b z y => z.elim (fun z => dz1 b z (.inr y)) fun z => dj1 b z y, fun b z => z.elim (n1.az fr.dj fr.az b) fun z => n1.al b (.inl z), fun b z => n1.al b (.inr z), by rw [eG]; exact rw', ?_⟩
  cases eM : M ws with
  | no => rw [eM] at po; exact po
  | ok y us => rw [eM] at po; exact fun v H2 o => po v H2 (okf_moved fr n1 dj1 rs hv o)
  | ex x us => rw [eM] at po; exact fun c d H2 o => po c d H2 (exf_moved fr n1 dj1 rs hv o)
theorem de_callM {mv : List (Option Nat)} {mp : List Nat} {f : Addr} {x : Str} (F : OkF X.prog X.w X.K X.mg X.base ca kk mp n M f) (hr : Room kk X.A) (tk : Takes X Wx) (ha : DA X ca Wx mv (e :: es) gl) (hl : mv.length = n := by rfl) (hmp : mps 0 mv = mp := by rfl) (hm : X.mg x = some (.ref f) := by rfl) (hg : Gl X x := by rfl)
    (hdb : (x == ("__debug__" : Str)) = false := by decide) (he : starEach (e :: es) X.env = (false, eval e X.env) :: starEach es X.env := by rfl) (hpl : (backTo pos (starEach es X.env)).any (·.1) = false := by rfl) :
    DE X ca Wx false (.Call (.Name x p) (e :: es) [] pos) (c_callM M (slots mv) gl) := by
  subst hmp
  obtain ⟨fd, ps, F1, hb⟩ := F.ex
  refine ⟨(pe_callS F1 hr hg hm F.kp hb (fun σ => passAt tk σ) ha.run hdb he hpl).imp fun σ H Q ⟨Z, S, ρ, fr, po⟩ => ⟨Z, S, ρ, fr, ?_⟩⟩
  unfold c_callM at po
  cases e : gl ρ with
  | no => rw [e] at po; exact po
  | ex x ρ1 => rw [e] at po; exact po
  | ok ws ρ1 =>
    rw [e] at po
    exact fun vs H1 o => callM_imp hl fr o po
end
end L3

set_option Elab.async false
set_option linter.all false
set_option maxRecDepth 100000
set_option maxHeartbeats 1000000
/-! L3p: stores into what a slot owns. -/
namespace L3
open PySem PySem.Spec PyProof.Rows L2

/-- d[k] = x -/
def dputK (ks vs : List D) (k : D) : List D := if (dget ks vs k).isSome then ks else ks ++ [k]
def dputV (ks vs : List D) (k x : D) : List D := if (dget ks vs k).isSome then dset ks vs k x else vs ++ [x]
/-- o[k] = x, in place -/
def storeW (o : W) (k x : D) : Option W := match o with
  | .dic ks vs => if keyOk ks k && decide (ks.length < maxLen) then some (.dic (dputK ks vs k) (dputV ks vs k x)) else none
  | .lst l => match k with
    | .int j => if 0 ≤ j && decide (j < l.length) then some (.lst (l.set j.toNat x)) else none
    | _ => none
  | _ => none
section
variable {P : Program} {w : World} {K : PySem.W.Frag} {ca : Nat → Addr} {G H : Hp}
theorem dset_val {κ : Type} [DecidableEq κ] {kf : D → Option κ} (hk : ∀ {a b x y}, kf a = some x → kf b = some y → eqD a b = decide (x = y)) {k x : D} {key : κ} {v : V} (hx : kf k = some key) (rx : RepD P w K ca G x v) :
    {ks vs : List D} → {kv : List (κ × V)} → ks.map kf = kv.map (fun p => some p.1) → (kv.map (·.1)).Nodup → RepDs P w K ca G vs (kv.map (·.2)) →
    RepDs P w K ca G (dset ks vs k x) ((kv.map fun e => if e.1 = key then (e.1, v) else e).map (·.2))
  | [], vs, [], _, _, h => by
    have e : vs = [] := by cases vs with
      | nil => rfl
      | cons _ _ => obtain ⟨_, _, z, _⟩ := h; cases z
    subst e
    rfl
  | [], _, _ :: _, e, _, _ => by cases e
  | _ :: _, _, [], e, _, _ => by cases e
  | a :: r, [], p :: s, _, _, h => nomatch (show _ = [] from h)
  | a :: r, d :: t, p :: s, e, nd, h => by
    rw [List.map_cons, List.map_cons, List.cons.injEq] at e
    obtain ⟨y, ys, ey, h1, h2⟩ := h
    rw [List.map_cons, List.cons.injEq] at ey
    obtain ⟨rfl, rfl⟩ := ey
    rw [List.map_cons, List.nodup_cons] at nd
    have eq := hk e.1 hx
    unfold dset
    rw [eq]
    by_cases c : p.1 = key
    · rw [decide_eq_true c, if_pos rfl, List.map_cons, List.map_cons, if_pos c]
      have hs : (s.map fun e => if e.1 = key then (e.1, v) else e) = s := by
        refine (List.map_congr_left fun q hq => ?_).trans (List.map_id s)
        have : ¬ q.1 = key := fun z => nd.1 (by rw [c, ← z]; exact List.mem_map_of_mem hq)
        rw [if_neg this]
        rfl
      rw [hs]
      exact ⟨v, _, rfl, rx, h2⟩
    · rw [decide_eq_false c, if_neg Bool.false_ne_true, List.map_cons, List.map_cons, if_neg c]
      exact ⟨p.2, _, rfl, h1, dset_val hk hx rx e.2 nd.2 h2⟩
theorem dget_any {κ : Type} [DecidableEq κ] {kf : D → Option κ} (hk : ∀ {a b x y}, kf a = some x → kf b = some y → eqD a b = decide (x = y)) {k : D} {key : κ} (hx : kf k = some key) :
    {ks vs : List D} → {kv : List (κ × V)} → ks.map kf = kv.map (fun p => some p.1) → vs.length = kv.length → (dget ks vs k).isSome = kv.any fun e => decide (e.1 = key)
  | [], vs, [], _, _ => rfl
  | [], _, _ :: _, e, _ => by cases e
  | _ :: _, _, [], e, _ => by cases e
  | a :: r, [], p :: s, _, h => by cases h
  | a :: r, d :: t, p :: s, e, h => by
    rw [List.map_cons, List.map_cons, List.cons.injEq] at e
    unfold dget
    rw [hk e.1 hx, List.any_cons]
    by_cases c : p.1 = key
    · rw [decide_eq_true c, if_pos rfl]; rfl
    · rw [decide_eq_false c, if_neg Bool.false_ne_true, Bool.false_or, dget_any hk hx e.2 (by simpa using h)]
theorem RepDs.snoc {l : List D} {xs : List V} {d : D} {v : V} (h : RepDs P w K ca G l xs) (r : RepD P w K ca G d v) : RepDs P w K ca G (l ++ [d]) (xs ++ [v]) := h.append ⟨v, [], rfl, r, rfl⟩
theorem toNKs_snoc {k : D} {n : NestedKey} (hk : toNK k = some n) : {ks : List D} → {l : List NestedKey} → toNKs ks = some l → toNKs (ks ++ [k]) = some (l ++ [n])
  | [], _, h => by cases h; simp [toNKs, hk]
  | a :: r, _, h => by
    obtain ⟨k', ks', e1, e2, rfl⟩ := toNKs_cons h
    rw [List.cons_append]
    unfold toNKs
    rw [e1, toNKs_snoc hk e2]
    rfl
end
section
variable {X : Cx} {ca : Ca} {Wx : WX} {Z S S1 S2 T : AS} {σ σ1 : L2.St} {H H1 H2 G : Hp} {ρ ρ1 ρ2 : Ro} {q q1 q2 q3 k k1 k2 k3 : Bool} {a b c e o tg : Expr} {fa fb fc : Ro → ER} {pos p p2 apos : Pos} {pins : List (Addr × Obj)} {s : Shared} {pin : List Nat}
theorem ndo_new {P : Program} {w : World} {H' : Hp} {h' : Heap} {a : Addr} {es : List (NestedKey × Addr × V)} {xs : List (NestedKey × Addr × Value)} (z : es.length ≤ sizeLine) (hd : (a == sysModules) = false) (nd : (es.map (·.1)).Nodup) (dp : ∀ e ∈ es, e.1.depth ≤ 8)
    (pr : Paired (fun (p : NestedKey × Addr × V) (q : NestedKey × Addr × Value) => p.1 = q.1 ∧ p.2.1 = q.2.1 ∧ RelV p.2.2 q.2.2) es xs) (dd : h'.DictOfH (nestedKind P w) a xs) : ObjOk P w H' h' a (NDO P w a es) := by
  obtain ⟨o, es', ep, g1, g2, g3, g4, _, _⟩ := dd
  exact ⟨⟨z, hd, nd, dp, xs, pr, o, es', ep, g1, g2, g3, g4⟩, ⟨o, g1⟩, fun h1 h2 ⟨a1, a2, a3, a4, ys, a5, o', e', ep', b1, b2⟩ k => ⟨a1, a2, a3, a4, ys, a5, o', e', ep', k _ b1, b2⟩⟩
/-- d[k] = v, at the level of the heap -/
theorem dic_put {ks vs : List D} {k x : D} {a : Addr} {y z : V} {u r : Value} {Q : Unit → Shared → Prop} (hu : X.A.units + 64 < cLine) (I : Inv X pins σ H s) (h : DicAt X.prog X.w X.K ca (hid H T) H ks vs a) (hT : T a) (hk : RepD X.prog X.w X.K ca (hid H T) k y) (rk : RelV y u) (hv : RepD X.prog X.w X.K ca (hid H T) x z) (rv : RelV z r)
    (ok : keyOk ks k = true) (hl : ks.length < maxLen) (hq : ∀ o s', (∀ G', Same (hid H T) G' → DicAt X.prog X.w X.K ca G' (upd H a o) (dputK ks vs k) (dputV ks vs k x) a) → Inv X pins σ (upd H a o) s' → Q () s') : wpAny (model X.prog X.w) X.A (setItem (.ref a) u r) Q X.xe s := by
  obtain ⟨xs, ys, h1, h2, hlen, h3⟩ := h
  have hu1 : X.A.units + 1 < cLine := by omega
  rw [maxLen_eq] at hl
  have nested : ∀ (es : List (NestedKey × Addr × V)) (xs' : List (NestedKey × Addr × Value)), es.length = ks.length → RepDs X.prog X.w X.K ca (hid H T) ks (es.map fun e => V.ref e.2.1) → toNKs ks = some (es.map (·.1)) → RepDs X.prog X.w X.K ca (hid H T) vs (es.map (·.2.2)) → ks.all isTup = true →
      (es.map (·.1)).Nodup → (∀ e ∈ es, e.1.depth ≤ 8) → (a == sysModules) = false → Mut (H a) → Paired (fun (p : NestedKey × Addr × V) (q : NestedKey × Addr × Value) => p.1 = q.1 ∧ p.2.1 = q.2.1 ∧ RelV p.2.2 q.2.2) es xs' → s.heap.DictOfH (nestedKind X.prog X.w) a xs' → keyN k = true →
      wpAny (model X.prog X.w) X.A (setItem (.ref a) u r) Q X.xe s := by
    intro es xs' hel hks hnk hvs htup nd dp hd mu pr DD kN
    obtain ⟨l, nk, rfl, en, hdp⟩ := keyN_of kN
    obtain ⟨p, zs, rfl, q1, q2⟩ := id hk
    cases rk
    have his : (nestedKind X.prog X.w).is s.heap nk p := ⟨RepD.nested I (.tup l) (v := .ref p) (RepD.mono hid_same (.tup l) hk) en rfl, hdp⟩
    have room : (nestedKind X.prog X.w).room X.A.in1 := by show X.A.units + 1 + 8 < cLine; omega
    have hxl : xs'.length = es.length := (Paired.length pr).symm
    refine wpAny_setItem_heap (hsz := by rw [hxl, hel]; omega) room his DD fun h' DD' hs => ?_
    have kk := keys_N hnk
    have ga : (dget ks vs (.tup l)).isSome = es.any fun e => decide (e.1 = nk) := by
      have := dget_any (kf := toNK) (kv := es.map fun e => (e.1, e.2.2)) (fun h h' => eqD_nkey h h') en (ks := ks) (vs := vs) (by rw [kk, List.map_map, List.map_map]; rfl) (by have := hvs.length; simpa using this)
      rw [this, List.any_map]
      rfl
    have gx : (atKey xs' nk).isSome = es.any fun e => decide (e.1 = nk) := by
      unfold atKey
      rw [Option.isSome_map, List.isSome_find?]
      clear hks hnk hvs nd dp DD DD' hel hxl ga kk
      induction pr with
      | nil => rfl
      | cons r _ ih => rw [List.any_cons, List.any_cons, ih, r.1]
    cases c : es.any fun e => decide (e.1 = nk) with
    | true =>
      rw [c] at ga gx
      have e1 : storedH xs' nk p r = xs'.map (putAt nk r) := by unfold storedH; rw [if_pos gx]
      have pr' : Paired (fun (p : NestedKey × Addr × V) (q : NestedKey × Addr × Value) => p.1 = q.1 ∧ p.2.1 = q.2.1 ∧ RelV p.2.2 q.2.2) (es.map fun e => if e.1 = nk then (e.1, e.2.1, z) else e) (xs'.map (putAt nk r)) := by
        clear hks hnk hvs nd dp DD DD' hel hxl ga kk gx c e1
        induction pr with
        | nil => exact .nil
        | @cons x y _ _ rr _ ih =>
          refine .cons ?_ ih
          show (if x.1 = nk then (x.1, x.2.1, z) else x).1 = (putAt nk r y).1 ∧ (if x.1 = nk then (x.1, x.2.1, z) else x).2.1 = (putAt nk r y).2.1 ∧ RelV (if x.1 = nk then (x.1, x.2.1, z) else x).2.2 (putAt nk r y).2.2
          unfold putAt
          by_cases c : x.1 = nk
          · rw [if_pos c, if_pos (rr.1 ▸ c)]; exact ⟨rr.1, rr.2.1, rv⟩
          · rw [if_neg c, if_neg (rr.1 ▸ c)]; exact rr
      have k1 : (es.map fun e => if e.1 = nk then (e.1, e.2.1, z) else e).map (·.1) = es.map (·.1) := by
        rw [List.map_map]; refine List.map_congr_left fun e _ => ?_
        show (if e.1 = nk then (e.1, e.2.1, z) else e).1 = e.1
        split <;> rfl
      have k2 : (es.map fun e => if e.1 = nk then (e.1, e.2.1, z) else e).map (fun e => V.ref e.2.1) = es.map (fun e => V.ref e.2.1) := by
        rw [List.map_map]; refine List.map_congr_left fun e _ => ?_
        show V.ref (if e.1 = nk then (e.1, e.2.1, z) else e).2.1 = V.ref e.2.1
        split <;> rfl
      rw [e1] at DD'
      refine hq (NDO X.prog X.w a (es.map fun e => if e.1 = nk then (e.1, e.2.1, z) else e)) _ (fun G' sm => ?_) (d_write I mu hs (let ⟨o, _, _, g, _⟩ := DD'; ⟨o, g⟩) (ndo_new (by rw [List.length_map, hel]; omega) hd (by rw [k1]; exact nd) (fun e he => ?_) pr' DD'))
      · have dv := dset_val (P := X.prog) (w := X.w) (K := X.K) (ca := ca) (G := hid H T) (kf := toNK) (kv := es.map fun e => (e.1, e.2.2)) (fun h h' => eqD_nkey h h') en hv (ks := ks) (vs := vs) (by rw [kk, List.map_map, List.map_map]; rfl) (by rw [List.map_map]; exact nd) (by rw [List.map_map]; exact hvs)
        unfold dputK dputV
        rw [if_pos ga, if_pos ga]
        refine ⟨_, _, hks.mono sm, dv.mono sm, by simp, .inr ⟨?_, _, upd_same, by rw [k1]; exact hnk, k2, ?_, htup⟩⟩
        · intro z0
          subst z0
          cases es with
          | nil => cases c
          | cons _ _ => cases hel
        · rw [List.map_map, List.map_map, List.map_map]
          refine List.map_congr_left fun e _ => ?_
          show (if e.1 = nk then (e.1, e.2.1, z) else e).2.2 = (if e.1 = nk then (e.1, z) else (e.1, e.2.2)).2
          split <;> rfl
      · obtain ⟨e0, he0, rfl⟩ := List.mem_map.mp he
        have := dp e0 he0
        split
        · exact this
        · exact this
    | false =>
      rw [c] at ga gx
      have gf : ¬ (dget ks vs (.tup l)).isSome = true := by rw [ga]; decide
      have gxf : ¬ (atKey xs' nk).isSome = true := by rw [gx]; decide
      have e1 : storedH xs' nk p r = xs' ++ [(nk, p, r)] := by unfold storedH; rw [if_neg gxf]
      rw [e1] at DD'
      have pr' : Paired (fun (p : NestedKey × Addr × V) (q : NestedKey × Addr × Value) => p.1 = q.1 ∧ p.2.1 = q.2.1 ∧ RelV p.2.2 q.2.2) (es ++ [(nk, p, z)]) (xs' ++ [(nk, p, r)]) := by
        clear hks hnk hvs nd dp DD DD' hel hxl ga kk gx c e1 gf gxf
        induction pr with
        | nil => exact .cons ⟨rfl, rfl, rv⟩ .nil
        | cons rr _ ih => exact .cons rr ih
      have ndn : ((es ++ [(nk, p, z)]).map (·.1)).Nodup := by
        rw [List.map_append, List.nodup_append]
        refine ⟨nd, by simp, fun x hx y hy => ?_⟩
        rintro rfl
        have hy' : x = nk := by simpa using hy
        subst hy'
        obtain ⟨e, he, ee⟩ := List.mem_map.mp hx
        have := List.any_eq_false.mp c e he
        simp [ee] at this
      refine hq (NDO X.prog X.w a (es ++ [(nk, p, z)])) _ (fun G' sm => ?_) (d_write I mu hs (let ⟨o, _, _, g, _⟩ := DD'; ⟨o, g⟩) (ndo_new (by rw [List.length_append, hel]; simp; omega) hd ndn (fun e he => ?_) pr' DD'))
      · unfold dputK dputV
        rw [if_neg gf, if_neg gf]
        refine ⟨_, _, (hks.snoc hk).mono sm, (hvs.snoc hv).mono sm, by simp, .inr ⟨by simp, _, upd_same, ?_, by rw [List.map_append]; rfl, by rw [List.map_append]; rfl, by rw [List.all_append, htup]; rfl⟩⟩
        rw [List.map_append]
        exact toNKs_snoc en hnk
      · rcases List.mem_append.mp he with he | he
        · exact dp e he
        · have : e = (nk, p, z) := by simpa using he
          rw [this]; exact hdp
  rcases h3 with ⟨kv, e1, nd, e2, e3⟩ | ⟨n0, es, e1, e2, e3, e4, e5⟩
  · subst e2 e3
    have kk := keys_K h1
    have hkl : kv.length = ks.length := by have := congrArg List.length kk; simpa using this.symm
    by_cases n : kv = [] ∧ keyN k = true
    · obtain ⟨n, kN⟩ := n
      subst n
      have ks0 : ks = [] := by cases ks with | nil => rfl | cons a r => cases kk
      subst ks0
      have vs0 : vs = [] := by cases vs with
        | nil => rfl
        | cons _ _ => obtain ⟨_, _, z, _⟩ := h2; cases z
      subst vs0
      obtain ⟨z0, hd, vs', rel, dd⟩ := dk_of I.hok e1
      cases rel
      obtain ⟨o, es', ep, g1, g2, g3, _, g4, _⟩ := dd
      have g5 : es'.toList = [] := by
        generalize es'.toList = l at g4
        cases g4
        rfl
      exact nested [] [] rfl rfl rfl rfl rfl List.nodup_nil (fun _ h => nomatch h) hd (by rw [e1]; exact True.intro) .nil ⟨o, es', ep, g1, g2, g3, g5, (fun _ h => nomatch h), List.nodup_nil⟩ kN
    · have kN : ∃ key, toKey k = some key := by
        unfold keyOk at ok
        rw [Bool.or_eq_true, Bool.and_eq_true, Bool.and_eq_true] at ok
        rcases ok with ok | ok
        · exact Option.isSome_iff_exists.mp ok.2
        · exfalso
          cases kv with
          | nil => exact n ⟨rfl, ok.2⟩
          | cons p r =>
            cases ks with
            | nil => cases kk
            | cons a r' =>
              rw [List.map_cons, List.map_cons, List.cons.injEq] at kk
              have := ok.1
              rw [List.all_cons, Bool.and_eq_true] at this
              obtain ⟨l, nk, rfl, _⟩ := keyN_of this.1
              cases kk.1
      obtain ⟨key, hkk⟩ := kN
      obtain rfl := rep_of_key hk hkk
      have ga := dget_any (kf := toKey) (kv := kv) (fun h h' => eqD_key h h') hkk (ks := ks) (vs := vs) kk (by have := h2.length; simpa using this)
      have dv := dset_val (P := X.prog) (w := X.w) (K := X.K) (ca := ca) (G := hid H T) (kf := toKey) (fun h h' => eqD_key h h') hkk hv kk nd h2
      refine d_setItem hu1 I (DPut.k e1 (v := z) (by rw [hkl]; omega)) rk rv fun s' I' => hq _ s' (fun G' sm => ?_) I'
      unfold dputK dputV putK
      cases c : kv.any fun e => decide (e.1 = key) with
      | true =>
        rw [c] at ga
        rw [if_pos ga, if_pos ga]
        have k1 : (kv.map fun e => if e.1 = key then (e.1, z) else e).map (·.1) = kv.map (·.1) := by
          rw [List.map_map]; refine List.map_congr_left fun e _ => ?_
          show (if e.1 = key then (e.1, z) else e).1 = e.1
          split <;> rfl
        have k2 : (kv.map fun e => if e.1 = key then (e.1, z) else e).map (fun p => kV p.1) = kv.map (fun p => kV p.1) := by
          rw [List.map_map]; refine List.map_congr_left fun e _ => ?_
          show kV (if e.1 = key then (e.1, z) else e).1 = kV e.1
          split <;> rfl
        refine ⟨_, _, h1.mono sm, dv.mono sm, by simp, .inl ⟨_, upd_same, ?_, ?_, ?_⟩⟩
        · rw [if_pos rfl, k1]; exact nd
        · rw [if_pos rfl]; exact k2
        · rw [if_pos rfl]
      | false =>
        rw [c] at ga
        have gf : ¬ (dget ks vs k).isSome = true := by rw [ga]; decide
        rw [if_neg gf, if_neg gf]
        refine ⟨_, _, (h1.snoc hk).mono sm, (h2.snoc hv).mono sm, by simp, .inl ⟨_, upd_same, ?_, ?_, ?_⟩⟩
        · rw [if_neg Bool.false_ne_true, List.map_append, List.nodup_append]
          refine ⟨nd, by simp, fun x hx y hy => ?_⟩
          rintro rfl
          have hy' : x = key := by simpa using hy
          subst hy'
          obtain ⟨e, he, ee⟩ := List.mem_map.mp hx
          have := List.any_eq_false.mp c e he
          simp [ee] at this
        · rw [if_neg Bool.false_ne_true, List.map_append]; rfl
        · rw [if_neg Bool.false_ne_true, List.map_append]; rfl
  · have kN : keyN k = true := by
      unfold keyOk at ok
      rw [Bool.or_eq_true, Bool.and_eq_true, Bool.and_eq_true] at ok
      rcases ok with ok | ok
      · exact absurd (all_empty ok.1 e5) n0
      · exact ok.2
    obtain ⟨z1, z2, z3, z4, _⟩ := ndo_dict I.hok e1
    subst e3 e4
    obtain ⟨_, _, xs', pr, DD, _⟩ := ndo_keyed I e1 e2 (h1.mono hid_same)
    exact nested es xs' (by have := h1.length; simpa using this.symm) h1 e2 h2 e5 z3 z4 z2 (by rw [e1]; exact True.intro) pr DD kN
end
end L3

set_option Elab.async false
set_option linter.all false
set_option maxRecDepth 100000
set_option maxHeartbeats 1000000
/-! L3q: statements that store into a slot's object. -/
namespace L3
open PySem PySem.Spec PyProof.Rows L2

/-- a slot's object, changed -/
def slotU (i : Nat) (g : W → Option W) (ρ : Ro) : Option Ro := match ρ[i]? with
  | some (some y) => (g y).map fun y' => ρ.set i (some y')
  | _ => none
/-- name[k] = v -/
def s_sub (i : Nat) (fv fk : Ro → ER) : Ro → SR := fun ρ => match fv ρ with
  | .ok wv ρ1 => match ρ1[i]? with
    | some (some _) => match fk ρ1 with
      | .ok wk ρ2 => match slotU i (fun o => storeW o (frz wk) (frz wv)) ρ2 with
        | some ρ3 => .nx ρ3
        | none => .no
      | .ex x ρ2 => .ex x ρ2
      | .no => .no
    | _ => .no
  | .ex x ρ1 => .ex x ρ1
  | .no => .no
def putFs (f : Str) : List Str → List Str
  | [] => [f]
  | g :: r => if g = f then g :: r else g :: putFs f r
def putWs (f : Str) (w : W) : List Str → List W → List W
  | g :: r, x :: s => if g = f then w :: s else x :: putWs f w r s
  | _, s => s ++ [w]
/-- C: the classes whose instances have such a field -/
def fldW (n : Nat) (f : Str) (w : W) : W → Option W
  | .ins C fs vs => if C < n && decide (fs.length < 900) && decide (fs.length = vs.length) then some (.ins C (putFs f fs) (putWs f w fs vs)) else none
  | _ => none
/-- name.f = v -/
def s_fld (n : Nat) (i : Nat) (f : Str) (fv : Ro → ER) : Ro → SR := fun ρ => match fv ρ with
  | .ok w ρ1 => match slotU i (fldW n f w) ρ1 with
    | some ρ2 => .nx ρ2
    | none => .no
  | .ex x ρ1 => .ex x ρ1
  | .no => .no
def appW (x : D) : W → Option W
  | .lst l => if l.length < maxLen then some (.lst (l ++ [x])) else none
  | _ => none
/-- name.append(e) -/
def s_app (i : Nat) (fv : Ro → ER) : Ro → SR := fun ρ => match ρ[i]? with
  | some (some (.lst _)) => match fv ρ with
    | .ok w ρ1 => match slotU i (appW (frz w)) ρ1 with
      | some ρ2 => .nx ρ2
      | none => .no
    | .ex x ρ1 => .ex x ρ1
    | .no => .no
  | _ => .no
section
variable {X : Cx} {ca : Ca} {Wx : WX} {Z S S0 S1 S2 Sw T : AS} {σ σ0 σ1 : L2.St} {H H0 H1 H2 G : Hp} {ρ ρ0 ρ1 ρ2 : Ro} {q q1 q2 q3 k k1 k2 k3 : Bool} {a b c e o tg : Expr} {fa fb fc fv fk : Ro → ER} {pos pos' p p2 apos : Pos} {pins : List (Addr × Obj)} {s : Shared} {pin : List Nat}
/-- evaluate, then go on -/
theorem DB.bindSt {Post : Value → Shared → Prop} (ha : DB X ca Wx q k a fa) (I : Inv X pins σ H s) (fr : Fr X ca Z S ρ σ H)
    (hk : ∀ w ρ1, fa ρ = .ok w ρ1 → ∀ v u s1 H1, Inv X pins σ H1 s1 → RelV v u → OKB X ca k Z S H q σ (frz w) ρ1 v H1 → Post u s1)
    (hx : ∀ x ρ1, fa ρ = .ex x ρ1 → PoX X ca Wx Z S σ H x ρ1) (hn : fa ρ ≠ .no) : wpAny (model X.prog X.w) X.A (eval a X.env) Post X.xe s :=
  thn (DB.seq (Post := fun _ u s1 => Post u s1) ha I fr hk hx hn) fun u s1 ⟨_, p⟩ => p
/-- what a slot holds is changed, and takes a value in -/
theorem slot_put {i : Nat} {y : W} (fr : Fr X ca Z S0 ρ0 σ H0) (n : Nx S0 H0 q (un S Sw) H) (dj : dis S Sw) (rs : RepSl X.prog X.w X.K ca (hid H (un Z (un S Sw))) H ρ σ S) (hi : ρ[i]? = some (some y)) :
    ∃ v T, σ[i]? = some (some v) ∧ sub T S ∧ RepW X.prog X.w X.K ca (hid H (un Z (un S Sw))) H y v T ∧
      ∀ H' y', (∀ b o, ¬ T b → H b = some o → H' b = some o) → (∀ b, T b → H' b ≠ none) → (Same (hid H (un Z (un S Sw))) (hid H' (un Z (un S Sw))) → RepW X.prog X.w X.K ca (hid H' (un Z (un S Sw))) H' y' v (un T Sw)) →
        ∃ S', Nx S0 H0 false S' H' ∧ Fr X ca Z S' (ρ.set i (some y')) σ H' := by
  obtain ⟨v, T, U, e1, a1, a2, dTU, e3, e4⟩ := rs.take hi
  refine ⟨v, T, e1, a1, e3, fun H' y' kp al rw' => ?_⟩
  have hl : i < ρ.length := by rw [rs.len]; exact (List.getElem?_eq_some_iff.mp e1).1
  have dz : dis Z (un S Sw) := n.dj fr.dj fr.az
  have nT : ∀ b, T b → un S Sw b := fun b z => .inl (a1 b z)
  have sm : Same (hid H (un Z (un S Sw))) (hid H' (un Z (un S Sw))) := fun b o e => by
    rw [hid_some] at *
    exact ⟨kp b o (fun z => e.2 (.inr (nT b z))) e.1, e.2⟩
  have keepU : ∀ b o, U b → H b = some o → H' b = some o := fun b o z e => kp b o (fun y => dTU b y z) e
  have dUw : dis (un T Sw) U := fun b z y => z.elim (fun z => dTU b z y) fun z => dj b (a2 b y) z
  have h5 := ((e4.mono sm (fun _ z => z) keepU)).put (T := un T Sw) (y := y') hl e1 dUw (rw' sm)
  have hsub : sub (un (un T Sw) U) (un S Sw) := fun b z => z.elim (fun z => z.elim (fun z => .inl (a1 b z)) .inr) fun z => .inl (a2 b z)
  have alv : ∀ b, un (un T Sw) U b → H' b ≠ none := fun b z nn => by
    by_cases t : T b
    · exact al b t nn
    · cases e : H b with
      | none => exact n.al b (hsub b z) e
      | some o => rw [kp b o t e] at nn; cases nn
  have nx : Nx S0 H0 false (un (un T Sw) U) H' := ⟨fun b o hb e => kp b o (fun z => (n.own b (nT b z)).elim hb fun nn => by rw [e] at nn; cases nn) (n.keep b o hb e), fun b z => n.own b (hsub b z), alv, fun z => nomatch z⟩
  have sm2 : Same (hid H' (un Z (un S Sw))) (hid H' (un Z (un (un T Sw) U))) := hid_anti fun b z => z.elim .inl fun z => .inr (hsub b z)
  exact ⟨_, nx, nx.dj fr.dj fr.az, nx.az fr.dj fr.az, alv, h5.mono sm2 (fun _ z => z) fun _ _ _ e => e, ca.km0 nx.hid fr.kp⟩
/-- .. where no value is taken in -/
theorem slot_put0 {i : Nat} {y : W} (fr : Fr X ca Z S ρ σ H) (hi : ρ[i]? = some (some y)) :
    ∃ v T, σ[i]? = some (some v) ∧ sub T S ∧ RepW X.prog X.w X.K ca (hid H (un Z S)) H y v T ∧
      ∀ H' y', (∀ b o, ¬ T b → H b = some o → H' b = some o) → (∀ b, T b → H' b ≠ none) → (Same (hid H (un Z S)) (hid H' (un Z S)) → RepW X.prog X.w X.K ca (hid H' (un Z S)) H' y' v T) →
        ∃ S', Nx S H false S' H' ∧ Fr X ca Z S' (ρ.set i (some y')) σ H' := by
  have e0 : ∀ H', hid H' (un Z (un S emp)) = hid H' (un Z S) := fun H' => hid_congr fun a => ⟨fun z => z.elim .inl fun z => z.elim .inr fun z => z.elim, fun z => z.elim .inl fun z => .inr (.inl z)⟩
  obtain ⟨v, T, h1, h2, h3, h4⟩ := slot_put (q := true) (Sw := emp) fr ⟨fun _ _ _ e => e, fun b z => z.elim .inl fun z => z.elim, fun b z => z.elim (fr.as b) fun z => z.elim, fun _ => Same.refl _⟩ (fun _ _ z => z) (by rw [e0]; exact fr.rep) hi
  rw [e0] at h3
  refine ⟨v, T, h1, h2, h3, fun H' y' kp al rw' => h4 H' y' kp al fun sm => ?_⟩
  rw [e0, e0] at sm
  rw [e0]
  exact (rw' sm).mono (Same.refl _) (fun _ z => .inl z) fun _ _ _ e => e
theorem slotU_some {i : Nat} {g : W → Option W} {ρ' : Ro} (h : slotU i g ρ = some ρ') : ∃ y y', ρ[i]? = some (some y) ∧ g y = some y' ∧ ρ' = ρ.set i (some y') := by
  unfold slotU at h
  split at h
  · rename_i y hy
    obtain ⟨y', e1, e2⟩ := map_some h
    exact ⟨y, y', hy, e1, e2.symm⟩
  · cases h
theorem upd_keep {a : Addr} {o : HO} (hT : T a) : ∀ b u, ¬ T b → H b = some u → upd H a o b = some u := fun b u n e => by
  rw [upd_ne (fun z => n (by rw [z]; exact hT))]
  exact e
theorem upd_al {a : Addr} {o : HO} (h : ∀ b, T b → H b ≠ none) : ∀ b, T b → upd H a o b ≠ none := fun b z => by
  by_cases c : b = a
  · rw [c, upd_same]; simp
  · rw [upd_ne c]; exact h b z
/-- a store by a key -/
theorem store_at {i : Nat} {wk wv : D} {y y' : W} {v0 kv vv : V} {u ki vi : Value} {Q : Unit → Shared → Prop} (hu : X.A.units + 64 < cLine) (I : Inv X pins σ H s) (fr : Fr X ca Z S ρ σ H) (hi : ρ[i]? = some (some y)) (hv : σ[i]? = some (some v0)) (hg : storeW y wk wv = some y')
    (rk : RepD X.prog X.w X.K ca (hid H (un Z S)) wk kv) (rv : RepD X.prog X.w X.K ca (hid H (un Z S)) wv vv) (ru : RelV v0 u) (rki : RelV kv ki) (rvi : RelV vv vi)
    (hq : ∀ H' s', Inv X pins σ H' s' → (∃ S', Nx S H false S' H' ∧ Fr X ca Z S' (ρ.set i (some y')) σ H') → Q () s') : wpAny (model X.prog X.w) X.A (setItem u ki vi) Q X.xe s := by
  obtain ⟨v, T, e1, hTS, rw', fin⟩ := slot_put0 fr hi
  rw [hv] at e1
  cases e1
  unfold storeW at hg
  cases y with
  | dic ks vs =>
    simp only at hg
    split at hg
    · rename_i hc
      cases hg
      rw [Bool.and_eq_true, decide_eq_true_eq] at hc
      obtain ⟨a, rfl, hT, da⟩ := rw'
      obtain rfl : u = Value.ref a := ru
      refine dic_put hu I da (.inr (hTS a hT)) rk rki rv rvi hc.1 hc.2 fun o s' hd I' => hq _ s' I' (fin _ _ (upd_keep hT) (upd_al fun b z => fr.as b (hTS b z)) fun sm => ⟨a, rfl, hT, hd _ sm⟩)
    · cases hg
  | lst l =>
    simp only at hg
    cases wk with
    | int j =>
      simp only at hg
      split at hg
      · rename_i hc
        cases hg
        rw [Bool.and_eq_true, decide_eq_true_eq, decide_eq_true_eq] at hc
        obtain ⟨a, xs, rfl, hT, ha, rs⟩ := rw'
        have hl := rs.length
        have hj : ixN xs.length j = some j.toNat := by
          unfold ixN
          rw [if_pos hc.1, if_pos (by omega)]
        refine thn (set_list pins s σ H (.ref a) kv vv u ki vi (fun H' => H' = upd H a (.lst (xs.set j.toNat vv))) I ru rki rvi ⟨a, xs, j, j.toNat, rfl, rk, ha, hj, rfl⟩) fun _ s' ⟨H', I', eH⟩ => ?_
        subst eH
        refine hq _ s' I' (fin _ _ (upd_keep hT) (upd_al fun b z => fr.as b (hTS b z)) fun sm => ⟨a, _, rfl, hT, upd_same, ?_⟩)
        have sets : ∀ {l : List D} {xs : List V} (n : Nat), RepDs X.prog X.w X.K ca (hid H (un Z S)) l xs → RepDs X.prog X.w X.K ca (hid H (un Z S)) (l.set n wv) (xs.set n vv) := by
          intro l
          induction l with
          | nil => intro xs n h; rw [show xs = [] from h]; rfl
          | cons d t ih =>
            intro xs n h
            obtain ⟨x, r, rfl, h1, h2⟩ := h
            cases n with
            | zero => exact ⟨vv, r, rfl, rv, h2⟩
            | succ n => exact ⟨x, _, rfl, h1, ih n h2⟩
        exact (sets _ rs).mono sm
      · cases hg
    | _ => cases hg
  | _ => cases hg
/-- name[k] = v, name a slot -/
theorem ds_sub (i : Nat) (hu : X.A.units + 64 < cLine) (ho : PE X o (tVar i)) (hk : DB X ca Wx q1 true a fk) (hv : DB X ca Wx q2 true b fv) (hq : q1 = true := by rfl) (hs : swapsWith b (some (.Subscript o a pos')) pos.line X.env = pure false := by rfl) :
    DS X ca Wx pin (.Assign [.Subscript o a pos'] b pos) (s_sub i fv fk) := by
  refine ⟨⟨fun pins s σ H D I ⟨Z, S, ρ, fr, po⟩ => wpAny_Assign_Subscript ?_ hs⟩⟩
  unfold s_sub at po
  have gox : ∀ {x ρ'}, PoS X ca Wx pin Z S σ H (.ex x ρ') D → PoX X ca Wx Z S σ H x ρ' := fun po cls d H' o => po cls d σ H' o.x
  have go : ∀ wv ρ1, fv ρ = .ok wv ρ1 → ∀ v u s1 H1, Inv X pins σ H1 s1 → RelV v u → OKB X ca true Z S H q2 σ (frz wv) ρ1 v H1 →
      wpAny (model X.prog X.w) X.A (eval o X.env) (fun ov s₂ => wpAny (model X.prog X.w) X.A (eval a X.env) (fun iv s₃ => wpAny (model X.prog X.w) X.A (setItem ov iv u) (fun _ => SP X pins D .next) X.xe s₃) X.xe s₂) X.xe s1 := fun wv ρ1 e v u s1 H1 I1 r1 ⟨S1, n1, fr1, rp1⟩ => by
    rw [e] at po
    simp only at po
    split at po
    · rename_i w0 hw0
      obtain ⟨v0, T0, e0, _⟩ := fr1.rep.get hw0
      refine thn (ho.run pins s1 σ H1 (fun v' H' => v' = v0 ∧ H' = H1) I1 ⟨v0, e0, rfl, rfl⟩) fun ov s2 ⟨v', H', I2, ro, ev, eH⟩ => ?_
      subst eH ev
      refine DB.bindSt hk I2 fr1 (fun wk ρ2 e2 kv ki s3 H3 I3 rki o2 => ?_) (fun x ρ2 e2 => ?_) (fun e2 => ?_)
      · rw [e2] at po
        simp only at po
        obtain ⟨S2, n2, fr2, rp2⟩ := o2
        cases e3 : slotU i (fun o => storeW o (frz wk) (frz wv)) ρ2 with
        | none => rw [e3] at po; exact po.elim
        | some ρ3 =>
          rw [e3] at po
          obtain ⟨y, y', h1, h2, rfl⟩ := slotU_some e3
          refine store_at hu I3 fr2 h1 e0 h2 rp2.d ((rp1.keep n2 (.inl rfl)).d) ro rki r1 fun H4 s4 I4 ⟨S4, n4, fr4⟩ => ⟨σ, H4, I4, ?_⟩
          exact po σ H4 ⟨S4, ((n1.trans n2).trans n4).weak (fun z => nomatch z), fr4, Pn.refl⟩
      · rw [e2] at po
        exact fun cls d H2 ⟨S2, n2, r⟩ => gox po cls d H2 ⟨S2, (n1.trans n2).weak (fun z => nomatch z), r⟩
      · rw [e2] at po; exact po
    · exact po.elim
  exact thn (DB.seq hv I fr go (fun x ρ1 e => by rw [e] at po; exact gox po) (fun e => by rw [e] at po; exact po)) fun u s1 ⟨_, p⟩ => p
end
end L3

set_option Elab.async false
set_option linter.all false
set_option maxRecDepth 100000
set_option maxHeartbeats 1000000
/-! L3r: fields stored, append, augmented stores. -/
namespace L3
open PySem PySem.Spec PyProof.Rows L2

def putVs (f : Str) (w : V) : List Str → List V → List V
  | g :: r, x :: s => if g = f then w :: s else x :: putVs f w r s
  | _, s => s ++ [w]
theorem putF_zip (f : Str) (y : V) : ∀ (fs : List Str) (xs : List V), fs.length = xs.length → putF f y (fs.zip xs) = (putFs f fs).zip (putVs f y fs xs) ∧ (putFs f fs).length = (putVs f y fs xs).length
  | [], [], _ => ⟨rfl, rfl⟩
  | [], _ :: _, h => by cases h
  | _ :: _, [], h => by cases h
  | g :: r, x :: s, h => by
    obtain ⟨e1, e2⟩ := putF_zip f y r s (by simpa using h)
    rw [List.zip_cons_cons]
    unfold putF putFs putVs
    by_cases c : g = f
    · rw [if_pos c, if_pos c, if_pos c]
      exact ⟨by rw [List.zip_cons_cons], h⟩
    · rw [if_neg c, if_neg c, if_neg c]
      exact ⟨by rw [List.zip_cons_cons, e1], by simpa using e2⟩
theorem RepWs.put {P : Program} {w : World} {K : PySem.W.Frag} {cl : Nat → Addr} {G H : Hp} {f : Str} {y : W} {v : V} {Tw : AS} : {fs : List Str} → {vs : List W} → {xs : List V} → {T : AS} → fs.length = vs.length → RepWs P w K cl G H vs xs T → RepW P w K cl G H y v Tw → dis T Tw → RepWs P w K cl G H (putWs f y fs vs) (putVs f v fs xs) (un T Tw)
  | [], [], _, T, _, h, hv, dj => by
    have e : _ = [] := h
    subst e
    exact ⟨v, [], Tw, emp, rfl, fun _ z => .inr z, fun _ z => z.elim, fun _ _ z => z, hv, rfl⟩
  | [], _ :: _, _, _, e, _, _, _ => by cases e
  | _ :: _, [], _, _, e, _, _, _ => by cases e
  | g :: r, x :: s, _, T, e, h, hv, dj => by
    obtain ⟨z, t, S1, S2, ex, a1, a2, dd, h1, h2⟩ := h
    subst ex
    unfold putWs putVs
    by_cases c : g = f
    · rw [if_pos c, if_pos c]
      exact ⟨v, t, Tw, S2, rfl, fun _ z => .inr z, fun b z => .inl (a2 b z), fun b z y => dj b (a2 b y) z, hv, h2⟩
    · rw [if_neg c, if_neg c]
      exact ⟨z, _, S1, un S2 Tw, rfl, fun b z => .inl (a1 b z), fun b z => z.elim (fun z => .inl (a2 b z)) .inr, fun b z y => y.elim (dd b z) (dj b (a1 b z)), h1, RepWs.put (by simpa using e) h2 hv fun b z y => dj b (a2 b z) y⟩
/-- name.f op= v, ints -/
def fldI (n : Nat) (C : Nat) (f : Str) (z : Int) : W → Option W
  | .ins C' fs vs => if C' = C then fldW n f (.d (.int z)) (.ins C' fs vs) else none
  | _ => none
def s_fldaug (n : Nat) (i : Nat) (f : Str) (g : Int → Int → Int) (fv : Ro → ER) : Ro → SR := fun ρ => match ρ[i]? with
  | some (some (.ins C fs vs)) => if C < n then match getf fs (frzs vs) f with
    | some (.int x) => match fv ρ with
      | .ok w ρ1 => match frz w with
        | .int y => match slotU i (fldI n C f (g x y)) ρ1 with
          | some ρ2 => .nx ρ2
          | none => .no
        | _ => .no
      | .ex x ρ1 => .ex x ρ1
      | .no => .no
    | _ => .no
    else .no
  | _ => .no
section
variable {X : Cx} {ca : Ca} {Wx : WX} {Z S S0 S1 S2 Sw T : AS} {σ σ0 σ1 : L2.St} {H H0 H1 H2 G : Hp} {ρ ρ0 ρ1 ρ2 : Ro} {q q1 q2 q3 k k1 k2 k3 : Bool} {a b c e o tg : Expr} {fa fb fc fv fk : Ro → ER} {pos pos' p p2 apos tpos : Pos} {pins : List (Addr × Obj)} {s : Shared} {pin : List Nat}
/-- a field is put into an instance -/
theorem fld_at {n : Nat} {f : Str} {C : Nat} {fs : List Str} {vs : List W} {y y' : W} {a dx : Addr} {xs : List V} {v : V} {G G' : Hp} (hg : fldW n f y (.ins C fs vs) = some y') (sm : Same G G') (hh : ∀ b, b ≠ a → H1 b = H b) (ha : H1 a = some (.ins (ca C) dx (putF f v (fs.zip xs)))) (hT : T a) (na : ¬ S a) (naw : ¬ Sw a) (hTS : sub S T) (dj : dis S Sw)
    (rs : RepWs X.prog X.w X.K ca G H vs xs S) (rw' : RepW X.prog X.w X.K ca G H y v Sw) (hl : fs.length = xs.length) : C < n ∧ (fs.zip xs).length < 1000 ∧ RepW X.prog X.w X.K ca G' H1 y' (.ref a) (un T Sw) := by
  have hg : (if C < n && decide (fs.length < 900) && decide (fs.length = vs.length) then some (.ins C (putFs f fs) (putWs f y fs vs)) else none) = some y' := hg
  split at hg
  · rename_i hc
    cases hg
    rw [Bool.and_eq_true, Bool.and_eq_true, decide_eq_true_eq, decide_eq_true_eq, decide_eq_true_eq] at hc
    obtain ⟨⟨c1, c2⟩, c3⟩ := hc
    obtain ⟨e1, e2⟩ := putF_zip f v fs xs hl
    refine ⟨c1, by rw [List.length_zip, ← hl]; omega, a, dx, putVs f v fs xs, un S Sw, rfl, .inl hT, fun z => z.elim na naw, fun b z => z.elim (fun z => .inl (hTS b z)) .inr, by rw [ha, e1], ?_, e2⟩
    have h1 : RepWs X.prog X.w X.K ca G' H1 vs xs S := rs.mono sm (fun _ z => z) fun b o z e => by rw [hh b (fun e => na (e ▸ z))]; exact e
    have h2 : RepW X.prog X.w X.K ca G' H1 y v Sw := rw'.mono sm (fun _ z => z) fun b o z e => by rw [hh b (fun e => naw (e ▸ z))]; exact e
    exact h1.put c3 h2 dj
  · cases hg
theorem fldW_n {n : Nat} {f : Str} {C : Nat} {fs : List Str} {vs : List W} {y y' : W} (hg : fldW n f y (.ins C fs vs) = some y') : C < n ∧ fs.length < 900 := by
  have hg : (if C < n && decide (fs.length < 900) && decide (fs.length = vs.length) then some (.ins C (putFs f fs) (putWs f y fs vs)) else none) = some y' := hg
  split at hg
  · rename_i hc
    rw [Bool.and_eq_true, Bool.and_eq_true, decide_eq_true_eq, decide_eq_true_eq, decide_eq_true_eq] at hc
    exact ⟨hc.1.1, hc.1.2⟩
  · cases hg
/-- name.f = v -/
theorem ds_fld (i : Nat) {n : Nat} {f : Str} (ok : FldOk X ca n f) (ho : PE X o (tVar i)) (hv : DE X ca Wx q b fv) (hs : swapsWith b (some (.Attribute o f pos')) pos.line X.env = pure false := by rfl) :
    DS X ca Wx pin (.Assign [.Attribute o f pos'] b pos) (s_fld n i f fv) := by
  refine ⟨(ps_fld ho hv.run hs).imp fun D σ H ⟨Z, S, ρ, fr, po⟩ => ?_⟩
  refine ⟨Z, S, ρ, fr, ?_⟩
  unfold s_fld at po
  cases e : fv ρ with
  | no => rw [e] at po; exact po
  | ex x ρ1 => rw [e] at po; exact fun cls d H' o => po cls d σ H' o.x
  | ok w ρ1 =>
    rw [e] at po
    intro v H1 ⟨S1, Sw, n1, dj1, rs1, rw1⟩
    simp only at po
    cases e3 : slotU i (fldW n f w) ρ1 with
    | none => rw [e3] at po; exact po.elim
    | some ρ2 =>
      rw [e3] at po
      obtain ⟨y, y', h1, h2, rfl⟩ := slotU_some e3
      obtain ⟨v0, T, e1, hTS, rw0, fin⟩ := slot_put fr n1 dj1 rs1 h1
      cases y with
      | ins C fs vs =>
        obtain ⟨a, dx, xs, T', rfl, hT, hT', hTT, ha, rsf, hl⟩ := rw0
        obtain ⟨c1, c2⟩ := fldW_n h2
        refine ⟨.ref a, e1, a, ca C, dx, fs.zip xs, rfl, ha, (ok C c1).1, (ok C c1).2, by rw [List.length_zip, ← hl]; omega, ?_⟩
        obtain ⟨S', n', fr'⟩ := fin (upd H1 a (.ins (ca C) dx (putF f v (fs.zip xs)))) y' (upd_keep hT) (upd_al fun b z => n1.al b (.inl (hTS b z))) fun sm =>
          (fld_at h2 sm (fun b hb => upd_ne hb) upd_same hT hT' (fun z => dj1 a (hTS a hT) z) hTT (fun b z y => dj1 b (hTS b (hTT b z)) y) rsf rw1 hl).2.2
        exact po σ _ ⟨S', n'.weak (fun z => nomatch z), fr', Pn.refl⟩
      | _ => cases h2
/-- name.f op= v, ints -/
theorem ds_fldaug (i : Nat) {n : Nat} {f : Str} {op : Operator} {rd : V → V → Hp → VK → Prop} {g : Int → Int → Int} (hrd : ∀ x y H Q, Q (.int (g x y)) H → rd (.int x) (.int y) H Q) (hop : InOp X op rd) (ok : FldOk X ca n f) (ho : PE X o (tVar i)) (hv : DB X ca Wx q true b fv) :
    DS X ca Wx pin (.AugAssign (.Attribute o f tpos) op b pos) (s_fldaug n i f g fv) := by
  refine ⟨(ps_fldaug ho hv.run hop).imp fun D σ H ⟨Z, S, ρ, fr, po⟩ => ?_⟩
  unfold s_fldaug at po
  split at po
  · rename_i C fs vs hi
    split at po
    · rename_i hC
      split at po
      · rename_i x hx
        obtain ⟨v0, T0, e0, hT0, rw0⟩ := fr.rep.get hi
        obtain ⟨a, dx, xs, T', rfl, hT, hT', hTT, ha, rsf, hl⟩ := rw0
        obtain ⟨vx, l1, l2⟩ := getf_look hx (rsf.borrow hid_same)
        refine ⟨.ref a, e0, a, ca C, dx, fs.zip xs, vx, rfl, ha, (ok C hC).1, (ok C hC).2, l1, Z, S, ρ, fr, ?_⟩
        cases e : fv ρ with
        | no => rw [e] at po; exact po
        | ex x ρ1 => rw [e] at po; exact fun cls d H' o => po cls d σ H' o.x
        | ok w ρ1 =>
          rw [e] at po
          intro vy H1 ⟨S1, n1, fr1, rp1⟩
          simp only at po
          split at po
          · rename_i y hy
            rw [hy] at rp1
            have ey : vy = .int y := rp1.d
            have ex : vx = .int x := l2
            subst ey ex
            refine hrd _ _ _ _ ?_
            cases e3 : slotU i (fldI n C f (g x y)) ρ1 with
            | none => rw [e3] at po; exact po.elim
            | some ρ2 =>
              rw [e3] at po
              obtain ⟨w0, w', h1, h2, rfl⟩ := slotU_some e3
              obtain ⟨v1, T, e1, hTS, rw1, fin⟩ := slot_put0 fr1 h1
              rw [e0] at e1
              cases e1
              cases w0 with
              | ins C' fs' vs' =>
                have h9 : (if C' = C then fldW n f (.d (.int (g x y))) (.ins C' fs' vs') else none) = some w' := h2
                split at h9
                · rename_i hCC
                  subst hCC
                  obtain ⟨a', dx', xs', T2, ea, hT2, hT2', hTT2, ha2, rsf2, hl2⟩ := rw1
                  cases ea
                  obtain ⟨c1, c2⟩ := fldW_n h9
                  refine ⟨dx', fs'.zip xs', ha2, by rw [List.length_zip, ← hl2]; omega, ?_⟩
                  obtain ⟨S', n', fr'⟩ := fin (upd H1 a (.ins (ca C') dx' (putF f (.int (g x y)) (fs'.zip xs')))) w' (upd_keep hT2) (upd_al fun b z => fr1.as b (hTS b z)) fun sm =>
                    (fld_at (Sw := emp) h9 sm (fun b hb => upd_ne hb) upd_same hT2 hT2' (fun z => z) hTT2 (fun _ _ z => z) rsf2 rfl hl2).2.2.mono (Same.refl _) (fun b z => z.elim id fun z => z.elim) fun _ _ _ e => e
                  exact po σ _ ⟨S', (n1.trans n').weak (fun z => nomatch z), fr', Pn.refl⟩
                · cases h9
              | _ => cases h2
          · exact po.elim
      · exact po.elim
    · exact po.elim
  · exact po.elim
/-- name.append(e) -/
theorem ds_app (i : Nat) {fv : Ro → ER} (ho : PE X o (tVar i)) (hv : DB X ca Wx q true e fv)
    (hbase : attributeBase o "append" X.env (eval o X.env) = eval o X.env := by rfl)
    (hfew : ((backTo p (starEach [e] X.env)).all (fun x => !x.1) && (backToKw p (keywordEach [] X.env)).all (fun x => x.1.isSome)
      && decide ([e].length + ([] : List Keyword).length + (if ([] : List Keyword).isEmpty then 0 else 1) < 30)) = true := by rfl)
    (hline : (apos.endLine == p.line) = true := by rfl) (hs : starEach [e] X.env = (false, eval e X.env) :: starEach [] X.env := by rfl) (hplain : (backTo p (starEach [] X.env)).any (·.1) = false := by rfl)
    (hsw : swapsWith (.Call (.Attribute o "append" apos) [e] [] p) none pos.line X.env = pure false := by rfl) :
    DS X ca Wx pin (.Expr (.Call (.Attribute o "append" apos) [e] [] p) pos) (s_app i fv) := by
  refine ⟨(ps_expr (pe_bm PySem.F.plainAttrs_list PySem.F.slot_list_append PySem.F.type_list_append mt_append ho (pa_cons hv.run pa_nil hs) hbase hfew hline hs hplain) hsw).imp fun D σ H ⟨Z, S, ρ, fr, po⟩ => ?_⟩
  unfold s_app at po
  split at po
  · rename_i l0 hi
    obtain ⟨v0, T0, e0, hT0, a0, xs0, rfl, hT00, ha0, _⟩ := fr.rep.get hi
    refine ⟨.ref a0, e0, .inl ⟨rfl, xs0, SqL.of ha0⟩, Z, S, ρ, fr, ?_⟩
    cases e1 : fv ρ with
    | no => rw [e1] at po; exact po
    | ex x ρ1 => rw [e1] at po; exact fun cls d H' o => po cls d σ H' o.x
    | ok w ρ1 =>
      rw [e1] at po
      intro vy H1 ⟨S1, n1, fr1, rp1⟩
      simp only at po
      cases e3 : slotU i (appW (frz w)) ρ1 with
      | none => rw [e3] at po; exact po.elim
      | some ρ2 =>
        rw [e3] at po
        obtain ⟨y, y', h1, h2, rfl⟩ := slotU_some e3
        obtain ⟨v1, T, e4, hTS, rw1, fin⟩ := slot_put0 fr1 h1
        rw [e0] at e4
        cases e4
        cases y with
        | lst l =>
          have h2' : (if l.length < maxLen then some (.lst (l ++ [frz w])) else none) = some y' := h2
          split at h2'
          · rename_i hc
            cases h2'
            obtain ⟨a, xs, ea, hT, ha, rs⟩ := rw1
            cases ea
            rw [maxLen_eq] at hc
            refine ⟨a0, xs, vy, rfl, rfl, ha, by rw [← rs.length]; exact hc, ?_⟩
            obtain ⟨S', n', fr'⟩ := fin (upd H1 a0 (.lst (xs ++ [vy]))) (.lst (l ++ [frz w])) (upd_keep hT) (upd_al fun b z => fr1.as b (hTS b z)) fun sm => ⟨a0, _, rfl, hT, upd_same, (rs.snoc rp1.d).mono sm⟩
            exact po σ _ ⟨S', (n1.trans n').weak (fun z => nomatch z), fr', Pn.refl⟩
          · cases h2'
        | _ => cases h2
  · exact po.elim
end
end L3

set_option Elab.async false
set_option linter.all false
set_option maxRecDepth 100000
set_option maxHeartbeats 1000000
/-! L3s: name += e, name[k] += e. -/
namespace PySem.L3X
open PySem PySem.AutoSeq1
theorem iadd_ll (l : Addr) (items : Array Value) (n : Nat) (b : Addr) (items2 : Array Value) (n2 : Nat) (sl : Array (Option Value)) (hs0 : ¬(!items.isEmpty && Builtin.List.listTooLong (items.size + items2.size)) = true) (hs1 : items.size ≤ sizeLine) (hs2 : items.size + items2.size ≤ sizeLine + 1) :
    Meets (Builtin.«list.__iadd__» ⟨[.ref l, .ref b], []⟩) (fun _ R s => s.heap.get? l = some { cls := .type "list", dict := none, data := .seq items n, slots := #[] } ∧ s.heap.get? b = some { cls := .type "list", dict := none, data := .seq items2 n2, slots := sl } ∧ R (.ok (.ret (Value.ref l))) { s with heap := s.heap.update l (Obj.mapSeq fun x => x ++ items2), toks := s.toks }) :=
  .of_wp fun prog w A R s h => by
    obtain ⟨hp, g, d, tk, os⟩ := s; obtain ⟨hl, hb, h⟩ := h; have f1 := idx_int; have f2 := sub_tuple_tuple; have f3 := sub_list_list; have f4 := sub_tuple_list; have f5 := sub_list_tuple
    have hz' : (items ++ items2).size ≤ sizeLine + 1 := by rw [Array.size_append]; exact hs2
    wp_walk using (wpAny_updateSeq hl rfl (hz := hs1) (_hz' := hz')), wpAny_loadPart' hl, wpAny_loadPart' hb
    exact ⟨_, rfl, h⟩
theorem iadd_lt (l : Addr) (items : Array Value) (n : Nat) (b : Addr) (items2 : Array Value) (n2 : Nat) (dd : Option Addr) (sl : Array (Option Value)) (hs0 : ¬(!items.isEmpty && Builtin.List.listTooLong (items.size + items2.size)) = true) (hs1 : items.size ≤ sizeLine) (hs2 : items.size + items2.size ≤ sizeLine + 1) :
    Meets (Builtin.«list.__iadd__» ⟨[.ref l, .ref b], []⟩) (fun _ R s => s.heap.get? l = some { cls := .type "list", dict := none, data := .seq items n, slots := #[] } ∧ s.heap.get? b = some { cls := .type "tuple", dict := dd, data := .seq items2 n2, slots := sl } ∧ R (.ok (.ret (Value.ref l))) { s with heap := s.heap.update l (Obj.mapSeq fun x => x ++ items2), toks := s.toks }) :=
  .of_wp fun prog w A R s h => by
    obtain ⟨hp, g, d, tk, os⟩ := s; obtain ⟨hl, hb, h⟩ := h; have f1 := idx_int; have f2 := sub_tuple_tuple; have f3 := sub_list_list; have f4 := sub_tuple_list; have f5 := sub_list_tuple
    have hz' : (items ++ items2).size ≤ sizeLine + 1 := by rw [Array.size_append]; exact hs2
    wp_walk using (wpAny_updateSeq hl rfl (hz := hs1) (_hz' := hz')), wpAny_loadPart' hl, wpAny_loadPart' hb
    exact ⟨_, rfl, h⟩
end PySem.L3X

namespace L3
open PySem PySem.Spec PyProof.Rows L2
/-- what a op= b makes of data -/
def iaddD (a b : D) : Option D := match a, b with
  | .int i, .int j => some (.int (i + j))
  | .str x, .str y => if x.length + y.length ≤ maxLen && PyData.strOk (x ++ y) then some (.str (x ++ y)) else none
  | _, _ => none
def isubD (a b : D) : Option D := match a, b with
  | .int i, .int j => some (.int (i - j))
  | _, _ => none
/-- name op= e; ext: lists are extended -/
def s_aug (ext : Bool) (i : Nat) (g : D → D → Option D) (fv : Ro → ER) : Ro → SR := fun ρ => match ρ[i]? with
  | some (some (.d x)) => match fv ρ with
    | .ok w ρ1 => match g x (frz w) with
      | some d => .nx (ρ1.set i (some (.d d)))
      | none => .no
    | .ex x ρ1 => .ex x ρ1
    | .no => .no
  | some (some (.lst _)) => if ext = true then match fv ρ with
    | .ok w ρ1 => match ρ1[i]?, frz w with
      | some (some (.lst l)), .lst m => if l.length + m.length ≤ maxLen then .nx (ρ1.set i (some (.lst (l ++ m)))) else .no
      | _, _ => .no
    | .ex x ρ1 => .ex x ρ1
    | .no => .no
    else .no
  | _ => .no
/-- name[k] op= e: a list of ints -/
def s_augsub (i : Nat) (j : Nat) (g : Int → Int → Int) (fv : Ro → ER) : Ro → SR := fun ρ => match ρ[i]? with
  | some (some (.lst l)) => match l[j]? with
    | some (.int x) => match fv ρ with
      | .ok w ρ1 => match frz w, ρ1[i]? with
        | .int y, some (some (.lst l2)) => if j < l2.length then .nx (ρ1.set i (some (.lst (l2.set j (.int (g x y)))))) else .no
        | _, _ => .no
      | .ex x ρ1 => .ex x ρ1
      | .no => .no
    | _ => .no
  | _ => .no
section
variable {X : Cx} {ca : Ca} {Wx : WX} {Z S S0 S1 S2 Sw T : AS} {σ σ0 σ1 : L2.St} {H H0 H1 H2 G : Hp} {ρ ρ0 ρ1 ρ2 : Ro} {q q1 q2 q3 k k1 k2 k3 : Bool} {a b c e o tg : Expr} {fa fb fc fv fk : Ro → ER} {pos pos' p p2 apos tpos : Pos} {pins : List (Addr × Obj)} {s : Shared} {pin : List Nat}
theorem io_add : Op2 X ca (inplaceOp .Add) iaddD := by
  intro pins s σ H T x y u v da db d Q hT I rx ry hx hy e hq
  unfold iaddD at e
  split at e
  · cases e
    exact iop_add pins s σ H x y u v Q I rx ry ⟨_, _, hx, hy, hq _ H (Same.refl _) rfl⟩
  · split at e
    · rename_i hc
      cases e
      rw [Bool.and_eq_true, decide_eq_true_eq, maxLen_eq] at hc
      obtain ⟨rfl, _⟩ := hx
      obtain ⟨rfl, _⟩ := hy
      obtain ⟨t, rfl⟩ := rx
      obtain ⟨t', rfl⟩ := ry
      exact PyProof.Rows.iadd_str (hsz := hc.1) fun t' tk => ⟨.str _, H, I.tok _, ⟨_, rfl⟩, hq _ H (Same.refl _) ⟨rfl, hc.2⟩⟩
    · cases e
  · cases e
theorem io_sub : Op2 X ca (inplaceOp .Sub) isubD := by
  intro pins s σ H T x y u v da db d Q hT I rx ry hx hy e hq
  unfold isubD at e
  split at e
  · cases e
    exact iop_sub pins s σ H x y u v Q I rx ry ⟨_, _, hx, hy, hq _ H (Same.refl _) rfl⟩
  · cases e
/-- a list that is owned, extended -/
def ExtOk (X : Cx) (op : Operator) (ext : Bool) : Prop := ext = true → op = .Add
theorem ext_run {l b : Addr} {xs zs : List V} {Q : VK} (I : Inv X pins σ H s) (hH : H l = some (.lst xs)) (hB : SqL X.K H b zs) (hz : xs.length + zs.length ≤ sizeLine) (q : Q (.ref l) (upd H l (.lst (xs ++ zs)))) :
    wpAny (model X.prog X.w) X.A (inplaceOp .Add (.ref l) (.ref b)) (EP X pins σ Q) X.xe s := by
  obtain ⟨z, its, n, r, hl, e⟩ := I.lstM hH
  obtain ⟨its2, r2, ⟨o2, n2, e2, c2, d2, q2⟩, _⟩ := I.list hB
  obtain ⟨oc, od, odt, osl⟩ := o2
  dsimp only at c2 d2 q2
  subst c2 d2 q2
  have hl2 := r2.length
  have hsz : its.toArray.size + its2.toArray.size ≤ sizeLine := by rw [List.size_toArray, List.size_toArray]; omega
  have hlong : ¬ (!its.toArray.isEmpty && Builtin.List.listTooLong (its.toArray.size + its2.toArray.size)) = true := by
    rw [notLongL hsz, Bool.and_false]
    exact Bool.false_ne_true
  refine iadd_road ⟨_, e, rfl⟩ ⟨_, e2, rfl⟩ (call_meets PySem.F.slot_list_iadd ⟨_, e, rfl⟩ PySem.F.entry_list_iadd (PySem.F.args_list_iadd_2 _ _)
    (PySem.L3X.iadd_ll l its.toArray n b its2.toArray n2 osl hlong (by rw [List.size_toArray]; omega) (by omega)) ⟨e, e2, ?_⟩)
  refine ⟨.ref l, _, I.lset (its' := its ++ its2) (t' := s.toks) hH e (by simp) (r.append r2) ?_, rfl, q⟩
  rw [List.length_append]
  omega
/-- the name's load ahead of op= -/
theorem aug_of {i : Nat} {x : Str} {op : Operator} {D : Ends} {v : V} (hN : X.N.Nodup) (hi : X.N[i]? = some x) (hx : Loc X.env.scope x) (I : Inv X pins σ H s) (hv : σ[i]? = some (some v))
    (hf : X.fn x = true ∨ X.env.scope.names.lookup x = some .local)
    (h : ∀ u, RelV v u → wpAny (model X.prog X.w) X.A (eval e X.env) (fun w s₂ => wpAny (model X.prog X.w) X.A (inplaceOp op u w) (EP X pins σ fun z H' => D.nx (σ.set i (some z)) H') X.xe s₂) X.xe s) :
    wpAny (model X.prog X.w) X.A (exec (.AugAssign (.Name x pos') op e pos) X.env) (SP X pins D) X.xe s := by
  obtain ⟨m, hn, hl⟩ := I.loc
  have vis : Vis X.env.scope x := by rcases hx with k | k; exact .inl k; exact .inr (.inl k)
  obtain ⟨u, r, l⟩ := hl i x v hi hv vis
  refine wpAny_AugAssign_Name ?_
  have go : wpAny (model X.prog X.w) X.A (eval e X.env) (fun w s₂ => wpAny (model X.prog X.w) X.A (inplaceOp op u w) (fun r s₃ => wpAny (model X.prog X.w) X.A (storeName X.env x r) (fun _ => SP X pins D .next) X.xe s₃) X.xe s₂) X.xe s := by
    refine thn (h u r) fun w s2 hh => thn hh fun z s3 ⟨zv, H2, I2, r2, q2⟩ => ?_
    exact store_ok I2 hN hi hx r2 (fun s3 I3 => ⟨_, H2, I3, q2⟩) hf
  rcases l with ⟨hk, hm⟩ | ⟨hk, c, hc, hcell⟩
  · exact wpAny_loadName_local I.ok.kind hk hn hm go
  · rcases hk with hk | hk
    · exact wpAny_loadName_cell I.ok.kind hk hc hcell go
    · rcases hx with k | k
      · have : X.env.scope.names.lookup x = some .free := hk
        rw [k] at this; cases this
      · have : X.env.scope.names.lookup x = some .free := hk
        rw [k] at this; cases this
theorem set_same {σ : L2.St} {i : Nat} {v : V} (h : σ[i]? = some (some v)) : σ.set i (some v) = σ := by
  apply List.ext_getElem?
  intro j
  rw [List.getElem?_set]
  split
  · rename_i e
    subst e
    rw [h, if_pos (List.getElem?_eq_some_iff.mp h).1]
  · rfl
theorem ds_aug {i : Nat} {x : Str} {op : Operator} {ext : Bool} {g : D → D → Option D} (hN : X.N.Nodup) (hi : X.N[i]? = some x) (hx : Loc X.env.scope x) (ho : Op2 X ca (inplaceOp op) g) (hv : DB X ca Wx q true e fv) (hpn : i ∉ pin := by decide) (hks : i ∉ ca.ks := by first | exact List.not_mem_nil | exact ks1 (by decide)) (hext : ExtOk X op ext := by (intro h; first | rfl | cases h))
    (hf : X.fn x = true ∨ X.env.scope.names.lookup x = some .local := by first | exact .inl rfl | exact .inr rfl | assumption) : DS X ca Wx pin (.AugAssign (.Name x pos') op e pos) (s_aug ext i g fv) := by
  refine ⟨⟨fun pins s σ H D I ⟨Z, S, ρ, fr, po⟩ => ?_⟩⟩
  unfold s_aug at po
  split at po
  · rename_i xd hi0
    obtain ⟨v0, T0, e0, hT0, rw0⟩ := fr.rep.get hi0
    refine aug_of hN hi hx I e0 hf fun u ru => DB.bindSt hv I fr (fun w ρ1 e1 v u1 s1 H1 I1 r1 ⟨S1, n1, f1, rp1⟩ => ?_) (fun x ρ1 e1 => ?_) fun e1 => ?_
    · rw [e1] at po
      simp only at po
      cases eg : g xd (frz w) with
      | none => rw [eg] at po; exact po.elim
      | some d =>
        rw [eg] at po
        have r0 : RepD X.prog X.w X.K ca (hid H1 (un Z S1)) xd v0 := RepD.mono n1.hid xd rw0
        refine ho pins s1 σ H1 (un Z S1) v0 v u u1 xd (frz w) d _ f1.al I1 ru r1 (r0.borrow hid_same) (rp1.d.borrow hid_same) eg fun z H' sm rd => ?_
        obtain ⟨S', n', f', p'⟩ := data_store (pin := pin) (f1.same sm) rd hpn hks
        exact po _ H' ⟨S', ((n1.trans (Nx.same sm f1.as)).trans n').weak (fun z => nomatch z), f', p'⟩
    · rw [e1] at po
      exact fun cls d H' o => po cls d σ H' o.x
    · rw [e1] at po; exact po
  · rename_i l0 hi0
    split at po
    · rename_i hE
      obtain ⟨v0, T0, e0, hT0, a0, xs0, rfl, hT00, ha0, _⟩ := fr.rep.get hi0
      have hop := hext hE
      subst hop
      refine aug_of hN hi hx I e0 hf fun u ru => DB.bindSt hv I fr (fun w ρ1 e1 v u1 s1 H1 I1 r1 ⟨S1, n1, f1, rp1⟩ => ?_) (fun x ρ1 e1 => ?_) fun e1 => ?_
      · rw [e1] at po
        simp only at po
        split at po
        · rename_i l m h1 h2
          split at po
          · rename_i hc
            rw [h2] at rp1
            obtain ⟨b, zs, rfl, g1, g2⟩ := rp1.d
            obtain ⟨v1, T, e4, hTS, rw1, fin⟩ := slot_put0 f1 h1
            rw [e0] at e4
            cases e4
            obtain ⟨a, xs, ea, hT, ha, rs⟩ := rw1
            cases ea
            obtain rfl : u = Value.ref a0 := ru
            obtain rfl : u1 = Value.ref b := r1
            rw [maxLen_eq] at hc
            refine ext_run I1 ha (SqL.mono hid_same g1) (by rw [← rs.length, ← g2.length]; exact hc) ?_
            rw [set_same e0]
            obtain ⟨S', n', fr'⟩ := fin (upd H1 a0 (.lst (xs ++ zs))) (.lst (l ++ m)) (upd_keep hT) (upd_al fun b z => f1.as b (hTS b z)) fun sm => ⟨a0, _, rfl, hT, upd_same, (rs.append g2).mono sm⟩
            exact po σ _ ⟨S', (n1.trans n').weak (fun z => nomatch z), fr', Pn.refl⟩
          · exact po.elim
        · exact po.elim
      · rw [e1] at po
        exact fun cls d H' o => po cls d σ H' o.x
      · rw [e1] at po; exact po
    · exact po.elim
  · exact po.elim
theorem item_at {l a : Addr} {xs : List V} {j : Nat} {v : V} {t : Tok} {Q : Value → Shared → Prop} (I : Inv X pins σ H s) (hH : H a = some (.lst xs)) (hv : xs[j]? = some v) (h : ∀ w, RelV v w → Q w s) : wpAny (model X.prog X.w) X.A (getItem (.ref a) (.int (j : Int) t)) Q X.xe s := by
  obtain ⟨its, r, pl, hz⟩ := I.list (SqL.of hH)
  obtain ⟨w, ew, rw'⟩ := r.get hv
  have hl := r.length
  have hn := line63
  have hj : j < xs.length := (List.getElem?_eq_some_iff.mp hv).1
  exact wpAny_getItem_list pl.isList (by omega) (by omega) (by simpa using ew) (h w rw')
/-- name[j] op= e, of a list of ints -/
theorem ds_augsub {i : Nat} {j' : Int} {kj : Nat} {op : Operator} {g : Int → Int → Int} (j : Nat) (ho : PE X o (tVar i)) (hop : PIp X op (ipI g)) (hv : DB X ca Wx q true e fv) (hj : (j : Int) = j' := by rfl)
    (ha : ∀ ov iv new, augStore (.Constant (.int j') kj pos') ov iv new = (do holding [new, ov, iv] (setItem ov iv new); release [new, ov, iv] []; pure .next) := by intros; rfl) : DS X ca Wx pin (.AugAssign (.Subscript o (.Constant (.int j') kj pos') tpos) op e pos) (s_augsub i j g fv) := by
  subst hj
  refine ⟨⟨fun pins s σ H D I ⟨Z, S, ρ, fr, po⟩ => ?_⟩⟩
  unfold s_augsub at po
  split at po
  · rename_i l0 hi0
    split at po
    · rename_i x0 hx0
      obtain ⟨v0, T0, e0, hT0, a0, xs0, rfl, hT00, ha0, rs0⟩ := fr.rep.get hi0
      obtain ⟨v1, ev1, rv1⟩ := rs0.get hx0
      have rv1 : v1 = .int x0 := rv1
      subst rv1
      refine wpAny_AugAssign_SubscriptAny (thn (ho.run pins s σ H (fun v' H' => v' = .ref a0 ∧ H' = H) I ⟨_, e0, rfl, rfl⟩) fun ov s1 ⟨v', H1, I1, r1, ev, eH⟩ => ?_) ha
      subst ev eH
      obtain rfl : ov = Value.ref a0 := r1
      refine thn ((pe_int (X := X) (i := (j : Int)) (j := kj) (pos := pos')).run pins s1 σ H1 (fun v' H' => v' = .int j ∧ H' = H1) I1 ⟨rfl, rfl⟩) fun iv s2 ⟨v', H2, I2, r2, ev, eH⟩ => ?_
      subst ev eH
      obtain ⟨t, rfl⟩ := r2
      refine item_at (l := a0) I2 ha0 ev1 fun old rold => ?_
      refine DB.bindSt hv I2 fr (fun w ρ1 e1 v u1 s3 H3 I3 r3 ⟨S1, n1, f1, rp1⟩ => ?_) (fun x ρ1 e1 => ?_) fun e1 => ?_
      · rw [e1] at po
        simp only at po
        split at po
        · rename_i y l2 h2 h1
          split at po
          · rename_i hc
            rw [h2] at rp1
            have ey : v = .int y := rp1.d
            subst ey
            refine thn (hop pins s3 σ H3 (.int x0) (.int y) old u1 (fun z H' => z = .int (g x0 y) ∧ H' = H3) I3 rold r3 ⟨x0, y, rfl, rfl, rfl, rfl⟩) fun new s4 ⟨z, H4, I4, r4, ez, eH⟩ => ?_
            subst ez eH
            have hg : storeW (.lst l2) (.int (j : Int)) (.int (g x0 y)) = some (.lst (l2.set j (.int (g x0 y)))) := by
              unfold storeW
              simp only
              rw [if_pos (by rw [Bool.and_eq_true, decide_eq_true_eq, decide_eq_true_eq]; omega)]
              rfl
            have hget : (ρ1[i]? = some (some (.lst l2))) := h1
            have store : ∀ {Q : Unit → Shared → Prop}, (∀ H' s', Inv X pins σ H' s' → (∃ S', Nx S1 H4 false S' H' ∧ Fr X ca Z S' (ρ1.set i (some (.lst (l2.set j (.int (g x0 y)))))) σ H') → Q () s') → wpAny (model X.prog X.w) X.A (setItem (.ref a0) (.int (j : Int) t) new) Q X.xe s4 := by
              intro Q hq
              obtain ⟨v, T, e9, hTS, rw9, fin⟩ := slot_put0 f1 hget
              rw [e0] at e9
              cases e9
              obtain ⟨a, xs, ea, hT, ha9, rs⟩ := rw9
              cases ea
              have hl := rs.length
              have hj : ixN xs.length (j : Int) = some j := by
                unfold ixN
                rw [if_pos (by omega), if_pos (by omega)]
                simp
              refine thn (set_list pins s4 σ H4 (.ref a0) (.int j) (.int (g x0 y)) (.ref a0) (.int (j : Int) t) new (fun H' => H' = upd H4 a0 (.lst (xs.set j (.int (g x0 y))))) I4 rfl ⟨t, rfl⟩ r4 ⟨a0, xs, j, j, rfl, rfl, ha9, hj, rfl⟩) fun _ s' ⟨H', I', eH⟩ => ?_
              subst eH
              refine hq _ s' I' (fin _ _ (upd_keep hT) (upd_al fun b z => f1.as b (hTS b z)) fun sm => ⟨a0, _, rfl, hT, upd_same, ?_⟩)
              have sets : ∀ {l : List L3.D} {xs : List V} (n : Nat), RepDs X.prog X.w X.K ca (hid H4 (un Z S1)) l xs → RepDs X.prog X.w X.K ca (hid H4 (un Z S1)) (l.set n (.int (g x0 y))) (xs.set n (.int (g x0 y))) := by
                intro l
                induction l with
                | nil => intro xs n h; rw [show xs = [] from h]; rfl
                | cons d t ih =>
                  intro xs n h
                  obtain ⟨x, r, rfl, h1, h2⟩ := h
                  cases n with
                  | zero => exact ⟨_, r, rfl, rfl, h2⟩
                  | succ n => exact ⟨x, _, rfl, h1, ih n h2⟩
              exact (sets _ rs).mono sm
            exact store fun H' s' I' ⟨S', n', fr'⟩ => ⟨σ, H', I', po σ _ ⟨S', (n1.trans n').weak (fun z => nomatch z), fr', Pn.refl⟩⟩
          · exact po.elim
        · exact po.elim
      · rw [e1] at po
        exact fun cls d H' o => po cls d σ H' o.x
      · rw [e1] at po; exact po
    · exact po.elim
  · exact po.elim
end
end L3

set_option Elab.async false
set_option linter.all false
set_option maxRecDepth 100000
set_option maxHeartbeats 1000000
/-! L3t: calls of built-ins: len, int, bool, any, all, tuple, list, isinstance. -/
namespace PySem.L3X
open PySem PyProof.Rows
theorem bool_new {prog : Program} {w : World} (x : Value) : MeetsIn prog w (Builtin.«bool.__new__» ⟨[.type "bool", x], []⟩) (fun A R s => wpAny (model prog w) A.in1 (truthy x) (fun b s' => R (.ok (.ret (.bool b))) s') (fun e s' => R (.error e) s') s) := by
  intro A R s h
  obtain ⟨hp, g, d, tk, os⟩ := s
  have f1 := F.conv_sub_bool
  have key : ∀ {α : Type} (k : Bool → Sem α) (Q : α → Shared → Prop), wpAny (model prog w) A.in1 (truthy x) (fun b s' => wpAny (model prog w) A.in1 (k b) Q (fun e s' => R (.error e) s') s') (fun e s' => R (.error e) s') { heap := hp, gens := g, drawn := d, toks := tk, os := os } → wpAny (model prog w) A.in1 (truthy x >>= k) Q (fun e s' => R (.error e) s') { heap := hp, gens := g, drawn := d, toks := tk, os := os } := fun k Q hh => wpAny_bind hh
  repeat (any_goals (first | assumption | (with_reducible refine key _ _ (wpAny_mono h (fun b s' hb => ?_) fun _ _ z => z)) | wp_step))
theorem call_bool_any {prog : Program} {w : World} {A : Around} {E : Value → Shared → Prop} {s : Shared} {x : Value} {Q : Value → Shared → Prop} (h : wpAny (model prog w) A.in1.in1 (truthy x) (fun b s' => Q (.bool b) s') E s) : wpAny (model prog w) A (call (.type "bool") [x]) Q E s :=
  callType_newIn F.called_bool F.newNe_bool (F.typeCall_bool_1 x) (F.newCall_bool_1 x) (fun obj => F.args_object_init_2 obj x) F.entry_bool_new (bool_new x) (wpAny_mono h (fun b s' q => ⟨rfl, q⟩) fun _ _ z => z)
end PySem.L3X
namespace L3
open PySem PySem.Spec PyProof.Rows L2

def lenD : D → Option D
  | .str x => if x.length ≤ maxLen then some (.int x.length) else none
  | .lst l => some (.int l.length)
  | .tup l => some (.int l.length)
  | _ => none
def intD : D → Option D
  | .int i => some (.int i)
  | .bl b => some (.int (if b then 1 else 0))
  | _ => none
def boolD (tb : Nat → Option Bool) : D → Option D
  | .int i => some (.bl (i != 0))
  | .bl b => some (.bl b)
  | .ins C _ _ => (tb C).map .bl
  | _ => none
def blsOf : List D → Option (List Bool)
  | [] => some []
  | .bl b :: r => (blsOf r).map (b :: ·)
  | _ => none
def anyD : D → Option D
  | .lst l => (blsOf l).map fun bs => .bl (bs.any id)
  | .tup l => (blsOf l).map fun bs => .bl (bs.any id)
  | _ => none
def allD : D → Option D
  | .lst l => (blsOf l).map fun bs => .bl (bs.all id)
  | .tup l => (blsOf l).map fun bs => .bl (bs.all id)
  | _ => none
def tupD : D → Option D
  | .lst l => some (.tup l)
  | .tup l => some (.tup l)
  | _ => none
def listD : D → Option (List D)
  | .lst l => some l
  | .tup l => some l
  | .dic ks _ => none
  | _ => none
inductive BT where
  | int | str | bl | lst | tup | dic
def BT.name : BT → String
  | .int => "int" | .str => "str" | .bl => "bool" | .lst => "list" | .tup => "tuple" | .dic => "dict"
inductive Ty where
  | ty (b : BT)
  | own (C : Nat)
def isB : D → BT → Bool
  | .int _, .int => true
  | .bl _, .int => true
  | .bl _, .bl => true
  | .str _, .str => true
  | .lst _, .lst => true
  | .tup _, .tup => true
  | .dic _ _, .dic => true
  | _, _ => false
def isTy (n : Nat) (d : D) : Ty → Option Bool
  | .ty b => match d with
    | .ins C _ _ => if C < n then some false else none
    | d => some (isB d b)
  | .own C' => match d with
    | .ins C _ _ => if C < n then some (C == C') else none
    | _ => some false
def isTys (n : Nat) (d : D) : List Ty → Option Bool
  | [] => some false
  | t :: r => match isTy n d t with
    | some true => some true
    | some false => isTys n d r
    | none => none
/-- list(x): a new list, owned -/
def c_list (fa : Ro → ER) : Ro → ER := fun ρ => (fa ρ).bind fun w ρ1 => match listD (frz w) with
  | some l => .ok (.lst l) ρ1
  | none => .no
section
variable {X : Cx} {ca : Ca} {Wx : WX} {Z S S0 S1 S2 Sw T : AS} {σ σ0 σ1 : L2.St} {H H0 H1 H2 G : Hp} {ρ ρ0 ρ1 ρ2 : Ro} {q q1 q2 q3 k k1 k2 k3 : Bool} {a b c e o tg : Expr} {fa fb fc fv fk : Ro → ER} {pos pos' p p2 apos tpos : Pos} {pins : List (Addr × Obj)} {s : Shared} {pin : List Nat}
/-- what a call with one argument makes of data -/
def Cl1 (X : Cx) (ca : Ca) (f : Value) (g : D → Option D) : Prop :=
  ∀ (pins : List (Addr × Obj)) (s : Shared) (σ : L2.St) (H : Hp) (T : AS) (x : V) (u : Value) (da d : D) (Q : VK), (∀ a, T a → H a ≠ none) → Inv X pins σ H s → RelV x u → RepB X.prog X.w X.K ca (hid H T) H da x → g da = some d → (∀ z H', Same H H' → RepD X.prog X.w X.K ca (hid H' T) d z → Q z H') →
    wpAny (model X.prog X.w) X.A (call f [u]) (EP X pins σ Q) X.xe s
theorem call1_seq {f : Value} {g : D → Option D} {Q : VK} (hc : Cl1 X ca f g) (ha : DB X ca Wx q k a fa) (I : Inv X pins σ H s) (fr : Fr X ca Z S ρ σ H) (po : PoB X ca Wx q true Z S σ H (c_op1 g fa ρ) Q) (pos : Pos) (hst : starEach [a] X.env = (false, eval a X.env) :: starEach [] X.env) :
    wpAny (model X.prog X.w) X.A (spliced (backTo pos (starEach [a] X.env))) (fun us s₁ => wpAny (model X.prog X.w) X.A (call f us) (EP X pins σ Q) X.xe s₁) X.xe s := by
  unfold c_op1 at po
  rw [hst]
  show wpAny _ _ (spliced ((false, eval a X.env) :: backTo pos (starEach [] X.env))) _ _ s
  refine Calls.spliced_cons (ha.bindB I fr po fun w ρ1 v u s1 H1 I1 r1 o po1 => Calls.spliced_nil ?_)
  obtain ⟨S1, n1, f1, rp⟩ := o
  cases e : g (frz w) with
  | none => rw [e] at po1; exact po1.elim
  | some d =>
    rw [e] at po1
    exact hc pins s1 σ H1 (un Z S1) v u (frz w) d Q f1.al I1 r1 (rp.bor hid_same) e fun z H' sm rd => po1 z H' ⟨S1, (n1.trans (Nx.same sm f1.as)).weak (fun z => by rw [z]; rfl), f1.same sm, RepKd.of rd⟩
theorem db_callB {id : String} {x : Str} {g : D → Option D} (hc : Cl1 X ca (.builtin id) g) (ha : DB X ca Wx q k a fa) (hv : bootBuiltins x = some (.builtin id) := by rfl) (hm : X.mg x = none := by rfl) (hg : Gl X x := by rfl) (hn : x ≠ "__name__" := by decide) (hdb : (x == ("__debug__" : Str)) = false := by decide)
    (hst : starEach [a] X.env = (false, eval a X.env) :: starEach [] X.env := by rfl) (hpl : (backTo pos (starEach [] X.env)).any (·.1) = false := by rfl) : DB X ca Wx q true (.Call (.Name x p) [a] [] pos) (c_op1 g fa) :=
  ⟨⟨fun pins s σ H Q I ⟨Z, S, ρ, fr, po⟩ => wpAny_Call_Name_kw (ld_blt I hg hm hv (PyProof.Rows.callWith_builtin1 (call1_seq hc ha I fr po pos hst) hst hpl) hn hdb)⟩⟩
theorem db_callT {T : String} {x : Str} {g : D → Option D} (hc : Cl1 X ca (.type T) g) (ha : DB X ca Wx q k a fa) (hv : bootBuiltins x = some (.type T) := by rfl) (hm : X.mg x = none := by rfl) (hg : Gl X x := by rfl) (hn : x ≠ "__name__" := by decide) (hdb : (x == ("__debug__" : Str)) = false := by decide)
    (hst : starEach [a] X.env = (false, eval a X.env) :: starEach [] X.env := by rfl) (hpl : (backTo pos (starEach [] X.env)).any (·.1) = false := by rfl) : DB X ca Wx q true (.Call (.Name x p) [a] [] pos) (c_op1 g fa) :=
  ⟨⟨fun pins s σ H Q I ⟨Z, S, ρ, fr, po⟩ => wpAny_Call_Name_kw (ld_blt I hg hm hv (PyProof.Rows.callWith_type1 (call1_seq hc ha I fr po pos hst) hst hpl) hn hdb)⟩⟩
theorem b_len : Cl1 X ca (.builtin "len") lenD := by
  intro pins s σ H T x u da d Q hT I r h e hq
  have go : ∀ n : Nat, LenV X.K x H n → RepD X.prog X.w X.K ca (hid H T) d (.int n) → wpAny (model X.prog X.w) X.A (call (.builtin "len") [u]) (EP X pins σ Q) X.xe s := fun n l rd => call_len pins s σ H [x] [u] Q I (.cons r .nil) ⟨x, n, rfl, l, hq _ H (Same.refl _) rd⟩
  unfold lenD at e
  split at e
  · split at e
    · rename_i hc
      cases e
      obtain ⟨rfl, _⟩ := h
      rw [maxLen_eq] at hc
      exact go _ ⟨hc, rfl⟩ rfl
    · cases e
  · cases e
    obtain ⟨a, xs, rfl, h1, h2⟩ := h
    exact go _ (.inl ⟨xs, h1, h2.length⟩) rfl
  · cases e
    obtain ⟨a, xs, rfl, h1, h2⟩ := h
    exact go _ (.inr ⟨xs, SqT.mono hid_same h1, h2.length⟩) rfl
  · cases e
theorem b_int : Cl1 X ca (.type "int") intD := by
  intro pins s σ H T x u da d Q hT I r h e hq
  unfold intD at e
  split at e
  · cases e
    exact call_int1 pins s σ H [x] [u] Q I (.cons r .nil) (.inl ⟨_, by rw [show x = .int _ from h], hq _ H (Same.refl _) rfl⟩)
  · cases e
    exact call_int1 pins s σ H [x] [u] Q I (.cons r .nil) (.inr ⟨_, by rw [show x = .bl _ from h], hq _ H (Same.refl _) rfl⟩)
  · cases e
theorem b_bool {tb : Nat → Option Bool} (tr : TrB X ca tb) : Cl1 X ca (.type "bool") (boolD tb) := by
  intro pins s σ H T x u da d Q hT I r h e hq
  unfold boolD at e
  split at e
  · cases e
    exact call_bool1 pins s σ H [x] [u] Q I (.cons r .nil) (.inl ⟨_, by rw [show x = .int _ from h], hq _ H (Same.refl _) rfl⟩)
  · cases e
    exact call_bool1 pins s σ H [x] [u] Q I (.cons r .nil) (.inr ⟨_, by rw [show x = .bl _ from h], hq _ H (Same.refl _) rfl⟩)
  · rename_i C fs vs
    obtain ⟨b, eb, ed⟩ := map_some e
    subst ed
    have hd := RepB.data hid_same (.ins C fs vs) h
    obtain ⟨a, dx, xs, rfl, h1, _⟩ := h
    obtain rfl : u = Value.ref a := r
    refine PySem.L3X.call_bool_any (thn (tr pins s σ H C fs vs a b (fun b' H' => b' = b ∧ Same H H') _ (.inr rfl) I hd eb fun H' sm => ⟨rfl, sm⟩) fun b' s' ⟨H', I', e1, sm⟩ => ?_)
    subst e1
    exact ⟨.bl b', H', I', rfl, hq _ H' sm rfl⟩
  · cases e
theorem blsOf_vals {P : Program} {w : World} {K : PySem.W.Frag} {cl : Nat → Addr} {G : Hp} : {l : List D} → {bs : List Bool} → {xs : List V} → blsOf l = some bs → RepDs P w K cl G l xs → xs = bs.map V.bl
  | [], _, _, e, h => by cases e; exact h
  | d :: r, _, _, e, h => by
    obtain ⟨x, t, rfl, h1, h2⟩ := h
    cases d <;> first | (unfold blsOf at e; cases e; done) | skip
    rename_i b
    obtain ⟨bs, e1, e2⟩ := map_some (show (blsOf r).map (b :: ·) = some _ from e)
    subst e2
    rw [blsOf_vals e1 h2, show x = V.bl b from h1]
    rfl
theorem cr_anyT (hc : X.calm = true) : CallR X (.builtin "any") (fun vs H Q => ∃ (a : Addr) (bs : List Bool), vs = [V.ref a] ∧ SqT X.K H a (bs.map V.bl) ∧ Q (.bl (bs.any id)) H) := by
  intro pins s σ H vs us Q I r h
  obtain ⟨a, bs, rfl, hs, q⟩ := h
  obtain ⟨its, rv, hl, _⟩ := I.tuple hs
  rw [Vals.ref1 r]
  have hb := rv.bls
  have hla : a < s.heap.objs.size := by obtain ⟨_, e, _⟩ := hl; exact Heap.lt_size e
  have hne : a ≠ s.heap.objs.size := Nat.ne_of_lt hla
  refine call_any_walk (wpAny_pyIter_tuple hl ?_)
  refine ⟨_, _, _, _, _, _, _, rfl, Walks.tuple (A := X.A.in1) (I.ok.hd hc) _ a hne its.toArray, ⟨⟨_, Heap.get?_push_size _ rfl, rfl, rfl⟩, IsTup.keeps hl fun b o q => Heap.get?_push_of_some _ q⟩, truth_bools hb, fun h' tk hk => ?_⟩
  refine ⟨.bl _, H, I.kept fun b o eo => hk b o (fun hmem => ?_) (Heap.get?_push_of_some _ eo), ?_, q⟩
  · rcases List.mem_cons.mp hmem with e1 | hmem
    · exact absurd (e1 ▸ Heap.lt_size eo) (Nat.lt_irrefl _)
    · cases hmem
  · show Value.bool _ = Value.bool _
    rw [← L2.any_range, hb, List.size_toArray, List.length_map]
theorem cr_allT (hc : X.calm = true) : CallR X (.builtin "all") (fun vs H Q => ∃ (a : Addr) (bs : List Bool), vs = [V.ref a] ∧ SqT X.K H a (bs.map V.bl) ∧ Q (.bl (bs.all id)) H) := by
  intro pins s σ H vs us Q I r h
  obtain ⟨a, bs, rfl, hs, q⟩ := h
  obtain ⟨its, rv, hl, _⟩ := I.tuple hs
  rw [Vals.ref1 r]
  have hb := rv.bls
  have hla : a < s.heap.objs.size := by obtain ⟨_, e, _⟩ := hl; exact Heap.lt_size e
  have hne : a ≠ s.heap.objs.size := Nat.ne_of_lt hla
  refine call_all_walk (wpAny_pyIter_tuple hl ?_)
  refine ⟨_, _, _, _, _, _, _, rfl, Walks.tuple (A := X.A.in1) (I.ok.hd hc) _ a hne its.toArray, ⟨⟨_, Heap.get?_push_size _ rfl, rfl, rfl⟩, IsTup.keeps hl fun b o q => Heap.get?_push_of_some _ q⟩, truth_bools hb, fun h' tk hk => ?_⟩
  refine ⟨.bl _, H, I.kept fun b o eo => hk b o (fun hmem => ?_) (Heap.get?_push_of_some _ eo), ?_, q⟩
  · rcases List.mem_cons.mp hmem with e1 | hmem
    · exact absurd (e1 ▸ Heap.lt_size eo) (Nat.lt_irrefl _)
    · cases hmem
  · show Value.bool _ = Value.bool _
    rw [← L2.all_range, hb, List.size_toArray, List.length_map]
theorem b_any (hcm : X.calm = true) : Cl1 X ca (.builtin "any") anyD := by
  intro pins s σ H T x u da d Q hT I r h e hq
  unfold anyD at e
  split at e
  · obtain ⟨bs, e1, e2⟩ := map_some e
    subst e2
    obtain ⟨a, xs, rfl, h1, h2⟩ := h
    rw [blsOf_vals e1 h2] at h1
    exact cr_any hcm pins s σ H _ [u] Q I (.cons r .nil) ⟨a, bs, rfl, h1, hq _ H (Same.refl _) rfl⟩
  · obtain ⟨bs, e1, e2⟩ := map_some e
    subst e2
    obtain ⟨a, xs, rfl, h1, h2⟩ := h
    rw [blsOf_vals e1 h2] at h1
    exact cr_anyT hcm pins s σ H _ [u] Q I (.cons r .nil) ⟨a, bs, rfl, SqT.mono hid_same h1, hq _ H (Same.refl _) rfl⟩
  · cases e
theorem b_all (hcm : X.calm = true) : Cl1 X ca (.builtin "all") allD := by
  intro pins s σ H T x u da d Q hT I r h e hq
  unfold allD at e
  split at e
  · obtain ⟨bs, e1, e2⟩ := map_some e
    subst e2
    obtain ⟨a, xs, rfl, h1, h2⟩ := h
    rw [blsOf_vals e1 h2] at h1
    exact cr_all hcm pins s σ H _ [u] Q I (.cons r .nil) ⟨a, bs, rfl, h1, hq _ H (Same.refl _) rfl⟩
  · obtain ⟨bs, e1, e2⟩ := map_some e
    subst e2
    obtain ⟨a, xs, rfl, h1, h2⟩ := h
    rw [blsOf_vals e1 h2] at h1
    exact cr_allT hcm pins s σ H _ [u] Q I (.cons r .nil) ⟨a, bs, rfl, SqT.mono hid_same h1, hq _ H (Same.refl _) rfl⟩
  · cases e
theorem b_tup : Cl1 X ca (.type "tuple") tupD := by
  intro pins s σ H T x u da d Q hT I r h e hq
  unfold tupD at e
  split at e
  · cases e
    obtain ⟨a, xs, rfl, h1, h2⟩ := h
    exact call_tuple_of pins s σ H _ [u] Q I (.cons r .nil) ⟨a, xs, rfl, .inl ⟨h1, fun l hl => hq _ _ (same_new hl) (rep_new_tup hT hl h2)⟩⟩
  · cases e
    obtain ⟨a, xs, rfl, h1, h2⟩ := h
    exact call_tuple_of pins s σ H _ [u] Q I (.cons r .nil) ⟨a, xs, rfl, .inr ⟨SqT.mono hid_same h1, hq _ H (Same.refl _) ⟨a, xs, rfl, h1, h2⟩⟩⟩
  · cases e
/-- list(x) -/
theorem de_list {x : Str} (ha : DB X ca Wx q k a fa) (hv : bootBuiltins x = some (.type "list") := by rfl) (hm : X.mg x = none := by rfl) (hg : Gl X x := by rfl) (hn : x ≠ "__name__" := by decide) (hdb : (x == ("__debug__" : Str)) = false := by decide)
    (hst : starEach [a] X.env = (false, eval a X.env) :: starEach [] X.env := by rfl) (hpl : (backTo pos (starEach [] X.env)).any (·.1) = false := by rfl) : DE X ca Wx q (.Call (.Name x p) [a] [] pos) (c_list fa) := by
  refine ⟨⟨fun pins s σ H Q I ⟨Z, S, ρ, fr, po⟩ => wpAny_Call_Name_kw (ld_blt I hg hm hv (PyProof.Rows.callWith_type1 ?_ hst hpl) hn hdb)⟩⟩
  rw [hst]
  show wpAny _ _ (spliced ((false, eval a X.env) :: backTo pos (starEach [] X.env))) _ _ s
  refine Calls.spliced_cons (ha.bindE I fr po fun w ρ1 v u s1 H1 I1 r1 o po1 => Calls.spliced_nil ?_)
  obtain ⟨S1, n1, f1, rp⟩ := o
  have rp := rp.bor hid_same
  revert po1
  generalize frz w = d at rp
  intro po1
  have fin : ∀ (xs : List V) (l : List D), RepDs X.prog X.w X.K ca (hid H1 (un Z S1)) l xs → listD d = some l → ∀ z, H1 z = none → Q (.ref z) (upd H1 z (.lst xs)) := fun xs l rl e z hz => by
    rw [e] at po1
    exact po1 _ _ (oke_lst n1 f1 rl hz)
  cases d with
  | lst l =>
    obtain ⟨a, xs, rfl, h1, h2⟩ := rp
    exact call_list_of pins s1 σ H1 _ [u] Q I1 (.cons r1 .nil) ⟨a, xs, rfl, .inl h1, fin xs l h2 rfl⟩
  | tup l =>
    obtain ⟨a, xs, rfl, h1, h2⟩ := rp
    exact call_list_of pins s1 σ H1 _ [u] Q I1 (.cons r1 .nil) ⟨a, xs, rfl, .inr (SqT.mono hid_same h1), fin xs l h2 rfl⟩
  | _ => exact po1.elim

/-! ### isinstance -/
/-- what of the text the classes must have -/
structure InsOk (K : PySem.W.Frag) (C : Addr) : Prop where
  cl : Cls K C
  ha : PySem.W.findIn K (.ref C) "__class__" = some (some (.builtin "object.__class__"))
  hn : PySem.W.specialIn K (.builtin "object.__class__") "__get__" = some (some (.builtin "getset_descriptor.__get__"))
  htk : PySem.W.takesIn K (.builtin "object.__class__") = some true
  hm : PySem.W.mroIn K C (.type "object") = some true
def tyV' (cl : Nat → Addr) : D → Value
  | .non => .type "NoneType" | .bl _ => .type "bool" | .int _ => .type "int" | .str _ => .type "str" | .tup _ => .type "tuple" | .lst _ => .type "list" | .dic _ _ => .type "dict" | .ins C _ _ => .ref (cl C)
theorem kit_rep {d : D} {x : V} {u : Value} {n : Nat} (ok : ∀ C, C < n → InsOk X.K (ca C)) (hn : ∀ C fs vs, d = .ins C fs vs → C < n) (I : Inv X pins σ H s) (rx : RelV x u) (r : RepB X.prog X.w X.K ca G H d x) (sm : Same G H) :
    ∃ P : Heap → Prop, PySem.W.KitX X.K u (tyV' ca d) P ∧ P s.heap ∧ u ≠ .builtin "__main__.__loader__#opaque" := by
  cases d with
  | non => cases (show x = V.non from r); cases rx; exact ⟨_, PySem.W.kitx_none, True.intro, fun z => nomatch z⟩
  | bl y => cases (show x = V.bl y from r); cases rx; exact ⟨_, PySem.W.kitx_bool, True.intro, fun z => nomatch z⟩
  | int i => cases (show x = V.int i from r); obtain ⟨t, q⟩ := rx; cases q; exact ⟨_, PySem.W.kitx_int, True.intro, fun z => nomatch z⟩
  | str y => obtain ⟨rfl, _⟩ := r; obtain ⟨t, q⟩ := rx; cases q; exact ⟨_, PySem.W.kitx_str, True.intro, fun z => nomatch z⟩
  | tup l =>
    obtain ⟨a, xs, rfl, h1, h2⟩ := r
    cases rx
    obtain ⟨_, _, ⟨o, e1, e2, _⟩, _⟩ := I.tuple (SqT.mono sm h1)
    exact ⟨_, PySem.W.kitx_tuple, ⟨o, e1, e2⟩, fun z => nomatch z⟩
  | lst l =>
    obtain ⟨a, xs, rfl, h1, h2⟩ := r
    cases rx
    obtain ⟨_, _, ⟨o, n', e1, e2, _⟩, _⟩ := I.list h1
    exact ⟨_, PySem.W.kitx_list, ⟨o, e1, e2⟩, fun z => nomatch z⟩
  | dic ks vs =>
    obtain ⟨a, rfl, xs, ys, _, _, _, h3⟩ := r
    cases rx
    rcases h3 with ⟨kv, e1, _⟩ | ⟨_, es, e1, _⟩
    · obtain ⟨_, _, vs', _, o, _, _, h1, h2, _⟩ := dk_rd I.hok (Rd.of e1)
      exact ⟨_, PySem.W.kitx_dict, ⟨o, h1, h2.1⟩, fun z => nomatch z⟩
    · obtain ⟨_, _, _, _, xs', _, o, es', ep, h1, h2, _⟩ := ndo_dict I.hok e1
      exact ⟨_, PySem.W.kitx_dict, ⟨o, h1, h2.1⟩, fun z => nomatch z⟩
  | ins C fs vs =>
    obtain ⟨a, dx, xs, rfl, h1, _⟩ := r
    cases rx
    have q := ok C (hn C fs vs rfl)
    obtain ⟨mA, O, _⟩ := ins_get I.hok h1
    obtain ⟨od, J, _⟩ := O.look
    exact ⟨_, PySem.W.kitx_own (q.cl.get _) q.cl.hd q.ha q.hn q.htk q.hm, J, fun z => nomatch z⟩
/-- the classes against one another and against the built-in types -/
structure KindOk (K : PySem.W.Frag) (cl : Nat → Addr) (n : Nat) : Prop where
  ins : ∀ C, C < n → InsOk K (cl C)
  ty : ∀ C b, C < n → PySem.W.kitOne K (.ref (cl C)) (.type (BT.name b)) = some false
  own : ∀ C C', C < n → C' < n → PySem.W.kitOne K (.ref (cl C)) (.ref (cl C')) = some (C == C')
  bt : ∀ T C', T ∈ ["NoneType", "bool", "int", "str", "tuple", "list", "dict"] → C' < n → PySem.W.kitOne K (.type T) (.ref (cl C')) = some false
def tyOk (n : Nat) : Ty → Bool
  | .ty _ => true
  | .own C => decide (C < n)
def Ty.val (cl : Nat → Addr) : Ty → Value
  | .ty b => .type b.name
  | .own C => .ref (cl C)
theorem kit_bt {a : String} {b : BT} {r : Bool} (h : kitB a b.name = some r) {K : PySem.W.Frag} : PySem.W.kitOne K (.type a) (.type b.name) = some r := kit_ty h
theorem isTy_ok {K : PySem.W.Frag} {cl : Nat → Addr} {n : Nat} (ko : KindOk K cl n) {d : D} {t : Ty} (ht : tyOk n t = true) {b : Bool} (h : isTy n d t = some b) : PySem.W.kitOne K (tyV' cl d) (t.val cl) = some b ∧ ∀ C fs vs, d = .ins C fs vs → C < n := by
  cases t with
  | ty bt =>
    cases d with
    | ins C fs vs =>
      have h' : (if C < n then some false else none) = some b := h
      split at h'
      · cases h'
        rename_i hc
        exact ⟨ko.ty C bt hc, fun C' _ _ e => by cases e; exact hc⟩
      · cases h'
    | non => cases h; exact ⟨kit_bt (by cases bt <;> first | (change _ = some true; decide +kernel) | (change _ = some false; decide +kernel)), fun _ _ _ e => nomatch e⟩
    | bl _ => cases h; exact ⟨kit_bt (by cases bt <;> first | (change _ = some true; decide +kernel) | (change _ = some false; decide +kernel)), fun _ _ _ e => nomatch e⟩
    | int _ => cases h; exact ⟨kit_bt (by cases bt <;> first | (change _ = some true; decide +kernel) | (change _ = some false; decide +kernel)), fun _ _ _ e => nomatch e⟩
    | str _ => cases h; exact ⟨kit_bt (by cases bt <;> first | (change _ = some true; decide +kernel) | (change _ = some false; decide +kernel)), fun _ _ _ e => nomatch e⟩
    | tup _ => cases h; exact ⟨kit_bt (by cases bt <;> first | (change _ = some true; decide +kernel) | (change _ = some false; decide +kernel)), fun _ _ _ e => nomatch e⟩
    | lst _ => cases h; exact ⟨kit_bt (by cases bt <;> first | (change _ = some true; decide +kernel) | (change _ = some false; decide +kernel)), fun _ _ _ e => nomatch e⟩
    | dic _ _ => cases h; exact ⟨kit_bt (by cases bt <;> first | (change _ = some true; decide +kernel) | (change _ = some false; decide +kernel)), fun _ _ _ e => nomatch e⟩
  | own C' =>
    have hC' : C' < n := by simpa [tyOk] using ht
    cases d with
    | ins C fs vs =>
      have h' : (if C < n then some (C == C') else none) = some b := h
      split at h'
      · cases h'
        rename_i hc
        exact ⟨ko.own C C' hc hC', fun C' _ _ e => by cases e; exact hc⟩
      · cases h'
    | non => cases h; exact ⟨ko.bt _ C' (by simp) hC', fun _ _ _ e => nomatch e⟩
    | bl _ => cases h; exact ⟨ko.bt _ C' (by simp) hC', fun _ _ _ e => nomatch e⟩
    | int _ => cases h; exact ⟨ko.bt _ C' (by simp) hC', fun _ _ _ e => nomatch e⟩
    | str _ => cases h; exact ⟨ko.bt _ C' (by simp) hC', fun _ _ _ e => nomatch e⟩
    | tup _ => cases h; exact ⟨ko.bt _ C' (by simp) hC', fun _ _ _ e => nomatch e⟩
    | lst _ => cases h; exact ⟨ko.bt _ C' (by simp) hC', fun _ _ _ e => nomatch e⟩
    | dic _ _ => cases h; exact ⟨ko.bt _ C' (by simp) hC', fun _ _ _ e => nomatch e⟩
theorem isTys_ok {K : PySem.W.Frag} {cl : Nat → Addr} {n : Nat} (ko : KindOk K cl n) {d : D} : {ts : List Ty} → {b : Bool} → ts.all (tyOk n) = true → isTys n d ts = some b → PySem.W.kitAny K (tyV' cl d) (ts.map (Ty.val cl)) = some b ∧ (ts ≠ [] → ∀ C fs vs, d = .ins C fs vs → C < n)
  | [], _, _, h => by cases h; exact ⟨kitAny_nil, fun z => absurd rfl z⟩
  | t :: r, b, ht, h => by
    rw [List.all_cons, Bool.and_eq_true] at ht
    unfold isTys at h
    cases e : isTy n d t with
    | none => rw [e] at h; cases h
    | some b1 =>
      rw [e] at h
      obtain ⟨k1, k2⟩ := isTy_ok ko ht.1 e
      cases b1 with
      | true => cases h; exact ⟨kitAny_cons k1 (fun z => nomatch z) fun _ => rfl, fun _ => k2⟩
      | false => exact ⟨kitAny_cons k1 (fun _ => (isTys_ok ko ht.2 h).1) (fun z => nomatch z), fun _ => k2⟩
/-- isinstance(x, c) and isinstance(x, (c, ..)) -/
def c_isi (n : Nat) (ts : List Ty) (fa : Ro → ER) : Ro → ER := c_op1 (fun d => (isTys n d ts).map .bl) fa
/-- the class expression -/
structure ClE (X : Cx) (e : Expr) (u : Value) : Prop where
  run : ∀ (pins : List (Addr × Obj)) (s : Shared) (σ : L2.St) (H : Hp) (Q : Value → Shared → Prop), Inv X pins σ H s → Q u s → wpAny (model X.prog X.w) X.A (eval e X.env) Q X.xe s
theorem cle_ty {x : Str} {T : String} (hv : bootBuiltins x = some (.type T) := by rfl) (hm : X.mg x = none := by rfl) (hg : Gl X x := by rfl) (hn : x ≠ "__name__" := by decide) (hdb : (x == ("__debug__" : Str)) = false := by decide) : ClE X (.Name x p) (.type T) :=
  ⟨fun pins s σ H Q I h => ld_blt I hg hm hv h hn hdb⟩
theorem cle_own {x : Str} {C : Addr} (hm : X.mg x = some (.ref C) := by rfl) (hg : Gl X x := by rfl) (hdb : (x == ("__debug__" : Str)) = false := by decide) : ClE X (.Name x p) (.ref C) :=
  ⟨fun pins s σ H Q I h => ld_glob I hg hm h hdb⟩
/-- isinstance(x, c) -/
theorem isi_fin {n : Nat} {ts : List Ty} {w : W} {v : V} {u c : Value} {Q : VK} (ko : KindOk X.K ca n) (ht : ts.all (tyOk n) = true) (hne : ts ≠ []) (I : Inv X pins σ H1 s) (r1 : RelV v u) (o : OKB X ca k Z S H q σ (frz w) ρ1 v H1)
    (po : PoB X ca Wx q true Z S σ H (match (isTys n (frz w) ts).map D.bl with | some d => .ok (.d d) ρ1 | none => .no) Q)
    (hc : ∀ {P : Heap → Prop} {t : Value} {b : Bool} {Q' : Value → Shared → Prop}, PySem.W.KitX X.K u t P → P s.heap → PySem.W.kitAny X.K t (ts.map (Ty.val ca)) = some b → u ≠ .builtin "__main__.__loader__#opaque" → (∀ tk, Q' (.bool b) { s with toks := tk }) → wpAny (model X.prog X.w) X.A (call (.builtin "isinstance") [u, c]) Q' X.xe s) :
    wpAny (model X.prog X.w) X.A (call (.builtin "isinstance") [u, c]) (EP X pins σ Q) X.xe s := by
  obtain ⟨S1, n1, f1, rp⟩ := o
  cases e : isTys n (frz w) ts with
  | none => rw [e] at po; exact po.elim
  | some b =>
    rw [e] at po
    obtain ⟨k1, k2⟩ := isTys_ok ko ht e
    obtain ⟨P, kx, hp, hx⟩ := kit_rep ko.ins (k2 hne) I r1 (rp.bor hid_same) hid_same
    exact hc kx hp k1 hx fun tk => ⟨.bl b, H1, I.tok tk, rfl, po _ H1 ⟨S1, n1, f1, RepKd.of rfl⟩⟩
theorem db_isi {n : Nat} {t : Ty} {x : Str} (ko : KindOk X.K ca n) (hc : ClE X b (t.val ca)) (ha : DB X ca Wx q k a fa) (ht : tyOk n t = true := by decide) (hv : bootBuiltins x = some (.builtin "isinstance") := by rfl) (hm : X.mg x = none := by rfl) (hg : Gl X x := by rfl) (hn : x ≠ "__name__" := by decide) (hdb : (x == ("__debug__" : Str)) = false := by decide)
    (hst : starEach [a, b] X.env = (false, eval a X.env) :: (false, eval b X.env) :: starEach [] X.env := by rfl) (hst1 : starEach [a, b] X.env = (false, eval a X.env) :: starEach [b] X.env := by rfl) (hpl : (backTo pos (starEach [b] X.env)).any (·.1) = false := by rfl) : DB X ca Wx q true (.Call (.Name x p) [a, b] [] pos) (c_isi n [t] fa) := by
  refine ⟨⟨fun pins s σ H Q I ⟨Z, S, ρ, fr, po⟩ => wpAny_Call_Name_kw (ld_blt I hg hm hv (PyProof.Rows.callWith_builtin1 ?_ hst1 hpl) hn hdb)⟩⟩
  rw [hst]
  show wpAny _ _ (spliced ((false, eval a X.env) :: (false, eval b X.env) :: backTo pos (starEach [] X.env))) _ _ s
  refine Calls.spliced_cons (ha.bindB I fr po fun w ρ1 v u s1 H1 I1 r1 o po1 => Calls.spliced_cons (hc.run pins s1 σ H1 _ I1 (Calls.spliced_nil ?_)))
  refine isi_fin ko (ts := [t]) (by rw [List.all_cons, ht]; rfl) (by simp) I1 r1 o po1 fun {P t' b' Q'} kx hp k1 hx hq => ?_
  have k2 : PySem.W.kitOne X.K t' (t.val ca) = some b' := by
    unfold PySem.W.kitAny at k1
    cases e : PySem.W.kitOne X.K t' (t.val ca) with
    | none => rw [show [t].map (Ty.val ca) = [t.val ca] from rfl] at k1; simp only [e] at k1; cases k1
    | some b2 =>
      simp only [List.map_cons, List.map_nil] at k1
      rw [e] at k1
      cases b2 with
      | true => exact k1
      | false => exact k1
  exact PySem.W.kia_one kx I1.kIn hp k2 hx hq
/-- class expressions in order -/
inductive ClEs (X : Cx) : List Expr → List Value → Prop where
  | nil : ClEs X [] []
  | cons {e : Expr} {es : List Expr} {u : Value} {us : List Value} (h : ClE X e u) (hs : starEach (e :: es) X.env = (false, eval e X.env) :: starEach es X.env) (t : ClEs X es us) : ClEs X (e :: es) (u :: us)
theorem cles_run {es : List Expr} {us : List Value} (h : ClEs X es us) (pos : Pos) {Q : List Value → Shared → Prop} (I : Inv X pins σ H s) (hq : Q us s) : wpAny (model X.prog X.w) X.A (spliced (backTo pos (starEach es X.env))) Q X.xe s := by
  induction h generalizing Q with
  | nil => exact Calls.spliced_nil hq
  | @cons e es u us h hs t ih =>
    rw [hs]
    show wpAny _ _ (spliced ((false, eval e X.env) :: backTo pos (starEach es X.env))) _ _ s
    exact Calls.spliced_cons (h.run pins s σ H _ I (ih hq))
/-- isinstance(x, (c, ..)) -/
theorem db_isiT {n : Nat} {ts : List Ty} {x : Str} {es : List Expr} {kt : Nat} {pt : Pos} (ko : KindOk X.K ca n) (hc : ClEs X es (ts.map (Ty.val ca))) (ha : DB X ca Wx q k a fa) (ht : ts.all (tyOk n) = true := by decide) (hne : ts ≠ [] := by simp) (hz : ts.length ≤ 1000 := by decide) (hv : bootBuiltins x = some (.builtin "isinstance") := by rfl) (hm : X.mg x = none := by rfl) (hg : Gl X x := by rfl) (hn : x ≠ "__name__" := by decide) (hdb : (x == ("__debug__" : Str)) = false := by decide)
    (hst : starEach [a, .Tuple es kt pt] X.env = (false, eval a X.env) :: (false, eval (.Tuple es kt pt) X.env) :: starEach [] X.env := by rfl) (hst1 : starEach [a, .Tuple es kt pt] X.env = (false, eval a X.env) :: starEach [.Tuple es kt pt] X.env := by rfl) (hpl : (backTo pos (starEach [.Tuple es kt pt] X.env)).any (·.1) = false := by rfl) : DB X ca Wx q true (.Call (.Name x p) [a, .Tuple es kt pt] [] pos) (c_isi n ts fa) := by
  refine ⟨⟨fun pins s σ H Q I ⟨Z, S, ρ, fr, po⟩ => wpAny_Call_Name_kw (ld_blt I hg hm hv (PyProof.Rows.callWith_builtin1 ?_ hst1 hpl) hn hdb)⟩⟩
  rw [hst]
  show wpAny _ _ (spliced ((false, eval a X.env) :: (false, eval (.Tuple es kt pt) X.env) :: backTo pos (starEach [] X.env))) _ _ s
  refine Calls.spliced_cons (ha.bindB I fr po fun w ρ1 v u s1 H1 I1 r1 o po1 => Calls.spliced_cons (wpAny_Tuple_spliced (cles_run hc pt I1 ⟨by rw [List.length_map, sizeLine_eq]; omega, Calls.spliced_nil ?_⟩)))
  have kp : ∀ b ob, s1.heap.get? b = some ob → (s1.heap.push { cls := .type "tuple", data := .seq (ts.map (Ty.val ca)).toArray }).get? b = some ob := fun b ob e => Heap.get?_push_of_some _ e
  have I2 : Inv X pins σ H1 { s1 with heap := s1.heap.push { cls := .type "tuple", data := .seq (ts.map (Ty.val ca)).toArray } } := I1.kept (t' := s1.toks) kp
  exact isi_fin ko ht hne I2 r1 o po1 fun {P t' b' Q'} kx hp k1 hx hq => PySem.W.kia_tup kx I2.kIn hp (Heap.get?_push_size _ rfl) k1 hx hq
end
end L3

set_option Elab.async false
set_option linter.all false
set_option maxRecDepth 100000
set_option maxHeartbeats 1000000
/-! L3u: what is walked; for. -/
namespace L3
open PySem PySem.Spec PyProof.Rows L2

/-- a sequence's items -/
def i_seq (fa : Ro → ER) : Ro → LR := fun ρ => match fa ρ with
  | .ok w ρ1 => match seqD (frz w) with
    | some l => .ok l ρ1
    | none => .no
  | .ex x ρ1 => .ex x ρ1
  | .no => .no
def rngL (lo : Int) (n : Nat) : List D := (List.range n).map fun (i : Nat) => D.int (lo + (i : Int))
def small62 (i : Int) : Bool := -(2 ^ 62) ≤ i && i < 2 ^ 62
def i_range1 (fa : Ro → ER) : Ro → LR := fun ρ => match fa ρ with
  | .ok w ρ1 => match frz w with
    | .int j => if small62 j then .ok (rngL 0 j.toNat) ρ1 else .no
    | _ => .no
  | .ex x ρ1 => .ex x ρ1
  | .no => .no
def i_range2 (ga : Ro → LR) : Ro → LR := fun ρ => match ga ρ with
  | .ok [.int i, .int j] ρ1 => if small62 i && small62 j then .ok (rngL i (j - i).toNat) ρ1 else .no
  | .ok _ _ => .no
  | .ex x ρ1 => .ex x ρ1
  | .no => .no
def forL (t : Tg) (body : Ro → SR) : List D → Ro → SR
  | [], ρ => .nx ρ
  | d :: r, ρ => match t_set t d ρ with
    | some ρ1 => match body ρ1 with
      | .nx ρ2 => forL t body r ρ2
      | .ct ρ2 => forL t body r ρ2
      | .br ρ2 => .nx ρ2
      | .rt w ρ2 => .rt w ρ2
      | .ex x ρ2 => .ex x ρ2
      | .no => .no
    | none => .no
def s_for (src : Ro → LR) (t : Tg) (body : Ro → SR) : Ro → SR := fun ρ => match src ρ with
  | .ok l ρ1 => forL t body l ρ1
  | .ex x ρ1 => .ex x ρ1
  | .no => .no
section
variable {X : Cx} {ca : Ca} {Wx : WX} {Z S S0 S1 S2 Sw T : AS} {σ σ0 σ1 : L2.St} {H H0 H1 H2 G : Hp} {ρ ρ0 ρ1 ρ2 : Ro} {q q1 q2 q3 k k1 k2 k3 : Bool} {a b c e o tg iter : Expr} {es : List Expr} {fa fb fc fv fk : Ro → ER} {ga : Ro → LR} {pos pos' p p2 apos tpos : Pos} {pins : List (Addr × Obj)} {s : Shared} {pin : List Nat} {body : List Stmt}
/-- the iterator J yields the items l, wherever the data of G (or, read as borrowed, of H) still lies -/
def ItD (X : Cx) (ca : Ca) (J : It) (l : List D) (Ok : Hp → AS → Prop) : Prop := ∀ (H2 : Hp) (T : AS), Ok H2 T → (∀ a, T a → H2 a ≠ none) →
  (∀ i d, l[i]? = some d → J.go i H2 ∧ ∀ x H3, J.yld i H2 x H3 → Same H2 H3 ∧ RepD X.prog X.w X.K ca (hid H3 T) d x) ∧ (∀ i, l.length ≤ i → J.stop i H2)
/-- k: the source is data; else it is borrowed, and all must be kept -/
def Still (k : Bool) (G H : Hp) (H2 : Hp) (T : AS) : Prop := Same G (hid H2 T) ∧ (k = false → Same H H2)
def OKI (X : Cx) (ca : Ca) (k : Bool) (Z S : AS) (H : Hp) (q : Bool) (σ : L2.St) (l : List D) (ρ' : Ro) (J : It) (H' : Hp) : Prop := ∃ S', Nx S H q S' H' ∧ Fr X ca Z S' ρ' σ H' ∧ ItD X ca J l (Still k (hid H' (un Z S')) H')
def PoI (X : Cx) (ca : Ca) (Wx : WX) (q k : Bool) (Z S : AS) (σ : L2.St) (H : Hp) (r : LR) (R : It → Hp → Prop) : Prop := match r with
  | .ok l ρ' => ∀ J H', OKI X ca k Z S H q σ l ρ' J H' → R J H'
  | .ex x ρ' => ∀ cls d H', EXE X ca Z S H σ x ρ' cls d H' → Wx cls d σ H'
  | .no => False
structure DI (X : Cx) (ca : Ca) (Wx : WX) (q k : Bool) (tg iter : Expr) (f : Ro → LR) : Prop where
  run : PI X tg iter fun σ H R => ∃ Z S ρ, Fr X ca Z S ρ σ H ∧ PoI X ca Wx q k Z S σ H (f ρ) R
theorem _root_.L2.PI.imp {t t' : TI} (h : PI X tg iter t) (i : ∀ σ H R, t' σ H R → t σ H R) : PI X tg iter t' := ⟨fun pins s σ H R I q => h.run pins s σ H R I (i _ _ _ q)⟩
theorem _root_.L2.PI.or {t t' : TI} (h : PI X tg iter t) (h' : PI X tg iter t') : PI X tg iter (fun σ H R => t σ H R ∨ t' σ H R) := ⟨fun pins s σ H R I q => q.elim (h.run pins s σ H R I) (h'.run pins s σ H R I)⟩
theorem RepDs.at {P : Program} {w : World} {K : PySem.W.Frag} {cl : Nat → Addr} {G : Hp} {l : List D} {xs : List V} {i : Nat} {d : D} {x : V} (h : RepDs P w K cl G l xs) (e : l[i]? = some d) (ex : xs[i]? = some x) : RepD P w K cl G d x := by
  obtain ⟨y, e1, e2⟩ := h.get e
  rw [ex] at e1
  cases e1
  exact e2
theorem RepDs.ix {P : Program} {w : World} {K : PySem.W.Frag} {cl : Nat → Addr} {G : Hp} {l : List D} {xs : List V} {i : Nat} {d : D} (h : RepDs P w K cl G l xs) (e : l[i]? = some d) : ∃ x, xs[i]? = some x := by
  obtain ⟨y, e1, e2⟩ := h.get e
  exact ⟨y, e1⟩
theorem it_list {P : V} {a : Addr} {xs : List V} {l : List D} {G H : Hp} (hk : if k = true then SqL X.K G a xs else SqL X.K H a xs) (r : RepDs X.prog X.w X.K ca G l xs) : ItD X ca (Itl X.K a) l (Still k G H) := by
  intro H2 T ⟨sm, sm2⟩ al
  have hq : SqL X.K H2 a xs := by
    split at hk
    · exact SqL.mono (sm.trans hid_same) hk
    · rename_i h
      exact SqL.mono (sm2 (by simpa using h)) hk
  have r2 := r.mono sm
  refine ⟨fun i d e => ?_, fun i hi => ⟨xs, hq, by rw [← r.length]; exact hi⟩⟩
  obtain ⟨x, ex⟩ := r.ix e
  refine ⟨⟨xs, x, hq, ex⟩, fun x' H3 ⟨eH, y⟩ => ?_⟩
  subst eH
  exact ⟨Same.refl _, r2.at e (y xs hq)⟩
theorem it_tup {a : Addr} {xs : List V} {l : List D} {G H : Hp} (hk : SqT X.K G a xs) (r : RepDs X.prog X.w X.K ca G l xs) : ItD X ca (Itt X.K a) l (Still k G H) := by
  intro H2 T ⟨sm, sm2⟩ al
  have hq : SqT X.K H2 a xs := SqT.mono (sm.trans hid_same) hk
  have r2 := r.mono sm
  refine ⟨fun i d e => ?_, fun i hi => ⟨xs, hq, by rw [← r.length]; exact hi⟩⟩
  obtain ⟨x, ex⟩ := r.ix e
  refine ⟨⟨xs, x, hq, ex⟩, fun x' H3 ⟨eH, y⟩ => ?_⟩
  subst eH
  exact ⟨Same.refl _, r2.at e (y xs hq)⟩
/-- over a list or a tuple -/
theorem di_seq (ha : DB X ca Wx q k a fa) : DI X ca Wx q k tg a (i_seq fa) := by
  refine ⟨((pi_list ha.run).or (pi_tup ha.run)).imp fun σ H R ⟨Z, S, ρ, fr, po⟩ => ?_⟩
  unfold i_seq at po
  cases e : fa ρ with
  | no => rw [e] at po; exact po.elim
  | ex x ρ1 => rw [e] at po; exact .inl ⟨Z, S, ρ, fr, by rw [e]; exact po⟩
  | ok w ρ1 =>
    rw [e] at po
    simp only at po
    generalize hw : frz w = d at po
    cases d with
    | lst l =>
      refine .inl ⟨Z, S, ρ, fr, ?_⟩
      rw [e]
      intro v H1 ⟨S1, n1, f1, rp⟩
      rw [hw] at rp
      unfold RepKd at rp
      cases k with
      | true =>
        rw [if_pos rfl] at rp
        obtain ⟨a, xs, rfl, h1, h2⟩ := rp
        exact ⟨a, rfl, ⟨xs, SqL.mono hid_same h1⟩, po _ H1 ⟨S1, n1, f1, it_list (P := .non) (k := true) (by rw [if_pos rfl]; exact h1) h2⟩⟩
      | false =>
        rw [if_neg Bool.false_ne_true] at rp
        obtain ⟨a, xs, rfl, h1, h2⟩ := rp
        exact ⟨a, rfl, ⟨xs, h1⟩, po _ H1 ⟨S1, n1, f1, it_list (P := .non) (k := false) (by rw [if_neg Bool.false_ne_true]; exact h1) h2⟩⟩
    | tup l =>
      refine .inr ⟨Z, S, ρ, fr, ?_⟩
      rw [e]
      intro v H1 ⟨S1, n1, f1, rp⟩
      rw [hw] at rp
      have rp := rp.bor hid_same
      obtain ⟨a, xs, rfl, h1, h2⟩ := rp
      exact ⟨a, rfl, ⟨xs, SqT.mono hid_same h1⟩, po _ H1 ⟨S1, n1, f1, it_tup h1 h2⟩⟩
    | _ => exact po.elim
theorem it_rng {lo : Int} {n : Nat} {G H : Hp} : ItD X ca (Itr lo n) (rngL lo n) (Still k G H) := by
  intro H2 T ⟨sm, sm2⟩ al
  refine ⟨fun i d e => ?_, fun i hi => ?_⟩
  · unfold rngL at e
    rw [List.getElem?_map] at e
    have hi : i < n := by
      have := (List.getElem?_eq_some_iff.mp (by rw [← List.getElem?_map] at e; exact e)).1
      simpa using this
    rw [List.getElem?_range hi] at e
    cases e
    exact ⟨hi, fun x H3 ⟨eH, ex⟩ => by subst eH; exact ⟨Same.refl _, ex⟩⟩
  · unfold rngL at hi
    have h : n ≤ i := by simpa using hi
    exact h
theorem di_range1 (hm : X.mg "range" = none) (ha : DB X ca Wx q k1 a fa) (hg : Gl X "range" := by rfl) (hs : starEach [a] X.env = [(false, eval a X.env)] := by rfl) : DI X ca Wx q k tg (.Call (.Name "range" p) [a] [] pos) (i_range1 fa) := by
  refine ⟨(pi_range1 hg hm (pa_cons ha.run pa_nil (by rw [hs]; rfl)) hs).imp fun σ H R ⟨Z, S, ρ, fr, po⟩ => ⟨Z, S, ρ, fr, ?_⟩⟩
  unfold i_range1 at po
  cases e : fa ρ with
  | no => rw [e] at po; exact po.elim
  | ex x ρ1 => rw [e] at po; exact po
  | ok w ρ1 =>
    rw [e] at po
    intro v H1 ⟨S1, n1, f1, rp⟩
    simp only at po
    have rp := rp.bor hid_same
    generalize frz w = d at po rp
    cases d with
    | int j =>
      have po' : PoI X ca Wx q k Z S σ H (if small62 j then .ok (rngL 0 j.toNat) ρ1 else .no) R := po
      split at po'
      · rename_i hc
        unfold small62 at hc
        rw [Bool.and_eq_true, decide_eq_true_eq, decide_eq_true_eq] at hc
        have ev : v = .int j := rp
        exact ⟨j, by rw [ev], hc.1, hc.2, po' _ H1 ⟨S1, n1, f1, it_rng⟩⟩
      · exact po'.elim
    | _ => exact po.elim
theorem di_range2 (hm : X.mg "range" = none) (ha : DL X ca Wx q [a, b] ga) (hg : Gl X "range" := by rfl) (hs : starEach [a, b] X.env = [(false, eval a X.env), (false, eval b X.env)] := by rfl) (hs2 : starEach [b] X.env = [(false, eval b X.env)] := by rfl) : DI X ca Wx q k tg (.Call (.Name "range" p) [a, b] [] pos) (i_range2 ga) := by
  refine ⟨(pi_range2 hg hm ha.run hs hs2).imp fun σ H R ⟨Z, S, ρ, fr, po⟩ => ⟨Z, S, ρ, fr, ?_⟩⟩
  unfold i_range2 at po
  cases e : ga ρ with
  | no => rw [e] at po; exact po.elim
  | ex x ρ1 => rw [e] at po; exact po
  | ok ds ρ1 =>
    rw [e] at po
    intro vs H1 ⟨S1, n1, f1, rp⟩
    split at po
    · rename_i i j ρ9 he
      cases he
      split at po
      · rename_i hc
        unfold small62 at hc
        simp only [Bool.and_eq_true, decide_eq_true_eq] at hc
        obtain ⟨x, t, rfl, r1, y, u, rfl, r2, r3⟩ := rp
        have e1 : x = .int i := r1
        have e2 : y = .int j := r2
        have e3 : u = [] := r3
        subst e1 e2 e3
        exact ⟨i, j, rfl, ⟨hc.1.1, hc.1.2, hc.2.1, hc.2.2⟩, po _ H1 ⟨S1, n1, f1, it_rng⟩⟩
      · exact po.elim
    · exact po.elim
    · cases ‹LR.ok ds ρ1 = LR.ex _ _›
    · cases ‹LR.ok ds ρ1 = LR.no›
/-- for t in source: body -/
theorem ds_for {t : Tg} {src : Ro → LR} {g : Ro → SR} (hp : PassesOwn (model X.prog X.w) X.A X.env X.xe) (hc : X.calm = true) (hi : DI X ca Wx q true tg iter src) (hg : DG X ca pin tg t) (hb : DSs X ca Wx pin body g)
    (hs : ∀ x, foldedSetIterable iter X.env x = pure x := by intro _; rfl) : DS X ca Wx pin (.For tg iter body [] pos) (s_for src t g) := by
  refine ⟨(ps_for hp hc hi.run hg.run hb.run hs).imp fun D σ H ⟨Z, S, ρ, fr, po⟩ => ⟨Z, S, ρ, fr, ?_⟩⟩
  unfold s_for at po
  cases e : src ρ with
  | no => rw [e] at po; exact po
  | ex x ρ1 => rw [e] at po; exact fun cls d H' o => po cls d σ H' o.x
  | ok l ρ1 =>
    rw [e] at po
    intro J H1 ⟨S1, n1, f1, it⟩
    have po1 := po.shift n1 (Pn.refl (pin := pin) (σ := σ))
    refine ⟨fun i m σ' H' => m = l.length - i ∧ i ≤ l.length ∧ ∃ S' ρ', Fr X ca Z S' ρ' σ' H' ∧ ItD X ca J l (Still true (hid H' (un Z S')) H') ∧ PoS X ca Wx pin Z S' σ' H' (forL t g (l.drop i) ρ') D, ⟨l.length, by simp, Nat.zero_le _, S1, ρ1, f1, it, po1⟩, ?_⟩
    rintro i m σ' H' ⟨rfl, hi, S', ρ', fr', it', po'⟩
    obtain ⟨h1, h2⟩ := it' H' (un Z S') ⟨Same.refl _, fun z => nomatch z⟩ fr'.al
    by_cases hlt : i < l.length
    · have ed : l[i]? = some l[i] := by simp [hlt]
      rw [List.drop_eq_getElem_cons hlt] at po'
      unfold forL at po'
      cases et : t_set t l[i] ρ' with
      | none => rw [et] at po'; exact po'.elim
      | some ρ2 =>
        rw [et] at po'
        simp only at po'
        obtain ⟨hgo, hy⟩ := h1 i _ ed
        refine .inr ⟨hgo, fun σ2 H2 => i + 1 ≤ l.length ∧ ∃ S' ρ', Fr X ca Z S' ρ' σ2 H2 ∧ ItD X ca J l (Still true (hid H2 (un Z S')) H2) ∧ PoS X ca Wx pin Z S' σ2 H2 (forL t g (l.drop (i + 1)) ρ') D, fun σ2 H2 ⟨w1, w2⟩ => ⟨l.length - (i + 1), by omega, rfl, w1, w2⟩, fun x H3 y => ?_⟩
        obtain ⟨sm, rx⟩ := hy x H3 y
        have nsm : Nx S' H' true S' H3 := Nx.same sm fr'.as
        refine ⟨Z, S', ρ', l[i], ρ2, fr'.same sm, rx, et, fun σ4 H4 ⟨S4, n4, f4, p4⟩ => ⟨Z, S4, ρ2, f4, ?_⟩⟩
        have n5 := nsm.trans n4
        have it5 : ∀ {S6 H6 q6}, Nx S4 H4 q6 S6 H6 → ItD X ca J l (Still true (hid H6 (un Z S6)) H6) := fun n6 H2 T ⟨s1, _⟩ al => it' H2 T ⟨((n5.trans n6).hid).trans s1, fun z => nomatch z⟩ al
        cases eb : g ρ2 with
        | no => rw [eb] at po'; exact po'
        | nx ρ3 =>
          rw [eb] at po'
          intro σ6 H6 ⟨S6, n6, f6, p6⟩
          exact ⟨hlt, S6, ρ3, f6, it5 n6, (PoS.shift (r := forL t g (l.drop (i + 1)) ρ3) po' (n5.trans n6) (p4.trans p6))⟩
        | ct ρ3 =>
          rw [eb] at po'
          intro σ6 H6 ⟨S6, n6, f6, p6⟩
          exact ⟨hlt, S6, ρ3, f6, it5 n6, (PoS.shift (r := forL t g (l.drop (i + 1)) ρ3) po' (n5.trans n6) (p4.trans p6))⟩
        | br ρ3 => rw [eb] at po'; exact PoS.shift (r := .nx ρ3) po' n5 p4
        | rt w ρ3 => rw [eb] at po'; exact PoS.shift (r := .rt w ρ3) po' n5 p4
        | ex x ρ3 => rw [eb] at po'; exact PoS.shift (r := .ex x ρ3) po' n5 p4
    · have e0 : i = l.length := by omega
      subst e0
      rw [List.drop_eq_nil_of_le (Nat.le_refl _)] at po'
      exact .inl ⟨h2 _ (Nat.le_refl _), po' σ' H' (oks_refl fr')⟩
end
end L3

set_option Elab.async false
set_option linter.all false
set_option maxRecDepth 100000
set_option maxHeartbeats 1000000
/-! L3v: enumerate. -/
namespace PySem.L3X
open PySem PyProof.Rows PySem.AutoSeq1
theorem drawsT {prog : Program} {w : World} {A : Around} (hh : A.handled = none) (it l : Addr) (hne : l ≠ it) (items : Array Value) :
    Draws prog w A it [it, l] items.size (fun i v => items[i]? = some v) (fun i h => h.IsTupleIter it l i ∧ h.IsTuple l items) where
  live := fun _ _ st => let ⟨o, ho, _⟩ := st.1; ⟨o, ho⟩
  frame := fun _ _ _ st hk => ⟨st.1.at fun o e => hk it (by simp) o e, st.2.at fun o e => hk l (by simp) o e⟩
  item := fun i s Q E hi st hQ => by
    refine RZ.nextOf_tuple_item st.1 st.2 (x := items[i]) (by simp [hi]) fun h' hit' hs' => ?_
    exact hQ _ h' s.toks (by simp [hi]) ⟨hit', st.2.extBut hs'.extBut hne⟩ hs'
  done := fun s Q E st hE => RZ.nextOf_tuple_end hh st.1 st.2 (by simp) hE
theorem enum_newT (l : Addr) (items : Array Value) (n : Nat) (dct : Option Addr) (sl : Array (Option Value)) :
    Meets (Builtin.«enumerate.__new__» ⟨[.type "enumerate", .ref l], []⟩) (fun _ R s => s.heap.get? l = some { cls := .type "tuple", dict := dct, data := .seq items n, slots := sl } ∧
      R (.ok (.ret (.ref (s.heap.push { cls := .type "tuple_iterator", data := .fields #[.ref l, .int 0 0] }).objs.size)))
        { s with heap := (s.heap.push { cls := .type "tuple_iterator", data := .fields #[.ref l, .int 0 0] }).push { cls := .type "enumerate", data := .fields #[.none, .bool false, .ref s.heap.objs.size, rawInt 0, .none, .none] } }) :=
  .of_wp fun prog w A R s h => by
    obtain ⟨hp, g, d, tk, os⟩ := s; obtain ⟨hl, h⟩ := h
    have hsub := sub_enumerate
    have hL : Heap.IsTuple (Shared.heap ⟨hp, g, d, tk, os⟩) l items := ⟨_, hl, rfl, n, rfl⟩
    wp_walk using wpAny_loadPart' hl
    refine wpAny_stack_any fun st => wpAny_pure ?_
    split
    · rename_i c _ _ _ _ _
      cases (c == Value.type "enumerate")
      · wp_walk using wpAny_loadPart' hl, wpAny_pyIter_tuple hL
        exact ⟨_, rfl, h⟩
      · wp_walk using wpAny_loadPart' hl, wpAny_pyIter_tuple hL
        exact ⟨_, rfl, h⟩
    · wp_walk using wpAny_loadPart' hl, wpAny_pyIter_tuple hL
      exact ⟨_, rfl, h⟩
theorem call_enumT {prog : Program} {w : World} {A : Around} {E : Value → Shared → Prop} {s : Shared} {l : Addr} {items : Array Value} {Q : Value → Shared → Prop} (hL : s.heap.IsTuple l items)
    (h : ∀ h', IsEnum h' (s.heap.objs.size + 1) s.heap.objs.size 0 .none → h'.IsTupleIter s.heap.objs.size l 0 → h'.objs.size = s.heap.objs.size + 2 →
      (∀ b o, s.heap.get? b = some o → h'.get? b = some o) → Q (.ref (s.heap.objs.size + 1)) { s with heap := h' }) :
    wpAny (model prog w) A (call (.type "enumerate") [.ref l]) Q E s := by
  obtain ⟨⟨c, dct, dt, sl⟩, hl, hc, n, hd⟩ := hL
  replace hc : c = .type "tuple" := hc
  replace hd : dt = .seq items n := hd
  subst hc hd
  refine callType_new F.called_enumerate (by decide) (F.typeCall_enumerate_1 _) (F.newCall_enumerate_1 _) (fun obj => F.args_object_init_2 obj _) F.entry_enumerate_new
    (enum_newT l items n dct sl) ⟨hl, ?_⟩
  have hz : (s.heap.push { cls := .type "tuple_iterator", data := .fields #[.ref l, .int 0 0] }).objs.size = s.heap.objs.size + 1 := Heap.size_push ..
  show _ ∧ _
  rw [hz]
  have he : IsEnum ((s.heap.push { cls := .type "tuple_iterator", data := .fields #[.ref l, .int 0 0] }).push
      { cls := .type "enumerate", data := .fields #[.none, .bool false, .ref s.heap.objs.size, rawInt 0, .none, .none] }) (s.heap.objs.size + 1) s.heap.objs.size 0 .none := by
    have := Heap.get?_push_size (s.heap.push { cls := .type "tuple_iterator", data := .fields #[.ref l, .int 0 0] })
      (o := { cls := .type "enumerate", data := .fields #[.none, .bool false, .ref s.heap.objs.size, rawInt 0, .none, .none] }) rfl
    rw [hz] at this; exact this
  refine ⟨⟨_, he, rfl⟩, h _ he ⟨_, Heap.get?_push_of_some _ (Heap.get?_push_size _ rfl), rfl, rfl⟩ (by rw [Heap.size_push, hz]) fun b o x => Heap.get?_push_of_some _ (Heap.get?_push_of_some _ x)⟩
end PySem.L3X
namespace L3
open PySem PySem.Spec PyProof.Rows L2
def IteT (K : PySem.W.Frag) (a : Addr) : It :=
  ⟨fun i H => ∃ (xs : List V) (x : V), SqT K H a xs ∧ xs[i]? = some x, fun i H v H' => ∃ T x, v = .ref T ∧ H T = none ∧ H' = upd H T (.tup [.int (i : Nat), x]) ∧ ∀ xs, SqT K H a xs → xs[i]? = some x, fun i H => ∃ xs : List V, SqT K H a xs ∧ xs.length ≤ i⟩
theorem turn_enumT {P : Program} {w : World} {K : PySem.W.Frag} {elts : List Expr} {kk : Nat} {tpos : Pos} (a e it : Addr) (hai : a ≠ it) (hea : e ≠ a) :
    Turn P w K (.Tuple elts kk tpos) (IteT K a) [e, it] e (fun i h => (∃ old, IsEnum h e it ((i : Nat) : Int) old) ∧ h.IsTupleIter it a i ∧ e ≠ it) where
  mem := by simp
  obj := fun i h st b hb => by
    obtain ⟨⟨old, he⟩, ⟨o, ho, hc, hd⟩, _⟩ := st
    have e' : b = e ∨ b = it := by simpa using hb
    rcases e' with z | z
    · rw [z]; exact ⟨_, he, fun v q => nomatch q⟩
    · rw [z]; exact ⟨o, ho, fun v q => by rw [hd] at q; cases q⟩
  keep := fun i h h' st k => let ⟨⟨old, he⟩, hi, hne⟩ := st; ⟨⟨old, k e (by simp) _ he⟩, hi.at fun o q => k it (by simp) o q, hne⟩
  item := by
    intro X hP hw hK hc i pins s σ H E I hf st hg
    subst hP hw hK
    obtain ⟨⟨old, he⟩, hit, hne⟩ := st
    obtain ⟨xs, x, hq, hx⟩ := hg
    obtain ⟨its, rv, p, hz⟩ := I.tuple hq
    obtain ⟨u, hu, ru⟩ := rv.get hx
    have hel : e < s.heap.objs.size := Heap.lt_size he
    have hil : it < s.heap.objs.size := by obtain ⟨_, q, _⟩ := hit; exact Heap.lt_size q
    have hlt : i < its.toArray.size := by
      have := (List.getElem?_eq_some_iff.mp hu).1
      simpa using this
    refine wpAny_pyNext_enum_itemD (PySem.L3X.drawsT (A := X.A.in1) (I.ok.hd hc) it a hai its.toArray) he ⟨hit, show s.heap.IsTuple a its.toArray from p⟩ hlt hne (by simp [hne, hea]) fun u' h' tk hu' ho hst' hT hsz hk => ?_
    have eu : u' = u := by
      have h1 : its[i]? = some u' := by simpa using hu'
      rw [hu] at h1
      exact (Option.some.inj h1).symm
    subst eu
    refine ⟨_, rfl, wpAny_letOwnedTupleGo_enum (s := { s with heap := h', toks := tk + 1 }) ho fun h'' he' sb => ?_⟩
    have hT2 : h''.get? s.heap.objs.size = some { cls := .type "tuple", data := .seq #[.int i tk, u'] } := (sb.2 _ (Nat.ne_of_gt hel)).trans hT
    have new : ObjOk X.prog X.w (upd H s.heap.objs.size (.tup [.int (i : Nat), x])) h'' s.heap.objs.size (.tup [.int (i : Nat), x]) :=
      ⟨by show 2 ≤ sizeLine; decide, [.int i tk, u'], .cons ⟨_, rfl⟩ (.cons ru .nil), ⟨_, hT2, rfl, _, rfl⟩⟩
    have I1 : Inv X pins σ (upd H s.heap.objs.size (.tup [.int (i : Nat), x])) { s with heap := h'', toks := tk + 1 } :=
      I.turnedNew (ch := [e, it]) (fun b ob hb q => (sb.2 b (fun z => hb (by simp [z]))).trans (hk b ob (fun z => hb (by simp [z])) (fun z => hb (by simp [z])) q)) hf (Nat.le_refl _) new
    refine ⟨.ref s.heap.objs.size, _, I1, rfl, ⟨_, x, rfl, I.hok.fresh (Nat.le_refl _), rfl, fun ys hy => by rw [I.tuple_inj hy hq]; exact hx⟩, ⟨⟨u', ?_⟩, hst'.1.at fun o q => (sb.2 it (Ne.symm hne)).trans q, hne⟩, fun b hb => ?_⟩
    · have e1 : ((i + 1 : Nat) : Int) = (i : Int) + 1 := by omega
      rw [e1]; exact he'
    · have hb' : b < s.heap.objs.size := by
        have e' : b = e ∨ b = it := by simpa using hb
        rcases e' with z | z
        · rw [z]; exact hel
        · rw [z]; exact hil
      rw [upd_ne (Nat.ne_of_lt hb')]
      exact (hf b hb).1
  done := by
    intro X hP hw hK hc i pins s σ H E I hf st hg
    subst hP hw hK
    obtain ⟨⟨old, he⟩, hit, hne⟩ := st
    obtain ⟨xs, hq, hx⟩ := hg
    obtain ⟨its, rv, p, hz⟩ := I.tuple hq
    obtain ⟨f0, f1, f2, f3, f4, f5⟩ := hf it (by simp)
    have hl := rv.length
    have hT : s.TypeIs (.ref e) "enumerate" := ⟨_, he, rfl⟩
    unfold pyNext
    refine wpAny_bind (wpAny_attempt (wpAny_callSpecial?_slot (name := Str.ofString "__next__") hT F.slot_enumerate_next
      (wpAny_call_entry F.slot_enumerate_next hT F.entry_enumerate_next ?_ (F.args_enumerate_next_1 _))))
    show wpAny _ _ (field (.ref e) 2 >>= _) _ _ _
    refine wpAny_bind (wpAny_field he rfl (x := .ref it) rfl ?_)
    refine wpAny_bind (RZ.nextOf_tuple_end (I.ok.hd hc) hit (show s.heap.IsTuple a its.toArray from p) (by simp; omega) fun h' x eb hx' => ?_)
    obtain ⟨o, ho, hcc⟩ := hx'
    refine wpAny_bind (wpAny_isInstance (T := "StopIteration") (b := true) ⟨o, ho, hcc⟩ isSubtype_stop ?_)
    exact wpAny_pure ⟨rfl, I.turned (t' := s.toks) (fun b o hb q => eb b o hb q) f0 f1 f3 f4 f5⟩
  self := fun A i s Q E st h => let ⟨⟨_, he⟩, _⟩ := st; wpAny_pyIter_enum he h
def iEnumT (K : PySem.W.Frag) (ta : TA) : TI := fun σ H R => ta σ H fun vs H1 => ∃ a xs, vs = [.ref a] ∧ SqT K H1 a xs ∧ R (IteT K a) H1
theorem pi_enumT {X : Cx} {e : Expr} {ta : TA} {p pos tpos : Pos} {elts : List Expr} {kk : Nat} (hg : Gl X "enumerate") (hm : X.mg "enumerate" = none) (ha : PA X [e] ta) (hs : starEach [e] X.env = [(false, eval e X.env)] := by rfl) :
    PI X (.Tuple elts kk tpos) (.Call (.Name "enumerate" p) [e] [] pos) (iEnumT X.K ta) := by
  refine ⟨fun pins s σ H R I h => ?_⟩
  refine Call_ (ld_blt I hg hm boot_enumerate (PyProof.Rows.callWith_type1 (thn (ha.run pos pins s σ H _ I h) fun us s1 ⟨vs, H1, I1, r1, q1⟩ => ?_) hs rfl))
  obtain ⟨a, xs, ex, hq, q⟩ := q1
  subst ex
  cases r1 with
  | cons r rr =>
    cases rr
    cases r
    obtain ⟨its, rv, p', hz⟩ := I1.tuple hq
    have hal : a < s1.heap.objs.size := by obtain ⟨_, q, _⟩ := p'; exact Heap.lt_size q
    refine PySem.L3X.call_enumT (show s1.heap.IsTuple a its.toArray from p') fun h' he hit hsz hk => wpAny_pyIter_enum he ?_
    have I2 : Inv X pins σ H1 { s1 with heap := h' } := I1.kept (t' := s1.toks) hk
    refine ⟨s1.heap.objs.size + 1, [s1.heap.objs.size + 1, s1.heap.objs.size], _, _, H1, rfl, I2, turn_enumT a (s1.heap.objs.size + 1) s1.heap.objs.size (Nat.ne_of_lt hal) (fun z => absurd hal (by rw [← z]; exact Nat.not_lt_of_le (Nat.le_succ _))), ⟨⟨.none, he⟩, hit, Nat.succ_ne_self _⟩, fun b hb => ?_, q⟩
    have e' : b = s1.heap.objs.size + 1 ∨ b = s1.heap.objs.size := by simpa using hb
    have hle : s1.heap.objs.size ≤ b := by
      rcases e' with z | z
      · rw [z]; exact Nat.le_add_right _ _
      · rw [z]; exact Nat.le_refl _
    exact I1.fpOk hle (I1.hok.fresh hle)
/-- enumerate(x) -/
def enumL (l : List D) : List D := l.mapIdx fun i d => D.tup [.int (i : Int), d]
def i_enum (fa : Ro → ER) : Ro → LR := fun ρ => match fa ρ with
  | .ok w ρ1 => match seqD (frz w) with
    | some l => .ok (enumL l) ρ1
    | none => .no
  | .ex x ρ1 => .ex x ρ1
  | .no => .no
section
variable {X : Cx} {ca : Ca} {Wx : WX} {Z S S0 S1 S2 Sw T : AS} {σ σ0 σ1 : L2.St} {H H0 H1 H2 G : Hp} {ρ ρ0 ρ1 ρ2 : Ro} {q q1 q2 q3 k k1 k2 k3 : Bool} {a b c e o tg iter : Expr} {es elts : List Expr} {fa fb fc fv fk : Ro → ER} {ga : Ro → LR} {pos pos' p p2 apos tpos : Pos} {pins : List (Addr × Obj)} {s : Shared} {pin : List Nat} {body : List Stmt} {kk : Nat}
theorem rep_pair {i : Int} {d : D} {x : V} {T : AS} {P : Addr} (hT : ∀ a, T a → H a ≠ none) (hP : H P = none) (r : RepD X.prog X.w X.K ca (hid H T) d x) : Same H (upd H P (.tup [.int i, x])) ∧ RepD X.prog X.w X.K ca (hid (upd H P (.tup [.int i, x])) T) (.tup [.int i, d]) (.ref P) :=
  ⟨same_new hP, rep_new_tup hT hP ⟨.int i, [x], rfl, rfl, x, [], rfl, r, rfl⟩⟩
theorem enumL_get {l : List D} {i : Nat} {d : D} (h : (enumL l)[i]? = some d) : ∃ d0, l[i]? = some d0 ∧ d = .tup [.int (i : Int), d0] := by
  unfold enumL at h
  rw [List.getElem?_mapIdx] at h
  obtain ⟨d0, h1, h2⟩ := Option.map_eq_some_iff.mp h
  exact ⟨d0, h1, h2.symm⟩
theorem di_enum (hm : X.mg "enumerate" = none) (ha : DB X ca Wx q k a fa) (hg : Gl X "enumerate" := by rfl) (hs : starEach [a] X.env = [(false, eval a X.env)] := by rfl) :
    DI X ca Wx q k (.Tuple elts kk tpos) (.Call (.Name "enumerate" p) [a] [] pos) (i_enum fa) := by
  have hpa := pa_cons ha.run pa_nil (by rw [hs]; rfl)
  refine ⟨((pi_enum hg hm hpa hs).or (pi_enumT hg hm hpa hs)).imp fun σ H R ⟨Z, S, ρ, fr, po⟩ => ?_⟩
  unfold i_enum at po
  cases e : fa ρ with
  | no => rw [e] at po; exact po.elim
  | ex x ρ1 => rw [e] at po; exact .inl ⟨Z, S, ρ, fr, by rw [e]; exact po⟩
  | ok w ρ1 =>
    rw [e] at po
    simp only at po
    generalize hw : frz w = d at po
    cases d with
    | lst l =>
      refine .inl ⟨Z, S, ρ, fr, ?_⟩
      rw [e]
      intro v H1 ⟨S1, n1, f1, rp⟩
      rw [hw] at rp
      have itk : ∀ {G : Hp} {a : Addr} {xs : List V}, (if k = true then SqL X.K G a xs else SqL X.K H1 a xs) → RepDs X.prog X.w X.K ca G l xs → ItD X ca (Ite X.K a) (enumL l) (Still k G H1) := by
        intro G a xs hk r H2 T ⟨sm, sm2⟩ al
        have hq : SqL X.K H2 a xs := by
          split at hk
          · exact SqL.mono (sm.trans hid_same) hk
          · rename_i h
            exact SqL.mono (sm2 (by simpa using h)) hk
        have r2 := r.mono sm
        refine ⟨fun i d ed => ?_, fun i hi => ⟨xs, hq, by rw [← r.length]; unfold enumL at hi; simpa using hi⟩⟩
        obtain ⟨d0, ed0, rfl⟩ := enumL_get ed
        obtain ⟨x, ex⟩ := r.ix ed0
        refine ⟨⟨xs, x, hq, ex⟩, fun x' H3 ⟨P, y, ev, hP, eH, hy⟩ => ?_⟩
        subst ev eH
        exact rep_pair al hP (r2.at ed0 (hy xs hq))
      unfold RepKd at rp
      cases k with
      | true =>
        rw [if_pos rfl] at rp
        obtain ⟨a, xs, rfl, h1, h2⟩ := rp
        exact ⟨a, xs, rfl, SqL.mono hid_same h1, po _ H1 ⟨S1, n1, f1, itk (by rw [if_pos rfl]; exact h1) h2⟩⟩
      | false =>
        rw [if_neg Bool.false_ne_true] at rp
        obtain ⟨a, xs, rfl, h1, h2⟩ := rp
        exact ⟨a, xs, rfl, h1, po _ H1 ⟨S1, n1, f1, itk (by rw [if_neg Bool.false_ne_true]; exact h1) h2⟩⟩
    | tup l =>
      refine .inr ⟨Z, S, ρ, fr, ?_⟩
      rw [e]
      intro v H1 ⟨S1, n1, f1, rp⟩
      rw [hw] at rp
      obtain ⟨a, xs, rfl, h1, h2⟩ := rp.bor hid_same
      refine ⟨a, xs, rfl, SqT.mono hid_same h1, po _ H1 ⟨S1, n1, f1, ?_⟩⟩
      intro H2 T ⟨sm, sm2⟩ al
      have hq : SqT X.K H2 a xs := SqT.mono (sm.trans hid_same) h1
      have r2 := h2.mono sm
      refine ⟨fun i d ed => ?_, fun i hi => ⟨xs, hq, by rw [← h2.length]; unfold enumL at hi; simpa using hi⟩⟩
      obtain ⟨d0, ed0, rfl⟩ := enumL_get ed
      obtain ⟨x, ex⟩ := h2.ix ed0
      refine ⟨⟨xs, x, hq, ex⟩, fun x' H3 ⟨P, y, ev, hP, eH, hy⟩ => ?_⟩
      subst ev eH
      exact rep_pair al hP (r2.at ed0 (hy xs hq))
    | _ => exact po.elim
end
end L3

set_option Elab.async false
set_option linter.all false
set_option maxRecDepth 100000
set_option maxHeartbeats 1000000
/-! L3w: list comprehensions. -/
namespace L3
open PySem PySem.Spec PyProof.Rows L2

def wipeR (ρ : Ro) : List Nat → Ro
  | [] => ρ
  | v :: vs => (wipeR ρ vs).set v none
def frz1 (i : Nat) (ρ : Ro) : Ro := match ρ[i]? with
  | some (some w) => ρ.set i (some (.d (frz w)))
  | _ => ρ
def frzSl : List Nat → Ro → Ro
  | [], ρ => ρ
  | v :: vs, ρ => frz1 v (frzSl vs ρ)
def restR (ρ0 : Ro) : List Nat → Ro → Ro
  | [], ρ => ρ
  | v :: vs, ρ => restR ρ0 vs (ρ.set v (ρ0.getD v none))
def compL (vs : List Nat) (t : Tg) (ft fe : Ro → ER) : List D → List D → Ro → Option (List D × Ro)
  | [], acc, ρ => some (acc, ρ)
  | d :: r, acc, ρ => match t_set t d ρ with
    | some ρ1 => match ft ρ1 with
      | .ok (.d (.bl true)) ρ2 => match fe ρ2 with
        | .ok w ρ3 => if acc.length < maxLen then compL vs t ft fe r (acc ++ [frz w]) (wipeR ρ3 vs) else none
        | _ => none
      | .ok (.d (.bl false)) ρ2 => compL vs t ft fe r acc (wipeR ρ2 vs)
      | _ => none
    | none => none
def c_comp (src : Ro → LR) (vs : List Nat) (t : Tg) (ft fe : Ro → ER) : Ro → ER := fun ρ => match src ρ with
  | .ok l ρ1 => match compL vs t ft fe l [] (wipeR (frzSl vs ρ1) vs) with
    | some (acc, ρ2) => .ok (.lst acc) (restR (frzSl vs ρ1) vs ρ2)
    | none => .no
  | .ex x ρ1 => .ex x ρ1
  | .no => .no
section
variable {P : Program} {w : World} {K : PySem.W.Frag} {cl : Nat → Addr} {G G' H H' : Hp}
theorem RepSl.none2 : {ρ : Ro} → {σ : L2.St} → {U : AS} → {i : Nat} → RepSl P w K cl G H ρ σ U → RepSl P w K cl G H (ρ.set i none) (σ.set i none) U
  | [], _, _, _, h => by rw [show _ = [] from h]; rfl
  | none :: r, _, _, 0, h => by
    obtain ⟨x, t, rfl, h1⟩ := h
    exact ⟨none, t, rfl, h1⟩
  | some y' :: r, _, _, 0, h => by
    obtain ⟨v', t, S1, S2, rfl, a1, a2, dj', h1, h2⟩ := h
    exact ⟨none, t, rfl, h2.mono (Same.refl _) a2 fun _ _ _ e => e⟩
  | none :: r, _, _, i + 1, h => by
    obtain ⟨x, t, rfl, h1⟩ := h
    exact ⟨x, _, rfl, RepSl.none2 (i := i) h1⟩
  | some y' :: r, _, _, i + 1, h => by
    obtain ⟨v', t, S1, S2, rfl, a1, a2, dj', h1, h2⟩ := h
    exact ⟨v', _, S1, S2, rfl, a1, a2, dj', h1, RepSl.none2 (i := i) h2⟩
theorem RepSl.wipe {ρ : Ro} {σ : L2.St} {U : AS} (h : RepSl P w K cl G H ρ σ U) : ∀ vs, RepSl P w K cl G H (wipeR ρ vs) (L2.wipe σ vs) U
  | [] => h
  | v :: vs => (RepSl.wipe h vs).none2
/-- a slot's data comes back -/
theorem RepSl.unset {ρ : Ro} {τ : L2.St} {U : AS} {i : Nat} {y : Option W} (h : RepSl P w K cl G H ρ (τ.set i none) U) (hy : ∀ z, y = some z → ∃ d x, z = .d d ∧ τ[i]? = some (some x) ∧ RepD P w K cl G d x) : RepSl P w K cl G H (ρ.set i y) τ U := by
  induction τ generalizing ρ i U with
  | nil =>
    have e : ρ = [] := by
      have := h.len
      simpa using this
    subst e
    rfl
  | cons s τ ih =>
    cases i with
    | zero =>
      cases ρ with
      | nil => have := h.len; simp at this
      | cons r ρ =>
        have base : RepSl P w K cl G H ρ τ U := by
          cases r with
          | none =>
            obtain ⟨x, t, e, h1⟩ := h
            cases e
            exact h1
          | some z =>
            obtain ⟨v', t, S1, S2, e, _⟩ := h
            cases e
        cases y with
        | none => exact ⟨s, τ, rfl, base⟩
        | some z =>
          obtain ⟨d, x, rfl, e, rx⟩ := hy z rfl
          simp at e
          subst e
          exact ⟨x, τ, emp, U, rfl, fun _ z => z.elim, fun _ z => z, fun _ z => z.elim, rx, base⟩
    | succ i =>
      cases ρ with
      | nil => have := h.len; simp at this
      | cons r ρ =>
        have hy' : ∀ z, y = some z → ∃ d x, z = .d d ∧ τ[i]? = some (some x) ∧ RepD P w K cl G d x := fun z e => by
          obtain ⟨d, x, e1, e2, e3⟩ := hy z e
          exact ⟨d, x, e1, by simpa using e2, e3⟩
        cases r with
        | none =>
          obtain ⟨x, t, e, h1⟩ := h
          cases e
          exact ⟨s, _, rfl, ih h1 hy'⟩
        | some z =>
          obtain ⟨v', t, S1, S2, e, a1, a2, dj', h1, h2⟩ := h
          cases e
          exact ⟨v', _, S1, S2, rfl, a1, a2, dj', h1, ih h2 hy'⟩
theorem wipe_out {σ : L2.St} {i : Nat} : ∀ {vs : List Nat}, i ∉ vs → (L2.wipe σ vs)[i]? = σ[i]?
  | [], _ => rfl
  | v :: vs, h => by
    unfold L2.wipe
    rw [List.mem_cons, not_or] at h
    rw [List.getElem?_set_ne (fun e => h.1 e.symm), wipe_out h.2]
theorem RepSl.rest {ρ0 ρ : Ro} {σ : L2.St} {U : AS} : ∀ {vs : List Nat}, vs.Nodup → (∀ v ∈ vs, ∀ z, ρ0.getD v none = some z → ∃ d x, z = .d d ∧ σ[v]? = some (some x) ∧ RepD P w K cl G d x) → RepSl P w K cl G H ρ (L2.wipe σ vs) U → RepSl P w K cl G H (restR ρ0 vs ρ) σ U
  | [], _, _, h => h
  | v :: vs, nd, hy, h => by
    rw [List.nodup_cons] at nd
    unfold restR
    refine RepSl.rest nd.2 (fun u hu => hy u (List.mem_cons_of_mem _ hu)) (RepSl.unset (τ := L2.wipe σ vs) h fun z e => ?_)
    obtain ⟨d, x, e1, e2, e3⟩ := hy v List.mem_cons_self z e
    exact ⟨d, x, e1, by rw [wipe_out nd.1]; exact e2, e3⟩
end
section
variable {X : Cx} {ca : Ca} {Wx : WX} {Z S S0 S1 S2 Sw T : AS} {σ σ0 σ1 : L2.St} {H H0 H1 H2 G : Hp} {ρ ρ0 ρ1 ρ2 : Ro} {q q1 q2 q3 qs qt qe k k1 k2 k3 : Bool} {a b c e o tg iter elt : Expr} {es elts ifs : List Expr} {fa fb fc fv fk ft fe : Ro → ER} {ga src : Ro → LR} {pos pos' p p2 apos tpos : Pos} {pins : List (Addr × Obj)} {s : Shared} {pin : List Nat} {n : Nat}
theorem Fr.frz1 (fr : Fr X ca Z S ρ σ H) (i : Nat) : ∃ S', sub S' S ∧ Fr X ca Z S' (L3.frz1 i ρ) σ H := by
  unfold L3.frz1
  split
  · rename_i w hw
    obtain ⟨v, T, U, e1, a1, a2, dj, e3, e4⟩ := fr.rep.take hw
    have hl : i < ρ.length := (List.getElem?_eq_some_iff.mp hw).1
    have sm : Same (hid H (un Z S)) (hid H (un Z U)) := hid_anti fun a z => z.elim .inl fun z => .inr (a2 a z)
    have rd : RepD X.prog X.w X.K ca (hid H (un Z U)) (frz w) v := e3.freeze sm fun a o z e => hid_some.mpr ⟨e, fun y => y.elim (fun y => fr.dj a y (a1 a z)) fun y => dj a z y⟩
    have e5 := (e4.mono sm (fun _ z => z) (fun _ _ _ e => e)).put (T := emp) (y := .d (frz w)) hl e1 (fun _ z => z.elim) rd
    exact ⟨U, a2, fun a z y => fr.dj a z (a2 a y), fr.az, fun a z => fr.as a (a2 a z), e5.mono (Same.refl _) (fun a z => z.elim (fun z => z.elim) id) fun _ _ _ e => e, ca.km0 sm fr.kp⟩
  · exact ⟨S, fun _ z => z, fr⟩
theorem Fr.frzSl (fr : Fr X ca Z S ρ σ H) : ∀ vs : List Nat, ∃ S', sub S' S ∧ Fr X ca Z S' (L3.frzSl vs ρ) σ H
  | [] => ⟨S, fun _ z => z, fr⟩
  | v :: vs => by
    obtain ⟨S1, a1, f1⟩ := Fr.frzSl fr vs
    obtain ⟨S2, a2, f2⟩ := f1.frz1 v
    exact ⟨S2, fun b z => a1 b (a2 b z), f2⟩
theorem frz1_len {i : Nat} {ρ : Ro} : (frz1 i ρ).length = ρ.length := by
  unfold frz1
  split
  · rw [List.length_set]
  · rfl
theorem frz1_data {i j : Nat} {ρ : Ro} {z : W} (h : (frz1 i ρ).getD j none = some z) (hj : j = i ∨ ∃ d, ρ.getD j none = some (.d d)) : ∃ d, z = .d d := by
  unfold frz1 at h
  split at h
  · rename_i w hw
    rw [List.getD_eq_getElem?_getD] at h
    by_cases e : i = j
    · subst e
      rw [List.getElem?_set_self (List.getElem?_eq_some_iff.mp hw).1] at h
      exact ⟨_, (Option.some.inj h).symm⟩
    · rw [List.getElem?_set_ne e] at h
      rcases hj with rfl | ⟨d, hd⟩
      · exact absurd rfl e
      · rw [List.getD_eq_getElem?_getD] at hd
        rw [hd] at h
        exact ⟨d, (Option.some.inj h).symm⟩
  · rename_i hn
    rcases hj with rfl | ⟨d, hd⟩
    · rw [List.getD_eq_getElem?_getD] at h
      cases e : ρ[j]? with
      | none => rw [e] at h; cases h
      | some o =>
        rw [e] at h
        have h' : o = some z := h
        rw [h'] at e
        exact absurd e (hn z)
    · rw [hd] at h
      exact ⟨d, (Option.some.inj h).symm⟩
theorem frzSl_data {j : Nat} {ρ : Ro} {z : W} : ∀ {vs : List Nat}, j ∈ vs → (frzSl vs ρ).getD j none = some z → ∃ d, z = .d d
  | [], h, _ => by cases h
  | v :: vs, h, e => by
    unfold frzSl at e
    by_cases hj : j = v
    · exact frz1_data e (.inl hj)
    · have hm : j ∈ vs := (List.mem_cons.mp h).resolve_left hj
      have e0 : (frzSl vs ρ).getD j none = some z := by
        unfold frz1 at e
        split at e
        · rw [List.getD_eq_getElem?_getD, List.getElem?_set_ne (fun z => hj z.symm), ← List.getD_eq_getElem?_getD] at e
          exact e
        · exact e
      exact frzSl_data hm e0
/-- the tests of a comprehension -/
structure DTs (X : Cx) (ca : Ca) (Wx : WX) (q : Bool) (es : List Expr) (f : Ro → ER) : Prop where
  run : PTs X es fun σ H Q => ∃ Z S ρ, Fr X ca Z S ρ σ H ∧ PoT X ca Wx q Z S σ H (f ρ) Q
def c_yes : Ro → ER := fun ρ => .ok (.d (.bl true)) ρ
theorem _root_.L2.PTs.imp {t t' : TT} (h : PTs X es t) (i : ∀ σ H Q, t' σ H Q → t σ H Q) : PTs X es t' := ⟨fun pins s σ H Q I q => h.run pins s σ H Q I (i _ _ _ q)⟩
theorem dts_nil : DTs X ca Wx true [] c_yes := ⟨pts_nil.imp fun σ H Q ⟨Z, S, ρ, fr, po⟩ => po H ⟨S, Nx.refl fr.as, fr⟩⟩
theorem dts_one (h : DT X ca Wx q c fc) : DTs X ca Wx q [c] fc := ⟨pts_one h.run⟩
/-- the frame, a further object set apart -/
theorem Fr.apart {D : Addr} {o : HO} (fr : Fr X ca Z S ρ σ H) (hD : H D = none) : Fr X ca (un Z fun b => b = D) S ρ σ (upd H D o) := by
  have sm : Same H (upd H D o) := same_new hD
  have g : Same (hid H (un Z S)) (hid (upd H D o) (un (un Z fun b => b = D) S)) := fun b u e => by
    rw [hid_some] at *
    refine ⟨sm b u e.1, fun z => ?_⟩
    rcases z with (z | z) | z
    · exact e.2 (.inl z)
    · rw [z, hD] at e; cases e.1
    · exact e.2 (.inr z)
  refine ⟨fun b z y => z.elim (fun z => fr.dj b z y) fun z => fr.as b y (by rw [z]; exact hD), fun b z => z.elim (fun z => Same.ne sm (fr.az b z)) fun z => by rw [z, upd_same]; simp, fun b z => Same.ne sm (fr.as b z), fr.rep.mono g (fun _ z => z) (fun b u _ e => sm b u e), ca.km0 g fr.kp⟩
/-- what is set apart may be changed -/
theorem hid_upd {D : Addr} {o : HO} {T : AS} (h : T D) : hid (upd H D o) T = hid H T := by
  funext b
  unfold hid
  split
  · rfl
  · rename_i n
    rw [upd_ne (fun z => n (by rw [z]; exact h))]
theorem Fr.chg {D : Addr} {o : HO} (fr : Fr X ca Z S ρ σ H) (hD : Z D) : Fr X ca Z S ρ σ (upd H D o) := by
  have nS : ∀ b, S b → b ≠ D := fun b z e => fr.dj D hD (e ▸ z)
  have g : hid (upd H D o) (un Z S) = hid H (un Z S) := hid_upd (.inl hD)
  refine ⟨fr.dj, fun b z => ?_, fun b z => by rw [upd_ne (nS b z)]; exact fr.as b z, ?_, by rw [g]; exact fr.kp⟩
  · by_cases e : b = D
    · rw [e, upd_same]; simp
    · rw [upd_ne e]; exact fr.az b z
  · rw [g]
    exact fr.rep.mono (Same.refl _) (fun _ z => z) fun b u z e => by rw [upd_ne (nS b z)]; exact e
/-- the state while a list is being made at L -/
structure MkL (X : Cx) (ca : Ca) (Z S1 : AS) (H1 : Hp) (q : Bool) (τ : L2.St) (L : Addr) (acc : List D) (ρ' : Ro) (S' : AS) (H : Hp) : Prop where
  keep : ∀ b o, ¬ S1 b → H1 b = some o → H b = some o
  own : ∀ b, S' b → S1 b ∨ H1 b = none
  qt : q = true → Same H1 H
  fr : Fr X ca (un Z fun b => b = L) S' ρ' τ H
  lst : ∃ xs, H L = some (.lst xs) ∧ RepDs X.prog X.w X.K ca (hid H (un (un Z fun b => b = L) S')) acc xs
theorem MkL.step {τ τ2 : L2.St} {L : Addr} {acc : List D} {S' S2 : AS} (m : MkL X ca Z S1 H1 q τ L acc ρ1 S' H) (n : Nx S' H q2 S2 H2) (h : q = true → q2 = true) (f : Fr X ca (un Z fun b => b = L) S2 ρ2 τ2 H2) : MkL X ca Z S1 H1 q τ2 L acc ρ2 S2 H2 where
  keep := fun b o hb e => n.keep b o (fun z => (m.own b z).elim hb fun nn => by rw [e] at nn; cases nn) (m.keep b o hb e)
  own := fun b z => (n.own b z).elim (m.own b) fun nn => by
    by_cases hb : S1 b
    · exact .inl hb
    · cases e : H1 b with
      | none => exact .inr rfl
      | some o => rw [m.keep b o hb e] at nn; cases nn
  qt := fun z => (m.qt z).trans (n.qt (h z))
  fr := f
  lst := by
    obtain ⟨xs, e, r⟩ := m.lst
    exact ⟨xs, n.keep L _ (fun z => m.fr.dj L (.inr rfl) z) e, r.mono n.hid⟩
theorem MkL.snoc {τ : L2.St} {L : Addr} {acc : List D} {S' : AS} {d : D} {v : V} (hL : H1 L = none) (m : MkL X ca Z S1 H1 q τ L acc ρ1 S' H) (r : RepD X.prog X.w X.K ca (hid H (un (un Z fun b => b = L) S')) d v) : ∃ xs, H L = some (.lst xs) ∧ xs.length = acc.length ∧ MkL X ca Z S1 H1 q τ L (acc ++ [d]) ρ1 S' (upd H L (.lst (xs ++ [v]))) := by
  obtain ⟨xs, e, rs⟩ := m.lst
  have g : hid (upd H L (.lst (xs ++ [v]))) (un (un Z fun b => b = L) S') = hid H (un (un Z fun b => b = L) S') := hid_upd (.inl (.inr rfl))
  refine ⟨xs, e, rs.length.symm, ⟨fun b o hb e => ?_, m.own, fun z b o e => ?_, m.fr.chg (.inr rfl), xs ++ [v], upd_same, by rw [g]; exact rs.snoc r⟩⟩
  · have : b ≠ L := fun z => by rw [z, hL] at e; cases e
    rw [upd_ne this]; exact m.keep b o hb e
  · have : b ≠ L := fun z => by rw [z, hL] at e; cases e
    rw [upd_ne this]; exact m.qt z b o e
theorem kp_wipe {τ : L2.St} {G : Hp} (h : ca.kp τ G) : ∀ {vs : List Nat}, (∀ i ∈ vs, i ∉ ca.ks) → ca.kp (L2.wipe τ vs) G
  | [], _ => h
  | v :: vs, hk => ca.kmS (hk v List.mem_cons_self) (kp_wipe h fun i hi => hk i (List.mem_cons_of_mem _ hi))
theorem Fr.wipe {τ : L2.St} (fr : Fr X ca Z S ρ τ H) (vs : List Nat) (hk : ∀ i ∈ vs, i ∉ ca.ks) : Fr X ca Z S (wipeR ρ vs) (L2.wipe τ vs) H := ⟨fr.dj, fr.az, fr.as, fr.rep.wipe vs, kp_wipe fr.kp hk⟩
theorem MkL.wipe {τ : L2.St} {L : Addr} {acc : List D} {S' : AS} (m : MkL X ca Z S1 H1 q τ L acc ρ1 S' H) (vs : List Nat) (hk : ∀ i ∈ vs, i ∉ ca.ks) : MkL X ca Z S1 H1 q (L2.wipe τ vs) L acc (wipeR ρ1 vs) S' H := ⟨m.keep, m.own, m.qt, m.fr.wipe vs hk, m.lst⟩
mutual
theorem t_set_len : (t : Tg) → {d : D} → {ρ ρ' : Ro} → t_set t d ρ = some ρ' → ρ'.length = ρ.length
  | .name i, d, ρ, ρ', h => by
    unfold t_set at h
    cases h
    rw [List.length_set]
  | .tup l, d, ρ, ρ', h => by
    unfold t_set at h
    split at h
    · exact t_sets_len l h
    · cases h
termination_by structural x => x
theorem t_sets_len : (l : List Tg) → {ds : List D} → {ρ ρ' : Ro} → t_sets l ds ρ = some ρ' → ρ'.length = ρ.length
  | [], [], ρ, ρ', h => by unfold t_sets at h; cases h; rfl
  | [], _ :: _, ρ, ρ', h => by unfold t_sets at h; cases h
  | _ :: _, [], ρ, ρ', h => by unfold t_sets at h; cases h
  | t :: r, d :: s, ρ, ρ', h => by
    unfold t_sets at h
    split at h
    · rename_i ρ1 e
      rw [t_sets_len r h, t_set_len t e]
    · cases h
termination_by structural x => x
end
theorem wipe_in {σ : L2.St} {i : Nat} : ∀ {vs : List Nat}, i ∈ vs → i < σ.length → (L2.wipe σ vs)[i]? = some none
  | [], h, _ => by cases h
  | v :: vs, h, hl => by
    unfold L2.wipe
    by_cases e : v = i
    · subst e
      rw [List.getElem?_set_self (by rw [wipe_length]; exact hl)]
    · rw [List.getElem?_set_ne e]
      exact wipe_in ((List.mem_cons.mp h).resolve_left fun z => e z.symm) hl
theorem wipe_pin {σ σ2 : L2.St} {vs : List Nat} (hl : σ2.length = σ.length) (hp : ∀ i, i < σ.length → i ∉ vs → i ∈ pin) (h : Pn pin (L2.wipe σ vs) σ2) : L2.wipe σ2 vs = L2.wipe σ vs := by
  apply List.ext_getElem?
  intro i
  by_cases hi : i < σ.length
  · by_cases hv : i ∈ vs
    · rw [wipe_in hv hi, wipe_in hv (by rw [hl]; exact hi)]
    · rw [wipe_out hv, h i (hp i hi hv)]
  · rw [List.getElem?_eq_none (by rw [wipe_length, hl]; omega), List.getElem?_eq_none (by rw [wipe_length]; omega)]
/-- the reading of [elt for tg in iter if ..] -/
theorem comp_read {t : Tg} {vs pinc : List Nat} {Q : VK} (hσ : σ.length = n) (hnd : vs.Nodup) (hkv : ∀ i ∈ vs, i ∉ ca.ks) (hpin : ∀ i, i < n → i ∉ vs → i ∈ pinc) (hq : k = true ∨ (qt && qe) = true) (fr : Fr X ca Z S ρ σ H) (po : PoE X ca Wx (qs && (qt && qe)) Z S σ H (c_comp src vs t ft fe ρ) Q) :
    tLc (fun σ H R => ∃ Z S ρ, Fr X ca Z S ρ σ H ∧ PoI X ca Wx qs k Z S σ H (src ρ) R) (fun v σ H Q => ∃ Z S ρ d ρ', Fr X ca Z S ρ σ H ∧ RepD X.prog X.w X.K ca (hid H (un Z S)) d v ∧ t_set t d ρ = some ρ' ∧ ∀ σ' H', OKG X ca pinc Z S H σ ρ' σ' H' → Q σ' H')
      (fun σ H Q => ∃ Z S ρ, Fr X ca Z S ρ σ H ∧ PoT X ca (fun _ _ _ _ => False) qt Z S σ H (ft ρ) Q) (fun σ H Q => ∃ Z S ρ, Fr X ca Z S ρ σ H ∧ PoB X ca (fun _ _ _ _ => False) qe true Z S σ H (fe ρ) Q) vs σ H Q := by
  refine ⟨Z, S, ρ, fr, ?_⟩
  unfold c_comp at po
  cases e0 : src ρ with
  | no => rw [e0] at po; exact po
  | ex x ρ1 => rw [e0] at po; exact po
  | ok l ρ1 =>
    rw [e0] at po
    intro J H1 ⟨S1, n1, f1, it⟩ L hL
    simp only at po
    cases ec : compL vs t ft fe l [] (wipeR (frzSl vs ρ1) vs) with
    | none => rw [ec] at po; exact po.elim
    | some r =>
      obtain ⟨accF, ρF⟩ := r
      rw [ec] at po
      obtain ⟨S1', sb, f1'⟩ := f1.frzSl vs
      have f1w := f1'.wipe vs hkv
      refine ⟨fun i m H => m = l.length - i ∧ i ≤ l.length ∧ ∃ S' acc ρ', MkL X ca Z S1' H1 (qt && qe) (L2.wipe σ vs) L acc ρ' S' H ∧ compL vs t ft fe (l.drop i) acc ρ' = some (accF, ρF), ⟨l.length, by simp, Nat.zero_le _, S1', [], _, ⟨fun b o _ e => same_new hL b o e, fun b z => .inl z, fun _ => same_new hL, f1w.apart hL, [], upd_same, rfl⟩, ec⟩, ?_⟩
      rintro i m H5 ⟨rfl, hi, S', acc, ρ', mk, ec'⟩
      have stl : Still k (hid H1 (un Z S1)) H1 H5 (un (un Z fun b => b = L) S') := by
        refine ⟨fun b o e => ?_, fun hk => mk.qt (hq.resolve_left (by rw [hk]; decide))⟩
        rw [hid_some] at *
        have nS : ¬ S1' b := fun z => e.2 (.inr (sb b z))
        refine ⟨mk.keep b o nS e.1, fun z => ?_⟩
        rcases z with (z | z) | z
        · exact e.2 (.inl z)
        · rw [z, hL] at e; cases e.1
        · exact (mk.own b z).elim nS fun nn => by rw [e.1] at nn; cases nn
      obtain ⟨it1, it2⟩ := it H5 _ stl mk.fr.al
      by_cases hlt : i < l.length
      · have ed : l[i]? = some l[i] := by simp [hlt]
        rw [List.drop_eq_getElem_cons hlt] at ec'
        unfold compL at ec'
        cases et : t_set t l[i] ρ' with
        | none => rw [et] at ec'; cases ec'
        | some ρ2 =>
          rw [et] at ec'
          simp only at ec'
          obtain ⟨hgo, hy⟩ := it1 i _ ed
          refine .inr ⟨hgo, fun H' => i + 1 ≤ l.length ∧ ∃ S' acc ρ', MkL X ca Z S1' H1 (qt && qe) (L2.wipe σ vs) L acc ρ' S' H' ∧ compL vs t ft fe (l.drop (i + 1)) acc ρ' = some (accF, ρF), fun H' ⟨w1, w2⟩ => ⟨l.length - (i + 1), by omega, rfl, w1, w2⟩, fun x H3 y => ?_⟩
          obtain ⟨sm, rx⟩ := hy x H3 y
          have nsm : Nx S' H5 true S' H3 := Nx.same sm mk.fr.as
          have mk3 := mk.step nsm (fun _ => rfl) (mk.fr.same sm)
          refine ⟨un Z fun b => b = L, S', ρ', l[i], ρ2, mk3.fr, rx, et, fun σ4 H4 ⟨S4, n4, f4, p4⟩ => ?_⟩
          have hl4 : σ4.length = σ.length := by
            have h1 := f4.rep.len
            have h2 := mk3.fr.rep.len
            rw [wipe_length] at h2
            rw [← h1, t_set_len t et, h2]
          have hw : L2.wipe σ4 vs = L2.wipe σ vs := by
            have hpw : Pn pinc (L2.wipe σ vs) σ4 := p4
            exact wipe_pin hl4 (fun j hj hv => hpin j (by rw [← hσ]; exact hj) hv) hpw
          have mk4 := mk3.step n4 (fun _ => rfl) f4
          refine ⟨hw, un Z fun b => b = L, S4, ρ2, f4, ?_⟩
          cases e6 : ft ρ2 with
          | no => rw [e6] at ec'; cases ec'
          | ex _ _ => rw [e6] at ec'; cases ec'
          | ok wt ρ3 =>
            rw [e6] at ec'
            cases wt with
            | d dt =>
              cases dt <;> first | cases ec' | skip
              rename_i bt
              intro H6 ⟨S6, n6, f6⟩
              have mk6 := mk4.step n6 (fun z => (Bool.and_eq_true_iff.mp z).1) f6
              cases bt with
              | false =>
                simp only at ec'
                rw [if_neg Bool.false_ne_true]
                have mw := mk6.wipe vs hkv
                rw [hw] at mw
                exact ⟨hlt, S6, acc, _, mw, ec'⟩
              | true =>
                simp only at ec'
                rw [if_pos rfl]
                refine ⟨un Z fun b => b = L, S6, ρ3, f6, ?_⟩
                cases e7 : fe ρ3 with
                | no => rw [e7] at ec'; cases ec'
                | ex _ _ => rw [e7] at ec'; cases ec'
                | ok we ρ4 =>
                  rw [e7] at ec'
                  simp only at ec'
                  split at ec'
                  · rename_i hz
                    intro v H7 ⟨S7, n7, f7, r7⟩
                    have mk7 := mk6.step n7 (fun z => (Bool.and_eq_true_iff.mp z).2) f7
                    obtain ⟨xs, hx, hxl, mk8⟩ := mk7.snoc hL r7.d
                    rw [maxLen_eq] at hz
                    have mw := mk8.wipe vs hkv
                    rw [hw] at mw
                    exact ⟨xs, hx, by rw [hxl]; exact hz, hlt, S7, _, _, mw, ec'⟩
                  · cases ec'
            | _ => cases ec'
      · have e1 : i = l.length := by omega
        subst e1
        rw [List.drop_eq_nil_of_le (Nat.le_refl _)] at ec'
        unfold compL at ec'
        cases ec'
        have nS : ∀ b, S' b → S1 b ∨ H1 b = none := fun b z => (mk.own b z).imp_left (sb b)
        have hh : ∀ b, S1 b ∨ H1 b = none → S b ∨ H b = none := fun b z => z.elim (n1.own b) fun nn => by
          by_cases hb : S b
          · exact .inl hb
          · exact .inr (n1.free nn hb)
        have eG : hid H5 (un Z (un S' fun b => b = L)) = hid H5 (un (un Z fun b => b = L) S') := hid_congr fun a => by
          simp only [un]
          constructor
          · rintro (h | h | h) <;> simp [h]
          · rintro ((h | h) | h) <;> simp [h]
        have gm : Same (hid H1 (un Z S1')) (hid H5 (un (un Z fun b => b = L) S')) := fun b o e => by
          rw [hid_some] at *
          have nSb : ¬ S1' b := fun z => e.2 (.inr z)
          refine ⟨mk.keep b o nSb e.1, fun z => ?_⟩
          rcases z with (z | z) | z
          · exact e.2 (.inl z)
          · rw [z, hL] at e; cases e.1
          · exact (mk.own b z).elim nSb fun nn => by rw [e.1] at nn; cases nn
        obtain ⟨xs, hxs, rxs⟩ := mk.lst
        refine .inl ⟨it2 _ (Nat.le_refl _), po _ H5 ⟨S', (fun b => b = L), ⟨fun b o hb e => ?_, fun b z => ?_, fun b z => ?_, fun z => ?_⟩, fun b z y => mk.fr.dj b (.inr y) z, ?_, ?_⟩⟩
        · have h1 := n1.keep b o hb e
          exact mk.keep b o (fun z => (n1.own b (sb b z)).elim hb fun nn => by rw [e] at nn; cases nn) h1
        · exact z.elim (fun z => hh b (nS b z)) fun z => hh b (.inr (by rw [z]; exact hL))
        · exact z.elim (fun z => mk.fr.as b z) fun z => by rw [z, hxs]; simp
        · rw [Bool.and_eq_true] at z
          exact (n1.qt z.1).trans (mk.qt z.2)
        · rw [eG]
          refine RepSl.rest hnd (fun v hv z ez => ?_) mk.fr.rep
          obtain ⟨d, rfl⟩ := frzSl_data hv ez
          have ez' : (frzSl vs ρ1)[v]? = some (some (.d d)) := by
            rw [List.getD_eq_getElem?_getD] at ez
            cases e9 : (frzSl vs ρ1)[v]? with
            | none => rw [e9] at ez; cases ez
            | some o =>
              rw [e9] at ez
              have : o = some (.d d) := ez
              rw [this]
          obtain ⟨x, T9, ex, _, rx⟩ := f1'.rep.get ez'
          exact ⟨d, x, rfl, ex, RepD.mono gm d rx⟩
        · rw [eG]
          exact ⟨L, xs, rfl, rfl, hxs, rxs⟩
/-- [elt for tg in iter if ..] -/
theorem de_comp {t : Tg} {scope : Scope} {own : List (Str × Nat)} {vs pinc : List Nat} (hc : X.calm = true) (hN : X.N.Nodup) (hi : DI X ca Wx qs k tg iter src) (ok : BlkOk X.N X.env.scope scope own)
    (hg : ∀ (s : Shared) (H : Hp) (C : Addr) (cl : List (Str × Addr)) (fp : List Addr), DG (X.blk s H scope (compEnvC scope cl C X.env) fp) ca pinc tg t)
    (ht : ∀ (s : Shared) (H : Hp) (C : Addr) (cl : List (Str × Addr)) (fp : List Addr), DTs (X.blk s H scope (compEnvC scope cl C X.env) fp) ca (fun _ _ _ _ => False) qt ifs ft)
    (he : ∀ (s : Shared) (H : Hp) (C : Addr) (cl : List (Str × Addr)) (fp : List Addr), DB (X.blk s H scope (compEnvC scope cl C X.env) fp) ca (fun _ _ _ _ => False) qe true elt fe)
    (hvs : own.map (·.2) = vs := by rfl) (hnd : vs.Nodup := by decide) (hkv : ∀ i ∈ vs, i ∉ ca.ks := by first | exact fun _ _ => List.not_mem_nil | exact ksv (by decide)) (hpin : ∀ i, i < n → i ∉ vs → i ∈ pinc := by decide) (hlen : X.N.length = n := by rfl) (hq : k = true ∨ (qt && qe) = true := by first | exact .inl rfl | exact .inr rfl) (hs : ∀ x, foldedSetIterable iter X.env x = pure x := by intro _; rfl) :
    DE X ca Wx (qs && (qt && qe)) (.ListComp elt [⟨tg, iter, ifs, 0⟩] scope pos) (c_comp src vs t ft fe) := by
  subst hvs
  refine ⟨⟨fun pins s σ H Q I ⟨Z, S, ρ, fr, po⟩ => ?_⟩⟩
  exact (pe_lc hc hN hi.run ok (fun s H C cl fp => (hg s H C cl fp).run) (fun s H C cl fp => (ht s H C cl fp).run) (fun s H C cl fp => (he s H C cl fp).run) hs).run pins s σ H Q I (comp_read (by rw [I.len, hlen]) hnd hkv hpin hq fr po)
/-- name = [..] on one line -/
theorem ds_setLc {i : Nat} {y : Str} {py spos : Pos} {t : Tg} {scope : Scope} {own : List (Str × Nat)} {vs pinc : List Nat} (hc : X.calm = true) (hN : X.N.Nodup) (hy : X.N[i]? = some y) (hyl : X.env.scope.names.lookup y = some .local) (hi : DI X ca Wx qs k tg iter src) (ok : BlkOk X.N X.env.scope scope own)
    (hg : ∀ (s : Shared) (H : Hp) (C : Addr) (cl : List (Str × Addr)) (fp : List Addr), DG (X.blk s H scope (compEnvC scope cl C X.env) fp) ca pinc tg t)
    (ht : ∀ (s : Shared) (H : Hp) (C : Addr) (cl : List (Str × Addr)) (fp : List Addr), DTs (X.blk s H scope (compEnvC scope cl C X.env) fp) ca (fun _ _ _ _ => False) qt ifs ft)
    (he : ∀ (s : Shared) (H : Hp) (C : Addr) (cl : List (Str × Addr)) (fp : List Addr), DB (X.blk s H scope (compEnvC scope cl C X.env) fp) ca (fun _ _ _ _ => False) qe true elt fe)
    (hpn : i ∉ pin := by decide) (hks : i ∉ ca.ks := by first | exact List.not_mem_nil | exact ks1 (by decide)) (hsw : swapsWith (.ListComp elt [⟨tg, iter, ifs, 0⟩] scope pos) (some (.Name y py)) spos.line X.env = pure true := by exact sw_true rfl rfl rfl rfl)
    (hvs : own.map (·.2) = vs := by rfl) (hnd : vs.Nodup := by decide) (hkv : ∀ i ∈ vs, i ∉ ca.ks := by first | exact fun _ _ => List.not_mem_nil | exact ksv (by decide)) (hpin : ∀ i, i < n → i ∉ vs → i ∈ pinc := by decide) (hlen : X.N.length = n := by rfl) (hq : k = true ∨ (qt && qe) = true := by first | exact .inl rfl | exact .inr rfl) (hs : ∀ x, foldedSetIterable iter X.env x = pure x := by intro _; rfl) :
    DS X ca Wx pin (.Assign [.Name y py] (.ListComp elt [⟨tg, iter, ifs, 0⟩] scope pos) spos) (s_set i (c_comp src vs t ft fe)) := by
  subst hvs
  refine ⟨⟨fun pins s σ H D I ⟨Z, S, ρ, fr, po⟩ => ?_⟩⟩
  refine (ps_setLc (g := fun v σ H Q => ∃ Z S ρ d ρ', Fr X ca Z S ρ σ H ∧ RepD X.prog X.w X.K ca (hid H (un Z S)) d v ∧ t_set t d ρ = some ρ' ∧ ∀ σ' H', OKG X ca pinc Z S H σ ρ' σ' H' → Q σ' H') (tt := fun σ H Q => ∃ Z S ρ, Fr X ca Z S ρ σ H ∧ PoT X ca (fun _ _ _ _ => False) qt Z S σ H (ft ρ) Q) (te := fun σ H Q => ∃ Z S ρ, Fr X ca Z S ρ σ H ∧ PoB X ca (fun _ _ _ _ => False) qe true Z S σ H (fe ρ) Q) hc hN hy hyl hsw hi.run ok (fun s H C cl fp => (hg s H C cl fp).run) (fun s H C cl fp => (ht s H C cl fp).run) (fun s H C cl fp => (he s H C cl fp).run) hs).run pins s σ H D I ?_
  refine comp_read (Q := fun x H1 => D.nx (σ.set i (some x)) H1) (by rw [I.len, hlen]) hnd hkv hpin hq fr ?_
  unfold s_set at po
  cases e : c_comp src (own.map (·.2)) t ft fe ρ with
  | ok w ρ1 => rw [e] at po; exact fun v H' o => po _ H' (oke_store fr o hpn hks)
  | ex x ρ1 => rw [e] at po; exact fun cls d H' o => po cls d σ H' o.x
  | no => rw [e] at po; exact po
end
end L3

set_option Elab.async false
set_option linter.all false
set_option maxRecDepth 100000
set_option maxHeartbeats 1000000
/-! L3x: raise, try. -/
namespace L3
open PySem PySem.Spec PyProof.Rows L2

/-- raise C(..): fs the fields, in the parameters' order -/
def s_raise (C : Nat) (fs : List Str) (gl : Ro → LR) : Ro → SR := fun ρ => match gl ρ with
  | .ok ds ρ1 => if ds.length = fs.length then .ex ⟨C, fs, ds⟩ ρ1 else .no
  | .ex x ρ1 => .ex x ρ1
  | .no => .no
/-- behind a suite: the clause's name goes -/
def s_off (i : Option Nat) (r : SR) : SR := match i with
  | none => (match r with | .ex _ _ => .no | r => r)
  | some i => match r with
    | .nx ρ => .nx (ρ.set i none)
    | .br ρ => .br (ρ.set i none)
    | .ct ρ => .ct (ρ.set i none)
    | .rt w ρ => .rt w ρ
    | .ex _ _ => .no
    | .no => .no
def s_try (sub : Nat → Option Bool) (fb : Ro → SR) (i : Option Nat) (g : Ex → Ro → SR) : Ro → SR := fun ρ => match fb ρ with
  | .ex x ρ1 => match sub x.C with
    | some true => match i with
      | some i => if i < ρ1.length then s_off (some i) (g x (ρ1.set i none)) else .no
      | none => s_off none (g x ρ1)
    | some false => .ex x ρ1
    | none => .no
  | r => r
def c_xfld (xt : Nat → Bool) (x : Ex) (f : Str) : Ro → ER := fun ρ => if xt x.C = true then match getf x.fs x.vs f with
  | some d => .ok (.d d) ρ
  | none => .no
  else .no
section
variable {X : Cx} {ca : Ca} {Wx : WX} {Z S S0 S1 S2 Sw T : AS} {σ σ0 σ1 : L2.St} {H H0 H1 H2 G : Hp} {ρ ρ0 ρ1 ρ2 : Ro} {q q1 q2 q3 k k1 k2 k3 : Bool} {a b c e o tg : Expr} {es : List Expr} {fa fb fc fo : Ro → ER} {gl : Ro → LR} {pos pos' p p2 np apos tpos : Pos} {pins : List (Addr × Obj)} {s : Shared} {pin : List Nat} {body suite : List Stmt} {b₀ : Stmt} {kk n : Nat}

/-! ### try -/
/-- the suite's frame keeps the exception's dict, and where it stands -/
def Ca.x (ca : Ca) (P : Program) (w : World) (K : PySem.W.Frag) (io : Option Nat) (a : Addr) (x : Ex) (cls : Value) (d : Option Addr) : Ca where
  cl := ca.cl
  ks := match io with
    | some i => i :: ca.ks
    | none => ca.ks
  kp := fun σ G => ca.kp σ G ∧ RepX P w K ca.cl G x cls d ∧ ∀ i, io = some i → σ[i]? = some (some (.ref a))
  km := fun {σ σ' G G'} hs sm h => by
    refine ⟨ca.km (fun i hi => hs i ?_) sm h.1, ?_, fun i e => ?_⟩
    · cases io with
      | some j => exact List.mem_cons_of_mem _ hi
      | none => exact hi
    · obtain ⟨ec, dd, fv, xs, ed, g1, g2, g3⟩ := h.2.1
      exact ⟨ec, dd, fv, xs, ed, sm _ _ g1, g2.mono sm, g3⟩
    · subst e
      rw [hs i List.mem_cons_self]
      exact h.2.2 i rfl
theorem RepSl.setnone {P : Program} {w : World} {K : PySem.W.Frag} {cl : Nat → Addr} {G H : Hp} : {ρ : Ro} → {σ : L2.St} → {U : AS} → {i : Nat} → {x : Option V} → RepSl P w K cl G H ρ σ U → RepSl P w K cl G H (ρ.set i none) (σ.set i x) U
  | [], _, _, _, _, h => by rw [show _ = [] from h]; rfl
  | none :: r, _, _, 0, x, h => by
    obtain ⟨y, t, rfl, h1⟩ := h
    exact ⟨x, t, rfl, h1⟩
  | some y' :: r, _, _, 0, x, h => by
    obtain ⟨v', t, S1, S2, rfl, a1, a2, dj', h1, h2⟩ := h
    exact ⟨x, t, rfl, h2.mono (Same.refl _) a2 fun _ _ _ e => e⟩
  | none :: r, _, _, i + 1, x, h => by
    obtain ⟨y, t, rfl, h1⟩ := h
    exact ⟨y, _, rfl, RepSl.setnone (i := i) h1⟩
  | some y' :: r, _, _, i + 1, x, h => by
    obtain ⟨v', t, S1, S2, rfl, a1, a2, dj', h1, h2⟩ := h
    exact ⟨v', _, S1, S2, rfl, a1, a2, dj', h1, RepSl.setnone (i := i) h2⟩
theorem Fr.setnone {i : Nat} {x : Option V} (fr : Fr X ca Z S ρ σ H) (hk : i ∉ ca.ks) : Fr X ca Z S (ρ.set i none) (σ.set i x) H := ⟨fr.dj, fr.az, fr.as, fr.rep.setnone, ca.kmS hk fr.kp⟩
theorem Fr.offx {io : Option Nat} {a : Addr} {x : Ex} {cls : Value} {d : Option Addr} (fr : Fr X (ca.x X.prog X.w X.K io a x cls d) Z S ρ σ H) : Fr X ca Z S ρ σ H := ⟨fr.dj, fr.az, fr.as, fr.rep, fr.kp.1⟩
theorem Fr.onx {io : Option Nat} {a : Addr} {x : Ex} {cls : Value} {d : Option Addr} (fr : Fr X ca Z S ρ σ H) (r : RepX X.prog X.w X.K ca (hid H (un Z S)) x cls d) (h : ∀ i, io = some i → σ[i]? = some (some (.ref a))) : Fr X (ca.x X.prog X.w X.K io a x cls d) Z S ρ σ H := ⟨fr.dj, fr.az, fr.as, fr.rep, fr.kp, r, h⟩
theorem Pn.off {i : Nat} {x : Option V} (h : Pn pin σ σ1) (hi : i ∉ pin) : Pn pin σ (σ1.set i x) := fun j hj => by
  rw [List.getElem?_set_ne (by rintro rfl; exact hi hj)]
  exact h j hj
/-- the classes of exceptions -/
def ExmOk (K : PySem.W.Frag) (cl : Nat → Addr) (c : Value) (sub : Nat → Option Bool) : Prop := ∀ C b, sub C = some b → PySem.W.exmOne K (.ref (cl C)) c = some b
/-- the exception's own reading, as the suite has it -/
def tSu (X : Cx) (ca : Ca) (pin : List Nat) (io : Option Nat) (a : Addr) (g : Ex → Ro → SR) (cls : Value) (d : Option Addr) : TS := fun D σ H => ∃ x Z S ρ, Fr X (ca.x X.prog X.w X.K io a x cls d) Z S ρ σ H ∧ PoS X (ca.x X.prog X.w X.K io a x cls d) (fun _ _ _ _ => False) pin Z S σ H (g x ρ) D
/-- a suite's end, seen from outside -/
theorem suite_out {i : Option Nat} {a : Addr} {r : SR} {D : Ends} {S' : AS} {x : Ex} {cls : Value} {d : Option Addr} (hi : ∀ j, i = some j → j ∉ pin ∧ j ∉ ca.ks) (nx : Nx S H false S' H1) (pn : Pn pin σ σ1) (po : PoS X ca Wx pin Z S σ H (s_off i r) D) :
    PoS X (ca.x X.prog X.w X.K i a x cls d) (fun _ _ _ _ => False) pin Z S' σ1 H1 r (match i with | none => D | some i => { nx := fun σ' H' => D.nx (σ'.set i none) H', rt := D.rt, bk := fun σ' H' => D.bk (σ'.set i none) H', ct := fun σ' H' => D.ct (σ'.set i none) H' }) := by
  have shift := fun {r : SR} (po : PoS X ca Wx pin Z S σ H r D) => po.shift (q := false) nx pn
  cases i with
  | none =>
    cases r with
    | nx ρ' => exact fun σ' H' ⟨S2, n, f, p⟩ => po σ' H' ⟨S2, (nx.trans n).weak (fun z => nomatch z), f.offx, pn.trans p⟩
    | br ρ' => exact fun σ' H' ⟨S2, n, f, p⟩ => po σ' H' ⟨S2, (nx.trans n).weak (fun z => nomatch z), f.offx, pn.trans p⟩
    | ct ρ' => exact fun σ' H' ⟨S2, n, f, p⟩ => po σ' H' ⟨S2, (nx.trans n).weak (fun z => nomatch z), f.offx, pn.trans p⟩
    | rt w ρ' => exact fun v σ' H' ⟨S2, Sw, n, a, b, c, p⟩ => po v σ' H' ⟨S2, Sw, (nx.trans n).weak (fun z => nomatch z), a, b, c, pn.trans p⟩
    | ex _ _ => exact po.elim
    | no => exact po.elim
  | some i =>
    obtain ⟨h, hk⟩ := hi i rfl
    cases r with
    | nx ρ' => exact fun σ' H' ⟨S2, n, f, p⟩ => po _ H' ⟨S2, (nx.trans n).weak (fun z => nomatch z), f.offx.setnone hk, (pn.trans p).off h⟩
    | br ρ' => exact fun σ' H' ⟨S2, n, f, p⟩ => po _ H' ⟨S2, (nx.trans n).weak (fun z => nomatch z), f.offx.setnone hk, (pn.trans p).off h⟩
    | ct ρ' => exact fun σ' H' ⟨S2, n, f, p⟩ => po _ H' ⟨S2, (nx.trans n).weak (fun z => nomatch z), f.offx.setnone hk, (pn.trans p).off h⟩
    | rt w ρ' => exact fun v σ' H' ⟨S2, Sw, n, a, b, c, p⟩ => po v σ' H' ⟨S2, Sw, (nx.trans n).weak (fun z => nomatch z), a, b, c, pn.trans p⟩
    | ex _ _ => exact po.elim
    | no => exact po.elim
/-- try: body, except x as n: suite -/
theorem ds_try_as {i : Nat} {x n : Str} {cv : Value} {sub : Nat → Option Bool} {f : Ro → SR} {g : Ex → Ro → SR} (hs : X.stack = X.env :: X.outer) (hf : X.env.frame = some X.env.locals) (hN : X.N.Nodup) (hi : X.N[i]? = some n) (hln : X.env.kindOf n = some .local) (hc : Names X x cv) (ex : ExmOk X.K ca cv sub) (tk : Takes X Wx)
    (hb : ∀ (W : WX) (pn : List (Addr × Obj)) (xe : Value → Shared → Prop), Takes (X.tr pn xe) W → PassesOwn (model X.prog X.w) X.A X.env xe → DSs (X.tr pn xe) ca W pin body f)
    (hsu : ∀ (a : Addr) (oe : Obj) (cls : Value) (d : Option Addr) (pn : List (Addr × Obj)) (y : Ex), Zc cls d oe → (∃ vs, oe.data = .fields vs) → DSs (X.suite a ((a, oe) :: pn)) (ca.x X.prog X.w X.K (some i) a y cls d) (fun _ _ _ _ => False) pin (b₀ :: suite) (g y)) (hpn : i ∉ pin := by decide) (hks : i ∉ ca.ks := by first | exact List.not_mem_nil | exact ks1 (by decide)) :
    DS X ca Wx pin (.Try body [.ExceptHandler (some (.Name x np)) (some n) (b₀ :: suite) pos'] [] [] pos) (s_try sub f (some i) g) := by
  refine ⟨(ps_try_as (tb := fun W D σ H => ∃ Z S ρ, Fr X ca Z S ρ σ H ∧ PoS X ca W pin Z S σ H (f ρ) D) (ts := fun a cls d => tSu X ca pin (some i) a g cls d) hs hf hN hi hln hc tk (fun W pn xe t hp => (hb W pn xe t hp).run)
    (fun a oe cls d pn hz hv => ⟨fun pins s σ H D I ⟨y, q⟩ => (hsu a oe cls d pn y hz hv).run.run pins s σ H D I q⟩)).imp fun D σ H ⟨Z, S, ρ, fr, po⟩ => ⟨Z, S, ρ, fr, ?_⟩⟩
  unfold s_try at po
  cases e : f ρ with
  | nx ρ1 => rw [e] at po; exact po
  | br ρ1 => rw [e] at po; exact po
  | ct ρ1 => rw [e] at po; exact po
  | rt w ρ1 => rw [e] at po; exact po
  | no => rw [e] at po; exact po
  | ex y ρ1 =>
    rw [e] at po
    rintro cls d σ1 H1 ⟨S1, n1, f1, rx, pn1⟩
    simp only at po
    cases es : sub y.C with
    | none => rw [es] at po; exact po.elim
    | some bb =>
      rw [es] at po
      have hcls := rx.1
      refine ⟨bb, by rw [hcls]; exact ex _ _ es, fun hb a ha => ?_, fun hb => ?_⟩
      · subst hb
        have po : PoS X ca Wx pin Z S σ H (if i < ρ1.length then s_off (some i) (g y (ρ1.set i none)) else .no) D := po
        split at po
        rotate_left
        · exact po.elim
        rename_i hil
        have hset : ∀ a : Addr, (σ1.set i (some (.ref a)))[i]? = some (some (.ref a)) := fun a => by
          rw [List.getElem?_set_self (by rw [← f1.rep.len]; exact hil)]
        exact ⟨y, Z, S1, ρ1.set i none, (f1.setnone hks).onx rx (fun j hj => by cases hj; exact hset a), suite_out (i := some i) (fun j hj => by cases hj; exact ⟨hpn, hks⟩) n1 (pn1.off hpn) po⟩
      · subst hb
        exact po cls d σ1 H1 ⟨S1, n1, f1, rx, pn1⟩
/-- try: body, except x: suite -/
theorem ds_try_only {x : Str} {cv : Value} {sub : Nat → Option Bool} {f : Ro → SR} {g : Ro → SR} (hs : X.stack = X.env :: X.outer) (hf : X.env.frame = some X.env.locals) (hc : Names X x cv) (ex : ExmOk X.K ca cv sub) (tk : Takes X Wx)
    (hb : ∀ (W : WX) (pn : List (Addr × Obj)) (xe : Value → Shared → Prop), Takes (X.tr pn xe) W → PassesOwn (model X.prog X.w) X.A X.env xe → DSs (X.tr pn xe) ca W pin body f)
    (hsu : ∀ (a : Addr) (oe : Obj) (cls : Value) (d : Option Addr) (pn : List (Addr × Obj)) (y : Ex), Zc cls d oe → (∃ vs, oe.data = .fields vs) → DSs (X.suite a ((a, oe) :: pn)) (ca.x X.prog X.w X.K none a y cls d) (fun _ _ _ _ => False) pin (b₀ :: suite) g) :
    DS X ca Wx pin (.Try body [.ExceptHandler (some (.Name x np)) none (b₀ :: suite) pos'] [] [] pos) (s_try sub f none fun _ => g) := by
  refine ⟨(ps_try_only (tb := fun W D σ H => ∃ Z S ρ, Fr X ca Z S ρ σ H ∧ PoS X ca W pin Z S σ H (f ρ) D) (ts := fun a cls d => tSu X ca pin none a (fun _ => g) cls d) hs hf hc tk (fun W pn xe t hp => (hb W pn xe t hp).run)
    (fun a oe cls d pn hz hv => ⟨fun pins s σ H D I ⟨y, q⟩ => (hsu a oe cls d pn y hz hv).run.run pins s σ H D I q⟩)).imp fun D σ H ⟨Z, S, ρ, fr, po⟩ => ⟨Z, S, ρ, fr, ?_⟩⟩
  unfold s_try at po
  cases e : f ρ with
  | nx ρ1 => rw [e] at po; exact po
  | br ρ1 => rw [e] at po; exact po
  | ct ρ1 => rw [e] at po; exact po
  | rt w ρ1 => rw [e] at po; exact po
  | no => rw [e] at po; exact po
  | ex y ρ1 =>
    rw [e] at po
    rintro cls d σ1 H1 ⟨S1, n1, f1, rx, pn1⟩
    simp only at po
    cases es : sub y.C with
    | none => rw [es] at po; exact po.elim
    | some bb =>
      rw [es] at po
      have hcls := rx.1
      refine ⟨bb, by rw [hcls]; exact ex _ _ es, fun hb a ha => ?_, fun hb => ?_⟩
      · subst hb
        exact ⟨y, Z, S1, ρ1, f1.onx rx (fun j hj => nomatch hj), suite_out (i := none) (fun j hj => nomatch hj) n1 pn1 po⟩
      · subst hb
        exact po cls d σ1 H1 ⟨S1, n1, f1, rx, pn1⟩
/-- what the classes of caught exceptions must have for their field f to be read -/
structure XfOk (K : PySem.W.Frag) (cl : Nat → Addr) (xt : Nat → Bool) (f : Str) : Prop where
  xf : ∀ C, xt C = true → XfC K (cl C)
  no : ∀ C, xt C = true → PySem.W.findIn K (.ref (cl C)) f = some none
theorem xd_look {x : Ex} {xs : List V} {f : Str} {d : D} (h : getf x.fs x.vs f = some d) (r : RepDs X.prog X.w X.K ca G x.vs xs) : ∃ v, (x.fs.zip xs).lookup f = some v ∧ RepD X.prog X.w X.K ca G d v := getf_lookD h r
/-- fault.f in the suite -/
theorem db_xfld (i : Nat) {xt : Nat → Bool} {f : Str} {a : Addr} {oe : Obj} {cls : Value} {dx : Option Addr} {pn : List (Addr × Obj)} {y : Ex} (ok : XfOk X.K ca xt f) (hz : Zc cls dx oe) (hv : ∃ vs, oe.data = .fields vs) (he : PE (X.suite a ((a, oe) :: pn)) e (tVar i)) (hb : attributeBase e f X.env (eval e X.env) = eval e X.env := by rfl) :
    DB (X.suite a ((a, oe) :: pn)) (ca.x X.prog X.w X.K (some i) a y cls dx) Wx true true (.Attribute e f pos) (c_xfld xt y f) := by
  refine ⟨⟨fun pins s σ H Q I ⟨Z, S, ρ, fr, po⟩ => ?_⟩⟩
  unfold c_xfld at po
  split at po
  · rename_i hx
    cases eg : getf y.fs y.vs f with
    | none => rw [eg] at po; exact po.elim
    | some d =>
      rw [eg] at po
      obtain ⟨ec, dd, fv, xs, ed, g1, g2, g3, g4⟩ := fr.kp.2.1
      have hσ := fr.kp.2.2 i rfl
      obtain ⟨v, l1, l2⟩ := getf_lookD (X := X) (ca := ca) eg g2
      refine (pe_xf (ok.xf _ hx) (ok.no _ hx) hz hv he hb).run pins s σ H Q I ⟨.ref a, hσ, rfl, ec, dd, fv, v, ed, (hid_some.mp g1).1, by rw [g4]; exact l1, ?_⟩
      exact po v H (okb_d fr l2)
  · exact po.elim
end
end L3

set_option Elab.async false
set_option linter.all false
set_option maxRecDepth 100000
set_option maxHeartbeats 1000000
/-! L3y: raise. -/
namespace L3
open PySem PySem.Spec PyProof.Rows L2

/-- what the __init__ of an exception class promises: its parameters become the fields fs -/
def spX (K : PySem.W.Frag) (C : Addr) (fs : List Str) : Sp := fun vs H Q _ => ∃ a ys, vs = .ref a :: ys ∧ ys.length = fs.length ∧ H a = some (exo a C none) ∧
  ∀ dx fv H', H' a = some (exo a C (some dx)) → H' dx = some (exd dx fv) → H dx = none → dx ≠ a → (∀ f, fv.lookup f = (fs.zip ys).lookup f) → (∀ b o, b ≠ a → H b = some o → H' b = some o) → Q .non H'
/-- what is known of an exception class -/
structure OkX (P : Program) (w : World) (K : PySem.W.Frag) (mg : Str → Option Value) (base : Heap) (cl : Nat → Addr) (k : Nat) (C : Nat) (fs : List Str) : Prop where
  ex : ∃ f fd ps, PySem.W.findIn K (.ref (cl C)) "__init__" = some (some (.ref f)) ∧ PySem.W.typeIn K (.ref f) = some (.type "function") ∧ FnOk P w K mg base (L2.CX P w) k f fd ps (spX K (cl C) fs) ∧ Binds K fd ps []
  ox : OexC K (cl C)
section
variable {P : Program} {w : World} {K : PySem.W.Frag} {mg : Str → Option Value} {base : Heap} {cl : Nat → Addr}
theorem okX1 {x qual f1 : Str} {st : Stmt} {f : Addr} {fd : FuncData} {ps : List Str} {k C : Nat} {e1 e2 : Expr} {p1 p2 : Pos} (F : Fun K x qual st f fd) (S : FnScope ps ps (defScope st)) (hn : ps.length = 2) (hbd : defBody st = [.Assign [.Attribute e1 f1 p1] e2 p2]) (T : OexC K (cl C)) (hf : PySem.W.findIn K (.ref (cl C)) f1 = some none)
    (h0 : ∀ (cdv : Value) (A : Around) (outer : List Env) (s : Shared) (H : Hp) (E : XK), PE (cxOf (L2.CX P w) P w K mg base ps qual (defScope st) f cdv A outer s H E) e1 (tVar 0))
    (h1 : ∀ (cdv : Value) (A : Around) (outer : List Env) (s : Shared) (H : Hp) (E : XK), PE (cxOf (L2.CX P w) P w K mg base ps qual (defScope st) f cdv A outer s H E) e2 (tVar 1))
    (hs : ∀ (cdv : Value) (A : Around) (outer : List Env) (s : Shared) (H : Hp) (E : XK), swapsWith e2 (some (.Attribute e1 f1 p1)) p2.line (cxOf (L2.CX P w) P w K mg base ps qual (defScope st) f cdv A outer s H E).env = pure false) : FnOk P w K mg base (L2.CX P w) (k + 1) f fd ps (spX K (cl C) [f1]) := by
  refine Fun.okX F S (fun vs H Q E ⟨a, ys, e, l, _⟩ => by rw [e, List.length_cons, l, hn]; rfl) fun cdv A outer s H vs Q E hr hsp => ?_
  rw [hbd]
  refine ⟨_, pss_one (ps_ost (h0 cdv A outer s H E) (h1 cdv A outer s H E) (hs cdv A outer s H E)), ?_⟩
  obtain ⟨a, ys, rfl, l, ha, hq⟩ := hsp
  match ys, l with
  | [y], _ =>
    refine ⟨y, rfl, .ref a, rfl, a, cl C, rfl, T, hf, .inl ⟨ha, fun dx hdx hne => ?_⟩⟩
    refine hq dx [(f1, y)] _ upd_same (by rw [upd_ne hne, upd_same]) hdx hne (fun g => rfl) fun b o hb e => ?_
    rw [upd_ne hb, upd_ne (ne_of_none e hdx)]
    exact e
theorem okX2 {x qual f1 f2 : Str} {st : Stmt} {f : Addr} {fd : FuncData} {ps : List Str} {k C : Nat} {e1 e2 e3 e4 : Expr} {p1 p2 p3 p4 : Pos} (F : Fun K x qual st f fd) (S : FnScope ps ps (defScope st)) (hn : ps.length = 3) (hbd : defBody st = [.Assign [.Attribute e1 f1 p1] e2 p2, .Assign [.Attribute e3 f2 p3] e4 p4]) (T : OexC K (cl C)) (hf1 : PySem.W.findIn K (.ref (cl C)) f1 = some none) (hf2 : PySem.W.findIn K (.ref (cl C)) f2 = some none) (hne : f1 ≠ f2)
    (h0 : ∀ (cdv : Value) (A : Around) (outer : List Env) (s : Shared) (H : Hp) (E : XK), PE (cxOf (L2.CX P w) P w K mg base ps qual (defScope st) f cdv A outer s H E) e1 (tVar 0))
    (h1 : ∀ (cdv : Value) (A : Around) (outer : List Env) (s : Shared) (H : Hp) (E : XK), PE (cxOf (L2.CX P w) P w K mg base ps qual (defScope st) f cdv A outer s H E) e2 (tVar 1))
    (h2 : ∀ (cdv : Value) (A : Around) (outer : List Env) (s : Shared) (H : Hp) (E : XK), PE (cxOf (L2.CX P w) P w K mg base ps qual (defScope st) f cdv A outer s H E) e3 (tVar 0))
    (h3 : ∀ (cdv : Value) (A : Around) (outer : List Env) (s : Shared) (H : Hp) (E : XK), PE (cxOf (L2.CX P w) P w K mg base ps qual (defScope st) f cdv A outer s H E) e4 (tVar 2))
    (hs : ∀ (cdv : Value) (A : Around) (outer : List Env) (s : Shared) (H : Hp) (E : XK), swapsWith e2 (some (.Attribute e1 f1 p1)) p2.line (cxOf (L2.CX P w) P w K mg base ps qual (defScope st) f cdv A outer s H E).env = pure false)
    (hs2 : ∀ (cdv : Value) (A : Around) (outer : List Env) (s : Shared) (H : Hp) (E : XK), swapsWith e4 (some (.Attribute e3 f2 p3)) p4.line (cxOf (L2.CX P w) P w K mg base ps qual (defScope st) f cdv A outer s H E).env = pure false) : FnOk P w K mg base (L2.CX P w) (k + 1) f fd ps (spX K (cl C) [f1, f2]) := by
  refine Fun.okX F S (fun vs H Q E ⟨a, ys, e, l, _⟩ => by rw [e, List.length_cons, l, hn]; rfl) fun cdv A outer s H vs Q E hr hsp => ?_
  rw [hbd]
  refine ⟨_, pss_cons (ps_ost (h0 cdv A outer s H E) (h1 cdv A outer s H E) (hs cdv A outer s H E)) (pss_one (ps_ost (h2 cdv A outer s H E) (h3 cdv A outer s H E) (hs2 cdv A outer s H E))), ?_⟩
  obtain ⟨a, ys, rfl, l, ha, hq⟩ := hsp
  match ys, l with
  | [y, z], _ =>
    refine ⟨y, rfl, .ref a, rfl, a, cl C, rfl, T, hf1, .inl ⟨ha, fun dx hdx hn1 => ?_⟩⟩
    refine ⟨z, rfl, .ref a, rfl, a, cl C, rfl, T, hf2, .inr ⟨dx, [(f1, y)], upd_same, by rw [upd_ne hn1, upd_same], by simp, ?_⟩⟩
    refine hq dx [(f2, z), (f1, y)] _ (by rw [upd_ne (Ne.symm hn1), upd_same]) upd_same hdx hn1 (fun g => ?_) fun b o hb e => ?_
    · show List.lookup g [(f2, z), (f1, y)] = List.lookup g [(f1, y), (f2, z)]
      rw [lookup_put, lookup_put, lookup_put, lookup_put]
      by_cases c1 : g = f1
      · subst c1
        rw [if_neg hne, if_pos rfl, if_pos rfl]
      · rw [if_neg c1, if_neg c1]
    · rw [upd_ne (ne_of_none e hdx), upd_ne hb, upd_ne (ne_of_none e hdx)]
      exact e
end
section
variable {X : Cx} {ca : Ca} {Wx : WX} {Z S S0 S1 S2 Sw T : AS} {σ σ0 σ1 : L2.St} {H H0 H1 H2 G : Hp} {ρ ρ0 ρ1 ρ2 : Ro} {q q1 q2 q3 k k1 k2 k3 : Bool} {e : Expr} {es : List Expr} {gl : Ro → LR} {pos pos' p p2 : Pos} {pins : List (Addr × Obj)} {s : Shared} {pin : List Nat} {kk n : Nat}
theorem passE {E : XK} (h : ∀ cls d H, E cls d H → False) : Passes (L2.CX X.prog X.w) X E := fun _ _ _ _ _ _ _ z => by
  obtain ⟨_, _, _, _, _, _, _, _, _, _, _, _, z⟩ := z
  exact (h _ _ _ z).elim
/-- raise C(e, ..) -/
theorem ds_raise {C : Nat} {fs : List Str} {x : Str} (hc : X.calm = true) (F : OkX X.prog X.w X.K X.mg X.base ca kk C fs) (hr : Room (kk + 1) X.A) (tk : Takes X Wx) (ha : DL X ca Wx q (e :: es) gl) (hm : X.mg x = some (.ref (ca C)) := by rfl) (hg : Gl X x := by rfl) (hz : fs.length ≤ 1000 := by decide)
    (hdb : (x == ("__debug__" : Str)) = false := by decide) (he : starEach (e :: es) X.env = (false, eval e X.env) :: starEach es X.env := by rfl) (hpl : (backTo pos (starEach es X.env)).any (·.1) = false := by rfl) :
    DS X ca Wx pin (.Raise (some (.Call (.Name x p) (e :: es) [] pos)) none pos') (s_raise C fs gl) := by
  obtain ⟨f, fd, ps, hi, ht, F1, hb⟩ := F.ex
  refine ⟨(ps_raise hc tk (pmk_oex F.ox hi ht F1 hr hb .nil (passE fun _ _ _ z => z) hg hm ha.run hdb he hpl)).imp fun D σ H ⟨Z, S, ρ, fr, po⟩ => ⟨Z, S, ρ, fr, ?_⟩⟩
  unfold s_raise at po
  cases e1 : gl ρ with
  | no => rw [e1] at po; exact po
  | ex x ρ1 => rw [e1] at po; exact fun cls d H' o => po cls d σ H' o.x
  | ok ds ρ1 =>
    rw [e1] at po
    intro vs H1 ⟨S1, n1, f1, rs⟩
    have po : PoS X ca Wx pin Z S σ H (if ds.length = fs.length then .ex ⟨C, fs, ds⟩ ρ1 else .no) D := po
    split at po
    · rename_i hl
      have hvl : vs.length = fs.length := by rw [← rs.length, hl]
      refine ⟨by rw [hvl]; exact hz, fun a ha0 => ?_⟩
      rw [List.append_nil]
      refine ⟨a, vs, rfl, hvl, upd_same, fun dx fv H2 h1 h2 h3 hne hlk kp => ?_⟩
      rw [upd_ne hne] at h3
      refine ⟨rfl, dx, fv, h1, h2, h3, ?_⟩
      have sm : Same H1 (upd (del H2 a) dx (.xd fv)) := fun b o eb => by
        have nb : b ≠ a := fun z => by rw [z, ha0] at eb; cases eb
        rw [upd_ne (ne_of_none eb h3), del_ne nb]
        exact kp b o nb (by rw [upd_ne nb]; exact eb)
      have n2 : Nx S1 H1 true S1 (upd (del H2 a) dx (.xd fv)) := Nx.same sm f1.as
      refine po _ _ σ _ ⟨S1, (n1.trans n2).weak (fun z => nomatch z), f1.same sm, ⟨rfl, dx, fv, vs, rfl, hid_some.mpr ⟨upd_same, fun z => z.elim (fun z => f1.az dx z h3) fun z => f1.as dx z h3⟩, rs.mono n2.hid, hvl.symm, hlk⟩, Pn.refl⟩
    · exact po.elim
end
end L3

set_option Elab.async false
set_option linter.all false
set_option maxRecDepth 100000
set_option maxHeartbeats 2000000
/-! L3z: == and != of instances by their own __eq__; their truth. -/
namespace PySem.L3X
open PySem PySem.W PyProof.Rows
theorem ne_bind (self : Value) : bindSpecial (.builtin "object.__ne__") self = pure (.builtin "object.__ne__", [self]) :=
  (Slot.of (T := "object") (name := "__ne__") (owner := "object") (n := "__ne__") (by rw [typeLookup_type, builtinLookup_eq_fast]; kernel_rfl) (by decide +kernel) (by decide +kernel) (by decide +kernel)
    (.inl (by decide +kernel)) (by rw [isSubtype_type]; kernel_rfl)).bind self
section
variable {prog : Program} {w : World} {A : Around} {E : Value → Shared → Prop} {s : Shared} {K : Frag} {x C f : Addr} {ox : Obj} {od : Option Obj} {b tb : Value}
/-- object.__ne__ by an own __eq__ that answers with a bool -/
theorem objNe_K (X : K.In s.heap) (I : InstAt s.heap x ox C od) (he : findIn K (.ref C) "__eq__" = some (some (.ref f))) (hf : isFn K (.ref f) = true) (hu : A.units < cLine) {Q : Fin → Shared → Prop}
    (hcall : wpAny (model prog w) A (call (.ref f) [.ref x, b]) (fun v s' => ∃ r, v = .bool r ∧ Q (.done (.ret (.bool (!r)))) s') E s) :
    wpAny (model prog w) A (Builtin.«object.__ne__» ⟨[.ref x, b], []⟩) Q E s := by
  obtain ⟨h, g, d, t, os⟩ := s
  unfold Builtin.«object.__ne__»
  repeat (first
    | with_reducible refine wpAny_cRoomFor hu ?_
    | (refine wpAny_bind (m := callSpecialIfBound? (.ref x) (Str.ofString "__eq__") [b])
        (ifBound_K X I he hf (wpAny_mono hcall (fun r s' hr => by
          obtain ⟨b, rfl, hq⟩ := hr
          repeat (first | exact hq | exact wpAny_pure hq | exact wpAny_truthy_bool hq | (refine wpAny_bind (m := truthy (.bool _)) (wpAny_truthy_bool ?_)) | wp_step)) fun _ _ e => e)))
    | wp_step)
theorem ne_slot : Slot "object" "__ne__" "object.__ne__" := Slot.of (T := "object") (name := "__ne__") (owner := "object") (n := "__ne__") (by rw [typeLookup_type, builtinLookup_eq_fast]; kernel_rfl) (by decide +kernel) (by decide +kernel) (by decide +kernel)
    (.inl (by decide +kernel)) (by rw [isSubtype_type]; kernel_rfl)
theorem tryNe_K (X : K.In s.heap) (I : InstAt s.heap x ox C od) (he : findIn K (.ref C) "__eq__" = some (some (.ref f))) (hf : isFn K (.ref f) = true) (hn : findIn K (.ref C) "__ne__" = some (some (.builtin "object.__ne__"))) (hm : mroIn K C (.type "object") = some true) (hu : A.units + 1 < cLine) {Q : Option Value → Shared → Prop}
    (hcall : wpAny (model prog w) A.in1 (call (.ref f) [.ref x, b]) (fun v s' => ∃ r, v = .bool r ∧ Q (some (.bool (!r))) s') E s) :
    wpAny (model prog w) A (tryCompare (.ref x) "__ne__" b) Q E s := by
  have sub : Looks (model prog w) s.heap (isInstance (.ref x) (.type "object")) true := I.type.andThen (looks_mroIn X hm)
  have go : wpAny (model prog w) A (call (.builtin "object.__ne__") [.ref x, b]) (fun v s' => ∃ r, v = .bool r ∧ Q (some (.bool r)) s') E s := by
    refine wpAny_call (codeAny_call_builtin ne_slot.plain F.cmpEntry_ne (@check_slot (model prog w) _ _ s "object.__ne__" "object" "__ne__" (.ref x) [b] [] _ F.cmpKind_ne F.cmpSplit_ne sub (F.cmpArgs_ne _ _) ?_))
    refine wpAny_mono (objNe_K (A := A.in1) X I he hf (by show A.units + 1 < cLine; exact hu) (Q := fun fin s' => ∃ r, fin = .done (.ret (.bool r)) ∧ Q (some (.bool r)) s') (wpAny_mono hcall (fun v s' hv => ?_) fun _ _ e => e)) (fun fin s' hq => ?_) fun _ _ e => e
    · obtain ⟨r, rfl, hq⟩ := hv
      exact ⟨r, rfl, !r, rfl, hq⟩
    · obtain ⟨r, rfl, hq⟩ := hq
      exact ⟨r, rfl, hq⟩
  simp only [tryCompare]
  have one : wpAny (model prog w) A (callSpecialIfBound? (.ref x) (Str.ofString "__ne__") [b]) (fun r s' => ∃ r', r = some (.bool r') ∧ Q (some (.bool r')) s') E s := by
    simp only [callSpecialIfBound?, bindSpecialIfBound?]
    refine wpAny_holding (wpAny_bind (wpAny_bind (wpAny_bind (I.type.here ((looks_findIn X hn).here ?_)))))
    refine wpAny_bind (wpAny_askSetting (wpAny_ite ?_))
    have fin : wpAny (model prog w) A (call (.builtin "object.__ne__") ([.ref x] ++ [b]) >>= fun v => pure (some v)) (fun r s' => ∃ r', r = some (.bool r') ∧ Q (some (.bool r')) s') E s := wpAny_bind (wpAny_mono go (fun v s' ⟨r, e, hq⟩ => wpAny_pure ⟨r, by rw [e], hq⟩) fun _ _ h' => h')
    have hb : Looks (model prog w) s.heap (bindSpecial (.builtin "object.__ne__") (.ref x)) (.builtin "object.__ne__", [.ref x]) := .of_pure (ne_bind _)
    split
    · exact wpAny_bind (hb.here (wpAny_pure (by exact fin)))
    · exact wpAny_tryCatch (wpAny_bind (hb.here (wpAny_pure (by exact fin))))
  refine wpAny_bind (wpAny_mono one (fun r s' ⟨r', e, hq⟩ => ?_) fun _ _ e => e)
  rw [e]
  exact wpAny_pure hq
theorem richNe_K {Q : Value → Shared → Prop} (X : K.In s.heap) (I : InstAt s.heap x ox C od) (hb : Looks (model prog w) s.heap (typeOf b) tb) (hnf : notFirst K C tb = true) (he : findIn K (.ref C) "__eq__" = some (some (.ref f))) (hf : isFn K (.ref f) = true) (hn : findIn K (.ref C) "__ne__" = some (some (.builtin "object.__ne__"))) (hm : mroIn K C (.type "object") = some true) (hu : A.units + 1 < cLine)
    (hcall : wpAny (model prog w) A.in1 (call (.ref f) [.ref x, b]) (fun v s' => ∃ r, v = .bool r ∧ Q (.bool (!r)) s') E s) : wpAny (model prog w) A (richCompare .NotEq (.ref x) b) Q E s := by
  have one : wpAny (model prog w) A (tryCompare (.ref x) "__ne__" b) (fun r s' => ∃ v, r = some v ∧ (∃ bb, v = .bool bb) ∧ Q v s') E s := tryNe_K X I he hf hn hm hu (wpAny_mono hcall (fun v s' ⟨r, e, q⟩ => ⟨r, e, _, rfl, ⟨_, rfl⟩, q⟩) fun _ _ e => e)
  unfold richCompare
  simp only [oneThing_ref]
  refine wpAny_holding (wpAny_bind (wpAny_cRoomFor (Nat.lt_of_succ_lt hu) ?_))
  refine wpAny_bind (I.type.here (wpAny_bind (hb.here ?_)))
  split
  · rename_i q
    have e : subIn K tb (.ref C) = some false := by
      rcases Bool.or_eq_true_iff.mp hnf with e | e
      · rw [beq_iff_eq.mp e] at q; simp at q
      · exact beq_iff_eq.mp e
    refine wpAny_bind ((looks_subIn X e).here ?_)
    simp only [Bool.false_eq_true, if_false]
    refine wpAny_bind (wpAny_mono one (fun r s' z => ?_) fun _ _ e => e)
    obtain ⟨v, rfl, ⟨bb, rfl⟩, hq⟩ := z
    exact wpAny_pure hq
  · refine wpAny_bind (wpAny_pure ?_)
    simp only [Bool.false_eq_true, if_false]
    refine wpAny_bind (wpAny_mono one (fun r s' z => ?_) fun _ _ e => e)
    obtain ⟨v, rfl, ⟨bb, rfl⟩, hq⟩ := z
    exact wpAny_pure hq
end
end PySem.L3X

namespace L3
open PySem PySem.Spec PyProof.Rows L2
def insLt (n : Nat) : D → Bool
  | .ins C _ _ => decide (C < n)
  | _ => true
/-- a == b, a != b (neg): instances by their own __eq__, else by g -/
def cmpID (n : Nat) (neg : Bool) (et : Nat → Option Den) (g : D → D → Option D) (x y : D) : Option D := match x with
  | .ins C fs vs => match et C with
    | some M => if insLt n y = true then match M [.d (.ins C fs vs), .d y] with
      | .ok (.d (.bl r)) [] => some (.bl (r != neg))
      | _ => none
      else none
    | none => none
  | x => g x y
/-- what the own == of the classes is, and what of the text they must have -/
structure EqOk (P : Program) (w : World) (K : PySem.W.Frag) (mg : Str → Option Value) (base : Heap) (cl : Nat → Addr) (k n : Nat) (et : Nat → Option Den) : Prop where
  ko : KindOk K cl n
  ex : ∀ C M, et C = some M → ∃ f, OkF P w K mg base cl k [] 2 M f ∧ PySem.W.findIn K (.ref (cl C)) "__eq__" = some (some (.ref f)) ∧ PySem.W.isFn K (.ref f) = true
  ne : ∀ C M, et C = some M → PySem.W.findIn K (.ref (cl C)) "__ne__" = some (some (.builtin "object.__ne__"))
  mr : ∀ C M, et C = some M → PySem.W.mroIn K (cl C) (.type "object") = some true
  n1 : ∀ C M T, et C = some M → T ∈ ["NoneType", "bool", "int", "str", "tuple", "list", "dict"] → PySem.W.notFirst K (cl C) (.type T) = true
  n2 : ∀ C M C', et C = some M → C' < n → PySem.W.notFirst K (cl C) (.ref (cl C')) = true
section
variable {X : Cx} {ca : Ca} {Wx : WX} {Z S S0 S1 S2 Sw T : AS} {σ σ0 σ1 : L2.St} {H H0 H1 H2 G : Hp} {ρ ρ0 ρ1 ρ2 : Ro} {q q1 q2 q3 k k1 k2 k3 : Bool} {a b e : Expr} {es : List Expr} {fa fb : Ro → ER} {pos pos' p p2 : Pos} {pins : List (Addr × Obj)} {s : Shared} {pin : List Nat} {kk n : Nat}
/-- a def runs somewhere below -/
theorem run_at {CX : CXT} {A : Around} {f : Addr} {fd : FuncData} {ps : List Str} {sp : Sp} {Q : VK} {us : List Value} {vs : List V} (hfr : A.frames = X.A.frames) (F : FnOk X.prog X.w X.K X.mg X.base CX kk f fd ps sp) (hr : Room kk A) (hb : Binds X.K fd ps []) (hx : Passes CX X (fun _ _ _ => False))
    (I : Inv X pins σ H s) (r : Vals vs us) (h : sp vs H Q (fun _ _ _ => False)) : wpAny (model X.prog X.w) A (call (.ref f) us) (EP X pins σ Q) X.xe s := by
  have hl : us.length = ps.length := by rw [← r.length]; exact F.len _ _ _ _ h
  have b := hb s us I.kIn (by rw [List.append_nil]; exact hl)
  rw [List.append_nil] at b
  have e := I.env0
  refine wpAny_call (codeAny_mono (F.run A X.stack s H ⟨us, []⟩ us vs Q _ hr ⟨by rw [hfr]; exact e.frames, e.mod, e.bs, e.bsz, e.funs, e.frf, e.hok, e.bare⟩ b r h) fun r s' hq => ?_)
  cases r with
  | error e => exact hx pins σ H s e s' I hq
  | ok fl =>
    cases fl with
    | ret u => exact I.after hq
    | next => exact False.elim hq
    | brk => exact False.elim hq
    | cont => exact False.elim hq
/-- a def called with data where no exception comes -/
theorem run_data {A : Around} {M : Den} {f : Addr} {ds : List D} {us : List Value} {vs : List V} {w : W} {Q : VK} (hfr : A.frames = X.A.frames) (F : OkF X.prog X.w X.K X.mg X.base ca kk [] ds.length M f) (hr : Room kk A) (I : Inv X pins σ H s) (r : Vals vs us) (rd : RepDs X.prog X.w X.K ca H ds vs) (hM : M (ds.map .d) = .ok w [])
    (h : ∀ v H', Same H H' → RepD X.prog X.w X.K ca H' (frz w) v → Q v H') : wpAny (model X.prog X.w) A (call (.ref f) us) (EP X pins σ Q) X.xe s := by
  obtain ⟨fd, ps, F1, hb⟩ := F.ex
  have e0 : ∀ H : Hp, hid H (un emp emp) = H := fun H => by
    funext b
    unfold hid
    rw [if_neg]
    rintro (z | z) <;> exact z
  refine run_at hfr F1 hr hb (passE fun _ _ _ z => z) I r ⟨rd.length.symm, emp, emp, ds.map .d, fun _ z => z.elim, fun _ z => z.elim, fun _ z => z.elim, by rw [e0]; exact RepWs.ofD rd, ?_⟩
  rw [hM]
  rintro v H' ⟨S', Sw, n, dj, r1, r2⟩
  have sm : Same H H' := fun b o e => n.keep b o (fun z => z.elim) e
  exact h v H' sm (r2.freeze hid_same (fun _ _ _ e => e))
theorem tyV_names {cl : Nat → Addr} (d : D) : (∃ T, T ∈ ["NoneType", "bool", "int", "str", "tuple", "list", "dict"] ∧ tyV' cl d = .type T) ∨ ∃ C fs vs, d = .ins C fs vs ∧ tyV' cl d = .ref (cl C) := by
  cases d with
  | ins C fs vs => exact .inr ⟨C, fs, vs, rfl, rfl⟩
  | non => exact .inl ⟨"NoneType", by simp, rfl⟩
  | bl _ => exact .inl ⟨"bool", by simp, rfl⟩
  | int _ => exact .inl ⟨"int", by simp, rfl⟩
  | str _ => exact .inl ⟨"str", by simp, rfl⟩
  | tup _ => exact .inl ⟨"tuple", by simp, rfl⟩
  | lst _ => exact .inl ⟨"list", by simp, rfl⟩
  | dic _ _ => exact .inl ⟨"dict", by simp, rfl⟩
/-- an instance compared -/
theorem cmp_ins {op : CmpOp} {neg : Bool} {et : Nat → Option Den} {C : Nat} {fs : List Str} {vs : List D} {dy : D} {M : Den} {x y : V} {u v : Value} {rr : Bool} {Q : VK} (E : EqOk X.prog X.w X.K X.mg X.base ca kk n et) (hop : (op = .Eq ∧ neg = false) ∨ (op = .NotEq ∧ neg = true)) (hr : Room (kk + 1) X.A) (I : Inv X pins σ H s) (rx : RelV x u) (ry : RelV y v)
    (hx : RepD X.prog X.w X.K ca H (.ins C fs vs) x) (hy : RepD X.prog X.w X.K ca H dy y) (hl : insLt n dy = true) (he : et C = some M) (hM : M [.d (.ins C fs vs), .d dy] = .ok (.d (.bl rr)) []) (h : ∀ H', Same H H' → Q (.bl (rr != neg)) H') : wpAny (model X.prog X.w) X.A (compareOp op u v) (EP X pins σ Q) X.xe s := by
  obtain ⟨f, F, h1, h2⟩ := E.ex C M he
  obtain ⟨P, kx, hp, _⟩ := kit_rep (G := H) E.ko.ins (fun C' _ _ e => by rw [e] at hl; simpa [insLt] using hl) I ry (hy.borrow (Same.refl _)) (Same.refl _)
  have LT : PySem.W.Looks (model X.prog X.w) s.heap (typeOf v) (tyV' ca dy) := kx.ty _ _ I.kIn hp
  have hnf : PySem.W.notFirst X.K (ca C) (tyV' ca dy) = true := by
    rcases tyV_names (cl := ca) dy with ⟨T, hT, e⟩ | ⟨C', _, _, e1, e⟩
    · rw [e]; exact E.n1 C M T he hT
    · rw [e]
      refine E.n2 C M C' he ?_
      rw [e1] at hl
      simpa [insLt] using hl
  have hxy : RepDs X.prog X.w X.K ca H [.ins C fs vs, dy] [x, y] := ⟨x, [y], rfl, hx, y, [], rfl, hy, rfl⟩
  obtain ⟨a, dx, xs, rfl, g1, g2⟩ := id hx
  obtain rfl : u = Value.ref a := rx
  obtain ⟨mA, J, _⟩ := ins_get I.hok g1
  obtain ⟨od, J, _⟩ := J.look
  obtain ⟨m, hF⟩ := I.fr
  have rv : Vals [V.ref a, y] [Value.ref a, v] := .cons rfl (.cons ry .nil)
  rcases hop with ⟨rfl, rfl⟩ | ⟨rfl, rfl⟩
  · show wpAny (model X.prog X.w) X.A (richCompare .Eq (.ref a) v) (EP X pins σ Q) X.xe s
    refine PySem.W.cmp_K (op := .Eq) (Nat.lt_of_le_of_lt (Nat.le_add_right _ 64) hr.units) hF I.ok.mod.kin J LT hnf h1 h2 ?_
    refine thn (run_data (Q := fun v H' => v = .bl rr ∧ Same H H') rfl F (hr.mono (Nat.le_succ _)) I rv hxy hM fun v H' sm r => ⟨r, sm⟩) fun w s' ⟨z, H', I', rz, ez, sm⟩ => ?_
    subst ez
    cases rz
    exact ⟨.bl rr, H', I', rfl, by have := h H' sm; simpa using this⟩
  · show wpAny (model X.prog X.w) X.A (richCompare .NotEq (.ref a) v) (EP X pins σ Q) X.xe s
    refine PySem.L3X.richNe_K I.kIn J LT hnf h1 h2 (E.ne C M he) (E.mr C M he) (Nat.lt_of_le_of_lt (Nat.add_le_add_left (by decide : 1 ≤ 64) _) hr.units) ?_
    refine thn (run_data (A := X.A.in1) (Q := fun v H' => v = .bl rr ∧ Same H H') (by rfl) F hr.in1 I rv hxy hM fun v H' sm r => ⟨r, sm⟩) fun w s' ⟨z, H', I', rz, ez, sm⟩ => ?_
    subst ez
    cases rz
    exact ⟨rr, rfl, .bl (!rr), H', I', rfl, by have := h H' sm; cases rr <;> simpa using this⟩
/-- .. as an operator -/
theorem o_cmpI {op : CmpOp} {neg : Bool} {et : Nat → Option Den} {g : D → D → Option D} (E : EqOk X.prog X.w X.K X.mg X.base ca kk n et) (hop : (op = .Eq ∧ neg = false) ∨ (op = .NotEq ∧ neg = true)) (hr : Room (kk + 1) X.A) (ho : Op2 X ca (compareOp op) g) : Op2 X ca (compareOp op) (cmpID n neg et g) := by
  intro pins s σ H T x y u v da db d Q hT I rx ry hx hy e hq
  cases da with
  | ins C fs vs =>
    have hx' := RepB.data hid_same _ hx
    have hy' := RepB.data hid_same _ hy
    unfold cmpID at e
    simp only at e
    cases he : et C with
    | none => rw [he] at e; cases e
    | some M =>
      rw [he] at e
      simp only at e
      split at e
      · rename_i hl
        split at e
        · rename_i rr hM
          cases e
          exact cmp_ins E hop hr I rx ry hx' hy' hl he hM fun H' sm => hq _ H' sm rfl
        · cases e
      · cases e
  | _ => exact ho pins s σ H T x y u v _ db d Q hT I rx ry hx hy e hq
theorem o_eqI {et : Nat → Option Den} (E : EqOk X.prog X.w X.K X.mg X.base ca kk n et) (hr : Room (kk + 1) X.A) : Op2 X ca (compareOp .Eq) (cmpID n false et eqC) := o_cmpI E (.inl ⟨rfl, rfl⟩) hr (o_eq hr.units)
theorem o_neI {et : Nat → Option Den} (E : EqOk X.prog X.w X.K X.mg X.base ca kk n et) (hr : Room (kk + 1) X.A) : Op2 X ca (compareOp .NotEq) (cmpID n true et neC) := o_cmpI E (.inr ⟨rfl, rfl⟩) hr (o_ne hr.units)

/-! ### truth -/
/-- the classes with an own __bool__ that answers with a constant; the others are true -/
structure BoolOk (P : Program) (w : World) (K : PySem.W.Frag) (mg : Str → Option Value) (base : Heap) (cl : Nat → Addr) (k : Nat) (tb : Nat → Option Bool) : Prop where
  ex : ∀ C b, tb C = some b → (∃ f M, OkF P w K mg base cl k [] 1 M f ∧ PySem.W.findIn K (.ref (cl C)) "__bool__" = some (some (.ref f)) ∧ PySem.W.isFn K (.ref f) = true ∧ ∀ fs vs, M [.d (.ins C fs vs)] = .ok (.d (.bl b)) []) ∨
    (PySem.W.findIn K (.ref (cl C)) "__bool__" = some none ∧ PySem.W.findIn K (.ref (cl C)) "__len__" = some none ∧ b = true)
theorem trB_of {tb : Nat → Option Bool} (B : BoolOk X.prog X.w X.K X.mg X.base ca kk tb) (hr : Room (kk + 2) X.A) : TrB X ca tb := by
  intro pins s σ H C fs vs a b Q A hA I hd eb hq
  obtain ⟨a', dx, xs, ea, g1, g2⟩ := id hd
  cases ea
  obtain ⟨mA, J, _⟩ := ins_get I.hok g1
  obtain ⟨od, J, _⟩ := J.look
  obtain ⟨m, hF⟩ := I.fr
  have hrA : Room kk A ∧ A.frames = X.A.frames := by
    rcases hA with rfl | rfl
    · exact ⟨hr.mono (Nat.le_add_right _ 2), rfl⟩
    · exact ⟨hr.in1.in1, rfl⟩
  rcases B.ex C b eb with ⟨f, M, F, h1, h2, h3⟩ | ⟨h1, h2, rfl⟩
  · refine PySem.W.truthy_K hF I.ok.mod.kin J h1 h2 ?_
    refine thn (run_data (Q := fun v H' => v = .bl b ∧ Same H H') hrA.2 F hrA.1 I (vs := [V.ref a]) (us := [Value.ref a]) (.cons rfl .nil) (ds := [.ins C fs vs]) ⟨.ref a, [], rfl, hd, rfl⟩ (h3 fs vs) fun v H' sm r => ⟨r, sm⟩) fun w s' ⟨z, H', I', rz, ez, sm⟩ => ?_
    subst ez
    cases rz
    exact ⟨H', I', hq H' sm⟩
  · exact PySem.W.truthy_K0 hF I.ok.mod.kin J h1 h2 ⟨H, I, hq H (Same.refl _)⟩
end
end L3

set_option Elab.async false
set_option linter.all false
set_option maxRecDepth 100000
set_option maxHeartbeats 1000000
/-! L4a: chains, products, dict displays. -/
namespace L3
open PySem PySem.Spec PyProof.Rows L2

def c_dic0 : Ro → ER := fun ρ => .ok (.dic [] []) ρ
/-- {k: v} -/
def c_dic1 (fk fv : Ro → ER) : Ro → ER := fun ρ => (fk ρ).bind fun k ρ1 => (fv ρ1).bind fun v ρ2 => if (keyK (frz k) || keyN (frz k)) = true then .ok (.dic [frz k] [frz v]) ρ2 else .no
section
variable {X : Cx} {ca : Ca} {Wx : WX} {Z S S0 S1 S2 Sw T : AS} {σ σ0 σ1 : L2.St} {H H0 H1 H2 G : Hp} {ρ ρ0 ρ1 ρ2 : Ro} {q q1 q2 q3 k k1 k2 k3 : Bool} {a b c e : Expr} {es : List Expr} {fa fb fc fk fv : Ro → ER} {pos pos' p p2 : Pos} {pins : List (Addr × Obj)} {s : Shared} {pin : List Nat} {kk n : Nat}
/-! ### a op b op' c -/
theorem chain_seq {op op' : CmpOp} {g g' : D → D → Option D} {Q : VK} (ho : Op2 X ca (compareOp op) g) (ho' : Op2 X ca (compareOp op') g') (hb : DB X ca Wx q2 true b fb) (hc : DB X ca Wx q3 true c fc) (v1 : V) (u1 : Value) (w1 : W) (I : Inv X pins σ H1 s) (n1 : Nx S H q1 S1 H1) (fr1 : Fr X ca Z S1 ρ1 σ H1) (rv1 : RelV v1 u1) (r1 : RepD X.prog X.w X.K ca (hid H1 (un Z S1)) (frz w1) v1)
    (po : PoB X ca Wx (q1 && (q2 && q3)) true Z S σ H ((fb ρ1).bind fun y ρ2 => match g (frz w1) (frz y) with | some (.bl true) => ((fc ρ2).bind fun z ρ3 => match g' (frz y) (frz z) with | some d => .ok (.d d) ρ3 | none => .no) | some (.bl false) => .ok (.d (.bl false)) ρ2 | _ => .no) Q) :
    wpAny (model X.prog X.w) X.A (eval b X.env) (fun u2 s2 => wpAny (model X.prog X.w) X.A (compareOp op u1 u2) (fun d s3 => ∃ t, d = .bool t ∧ (if t = true then wpAny (model X.prog X.w) X.A (eval c X.env) (fun u3 s4 => wpAny (model X.prog X.w) X.A (compareOp op' u2 u3) (EP X pins σ Q) X.xe s4) X.xe s3 else EP X pins σ Q (.bool false) s3)) X.xe s2) X.xe s := by
  refine hb.bindB I fr1 (po.shift n1) fun w2 ρ2 v2 u2 s2 H2 I2 rv2 ⟨S2, n2, fr2, rp2⟩ po2 => ?_
  have a1 : RepD X.prog X.w X.K ca (hid H2 (un Z S2)) (frz w1) v1 := r1.mono n2.hid
  have a2 := rp2.d
  have go : ∀ d, g (frz w1) (frz w2) = some d → (∀ z H', Same H2 H' → RepD X.prog X.w X.K ca (hid H' (un Z S2)) d z → ∀ s3, Inv X pins σ H' s3 → ∀ w', RelV z w' → ∃ t, w' = Value.bool t ∧ (if t = true then wpAny (model X.prog X.w) X.A (eval c X.env) (fun u3 s4 => wpAny (model X.prog X.w) X.A (compareOp op' u2 u3) (EP X pins σ Q) X.xe s4) X.xe s3 else EP X pins σ Q (.bool false) s3)) →
      wpAny (model X.prog X.w) X.A (compareOp op u1 u2) (fun d s3 => ∃ t, d = .bool t ∧ (if t = true then wpAny (model X.prog X.w) X.A (eval c X.env) (fun u3 s4 => wpAny (model X.prog X.w) X.A (compareOp op' u2 u3) (EP X pins σ Q) X.xe s4) X.xe s3 else EP X pins σ Q (.bool false) s3)) X.xe s2 := fun d hd hq =>
    thn (ho pins s2 σ H2 (un Z S2) v1 v2 u1 u2 (frz w1) (frz w2) d (fun z H' => Same H2 H' ∧ RepD X.prog X.w X.K ca (hid H' (un Z S2)) d z) fr2.al I2 rv1 rv2 (a1.borrow hid_same) (a2.borrow hid_same) hd fun z H' sm r => ⟨sm, r⟩) fun w' s3 ⟨z, H', I', rz, sm, r⟩ => hq z H' sm r s3 I' w' rz
  cases e : g (frz w1) (frz w2) with
  | none => rw [e] at po2; exact po2.elim
  | some d =>
    rw [e] at po2
    cases d <;> first | exact po2.elim | skip
    rename_i t
    cases t with
    | false =>
      refine go _ e fun z H' sm r s3 I' w' rz => ⟨false, ?_, ?_⟩
      · cases (show z = V.bl false from r); exact rz
      · rw [if_neg Bool.false_ne_true]
        exact ⟨.bl false, H', I', rfl, (show PoB X ca Wx (q2 && q3) true Z S1 σ H1 (.ok (.d (.bl false)) ρ2) Q from po2) _ H' ⟨S2, (n2.trans (Nx.same sm fr2.as)).weak (fun z => by rw [(Bool.and_eq_true_iff.mp z).1]; rfl), fr2.same sm, RepKd.of rfl⟩⟩
    | true =>
      refine go _ e fun z H' sm r s3 I' w' rz => ⟨true, ?_, ?_⟩
      · cases (show z = V.bl true from r); exact rz
      · rw [if_pos rfl]
        have n3 : Nx S1 H1 q2 S2 H' := (n2.trans (Nx.same sm fr2.as)).weak (fun z => by rw [z]; rfl)
        refine hc.bindB I' (fr2.same sm) (PoB.shift (q := q2) (q1 := q3) po2 n3) fun w3 ρ3 v3 u3 s4 H4 I4 rv3 ⟨S4, n4, fr4, rp4⟩ po4 => ?_
        cases e2 : g' (frz w2) (frz w3) with
        | none => rw [e2] at po4; exact po4.elim
        | some d =>
          rw [e2] at po4
          have a3 : RepD X.prog X.w X.K ca (hid H4 (un Z S4)) (frz w2) v2 := a2.mono ((Nx.same sm fr2.as).hid.trans n4.hid)
          exact ho' pins s4 σ H4 (un Z S4) v2 v3 u2 u3 (frz w2) (frz w3) d Q fr4.al I4 rv2 rv3 (a3.borrow hid_same) (rp4.d.borrow hid_same) e2 fun z H5 sm5 r5 => po4 z H5 ⟨S4, (n4.trans (Nx.same sm5 fr4.as)).weak (fun z => by rw [z]; rfl), fr4.same sm5, RepKd.of r5⟩
theorem db_chain {op op' : CmpOp} {g g' : D → D → Option D} (ho : Op2 X ca (compareOp op) g) (ho' : Op2 X ca (compareOp op') g') (ha : DB X ca Wx q1 true a fa) (hb : DB X ca Wx q2 true b fb) (hc : DB X ca Wx q3 true c fc) (hm : lastMarks [op, op'] [b, c] = false := by with_unfolding_all rfl) :
    DB X ca Wx (q1 && (q2 && q3)) true (.Compare a [op, op'] [b, c] pos) (c_chain g g' fa fb fc) := by
  refine ⟨⟨fun pins s σ H Q I ⟨Z, S, ρ, fr, po⟩ => Compare_chain ?_ hm⟩⟩
  refine ha.bindB I fr po fun w1 ρ1 v1 u1 s1 H1 I1 rv1 ⟨S1, n1, fr1, rp1⟩ po1 => chain_link ?_
  refine thn (chain_seq ho ho' hb hc v1 u1 w1 I1 n1 fr1 rv1 rp1.d po1) fun u2 s2 h2 => thn h2 fun d s3 ⟨t, et, h3⟩ => ?_
  subst et
  refine wpAny_truthy_bool ?_
  cases t with
  | false =>
    rw [if_neg Bool.false_ne_true] at h3
    exact ite_ff h3
  | true =>
    rw [if_pos rfl] at h3
    exact ite_tt (chain_last h3)
theorem dt_chain {op op' : CmpOp} {g g' : D → D → Option D} (ho : Op2 X ca (compareOp op) g) (ho' : Op2 X ca (compareOp op') g') (ha : DB X ca Wx q1 true a fa) (hb : DB X ca Wx q2 true b fb) (hc : DB X ca Wx q3 true c fc) (hm : lastMarks [op, op'] [b, c] = false := by with_unfolding_all rfl) :
    DT X ca Wx (q1 && (q2 && q3)) (.Compare a [op, op'] [b, c] pos) (c_chain g g' fa fb fc) := by
  refine ⟨⟨fun pins s σ H Q I ⟨Z, S, ρ, fr, po⟩ => isTrue_chain ?_ hm⟩⟩
  have po' : PoB X ca Wx (q1 && (q2 && q3)) true Z S σ H (c_chain g g' fa fb fc ρ) fun v H' => ∃ t, v = .bl t ∧ Q t H' := by
    cases e : c_chain g g' fa fb fc ρ with
    | ok w ρ' =>
      rw [e] at po
      cases w with
      | d x => cases x <;> first | exact po.elim | exact fun v H' ⟨S', n, f, r⟩ => ⟨_, r, po H' ⟨S', n, f⟩⟩
      | _ => exact po.elim
    | ex x ρ' => rw [e] at po; exact po
    | no => rw [e] at po; exact po
  refine ha.bindB I fr po' fun w1 ρ1 v1 u1 s1 H1 I1 rv1 ⟨S1, n1, fr1, rp1⟩ po1 => test_link ?_
  refine thn (chain_seq ho ho' hb hc v1 u1 w1 I1 n1 fr1 rv1 rp1.d po1) fun u2 s2 h2 => thn h2 fun d s3 ⟨t, et, h3⟩ => ?_
  subst et
  refine wpAny_truthy_bool ?_
  cases t with
  | false =>
    rw [if_neg Bool.false_ne_true] at h3
    obtain ⟨z, H', I', rz, t, ez, hq⟩ := h3
    subst ez
    cases rz
    exact ite_ff ⟨H', I', hq⟩
  | true =>
    rw [if_pos rfl] at h3
    refine ite_tt (test_last (thn h3 fun u3 s4 h4 => thn h4 fun d s5 ⟨z, H', I', rz, t, ez, hq⟩ => ?_))
    subst ez
    cases rz
    exact wpAny_truthy_bool ⟨H', I', hq⟩
/-! ### {} and {k: v} -/
theorem oke_dic {L : Addr} {o : HO} {ks vs : List D} (nx : Nx S H q S1 H1) (fr1 : Fr X ca Z S1 ρ1 σ H1) (hp : H1 L = none) (hd : ∀ G', Same (hid H1 (un Z S1)) G' → DicAt X.prog X.w X.K ca G' (upd H1 L o) ks vs L) : OKE X ca Z S H q σ (.dic ks vs) ρ1 (.ref L) (upd H1 L o) := by
  have sm : Same H1 (upd H1 L o) := same_new hp
  have hps : ¬ S1 L := fun z => fr1.as L z hp
  have hg : Same (hid H1 (un Z S1)) (hid (upd H1 L o) (un Z (un S1 fun a => a = L))) := fun a u e => by
    rw [hid_some] at *
    refine ⟨sm a u e.1, fun z => ?_⟩
    rcases z with z | z | z
    · exact e.2 (.inl z)
    · exact e.2 (.inr z)
    · rw [z, hp] at e; cases e.1
  refine ⟨S1, fun a => a = L, ⟨fun b u hb e => sm b u (nx.keep b u hb e), fun b z => ?_, fun b z => ?_, fun z => (nx.qt z).trans sm⟩, fun a z y => hps (y ▸ z), fr1.rep.mono hg (fun _ z => z) (fun a u _ e => sm a u e), L, rfl, rfl, hd _ hg⟩
  · rcases z with z | z
    · exact nx.own b z
    · by_cases hs : S L
      · rw [z]; exact .inl hs
      · rw [z]; exact .inr (nx.free hp hs)
  · rcases z with z | z
    · exact Same.ne sm (fr1.as b z)
    · rw [z, upd_same]; simp
theorem de_dic0 : DE X ca Wx true (.Dict [] [] pos) c_dic0 := by
  refine ⟨pe_dnewK.imp fun σ H Q ⟨Z, S, ρ, fr, po⟩ p hp => po _ _ (oke_dic (Nx.refl fr.as) fr hp fun G' _ => ⟨[], [], rfl, rfl, rfl, .inl ⟨[], upd_same, List.nodup_nil, rfl, rfl⟩⟩)⟩
theorem mulMap {α β : Type} (f : α → β) (l : List α) : ∀ n, (List.replicate n l).flatten.map f = (List.replicate n (l.map f)).flatten := by
  intro n
  induction n with
  | zero => rfl
  | succ n ih => rw [List.replicate_succ, List.flatten_cons, List.map_append, ih, List.replicate_succ, List.flatten_cons]
theorem RepDs.rep {P : Program} {w : World} {K : PySem.W.Frag} {cl : Nat → Addr} {G : Hp} {l : List D} {xs : List V} (h : RepDs P w K cl G l xs) : ∀ n, RepDs P w K cl G (List.replicate n l).flatten (List.replicate n xs).flatten
  | 0 => rfl
  | n + 1 => by
    rw [List.replicate_succ, List.flatten_cons, List.replicate_succ, List.flatten_cons]
    exact h.append (RepDs.rep h n)
end
end L3

set_option Elab.async false
set_option linter.all false
set_option maxRecDepth 100000
set_option maxHeartbeats 1000000
/-! L4b: products. -/
namespace L3
open PySem PySem.Spec PyProof.Rows L2

def mulW (x : W) (y : D) : Option D := match x, y with
  | .d (.int i), .int j => if (-(2 ^ 64) < i && i < 2 ^ 64) || (-(2 ^ 64) < j && j < 2 ^ 64) then some (.int (i * j)) else none
  | .lst l, .int k => if -(2 ^ 63) ≤ k && k < 2 ^ 63 && l.length * k.toNat ≤ maxLen then some (.lst (List.replicate k.toNat l).flatten) else none
  | .d (.tup l), .int k => if !l.isEmpty && 2 ≤ k && k ≤ 1000 && l.length ≤ 1000 then some (.tup (List.replicate k.toNat l).flatten) else none
  | _, _ => none
def c_mul (fa fb : Ro → ER) : Ro → ER := fun ρ => match fa ρ with
  | .ok x ρ1 => match fb ρ1 with
    | .ok y ρ2 => match mulW x (frz y) with
      | some d => .ok (.d d) ρ2
      | none => .no
    | .ex x ρ2 => .ex x ρ2
    | .no => .no
  | .ex x ρ1 => .ex x ρ1
  | .no => .no
section
variable {X : Cx} {ca : Ca} {Wx : WX} {Z S S0 S1 S2 Sw T : AS} {σ σ0 σ1 : L2.St} {H H0 H1 H2 G : Hp} {ρ ρ0 ρ1 ρ2 : Ro} {q q1 q2 q3 k k1 k2 k3 : Bool} {a b c e : Expr} {es : List Expr} {fa fb fc fk fv : Ro → ER} {pos pos' p p2 : Pos} {pins : List (Addr × Obj)} {s : Shared} {pin : List Nat} {kk n : Nat}
theorem db_mul (ha : DE X ca Wx q1 a fa) (hb : DB X ca Wx q2 true b fb) : DB X ca Wx false true (.BinOp a .Mult b pos) (c_mul fa fb) := by
  refine ⟨⟨fun pins s σ H Q I ⟨Z, S, ρ, fr, po⟩ => wpAny_BinOp ?_⟩⟩
  unfold c_mul at po
  cases e : fa ρ with
  | no => rw [e] at po; exact po.elim
  | ex x ρ1 =>
    rw [e] at po
    exact thn (ha.run.run pins s σ H (fun _ _ => False) I ⟨Z, S, ρ, fr, by rw [e]; exact po⟩) fun _ _ ⟨_, _, _, _, z⟩ => z.elim
  | ok x ρ1 =>
    rw [e] at po
    refine thn (ha.run.run pins s σ H (fun v H' => OKE X ca Z S H q1 σ x ρ1 v H') I ⟨Z, S, ρ, fr, by rw [e]; exact fun v H' o => o⟩) fun u1 s1 ⟨v1, H1, I1, rv1, o⟩ => ?_
    obtain ⟨S1, Sa, n1, dj1, f1, r1⟩ := o.frm fr
    have nS1 : Nx S H q1 S1 H1 := n1.shrink fun _ z => .inl z
    simp only at po
    refine DB.bindSt hb I1 f1 (fun y ρ2 e2 v2 u2 s2 H2 I2 rv2 ⟨S2, n2, f2, rp2⟩ => ?_) (fun x ρ2 e2 => ?_) fun e2 => ?_
    · rw [e2] at po
      simp only at po
      cases em : mulW x (frz y) with
      | none => rw [em] at po; exact po.elim
      | some d =>
        rw [em] at po
        have hold : ∀ a o, Sa a → H1 a = some o → H2 a = some o := fun a o z eo => n2.keep a o (fun y => dj1 a y z) eo
        have rw2 : RepW X.prog X.w X.K ca (hid H2 (un (un Z Sa) S2)) H2 x v1 Sa := r1.mono n2.hid (fun _ z => z) hold
        have sub2 : Same (hid H2 (un (un Z Sa) S2)) (hid H2 (un Z S2)) := hid_anti fun b z => z.elim (fun z => .inl (.inl z)) .inr
        have f2' : Fr X ca Z S2 ρ2 σ H2 := ⟨fun b z y => f2.dj b (.inl z) y, fun b z => f2.az b (.inl z), f2.as, f2.rep.mono sub2 (fun _ z => z) (fun _ _ _ e => e), ca.km0 sub2 f2.kp⟩
        have fin : ∀ z H', Same H2 H' → RepD X.prog X.w X.K ca (hid H' (un Z S2)) d z → Q z H' := fun z H' sm r => po z H' ⟨S2, ((nS1.trans n2).trans (Nx.same sm f2'.as)).weak (fun z => nomatch z), f2'.same sm, RepKd.of r⟩
        have ry := rp2.d
        clear po e2 rp2
        generalize frz y = dy at em ry
        unfold mulW at em
        split at em
        · split at em
          · rename_i hc
            cases em
            have e1 : v1 = .int _ := rw2
            have e2 : v2 = .int _ := ry
            simp only [Bool.or_eq_true, Bool.and_eq_true, decide_eq_true_eq] at hc
            exact op_mul pins s2 σ H2 v1 v2 u1 u2 Q I2 rv1 rv2 ⟨_, _, e1, e2, hc, fin _ H2 (Same.refl _) rfl⟩
          · cases em
        · split at em
          · rename_i hc
            cases em
            obtain ⟨a, xs, e1, _, ha', rs⟩ := rw2
            have e2 : v2 = .int _ := ry
            simp only [Bool.and_eq_true, decide_eq_true_eq] at hc
            rw [maxLen_eq] at hc
            refine op_rep pins s2 σ H2 v1 v2 u1 u2 Q I2 rv1 rv2 ⟨a, _, xs, e1, e2, ha', hc.1.1, hc.1.2, by rw [← rs.length]; exact hc.2, fun p hp => fin _ _ (same_new hp) (rep_new_lst f2'.al hp ((rs.mono sub2).rep _))⟩
          · cases em
        · split at em
          · rename_i hc
            cases em
            obtain ⟨a, xs, e1, ha', rs⟩ := rw2
            have e2 : v2 = .int _ := ry
            simp only [Bool.and_eq_true, decide_eq_true_eq, Bool.not_eq_true'] at hc
            have hl := rs.length
            refine op_repT pins s2 σ H2 v1 v2 u1 u2 Q I2 rv1 rv2 ⟨a, _, xs, e1, e2, SqT.mono hid_same ha', fun z => ?_, hc.1.1.2, hc.1.2, by rw [← hl]; exact hc.2, fun p hp => fin _ _ (same_new hp) (rep_new_tup f2'.al hp ((rs.mono sub2).rep _))⟩
            rw [z] at hl
            rw [List.eq_nil_of_length_eq_zero hl] at hc
            cases hc.1.1.1
          · cases em
        · cases em
    · rw [e2] at po
      exact fun cls d H' o => po cls d H' (exe_cons n1 o)
    · rw [e2] at po; exact po
end
end L3

set_option Elab.async false
set_option linter.all false
set_option maxRecDepth 100000
set_option maxHeartbeats 1000000
/-! L4c: comprehensions with two clauses. -/
namespace L3
open PySem PySem.Spec PyProof.Rows L2

def comp2L (vs : List Nat) (t : Tg) (ft : Ro → ER) (src1 : Ro → LR) (vs1 : List Nat) (t1 : Tg) (ft1 fe : Ro → ER) : List D → List D → Ro → Option (List D × Ro)
  | [], acc, ρ => some (acc, ρ)
  | d :: r, acc, ρ => match t_set t d ρ with
    | some ρ1 => match ft ρ1 with
      | .ok (.d (.bl true)) ρ2 => match src1 ρ2 with
        | .ok l1 ρ3 => match compL vs1 t1 ft1 fe l1 acc (wipeR ρ3 vs1) with
          | some (acc', ρ4) => comp2L vs t ft src1 vs1 t1 ft1 fe r acc' (wipeR ρ4 vs)
          | none => none
        | _ => none
      | .ok (.d (.bl false)) ρ2 => comp2L vs t ft src1 vs1 t1 ft1 fe r acc (wipeR ρ2 vs)
      | _ => none
    | none => none
def c_comp2 (src : Ro → LR) (vs : List Nat) (t : Tg) (ft : Ro → ER) (src1 : Ro → LR) (vs1 : List Nat) (t1 : Tg) (ft1 fe : Ro → ER) : Ro → ER := fun ρ => match src ρ with
  | .ok l ρ1 => match comp2L vs t ft src1 vs1 t1 ft1 fe l [] (wipeR (frzSl vs ρ1) vs) with
    | some (acc, ρ2) => .ok (.lst acc) (restR (frzSl vs ρ1) vs ρ2)
    | none => .no
  | .ex x ρ1 => .ex x ρ1
  | .no => .no
section
variable {X : Cx} {ca : Ca} {Wx : WX} {Z S S0 S1 S2 Sw T : AS} {σ σ0 σ1 : L2.St} {H H0 H1 H2 G : Hp} {ρ ρ0 ρ1 ρ2 : Ro} {q q1 q2 q3 qs qt qe qs1 qt1 qb k kc k1 k2 k3 : Bool} {a b c e o tg iter elt tg1 iter1 : Expr} {es elts ifs ifs1 : List Expr} {fa fb fc fv fk ft fe ft1 : Ro → ER} {ga src src1 : Ro → LR} {pos pos' p p2 apos tpos : Pos} {pins : List (Addr × Obj)} {s : Shared} {pin : List Nat} {n : Nat}
/-- what has been kept since a state, but for the list at L -/
structure Sn (S4 : AS) (H4 : Hp) (q : Bool) (L : Addr) (S' : AS) (H : Hp) : Prop where
  keep : ∀ b o, ¬ S4 b → b ≠ L → H4 b = some o → H b = some o
  own : ∀ b, S' b → S4 b ∨ H4 b = none
  qt : q = true → ∀ b o, b ≠ L → H4 b = some o → H b = some o
theorem Sn.refl {S4 : AS} {H4 : Hp} {L : Addr} : Sn S4 H4 q L S4 H4 := ⟨fun _ _ _ _ e => e, fun _ z => .inl z, fun _ _ _ _ e => e⟩
theorem Sn.step {S4 S' : AS} {H4 : Hp} {L : Addr} (m : Sn S4 H4 q L S' H) (n : Nx S' H q2 S2 H2) (h : q = true → q2 = true) (hL : H L ≠ none) : Sn S4 H4 q L S2 H2 where
  keep := fun b o hb hl e => n.keep b o (fun z => (m.own b z).elim hb fun nn => by rw [e] at nn; cases nn) (m.keep b o hb hl e)
  own := fun b z => by
    rcases n.own b z with z | nn
    · exact m.own b z
    · by_cases hb : S4 b
      · exact .inl hb
      · cases e : H4 b with
        | none => exact .inr rfl
        | some o =>
          by_cases hl : b = L
          · subst hl; exact absurd nn hL
          · rw [m.keep b o hb hl e] at nn; cases nn
  qt := fun z b o hl e => n.qt (h z) b o (m.qt z b o hl e)
theorem Sn.chg {S4 S' : AS} {H4 : Hp} {L : Addr} {o : HO} (m : Sn S4 H4 q L S' H) : Sn S4 H4 q L S' (upd H L o) := ⟨fun b u hb hl e => by rw [upd_ne hl]; exact m.keep b u hb hl e, m.own, fun z b u hl e => by rw [upd_ne hl]; exact m.qt z b u hl e⟩
theorem MkL.alive {τ : L2.St} {L : Addr} {acc : List D} {S' : AS} (m : MkL X ca Z S1 H1 q τ L acc ρ1 S' H) : H L ≠ none := by
  obtain ⟨xs, e, _⟩ := m.lst
  rw [e]; simp
/-- the inner loop -/
theorem inner_loop {t : Tg} {vs pinc : List Nat} {J : It} {l acc acc' : List D} {τ : L2.St} {L : Addr} {S4 : AS} {H4 : Hp} {ρ4 ρ' : Ro} {N : Hp → Prop} (hτ : τ.length = n) (hkv : ∀ i ∈ vs, i ∉ ca.ks) (hpin : ∀ i, i < n → i ∉ vs → i ∈ pinc) (hqb : qb = true → qt = true ∧ qe = true) (hL : H1 L = none)
    (mk : MkL X ca Z S1 H1 qb τ L acc ρ4 S4 H4) (it : ItD X ca J l (Still true (hid H4 (un (un Z fun b => b = L) S4)) H4)) (ec : compL vs t ft fe l acc (wipeR ρ4 vs) = some (acc', ρ')) (hN : ∀ S' H, MkL X ca Z S1 H1 qb (L2.wipe τ vs) L acc' ρ' S' H → N H) :
    ∃ W : Nat → Nat → Hp → Prop, (∃ m, W 0 m H4) ∧ ∀ i m H, W i m H → (J.stop i H ∧ N H) ∨ (J.go i H ∧ ∃ Nx1 : Hp → Prop, (∀ H', Nx1 H' → ∃ m', m' < m ∧ W (i + 1) m' H') ∧ ∀ x H', J.yld i H x H' →
      ∃ Z' S ρ d ρ', Fr X ca Z' S ρ (L2.wipe τ vs) H' ∧ RepD X.prog X.w X.K ca (hid H' (un Z' S)) d x ∧ t_set t d ρ = some ρ' ∧ ∀ σ3 H5, OKG X ca pinc Z' S H' (L2.wipe τ vs) ρ' σ3 H5 → L2.wipe σ3 vs = L2.wipe τ vs ∧
        ∃ Z S ρ, Fr X ca Z S ρ σ3 H5 ∧ PoT X ca (fun _ _ _ _ => False) qt Z S σ3 H5 (ft ρ) fun b H6 => if b = true then ∃ Z S ρ, Fr X ca Z S ρ σ3 H6 ∧ PoB X ca (fun _ _ _ _ => False) qe true Z S σ3 H6 (fe ρ) fun y H7 => ∃ acc, H7 L = some (.lst acc) ∧ acc.length < sizeLine ∧ Nx1 (upd H7 L (.lst (acc ++ [y]))) else Nx1 H6) := by
  refine ⟨fun i m H => m = l.length - i ∧ i ≤ l.length ∧ ∃ S' acc0 ρ0, MkL X ca Z S1 H1 qb (L2.wipe τ vs) L acc0 ρ0 S' H ∧ Sn S4 H4 (qt && qe) L S' H ∧ compL vs t ft fe (l.drop i) acc0 ρ0 = some (acc', ρ'), ⟨l.length, by simp, Nat.zero_le _, S4, acc, _, mk.wipe vs hkv, Sn.refl, ec⟩, ?_⟩
  rintro i m H5 ⟨rfl, hi, S', acc0, ρ0, mk', sn, ec'⟩
  have stl : Still true (hid H4 (un (un Z fun b => b = L) S4)) H4 H5 (un (un Z fun b => b = L) S') := by
    refine ⟨fun b o e => ?_, fun z => nomatch z⟩
    rw [hid_some] at *
    have nS : ¬ S4 b := fun z => e.2 (.inr z)
    have nL : b ≠ L := fun z => e.2 (.inl (.inr z))
    refine ⟨sn.keep b o nS nL e.1, fun z => ?_⟩
    rcases z with z | z
    · exact e.2 (.inl z)
    · exact (sn.own b z).elim nS fun nn => by rw [e.1] at nn; cases nn
  obtain ⟨it1, it2⟩ := it H5 _ stl mk'.fr.al
  by_cases hlt : i < l.length
  · have ed : l[i]? = some l[i] := by simp [hlt]
    rw [List.drop_eq_getElem_cons hlt] at ec'
    unfold compL at ec'
    cases et : t_set t l[i] ρ0 with
    | none => rw [et] at ec'; cases ec'
    | some ρ2 =>
      rw [et] at ec'
      simp only at ec'
      obtain ⟨hgo, hy⟩ := it1 i _ ed
      refine .inr ⟨hgo, fun H' => i + 1 ≤ l.length ∧ ∃ S' acc0 ρ0, MkL X ca Z S1 H1 qb (L2.wipe τ vs) L acc0 ρ0 S' H' ∧ Sn S4 H4 (qt && qe) L S' H' ∧ compL vs t ft fe (l.drop (i + 1)) acc0 ρ0 = some (acc', ρ'), fun H' ⟨w1, w2⟩ => ⟨l.length - (i + 1), by omega, rfl, w1, w2⟩, fun x H3 y => ?_⟩
      obtain ⟨sm, rx⟩ := hy x H3 y
      have nsm : Nx S' H5 true S' H3 := Nx.same sm mk'.fr.as
      have mk3 := mk'.step nsm (fun _ => rfl) (mk'.fr.same sm)
      have sn3 := sn.step nsm (fun _ => rfl) mk'.alive
      refine ⟨un Z fun b => b = L, S', ρ0, l[i], ρ2, mk3.fr, rx, et, fun σ4 H4' ⟨S6, n4, f4, p4⟩ => ?_⟩
      have hl4 : σ4.length = τ.length := by
        have h1 := f4.rep.len
        have h2 := mk3.fr.rep.len
        rw [wipe_length] at h2
        rw [← h1, t_set_len t et, h2]
      have hw : L2.wipe σ4 vs = L2.wipe τ vs := by
        have hpw : Pn pinc (L2.wipe τ vs) σ4 := p4
        exact wipe_pin hl4 (fun j hj hv => hpin j (by rw [← hτ]; exact hj) hv) hpw
      have mk4 := mk3.step n4 (fun _ => rfl) f4
      have sn4 := sn3.step n4 (fun _ => rfl) mk3.alive
      refine ⟨hw, un Z fun b => b = L, S6, ρ2, f4, ?_⟩
      cases e6 : ft ρ2 with
      | no => rw [e6] at ec'; cases ec'
      | ex _ _ => rw [e6] at ec'; cases ec'
      | ok wt ρ3 =>
        rw [e6] at ec'
        cases wt with
        | d dt =>
          cases dt <;> first | cases ec' | skip
          rename_i bt
          intro H6 ⟨S7, n6, f6⟩
          have mk6 := mk4.step n6 (fun z => (hqb z).1) f6
          have sn6 := sn4.step n6 (fun z => (Bool.and_eq_true_iff.mp z).1) mk4.alive
          cases bt with
          | false =>
            simp only at ec'
            rw [if_neg Bool.false_ne_true]
            have mw := mk6.wipe vs hkv
            rw [hw] at mw
            exact ⟨hlt, S7, acc0, _, mw, sn6, ec'⟩
          | true =>
            simp only at ec'
            rw [if_pos rfl]
            refine ⟨un Z fun b => b = L, S7, ρ3, f6, ?_⟩
            cases e7 : fe ρ3 with
            | no => rw [e7] at ec'; cases ec'
            | ex _ _ => rw [e7] at ec'; cases ec'
            | ok we ρ5 =>
              rw [e7] at ec'
              simp only at ec'
              split at ec'
              · rename_i hz
                intro v H7 ⟨S8, n7, f7, r7⟩
                have mk7 := mk6.step n7 (fun z => (hqb z).2) f7
                have sn7 := sn6.step n7 (fun z => (Bool.and_eq_true_iff.mp z).2) mk6.alive
                obtain ⟨xs, hx, hxl, mk8⟩ := mk7.snoc hL r7.d
                rw [maxLen_eq] at hz
                have mw := mk8.wipe vs hkv
                rw [hw] at mw
                exact ⟨xs, hx, by rw [hxl]; exact hz, hlt, S8, _, _, mw, sn7.chg, ec'⟩
              · cases ec'
        | _ => cases ec'
  · have e1 : i = l.length := by omega
    subst e1
    rw [List.drop_eq_nil_of_le (Nat.le_refl _)] at ec'
    unfold compL at ec'
    cases ec'
    exact .inl ⟨it2 _ (Nat.le_refl _), hN S' H5 mk'⟩
theorem wipe_wipe {τ : L2.St} {vs vs1 : List Nat} (h : ∀ i ∈ vs1, i ∈ vs) : L2.wipe (L2.wipe τ vs1) vs = L2.wipe τ vs := by
  apply List.ext_getElem?
  intro i
  by_cases hi : i < τ.length
  · by_cases hv : i ∈ vs
    · rw [wipe_in hv (by rw [wipe_length]; exact hi), wipe_in hv hi]
    · rw [wipe_out hv, wipe_out hv, wipe_out fun z => hv (h i z)]
  · rw [List.getElem?_eq_none (by rw [wipe_length, wipe_length]; omega), List.getElem?_eq_none (by rw [wipe_length]; omega)]
/-- the reading of a comprehension with two clauses -/
theorem comp2_read {t t1 : Tg} {vs vs1 pinc pinc1 : List Nat} {Q : VK} (hσ : σ.length = n) (hnd : vs.Nodup) (hkv : ∀ i ∈ vs, i ∉ ca.ks) (hsub : ∀ i ∈ vs1, i ∈ vs) (hpin : ∀ i, i < n → i ∉ vs → i ∈ pinc) (hpin1 : ∀ i, i < n → i ∉ vs1 → i ∈ pinc1) (hqb : qb = true → qt = true ∧ qs1 = true ∧ qt1 = true ∧ qe = true) (hq : k = true ∨ qb = true) (fr : Fr X ca Z S ρ σ H)
    (po : PoE X ca Wx (qs && qb) Z S σ H (c_comp2 src vs t ft src1 vs1 t1 ft1 fe ρ) Q) :
    tLc2 (fun σ H R => ∃ Z S ρ, Fr X ca Z S ρ σ H ∧ PoI X ca Wx qs k Z S σ H (src ρ) R) (fun v σ H Q => ∃ Z S ρ d ρ', Fr X ca Z S ρ σ H ∧ RepD X.prog X.w X.K ca (hid H (un Z S)) d v ∧ t_set t d ρ = some ρ' ∧ ∀ σ' H', OKG X ca pinc Z S H σ ρ' σ' H' → Q σ' H')
      (fun σ H Q => ∃ Z S ρ, Fr X ca Z S ρ σ H ∧ PoT X ca (fun _ _ _ _ => False) qt Z S σ H (ft ρ) Q)
      (fun σ H R => ∃ Z S ρ, Fr X ca Z S ρ σ H ∧ PoI X ca (fun _ _ _ _ => False) qs1 true Z S σ H (src1 ρ) R) (fun v σ H Q => ∃ Z S ρ d ρ', Fr X ca Z S ρ σ H ∧ RepD X.prog X.w X.K ca (hid H (un Z S)) d v ∧ t_set t1 d ρ = some ρ' ∧ ∀ σ' H', OKG X ca pinc1 Z S H σ ρ' σ' H' → Q σ' H')
      (fun σ H Q => ∃ Z S ρ, Fr X ca Z S ρ σ H ∧ PoT X ca (fun _ _ _ _ => False) qt1 Z S σ H (ft1 ρ) Q)
      (fun σ H Q => ∃ Z S ρ, Fr X ca Z S ρ σ H ∧ PoB X ca (fun _ _ _ _ => False) qe true Z S σ H (fe ρ) Q) vs vs1 σ H Q := by
  refine ⟨Z, S, ρ, fr, ?_⟩
  unfold c_comp2 at po
  cases e0 : src ρ with
  | no => rw [e0] at po; exact po
  | ex x ρ1 => rw [e0] at po; exact po
  | ok l ρ1 =>
    rw [e0] at po
    intro J H1 ⟨S1, n1, f1, it⟩ L hL
    simp only at po
    cases ec : comp2L vs t ft src1 vs1 t1 ft1 fe l [] (wipeR (frzSl vs ρ1) vs) with
    | none => rw [ec] at po; exact po.elim
    | some r =>
      obtain ⟨accF, ρF⟩ := r
      rw [ec] at po
      obtain ⟨S1', sb, f1'⟩ := f1.frzSl vs
      have f1w := f1'.wipe vs hkv
      refine ⟨fun i m H => m = l.length - i ∧ i ≤ l.length ∧ ∃ S' acc ρ', MkL X ca Z S1' H1 qb (L2.wipe σ vs) L acc ρ' S' H ∧ comp2L vs t ft src1 vs1 t1 ft1 fe (l.drop i) acc ρ' = some (accF, ρF), ⟨l.length, by simp, Nat.zero_le _, S1', [], _, ⟨fun b o _ e => same_new hL b o e, fun b z => .inl z, fun _ => same_new hL, f1w.apart hL, [], upd_same, rfl⟩, ec⟩, ?_⟩
      rintro i m H5 ⟨rfl, hi, S', acc, ρ', mk, ec'⟩
      have stl : Still k (hid H1 (un Z S1)) H1 H5 (un (un Z fun b => b = L) S') := by
        refine ⟨fun b o e => ?_, fun hk => mk.qt (hq.resolve_left (by rw [hk]; decide))⟩
        rw [hid_some] at *
        have nS : ¬ S1' b := fun z => e.2 (.inr (sb b z))
        refine ⟨mk.keep b o nS e.1, fun z => ?_⟩
        rcases z with (z | z) | z
        · exact e.2 (.inl z)
        · rw [z, hL] at e; cases e.1
        · exact (mk.own b z).elim nS fun nn => by rw [e.1] at nn; cases nn
      obtain ⟨it1, it2⟩ := it H5 _ stl mk.fr.al
      by_cases hlt : i < l.length
      · have ed : l[i]? = some l[i] := by simp [hlt]
        rw [List.drop_eq_getElem_cons hlt] at ec'
        unfold comp2L at ec'
        cases et : t_set t l[i] ρ' with
        | none => rw [et] at ec'; cases ec'
        | some ρ2 =>
          rw [et] at ec'
          simp only at ec'
          obtain ⟨hgo, hy⟩ := it1 i _ ed
          refine .inr ⟨hgo, fun H' => i + 1 ≤ l.length ∧ ∃ S' acc ρ', MkL X ca Z S1' H1 qb (L2.wipe σ vs) L acc ρ' S' H' ∧ comp2L vs t ft src1 vs1 t1 ft1 fe (l.drop (i + 1)) acc ρ' = some (accF, ρF), fun H' ⟨w1, w2⟩ => ⟨l.length - (i + 1), by omega, rfl, w1, w2⟩, fun x H3 y => ?_⟩
          obtain ⟨sm, rx⟩ := hy x H3 y
          have nsm : Nx S' H5 true S' H3 := Nx.same sm mk.fr.as
          have mk3 := mk.step nsm (fun _ => rfl) (mk.fr.same sm)
          refine ⟨un Z fun b => b = L, S', ρ', l[i], ρ2, mk3.fr, rx, et, fun σ4 H4 ⟨S4, n4, f4, p4⟩ => ?_⟩
          have hl4 : σ4.length = σ.length := by
            have h1 := f4.rep.len
            have h2 := mk3.fr.rep.len
            rw [wipe_length] at h2
            rw [← h1, t_set_len t et, h2]
          have hw : L2.wipe σ4 vs = L2.wipe σ vs := by
            have hpw : Pn pinc (L2.wipe σ vs) σ4 := p4
            exact wipe_pin hl4 (fun j hj hv => hpin j (by rw [← hσ]; exact hj) hv) hpw
          have mk4 := mk3.step n4 (fun _ => rfl) f4
          refine ⟨hw, un Z fun b => b = L, S4, ρ2, f4, ?_⟩
          cases e6 : ft ρ2 with
          | no => rw [e6] at ec'; cases ec'
          | ex _ _ => rw [e6] at ec'; cases ec'
          | ok wt ρ3 =>
            rw [e6] at ec'
            cases wt with
            | d dt =>
              cases dt <;> first | cases ec' | skip
              rename_i bt
              intro H6 ⟨S6, n6, f6⟩
              have mk6 := mk4.step n6 (fun z => (hqb z).1) f6
              cases bt with
              | false =>
                simp only at ec'
                rw [if_neg Bool.false_ne_true]
                have mw := mk6.wipe vs hkv
                rw [hw] at mw
                exact ⟨hlt, S6, acc, _, mw, ec'⟩
              | true =>
                simp only at ec'
                rw [if_pos rfl]
                refine ⟨un Z fun b => b = L, S6, ρ3, f6, ?_⟩
                cases e7 : src1 ρ3 with
                | no => rw [e7] at ec'; cases ec'
                | ex _ _ => rw [e7] at ec'; cases ec'
                | ok l1 ρ4 =>
                  rw [e7] at ec'
                  simp only at ec'
                  intro J1 H7 ⟨S7, n7, f7, it7⟩
                  have mk7 := mk6.step n7 (fun z => (hqb z).2.1) f7
                  cases e8 : compL vs1 t1 ft1 fe l1 acc (wipeR ρ4 vs1) with
                  | none => rw [e8] at ec'; cases ec'
                  | some r8 =>
                    obtain ⟨acc', ρ8⟩ := r8
                    rw [e8] at ec'
                    simp only at ec'
                    refine inner_loop (n := n) (by rw [hl4, hσ]) (fun i hi => hkv i (hsub i hi)) hpin1 (fun z => (hqb z).2.2) hL mk7 it7 e8 fun S8 H8 mk8 => ?_
                    have mw := mk8.wipe vs hkv
                    rw [wipe_wipe hsub, hw] at mw
                    exact ⟨hlt, S8, _, _, mw, ec'⟩
            | _ => cases ec'
      · have e1 : i = l.length := by omega
        subst e1
        rw [List.drop_eq_nil_of_le (Nat.le_refl _)] at ec'
        unfold comp2L at ec'
        cases ec'
        have nS : ∀ b, S' b → S1 b ∨ H1 b = none := fun b z => (mk.own b z).imp_left (sb b)
        have hh : ∀ b, S1 b ∨ H1 b = none → S b ∨ H b = none := fun b z => z.elim (n1.own b) fun nn => by
          by_cases hb : S b
          · exact .inl hb
          · exact .inr (n1.free nn hb)
        have eG : hid H5 (un Z (un S' fun b => b = L)) = hid H5 (un (un Z fun b => b = L) S') := hid_congr fun a => by
          simp only [un]
          constructor
          · rintro (h | h | h) <;> simp [h]
          · rintro ((h | h) | h) <;> simp [h]
        have gm : Same (hid H1 (un Z S1')) (hid H5 (un (un Z fun b => b = L) S')) := fun b o e => by
          rw [hid_some] at *
          have nSb : ¬ S1' b := fun z => e.2 (.inr z)
          refine ⟨mk.keep b o nSb e.1, fun z => ?_⟩
          rcases z with (z | z) | z
          · exact e.2 (.inl z)
          · rw [z, hL] at e; cases e.1
          · exact (mk.own b z).elim nSb fun nn => by rw [e.1] at nn; cases nn
        obtain ⟨xs, hxs, rxs⟩ := mk.lst
        refine .inl ⟨it2 _ (Nat.le_refl _), po _ H5 ⟨S', (fun b => b = L), ⟨fun b o hb e => ?_, fun b z => ?_, fun b z => ?_, fun z => ?_⟩, fun b z y => mk.fr.dj b (.inr y) z, ?_, ?_⟩⟩
        · have h1 := n1.keep b o hb e
          exact mk.keep b o (fun z => (n1.own b (sb b z)).elim hb fun nn => by rw [e] at nn; cases nn) h1
        · exact z.elim (fun z => hh b (nS b z)) fun z => hh b (.inr (by rw [z]; exact hL))
        · exact z.elim (fun z => mk.fr.as b z) fun z => by rw [z, hxs]; simp
        · rw [Bool.and_eq_true] at z
          exact (n1.qt z.1).trans (mk.qt z.2)
        · rw [eG]
          refine RepSl.rest hnd (fun v hv z ez => ?_) mk.fr.rep
          obtain ⟨d, rfl⟩ := frzSl_data hv ez
          have ez' : (frzSl vs ρ1)[v]? = some (some (.d d)) := by
            rw [List.getD_eq_getElem?_getD] at ez
            cases e9 : (frzSl vs ρ1)[v]? with
            | none => rw [e9] at ez; cases ez
            | some o =>
              rw [e9] at ez
              have : o = some (.d d) := ez
              rw [this]
          obtain ⟨x, T9, ex, _, rx⟩ := f1'.rep.get ez'
          exact ⟨d, x, rfl, ex, RepD.mono gm d rx⟩
        · rw [eG]
          exact ⟨L, xs, rfl, rfl, hxs, rxs⟩
theorem and4 {a b c d : Bool} (h : (a && (b && (c && d))) = true) : a = true ∧ b = true ∧ c = true ∧ d = true := by
  cases a <;> cases b <;> cases c <;> cases d <;> simp_all
/-- [elt for tg in iter if .. for tg1 in iter1 if ..] -/
theorem de_comp2 {t t1 : Tg} {scope : Scope} {own : List (Str × Nat)} {vs vs1 pinc pinc1 : List Nat} (hc : X.calm = true) (hN : X.N.Nodup) (hi : DI X ca Wx qs k tg iter src) (ok : BlkOk X.N X.env.scope scope own)
    (hg : ∀ (s : Shared) (H : Hp) (C : Addr) (cl : List (Str × Addr)) (fp : List Addr), DG (X.blk s H scope (compEnvC scope cl C X.env) fp) ca pinc tg t) (ht : ∀ (s : Shared) (H : Hp) (C : Addr) (cl : List (Str × Addr)) (fp : List Addr), DTs (X.blk s H scope (compEnvC scope cl C X.env) fp) ca (fun _ _ _ _ => False) qt ifs ft)
    (hi1 : ∀ (s : Shared) (H : Hp) (C : Addr) (cl : List (Str × Addr)) (fp : List Addr), DI (X.blk s H scope (compEnvC scope cl C X.env) fp) ca (fun _ _ _ _ => False) qs1 true tg1 iter1 src1)
    (hg1 : ∀ (s : Shared) (H : Hp) (C : Addr) (cl : List (Str × Addr)) (fp : List Addr), DG (X.blk s H scope (compEnvC scope cl C X.env) fp) ca pinc1 tg1 t1) (ht1 : ∀ (s : Shared) (H : Hp) (C : Addr) (cl : List (Str × Addr)) (fp : List Addr), DTs (X.blk s H scope (compEnvC scope cl C X.env) fp) ca (fun _ _ _ _ => False) qt1 ifs1 ft1)
    (he : ∀ (s : Shared) (H : Hp) (C : Addr) (cl : List (Str × Addr)) (fp : List Addr), DB (X.blk s H scope (compEnvC scope cl C X.env) fp) ca (fun _ _ _ _ => False) qe true elt fe)
    (hvs : own.map (·.2) = vs := by rfl) (hnd : vs.Nodup := by decide) (hkv : ∀ i ∈ vs, i ∉ ca.ks := by first | exact fun _ _ => List.not_mem_nil | exact ksv (by decide)) (hsub : ∀ i ∈ vs1, i ∈ vs := by decide) (hpin : ∀ i, i < n → i ∉ vs → i ∈ pinc := by decide) (hpin1 : ∀ i, i < n → i ∉ vs1 → i ∈ pinc1 := by decide) (hlen : X.N.length = n := by rfl)
    (hq : k = true ∨ (qt && (qs1 && (qt1 && qe))) = true := by first | exact .inl rfl | exact .inr rfl) (hs : ∀ x, foldedSetIterable iter X.env x = pure x := by intro _; rfl) (hs1 : ∀ env x, foldedSetIterable iter1 env x = pure x := by intro _ _; rfl) :
    DE X ca Wx (qs && (qt && (qs1 && (qt1 && qe)))) (.ListComp elt [⟨tg, iter, ifs, 0⟩, ⟨tg1, iter1, ifs1, 0⟩] scope pos) (c_comp2 src vs t ft src1 vs1 t1 ft1 fe) := by
  subst hvs
  refine ⟨⟨fun pins s σ H Q I ⟨Z, S, ρ, fr, po⟩ => ?_⟩⟩
  exact (pe_lc2 (g := fun v σ H Q => ∃ Z S ρ d ρ', Fr X ca Z S ρ σ H ∧ RepD X.prog X.w X.K ca (hid H (un Z S)) d v ∧ t_set t d ρ = some ρ' ∧ ∀ σ' H', OKG X ca pinc Z S H σ ρ' σ' H' → Q σ' H')
    (tt := fun σ H Q => ∃ Z S ρ, Fr X ca Z S ρ σ H ∧ PoT X ca (fun _ _ _ _ => False) qt Z S σ H (ft ρ) Q)
    (wi1 := fun σ H R => ∃ Z S ρ, Fr X ca Z S ρ σ H ∧ PoI X ca (fun _ _ _ _ => False) qs1 true Z S σ H (src1 ρ) R)
    (g1 := fun v σ H Q => ∃ Z S ρ d ρ', Fr X ca Z S ρ σ H ∧ RepD X.prog X.w X.K ca (hid H (un Z S)) d v ∧ t_set t1 d ρ = some ρ' ∧ ∀ σ' H', OKG X ca pinc1 Z S H σ ρ' σ' H' → Q σ' H')
    (tt1 := fun σ H Q => ∃ Z S ρ, Fr X ca Z S ρ σ H ∧ PoT X ca (fun _ _ _ _ => False) qt1 Z S σ H (ft1 ρ) Q)
    (te := fun σ H Q => ∃ Z S ρ, Fr X ca Z S ρ σ H ∧ PoB X ca (fun _ _ _ _ => False) qe true Z S σ H (fe ρ) Q)
    hc hN hi.run ok hsub (fun s H C cl fp => (hg s H C cl fp).run) (fun s H C cl fp => (ht s H C cl fp).run) (fun s H C cl fp => (hi1 s H C cl fp).run) (fun s H C cl fp => (hg1 s H C cl fp).run) (fun s H C cl fp => (ht1 s H C cl fp).run) (fun s H C cl fp => (he s H C cl fp).run) hs hs1).run pins s σ H Q I (comp2_read (by rw [I.len, hlen]) hnd hkv hsub hpin hpin1 and4 hq fr po)
/-- name = [.. for .. for ..] on one line -/
theorem ds_setLc2 {i : Nat} {y : Str} {py spos : Pos} {t t1 : Tg} {scope : Scope} {own : List (Str × Nat)} {vs vs1 pinc pinc1 : List Nat} (hc : X.calm = true) (hN : X.N.Nodup) (hy : X.N[i]? = some y) (hyl : X.env.scope.names.lookup y = some .local) (hi : DI X ca Wx qs k tg iter src) (ok : BlkOk X.N X.env.scope scope own)
    (hg : ∀ (s : Shared) (H : Hp) (C : Addr) (cl : List (Str × Addr)) (fp : List Addr), DG (X.blk s H scope (compEnvC scope cl C X.env) fp) ca pinc tg t) (ht : ∀ (s : Shared) (H : Hp) (C : Addr) (cl : List (Str × Addr)) (fp : List Addr), DTs (X.blk s H scope (compEnvC scope cl C X.env) fp) ca (fun _ _ _ _ => False) qt ifs ft)
    (hi1 : ∀ (s : Shared) (H : Hp) (C : Addr) (cl : List (Str × Addr)) (fp : List Addr), DI (X.blk s H scope (compEnvC scope cl C X.env) fp) ca (fun _ _ _ _ => False) qs1 true tg1 iter1 src1)
    (hg1 : ∀ (s : Shared) (H : Hp) (C : Addr) (cl : List (Str × Addr)) (fp : List Addr), DG (X.blk s H scope (compEnvC scope cl C X.env) fp) ca pinc1 tg1 t1) (ht1 : ∀ (s : Shared) (H : Hp) (C : Addr) (cl : List (Str × Addr)) (fp : List Addr), DTs (X.blk s H scope (compEnvC scope cl C X.env) fp) ca (fun _ _ _ _ => False) qt1 ifs1 ft1)
    (he : ∀ (s : Shared) (H : Hp) (C : Addr) (cl : List (Str × Addr)) (fp : List Addr), DB (X.blk s H scope (compEnvC scope cl C X.env) fp) ca (fun _ _ _ _ => False) qe true elt fe)
    (hpn : i ∉ pin := by decide) (hks : i ∉ ca.ks := by first | exact List.not_mem_nil | exact ks1 (by decide)) (hsw : swapsWith (.ListComp elt [⟨tg, iter, ifs, 0⟩, ⟨tg1, iter1, ifs1, 0⟩] scope pos) (some (.Name y py)) spos.line X.env = pure true := by exact sw_true rfl rfl rfl rfl)
    (hvs : own.map (·.2) = vs := by rfl) (hnd : vs.Nodup := by decide) (hkv : ∀ i ∈ vs, i ∉ ca.ks := by first | exact fun _ _ => List.not_mem_nil | exact ksv (by decide)) (hsub : ∀ i ∈ vs1, i ∈ vs := by decide) (hpin : ∀ i, i < n → i ∉ vs → i ∈ pinc := by decide) (hpin1 : ∀ i, i < n → i ∉ vs1 → i ∈ pinc1 := by decide) (hlen : X.N.length = n := by rfl)
    (hq : k = true ∨ (qt && (qs1 && (qt1 && qe))) = true := by first | exact .inl rfl | exact .inr rfl) (hs : ∀ x, foldedSetIterable iter X.env x = pure x := by intro _; rfl) (hs1 : ∀ env x, foldedSetIterable iter1 env x = pure x := by intro _ _; rfl) :
    DS X ca Wx pin (.Assign [.Name y py] (.ListComp elt [⟨tg, iter, ifs, 0⟩, ⟨tg1, iter1, ifs1, 0⟩] scope pos) spos) (s_set i (c_comp2 src vs t ft src1 vs1 t1 ft1 fe)) := by
  subst hvs
  refine ⟨⟨fun pins s σ H D I ⟨Z, S, ρ, fr, po⟩ => ?_⟩⟩
  refine (ps_setLc2 (g := fun v σ H Q => ∃ Z S ρ d ρ', Fr X ca Z S ρ σ H ∧ RepD X.prog X.w X.K ca (hid H (un Z S)) d v ∧ t_set t d ρ = some ρ' ∧ ∀ σ' H', OKG X ca pinc Z S H σ ρ' σ' H' → Q σ' H')
    (tt := fun σ H Q => ∃ Z S ρ, Fr X ca Z S ρ σ H ∧ PoT X ca (fun _ _ _ _ => False) qt Z S σ H (ft ρ) Q)
    (wi1 := fun σ H R => ∃ Z S ρ, Fr X ca Z S ρ σ H ∧ PoI X ca (fun _ _ _ _ => False) qs1 true Z S σ H (src1 ρ) R)
    (g1 := fun v σ H Q => ∃ Z S ρ d ρ', Fr X ca Z S ρ σ H ∧ RepD X.prog X.w X.K ca (hid H (un Z S)) d v ∧ t_set t1 d ρ = some ρ' ∧ ∀ σ' H', OKG X ca pinc1 Z S H σ ρ' σ' H' → Q σ' H')
    (tt1 := fun σ H Q => ∃ Z S ρ, Fr X ca Z S ρ σ H ∧ PoT X ca (fun _ _ _ _ => False) qt1 Z S σ H (ft1 ρ) Q)
    (te := fun σ H Q => ∃ Z S ρ, Fr X ca Z S ρ σ H ∧ PoB X ca (fun _ _ _ _ => False) qe true Z S σ H (fe ρ) Q)
    hc hN hy hyl hsw hi.run ok hsub (fun s H C cl fp => (hg s H C cl fp).run) (fun s H C cl fp => (ht s H C cl fp).run) (fun s H C cl fp => (hi1 s H C cl fp).run) (fun s H C cl fp => (hg1 s H C cl fp).run) (fun s H C cl fp => (ht1 s H C cl fp).run) (fun s H C cl fp => (he s H C cl fp).run) hs hs1).run pins s σ H D I ?_
  refine comp2_read (Q := fun x H1 => D.nx (σ.set i (some x)) H1) (by rw [I.len, hlen]) hnd hkv hsub hpin hpin1 and4 hq fr ?_
  unfold s_set at po
  cases e : c_comp2 src (own.map (·.2)) t ft src1 vs1 t1 ft1 fe ρ with
  | ok w ρ1 => rw [e] at po; exact fun v H' o => po _ H' (oke_store fr o hpn hks)
  | ex x ρ1 => rw [e] at po; exact fun cls d H' o => po cls d σ H' o.x
  | no => rw [e] at po; exact po
end
end L3

set_option Elab.async false
set_option linter.all false
set_option maxRecDepth 100000
set_option maxHeartbeats 1000000
/-! L4d: {k: v}. -/
namespace L3
open PySem PySem.Spec PyProof.Rows L2
section
variable {X : Cx} {ca : Ca} {Wx : WX} {Z S S0 S1 S2 Sw T : AS} {σ σ0 σ1 : L2.St} {H H0 H1 H2 G : Hp} {ρ ρ0 ρ1 ρ2 : Ro} {q q1 q2 q3 k k1 k2 k3 : Bool} {a b c e : Expr} {es : List Expr} {fa fb fc fk fv : Ro → ER} {pos pos' p p2 : Pos} {pins : List (Addr × Obj)} {s : Shared} {pin : List Nat} {kk n : Nat}
/-- the end of a display: the dict at L, set apart, now holds the pair -/
theorem dic1_end {L : Addr} {o : HO} {kd vd : D} (hL : H L = none) (fr : Fr X ca Z S ρ σ H) (n : Nx S (upd H L (.dK [])) q S2 H2) (f2 : Fr X ca (un Z fun b => b = L) S2 ρ2 σ H2) (hd : ∀ G', Same (hid H2 (un (un Z fun b => b = L) S2)) G' → DicAt X.prog X.w X.K ca G' (upd H2 L o) [kd] [vd] L) :
    OKE X ca Z S H q σ (.dic [kd] [vd]) ρ2 (.ref L) (upd H2 L o) := by
  have eG : hid (upd H2 L o) (un Z (un S2 fun b => b = L)) = hid H2 (un (un Z fun b => b = L) S2) := by
    rw [hid_upd (.inr (.inr rfl))]
    exact hid_congr fun a => by
      simp only [un]
      constructor
      · rintro (h | h | h) <;> simp [h]
      · rintro ((h | h) | h) <;> simp [h]
  have nL : ¬ S2 L := fun z => f2.dj L (.inr rfl) z
  have keep : ∀ b u, ¬ S b → H b = some u → upd H2 L o b = some u := fun b u hb e => by
    have : b ≠ L := fun z => by rw [z, hL] at e; cases e
    rw [upd_ne this]
    exact n.keep b u hb (by rw [upd_ne this]; exact e)
  refine ⟨S2, (fun b => b = L), ⟨keep, fun b z => ?_, fun b z => ?_, fun z b u e => ?_⟩, fun b z y => nL (y ▸ z), ?_, L, rfl, rfl, ?_⟩
  · rcases z with z | z
    · rcases n.own b z with z | nn
      · exact .inl z
      · by_cases hb : b = L
        · rw [hb]; exact .inr hL
        · rw [upd_ne hb] at nn; exact .inr nn
    · rw [z]; exact .inr hL
  · by_cases hb : b = L
    · rw [hb, upd_same]; simp
    · rw [upd_ne hb]
      rcases z with z | z
      · exact f2.as b z
      · exact absurd z hb
  · have : b ≠ L := fun z => by rw [z, hL] at e; cases e
    rw [upd_ne this]
    exact n.qt z b u (by rw [upd_ne this]; exact e)
  · rw [eG]
    exact f2.rep.mono (Same.refl _) (fun _ z => z) fun b u z e => by
      have : b ≠ L := by rintro rfl; exact nL z
      rw [upd_ne this]
      exact e
  · rw [eG]
    exact hd _ (Same.refl _)
theorem de_dic1 (hu : X.A.units + 64 < cLine) (hk : DB X ca Wx q1 true a fk) (hv : DB X ca Wx q2 true b fv) : DE X ca Wx (q1 && q2) (.Dict [some a] [b] pos) (c_dic1 fk fv) := by
  refine ⟨⟨fun pins s σ H Q I ⟨Z, S, ρ, fr, po⟩ => ?_⟩⟩
  have hn := I.hok.fresh (Nat.le_refl s.heap.objs.size)
  have I1 := I.laid (a := s.heap.objs.size) (o := .dK []) (h' := s.heap.push { cls := .type "dict", data := .dict #[] }) (t' := s.toks) (fun _ _ q => Heap.get?_push_of_some _ q) (Nat.le_refl _) (dk_empty s.heap I.big)
  generalize hLe : s.heap.objs.size = L at hn I1
  have f1 : Fr X ca (un Z fun b => b = L) S ρ σ (upd H L (.dK [])) := fr.apart hn
  -- both parts, from the left; Post: what the stores need
  have both : ∀ {Post : Value → Value → Shared → Prop}, (∀ (kw vw : W) (ρ1 ρ2 : Ro) (H2 : Hp) (S2 : AS) (y z : V) (u r : Value) (s2 : Shared), fk ρ = .ok kw ρ1 → Inv X pins σ H2 s2 → Nx S (upd H L (.dK [])) (q1 && q2) S2 H2 → Fr X ca (un Z fun b => b = L) S2 ρ2 σ H2 → RelV y u → RelV z r → RepD X.prog X.w X.K ca (hid H2 (un (un Z fun b => b = L) S2)) (frz kw) y → RepD X.prog X.w X.K ca (hid H2 (un (un Z fun b => b = L) S2)) (frz vw) z →
      (keyK (frz kw) || keyN (frz kw)) = true → (∀ v H', OKE X ca Z S H (q1 && q2) σ (.dic [frz kw] [frz vw]) ρ2 v H' → Q v H') → Post u r s2) →
      wpAny (model X.prog X.w) X.A (eval a X.env) (fun u s₁ => wpAny (model X.prog X.w) X.A (eval b X.env) (fun r s₂ => Post u r s₂) X.xe s₁) X.xe { s with heap := s.heap.push { cls := .type "dict", data := .dict #[] } } := by
    intro Post hp
    have gox : ∀ {x ρ'} {S' H'} {q' : Bool}, PoE X ca Wx (q1 && q2) Z S σ H (.ex x ρ') Q → Nx S (upd H L (.dK [])) q' S' H' → ∀ cls d H'', EXE X ca (un Z fun b => b = L) S' H' σ x ρ' cls d H'' → Wx cls d σ H'' := by
      intro x ρ' S' H' q' po n cls d H'' ⟨S2, n2, f2, x2⟩
      have n3 := n.trans n2
      refine po cls d H'' ⟨S2, ⟨fun c u hb e => ?_, fun c z => ?_, f2.as, fun z => nomatch z⟩, ⟨fun c z y => f2.dj c (.inl z) y, fun c z => f2.az c (.inl z), f2.as, f2.rep.mono ?_ (fun _ z => z) (fun _ _ _ e => e), ca.km0 ?_ f2.kp⟩, ?_⟩
      · have : c ≠ L := fun z => by rw [z, hn] at e; cases e
        exact n3.keep c u hb (by rw [upd_ne this]; exact e)
      · rcases n3.own c z with z | nn
        · exact .inl z
        · by_cases hb : c = L
          · rw [hb]; exact .inr hn
          · rw [upd_ne hb] at nn; exact .inr nn
      · exact hid_anti fun a z => z.elim (fun z => .inl (.inl z)) .inr
      · exact hid_anti fun a z => z.elim (fun z => .inl (.inl z)) .inr
      · obtain ⟨ec, dd, fv, xs, ed, g1, g2, g3⟩ := x2
        exact ⟨ec, dd, fv, xs, ed, hid_anti (fun a z => z.elim (fun z => .inl (.inl z)) .inr) _ _ g1, g2.mono (hid_anti fun a z => z.elim (fun z => .inl (.inl z)) .inr), g3⟩
    unfold c_dic1 at po
    refine DB.bindSt hk I1 f1 (fun kw ρ1 e1 y u s1 H1 I1' ry ⟨S1, n1, g1, rp1⟩ => ?_) (fun x ρ1 e1 => ?_) fun e1 => ?_
    · rw [e1] at po
      simp only [ER.bind] at po
      refine DB.bindSt hv I1' g1 (fun vw ρ2 e2 z r s2 H2 I2 rz ⟨S2, n2, g2, rp2⟩ => ?_) (fun x ρ2 e2 => ?_) fun e2 => ?_
      · rw [e2] at po
        simp only at po
        split at po
        · rename_i ok
          exact hp kw vw ρ1 ρ2 H2 S2 y z u r s2 e1 I2 (n1.trans n2) g2 ry rz (rp1.d.mono n2.hid) rp2.d ok po
        · exact po.elim
      · rw [e2] at po
        exact gox po n1
      · rw [e2] at po; exact po
    · rw [e1] at po
      exact gox po (Nx.refl f1.as)
    · rw [e1] at po; exact po
  have hshape := zip_pairTrees [some a] [b] X.env pos rfl rfl
  have held : ∀ {H2 S2}, Nx S (upd H L (.dK [])) (q1 && q2) S2 H2 → H2 L = some (.dK []) := fun n => n.keep L _ (fun z => fr.as L z hn) upd_same
  by_cases hN : ∃ kw ρ1, fk ρ = .ok kw ρ1 ∧ keyN (frz kw) = true
  · obtain ⟨kw0, ρ10, e0, kN⟩ := hN
    have room : (nestedKind X.prog X.w).room X.A := by show X.A.units + 8 < cLine; omega
    rw [arm_eval_Dict, hshape, dictDisplay_pairs _ (by simp [pairTrees]) (by simp [pairTrees])]
    refine wpAny_bind (wpAny_standAt (wpAny_bind (wpAny_subDictH (knd := nestedKind X.prog X.w) (Q := fun d s' => wpAny (model X.prog X.w) X.A (pure (Value.ref d)) (EP X pins σ Q) X.xe s') room (by simp [pairTrees]) ?_)))
    rw [hLe]
    refine pairTrees_cons_walk (both fun kw vw ρ1 ρ2 H2 S2 y z u r s2 e1 I2 n2 g2 ry rz rk rv ok fin => pairTrees_nil_walk ?_)
    rw [e0] at e1
    cases e1
    obtain ⟨l, nk, el, en, hdp⟩ := keyN_of kN
    rw [el] at rk en fin
    obtain ⟨p, zs, rfl, c1, c2⟩ := id rk
    cases ry
    have hH := held n2
    have his : (nestedKind X.prog X.w).is s2.heap nk p := ⟨RepD.nested I2 (.tup l) (v := .ref p) (RepD.mono hid_same (.tup l) rk) en rfl, hdp⟩
    obtain ⟨z0, hd, vs', rel, dd⟩ := dk_of I2.hok hH
    cases rel
    obtain ⟨o, es', ep, d1, d2, d3, _, d4, _⟩ := dd
    have d5 : es'.toList = [] := by
      generalize es'.toList = l at d4
      cases d4
      rfl
    refine ⟨[(nk, p, r)], ⟨rfl, rfl, his, trivial⟩, ⟨o, es', ep, d1, d2, d3, d5, (fun _ h => nomatch h), List.nodup_nil⟩, fun h' tk DD hs => wpAny_pure ?_⟩
    have DD' : h'.DictOfH (nestedKind X.prog X.w) L [(nk, p, r)] := DD
    have hde : ∀ e ∈ [(nk, p, z)], e.1.depth ≤ 8 := fun e he => by
      have h : e = (nk, p, z) := by simpa using he
      rw [h]
      exact hdp
    have I3 := d_write (t' := tk) (ob := NDO X.prog X.w L [(nk, p, z)]) I2 (by rw [hH]; exact True.intro) hs (let ⟨o, _, _, g, _⟩ := DD'; ⟨o, g⟩) (ndo_new (by rw [List.length_singleton, sizeLine_eq]; omega) hd (by simp) hde (.cons ⟨rfl, rfl, rz⟩ .nil) DD')
    refine ⟨.ref L, _, I3, rfl, fin _ _ (dic1_end hn fr n2 g2 fun G' sm => ⟨[.ref p], [z], ⟨.ref p, [], rfl, RepD.mono sm (.tup l) rk, rfl⟩, ⟨z, [], rfl, RepD.mono sm (frz vw) rv, rfl⟩, rfl, .inr ⟨by simp, [(nk, p, z)], upd_same, ?_, rfl, rfl, rfl⟩⟩)⟩
    unfold toNKs toNKs
    rw [en]
    rfl
  · refine wpAny_Dict_walk (knd := mixKind X.prog X.w) rfl rfl (by simp) (by simp) ?_
    rw [hLe]
    refine pairTrees_cons_walk (both fun kw vw ρ1 ρ2 H2 S2 y z u r s2 e1 I2 n2 g2 ry rz rk rv ok fin => pairTrees_nil_walk ?_)
    have kK : keyK (frz kw) = true := by
      rw [Bool.or_eq_true] at ok
      exact ok.resolve_right fun z => hN ⟨kw, ρ1, e1, z⟩
    obtain ⟨key, hkk⟩ := Option.isSome_iff_exists.mp kK
    obtain rfl := rep_of_key rk hkk
    have hH := held n2
    obtain ⟨z0, hd, vs', rel, dd⟩ := dk_of I2.hok hH
    cases rel
    obtain ⟨rs, cc, rkv⟩ := carries_of (P := X.prog) (w := X.w) (kvs := [(key, z)]) (ws := [(u, r)]) (.cons ⟨ry, rz⟩ .nil)
    refine ⟨rs, cc, dd, fun h' dd' hs => ?_⟩
    have he : ∃ q, h'.get? L = some q := let ⟨q, _, _, hq, _⟩ := dd'; ⟨q, hq⟩
    have I3 := d_write (t' := s2.toks + 1) (ob := .dK [(key, z)]) I2 (by rw [hH]; exact True.intro) hs he (dk_new (by rw [List.length_singleton, sizeLine_eq]; omega) hd (rkv.merge .nil) dd')
    exact ⟨.ref L, _, I3, rfl, fin _ _ (dic1_end hn fr n2 g2 fun G' sm => ⟨[kV key], [z], ⟨_, [], rfl, RepD.mono sm (frz kw) rk, rfl⟩, ⟨z, [], rfl, RepD.mono sm (frz vw) rv, rfl⟩, rfl, .inl ⟨[(key, z)], upd_same, by simp, rfl, rfl⟩⟩)⟩
end
end L3

set_option Elab.async false
set_option linter.all false
set_option maxRecDepth 100000
/-! L5a: small helpers for the printed texts. -/
namespace L3
open PySem PySem.Spec PyProof.Rows L2
abbrev c_dat (f : Ro → ER) : Ro → ER := fun ρ => dat (f ρ)
def tb0 : Nat → Option Bool := fun _ => none
theorem tr0 {X : Cx} {ca : Ca} : TrB X ca tb0 := fun _ _ _ _ _ _ _ _ _ _ _ _ _ _ e => by cases e
/-- a module's constant, told by what the top has made -/
theorem db_globE {X : Cx} {ca : Ca} {Wx : WX} {x : Str} {pos : Pos} {d : D} (hg : Gl X x) (h : ∃ u v, X.mg x = some u ∧ RelV v u ∧ ∀ G, RepD X.prog X.w X.K ca G d v) (hdb : (x == ("__debug__" : Str)) = false := by decide) : DB X ca Wx true true (.Name x pos) (c_const d) := by
  obtain ⟨u, v, h1, h2, h3⟩ := h
  exact db_glob hg h1 h2 h3 hdb
theorem names_own {X : Cx} {x : Str} {c : Value} (hm : X.mg x = some c) (hg : Gl X x := by rfl) (hdb : (x == ("__debug__" : Str)) = false := by decide) : Names X x c := ⟨hg, hdb, .inl hm⟩
end L3

set_option Elab.async false
set_option linter.all false
set_option maxRecDepth 100000
/-! L5b: what the end of a law needs: facts of classes from the words that the kit finds, the law's own promise. -/
namespace L3
open PySem PySem.Spec PyProof.Rows PySem.W L2
/-- a table of addresses -/
def tab (l : List Addr) : Nat → Addr := fun i => l.getD i 0
theorem kit_own {K : Frag} {a c : Addr} {b : Bool} (h1 : isClsIn K c = true) (h2 : typeIn K (.ref c) = some (.type "type")) (h3 : subIn K (.ref a) (.ref c) = some b) (h4 : subIn K (.ref c) (.ref c) = some true) : kitOne K (.ref a) (.ref c) = some b := by
  unfold kitOne
  by_cases e : (Value.ref a == Value.ref c) = true
  · rw [if_pos e]
    have : a = c := by have := beq_iff_eq.mp e; cases this; rfl
    subst this
    rw [h3] at h4
    exact h4.symm
  · rw [if_neg e]
    unfold kitCls
    have h1' : (clsIn K c).isSome = true := h1
    have e2 : ((clsIn K c).isSome && typeIn K (.ref c) == some (.type "type")) = true := by rw [h1', h2]; rfl
    show (if ((clsIn K c).isSome && typeIn K (.ref c) == some (.type "type")) = true then subIn K (.ref a) (.ref c) else none) = some b
    rw [if_pos e2]
    exact h3
theorem kit_ty {K : Frag} {a : Addr} {T : String} {b : Bool} (hm : kitMeta T = true) (h3 : subIn K (.ref a) (.type T) = some b) : kitOne K (.ref a) (.type T) = some b := by
  unfold kitOne
  rw [if_neg (by intro z; have := beq_iff_eq.mp z; cases this)]
  unfold kitCls
  show (if kitMeta T = true then subIn K (.ref a) (.type T) else none) = some b
  rw [if_pos hm]
  exact h3
theorem kit_tb {K : Frag} {c : Addr} {T : String} {b : Bool} (h1 : isClsIn K c = true) (h2 : typeIn K (.ref c) = some (.type "type")) (h3 : subIn K (.type T) (.ref c) = some b) : kitOne K (.type T) (.ref c) = some b := by
  unfold kitOne
  rw [if_neg (by intro z; have := beq_iff_eq.mp z; cases this)]
  unfold kitCls
  have h1' : (clsIn K c).isSome = true := h1
  have e2 : ((clsIn K c).isSome && typeIn K (.ref c) == some (.type "type")) = true := by rw [h1', h2]; rfl
  show (if ((clsIn K c).isSome && typeIn K (.ref c) == some (.type "type")) = true then subIn K (.type T) (.ref c) else none) = some b
  rw [if_pos e2]
  exact h3
theorem exm_by {K : Frag} {a c : Addr} {b : Bool} (h0 : subIn K (.ref c) (.type "BaseException") = some true) (h1 : isClsIn K c = true) (h2 : typeIn K (.ref c) = some (.type "type")) (h3 : subIn K (.ref a) (.ref c) = some b) : exmOne K (.ref a) (.ref c) = some b := by
  unfold exmOne
  have e1 : (subIn K (.ref c) (.type "BaseException") == some true) = true := by rw [h0]; rfl
  rw [if_pos e1]
  unfold kitCls
  have h1' : (clsIn K c).isSome = true := h1
  have e2 : ((clsIn K c).isSome && typeIn K (.ref c) == some (.type "type")) = true := by rw [h1', h2]; rfl
  show (if ((clsIn K c).isSome && typeIn K (.ref c) == some (.type "type")) = true then subIn K (.ref a) (.ref c) else none) = some b
  rw [if_pos e2]
  exact h3
theorem notFirst_sub {K : Frag} {C c : Addr} (h : c = C ∨ subIn K (.ref c) (.ref C) = some false) : notFirst K C (.ref c) = true := by
  unfold notFirst
  rcases h with rfl | h
  · rw [beq_self_eq_true]; rfl
  · rw [h]; simp
theorem notFirst_ty {K : Frag} {C : Addr} {T : String} (h : subIn K (.type T) (.ref C) = some false) : notFirst K C (.type T) = true := by
  unfold notFirst
  rw [h]; simp
/-- the law's own promise: a list of at most 63 ints is handed in, True comes out -/
def spLaw (K : Frag) : Sp := fun vs H Q _ => ∃ (a : Addr) (ns : List Int), vs = [.ref a] ∧ SqL K H a (ns.map V.int) ∧ ns.length ≤ 63 ∧ ∀ H', Q (.bl true) H'
section
variable {P : Program} {w : World} {K : Frag} {mg : PySem.Str → Option Value} {base : Heap} {cl : Nat → Addr}
theorem reps_ints {G : Hp} : ∀ ns : List Int, RepDs P w K cl G (ns.map D.int) (ns.map V.int)
  | [] => rfl
  | i :: r => ⟨_, _, rfl, rfl, reps_ints r⟩
theorem law_fn {k : Nat} {f : Addr} {fd : FuncData} {M : Den} (h : FnOk P w K mg base (L2.CX P w) k f fd ["script"] (spD P w K cl [] 1 M)) (hM : ∀ ns : List Int, ns.length ≤ 63 → M [.d (.lst (ns.map .int))] = .ok (.d (.bl true)) []) :
    FnOk P w K mg base (L2.CX P w) k f fd ["script"] (spLaw K) := by
  refine h.imp fun vs H Q E ⟨a, ns, e, hs, hl, hq⟩ => ?_
  subst e
  have e0 : hid H (un emp emp) = H := by
    funext a
    exact if_neg fun z => by rcases z with z | z <;> exact z
  refine ⟨rfl, emp, emp, [.d (.lst (ns.map .int))], fun _ z _ => z, fun _ z => z.elim, fun _ z => z.elim, ?_, ?_⟩
  · refine ⟨_, _, emp, emp, rfl, fun _ z => z, fun _ z => z, fun _ z _ => z, ?_, rfl⟩
    rw [e0]
    exact ⟨a, ns.map V.int, rfl, hs, reps_ints ns⟩
  · rw [hM ns hl]
    intro v H' ⟨S', Sw, _, _, _, r⟩
    have : v = .bl true := r
    rw [this]
    exact hq H'
end
theorem law_walk {l : PySem.W.OpenLaw} {q : Program} {loose : List PySem.Str} {XP : (PySem.Str → Option Value) → Heap → Prop} {YP : World → Heap → Prop} {d : DefRec} {K : Params → PySem.W.Frag} {k : Nat} (hn : l.most = some 63) (hdf : d.params.defaults = []) (hr : Room k callerA)
    (hY : ∀ (w : World) (h : Heap), YP w h → (K w.params).In h)
    (F : ∀ (w : World) (mg : PySem.Str → Option Value) (fa : Addr) (h : Heap), (K w.params).In h → h.Ns mainGlobals mg → mg d.name = some (.ref fa) →
      ∃ fd : FuncData, (∀ (s : Shared) (u : Value), BindsTo s fd ⟨[u], []⟩ [("script", u)]) ∧ ∀ base : Heap, (K w.params).In base → base.Ns mainGlobals mg → FnOk l.prog w (K w.params) mg base (L2.CX l.prog w) k fa fd ["script"] (spLaw (K w.params))) :
    PySem.W.WalkO q loose XP YP l.row.toRowW d [] (fun f vs => PySem.call f vs) :=
  L2.walk_of (n := 63) (k := k) (x := "script") (CX := fun w => L2.CX l.prog w) (sp := fun w => spLaw (K w.params)) hn (by decide) hdf hr hY F (fun _ _ a ns hl _ hS => ⟨a, ns, rfl, hS, hl, fun _ => rfl⟩) fun w H s e s' z => by
    obtain ⟨_, _, _, _, _, _, _, _, _, _, _, _, z⟩ := z
    exact z
end L3

set_option Elab.async false
set_option linter.all false
/-! L6a: the combinators applied, as rules of simp (printed by gen_ap.py). -/
namespace L3
open PySem L2
@[simp] theorem ap_c_const (d : D) (ρ : Ro) : c_const d ρ = (.ok (.d d) ρ) := rfl
@[simp] theorem ap_c_peek (i : Nat) (ρ : Ro) : c_peek i ρ = (match ρ[i]? with
  | some (some w) => .ok (.d (frz w)) ρ
  | _ => .no) := rfl
@[simp] theorem ap_c_var (i : Nat) (ρ : Ro) : c_var i ρ = (match ρ[i]? with
  | some (some w) => .ok (.d (frz w)) (ρ.set i (some (.d (frz w))))
  | _ => .no) := rfl
@[simp] theorem ap_c_move (i : Nat) (ρ : Ro) : c_move i ρ = (match ρ[i]? with
  | some (some w) => .ok w (ρ.set i none)
  | _ => .no) := rfl
@[simp] theorem ap_c_op2 (g : D → D → Option D) (fa fb : Ro → ER) (ρ : Ro) : c_op2 g fa fb ρ = ((fa ρ).bind fun x ρ1 => (fb ρ1).bind fun y ρ2 => match g (frz x) (frz y) with
  | some d => .ok (.d d) ρ2
  | none => .no) := rfl
@[simp] theorem ap_c_truth (tb : Nat → Option Bool) (fa : Ro → ER) (ρ : Ro) : c_truth tb fa ρ = ((fa ρ).bind fun w ρ1 => match truD tb (frz w) with
  | some b => .ok (.d (.bl b)) ρ1
  | none => .no) := rfl
@[simp] theorem ap_c_not (fa : Ro → ER) (ρ : Ro) : c_not fa ρ = ((fa ρ).tb fun b ρ1 => .ok (.d (.bl (!b))) ρ1) := rfl
@[simp] theorem ap_c_and (fa fb : Ro → ER) (ρ : Ro) : c_and fa fb ρ = ((fa ρ).tb fun b ρ1 => if b = true then fb ρ1 else .ok (.d (.bl false)) ρ1) := rfl
@[simp] theorem ap_c_or (fa fb : Ro → ER) (ρ : Ro) : c_or fa fb ρ = ((fa ρ).tb fun b ρ1 => if b = true then .ok (.d (.bl true)) ρ1 else fb ρ1) := rfl
@[simp] theorem ap_c_if (fc fa fb : Ro → ER) (ρ : Ro) : c_if fc fa fb ρ = ((fc ρ).tb fun b ρ1 => if b = true then fa ρ1 else fb ρ1) := rfl
@[simp] theorem ap_c_andV (tb : Nat → Option Bool) (fa fb : Ro → ER) (ρ : Ro) : c_andV tb fa fb ρ = ((fa ρ).bind fun w ρ1 => match truD tb (frz w) with
  | some true => fb ρ1
  | some false => .ok (.d (frz w)) ρ1
  | none => .no) := rfl
@[simp] theorem ap_c_orV (tb : Nat → Option Bool) (fa fb : Ro → ER) (ρ : Ro) : c_orV tb fa fb ρ = ((fa ρ).bind fun w ρ1 => match truD tb (frz w) with
  | some true => .ok (.d (frz w)) ρ1
  | some false => fb ρ1
  | none => .no) := rfl
@[simp] theorem ap_c_notV (tb : Nat → Option Bool) (fa : Ro → ER) (ρ : Ro) : c_notV tb fa ρ = ((fa ρ).bind fun w ρ1 => match truD tb (frz w) with
  | some b => .ok (.d (.bl (!b))) ρ1
  | none => .no) := rfl
@[simp] theorem ap_l_nil (ρ : Ro) : l_nil  ρ = (.ok [] ρ) := rfl
@[simp] theorem ap_l_cons (fa : Ro → ER) (fr : Ro → LR) (ρ : Ro) : l_cons fa fr ρ = (match fa ρ with
  | .ok w ρ1 => match fr ρ1 with
    | .ok ds ρ2 => .ok (frz w :: ds) ρ2
    | .ex x ρ2 => .ex x ρ2
    | .no => .no
  | .ex x ρ1 => .ex x ρ1
  | .no => .no) := rfl
@[simp] theorem ap_l_star (fa : Ro → ER) (fr : Ro → LR) (ρ : Ro) : l_star fa fr ρ = (match fa ρ with
  | .ok w ρ1 => match seqD (frz w) with
    | some l => match fr ρ1 with
      | .ok ds ρ2 => .ok (l ++ ds) ρ2
      | .ex x ρ2 => .ex x ρ2
      | .no => .no
    | none => .no
  | .ex x ρ1 => .ex x ρ1
  | .no => .no) := rfl
@[simp] theorem ap_c_tup (f : Ro → LR) (ρ : Ro) : c_tup f ρ = (match f ρ with
  | .ok ds ρ1 => if ds.length ≤ maxLen then .ok (.d (.tup ds)) ρ1 else .no
  | .ex x ρ1 => .ex x ρ1
  | .no => .no) := rfl
@[simp] theorem ap_c_lst (f : Ro → LR) (ρ : Ro) : c_lst f ρ = (match f ρ with
  | .ok ds ρ1 => if ds.length ≤ maxLen then .ok (.lst ds) ρ1 else .no
  | .ex x ρ1 => .ex x ρ1
  | .no => .no) := rfl
@[simp] theorem ap_c_op1 (g : D → Option D) (fa : Ro → ER) (ρ : Ro) : c_op1 g fa ρ = ((fa ρ).bind fun w ρ1 => match g (frz w) with
  | some d => .ok (.d d) ρ1
  | none => .no) := rfl
@[simp] theorem ap_c_chain (g g' : D → D → Option D) (fa fb fc : Ro → ER) (ρ : Ro) : c_chain g g' fa fb fc ρ = ((fa ρ).bind fun x ρ1 => (fb ρ1).bind fun y ρ2 => match g (frz x) (frz y) with
  | some (.bl true) => (fc ρ2).bind fun z ρ3 => match g' (frz y) (frz z) with
    | some d => .ok (.d d) ρ3
    | none => .no
  | some (.bl false) => .ok (.d (.bl false)) ρ2
  | _ => .no) := rfl
@[simp] theorem ap_p_none (ρ : Ro) : p_none  ρ = (.ok none ρ) := rfl
@[simp] theorem ap_p_some (fa : Ro → ER) (ρ : Ro) : p_some fa ρ = (match fa ρ with
  | .ok w ρ1 => match frz w with
    | .int i => .ok (some i) ρ1
    | _ => .no
  | .ex x ρ1 => .ex x ρ1
  | .no => .no) := rfl
@[simp] theorem ap_c_slice (fa : Ro → ER) (fl fh : Ro → PR) (ρ : Ro) : c_slice fa fl fh ρ = ((fa ρ).bind fun w ρ1 => match fl ρ1 with
  | .ok lo ρ2 => match fh ρ2 with
    | .ok hi ρ3 => match sliceD (frz w) lo hi with
      | some (.lst l) => .ok (.lst l) ρ3
      | some d => .ok (.d d) ρ3
      | none => .no
    | .ex x ρ3 => .ex x ρ3
    | .no => .no
  | .ex x ρ2 => .ex x ρ2
  | .no => .no) := rfl
@[simp] theorem ap_s_nil (ρ : Ro) : s_nil  ρ = (.nx ρ) := rfl
@[simp] theorem ap_s_seq (f g : Ro → SR) (ρ : Ro) : s_seq f g ρ = (match f ρ with
  | .nx ρ1 => g ρ1
  | r => r) := rfl
@[simp] theorem ap_s_ret (f : Ro → ER) (ρ : Ro) : s_ret f ρ = (match f ρ with
  | .ok w ρ1 => .rt w ρ1
  | .ex x ρ1 => .ex x ρ1
  | .no => .no) := rfl
@[simp] theorem ap_s_retN (ρ : Ro) : s_retN  ρ = (.rt (.d .non) ρ) := rfl
@[simp] theorem ap_s_expr (f : Ro → ER) (ρ : Ro) : s_expr f ρ = (match f ρ with
  | .ok _ ρ1 => .nx ρ1
  | .ex x ρ1 => .ex x ρ1
  | .no => .no) := rfl
@[simp] theorem ap_s_break (ρ : Ro) : s_break  ρ = (.br ρ) := rfl
@[simp] theorem ap_s_cont (ρ : Ro) : s_cont  ρ = (.ct ρ) := rfl
@[simp] theorem ap_s_set (i : Nat) (f : Ro → ER) (ρ : Ro) : s_set i f ρ = (match f ρ with
  | .ok w ρ1 => .nx (ρ1.set i (some w))
  | .ex x ρ1 => .ex x ρ1
  | .no => .no) := rfl
@[simp] theorem ap_s_if (fc : Ro → ER) (f g : Ro → SR) (ρ : Ro) : s_if fc f g ρ = (match fc ρ with
  | .ok (.d (.bl b)) ρ1 => if b = true then f ρ1 else g ρ1
  | .ok _ _ => .no
  | .ex x ρ1 => .ex x ρ1
  | .no => .no) := rfl
@[simp] theorem ap_s_unp (t : Tg) (fa : Ro → ER) (ρ : Ro) : s_unp t fa ρ = (match fa ρ with
  | .ok w ρ1 => match t_set t (frz w) ρ1 with
    | some ρ2 => .nx ρ2
    | none => .no
  | .ex x ρ1 => .ex x ρ1
  | .no => .no) := rfl
@[simp] theorem ap_w_nil (ρ : Ro) : w_nil  ρ = (.ok [] ρ) := rfl
@[simp] theorem ap_w_cons (fa : Ro → ER) (fr : Ro → LW) (ρ : Ro) : w_cons fa fr ρ = (match fa ρ with
  | .ok w ρ1 => match fr ρ1 with
    | .ok ws ρ2 => .ok (w :: ws) ρ2
    | .ex x ρ2 => .ex x ρ2
    | .no => .no
  | .ex x ρ1 => .ex x ρ1
  | .no => .no) := rfl
@[simp] theorem ap_s_par (is : List Nat) (f : Ro → LW) (ρ : Ro) : s_par is f ρ = (match f ρ with
  | .ok ws ρ1 => if ws.length = is.length then .nx (setsN is ws ρ1) else .no
  | .ex x ρ1 => .ex x ρ1
  | .no => .no) := rfl
@[simp] theorem ap_c_call (M : Den) (gl : Ro → LR) (ρ : Ro) : c_call M gl ρ = (match gl ρ with
  | .ok ds ρ1 => match M (ds.map .d) with
    | .ok w [] => .ok w ρ1
    | .ex x [] => .ex x ρ1
    | _ => .no
  | .ex x ρ1 => .ex x ρ1
  | .no => .no) := rfl
@[simp] theorem ap_c_make (C : Nat) (M : Den) (gl : Ro → LR) (ρ : Ro) : c_make C M gl ρ = (match gl ρ with
  | .ok ds ρ1 => match M (.ins C [] [] :: ds.map .d) with
    | .ok (.d .non) [w] => .ok w ρ1
    | .ex x [_] => .ex x ρ1
    | _ => .no
  | .ex x ρ1 => .ex x ρ1
  | .no => .no) := rfl
@[simp] theorem ap_c_meth (mt : Nat → Option Den) (m : Str) (fo : Ro → ER) (gl : Ro → LR) (ρ : Ro) : c_meth mt m fo gl ρ = ((fo ρ).bind fun w ρ1 => match frz w with
  | .ins C fs vs => match mt C, getf fs vs m with
    | some M, none => match gl ρ1 with
      | .ok ds ρ2 => match M (.d (.ins C fs vs) :: ds.map .d) with
        | .ok w [] => .ok w ρ2
        | .ex x [] => .ex x ρ2
        | _ => .no
      | .ex x ρ2 => .ex x ρ2
      | .no => .no
    | _, _ => .no
  | _ => .no) := rfl
@[simp] theorem ap_c_callM (M : Den) (is : List Nat) (gl : Ro → LW) (ρ : Ro) : c_callM M is gl ρ = (match gl ρ with
  | .ok ws ρ1 => match M ws with
    | .ok w us => .ok w (setsN is us ρ1)
    | .ex x us => .ex x (setsN is us ρ1)
    | .no => .no
  | .ex x ρ1 => .ex x ρ1
  | .no => .no) := rfl
@[simp] theorem ap_c_methM (mt : Nat → Option Den) (m : Str) (is : List Nat) (gl : Ro → LW) (ρ : Ro) : c_methM mt m is gl ρ = (match gl ρ with
  | .ok (.ins C fs vs :: ws) ρ1 => match mt C, getf fs (frzs vs) m with
    | some M, none => match M (.ins C fs vs :: ws) with
      | .ok w us => .ok w (setsN is us ρ1)
      | .ex x us => .ex x (setsN is us ρ1)
      | .no => .no
    | _, _ => .no
  | .ok _ _ => .no
  | .ex x ρ1 => .ex x ρ1
  | .no => .no) := rfl
@[simp] theorem ap_s_sub (i : Nat) (fv fk : Ro → ER) (ρ : Ro) : s_sub i fv fk ρ = (match fv ρ with
  | .ok wv ρ1 => match ρ1[i]? with
    | some (some _) => match fk ρ1 with
      | .ok wk ρ2 => match slotU i (fun o => storeW o (frz wk) (frz wv)) ρ2 with
        | some ρ3 => .nx ρ3
        | none => .no
      | .ex x ρ2 => .ex x ρ2
      | .no => .no
    | _ => .no
  | .ex x ρ1 => .ex x ρ1
  | .no => .no) := rfl
@[simp] theorem ap_s_fld (n : Nat) (i : Nat) (f : Str) (fv : Ro → ER) (ρ : Ro) : s_fld n i f fv ρ = (match fv ρ with
  | .ok w ρ1 => match slotU i (fldW n f w) ρ1 with
    | some ρ2 => .nx ρ2
    | none => .no
  | .ex x ρ1 => .ex x ρ1
  | .no => .no) := rfl
@[simp] theorem ap_s_app (i : Nat) (fv : Ro → ER) (ρ : Ro) : s_app i fv ρ = (match ρ[i]? with
  | some (some (.lst _)) => match fv ρ with
    | .ok w ρ1 => match slotU i (appW (frz w)) ρ1 with
      | some ρ2 => .nx ρ2
      | none => .no
    | .ex x ρ1 => .ex x ρ1
    | .no => .no
  | _ => .no) := rfl
@[simp] theorem ap_s_fldaug (n : Nat) (i : Nat) (f : Str) (g : Int → Int → Int) (fv : Ro → ER) (ρ : Ro) : s_fldaug n i f g fv ρ = (match ρ[i]? with
  | some (some (.ins C fs vs)) => if C < n then match getf fs (frzs vs) f with
    | some (.int x) => match fv ρ with
      | .ok w ρ1 => match frz w with
        | .int y => match slotU i (fldI n C f (g x y)) ρ1 with
          | some ρ2 => .nx ρ2
          | none => .no
        | _ => .no
      | .ex x ρ1 => .ex x ρ1
      | .no => .no
    | _ => .no
    else .no
  | _ => .no) := rfl
@[simp] theorem ap_s_aug (ext : Bool) (i : Nat) (g : D → D → Option D) (fv : Ro → ER) (ρ : Ro) : s_aug ext i g fv ρ = (match ρ[i]? with
  | some (some (.d x)) => match fv ρ with
    | .ok w ρ1 => match g x (frz w) with
      | some d => .nx (ρ1.set i (some (.d d)))
      | none => .no
    | .ex x ρ1 => .ex x ρ1
    | .no => .no
  | some (some (.lst _)) => if ext = true then match fv ρ with
    | .ok w ρ1 => match ρ1[i]?, frz w with
      | some (some (.lst l)), .lst m => if l.length + m.length ≤ maxLen then .nx (ρ1.set i (some (.lst (l ++ m)))) else .no
      | _, _ => .no
    | .ex x ρ1 => .ex x ρ1
    | .no => .no
    else .no
  | _ => .no) := rfl
@[simp] theorem ap_s_augsub (i : Nat) (j : Nat) (g : Int → Int → Int) (fv : Ro → ER) (ρ : Ro) : s_augsub i j g fv ρ = (match ρ[i]? with
  | some (some (.lst l)) => match l[j]? with
    | some (.int x) => match fv ρ with
      | .ok w ρ1 => match frz w, ρ1[i]? with
        | .int y, some (some (.lst l2)) => if j < l2.length then .nx (ρ1.set i (some (.lst (l2.set j (.int (g x y)))))) else .no
        | _, _ => .no
      | .ex x ρ1 => .ex x ρ1
      | .no => .no
    | _ => .no
  | _ => .no) := rfl
@[simp] theorem ap_c_list (fa : Ro → ER) (ρ : Ro) : c_list fa ρ = ((fa ρ).bind fun w ρ1 => match listD (frz w) with
  | some l => .ok (.lst l) ρ1
  | none => .no) := rfl
@[simp] theorem ap_c_isi (n : Nat) (ts : List Ty) (fa : Ro → ER) (ρ : Ro) : c_isi n ts fa ρ = ((c_op1 (fun d => (isTys n d ts).map .bl) fa) ρ) := rfl
@[simp] theorem ap_i_seq (fa : Ro → ER) (ρ : Ro) : i_seq fa ρ = (match fa ρ with
  | .ok w ρ1 => match seqD (frz w) with
    | some l => .ok l ρ1
    | none => .no
  | .ex x ρ1 => .ex x ρ1
  | .no => .no) := rfl
@[simp] theorem ap_i_range1 (fa : Ro → ER) (ρ : Ro) : i_range1 fa ρ = (match fa ρ with
  | .ok w ρ1 => match frz w with
    | .int j => if small62 j then .ok (rngL 0 j.toNat) ρ1 else .no
    | _ => .no
  | .ex x ρ1 => .ex x ρ1
  | .no => .no) := rfl
@[simp] theorem ap_i_range2 (ga : Ro → LR) (ρ : Ro) : i_range2 ga ρ = (match ga ρ with
  | .ok [.int i, .int j] ρ1 => if small62 i && small62 j then .ok (rngL i (j - i).toNat) ρ1 else .no
  | .ok _ _ => .no
  | .ex x ρ1 => .ex x ρ1
  | .no => .no) := rfl
@[simp] theorem ap_s_for (src : Ro → LR) (t : Tg) (body : Ro → SR) (ρ : Ro) : s_for src t body ρ = (match src ρ with
  | .ok l ρ1 => forL t body l ρ1
  | .ex x ρ1 => .ex x ρ1
  | .no => .no) := rfl
@[simp] theorem ap_i_enum (fa : Ro → ER) (ρ : Ro) : i_enum fa ρ = (match fa ρ with
  | .ok w ρ1 => match seqD (frz w) with
    | some l => .ok (enumL l) ρ1
    | none => .no
  | .ex x ρ1 => .ex x ρ1
  | .no => .no) := rfl
@[simp] theorem ap_s_raise (C : Nat) (fs : List Str) (gl : Ro → LR) (ρ : Ro) : s_raise C fs gl ρ = (match gl ρ with
  | .ok ds ρ1 => if ds.length = fs.length then .ex ⟨C, fs, ds⟩ ρ1 else .no
  | .ex x ρ1 => .ex x ρ1
  | .no => .no) := rfl
@[simp] theorem ap_s_try (sub : Nat → Option Bool) (fb : Ro → SR) (i : Option Nat) (g : Ex → Ro → SR) (ρ : Ro) : s_try sub fb i g ρ = (match fb ρ with
  | .ex x ρ1 => match sub x.C with
    | some true => match i with
      | some i => if i < ρ1.length then s_off (some i) (g x (ρ1.set i none)) else .no
      | none => s_off none (g x ρ1)
    | some false => .ex x ρ1
    | none => .no
  | r => r) := rfl
@[simp] theorem ap_c_xfld (xt : Nat → Bool) (x : Ex) (f : Str) (ρ : Ro) : c_xfld xt x f ρ = (if xt x.C = true then match getf x.fs x.vs f with
  | some d => .ok (.d d) ρ
  | none => .no
  else .no) := rfl
@[simp] theorem ap_c_dic0 (ρ : Ro) : c_dic0  ρ = (.ok (.dic [] []) ρ) := rfl
@[simp] theorem ap_c_dic1 (fk fv : Ro → ER) (ρ : Ro) : c_dic1 fk fv ρ = ((fk ρ).bind fun k ρ1 => (fv ρ1).bind fun v ρ2 => if (keyK (frz k) || keyN (frz k)) = true then .ok (.dic [frz k] [frz v]) ρ2 else .no) := rfl
@[simp] theorem ap_c_mul (fa fb : Ro → ER) (ρ : Ro) : c_mul fa fb ρ = (match fa ρ with
  | .ok x ρ1 => match fb ρ1 with
    | .ok y ρ2 => match mulW x (frz y) with
      | some d => .ok (.d d) ρ2
      | none => .no
    | .ex x ρ2 => .ex x ρ2
    | .no => .no
  | .ex x ρ1 => .ex x ρ1
  | .no => .no) := rfl
@[simp] theorem ap_c_comp2 (src : Ro → LR) (vs : List Nat) (t : Tg) (ft : Ro → ER) (src1 : Ro → LR) (vs1 : List Nat) (t1 : Tg) (ft1 fe : Ro → ER) (ρ : Ro) : c_comp2 src vs t ft src1 vs1 t1 ft1 fe ρ = (match src ρ with
  | .ok l ρ1 => match comp2L vs t ft src1 vs1 t1 ft1 fe l [] (wipeR (frzSl vs ρ1) vs) with
    | some (acc, ρ2) => .ok (.lst acc) (restR (frzSl vs ρ1) vs ρ2)
    | none => .no
  | .ex x ρ1 => .ex x ρ1
  | .no => .no) := rfl
@[simp] theorem ap_c_comp (src : Ro → LR) (vs : List Nat) (t : Tg) (ft fe : Ro → ER) (ρ : Ro) : c_comp src vs t ft fe ρ = (match src ρ with
  | .ok l ρ1 => match compL vs t ft fe l [] (wipeR (frzSl vs ρ1) vs) with
    | some (acc, ρ2) => .ok (.lst acc) (restR (frzSl vs ρ1) vs ρ2)
    | none => .no
  | .ex x ρ1 => .ex x ρ1
  | .no => .no) := rfl
@[simp] theorem ap_c_yes (ρ : Ro) : c_yes  ρ = (.ok (.d (.bl true)) ρ) := rfl
@[simp] theorem ap_c_dat (f : Ro → ER) (ρ : Ro) : c_dat f ρ = (dat (f ρ)) := rfl
@[simp] theorem ap_bind_ok (w : W) (ρ : Ro) (k : W → Ro → ER) : (ER.ok w ρ).bind k = k w ρ := rfl
@[simp] theorem ap_bind_ex (x : Ex) (ρ : Ro) (k : W → Ro → ER) : (ER.ex x ρ).bind k = .ex x ρ := rfl
@[simp] theorem ap_tb_ok (b : Bool) (ρ : Ro) (k : Bool → Ro → ER) : (ER.ok (.d (.bl b)) ρ).tb k = k b ρ := rfl
@[simp] theorem ap_tb_ex (x : Ex) (ρ : Ro) (k : Bool → Ro → ER) : (ER.ex x ρ).tb k = .ex x ρ := rfl
@[simp] theorem ap_dat_ok (w : W) (ρ : Ro) : dat (.ok w ρ) = .ok (.d (frz w)) ρ := rfl
@[simp] theorem ap_dat_ex (x : Ex) (ρ : Ro) : dat (.ex x ρ) = .ex x ρ := rfl
@[simp] theorem frz_d (x : D) : frz (.d x) = x := rfl
@[simp] theorem frz_lst (l : List D) : frz (.lst l) = .lst l := rfl
@[simp] theorem frz_dic (k v : List D) : frz (.dic k v) = .dic k v := rfl
@[simp] theorem tset_name (i : Nat) (d : D) (ρ : Ro) : t_set (.name i) d ρ = some (ρ.set i (some (.d d))) := rfl
@[simp] theorem tset_tup (l : List Tg) (d : D) (ρ : Ro) : t_set (.tup l) d ρ = (match seqD d with | some ds => t_sets l ds ρ | none => none) := rfl
@[simp] theorem tsets_nil (ρ : Ro) : t_sets [] [] ρ = some ρ := rfl
@[simp] theorem tsets_cons (t : Tg) (r : List Tg) (d : D) (s : List D) (ρ : Ro) : t_sets (t :: r) (d :: s) ρ = (match t_set t d ρ with | some ρ1 => t_sets r s ρ1 | none => none) := rfl
@[simp] theorem seqD_lst (l : List D) : seqD (.lst l) = some l := rfl
@[simp] theorem seqD_tup (l : List D) : seqD (.tup l) = some l := rfl
@[simp] theorem setsN_nil (ws : List W) (ρ : Ro) : setsN [] ws ρ = ρ := by cases ws <;> rfl
@[simp] theorem setsN_cons (i : Nat) (r : List Nat) (w : W) (s : List W) (ρ : Ro) : setsN (i :: r) (w :: s) ρ = setsN r s (ρ.set i (some w)) := rfl
@[simp] theorem slots_nil : slots [] = [] := rfl
@[simp] theorem slots_none (r : List (Option Nat)) : slots (none :: r) = slots r := rfl
@[simp] theorem slots_some (i : Nat) (r : List (Option Nat)) : slots (some i :: r) = i :: slots r := rfl
@[simp] theorem isN_non : isN .non .non = some (.bl true) := rfl
@[simp] theorem notN_non : notN .non .non = some (.bl false) := rfl
@[simp] theorem isN_int (i : Int) : isN (.int i) .non = some (.bl false) := rfl
@[simp] theorem notN_int (i : Int) : notN (.int i) .non = some (.bl true) := rfl
@[simp] theorem addD_int (i j : Int) : addD (.int i) (.int j) = some (.int (i + j)) := rfl
@[simp] theorem subD_int (i j : Int) : subD (.int i) (.int j) = some (.int (i - j)) := rfl
@[simp] theorem iaddD_int (i j : Int) : iaddD (.int i) (.int j) = some (.int (i + j)) := rfl
@[simp] theorem negD_int (i : Int) : negD (.int i) = some (.int (-i)) := rfl
@[simp] theorem cmpD_int (f : Int → Int → Bool) (i j : Int) : cmpD f (.int i) (.int j) = some (.bl (f i j)) := rfl
@[simp] theorem eqC_int (i j : Int) : eqC (.int i) (.int j) = some (.bl (i == j)) := rfl
@[simp] theorem neC_int (i j : Int) : neC (.int i) (.int j) = some (.bl (!(i == j))) := rfl
@[simp] theorem eqC_str (i j : Str) : eqC (.str i) (.str j) = some (.bl (i == j)) := rfl
@[simp] theorem neC_str (i j : Str) : neC (.str i) (.str j) = some (.bl (!(i == j))) := rfl
@[simp] theorem eqC_bl (i j : Bool) : eqC (.bl i) (.bl j) = some (.bl (i == j)) := rfl
@[simp] theorem neC_bl (i j : Bool) : neC (.bl i) (.bl j) = some (.bl (!(i == j))) := rfl
@[simp] theorem truD_bl (tb : Nat → Option Bool) (b : Bool) : truD tb (.bl b) = some b := rfl
@[simp] theorem truD_int (tb : Nat → Option Bool) (i : Int) : truD tb (.int i) = some (i != 0) := rfl
@[simp] theorem truD_non (tb : Nat → Option Bool) : truD tb .non = some false := rfl
@[simp] theorem truD_ins (tb : Nat → Option Bool) (C : Nat) (fs : List Str) (vs : List D) : truD tb (.ins C fs vs) = tb C := rfl
@[simp] theorem outs_nil (ρ : Ro) : outs [] ρ = some [] := rfl
@[simp] theorem lenD_lst (l : List D) : lenD (.lst l) = some (.int l.length) := rfl
@[simp] theorem lenD_tup (l : List D) : lenD (.tup l) = some (.int l.length) := rfl
@[simp] theorem intD_int (i : Int) : intD (.int i) = some (.int i) := rfl
@[simp] theorem fldN_ins (n C : Nat) (f : Str) (fs : List Str) (vs : List D) : fldN n f (.ins C fs vs) = (if C < n then getf fs vs f else none) := rfl
@[simp] theorem forL_nil (t : Tg) (b : Ro → SR) (ρ : Ro) : forL t b [] ρ = .nx ρ := rfl
end L3

set_option Elab.async false
set_option linter.all false
/-! L6b: loops of the combinators, by a relation between the frame and what has been computed. -/
namespace L3
open PySem L2
section
variable {t : Tg} {body : Ro → SR}
/-- every turn goes on: a fold -/
theorem forL_fold {α : Type} (R : α → Ro → Prop) (f : α → D → α) : ∀ (l : List D), (∀ a d ρ, d ∈ l → R a ρ → ∃ ρ1 ρ2, t_set t d ρ = some ρ1 ∧ body ρ1 = .nx ρ2 ∧ R (f a d) ρ2) → ∀ a ρ, R a ρ → ∃ ρ', forL t body l ρ = .nx ρ' ∧ R (l.foldl f a) ρ'
  | [], _, a, ρ, h => ⟨ρ, rfl, h⟩
  | d :: r, hs, a, ρ, h => by
    obtain ⟨ρ1, ρ2, e1, e2, h2⟩ := hs a d ρ List.mem_cons_self h
    obtain ⟨ρ', e3, h3⟩ := forL_fold R f r (fun a d ρ hd => hs a d ρ (List.mem_cons_of_mem _ hd)) (f a d) ρ2 h2
    refine ⟨ρ', ?_, h3⟩
    show (match t_set t d ρ with | some ρ1 => _ | none => _) = _
    rw [e1]
    show (match body ρ1 with | .nx ρ2 => _ | .ct ρ2 => _ | .br ρ2 => _ | .rt w ρ2 => _ | .ex x ρ2 => _ | .no => _) = _
    rw [e2]
    exact e3
theorem forL_inv (I : Ro → Prop) (l : List D) (hs : ∀ d ρ, d ∈ l → I ρ → ∃ ρ1 ρ2, t_set t d ρ = some ρ1 ∧ body ρ1 = .nx ρ2 ∧ I ρ2) (ρ : Ro) (h : I ρ) : ∃ ρ', forL t body l ρ = .nx ρ' ∧ I ρ' := by
  obtain ⟨ρ', e, h'⟩ := forL_fold (fun (_ : Unit) ρ => I ρ) (fun _ _ => ()) l (fun _ d ρ hd h => hs d ρ hd h) () ρ h
  exact ⟨ρ', e, h'⟩
/-- a comprehension of one clause whose turns are a function: f d is what the turn adds, none where the test says no -/
theorem compL_map {vs : List Nat} {ft fe : Ro → ER} (f : D → Option D) (C : Ro → Prop) : ∀ (l acc : List D) (ρ : Ro), C ρ → acc.length + l.length ≤ maxLen →
    (∀ d ρ, d ∈ l → C ρ → ∃ ρ1, t_set t d ρ = some ρ1 ∧ ((f d = none ∧ ∃ ρ2, ft ρ1 = .ok (.d (.bl false)) ρ2 ∧ C (wipeR ρ2 vs)) ∨ (∃ y ρ2 w ρ3, f d = some y ∧ ft ρ1 = .ok (.d (.bl true)) ρ2 ∧ fe ρ2 = .ok w ρ3 ∧ frz w = y ∧ C (wipeR ρ3 vs)))) →
    ∃ ρ', compL vs t ft fe l acc ρ = some (acc ++ l.filterMap f, ρ') ∧ C ρ'
  | [], acc, ρ, h, _, _ => ⟨ρ, by simp [compL], h⟩
  | d :: r, acc, ρ, h, hl, hs => by
    obtain ⟨ρ1, e1, h1⟩ := hs d ρ List.mem_cons_self h
    have hs' := fun d ρ hd => hs d ρ (List.mem_cons_of_mem _ hd)
    rw [List.length_cons] at hl
    rcases h1 with ⟨e2, ρ2, e3, h2⟩ | ⟨y, ρ2, w, ρ3, e2, e3, e4, e5, h2⟩
    · obtain ⟨ρ', e, h'⟩ := compL_map f C r acc _ h2 (by omega) hs'
      refine ⟨ρ', ?_, h'⟩
      rw [List.filterMap_cons, e2]
      show (match t_set t d ρ with | some ρ1 => _ | none => _) = _
      rw [e1]
      show (match ft ρ1 with | .ok (.d (.bl true)) ρ2 => _ | .ok (.d (.bl false)) ρ2 => _ | _ => _) = _
      rw [e3]
      exact e
    · obtain ⟨ρ', e, h'⟩ := compL_map f C r (acc ++ [y]) _ h2 (by rw [List.length_append]; simp; omega) hs'
      refine ⟨ρ', ?_, h'⟩
      rw [List.filterMap_cons, e2]
      show (match t_set t d ρ with | some ρ1 => _ | none => _) = _
      rw [e1]
      show (match ft ρ1 with | .ok (.d (.bl true)) ρ2 => _ | .ok (.d (.bl false)) ρ2 => _ | _ => _) = _
      rw [e3]
      show (match fe ρ2 with | .ok w ρ3 => _ | _ => _) = _
      rw [e4]
      show (if acc.length < maxLen then _ else _) = _
      rw [if_pos (by omega), e5, e]
      simp
end
end L3

set_option Elab.async false
set_option linter.all false
set_option maxRecDepth 100000
set_option maxHeartbeats 4000000
/-! L7a: numbers drawn from a script, as all laws draw them. -/
namespace L3
open PySem L2
/-- the term that the printer writes for _law_number -/
def d_num : Den := d_fun 7 [] (s_seq (s_unp (.tup [(.name 2), (.name 3)]) (c_if (c_op2 neC (c_peek 0) (c_lst l_nil)) (c_tup (l_cons (c_op2 subD' (c_peek 0) (c_op2 modD (c_peek 1) (c_op1 lenD (c_peek 0)))) (l_cons (c_op2 fdivD (c_peek 1) (c_op1 lenD (c_peek 0))) l_nil))) (c_tup (l_cons (c_const (.int 12345)) (l_cons (c_const (.int 0)) l_nil)))))
  (s_seq (s_set 4 (c_dat (c_if (c_op2 (cmpD fun i j => decide (i < j)) (c_peek 3) (c_const (.int 60))) (c_op2 subD (c_peek 2) (c_op2 powD (c_const (.int 10)) (c_const (.int 18)))) (c_const (.int 0)))))
  (s_seq (s_for (i_range1 (c_op2 modD (c_op1 intD (c_peek 3)) (c_const (.int 60)))) (.name 5) (s_set 4 (c_dat (c_op2 fdivD (c_peek 4) (c_const (.int 1009))))))
  (s_seq (s_if (c_op2 (cmpD fun i j => decide (j < i)) (c_peek 4) (c_const (.int 0))) (s_ret (c_dat (c_op2 modD (c_op1 intD (c_peek 4)) (c_const (.int 1009))))) s_nil)
  (s_seq (s_set 6 (c_dat (c_op2 modD (c_op2 addD (c_mul (c_dat (c_op1 intD (c_op2 addD (c_var 2) (c_mul (c_dat (c_const (.int 977))) (c_var 1))))) (c_const (.int 48271))) (c_mul (c_dat (c_const (.int 31))) (c_op1 lenD (c_peek 0)))) (c_const (.int 2147483647)))))
  (s_seq (s_set 6 (c_dat (c_op2 modD (c_op2 addD (c_mul (c_dat (c_var 6)) (c_var 6)) (c_mul (c_dat (c_const (.int 40503))) (c_var 1))) (c_const (.int 2147483629)))))
  (s_ret (c_dat (c_op1 intD (c_op2 modD (c_op2 addD (c_mul (c_dat (c_var 6)) (c_const (.int 69621))) (c_op2 fdivD (c_peek 6) (c_const (.int 977)))) (c_const (.int 2147483587)))))))))))) 
def d_take : Den := d_fun 2 [0] (s_seq (s_augsub 0 1 (fun x y => x + y) (c_const (.int 1)))
  (s_ret (c_dat (c_op2 modD (c_op1 intD (c_call d_num (l_cons (c_op2 subD' (c_peek 0) (c_const (.int 0))) (l_cons (c_op1 intD (c_op2 subD' (c_peek 0) (c_const (.int 1)))) l_nil)))) (c_peek 1)))))
def d_pick : Den := d_fun 2 [0] (s_ret (c_dat (c_op2 subD' (c_var 1) (c_callM d_take (slots [some 0, none]) (w_cons (c_move 0) (w_cons (c_dat (c_op1 lenD (c_peek 1))) w_nil))))))
def eIs (ns : List Int) : D := .lst (ns.map .int)
theorem plains_ints : ∀ ns : List Int, plains (ns.map D.int) = true
  | [] => rfl
  | _ :: r => plains_ints r
theorem neC_ints (ns : List Int) : neC (eIs ns) (.lst []) = some (.bl (!ns.isEmpty)) := by
  unfold neC
  have h1 : plain (eIs ns) = true := plains_ints ns
  have h2 : dep (.lst []) = 1 := rfl
  have h3 : (min (dep (eIs ns)) (dep (.lst [])) ≤ 60) := Nat.le_trans (Nat.min_le_right _ _) (by rw [h2]; omega)
  have h4 : eqD (eIs ns) (.lst []) = ns.isEmpty := by cases ns <;> rfl
  rw [h4]
  have h5 : plain (.lst []) = true := rfl
  simp [h1, h3, h5]
theorem len_ints (ns : List Int) : lenD (eIs ns) = some (.int ns.length) := by simp [eIs]
theorem num_tail (r : Int) (hr : True) (c : Int) (k : Nat) (n : Nat) (t : Int) (x : Option W) (s : D) (hs : lenD s = some (.int n)) : ∃ y : Int, ∃ ρ, (s_seq (s_if (c_op2 (cmpD fun i j => decide (j < i)) (c_peek 4) (c_const (.int 0))) (s_ret (c_dat (c_op2 modD (c_op1 intD (c_peek 4)) (c_const (.int 1009))))) s_nil)
  (s_seq (s_set 6 (c_dat (c_op2 modD (c_op2 addD (c_mul (c_dat (c_op1 intD (c_op2 addD (c_var 2) (c_mul (c_dat (c_const (.int 977))) (c_var 1))))) (c_const (.int 48271))) (c_mul (c_dat (c_const (.int 31))) (c_op1 lenD (c_peek 0)))) (c_const (.int 2147483647)))))
  (s_seq (s_set 6 (c_dat (c_op2 modD (c_op2 addD (c_mul (c_dat (c_var 6)) (c_var 6)) (c_mul (c_dat (c_const (.int 40503))) (c_var 1))) (c_const (.int 2147483629)))))
  (s_ret (c_dat (c_op1 intD (c_op2 modD (c_op2 addD (c_mul (c_dat (c_var 6)) (c_const (.int 69621))) (c_op2 fdivD (c_peek 6) (c_const (.int 977)))) (c_const (.int 2147483587)))))))))
  [some (.d s), some (.d (.int k)), some (.d (.int c)), some (.d (.int t)), some (.d (.int r)), x, none] = .rt (.d (.int y)) ρ := by
  by_cases h : 0 < r
  · simp [h, modD]
  · have b1 := Int.fmod_nonneg_of_pos ((c + 977 * (k : Int)) * 48271 + 31 * (n : Int)) (show (0 : Int) < 2147483647 by decide)
    have b2 := Int.fmod_lt_of_pos ((c + 977 * (k : Int)) * 48271 + 31 * (n : Int)) (show (0 : Int) < 2147483647 by decide)
    have c1 : -(2 ^ 64) < ((c + 977 * (k : Int)) * 48271 + 31 * (n : Int)).fmod 2147483647 := by omega
    have c2 : ((c + 977 * (k : Int)) * 48271 + 31 * (n : Int)).fmod 2147483647 < 2 ^ 64 := by omega
    have c1' : -18446744073709551616 < ((c + 977 * (k : Int)) * 48271 + 31 * (n : Int)).fmod 2147483647 := by omega
    have c2' : ((c + 977 * (k : Int)) * 48271 + 31 * (n : Int)).fmod 2147483647 < 18446744073709551616 := by omega
    simp [h, modD, mulW, hs, fdivD, c1, c2, c1', c2']
theorem modD_pos (i : Int) {j : Int} (h : 0 < j) : modD (.int i) (.int j) = some (.int (i.fmod j)) := by
  show (if j ≠ 0 then some (D.int (i.fmod j)) else none) = _
  rw [if_pos (by omega)]
theorem modD_nat (k : Nat) {n : Nat} (h : 0 < n) : modD (.int k) (.int n) = some (.int ((k % n : Nat) : Int)) := by
  rw [modD_pos _ (by omega), Int.ofNat_fmod]
theorem fdivD_nat (k : Nat) {n : Nat} (h : 0 < n) (h2 : n < 1073741824) : fdivD (.int k) (.int n) = some (.int ((k / n : Nat) : Int)) := by
  show (if (decide ((n : Int) ≠ 0) && decide ((n : Int).natAbs < 1073741824)) = true then some (D.int ((k : Int).fdiv n)) else none) = _
  rw [if_pos (by simp; omega), Int.ofNat_fdiv]
theorem num_ok (ns : List Int) (hn : ns.length ≤ 63) (k : Nat) : ∃ y : Int, d_num [.d (eIs ns), .d (.int k)] = .ok (.d (.int y)) [] := by
  have head : ∃ (c : Int) (t : Nat), ∀ g : Ro → SR, s_seq (s_unp (.tup [(.name 2), (.name 3)]) (c_if (c_op2 neC (c_peek 0) (c_lst l_nil)) (c_tup (l_cons (c_op2 subD' (c_peek 0) (c_op2 modD (c_peek 1) (c_op1 lenD (c_peek 0)))) (l_cons (c_op2 fdivD (c_peek 1) (c_op1 lenD (c_peek 0))) l_nil))) (c_tup (l_cons (c_const (.int 12345)) (l_cons (c_const (.int 0)) l_nil))))) g
      [some (.d (eIs ns)), some (.d (.int k)), none, none, none, none, none] = g [some (.d (eIs ns)), some (.d (.int k)), some (.d (.int c)), some (.d (.int t)), none, none, none] := by
    cases ns with
    | nil => exact ⟨12345, 0, fun g => by simp [neC_ints, maxLen]⟩
    | cons a r =>
      have hp : 0 < (a :: r).length := by simp
      have hk : k % (a :: r).length < (a :: r).length := Nat.mod_lt _ hp
      refine ⟨(a :: r)[k % (a :: r).length], k / (a :: r).length, fun g => ?_⟩
      have e1 := modD_nat k hp
      have e2 := fdivD_nat k hp (by omega)
      have e3 : subD' (eIs (a :: r)) (.int ((k % (a :: r).length : Nat) : Int)) = some (.int ((a :: r)[k % (a :: r).length])) := by
        refine L2.atI_nat ?_
        rw [List.getElem?_map, List.getElem?_eq_getElem hk]
        rfl
      have e4 := neC_ints (a :: r)
      have e5 := len_ints (a :: r)
      simp only [ap_s_seq, ap_s_unp, ap_c_if, ap_c_op2, ap_c_peek, ap_c_lst, ap_l_nil, List.getElem?_cons_zero, List.getElem?_cons_succ, ap_bind_ok, frz_d, frz_lst, e4, List.isEmpty_cons, Bool.not_false, List.length_nil, Nat.zero_le, if_true, ap_tb_ok, ap_c_tup, ap_l_cons, ap_c_op1, e5, e1, e2, e3]
      simp [maxLen]
  obtain ⟨c, t, head⟩ := head
  unfold d_num d_fun
  simp only [List.map_cons, List.map_nil, List.length_cons, List.length_nil, List.cons_append, List.nil_append, Nat.reduceAdd, Nat.reduceSub, List.replicate_succ, List.replicate_zero]
  rw [head]
  have loop : ∀ (l : List D) (ρ : Ro), (∃ (r : Int) (x : Option W), ρ = [some (.d (eIs ns)), some (.d (.int k)), some (.d (.int c)), some (.d (.int t)), some (.d (.int r)), x, none]) → ∃ ρ', forL (.name 5) (s_set 4 (c_dat (c_op2 fdivD (c_peek 4) (c_const (.int 1009))))) l ρ = .nx ρ' ∧ (∃ (r : Int) (x : Option W), ρ' = [some (.d (eIs ns)), some (.d (.int k)), some (.d (.int c)), some (.d (.int t)), some (.d (.int r)), x, none]) := fun l => forL_inv _ l fun d ρ hd ⟨r, x, e⟩ => by
    subst e
    refine ⟨_, [some (.d (eIs ns)), some (.d (.int k)), some (.d (.int c)), some (.d (.int t)), some (.d (.int (r.fdiv 1009))), some (.d d), none], rfl, ?_, _, _, rfl⟩
    simp [fdivD]
  have r0 : ∃ r : Int, (c_dat (c_if (c_op2 (cmpD fun i j => decide (i < j)) (c_peek 3) (c_const (.int 60))) (c_op2 subD (c_peek 2) (c_op2 powD (c_const (.int 10)) (c_const (.int 18)))) (c_const (.int 0)))) [some (.d (eIs ns)), some (.d (.int k)), some (.d (.int c)), some (.d (.int t)), none, none, none] = .ok (.d (.int r)) [some (.d (eIs ns)), some (.d (.int k)), some (.d (.int c)), some (.d (.int t)), none, none, none] := by
    by_cases h : (t : Int) < 60
    · simp [h, powD]
    · simp [h]
  obtain ⟨r, r0⟩ := r0
  have m1 : modD (.int t) (.int 60) = some (.int ((t % 60 : Nat) : Int)) := modD_nat t (show 0 < 60 by decide)
  have m2 : small62 ((t % 60 : Nat) : Int) = true := by
    have := Nat.mod_lt t (show 0 < 60 by decide)
    simp [small62]; omega
  obtain ⟨ρ', l1, r', x', l2⟩ := loop (rngL 0 ((t % 60 : Nat) : Int).toNat) [some (.d (eIs ns)), some (.d (.int k)), some (.d (.int c)), some (.d (.int t)), some (.d (.int r)), none, none] ⟨_, _, rfl⟩
  subst l2
  obtain ⟨y, ρ2, tl⟩ := num_tail r' trivial c k ns.length t x' (eIs ns) (len_ints ns)
  refine ⟨y, ?_⟩
  rw [ap_s_seq, ap_s_set, r0]
  simp only [List.set_cons_succ, List.set_cons_zero]
  rw [ap_s_seq, ap_s_for, ap_i_range1]
  simp only [ap_c_op2, ap_c_op1, ap_c_peek, ap_c_const, List.getElem?_cons_zero, List.getElem?_cons_succ, ap_bind_ok, frz_d, intD_int, m1, m2, if_true]
  rw [l1]
  simp only [tl]
  rfl
/-- the number drawn at place k -/
def num (ns : List Int) (k : Nat) : Int := match d_num [.d (eIs ns), .d (.int k)] with
  | .ok (.d (.int y)) _ => y
  | _ => 0
theorem num_eq {ns : List Int} (hn : ns.length ≤ 63) (k : Nat) : d_num [.d (eIs ns), .d (.int k)] = .ok (.d (.int (num ns k))) [] := by
  obtain ⟨y, e⟩ := num_ok ns hn k
  unfold num
  rw [e]
/-- the draw: a script, and how many were drawn -/
def drw (ns : List Int) (k : Nat) : W := .lst [eIs ns, .int k]
def take (m : Nat) (ns : List Int) (k : Nat) : Nat := ((num ns (k + 1)).fmod m).toNat
theorem take_lt {m : Nat} (h : 0 < m) (ns : List Int) (k : Nat) : take m ns k < m := by
  unfold take
  have h1 := Int.fmod_nonneg_of_pos (num ns (k + 1)) (show (0 : Int) < m by omega)
  have h2 := Int.fmod_lt_of_pos (num ns (k + 1)) (show (0 : Int) < m by omega)
  omega
theorem take_eq {ns : List Int} (hn : ns.length ≤ 63) (k : Nat) {m : Nat} (h : 0 < m) : d_take [drw ns k, .d (.int m)] = .ok (.d (.int (take m ns k))) [drw ns (k + 1)] := by
  have e := num_eq hn (k + 1)
  have h1 := Int.fmod_nonneg_of_pos (num ns (k + 1)) (show (0 : Int) < m by omega)
  have e2 : modD (.int (num ns (k + 1))) (.int m) = some (.int (take m ns k)) := by
    rw [modD_pos _ (by omega)]
    unfold take
    rw [Int.toNat_of_nonneg h1]
  have e3 : subD' (.lst [eIs ns, .int ((k : Int) + 1)]) (.int 0) = some (eIs ns) := rfl
  have e4 : subD' (.lst [eIs ns, .int ((k : Int) + 1)]) (.int 1) = some (.int ((k : Int) + 1)) := rfl
  have e5 : ((k + 1 : Nat) : Int) = (k : Int) + 1 := by omega
  rw [e5] at e
  simp [d_take, d_fun, drw, e3, e4, e, e2, e5, outs]
theorem pick_eq {ns : List Int} (hn : ns.length ≤ 63) (k : Nat) {l : List D} {c : W} (hc : frz c = .lst l) {x : D} (hx : l[take l.length ns k]? = some x) : d_pick [drw ns k, c] = .ok (.d x) [drw ns (k + 1)] := by
  have h : 0 < l.length := by
    cases l with
    | nil => simp at hx
    | cons _ _ => simp
  have e := take_eq hn k h
  have e2 : subD' (.lst l) (.int (take l.length ns k)) = some x := L2.atI_nat hx
  unfold d_pick d_fun
  simp [hc, e, e2, outs]
end L3

set_option Elab.async false
set_option linter.all false
set_option maxRecDepth 100000
set_option maxHeartbeats 4000000
/-! L7b: comprehensions whose turns change what stands in the frame. -/
namespace L3
open PySem L2
def mapSt {σ : Type} (f : σ → D → D × σ) : σ → List D → List D × σ
  | s, [] => ([], s)
  | s, d :: r => ((f s d).1 :: (mapSt f (f s d).2 r).1, (mapSt f (f s d).2 r).2)
theorem compL_st {σ : Type} {t : Tg} {vs : List Nat} {ft fe : Ro → ER} (f : σ → D → D × σ) (R : σ → Ro → Prop) : ∀ (l acc : List D) (s : σ) (ρ : Ro), R s ρ → acc.length + l.length ≤ maxLen →
    (∀ d s ρ, d ∈ l → R s ρ → ∃ ρ1 ρ2 w ρ3, t_set t d ρ = some ρ1 ∧ ft ρ1 = .ok (.d (.bl true)) ρ2 ∧ fe ρ2 = .ok w ρ3 ∧ frz w = (f s d).1 ∧ R (f s d).2 (wipeR ρ3 vs)) →
    ∃ ρ', compL vs t ft fe l acc ρ = some (acc ++ (mapSt f s l).1, ρ') ∧ R (mapSt f s l).2 ρ'
  | [], acc, s, ρ, h, _, _ => ⟨ρ, by simp [compL, mapSt], h⟩
  | d :: r, acc, s, ρ, h, hl, hs => by
    obtain ⟨ρ1, ρ2, w, ρ3, e1, e2, e3, e4, h2⟩ := hs d s ρ List.mem_cons_self h
    have hs' := fun d s ρ hd => hs d s ρ (List.mem_cons_of_mem _ hd)
    rw [List.length_cons] at hl
    obtain ⟨ρ', e, h'⟩ := compL_st f R r (acc ++ [(f s d).1]) _ _ h2 (by rw [List.length_append]; simp; omega) hs'
    refine ⟨ρ', ?_, h'⟩
    show (match t_set t d ρ with | some ρ1 => _ | none => _) = _
    rw [e1]
    show (match ft ρ1 with | .ok (.d (.bl true)) ρ2 => _ | .ok (.d (.bl false)) ρ2 => _ | _ => _) = _
    rw [e2]
    show (match fe ρ2 with | .ok w ρ3 => _ | _ => _) = _
    rw [e3]
    show (if acc.length < maxLen then _ else _) = _
    rw [if_pos (by omega), e4, e]
    simp [mapSt]
/-- so many times a drawn item -/
def picks {α : Type} (g : Nat → α) (m : Nat) (ns : List Int) (k : Nat) : Nat → List α
  | 0 => []
  | n + 1 => g (take m ns k) :: picks g m ns (k + 1) n
theorem picks_len {α : Type} (g : Nat → α) (m : Nat) (ns : List Int) : ∀ (n k : Nat), (picks g m ns k n).length = n
  | 0, _ => rfl
  | n + 1, k => by rw [picks, List.length_cons, picks_len g m ns n (k + 1)]
theorem picks_map {α β : Type} (f : α → β) (g : Nat → α) (m : Nat) (ns : List Int) : ∀ (n k : Nat), (picks g m ns k n).map f = picks (fun i => f (g i)) m ns k n
  | 0, _ => rfl
  | n + 1, k => by rw [picks, List.map_cons, picks_map f g m ns n (k + 1)]; rfl
theorem mapSt_picks (g : Nat → D) (m : Nat) (ns : List Int) : ∀ (l : List D) (k : Nat), mapSt (fun k _ => (g (take m ns k), k + 1)) k l = (picks g m ns k l.length, k + l.length)
  | [], k => rfl
  | d :: r, k => by
    rw [mapSt, mapSt_picks g m ns r (k + 1)]
    simp only [List.length_cons, picks, Prod.mk.injEq, true_and]
    omega
theorem picks_all {α : Type} {p : α → Prop} {g : Nat → α} {m : Nat} (hm : 0 < m) (h : ∀ i, i < m → p (g i)) (ns : List Int) : ∀ (n k : Nat), ∀ x ∈ picks g m ns k n, p x
  | 0, _, x, hx => by cases hx
  | n + 1, k, x, hx => by
    rcases List.mem_cons.mp hx with rfl | hx
    · exact h _ (take_lt hm ns k)
    · exact picks_all hm h ns n (k + 1) x hx
theorem rngL_len (lo : Int) (n : Nat) : (rngL lo n).length = n := by simp [rngL]
end L3

set_option Elab.async false
set_option linter.all false
set_option maxRecDepth 100000
set_option maxHeartbeats 4000000
/-! L7c: small facts of frames and data. -/
namespace L3
open PySem L2
theorem set_self : {ρ : Ro} → {i : Nat} → {a : Option W} → ρ[i]? = some a → ρ.set i a = ρ
  | [], _, _, h => by cases h
  | b :: r, 0, a, h => by
    simp at h
    subst h
    rfl
  | b :: r, i + 1, a, h => by
    rw [List.set_cons_succ, set_self (by simpa using h)]
theorem var_self {ρ : Ro} {i : Nat} {x : D} (h : ρ[i]? = some (some (.d x))) : c_var i ρ = .ok (.d x) ρ := by
  rw [ap_c_var, h]
  show ER.ok (.d x) (ρ.set i (some (.d x))) = _
  rw [set_self h]
theorem peek_d {ρ : Ro} {i : Nat} {w : W} (h : ρ[i]? = some (some w)) : c_peek i ρ = .ok (.d (frz w)) ρ := by
  rw [ap_c_peek, h]
mutual
theorem eqD_refl : (x : D) → plain x = true → eqD x x = true
  | .non, _ => rfl
  | .bl b, _ => by cases b <;> rfl
  | .int i, _ => by show (i == i) = true; simp
  | .str s, _ => by show (s == s) = true; simp
  | .tup l, h => eqDs_refl l h
  | .lst l, h => eqDs_refl l h
  | .dic _ _, h => by cases h
  | .ins _ _ _, h => by cases h
theorem eqDs_refl : (l : List D) → plains l = true → eqDs l l = true
  | [], _ => rfl
  | a :: r, h => by
    have h : (plain a && plains r) = true := h
    rw [Bool.and_eq_true] at h
    show (eqD a a && eqDs r r) = true
    rw [eqD_refl a h.1, eqDs_refl r h.2]
    rfl
end
theorem eqC_self {x : D} (h : plain x = true) (h2 : dep x ≤ 60) : eqC x x = some (.bl true) := by
  unfold eqC
  rw [h, eqD_refl x h]
  simp [h2]
theorem neC_self {x : D} (h : plain x = true) (h2 : dep x ≤ 60) : neC x x = some (.bl false) := by
  unfold neC
  rw [h, eqD_refl x h]
  simp [h2]
theorem plains_map {α : Type} (f : α → D) : ∀ l : List α, (∀ x ∈ l, plain (f x) = true) → plains (l.map f) = true
  | [], _ => rfl
  | a :: r, h => by
    show (plain (f a) && plains (r.map f)) = true
    rw [h a List.mem_cons_self, plains_map f r fun x hx => h x (List.mem_cons_of_mem _ hx)]
    rfl
theorem deps_map {α : Type} (f : α → D) (n : Nat) : ∀ l : List α, (∀ x ∈ l, dep (f x) ≤ n) → deps (l.map f) ≤ n
  | [], _ => Nat.zero_le _
  | a :: r, h => Nat.max_le.mpr ⟨h a List.mem_cons_self, deps_map f n r fun x hx => h x (List.mem_cons_of_mem _ hx)⟩
theorem atI_last {α : Type} (l : List α) (x : α) : L2.atI (l ++ [x]) (-1) = some x := by
  have h : L2.ixN (l ++ [x]).length (-1) = some l.length := by
    unfold L2.ixN
    simp
    try omega
  unfold L2.atI
  rw [h]
  simp
theorem cut_last {α : Type} (l : List α) (x : α) : cutD (l ++ [x]) none (some (-1)) = l := by
  unfold cutD HT.sIx
  simp
  have : (-1 + ((l.length : Int) + 1)).toNat = l.length := by omega
  rw [this]
  simp
theorem den_rt {N : Nat} {f : Ro → SR} {ws : List W} {ρ ρ' : Ro} {w : W} (h : ws.map some ++ List.replicate (N - ws.length) none = ρ) (e : f ρ = .rt w ρ') : d_fun N [] f ws = .ok w [] := by
  subst h
  unfold d_fun
  rw [e]
  rfl
theorem den_nx {N : Nat} {f : Ro → SR} {ws : List W} {ρ ρ' : Ro} (h : ws.map some ++ List.replicate (N - ws.length) none = ρ) (e : f ρ = .nx ρ') : d_fun N [] f ws = .ok (.d .non) [] := by
  subst h
  unfold d_fun
  rw [e]
  rfl
theorem den_ex {N : Nat} {f : Ro → SR} {ws : List W} {ρ ρ' : Ro} {x : Ex} (h : ws.map some ++ List.replicate (N - ws.length) none = ρ) (e : f ρ = .ex x ρ') : d_fun N [] f ws = .ex x [] := by
  subst h
  unfold d_fun
  rw [e]
  rfl
end L3

set_option Elab.async false
set_option linter.all false
set_option maxRecDepth 100000
set_option maxHeartbeats 4000000
/-! K40: what the program computes, def by def (printed by gen.py). -/
namespace K40
open PySem L2 L3
/-! ### the denotations -/
def k_MOST_DEEDS : D := .int 8
def k_DEEDS : D := .tup [.str "arm", .str "look", .str "work", .str "sleep"]
def xt : Nat → Bool
  | 4 => true
  | _ => false
def sub_BadRow : Nat → Option Bool
  | 3 => some false
  | 4 => some true
  | _ => none
def g__law_number : Ro → SR := (s_seq (s_unp (.tup [(.name 2), (.name 3)]) (c_if (c_op2 neC (c_peek 0) (c_lst l_nil)) (c_tup (l_cons (c_op2 subD' (c_peek 0) (c_op2 modD (c_peek 1) (c_op1 lenD (c_peek 0)))) (l_cons (c_op2 fdivD (c_peek 1) (c_op1 lenD (c_peek 0))) l_nil))) (c_tup (l_cons (c_const (.int 12345)) (l_cons (c_const (.int 0)) l_nil)))))
  (s_seq (s_set 4 (c_dat (c_if (c_op2 (cmpD fun i j => decide (i < j)) (c_peek 3) (c_const (.int 60))) (c_op2 subD (c_peek 2) (c_op2 powD (c_const (.int 10)) (c_const (.int 18)))) (c_const (.int 0)))))
  (s_seq (s_for (i_range1 (c_op2 modD (c_op1 intD (c_peek 3)) (c_const (.int 60)))) (.name 5) (s_set 4 (c_dat (c_op2 fdivD (c_peek 4) (c_const (.int 1009))))))
  (s_seq (s_if (c_op2 (cmpD fun i j => decide (j < i)) (c_peek 4) (c_const (.int 0))) (s_ret (c_dat (c_op2 modD (c_op1 intD (c_peek 4)) (c_const (.int 1009))))) s_nil)
  (s_seq (s_set 6 (c_dat (c_op2 modD (c_op2 addD (c_mul (c_dat (c_op1 intD (c_op2 addD (c_var 2) (c_mul (c_dat (c_const (.int 977))) (c_var 1))))) (c_const (.int 48271))) (c_mul (c_dat (c_const (.int 31))) (c_op1 lenD (c_peek 0)))) (c_const (.int 2147483647)))))
  (s_seq (s_set 6 (c_dat (c_op2 modD (c_op2 addD (c_mul (c_dat (c_var 6)) (c_var 6)) (c_mul (c_dat (c_const (.int 40503))) (c_var 1))) (c_const (.int 2147483629)))))
  (s_ret (c_dat (c_op1 intD (c_op2 modD (c_op2 addD (c_mul (c_dat (c_var 6)) (c_const (.int 69621))) (c_op2 fdivD (c_peek 6) (c_const (.int 977)))) (c_const (.int 2147483587))))))))))))
def d__law_number : Den := d_fun 7 [] g__law_number
def g__law_take : Ro → SR := (s_seq (s_augsub 0 1 (fun x y => x + y) (c_const (.int 1)))
  (s_ret (c_dat (c_op2 modD (c_op1 intD (c_call d__law_number (l_cons (c_op2 subD' (c_peek 0) (c_const (.int 0))) (l_cons (c_op1 intD (c_op2 subD' (c_peek 0) (c_const (.int 1)))) l_nil)))) (c_peek 1)))))
def d__law_take : Den := d_fun 2 [0] g__law_take
def g__law_pick : Ro → SR := (s_ret (c_dat (c_op2 subD' (c_var 1) (c_callM d__law_take (slots [some 0, none]) (w_cons (c_move 0) (w_cons (c_dat (c_op1 lenD (c_peek 1))) w_nil))))))
def d__law_pick : Den := d_fun 2 [0] g__law_pick
def g__law_signal : Ro → SR := (s_seq (s_unp (.tup [(.name 1), (.name 2), (.name 3), (.name 4)]) (c_var 0))
  (s_ret (c_dat (c_if (c_and (c_op2 eqC (c_peek 1) (c_op1 negD (c_const (.int 1)))) (c_truth tb0 (c_peek 2))) (c_tup (l_cons (c_const (.int 0)) (l_cons (c_const (.bl false)) (l_cons (c_const (.bl false)) (l_cons (c_const (.bl false)) l_nil))))) (c_tup (l_cons (c_var 1) (l_cons (c_var 2) (l_cons (c_var 2) (l_cons (c_const (.bl true)) l_nil)))))))))
def d__law_signal : Den := d_fun 5 [] g__law_signal
def g__law_deed : Ro → SR := (s_seq (s_unp (.tup [(.name 3), (.name 4), (.name 5), (.name 6)]) (c_var 2))
  (s_seq (s_if (c_op2 eqC (c_peek 3) (c_op1 negD (c_const (.int 1)))) (s_ret (c_dat (c_const .non))) s_nil)
  (s_seq (s_if (c_op2 eqC (c_peek 3) (c_op1 lenD (c_peek 0))) (s_ret (c_dat (c_tup (l_cons (c_const (.int 0)) (l_cons (c_const (.bl false)) (l_cons (c_const (.bl false)) (l_cons (c_const (.bl false)) l_nil))))))) s_nil)
  (s_seq (s_set 7 (c_dat (c_op2 subD' (c_peek 0) (c_peek 3))))
  (s_seq (s_if (c_op2 eqC (c_peek 7) (c_const (.str "arm"))) (s_ret (c_dat (c_tup (l_cons (c_op2 addD (c_peek 3) (c_const (.int 1))) (l_cons (c_const (.bl true)) (l_cons (c_var 5) (l_cons (c_var 6) l_nil))))))) s_nil)
  (s_seq (s_if (c_or (c_and (c_op2 eqC (c_peek 7) (c_const (.str "look"))) (c_truth tb0 (c_peek 5))) (c_or (c_and (c_op2 eqC (c_peek 7) (c_const (.str "work"))) (c_truth tb0 (c_peek 6))) (c_and (c_op2 eqC (c_peek 7) (c_const (.str "sleep"))) (c_and (c_truth tb0 (c_peek 5)) (c_truth tb0 (c_peek 1)))))) (s_ret (c_dat (c_tup (l_cons (c_const (.int 0)) (l_cons (c_const (.bl false)) (l_cons (c_const (.bl false)) (l_cons (c_const (.bl false)) l_nil))))))) s_nil)
  (s_ret (c_dat (c_if (c_op2 eqC (c_peek 7) (c_const (.str "sleep"))) (c_tup (l_cons (c_op1 negD (c_const (.int 1))) (l_cons (c_var 4) (l_cons (c_var 5) (l_cons (c_var 6) l_nil))))) (c_tup (l_cons (c_op2 addD (c_peek 3) (c_const (.int 1))) (l_cons (c_var 4) (l_cons (c_var 5) (l_cons (c_var 6) l_nil))))))))))))))
def d__law_deed : Den := d_fun 8 [] g__law_deed
def g__law_fewest : Ro → SR := (s_seq (s_par [2, 3, 4] (w_cons (c_lst (l_cons (c_tup (l_cons (c_tup (l_cons (c_const (.int 0)) (l_cons (c_const (.bl false)) (l_cons (c_const (.bl false)) (l_cons (c_const (.bl false)) l_nil))))) (l_cons (c_const (.int 0)) l_nil))) l_nil)) (w_cons (c_lst (l_cons (c_tup (l_cons (c_const (.int 0)) (l_cons (c_const (.bl false)) (l_cons (c_const (.bl false)) (l_cons (c_const (.bl false)) l_nil))))) l_nil)) (w_cons (c_dat (c_const .non)) w_nil))))
  (s_seq (s_for (i_range1 (c_const (.int 200))) (.name 5) (s_seq (s_if (c_op2 eqC (c_peek 5) (c_op1 lenD (c_peek 2))) s_break s_nil)
  (s_seq (s_unp (.tup [(.name 6), (.name 7)]) (c_op2 subD' (c_peek 2) (c_peek 5)))
  (s_seq (s_if (c_and (c_op2 eqC (c_op2 subD' (c_peek 6) (c_const (.int 0))) (c_op1 negD (c_const (.int 1)))) (c_and (c_truth tb0 (c_op2 subD' (c_peek 6) (c_const (.int 3)))) (c_op2 isN (c_peek 4) (c_const .non)))) (s_set 4 (c_dat (c_var 7))) s_nil)
  (s_for (i_seq (c_tup (l_cons (c_call d__law_deed (l_cons (c_var 0) (l_cons (c_var 1) (l_cons (c_var 6) l_nil)))) (l_cons (c_call d__law_signal (l_cons (c_var 6) l_nil)) l_nil)))) (.name 8) (s_if (c_and (c_op2 notN (c_peek 8) (c_const .non)) (c_op2 ninD (c_peek 8) (c_peek 3))) (s_seq (s_app 3 (c_var 8))
  (s_app 2 (c_tup (l_cons (c_var 8) (l_cons (c_op2 addD (c_peek 7) (c_const (.int 1))) l_nil))))) s_nil))))))
  (s_ret (c_dat (c_tup (l_cons (c_var 4) (l_cons (c_op1 lenD (c_peek 2)) l_nil)))))))
def d__law_fewest : Den := d_fun 9 [] g__law_fewest
def g_check_row : Ro → SR := (s_seq (s_if (c_or (c_not (c_truth tb0 (c_isi 3 [.ty .lst, .ty .tup] (c_peek 0)))) (c_not (c_chain (cmpD fun i j => decide (i ≤ j)) (cmpD fun i j => decide (i ≤ j)) (c_const (.int 1)) (c_op1 lenD (c_peek 0)) (c_const k_MOST_DEEDS)))) (s_raise 4 ["number"] (l_cons (c_const .non) l_nil)) s_nil)
  (s_for (i_enum (c_var 0)) (.tup [(.name 1), (.name 2)]) (s_if (c_or (c_not (c_truth tb0 (c_isi 3 [.ty .str] (c_peek 2)))) (c_op2 ninD (c_peek 2) (c_const k_DEEDS))) (s_raise 4 ["number"] (l_cons (c_var 1) l_nil)) s_nil)))
def d_check_row : Den := d_fun 3 [] g_check_row
def g_Standing_init : Ro → SR := (s_seq (s_fld 3 0 "at" (c_dat (c_var 1)))
  (s_seq (s_fld 3 0 "armed" (c_dat (c_var 2)))
  (s_seq (s_fld 3 0 "noted" (c_dat (c_var 3)))
  (s_fld 3 0 "work" (c_dat (c_var 4))))))
def d_Standing_init : Den := d_fun 5 [0] g_Standing_init
def g_first_standing : Ro → SR := (s_ret (c_make 0 d_Standing_init (l_cons (c_const (.int 0)) (l_cons (c_const (.bl false)) (l_cons (c_const (.bl false)) (l_cons (c_const (.bl false)) l_nil))))))
def d_first_standing : Den := d_fun 0 [] g_first_standing
def g_Standing_key : Ro → SR := (s_ret (c_dat (c_tup (l_cons (c_if (c_op2 isN (c_op1 (fldN 3 "at") (c_peek 0)) (c_const .non)) (c_op1 negD (c_const (.int 1))) (c_op1 (fldN 3 "at") (c_var 0))) (l_cons (c_op1 (fldN 3 "armed") (c_var 0)) (l_cons (c_op1 (fldN 3 "noted") (c_var 0)) (l_cons (c_op1 (fldN 3 "work") (c_var 0)) l_nil)))))))
def d_Standing_key : Den := d_fun 1 [] g_Standing_key
def mt_key : Nat → Option Den
  | 0 => some d_Standing_key
  | _ => none
def g_Sleeps_init : Ro → SR := (s_fld 3 0 "moves" (c_dat (c_op1 tupD (c_peek 1))))
def d_Sleeps_init : Den := d_fun 2 [0] g_Sleeps_init
def g_signalled : Ro → SR := (s_seq (s_if (c_and (c_op2 isN (c_op1 (fldN 3 "at") (c_peek 0)) (c_const .non)) (c_truth tb0 (c_op1 (fldN 3 "armed") (c_peek 0)))) (s_ret (c_call d_first_standing l_nil)) s_nil)
  (s_ret (c_make 0 d_Standing_init (l_cons (c_op1 (fldN 3 "at") (c_var 0)) (l_cons (c_op1 (fldN 3 "armed") (c_var 0)) (l_cons (c_op1 (fldN 3 "armed") (c_var 0)) (l_cons (c_const (.bl true)) l_nil)))))))
def d_signalled : Den := d_fun 1 [] g_signalled
def g_done : Ro → SR := (s_seq (s_if (c_op2 isN (c_op1 (fldN 3 "at") (c_peek 2)) (c_const .non)) (s_ret (c_dat (c_const .non))) s_nil)
  (s_seq (s_if (c_op2 eqC (c_op1 (fldN 3 "at") (c_peek 2)) (c_op1 lenD (c_peek 0))) (s_ret (c_call d_first_standing l_nil)) s_nil)
  (s_seq (s_set 3 (c_dat (c_op2 subD' (c_peek 0) (c_op1 (fldN 3 "at") (c_peek 2)))))
  (s_seq (s_if (c_op2 eqC (c_peek 3) (c_const (.str "arm"))) (s_ret (c_make 0 d_Standing_init (l_cons (c_op2 addD (c_op1 (fldN 3 "at") (c_peek 2)) (c_const (.int 1))) (l_cons (c_const (.bl true)) (l_cons (c_op1 (fldN 3 "noted") (c_var 2)) (l_cons (c_op1 (fldN 3 "work") (c_var 2)) l_nil)))))) s_nil)
  (s_seq (s_if (c_op2 eqC (c_peek 3) (c_const (.str "look"))) (s_ret (c_if (c_truth tb0 (c_op1 (fldN 3 "noted") (c_peek 2))) (c_call d_first_standing l_nil) (c_make 0 d_Standing_init (l_cons (c_op2 addD (c_op1 (fldN 3 "at") (c_peek 2)) (c_const (.int 1))) (l_cons (c_op1 (fldN 3 "armed") (c_var 2)) (l_cons (c_const (.bl false)) (l_cons (c_op1 (fldN 3 "work") (c_var 2)) l_nil))))))) s_nil)
  (s_seq (s_if (c_op2 eqC (c_peek 3) (c_const (.str "work"))) (s_seq (s_if (c_truth tb0 (c_op1 (fldN 3 "work") (c_peek 2))) (s_ret (c_call d_first_standing l_nil)) s_nil)
  (s_ret (c_make 0 d_Standing_init (l_cons (c_op2 addD (c_op1 (fldN 3 "at") (c_peek 2)) (c_const (.int 1))) (l_cons (c_op1 (fldN 3 "armed") (c_var 2)) (l_cons (c_op1 (fldN 3 "noted") (c_var 2)) (l_cons (c_const (.bl false)) l_nil))))))) s_nil)
  (s_seq (s_if (c_and (c_truth tb0 (c_op1 (fldN 3 "noted") (c_peek 2))) (c_truth tb0 (c_peek 1))) (s_ret (c_call d_first_standing l_nil)) s_nil)
  (s_ret (c_make 0 d_Standing_init (l_cons (c_const .non) (l_cons (c_op1 (fldN 3 "armed") (c_var 2)) (l_cons (c_op1 (fldN 3 "noted") (c_var 2)) (l_cons (c_op1 (fldN 3 "work") (c_var 2)) l_nil)))))))))))))
def d_done : Den := d_fun 4 [] g_done
def g_Wakes_init : Ro → SR := (s_fld 3 0 "standings" (c_dat (c_var 1)))
def d_Wakes_init : Den := d_fun 2 [0] g_Wakes_init
def g_judge_row : Ro → SR := (s_seq (s_expr (c_call d_check_row (l_cons (c_var 0) l_nil)))
  (s_seq (s_set 2 (c_call d_first_standing l_nil))
  (s_seq (s_par [3, 4, 5] (w_cons (c_lst (l_cons (c_tup (l_cons (c_var 2) (l_cons (c_tup l_nil) l_nil))) l_nil)) (w_cons (c_dic1 (c_meth mt_key "key" (c_var 2) l_nil) (c_const (.bl true))) (w_cons (c_dat (c_const (.int 0))) w_nil))))
  (s_seq (s_whileN (c_op2 (cmpD fun i j => decide (i < j)) (c_peek 5) (c_op1 lenD (c_peek 3))) (s_seq (s_unp (.tup [(.name 6), (.name 7)]) (c_op2 subD' (c_peek 3) (c_peek 5)))
  (s_seq (s_aug true 5 iaddD (c_const (.int 1)))
  (s_seq (s_if (c_and (c_op2 isN (c_op1 (fldN 3 "at") (c_peek 6)) (c_const .non)) (c_truth tb0 (c_op1 (fldN 3 "work") (c_peek 6)))) (s_ret (c_make 2 d_Sleeps_init (l_cons (c_var 7) l_nil))) s_nil)
  (s_seq (s_set 8 (c_lst (l_cons (c_tup (l_cons (c_const (.str "deed")) (l_cons (c_call d_done (l_cons (c_var 0) (l_cons (c_var 1) (l_cons (c_var 6) l_nil)))) l_nil))) (l_cons (c_tup (l_cons (c_const (.str "signal")) (l_cons (c_call d_signalled (l_cons (c_var 6) l_nil)) l_nil))) l_nil))))
  (s_for (i_seq (c_var 8)) (.tup [(.name 9), (.name 10)]) (s_if (c_and (c_op2 notN (c_peek 10) (c_const .non)) (c_op2 ninD (c_meth mt_key "key" (c_var 10) l_nil) (c_peek 4))) (s_seq (s_sub 4 (c_const (.bl true)) (c_meth mt_key "key" (c_var 10) l_nil))
  (s_app 3 (c_tup (l_cons (c_var 10) (l_cons (c_tup (l_star (c_var 7) (l_cons (c_var 9) l_nil))) l_nil))))) s_nil)))))) 1000)
  (s_ret (c_make 1 d_Wakes_init (l_cons (c_op1 lenD (c_peek 3)) l_nil)))))))
def d_judge_row : Den := d_fun 11 [] g_judge_row
def g_Standing_eq : Ro → SR := (s_seq (s_if (c_or (c_not (c_truth tb0 (c_isi 3 [.own 0] (c_peek 1)))) (c_op2 neC (c_tup (l_cons (c_op1 (fldN 3 "at") (c_var 0)) (l_cons (c_op1 (fldN 3 "armed") (c_var 0)) l_nil))) (c_tup (l_cons (c_op1 (fldN 3 "at") (c_var 1)) (l_cons (c_op1 (fldN 3 "armed") (c_var 1)) l_nil))))) (s_ret (c_dat (c_const (.bl false)))) s_nil)
  (s_ret (c_dat (c_op2 eqC (c_tup (l_cons (c_op1 (fldN 3 "noted") (c_var 0)) (l_cons (c_op1 (fldN 3 "work") (c_var 0)) l_nil))) (c_tup (l_cons (c_op1 (fldN 3 "noted") (c_var 1)) (l_cons (c_op1 (fldN 3 "work") (c_var 1)) l_nil)))))))
def d_Standing_eq : Den := d_fun 2 [] g_Standing_eq
def g_Wakes_eq : Ro → SR := (s_ret (c_dat (c_andV tb0 (c_isi 3 [.own 1] (c_peek 1)) (c_op2 eqC (c_op1 (fldN 3 "standings") (c_peek 0)) (c_op1 (fldN 3 "standings") (c_peek 1))))))
def d_Wakes_eq : Den := d_fun 2 [] g_Wakes_eq
def g_Sleeps_eq : Ro → SR := (s_ret (c_dat (c_andV tb0 (c_isi 3 [.own 2] (c_peek 1)) (c_op2 eqC (c_op1 (fldN 3 "moves") (c_peek 0)) (c_op1 (fldN 3 "moves") (c_peek 1))))))
def d_Sleeps_eq : Den := d_fun 2 [] g_Sleeps_eq
def etbl : Nat → Option Den
  | 0 => some d_Standing_eq
  | 1 => some d_Wakes_eq
  | 2 => some d_Sleeps_eq
  | _ => none
def g_Wakes_shows : Ro → SR := (s_ret (c_dat (c_op2 (cmpID 3 false etbl eqC) (c_call d_judge_row (l_cons (c_var 1) (l_cons (c_var 2) l_nil))) (c_peek 0))))
def d_Wakes_shows : Den := d_fun 3 [] g_Wakes_shows
def g_Sleeps_shows : Ro → SR := (s_seq (s_expr (c_call d_check_row (l_cons (c_var 1) l_nil)))
  (s_seq (s_set 3 (c_call d_first_standing l_nil))
  (s_seq (s_for (i_seq (c_op1 (fldN 3 "moves") (c_var 0))) (.name 4) (s_if (c_op2 eqC (c_peek 4) (c_const (.str "signal"))) (s_set 3 (c_call d_signalled (l_cons (c_var 3) l_nil))) (s_if (c_and (c_op2 eqC (c_peek 4) (c_const (.str "deed"))) (c_op2 notN (c_op1 (fldN 3 "at") (c_peek 3)) (c_const .non))) (s_set 3 (c_call d_done (l_cons (c_var 1) (l_cons (c_var 2) (l_cons (c_var 3) l_nil))))) (s_ret (c_dat (c_const (.bl false)))))))
  (s_ret (c_dat (c_andV tb0 (c_op2 isN (c_op1 (fldN 3 "at") (c_peek 3)) (c_const .non)) (c_op1 (fldN 3 "work") (c_var 3))))))))
def d_Sleeps_shows : Den := d_fun 5 [] g_Sleeps_shows
def mt_shows : Nat → Option Den
  | 1 => some d_Wakes_shows
  | 2 => some d_Sleeps_shows
  | _ => none
def g_Wakes_bool : Ro → SR := (s_ret (c_dat (c_const (.bl true))))
def d_Wakes_bool : Den := d_fun 1 [] g_Wakes_bool
def g_Sleeps_bool : Ro → SR := (s_ret (c_dat (c_const (.bl false))))
def d_Sleeps_bool : Den := d_fun 1 [] g_Sleeps_bool
def tbl : Nat → Option Bool
  | 1 => some true
  | 2 => some false
  | _ => none
def g__law_is_good : Ro → SR := (s_seq (s_if (c_not (c_truth tb0 (c_peek 1))) (s_ret (c_dat (c_const (.bl false)))) s_nil)
  (s_ret (c_dat (c_op1 anyD (c_comp (i_range1 (c_op1 lenD (c_peek 0))) [2] (.name 2) c_yes (c_andV tb0 (c_op2 eqC (c_op2 subD' (c_peek 0) (c_peek 2)) (c_const (.str "arm"))) (c_op2 inD (c_const (.str "work")) (c_slice (c_peek 0) (p_some (c_op2 addD (c_peek 2) (c_const (.int 1)))) p_none))))))))
def d__law_is_good : Den := d_fun 3 [] g__law_is_good
def g_good_rows : Ro → SR := (s_seq (s_if (c_or (c_truth tb0 (c_isi 3 [.ty .bl] (c_peek 0))) (c_or (c_not (c_truth tb0 (c_isi 3 [.ty .int] (c_peek 0)))) (c_not (c_chain (cmpD fun i j => decide (i ≤ j)) (cmpD fun i j => decide (i ≤ j)) (c_const (.int 0)) (c_var 0) (c_const (.int 6)))))) (s_raise 4 ["number"] (l_cons (c_const .non) l_nil)) s_nil)
  (s_seq (s_par [2, 3] (w_cons (c_lst l_nil) (w_cons (c_lst (l_cons (c_tup l_nil) l_nil)) w_nil)))
  (s_seq (s_for (i_range1 (c_var 0)) (.name 4) (s_seq (s_set 3 (c_comp2 (i_seq (c_peek 3)) [5, 6] (.name 5) c_yes (i_seq (c_const k_DEEDS)) [6] (.name 6) c_yes (c_tup (l_star (c_var 5) (l_cons (c_var 6) l_nil)))))
  (s_for (i_seq (c_var 3)) (.name 5) (s_if (c_and (c_op2 eqC (c_op2 subD' (c_peek 5) (c_op1 negD (c_const (.int 1)))) (c_const (.str "sleep"))) (c_and (c_op2 ninD (c_const (.str "sleep")) (c_slice (c_peek 5) p_none (p_some (c_op1 negD (c_const (.int 1)))))) (c_truth tbl (c_call d_judge_row (l_cons (c_var 5) (l_cons (c_var 1) l_nil)))))) (s_app 2 (c_var 5)) s_nil))))
  (s_ret (c_move 2)))))
def d_good_rows : Den := d_fun 7 [] g_good_rows
def g_law : Ro → SR := (s_seq (s_set 1 (c_lst (l_cons (c_var 0) (l_cons (c_const (.int 0)) l_nil))))
  (s_seq (s_set 2 (c_dat (c_op2 eqC (c_callM d__law_take (slots [some 1, none]) (w_cons (c_move 1) (w_cons (c_dat (c_const (.int 2))) w_nil))) (c_const (.int 0)))))
  (s_seq (s_set 3 (c_comp (i_range1 (c_op2 addD (c_const (.int 1)) (c_callM d__law_take (slots [some 1, none]) (w_cons (c_move 1) (w_cons (c_dat (c_const (.int 6))) w_nil))))) [10] (.name 10) c_yes (c_callM d__law_pick (slots [some 1, none]) (w_cons (c_move 1) (w_cons (c_lst (l_cons (c_const (.str "arm")) (l_cons (c_const (.str "look")) (l_cons (c_const (.str "work")) (l_cons (c_const (.str "sleep")) l_nil))))) w_nil)))))
  (s_seq (s_unp (.tup [(.name 4), (.name 5)]) (c_call d__law_fewest (l_cons (c_var 3) (l_cons (c_var 2) l_nil))))
  (s_seq (s_set 6 (c_call d_judge_row (l_cons (c_var 3) (l_cons (c_var 2) l_nil))))
  (s_seq (s_if (c_or (c_op2 neC (c_op1 (boolD tbl) (c_peek 6)) (c_op2 isN (c_peek 4) (c_const .non))) (c_or (c_not (c_truth tb0 (c_meth mt_shows "shows" (c_var 6) (l_cons (c_var 3) (l_cons (c_var 2) l_nil))))) (c_or (c_and (c_op2 isN (c_peek 4) (c_const .non)) (c_op2 (cmpID 3 true etbl neC) (c_peek 6) (c_make 1 d_Wakes_init (l_cons (c_var 5) l_nil)))) (c_or (c_truth tb0 (c_meth mt_shows "shows" (c_make 1 d_Wakes_init (l_cons (c_const (.int 0)) l_nil)) (l_cons (c_var 3) (l_cons (c_var 2) l_nil)))) (c_truth tb0 (c_meth mt_shows "shows" (c_make 2 d_Sleeps_init (l_cons (c_tup l_nil) l_nil)) (l_cons (c_var 3) (l_cons (c_var 2) l_nil)))))))) (s_ret (c_dat (c_const (.bl false)))) s_nil)
  (s_seq (s_if (c_and (c_truth tb0 (c_isi 3 [.own 2] (c_peek 6))) (c_or (c_op2 neC (c_op1 lenD (c_op1 (fldN 3 "moves") (c_peek 6))) (c_peek 4)) (c_or (c_truth tb0 (c_meth mt_shows "shows" (c_make 2 d_Sleeps_init (l_cons (c_slice (c_op1 (fldN 3 "moves") (c_peek 6)) p_none (p_some (c_op1 negD (c_const (.int 1))))) l_nil)) (l_cons (c_var 3) (l_cons (c_var 2) l_nil)))) (c_or (c_truth tb0 (c_meth mt_shows "shows" (c_make 1 d_Wakes_init (l_cons (c_var 5) l_nil)) (l_cons (c_var 3) (l_cons (c_var 2) l_nil)))) (c_truth tb0 (c_meth mt_shows "shows" (c_make 2 d_Sleeps_init (l_cons (c_tup (l_cons (c_const (.str "zz")) l_nil)) l_nil)) (l_cons (c_var 3) (l_cons (c_var 2) l_nil)))))))) (s_ret (c_dat (c_const (.bl false)))) s_nil)
  (s_seq (s_set 7 (c_dat (c_op2 addD (c_slice (c_comp (i_seq (c_peek 3)) [16] (.name 16) (c_op2 neC (c_peek 16) (c_const (.str "sleep"))) (c_var 16)) p_none (p_some (c_const (.int 4)))) (c_lst (l_cons (c_const (.str "sleep")) l_nil)))))
  (s_seq (s_if (c_and (c_op2 neC (c_op1 (boolD tbl) (c_call d_judge_row (l_cons (c_var 7) (l_cons (c_var 2) l_nil)))) (c_call d__law_is_good (l_cons (c_var 7) (l_cons (c_var 2) l_nil)))) (c_op2 inD (c_const (.str "sleep")) (c_peek 7))) (s_ret (c_dat (c_const (.bl false)))) s_nil)
  (s_seq (s_par [8, 9] (w_cons (c_lst (l_cons (c_tup l_nil) l_nil)) (w_cons (c_lst l_nil) w_nil)))
  (s_seq (s_for (i_range1 (c_const (.int 4))) (.name 10) (s_seq (s_set 11 (c_lst l_nil))
  (s_seq (s_for (i_seq (c_var 8)) (.name 12) (s_set 11 (c_dat (c_op2 addD (c_peek 11) (c_comp (i_seq (c_tup (l_cons (c_const (.str "arm")) (l_cons (c_const (.str "look")) (l_cons (c_const (.str "work")) (l_cons (c_const (.str "sleep")) l_nil)))))) [16] (.name 16) c_yes (c_op2 addD (c_peek 12) (c_tup (l_cons (c_var 16) l_nil))))))))
  (s_seq (s_set 8 (c_dat (c_var 11)))
  (s_set 9 (c_dat (c_op2 addD (c_peek 9) (c_comp (i_seq (c_peek 8)) [12] (.name 12) (c_and (c_op2 eqC (c_op2 subD' (c_peek 12) (c_op1 negD (c_const (.int 1)))) (c_const (.str "sleep"))) (c_and (c_op2 ninD (c_const (.str "sleep")) (c_slice (c_peek 12) p_none (p_some (c_op1 negD (c_const (.int 1)))))) (c_truth tb0 (c_call d__law_is_good (l_cons (c_var 12) (l_cons (c_var 2) l_nil)))))) (c_var 12)))))))))
  (s_seq (s_if (c_or (c_op2 neC (c_call d_good_rows (l_cons (c_const (.int 4)) (l_cons (c_var 2) l_nil))) (c_peek 9)) (c_op2 neC (c_call d_good_rows (l_cons (c_const (.int 0)) (l_cons (c_var 2) l_nil))) (c_lst l_nil))) (s_ret (c_dat (c_const (.bl false)))) s_nil)
  (s_seq (s_unp (.tup [(.name 13), (.name 14)]) (c_callM d__law_pick (slots [some 1, none]) (w_cons (c_move 1) (w_cons (c_lst (l_cons (c_tup (l_cons (c_const .non) (l_cons (c_const .non) l_nil))) (l_cons (c_tup (l_cons (c_lst l_nil) (l_cons (c_const .non) l_nil))) (l_cons (c_tup (l_cons (c_mul (c_lst (l_cons (c_const (.str "arm")) l_nil)) (c_const (.int 9))) (l_cons (c_const .non) l_nil))) (l_cons (c_tup (l_cons (c_lst (l_cons (c_const (.str "arm")) (l_cons (c_const (.str "zz")) l_nil))) (l_cons (c_const (.int 1)) l_nil))) (l_cons (c_tup (l_cons (c_lst (l_cons (c_const .non) l_nil)) (l_cons (c_const (.int 0)) l_nil))) l_nil)))))) w_nil))))
  (s_try sub_BadRow (s_seq (s_expr (c_call d_judge_row (l_cons (c_var 13) (l_cons (c_var 2) l_nil))))
  (s_ret (c_dat (c_const (.bl false))))) (some 15) (fun y => (s_ret (c_dat (c_op2 eqC (c_xfld xt y "number") (c_peek 14)))))))))))))))))))
def d_law : Den := d_fun 17 [] g_law
end K40

set_option Elab.async false
set_option maxRecDepth 100000
set_option maxHeartbeats 4000000
namespace K40
open PySem L3
@[simp] theorem ne_arm_look : (Str.ofString "arm" = Str.ofString "look") = False := eq_false (by decide +kernel)
@[simp] theorem ne_arm_work : (Str.ofString "arm" = Str.ofString "work") = False := eq_false (by decide +kernel)
@[simp] theorem ne_arm_sleep : (Str.ofString "arm" = Str.ofString "sleep") = False := eq_false (by decide +kernel)
@[simp] theorem ne_arm_deed : (Str.ofString "arm" = Str.ofString "deed") = False := eq_false (by decide +kernel)
@[simp] theorem ne_arm_signal : (Str.ofString "arm" = Str.ofString "signal") = False := eq_false (by decide +kernel)
@[simp] theorem ne_arm_zz : (Str.ofString "arm" = Str.ofString "zz") = False := eq_false (by decide +kernel)
@[simp] theorem ne_look_arm : (Str.ofString "look" = Str.ofString "arm") = False := eq_false (by decide +kernel)
@[simp] theorem ne_look_work : (Str.ofString "look" = Str.ofString "work") = False := eq_false (by decide +kernel)
@[simp] theorem ne_look_sleep : (Str.ofString "look" = Str.ofString "sleep") = False := eq_false (by decide +kernel)
@[simp] theorem ne_look_deed : (Str.ofString "look" = Str.ofString "deed") = False := eq_false (by decide +kernel)
@[simp] theorem ne_look_signal : (Str.ofString "look" = Str.ofString "signal") = False := eq_false (by decide +kernel)
@[simp] theorem ne_look_zz : (Str.ofString "look" = Str.ofString "zz") = False := eq_false (by decide +kernel)
@[simp] theorem ne_work_arm : (Str.ofString "work" = Str.ofString "arm") = False := eq_false (by decide +kernel)
@[simp] theorem ne_work_look : (Str.ofString "work" = Str.ofString "look") = False := eq_false (by decide +kernel)
@[simp] theorem ne_work_sleep : (Str.ofString "work" = Str.ofString "sleep") = False := eq_false (by decide +kernel)
@[simp] theorem ne_work_deed : (Str.ofString "work" = Str.ofString "deed") = False := eq_false (by decide +kernel)
@[simp] theorem ne_work_signal : (Str.ofString "work" = Str.ofString "signal") = False := eq_false (by decide +kernel)
@[simp] theorem ne_work_zz : (Str.ofString "work" = Str.ofString "zz") = False := eq_false (by decide +kernel)
@[simp] theorem ne_sleep_arm : (Str.ofString "sleep" = Str.ofString "arm") = False := eq_false (by decide +kernel)
@[simp] theorem ne_sleep_look : (Str.ofString "sleep" = Str.ofString "look") = False := eq_false (by decide +kernel)
@[simp] theorem ne_sleep_work : (Str.ofString "sleep" = Str.ofString "work") = False := eq_false (by decide +kernel)
@[simp] theorem ne_sleep_deed : (Str.ofString "sleep" = Str.ofString "deed") = False := eq_false (by decide +kernel)
@[simp] theorem ne_sleep_signal : (Str.ofString "sleep" = Str.ofString "signal") = False := eq_false (by decide +kernel)
@[simp] theorem ne_sleep_zz : (Str.ofString "sleep" = Str.ofString "zz") = False := eq_false (by decide +kernel)
@[simp] theorem ne_deed_arm : (Str.ofString "deed" = Str.ofString "arm") = False := eq_false (by decide +kernel)
@[simp] theorem ne_deed_look : (Str.ofString "deed" = Str.ofString "look") = False := eq_false (by decide +kernel)
@[simp] theorem ne_deed_work : (Str.ofString "deed" = Str.ofString "work") = False := eq_false (by decide +kernel)
@[simp] theorem ne_deed_sleep : (Str.ofString "deed" = Str.ofString "sleep") = False := eq_false (by decide +kernel)
@[simp] theorem ne_deed_signal : (Str.ofString "deed" = Str.ofString "signal") = False := eq_false (by decide +kernel)
@[simp] theorem ne_deed_zz : (Str.ofString "deed" = Str.ofString "zz") = False := eq_false (by decide +kernel)
@[simp] theorem ne_signal_arm : (Str.ofString "signal" = Str.ofString "arm") = False := eq_false (by decide +kernel)
@[simp] theorem ne_signal_look : (Str.ofString "signal" = Str.ofString "look") = False := eq_false (by decide +kernel)
@[simp] theorem ne_signal_work : (Str.ofString "signal" = Str.ofString "work") = False := eq_false (by decide +kernel)
@[simp] theorem ne_signal_sleep : (Str.ofString "signal" = Str.ofString "sleep") = False := eq_false (by decide +kernel)
@[simp] theorem ne_signal_deed : (Str.ofString "signal" = Str.ofString "deed") = False := eq_false (by decide +kernel)
@[simp] theorem ne_signal_zz : (Str.ofString "signal" = Str.ofString "zz") = False := eq_false (by decide +kernel)
@[simp] theorem ne_zz_arm : (Str.ofString "zz" = Str.ofString "arm") = False := eq_false (by decide +kernel)
@[simp] theorem ne_zz_look : (Str.ofString "zz" = Str.ofString "look") = False := eq_false (by decide +kernel)
@[simp] theorem ne_zz_work : (Str.ofString "zz" = Str.ofString "work") = False := eq_false (by decide +kernel)
@[simp] theorem ne_zz_sleep : (Str.ofString "zz" = Str.ofString "sleep") = False := eq_false (by decide +kernel)
@[simp] theorem ne_zz_deed : (Str.ofString "zz" = Str.ofString "deed") = False := eq_false (by decide +kernel)
@[simp] theorem ne_zz_signal : (Str.ofString "zz" = Str.ofString "signal") = False := eq_false (by decide +kernel)
/-- a standing: at (none: asleep), armed, noted, work -/
abbrev Sg := Option Nat × Bool × Bool × Bool
def eAt : Option Nat → D
  | none => .non
  | some i => .int i
def eKey : Option Nat → D
  | none => .int (-1)
  | some i => .int i
/-- as an instance -/
def eS (s : Sg) : D := .ins 0 ["at", "armed", "noted", "work"] [eAt s.1, .bl s.2.1, .bl s.2.2.1, .bl s.2.2.2]
/-- as a tuple -/
def eT (s : Sg) : D := .tup [eKey s.1, .bl s.2.1, .bl s.2.2.1, .bl s.2.2.2]
def eSo : Option Sg → D
  | none => .non
  | some s => eS s
def eTo : Option Sg → D
  | none => .non
  | some s => eT s
def first : Sg := (some 0, false, false, false)
def sgn (s : Sg) : Sg := match s with
  | (none, true, _, _) => first
  | (a, m, _, _) => (a, m, m, true)
theorem first_ok : d_first_standing [] = .ok (.ins 0 ["at", "armed", "noted", "work"] [.d (.int 0), .d (.bl false), .d (.bl false), .d (.bl false)]) [] := by
  with_unfolding_all rfl
theorem key_ok (s : Sg) : d_Standing_key [.d (eS s)] = .ok (.d (eT s)) [] := by
  obtain ⟨a, m, n, w⟩ := s
  cases a <;> with_unfolding_all rfl
theorem signal_ok (s : Sg) : d__law_signal [.d (eT s)] = .ok (.d (eT (sgn s))) [] := by
  obtain ⟨a, m, n, w⟩ := s
  cases a <;> cases m <;> with_unfolding_all rfl
inductive Deed where
  | arm | look | work | sleep
  deriving DecidableEq
def Deed.s : Deed → Str
  | .arm => "arm" | .look => "look" | .work => "work" | .sleep => "sleep"
def eDs (row : List Deed) : List D := row.map fun d => .str d.s
/-- a row is handed in as a list or as a tuple -/
def Row (row : List Deed) (r : D) : Prop := r = .lst (eDs row) ∨ r = .tup (eDs row)
def deedS (row : List Deed) (latch : Bool) (s : Sg) : Option Sg := match s with
  | (none, _) => none
  | (some i, m, n, w) => match row[i]? with
    | none => some first
    | some .arm => some (some (i + 1), true, n, w)
    | some .look => if n then some first else some (some (i + 1), m, false, w)
    | some .work => if w then some first else some (some (i + 1), m, n, false)
    | some .sleep => if n && latch then some first else some (none, m, n, w)
theorem signalled_ok (s : Sg) : d_signalled [.d (eS s)] = .ok (.ins 0 ["at", "armed", "noted", "work"] [.d (eAt (sgn s).1), .d (.bl (sgn s).2.1), .d (.bl (sgn s).2.2.1), .d (.bl (sgn s).2.2.2)]) [] := by
  obtain ⟨a, m, n, w⟩ := s
  cases a <;> cases m <;> with_unfolding_all rfl
theorem sub_row {row : List Deed} {r : D} (h : Row row r) {i : Nat} {d : Deed} (e : row[i]? = some d) : subD' r (.int i) = some (.str d.s) := by
  have hl : i < row.length := by
    rcases Nat.lt_or_ge i row.length with h | h
    · exact h
    · rw [List.getElem?_eq_none h] at e; cases e
  have e2 : (eDs row)[i]? = some (.str d.s) := by simp [eDs, e]
  rcases h with rfl | rfl <;> exact L2.atI_nat e2
theorem len_row {row : List Deed} {r : D} (h : Row row r) : lenD r = some (.int row.length) := by
  rcases h with rfl | rfl <;> simp [lenD, eDs]
theorem lawdeed_ok {row : List Deed} {r : D} (h : Row row r) (latch : Bool) (s : Sg) (hb : ∀ i, s.1 = some i → i ≤ row.length) : d__law_deed [.d r, .d (.bl latch), .d (eT s)] = .ok (.d (eTo (deedS row latch s))) [] := by
  obtain ⟨a, m, n, w⟩ := s
  cases a with
  | none => with_unfolding_all rfl
  | some i =>
    cases e : row[i]? with
    | none =>
      have : row.length ≤ i := by simpa using e
      have : i = row.length := Nat.le_antisymm (hb i rfl) this
      subst this
      simp [d__law_deed, g__law_deed, d_fun, eT, eKey, len_row h, deedS, maxLen, first, eTo]
    | some d =>
      have hl : i < row.length := by
        rcases Nat.lt_or_ge i row.length with h | h
        · exact h
        · rw [List.getElem?_eq_none h] at e; cases e
      have hn : ((i : Int) == (row.length : Int)) = false := by simp <;> omega
      have hm : ((i : Int) == -1) = false := by simp <;> omega
      cases d <;> cases n <;> cases w <;> cases latch <;>
      simp [d__law_deed, g__law_deed, d_fun, eT, eKey, len_row h, deedS, e, sub_row h e, maxLen, hn, hm, Deed.s, first, eTo]
/-- an instance, owned -/
def wS (s : Sg) : W := .ins 0 ["at", "armed", "noted", "work"] [.d (eAt s.1), .d (.bl s.2.1), .d (.bl s.2.2.1), .d (.bl s.2.2.2)]
def wSo : Option Sg → W
  | none => .d .non
  | some s => wS s
@[simp] theorem make_ok (a : D) (m n w : D) : d_Standing_init [.ins 0 [] [], .d a, .d m, .d n, .d w] = .ok (.d .non) [.ins 0 ["at", "armed", "noted", "work"] [.d a, .d m, .d n, .d w]] := by with_unfolding_all rfl
@[simp] theorem get_at (a : D) (m n w : D) : getf ["at", "armed", "noted", "work"] [a, m, n, w] "at" = some a := by with_unfolding_all rfl
@[simp] theorem get_armed (a : D) (m n w : D) : getf ["at", "armed", "noted", "work"] [a, m, n, w] "armed" = some m := by with_unfolding_all rfl
@[simp] theorem get_noted (a : D) (m n w : D) : getf ["at", "armed", "noted", "work"] [a, m, n, w] "noted" = some n := by with_unfolding_all rfl
@[simp] theorem get_work (a : D) (m n w : D) : getf ["at", "armed", "noted", "work"] [a, m, n, w] "work" = some w := by with_unfolding_all rfl
@[simp] theorem first_ok' : d_first_standing [] = .ok (wS first) [] := first_ok
theorem done_ok {row : List Deed} {r : D} (h : Row row r) (latch : Bool) (s : Sg) (hb : ∀ i, s.1 = some i → i ≤ row.length) : d_done [.d r, .d (.bl latch), .d (eS s)] = .ok (wSo (deedS row latch s)) [] := by
  obtain ⟨a, m, n, w⟩ := s
  cases a with
  | none => with_unfolding_all rfl
  | some i =>
    cases e : row[i]? with
    | none =>
      have : row.length ≤ i := by simpa using e
      have : i = row.length := Nat.le_antisymm (hb i rfl) this
      subst this
      simp [d_done, g_done, d_fun, eS, eAt, len_row h, deedS, wSo]
    | some d =>
      have hl : i < row.length := by
        rcases Nat.lt_or_ge i row.length with h | h
        · exact h
        · rw [List.getElem?_eq_none h] at e; cases e
      have hn : ((i : Int) == (row.length : Int)) = false := by simp <;> omega
      cases d <;> cases n <;> cases w <;> cases latch <;>
      simp [d_done, g_done, d_fun, eS, eAt, len_row h, deedS, e, sub_row h e, hn, Deed.s, wSo, wS, frzs]
end K40

set_option Elab.async false
set_option linter.all false
set_option maxRecDepth 100000
set_option maxHeartbeats 4000000
namespace K40
open PySem L3
theorem enumL_mem {l : List D} {d : D} (h : d ∈ enumL l) : ∃ (i : Nat) (x : D), x ∈ l ∧ d = .tup [.int (i : Int), x] := by
  unfold enumL at h
  obtain ⟨i, hi, rfl⟩ := List.mem_mapIdx.mp h
  exact ⟨i, _, List.getElem_mem hi, rfl⟩
theorem deed_in (d : Deed) : ninD (.str d.s) k_DEEDS = some (.bl false) := by
  cases d <;> with_unfolding_all rfl
@[simp] theorem isi_lst (l : List D) : isTys 3 (.lst l) [.ty .lst, .ty .tup] = some true := rfl
@[simp] theorem isi_tup (l : List D) : isTys 3 (.tup l) [.ty .lst, .ty .tup] = some true := rfl
@[simp] theorem isi_str (x : Str) : isTys 3 (.str x) [.ty .str] = some true := rfl
theorem row_seq {row : List Deed} {r : D} (h : Row row r) : seqD r = some (eDs row) := by
  rcases h with rfl | rfl <;> rfl
theorem row_isi {row : List Deed} {r : D} (h : Row row r) : isTys 3 r [.ty .lst, .ty .tup] = some true := by
  rcases h with rfl | rfl <;> rfl
theorem check_ok {row : List Deed} {r : D} (h : Row row r) (h1 : 1 ≤ row.length) (h8 : row.length ≤ 8) : d_check_row [.d r] = .ok (.d .non) [] := by
  have key : ∀ ρ, (∃ a b, ρ = [some (.d r), a, b]) → ∃ ρ', forL (.tup [(.name 1), (.name 2)]) (s_if (c_or (c_not (c_truth tb0 (c_isi 3 [.ty .str] (c_peek 2)))) (c_op2 ninD (c_peek 2) (c_const k_DEEDS))) (s_raise 4 ["number"] (l_cons (c_var 1) l_nil)) s_nil) (enumL (eDs row)) ρ = .nx ρ' ∧ ∃ a b, ρ' = [some (.d r), a, b] := by
    refine forL_inv _ _ fun d ρ hd hρ => ?_
    obtain ⟨a, b, rfl⟩ := hρ
    obtain ⟨i, x, hx, rfl⟩ := enumL_mem hd
    obtain ⟨dd, _, rfl⟩ := List.mem_map.mp hx
    refine ⟨[some (.d r), some (.d (.int i)), some (.d (.str dd.s))], [some (.d r), some (.d (.int i)), some (.d (.str dd.s))], by simp, ?_, _, _, rfl⟩
    simp [deed_in]
  obtain ⟨ρ', e, _, _, _⟩ := key [some (.d r), none, none] ⟨_, _, rfl⟩
  have a1 : (decide ((1 : Int) ≤ row.length)) = true := by simp; omega
  have a2 : (decide ((row.length : Int) ≤ 8)) = true := by simp; omega
  simp only [d_check_row, g_check_row, d_fun]
  simp [row_isi h, len_row h, a1, a2, k_MOST_DEEDS, row_seq h]
  rw [e]
/-! ### the visits in the order of breadth -/
/-- a standing with the moves that lead to it (true: a deed, false: a signal) -/
abbrev Ent := Sg × List Bool
def mvS (b : Bool) : Str := if b then "deed" else "signal"
def eMv (mv : List Bool) : D := .tup (mv.map fun b => .str (mvS b))
def eEnt (e : Ent) : D := .tup [eS e.1, eMv e.2]
def addE (line : List Ent) (o : Option Sg) (mv : List Bool) (m : Bool) : List Ent := match o with
  | none => line
  | some s => if s ∈ line.map (·.1) then line else line ++ [(s, mv ++ [m])]
def expandE (row : List Deed) (latch : Bool) (line : List Ent) (e : Ent) : List Ent := addE (addE line (deedS row latch e.1) e.2 true) (some (sgn e.1)) e.2 false
theorem eqD_eT (a b : Sg) : eqD (eT a) (eT b) = decide (a = b) := by
  obtain ⟨a1, a2, a3, a4⟩ := a
  obtain ⟨b1, b2, b3, b4⟩ := b
  have h : eqD (eKey a1) (eKey b1) = decide (a1 = b1) := by
    cases a1 with
    | none => cases b1 with
      | none => rfl
      | some j =>
        show ((-1 : Int) == (j : Int)) = decide (none = some j)
        have : ¬ ((-1 : Int) = (j : Int)) := by omega
        simp [this]
    | some i => cases b1 with
      | none =>
        show ((i : Int) == (-1 : Int)) = decide (some i = none)
        have : ¬ ((i : Int) = (-1 : Int)) := by omega
        simp [this]
      | some j =>
        show ((i : Int) == (j : Int)) = decide (some i = some j)
        simp
        by_cases c : i = j
        · simp [c]
        · have : ¬ ((i : Int) = (j : Int)) := by omega
          simp [c, this]
  show (eqD (eKey a1) (eKey b1) && ((a2 == b2) && ((a3 == b3) && ((a4 == b4) && true)))) = _
  rw [h]
  by_cases c1 : a1 = b1 <;> by_cases c2 : a2 = b2 <;> by_cases c3 : a3 = b3 <;> by_cases c4 : a4 = b4 <;> simp [c1, c2, c3, c4]
theorem keyN_eT (s : Sg) : keyN (eT s) = true := by
  obtain ⟨a, m, n, w⟩ := s
  cases a <;> with_unfolding_all rfl
def eKs (line : List Ent) : List D := line.map fun e => eT e.1
def eVs (line : List Ent) : List D := line.map fun _ => .bl true
theorem dget_eT (s : Sg) : ∀ line : List Ent, (dget (eKs line) (eVs line) (eT s)).isSome = decide (s ∈ line.map (·.1))
  | [] => rfl
  | e :: r => by
    show (if eqD (eT e.1) (eT s) = true then some (D.bl true) else dget (eKs r) (eVs r) (eT s)).isSome = _
    rw [eqD_eT]
    by_cases c : e.1 = s
    · simp [c]
    · have : ¬ (s = e.1) := fun z => c z.symm
      rw [decide_eq_false c, if_neg (by simp), dget_eT s r]
      simp [this]
theorem keyOk_eT (line : List Ent) (s : Sg) : keyOk (eKs line) (eT s) = true := by
  unfold keyOk
  have : (eKs line).all keyN = true := by
    unfold eKs
    rw [List.all_eq_true]
    intro x hx
    obtain ⟨e, _, rfl⟩ := List.mem_map.mp hx
    exact keyN_eT e.1
  rw [this, keyN_eT]
  simp
theorem nin_met (line : List Ent) (s : Sg) : ninD (eT s) (.dic (eKs line) (eVs line)) = some (.bl (!decide (s ∈ line.map (·.1)))) := by
  have h : inC (eT s) (.dic (eKs line) (eVs line)) = some (decide (s ∈ line.map (·.1))) := by
    show (if keyOk (eKs line) (eT s) = true then some (dget (eKs line) (eVs line) (eT s)).isSome else none) = _
    rw [if_pos (keyOk_eT line s), dget_eT]
  unfold ninD
  rw [h]
  rfl
theorem store_met (line : List Ent) (s : Sg) (mv : List Bool) (hn : ¬ s ∈ line.map (·.1)) (hl : line.length < maxLen) : storeW (.dic (eKs line) (eVs line)) (eT s) (.bl true) = some (.dic (eKs (line ++ [(s, mv)])) (eVs (line ++ [(s, mv)]))) := by
  have e0 : (dget (eKs line) (eVs line) (eT s)).isSome = false := by rw [dget_eT]; exact decide_eq_false hn
  have e1 : dputK (eKs line) (eVs line) (eT s) = eKs (line ++ [(s, mv)]) := by
    unfold dputK
    rw [e0]
    simp [eKs]
  have e2 : dputV (eKs line) (eVs line) (eT s) (.bl true) = eVs (line ++ [(s, mv)]) := by
    unfold dputV
    rw [e0]
    simp [eVs]
  show (if (keyOk (eKs line) (eT s) && decide ((eKs line).length < maxLen)) = true then some (W.dic (dputK (eKs line) (eVs line) (eT s)) (dputV (eKs line) (eVs line) (eT s) (.bl true))) else none) = _
  rw [keyOk_eT, e1, e2, if_pos (by simp [eKs]; exact hl)]
@[simp] theorem get_key (a m n w : D) : getf ["at", "armed", "noted", "work"] [a, m, n, w] "key" = none := by with_unfolding_all rfl
@[simp] theorem mtk0 : mt_key 0 = some d_Standing_key := rfl
theorem key_ok2 (s : Sg) : d_Standing_key [.d (.ins 0 ["at", "armed", "noted", "work"] [eAt s.1, .bl s.2.1, .bl s.2.2.1, .bl s.2.2.2])] = .ok (.d (eT s)) [] := key_ok s
def jb1 : Ro → SR := (s_if (c_and (c_op2 notN (c_peek 10) (c_const .non)) (c_op2 ninD (c_meth mt_key "key" (c_var 10) l_nil) (c_peek 4))) (s_seq (s_sub 4 (c_const (.bl true)) (c_meth mt_key "key" (c_var 10) l_nil))
  (s_app 3 (c_tup (l_cons (c_var 10) (l_cons (c_tup (l_star (c_var 7) (l_cons (c_var 9) l_nil))) l_nil))))) s_nil)
theorem jb1_ok (line : List Ent) (o : Option Sg) (mv : List Bool) (m : Bool) (hl : line.length < maxLen) (hm : mv.length < 1000) (a0 a1 a2 a5 a6 a8 : Option W) :
    jb1 [a0, a1, a2, some (.lst (line.map eEnt)), some (.dic (eKs line) (eVs line)), a5, a6, some (.d (eMv mv)), a8, some (.d (.str (mvS m))), some (.d (eSo o))] =
    .nx [a0, a1, a2, some (.lst ((addE line o mv m).map eEnt)), some (.dic (eKs (addE line o mv m)) (eVs (addE line o mv m))), a5, a6, some (.d (eMv mv)), a8, some (.d (.str (mvS m))), some (.d (eSo o))] := by
  cases o with
  | none => simp [jb1, eSo, addE]
  | some s =>
    have n1 : notN (.ins 0 ["at", "armed", "noted", "work"] [eAt s.1, .bl s.2.1, .bl s.2.2.1, .bl s.2.2.2]) .non = some (.bl true) := rfl
    by_cases c : s ∈ line.map (·.1)
    · have c' := decide_eq_true c
      simp only [jb1, eSo]
      simp only [ap_s_if, ap_c_and, ap_c_op2, ap_c_peek, ap_c_const, ap_c_meth, ap_c_var, ap_l_nil, List.getElem?_cons_zero, List.getElem?_cons_succ, List.set_cons_zero, List.set_cons_succ, ap_bind_ok, frz_d, eS, n1, ap_tb_ok, if_true, mtk0, get_key, List.map_nil, key_ok2, frz_dic, nin_met, c', Bool.not_true, Bool.false_eq_true, if_false, ap_s_nil, addE, if_pos c]
    · have c' := decide_eq_false c
      have st := store_met line s (mv ++ [m]) c hl
      simp only [jb1, eSo]
      simp only [ap_s_if, ap_c_and, ap_c_op2, ap_c_peek, ap_c_const, ap_c_meth, ap_c_var, ap_l_nil, List.getElem?_cons_zero, List.getElem?_cons_succ, List.set_cons_zero, List.set_cons_succ, ap_bind_ok, frz_d, eS, n1, ap_tb_ok, if_true, mtk0, get_key, List.map_nil, key_ok2, frz_dic, nin_met, c', Bool.not_false, addE, if_neg c]
      have q1 : mv.length ≤ 16777215 := by omega
      have q2 : line.length < 16777216 := hl
      simp [slotU, st, key_ok2, appW, eMv, maxLen, q1, q2]
      simp [eEnt, eS, eMv]
/-- the loop over the two successors -/
theorem frz_wSo (o : Option Sg) : frz (wSo o) = eSo o := by cases o <;> rfl
theorem addE_len (line : List Ent) (o : Option Sg) (mv : List Bool) (m : Bool) : (addE line o mv m).length ≤ line.length + 1 := by
  cases o with
  | none => exact Nat.le_succ _
  | some s =>
    unfold addE
    by_cases c : s ∈ line.map (·.1)
    · simp only [if_pos c]; omega
    · simp only [if_neg c]; simp
theorem jfor_ok (line : List Ent) (o1 o2 : Option Sg) (mv : List Bool) (hl : line.length + 1 < maxLen) (hm : mv.length < 1000) (a0 a1 a2 a5 a6 a8 a9 a10 : Option W) :
    ∃ b9 b10, forL (.tup [(.name 9), (.name 10)]) jb1 [.tup [.str "deed", eSo o1], .tup [.str "signal", eSo o2]] [a0, a1, a2, some (.lst (line.map eEnt)), some (.dic (eKs line) (eVs line)), a5, a6, some (.d (eMv mv)), a8, a9, a10] =
    .nx [a0, a1, a2, some (.lst ((addE (addE line o1 mv true) o2 mv false).map eEnt)), some (.dic (eKs (addE (addE line o1 mv true) o2 mv false)) (eVs (addE (addE line o1 mv true) o2 mv false))), a5, a6, some (.d (eMv mv)), a8, b9, b10] := by
  have h1 := jb1_ok line o1 mv true (by omega) hm a0 a1 a2 a5 a6 a8
  have h2 := jb1_ok (addE line o1 mv true) o2 mv false (by have := addE_len line o1 mv true; omega) hm a0 a1 a2 a5 a6 a8
  simp only [mvS, if_true, Bool.false_eq_true, if_false] at h1 h2
  refine ⟨some (.d (.str "signal")), some (.d (eSo o2)), ?_⟩
  simp only [forL, tset_tup, seqD_tup, tsets_cons, tset_name, tsets_nil, List.set_cons_zero, List.set_cons_succ]
  rw [h1]
  simp only [tset_tup, seqD_tup, tsets_cons, tset_name, tsets_nil, List.set_cons_zero, List.set_cons_succ]
  rw [h2]
/-- a turn of the while -/
def jbody : Ro → SR := (s_seq (s_unp (.tup [(.name 6), (.name 7)]) (c_op2 subD' (c_peek 3) (c_peek 5)))
  (s_seq (s_aug true 5 iaddD (c_const (.int 1)))
  (s_seq (s_if (c_and (c_op2 isN (c_op1 (fldN 3 "at") (c_peek 6)) (c_const .non)) (c_truth tb0 (c_op1 (fldN 3 "work") (c_peek 6)))) (s_ret (c_make 2 d_Sleeps_init (l_cons (c_var 7) l_nil))) s_nil)
  (s_seq (s_set 8 (c_lst (l_cons (c_tup (l_cons (c_const (.str "deed")) (l_cons (c_call d_done (l_cons (c_var 0) (l_cons (c_var 1) (l_cons (c_var 6) l_nil)))) l_nil))) (l_cons (c_tup (l_cons (c_const (.str "signal")) (l_cons (c_call d_signalled (l_cons (c_var 6) l_nil)) l_nil))) l_nil))))
  (s_for (i_seq (c_var 8)) (.tup [(.name 9), (.name 10)]) jb1)))))
theorem subD_line (line : List Ent) (i : Nat) (e : Ent) (h : line[i]? = some e) : subD' (.lst (line.map eEnt)) (.int i) = some (eEnt e) := by
  refine L2.atI_nat ?_
  rw [List.getElem?_map, h]
  rfl
/-- asleep with a signal that no one took -/
def slept (s : Sg) : Bool := s.1.isNone && s.2.2.2
theorem fat (s : Sg) : fldN 3 "at" (eS s) = some (eAt s.1) := by with_unfolding_all rfl
theorem farm (s : Sg) : fldN 3 "armed" (eS s) = some (.bl s.2.1) := by with_unfolding_all rfl
theorem fnot (s : Sg) : fldN 3 "noted" (eS s) = some (.bl s.2.2.1) := by with_unfolding_all rfl
theorem fwork (s : Sg) : fldN 3 "work" (eS s) = some (.bl s.2.2.2) := by with_unfolding_all rfl
theorem isN_eAt (a : Option Nat) : isN (eAt a) .non = some (.bl a.isNone) := by cases a <;> rfl
theorem notN_eAt (a : Option Nat) : notN (eAt a) .non = some (.bl a.isSome) := by cases a <;> rfl
theorem frz_sgn (s : Sg) : frz (.ins 0 ["at", "armed", "noted", "work"] [W.d (eAt (sgn s).1), W.d (.bl (sgn s).2.1), W.d (.bl (sgn s).2.2.1), W.d (.bl (sgn s).2.2.2)]) = eS (sgn s) := by with_unfolding_all rfl
theorem jbody_go {row : List Deed} {r : D} (h : Row row r) (latch : Bool) (line : List Ent) (i : Nat) (e : Ent) (he : line[i]? = some e) (hb : ∀ j, e.1.1 = some j → j ≤ row.length) (hl : line.length + 1 < maxLen) (hm : e.2.length < 1000) (hs : slept e.1 = false) (a2 a6 a7 a8 a9 a10 : Option W) :
    ∃ b6 b7 b8 b9 b10, jbody [some (.d r), some (.d (.bl latch)), a2, some (.lst (line.map eEnt)), some (.dic (eKs line) (eVs line)), some (.d (.int i)), a6, a7, a8, a9, a10] =
      .nx [some (.d r), some (.d (.bl latch)), a2, some (.lst ((expandE row latch line e).map eEnt)), some (.dic (eKs (expandE row latch line e)) (eVs (expandE row latch line e))), some (.d (.int (i + 1 : Nat))), b6, b7, b8, b9, b10] := by
  obtain ⟨s, mv⟩ := e
  have d1 := done_ok h latch s hb
  have d2 := signalled_ok s
  have f := fun b8 => jfor_ok line (deedS row latch s) (some (sgn s)) mv hl hm (some (.d r)) (some (.d (.bl latch))) a2 (some (.d (.int (i + 1 : Nat)))) (some (.d (eS s))) b8 a9 a10
  obtain ⟨b9, b10, f⟩ := f (some (.d (.lst [.tup [.str "deed", eSo (deedS row latch s)], .tup [.str "signal", eSo (some (sgn s))]])))
  refine ⟨some (.d (eS s)), some (.d (eMv mv)), some (.d (.lst [.tup [.str "deed", eSo (deedS row latch s)], .tup [.str "signal", eSo (some (sgn s))]])), b9, b10, ?_⟩
  unfold jbody
  have g1 := subD_line line i _ he
  have e1 : expandE row latch line (s, mv) = addE (addE line (deedS row latch s) mv true) (some (sgn s)) mv false := rfl
  rw [e1]
  have c1 : (s.1.isNone = true ∧ s.2.2.2 = false) ∨ s.1.isNone = false := by
    have hs' : (s.1.isNone && s.2.2.2) = false := hs
    cases z : s.1.isNone with
    | false => exact .inr rfl
    | true => rw [z] at hs'; exact .inl ⟨rfl, by simpa using hs'⟩
  rcases c1 with ⟨z1, z2⟩ | z1
  · simp [g1, eEnt, fat, fwork, isN_eAt, z1, z2, d1, d2, frz_wSo, frz_sgn, maxLen]
    exact f
  · simp [g1, eEnt, fat, fwork, isN_eAt, z1, d1, d2, frz_wSo, frz_sgn, maxLen]
    exact f
def eSl (mv : List Bool) : D := .ins 2 ["moves"] [eMv mv]
def wSl (mv : List Bool) : W := .ins 2 ["moves"] [.d (eMv mv)]
def eWk (n : Nat) : D := .ins 1 ["standings"] [.int n]
def wWk (n : Nat) : W := .ins 1 ["standings"] [.d (.int n)]
theorem sleeps_init (mv : List Bool) : d_Sleeps_init [.ins 2 [] [], .d (eMv mv)] = .ok (.d .non) [wSl mv] := by with_unfolding_all rfl
theorem wakes_init (n : Nat) : d_Wakes_init [.ins 1 [] [], .d (.int n)] = .ok (.d .non) [wWk n] := by with_unfolding_all rfl
theorem jbody_stop (row : D) (latch : D) (line : List Ent) (m : W) (i : Nat) (e : Ent) (he : line[i]? = some e) (hs : slept e.1 = true) (a2 a6 a7 a8 a9 a10 : Option W) :
    ∃ ρ, jbody [some (.d row), some (.d latch), a2, some (.lst (line.map eEnt)), some m, some (.d (.int i)), a6, a7, a8, a9, a10] = .rt (wSl e.2) ρ := by
  obtain ⟨s, mv⟩ := e
  have hs' : (s.1.isNone && s.2.2.2) = true := hs
  rw [Bool.and_eq_true] at hs'
  have g1 := subD_line line i _ he
  refine ⟨[some (.d row), some (.d latch), a2, some (.lst (line.map eEnt)), some m, some (.d (.int (i + 1))), some (.d (eS s)), some (.d (eMv mv)), a8, a9, a10], ?_⟩
  unfold jbody
  simp [g1, eEnt, fat, fwork, isN_eAt, hs'.1, hs'.2, sleeps_init]
/-! ### the search as a plain function -/
/-- from place i on, at most fuel turns: none where the fuel is too little -/
def search (row : List Deed) (latch : Bool) : Nat → Nat → List Ent → Option (Sum (List Bool) Nat)
  | 0, _, _ => none
  | k + 1, i, line => match line[i]? with
    | none => some (.inr line.length)
    | some e => if slept e.1 = true then some (.inl e.2) else search row latch k (i + 1) (expandE row latch line e)
def eRes : Sum (List Bool) Nat → W
  | .inl mv => wSl mv
  | .inr n => wWk n
/-- what holds of the line before the turn at place i -/
structure Inv (row : List Deed) (i : Nat) (line : List Ent) : Prop where
  at_ : ∀ e ∈ line, ∀ j, e.1.1 = some j → j ≤ row.length
  mv : ∀ e ∈ line, e.2.length ≤ i
  ln : line.length ≤ 2 * i + 1
theorem deedS_at {row : List Deed} {latch : Bool} {s s' : Sg} (h : ∀ j, s.1 = some j → j ≤ row.length) (e : deedS row latch s = some s') : ∀ j, s'.1 = some j → j ≤ row.length := by
  obtain ⟨a, m, n, w⟩ := s
  cases a with
  | none => cases e
  | some i =>
    cases q : row[i]? with
    | none =>
      simp [deedS, q] at e
      subst e
      intro j hj
      cases hj
      exact Nat.zero_le _
    | some d =>
      have hl : i < row.length := by
        rcases Nat.lt_or_ge i row.length with h | h
        · exact h
        · rw [List.getElem?_eq_none h] at q; cases q
      cases d <;> cases n <;> cases w <;> cases latch <;> simp [deedS, q, first] at e <;> subst e <;> intro j hj <;> cases hj <;> omega
theorem sgn_at {row : List Deed} {s : Sg} (h : ∀ j, s.1 = some j → j ≤ row.length) : ∀ j, (sgn s).1 = some j → j ≤ row.length := by
  obtain ⟨a, m, n, w⟩ := s
  cases a <;> cases m <;> intro j hj
  · cases hj
  · cases hj; exact Nat.zero_le _
  · exact h j hj
  · exact h j hj
theorem addE_mem {line : List Ent} {o : Option Sg} {mv : List Bool} {m : Bool} {e : Ent} (h : e ∈ addE line o mv m) : e ∈ line ∨ ∃ s, o = some s ∧ e = (s, mv ++ [m]) := by
  cases o with
  | none => exact .inl h
  | some s =>
    unfold addE at h
    by_cases c : s ∈ line.map (·.1)
    · simp only [if_pos c] at h; exact .inl h
    · simp only [if_neg c] at h
      rcases List.mem_append.mp h with h | h
      · exact .inl h
      · exact .inr ⟨s, rfl, List.mem_singleton.mp h⟩
theorem Inv.go {row : List Deed} {latch : Bool} {i : Nat} {line : List Ent} {e : Ent} (v : Inv row i line) (he : e ∈ line) : Inv row (i + 1) (expandE row latch line e) := by
  refine ⟨fun x hx => ?_, fun x hx => ?_, ?_⟩
  · rcases addE_mem hx with hx | ⟨s, hs, rfl⟩
    · rcases addE_mem hx with hx | ⟨s, hs, rfl⟩
      · exact v.at_ x hx
      · exact deedS_at (v.at_ e he) hs
    · cases hs; exact sgn_at (v.at_ e he)
  · have := v.mv e he
    rcases addE_mem hx with hx | ⟨s, hs, rfl⟩
    · rcases addE_mem hx with hx | ⟨s, hs, rfl⟩
      · exact Nat.le_succ_of_le (v.mv x hx)
      · simp; omega
    · simp; omega
  · have h1 := addE_len (addE line (deedS row latch e.1) e.2 true) (some (sgn e.1)) e.2 false
    have h2 := addE_len line (deedS row latch e.1) e.2 true
    have h3 := v.ln
    show (addE (addE line (deedS row latch e.1) e.2 true) (some (sgn e.1)) e.2 false).length ≤ _
    omega
def jcond : Ro → ER := (c_op2 (cmpD fun i j => decide (i < j)) (c_peek 5) (c_op1 lenD (c_peek 3)))
theorem jwhile {row : List Deed} {r : D} (h : Row row r) (latch : Bool) (a2 : Option W) : ∀ (k i : Nat) (line : List Ent) (res : Sum (List Bool) Nat), i + k ≤ 1000 → Inv row i line → search row latch k i line = some res → ∀ a6 a7 a8 a9 a10 : Option W,
    match res with
    | .inl mv => ∃ ρ, s_whileN jcond jbody k [some (.d r), some (.d (.bl latch)), a2, some (.lst (line.map eEnt)), some (.dic (eKs line) (eVs line)), some (.d (.int i)), a6, a7, a8, a9, a10] = .rt (wSl mv) ρ
    | .inr n => ∃ l b4 b5 b6 b7 b8 b9 b10, l.length = n ∧ s_whileN jcond jbody k [some (.d r), some (.d (.bl latch)), a2, some (.lst (line.map eEnt)), some (.dic (eKs line) (eVs line)), some (.d (.int i)), a6, a7, a8, a9, a10] = .nx [some (.d r), some (.d (.bl latch)), a2, some (.lst l), b4, b5, b6, b7, b8, b9, b10]
  | 0, _, _, _, _, _, e => by cases e
  | k + 1, i, line, res, hk, v, e => by
    intro a6 a7 a8 a9 a10
    unfold search at e
    have hln := v.ln
    cases q : line[i]? with
    | none =>
      rw [q] at e
      cases e
      have hi : line.length ≤ i := by simpa using q
      have c : jcond [some (.d r), some (.d (.bl latch)), a2, some (.lst (line.map eEnt)), some (.dic (eKs line) (eVs line)), some (.d (.int i)), a6, a7, a8, a9, a10] = .ok (.d (.bl false)) [some (.d r), some (.d (.bl latch)), a2, some (.lst (line.map eEnt)), some (.dic (eKs line) (eVs line)), some (.d (.int i)), a6, a7, a8, a9, a10] := by
        simp [jcond]; omega
      refine ⟨line.map eEnt, some (.dic (eKs line) (eVs line)), some (.d (.int i)), a6, a7, a8, a9, a10, by simp, ?_⟩
      unfold s_whileN
      rw [c]
      rfl
    | some x =>
      rw [q] at e
      have hi : i < line.length := by
        rcases Nat.lt_or_ge i line.length with z | z
        · exact z
        · rw [List.getElem?_eq_none z] at q; cases q
      have c : jcond [some (.d r), some (.d (.bl latch)), a2, some (.lst (line.map eEnt)), some (.dic (eKs line) (eVs line)), some (.d (.int i)), a6, a7, a8, a9, a10] = .ok (.d (.bl true)) [some (.d r), some (.d (.bl latch)), a2, some (.lst (line.map eEnt)), some (.dic (eKs line) (eVs line)), some (.d (.int i)), a6, a7, a8, a9, a10] := by
        simp [jcond]; omega
      have hx : x ∈ line := List.mem_of_getElem? q
      by_cases hs : slept x.1 = true
      · simp only [if_pos hs] at e
        cases e
        obtain ⟨ρ, eb⟩ := jbody_stop r (.bl latch) line (.dic (eKs line) (eVs line)) i x q hs a2 a6 a7 a8 a9 a10
        refine ⟨ρ, ?_⟩
        unfold s_whileN
        rw [c]
        show (match jbody _ with | .nx ρ2 => _ | .ct ρ2 => _ | .br ρ2 => _ | r => r) = _
        rw [eb]
      · simp only [if_neg hs] at e
        have hm := v.mv x hx
        obtain ⟨b6, b7, b8, b9, b10, eb⟩ := jbody_go h latch line i x q (v.at_ x hx) (by show _ < 16777216; omega) (by omega) (by simpa using hs) a2 a6 a7 a8 a9 a10
        have ih := jwhile h latch a2 k (i + 1) _ res (by omega) (v.go hx) e b6 b7 b8 b9 b10
        cases res with
        | inl mv =>
          obtain ⟨ρ, ih⟩ := ih
          refine ⟨ρ, ?_⟩
          unfold s_whileN
          rw [c]
          show (match jbody _ with | .nx ρ2 => _ | .ct ρ2 => _ | .br ρ2 => _ | r => r) = _
          rw [eb]
          exact ih
        | inr n =>
          obtain ⟨l, b4, b5, c6, c7, c8, c9, c10, hl, ih⟩ := ih
          refine ⟨l, b4, b5, c6, c7, c8, c9, c10, hl, ?_⟩
          unfold s_whileN
          rw [c]
          show (match jbody _ with | .nx ρ2 => _ | .ct ρ2 => _ | .br ρ2 => _ | r => r) = _
          rw [eb]
          exact ih
theorem seq_assoc (f g h : Ro → SR) : s_seq (s_seq f g) h = s_seq f (s_seq g h) := by
  funext ρ
  show (match (match f ρ with | .nx ρ1 => g ρ1 | r => r) with | .nx ρ1 => h ρ1 | r => r) = (match f ρ with | .nx ρ1 => s_seq g h ρ1 | r => r)
  cases f ρ <;> rfl
theorem seq_nx {f g : Ro → SR} {ρ ρ1 : Ro} (e : f ρ = .nx ρ1) : s_seq f g ρ = g ρ1 := by
  show (match f ρ with | .nx ρ1 => g ρ1 | r => r) = _
  rw [e]
theorem frz_wS (s : Sg) : frz (wS s) = eS s := by with_unfolding_all rfl
theorem keyN_ok (s : Sg) : (keyK (eT s) || keyN (eT s)) = true := by rw [keyN_eT]; simp
theorem judge_ok {row : List Deed} {r : D} (h : Row row r) (h1 : 1 ≤ row.length) (h8 : row.length ≤ 8) (latch : Bool) {res : Sum (List Bool) Nat} (e : search row latch 1000 0 [(first, [])] = some res) : d_judge_row [.d r, .d (.bl latch)] = .ok (eRes res) [] := by
  have v : Inv row 0 [(first, [])] := ⟨fun e he j hj => by cases List.mem_singleton.mp he; cases hj; exact Nat.zero_le _, fun e he => by cases List.mem_singleton.mp he; exact Nat.le_refl _, Nat.le_refl _⟩
  have wh := jwhile h latch (some (.d (eS first))) 1000 0 _ res (by omega) v e none none none none none
  have ck := check_ok h h1 h8
  have g : ∀ ρ, g_judge_row ρ = (s_seq (s_expr (c_call d_check_row (l_cons (c_var 0) l_nil))) (s_seq (s_set 2 (c_call d_first_standing l_nil)) (s_seq (s_par [3, 4, 5] (w_cons (c_lst (l_cons (c_tup (l_cons (c_var 2) (l_cons (c_tup l_nil) l_nil))) l_nil)) (w_cons (c_dic1 (c_meth mt_key "key" (c_var 2) l_nil) (c_const (.bl true))) (w_cons (c_dat (c_const (.int 0))) w_nil)))) (s_seq (s_whileN jcond jbody 1000) (s_ret (c_make 1 d_Wakes_init (l_cons (c_op1 lenD (c_peek 3)) l_nil))))))) ρ := fun _ => rfl
  have pre : (s_seq (s_expr (c_call d_check_row (l_cons (c_var 0) l_nil))) (s_seq (s_set 2 (c_call d_first_standing l_nil)) (s_par [3, 4, 5] (w_cons (c_lst (l_cons (c_tup (l_cons (c_var 2) (l_cons (c_tup l_nil) l_nil))) l_nil)) (w_cons (c_dic1 (c_meth mt_key "key" (c_var 2) l_nil) (c_const (.bl true))) (w_cons (c_dat (c_const (.int 0))) w_nil)))))) [some (.d r), some (.d (.bl latch)), none, none, none, none, none, none, none, none, none] =
      .nx [some (.d r), some (.d (.bl latch)), some (.d (eS first)), some (.lst ([(first, [])].map eEnt)), some (.dic (eKs [(first, [])]) (eVs [(first, [])])), some (.d (.int 0)), none, none, none, none, none] := by
    have kk := keyN_eT first
    have k2 := key_ok2 first
    simp [ck, maxLen, frz_wS, eMv, eEnt, eKs, eVs]
    simp [eS, k2, kk]
  have run : g_judge_row [some (.d r), some (.d (.bl latch)), none, none, none, none, none, none, none, none, none] = s_seq (s_whileN jcond jbody 1000) (s_ret (c_make 1 d_Wakes_init (l_cons (c_op1 lenD (c_peek 3)) l_nil))) [some (.d r), some (.d (.bl latch)), some (.d (eS first)), some (.lst ([(first, [])].map eEnt)), some (.dic (eKs [(first, [])]) (eVs [(first, [])])), some (.d (.int 0)), none, none, none, none, none] := by
    rw [g, ← seq_assoc, ← seq_assoc, ← seq_assoc] 
    rw [seq_assoc, seq_assoc, seq_assoc]
    rw [← seq_assoc (s_set 2 _), ← seq_assoc]
    exact seq_nx pre
  have fin : d_judge_row [.d r, .d (.bl latch)] = (match g_judge_row [some (.d r), some (.d (.bl latch)), none, none, none, none, none, none, none, none, none] with | .nx ρ => .ok (.d .non) [] | .rt w ρ => .ok w [] | .ex x ρ => .ex x [] | _ => .no) := rfl
  rw [fin, run]
  cases res with
  | inl mv =>
    obtain ⟨ρ, wh⟩ := wh
    show (match (match s_whileN jcond jbody 1000 _ with | .nx ρ1 => _ | r => r) with | .nx ρ => _ | .rt w ρ => _ | .ex x ρ => _ | _ => _) = _
    erw [wh]
    rfl
  | inr n =>
    obtain ⟨l, b4, b5, b6, b7, b8, b9, b10, hl, wh⟩ := wh
    erw [seq_nx wh]
    subst hl
    simp [wakes_init]
    rfl
end K40

set_option Elab.async false
set_option linter.all false
set_option maxRecDepth 100000
set_option maxHeartbeats 4000000
namespace K40
open PySem L3
/-! ### _law_fewest -/
def eEnt2 (e : Ent) : D := .tup [eT e.1, .int e.2.length]
def eBest : Option (List Bool) → D
  | none => .non
  | some mv => .int mv.length
def eTs (line : List Ent) : List D := line.map fun e => eT e.1
theorem any_eT (s : Sg) : ∀ line : List Ent, ((eTs line).any fun z => eqD z (eT s)) = decide (s ∈ line.map (·.1))
  | [] => rfl
  | e :: r => by
    show (eqD (eT e.1) (eT s) || (eTs r).any fun z => eqD z (eT s)) = _
    rw [eqD_eT, any_eT s r]
    by_cases c : e.1 = s
    · simp [c]
    · have : ¬ (s = e.1) := fun z => c z.symm
      simp [c, this]
theorem plain_eT (s : Sg) : plain (eT s) = true ∧ dep (eT s) ≤ 1 := by
  obtain ⟨a, m, n, w⟩ := s
  cases a <;> exact ⟨by with_unfolding_all rfl, Nat.le_refl 1⟩
theorem nin_list (line : List Ent) (s : Sg) : ninD (eT s) (.lst (eTs line)) = some (.bl (!decide (s ∈ line.map (·.1)))) := by
  have hp : plains (eTs line) = true := by
    induction line with
    | nil => rfl
    | cons e r ih =>
      show (plain (eT e.1) && plains (eTs r)) = true
      rw [(plain_eT e.1).1, ih]; rfl
  have h : inC (eT s) (.lst (eTs line)) = some (decide (s ∈ line.map (·.1))) := by
    show (if (plain (eT s) && plains (eTs line) && decide (min (deps (eTs line)) (dep (eT s)) ≤ 60)) = true then some ((eTs line).any fun z => eqD z (eT s)) else none) = _
    rw [(plain_eT s).1, hp, any_eT]
    have := (plain_eT s).2
    have : min (deps (eTs line)) (dep (eT s)) ≤ 60 := Nat.le_trans (Nat.min_le_right _ _) (by omega)
    simp [this]
  unfold ninD
  rw [h]
  rfl
def fb1 : Ro → SR := (s_if (c_and (c_op2 notN (c_peek 8) (c_const .non)) (c_op2 ninD (c_peek 8) (c_peek 3))) (s_seq (s_app 3 (c_var 8))
  (s_app 2 (c_tup (l_cons (c_var 8) (l_cons (c_op2 addD (c_peek 7) (c_const (.int 1))) l_nil))))) s_nil)
theorem fb1_ok (line : List Ent) (o : Option Sg) (mv : List Bool) (m : Bool) (hl : line.length < maxLen) (a0 a1 a4 a5 a6 : Option W) :
    fb1 [a0, a1, some (.lst (line.map eEnt2)), some (.lst (eTs line)), a4, a5, a6, some (.d (.int mv.length)), some (.d (eTo o))] =
    .nx [a0, a1, some (.lst ((addE line o mv m).map eEnt2)), some (.lst (eTs (addE line o mv m))), a4, a5, a6, some (.d (.int mv.length)), some (.d (eTo o))] := by
  cases o with
  | none => simp [fb1, eTo, addE]
  | some s =>
    have n1 : notN (eT s) .non = some (.bl true) := rfl
    have q2 : line.length < 16777216 := hl
    have n2 := nin_list line s
    by_cases c : s ∈ line.map (·.1)
    · have c' := decide_eq_true c
      rw [c'] at n2
      simp [fb1, eTo, n1, n2, addE, if_pos c]
    · have c' := decide_eq_false c
      rw [c'] at n2
      have q3 : (eTs line).length = line.length := by simp [eTs]
      have q4 : eTs (line ++ [(s, mv ++ [m])]) = eTs line ++ [eT s] := by simp [eTs]
      simp only [addE, if_neg c, q4]
      simp [fb1, eTo, n1, n2, slotU, appW, maxLen, q2, q3, eEnt2]
theorem ffor_ok (line : List Ent) (o1 o2 : Option Sg) (mv : List Bool) (hl : line.length + 1 < maxLen) (a0 a1 a4 a5 a6 a8 : Option W) :
    ∃ b8, forL (.name 8) fb1 [eTo o1, eTo o2] [a0, a1, some (.lst (line.map eEnt2)), some (.lst (eTs line)), a4, a5, a6, some (.d (.int mv.length)), a8] =
    .nx [a0, a1, some (.lst ((addE (addE line o1 mv true) o2 mv false).map eEnt2)), some (.lst (eTs (addE (addE line o1 mv true) o2 mv false))), a4, a5, a6, some (.d (.int mv.length)), b8] := by
  have h1 := fb1_ok line o1 mv true (by omega) a0 a1 a4 a5 a6
  have h2 := fb1_ok (addE line o1 mv true) o2 mv false (by have := addE_len line o1 mv true; omega) a0 a1 a4 a5 a6
  refine ⟨some (.d (eTo o2)), ?_⟩
  simp only [forL, tset_name, List.set_cons_zero, List.set_cons_succ]
  rw [h1]
  simp only [tset_name, List.set_cons_zero, List.set_cons_succ]
  rw [h2]
def fbody : Ro → SR := (s_seq (s_if (c_op2 eqC (c_peek 5) (c_op1 lenD (c_peek 2))) s_break s_nil)
  (s_seq (s_unp (.tup [(.name 6), (.name 7)]) (c_op2 subD' (c_peek 2) (c_peek 5)))
  (s_seq (s_if (c_and (c_op2 eqC (c_op2 subD' (c_peek 6) (c_const (.int 0))) (c_op1 negD (c_const (.int 1)))) (c_and (c_truth tb0 (c_op2 subD' (c_peek 6) (c_const (.int 3)))) (c_op2 isN (c_peek 4) (c_const .non)))) (s_set 4 (c_dat (c_var 7))) s_nil)
  (s_for (i_seq (c_tup (l_cons (c_call d__law_deed (l_cons (c_var 0) (l_cons (c_var 1) (l_cons (c_var 6) l_nil)))) (l_cons (c_call d__law_signal (l_cons (c_var 6) l_nil)) l_nil)))) (.name 8) fb1))))
theorem sub0 (s : Sg) : subD' (eT s) (.int 0) = some (eKey s.1) := by with_unfolding_all rfl
theorem sub3 (s : Sg) : subD' (eT s) (.int 3) = some (.bl s.2.2.2) := by with_unfolding_all rfl
theorem eq_key (a : Option Nat) : eqC (eKey a) (.int (-1)) = some (.bl a.isNone) := by
  cases a with
  | none => rfl
  | some i =>
    have : ((i : Int) == -1) = false := by simp <;> omega
    show some (D.bl ((i : Int) == -1)) = _
    rw [this]; rfl
theorem sub_line2 (line : List Ent) (i : Nat) (e : Ent) (h : line[i]? = some e) : subD' (.lst (line.map eEnt2)) (.int i) = some (eEnt2 e) := by
  refine L2.atI_nat ?_
  rw [List.getElem?_map, h]
  rfl
def upB (e : Ent) (b : Option (List Bool)) : Option (List Bool) := if (slept e.1 && b.isNone) = true then some e.2 else b
theorem isN_best (b : Option (List Bool)) : isN (eBest b) .non = some (.bl b.isNone) := by cases b <;> rfl
theorem fbody_go {row : List Deed} {r : D} (h : Row row r) (latch : Bool) (line : List Ent) (i : Nat) (e : Ent) (he : line[i]? = some e) (hb : ∀ j, e.1.1 = some j → j ≤ row.length) (hl : line.length + 1 < maxLen) (b : Option (List Bool)) (a6 a7 a8 : Option W) :
    ∃ b6 b7 b8, fbody [some (.d r), some (.d (.bl latch)), some (.lst (line.map eEnt2)), some (.lst (eTs line)), some (.d (eBest b)), some (.d (.int i)), a6, a7, a8] =
      .nx [some (.d r), some (.d (.bl latch)), some (.lst ((expandE row latch line e).map eEnt2)), some (.lst (eTs (expandE row latch line e))), some (.d (eBest (upB e b))), some (.d (.int i)), b6, b7, b8] := by
  obtain ⟨s, mv⟩ := e
  have d1 := lawdeed_ok h latch s hb
  have d2 := signal_ok s
  obtain ⟨b8, f⟩ := ffor_ok line (deedS row latch s) (some (sgn s)) mv hl (some (.d r)) (some (.d (.bl latch))) (some (.d (eBest (upB (s, mv) b)))) (some (.d (.int i))) (some (.d (eT s))) a8
  have hi : i < line.length := by
    rcases Nat.lt_or_ge i line.length with z | z
    · exact z
    · rw [List.getElem?_eq_none z] at he; cases he
  have g0 : ((i : Int) == (line.length : Int)) = false := by simp <;> omega
  refine ⟨some (.d (eT s)), some (.d (.int mv.length)), b8, ?_⟩
  have e1 : expandE row latch line (s, mv) = addE (addE line (deedS row latch s) mv true) (some (sgn s)) mv false := rfl
  rw [e1]
  unfold fbody
  have g1 := sub_line2 line i _ he
  have e2 : eTo (some (sgn s)) = eT (sgn s) := rfl
  rw [e2] at f
  cases z1 : s.1.isNone <;> cases z2 : s.2.2.2 <;> cases z3 : b.isNone <;>
  · have ub : upB (s, mv) b = if (s.1.isNone && s.2.2.2 && b.isNone) = true then some mv else b := rfl
    rw [z1, z2, z3] at ub
    simp at ub
    rw [ub] at f
    simp [g0, g1, eEnt2, sub0, sub3, eq_key, isN_best, z1, z2, z3, d1, d2, maxLen, ub]
    exact f
def sweep (row : List Deed) (latch : Bool) : Nat → Nat → List Ent → Option (List Bool) → Option (Option (List Bool) × Nat)
  | 0, _, _, _ => none
  | k + 1, i, line, b => match line[i]? with
    | none => some (b, line.length)
    | some e => sweep row latch k (i + 1) (expandE row latch line e) (upB e b)
theorem expandE_len (row : List Deed) (latch : Bool) (line : List Ent) (e : Ent) : line.length ≤ (expandE row latch line e).length := by
  have h : ∀ (l : List Ent) o mv m, l.length ≤ (addE l o mv m).length := fun l o mv m => by
    cases o with
    | none => exact Nat.le_refl _
    | some s =>
      unfold addE
      by_cases c : s ∈ l.map (·.1)
      · simp only [if_pos c]; exact Nat.le_refl _
      · simp only [if_neg c]; simp
  exact Nat.le_trans (h _ _ _ _) (h _ _ _ _)
theorem fbody_stop (r : D) (latch : D) (line : List Ent) (b : D) (a3 a6 a7 a8 : Option W) :
    fbody [some (.d r), some (.d latch), some (.lst (line.map eEnt2)), a3, some (.d b), some (.d (.int line.length)), a6, a7, a8] =
      .br [some (.d r), some (.d latch), some (.lst (line.map eEnt2)), a3, some (.d b), some (.d (.int line.length)), a6, a7, a8] := by
  unfold fbody
  simp
theorem floop {row : List Deed} {r : D} (h : Row row r) (latch : Bool) : ∀ (k i : Nat) (line : List Ent) (b : Option (List Bool)) (b' : Option (List Bool)) (n : Nat), i + k ≤ 1000 → i ≤ line.length → Inv row i line → sweep row latch k i line b = some (b', n) → ∀ a5 a6 a7 a8 : Option W,
    ∃ l b3 b5 b6 b7 b8, l.length = n ∧ forL (.name 5) fbody ((List.range' i k).map fun (j : Nat) => D.int (j : Int)) [some (.d r), some (.d (.bl latch)), some (.lst (line.map eEnt2)), some (.lst (eTs line)), some (.d (eBest b)), a5, a6, a7, a8] =
      .nx [some (.d r), some (.d (.bl latch)), some (.lst l), b3, some (.d (eBest b')), b5, b6, b7, b8]
  | 0, _, _, _, _, _, _, _, _, e => by cases e
  | k + 1, i, line, b, b', n, hk, hi, v, e => by
    intro a5 a6 a7 a8
    unfold sweep at e
    have hln := v.ln
    rw [List.range'_succ, List.map_cons]
    cases q : line[i]? with
    | none =>
      rw [q] at e
      cases e
      have hi2 : line.length ≤ i := by simpa using q
      have : i = line.length := Nat.le_antisymm hi hi2
      subst this
      refine ⟨line.map eEnt2, some (.lst (eTs line)), some (.d (.int line.length)), a6, a7, a8, by simp, ?_⟩
      simp only [forL, tset_name, List.set_cons_zero, List.set_cons_succ]
      rw [fbody_stop]
    | some x =>
      rw [q] at e
      have hi3 : i < line.length := by
        rcases Nat.lt_or_ge i line.length with z | z
        · exact z
        · rw [List.getElem?_eq_none z] at q; cases q
      have hx : x ∈ line := List.mem_of_getElem? q
      obtain ⟨b6, b7, b8, eb⟩ := fbody_go h latch line i x q (v.at_ x hx) (by show _ < 16777216; omega) b a6 a7 a8
      have hl := expandE_len row latch line x
      obtain ⟨l, c3, c5, c6, c7, c8, hn, ih⟩ := floop h latch k (i + 1) _ _ b' n (by omega) (by omega) (v.go hx) e (some (.d (.int i))) b6 b7 b8
      refine ⟨l, c3, c5, c6, c7, c8, hn, ?_⟩
      simp only [forL, tset_name, List.set_cons_zero, List.set_cons_succ]
      rw [eb]
      exact ih
theorem inv0 (row : List Deed) : Inv row 0 [(first, [])] := ⟨fun e he j hj => by cases List.mem_singleton.mp he; cases hj; exact Nat.zero_le _, fun e he => by cases List.mem_singleton.mp he; exact Nat.le_refl _, Nat.le_refl _⟩
theorem rng200 : rngL 0 200 = (List.range' 0 200).map fun (j : Nat) => D.int (j : Int) := by
  unfold rngL
  rw [List.range_eq_range']
  exact List.map_congr_left fun j _ => by simp
theorem fewest_ok {row : List Deed} {r : D} (h : Row row r) (latch : Bool) {b : Option (List Bool)} {n : Nat} (e : sweep row latch 200 0 [(first, [])] none = some (b, n)) : d__law_fewest [.d r, .d (.bl latch)] = .ok (.d (.tup [eBest b, .int n])) [] := by
  obtain ⟨l, b3, b5, b6, b7, b8, hl, lp⟩ := floop h latch 200 0 _ none b n (by omega) (by simp) (inv0 row) e none none none none
  rw [← rng200] at lp
  have run : g__law_fewest [some (.d r), some (.d (.bl latch)), none, none, none, none, none, none, none] = s_seq (s_for (i_range1 (c_const (.int 200))) (.name 5) fbody) (s_ret (c_dat (c_tup (l_cons (c_var 4) (l_cons (c_op1 lenD (c_peek 2)) l_nil))))) [some (.d r), some (.d (.bl latch)), some (.lst ([(first, [])].map eEnt2)), some (.lst (eTs [(first, [])])), some (.d (eBest none)), none, none, none, none] := by
    with_unfolding_all rfl
  have fin : d__law_fewest [.d r, .d (.bl latch)] = (match g__law_fewest [some (.d r), some (.d (.bl latch)), none, none, none, none, none, none, none] with | .nx ρ => .ok (.d .non) [] | .rt w ρ => .ok w [] | .ex x ρ => .ex x [] | _ => .no) := rfl
  rw [fin, run]
  have lp2 : s_for (i_range1 (c_const (.int 200))) (.name 5) fbody [some (.d r), some (.d (.bl latch)), some (.lst ([(first, [])].map eEnt2)), some (.lst (eTs [(first, [])])), some (.d (eBest none)), none, none, none, none] = .nx [some (.d r), some (.d (.bl latch)), some (.lst l), b3, some (.d (eBest b)), b5, b6, b7, b8] := lp
  rw [seq_nx lp2]
  subst hl
  simp [maxLen]
end K40

set_option Elab.async false
set_option linter.all false
set_option maxRecDepth 100000
set_option maxHeartbeats 4000000
namespace K40
open PySem L3
/-! ### the two searches agree, and end -/
theorem nodup_lt : ∀ (n : Nat) (l : List Nat), l.Nodup → (∀ x ∈ l, x < n) → l.length ≤ n
  | 0, l, _, h => by
    cases l with
    | nil => exact Nat.le_refl _
    | cons a r => exact absurd (h a List.mem_cons_self) (Nat.not_lt_zero _)
  | n + 1, l, nd, h => by
    by_cases c : n ∈ l
    · have h1 := nodup_lt n (l.erase n) (nd.erase n) fun x hx => by
        have h2 := h x (List.mem_of_mem_erase hx)
        have h3 : x ≠ n := fun z => by
          rw [z] at hx
          exact (List.Nodup.not_mem_erase nd) hx
        omega
      rw [List.length_erase_of_mem c] at h1
      omega
    · have h1 := nodup_lt n l nd fun x hx => by
        have h2 := h x hx
        have h3 : x ≠ n := fun z => c (z ▸ hx)
        omega
      omega
def code (s : Sg) : Nat := (match s.1 with | none => 0 | some i => i + 1) * 8 + (if s.2.1 then 4 else 0) + (if s.2.2.1 then 2 else 0) + (if s.2.2.2 then 1 else 0)
theorem code_inj {s t : Sg} (h : code s = code t) : s = t := by
  obtain ⟨a, b, c, d⟩ := s
  obtain ⟨a', b', c', d'⟩ := t
  cases a <;> cases a' <;> cases b <;> cases b' <;> cases c <;> cases c' <;> cases d <;> cases d' <;> simp [code] at h ⊢ <;> omega
theorem code_lt {s : Sg} {n : Nat} (h : ∀ j, s.1 = some j → j ≤ n) : code s < (n + 2) * 8 := by
  obtain ⟨a, b, c, d⟩ := s
  cases a with
  | none => cases b <;> cases c <;> cases d <;> simp [code] <;> omega
  | some i =>
    have := h i rfl
    cases b <;> cases c <;> cases d <;> simp [code] <;> omega
theorem addE_nodup {line : List Ent} (o : Option Sg) (mv : List Bool) (m : Bool) (h : (line.map (·.1)).Nodup) : ((addE line o mv m).map (·.1)).Nodup := by
  cases o with
  | none => exact h
  | some s =>
    unfold addE
    by_cases c : s ∈ line.map (·.1)
    · simp only [if_pos c]; exact h
    · simp only [if_neg c]
      rw [List.map_append, List.nodup_append]
      refine ⟨h, by simp, fun a ha b hb => ?_⟩
      simp at hb
      subst hb
      exact fun z => c (z ▸ ha)
theorem len64 {row : List Deed} (h6 : row.length ≤ 6) {i : Nat} {line : List Ent} (v : Inv row i line) (nd : (line.map (·.1)).Nodup) : line.length ≤ 64 := by
  have h1 := nodup_lt 64 (line.map fun e => code e.1) (by
    have : (line.map fun e => code e.1) = (line.map (·.1)).map code := by simp
    rw [this]
    exact List.Pairwise.map _ (fun a b hab z => hab (code_inj z)) nd) fun x hx => by
      obtain ⟨e, he, rfl⟩ := List.mem_map.mp hx
      have := code_lt (v.at_ e he)
      omega
  simpa using h1
/-- the moves replayed -/
def step1 (row : List Deed) (latch : Bool) (o : Option Sg) (m : Bool) : Option Sg := o.bind fun s => if m then deedS row latch s else some (sgn s)
def replay (row : List Deed) (latch : Bool) (mv : List Bool) : Option Sg := mv.foldl (step1 row latch) (some first)
theorem replay_snoc (row : List Deed) (latch : Bool) (mv : List Bool) (m : Bool) : replay row latch (mv ++ [m]) = step1 row latch (replay row latch mv) m := by
  simp [replay]
theorem addE_pre (line : List Ent) (o : Option Sg) (mv : List Bool) (m : Bool) : ∃ ex, addE line o mv m = line ++ ex := by
  cases o with
  | none => exact ⟨[], by simp [addE]⟩
  | some s =>
    unfold addE
    by_cases c : s ∈ line.map (·.1)
    · exact ⟨[], by simp only [if_pos c, List.append_nil]⟩
    · exact ⟨[(s, mv ++ [m])], by simp only [if_neg c]⟩
theorem expandE_pre (row : List Deed) (latch : Bool) (line : List Ent) (e : Ent) : ∃ ex, expandE row latch line e = line ++ ex := by
  obtain ⟨x1, h1⟩ := addE_pre line (deedS row latch e.1) e.2 true
  obtain ⟨x2, h2⟩ := addE_pre (addE line (deedS row latch e.1) e.2 true) (some (sgn e.1)) e.2 false
  exact ⟨x1 ++ x2, by rw [← List.append_assoc, ← h1]; exact h2⟩
structure Rp (row : List Deed) (latch : Bool) (i : Nat) (line : List Ent) : Prop where
  rp : ∀ e ∈ line, replay row latch e.2 = some e.1
  par : ∀ e ∈ line, (e.2 = [] ∧ e.1 = first) ∨ ∃ p m, p ∈ line.take i ∧ e.2 = p.2 ++ [m]
  nd : (line.map (·.1)).Nodup
  ge : i ≤ line.length
theorem Rp.go {row : List Deed} {latch : Bool} {i : Nat} {line : List Ent} {e : Ent} (v : Rp row latch i line) (he : line[i]? = some e) : Rp row latch (i + 1) (expandE row latch line e) := by
  have hm : e ∈ line := List.mem_of_getElem? he
  have hi : i < line.length := by
    rcases Nat.lt_or_ge i line.length with z | z
    · exact z
    · rw [List.getElem?_eq_none z] at he; cases he
  obtain ⟨ex, hx⟩ := expandE_pre row latch line e
  have tk : (expandE row latch line e).take (i + 1) = line.take (i + 1) := by
    rw [hx, List.take_append_of_le_length (by omega)]
  have tk2 : ∀ p, p ∈ line.take i → p ∈ (expandE row latch line e).take (i + 1) := fun p hp => by
    rw [tk]
    exact List.mem_of_mem_take (i := i) (by rw [List.take_take]; simpa using hp)
  have te : e ∈ (expandE row latch line e).take (i + 1) := by
    rw [tk]
    have : (line.take (i + 1))[i]? = some e := by rw [List.getElem?_take]; simp [he]
    exact List.mem_of_getElem? this
  refine ⟨fun x h => ?_, fun x h => ?_, ?_, ?_⟩
  · rcases addE_mem h with h | ⟨s, hs, rfl⟩
    · rcases addE_mem h with h | ⟨s, hs, rfl⟩
      · exact v.rp x h
      · rw [replay_snoc, v.rp e hm]
        exact hs
    · rw [replay_snoc, v.rp e hm]
      exact hs
  · rcases addE_mem h with h | ⟨s, hs, rfl⟩
    · rcases addE_mem h with h | ⟨s, hs, rfl⟩
      · rcases v.par x h with h | ⟨p, m, h1, h2⟩
        · exact .inl h
        · exact .inr ⟨p, m, tk2 p h1, h2⟩
      · exact .inr ⟨e, true, te, rfl⟩
    · exact .inr ⟨e, false, te, rfl⟩
  · exact addE_nodup _ _ _ (addE_nodup _ _ _ v.nd)
  · have := expandE_len row latch line e
    omega
theorem sweep_some {row : List Deed} {latch : Bool} (h6 : row.length ≤ 6) : ∀ (k i : Nat) (line : List Ent) (mv : List Bool), 65 ≤ i + k → Inv row i line → Rp row latch i line → ∃ n, sweep row latch k i line (some mv) = some (some mv, n)
  | 0, i, line, mv, hk, v, r => by
    have := len64 h6 v r.nd
    have := r.ge
    omega
  | k + 1, i, line, mv, hk, v, r => by
    unfold sweep
    cases q : line[i]? with
    | none => exact ⟨_, rfl⟩
    | some e =>
      have hu : upB e (some mv) = some mv := by simp [upB]
      show ∃ n, sweep row latch k (i + 1) (expandE row latch line e) (upB e (some mv)) = some (some mv, n)
      rw [hu]
      exact sweep_some h6 k (i + 1) _ mv (by omega) (v.go (List.mem_of_getElem? q)) (r.go q)
/-- what is known of the moves that were found -/
structure Good (row : List Deed) (latch : Bool) (mv : List Bool) : Prop where
  ex : ∃ s, replay row latch mv = some s ∧ slept s = true
  ne : mv ≠ []
  pre : ∃ s, replay row latch mv.dropLast = some s ∧ slept s = false
theorem both {row : List Deed} {latch : Bool} (h6 : row.length ≤ 6) : ∀ (k i : Nat) (line : List Ent), 65 ≤ i + k → Inv row i line → Rp row latch i line → (∀ e ∈ line.take i, slept e.1 = false) → 1 ≤ line.length →
    (∃ n, search row latch (k + 800) i line = some (.inr n) ∧ sweep row latch k i line none = some (none, n) ∧ 1 ≤ n) ∨ (∃ mv n, search row latch (k + 800) i line = some (.inl mv) ∧ sweep row latch k i line none = some (some mv, n) ∧ Good row latch mv)
  | 0, i, line, hk, v, r, _, _ => by
    have := len64 h6 v r.nd
    have := r.ge
    omega
  | k + 1, i, line, hk, v, r, hc, h1 => by
    have e0 : k + 1 + 800 = (k + 800) + 1 := by omega
    rw [e0]
    unfold search sweep
    cases q : line[i]? with
    | none => exact .inl ⟨_, rfl, rfl, h1⟩
    | some e =>
      have hm : e ∈ line := List.mem_of_getElem? q
      show (∃ n, (if slept e.1 = true then some (.inl e.2) else search row latch (k + 800) (i + 1) (expandE row latch line e)) = some (.inr n) ∧ sweep row latch k (i + 1) (expandE row latch line e) (upB e none) = some (none, n) ∧ 1 ≤ n) ∨ (∃ mv n, (if slept e.1 = true then some (.inl e.2) else search row latch (k + 800) (i + 1) (expandE row latch line e)) = some (.inl mv) ∧ sweep row latch k (i + 1) (expandE row latch line e) (upB e none) = some (some mv, n) ∧ Good row latch mv)
      by_cases hs : slept e.1 = true
      · have hu : upB e none = some e.2 := by simp [upB, hs]
        rw [hu, if_pos hs]
        obtain ⟨n, hn⟩ := sweep_some h6 k (i + 1) (expandE row latch line e) e.2 (by omega) (v.go hm) (r.go q)
        refine .inr ⟨e.2, n, rfl, hn, ⟨_, r.rp e hm, hs⟩, ?_, ?_⟩
        · rcases r.par e hm with ⟨_, z⟩ | ⟨p, m, _, z⟩
          · rw [z] at hs; cases hs
          · rw [z]; simp
        · rcases r.par e hm with ⟨_, z⟩ | ⟨p, m, hp, z⟩
          · rw [z] at hs; cases hs
          · rw [z]
            exact ⟨p.1, by simpa using r.rp p (List.mem_of_mem_take hp), hc p hp⟩
      · have hu : upB e none = none := by simp [upB, hs]
        rw [hu, if_neg hs]
        have hl := expandE_len row latch line e
        refine both h6 k (i + 1) _ (by omega) (v.go hm) (r.go q) (fun x hx => ?_) (by omega)
        obtain ⟨ex, hx2⟩ := expandE_pre row latch line e
        have hi : i < line.length := by
          rcases Nat.lt_or_ge i line.length with z | z
          · exact z
          · rw [List.getElem?_eq_none z] at q; cases q
        rw [hx2, List.take_append_of_le_length (by omega), List.take_succ, q] at hx
        rcases List.mem_append.mp hx with hx | hx
        · exact hc x hx
        · simp at hx
          subst hx
          simpa using hs
theorem rp0 (row : List Deed) (latch : Bool) : Rp row latch 0 [(first, [])] := ⟨fun e he => by cases List.mem_singleton.mp he; rfl, fun e he => by cases List.mem_singleton.mp he; exact .inl ⟨rfl, rfl⟩, by simp, by simp⟩
theorem agree (row : List Deed) (latch : Bool) (h6 : row.length ≤ 6) :
    (∃ n, search row latch 1000 0 [(first, [])] = some (.inr n) ∧ sweep row latch 200 0 [(first, [])] none = some (none, n) ∧ 1 ≤ n) ∨ (∃ mv n, search row latch 1000 0 [(first, [])] = some (.inl mv) ∧ sweep row latch 200 0 [(first, [])] none = some (some mv, n) ∧ Good row latch mv) :=
  both h6 200 0 _ (by omega) (inv0 row) (rp0 row latch) (fun e he => by cases he) (by simp)
end K40

set_option Elab.async false
set_option linter.all false
set_option maxRecDepth 100000
set_option maxHeartbeats 4000000
namespace K40
open PySem L3
/-! ### what is shown -/
theorem beq_ds : ((Str.ofString "deed" : Str) == Str.ofString "signal") = false := by decide +kernel
theorem beq_sd : ((Str.ofString "signal" : Str) == Str.ofString "deed") = false := by decide +kernel
theorem beq_zs : ((Str.ofString "zz" : Str) == Str.ofString "signal") = false := by decide +kernel
theorem beq_zd : ((Str.ofString "zz" : Str) == Str.ofString "deed") = false := by decide +kernel
def sbody : Ro → SR := (s_if (c_op2 eqC (c_peek 4) (c_const (.str "signal"))) (s_set 3 (c_call d_signalled (l_cons (c_var 3) l_nil))) (s_if (c_and (c_op2 eqC (c_peek 4) (c_const (.str "deed"))) (c_op2 notN (c_op1 (fldN 3 "at") (c_peek 3)) (c_const .non))) (s_set 3 (c_call d_done (l_cons (c_var 1) (l_cons (c_var 2) (l_cons (c_var 3) l_nil))))) (s_ret (c_dat (c_const (.bl false))))))
theorem step_none (row : List Deed) (latch : Bool) : ∀ mv : List Bool, mv.foldl (step1 row latch) none = none
  | [] => rfl
  | _ :: r => step_none row latch r
theorem sloop {row : List Deed} {r : D} (h : Row row r) (latch : Bool) (self : Option W) : ∀ (mv : List Bool) (w : W) (s s' : Sg) (a4 : Option W), frz w = eS s → (∀ j, s.1 = some j → j ≤ row.length) → mv.foldl (step1 row latch) (some s) = some s' →
    ∃ w' b4, frz w' = eS s' ∧ forL (.name 4) sbody (mv.map fun b => D.str (mvS b)) [self, some (.d r), some (.d (.bl latch)), some w, a4] = .nx [self, some (.d r), some (.d (.bl latch)), some w', b4]
  | [], w, s, s', a4, hw, hb, e => by
    cases e
    exact ⟨w, a4, hw, rfl⟩
  | m :: mv, w, s, s', a4, hw, hb, e => by
    rw [List.foldl_cons] at e
    rw [List.map_cons]
    simp only [forL, tset_name, List.set_cons_zero, List.set_cons_succ]
    cases m with
    | false =>
      have e' : mv.foldl (step1 row latch) (some (sgn s)) = some s' := e
      obtain ⟨w', b4, h1, h2⟩ := sloop h latch self mv (wS (sgn s)) (sgn s) s' (some (.d (.str "signal"))) (frz_wS _) (sgn_at hb) e'
      refine ⟨w', b4, h1, ?_⟩
      have d2 := signalled_ok s
      have : sbody [self, some (.d r), some (.d (.bl latch)), some w, some (.d (.str (mvS false)))] = .nx [self, some (.d r), some (.d (.bl latch)), some (wS (sgn s)), some (.d (.str "signal"))] := by
        simp [sbody, mvS, hw, d2, wS]
      rw [this]
      exact h2
    | true =>
      cases q : deedS row latch s with
      | none =>
        have : step1 row latch (some s) true = none := q
        rw [this, step_none] at e
        cases e
      | some s1 =>
        have e0 : step1 row latch (some s) true = some s1 := q
        rw [e0] at e
        obtain ⟨w', b4, h1, h2⟩ := sloop h latch self mv (wS s1) s1 s' (some (.d (.str "deed"))) (frz_wS _) (deedS_at hb q) e
        refine ⟨w', b4, h1, ?_⟩
        have d1 := done_ok h latch s hb
        rw [q] at d1
        have z : s.1.isSome = true := by
          obtain ⟨a, b, c, d⟩ := s
          cases a with
          | none => cases q
          | some i => rfl
        have : sbody [self, some (.d r), some (.d (.bl latch)), some w, some (.d (.str (mvS true)))] = .nx [self, some (.d r), some (.d (.bl latch)), some (wS s1), some (.d (.str "deed"))] := by
          simp [sbody, mvS, hw, d1, beq_ds, fat, notN_eAt, z, wSo]
        rw [this]
        exact h2
theorem sshows {row : List Deed} {r : D} (h : Row row r) (h1 : 1 ≤ row.length) (h8 : row.length ≤ 8) (latch : Bool) {mv : List Bool} {s : Sg} (e : replay row latch mv = some s) : d_Sleeps_shows [.d (eSl mv), .d r, .d (.bl latch)] = .ok (.d (.bl (slept s))) [] := by
  have ck := check_ok h h1 h8
  obtain ⟨w', b4, hw, lp⟩ := sloop h latch (some (.d (eSl mv))) mv (wS first) first s none (frz_wS _) (fun j hj => by cases hj; exact Nat.zero_le _) e
  have run : g_Sleeps_shows [some (.d (eSl mv)), some (.d r), some (.d (.bl latch)), none, none] = s_seq (fun ρ => forL (.name 4) sbody (mv.map fun b => D.str (mvS b)) ρ) (s_ret (c_dat (c_andV tb0 (c_op2 isN (c_op1 (fldN 3 "at") (c_peek 3)) (c_const .non)) (c_op1 (fldN 3 "work") (c_var 3))))) [some (.d (eSl mv)), some (.d r), some (.d (.bl latch)), some (wS first), none] := by
    have fm : fldN 3 "moves" (eSl mv) = some (eMv mv) := by with_unfolding_all rfl
    have sm : seqD (eMv mv) = some (mv.map fun b => D.str (mvS b)) := rfl
    show g_Sleeps_shows _ = match forL (.name 4) sbody (mv.map fun b => D.str (mvS b)) _ with | .nx ρ1 => _ | r => r
    simp only [g_Sleeps_shows, ap_s_seq, ap_s_expr, ap_c_call, ap_l_cons, ap_l_nil, ap_c_var, List.getElem?_cons_zero, List.getElem?_cons_succ, List.set_cons_zero, List.set_cons_succ, frz_d, List.map_cons, List.map_nil, ck, ap_s_set, first_ok', ap_s_for, ap_i_seq, ap_c_op1, ap_bind_ok, fm, sm]
    rfl
  have fin : d_Sleeps_shows [.d (eSl mv), .d r, .d (.bl latch)] = (match g_Sleeps_shows [some (.d (eSl mv)), some (.d r), some (.d (.bl latch)), none, none] with | .nx ρ => .ok (.d .non) [] | .rt w ρ => .ok w [] | .ex x ρ => .ex x [] | _ => .no) := rfl
  rw [fin, run, seq_nx lp]
  have tb : truD tb0 (.bl s.1.isNone) = some s.1.isNone := rfl
  cases z : s.1.isNone
  · rw [z] at tb
    simp [hw, fat, isN_eAt, z, slept]
  · rw [z] at tb
    simp [hw, fat, fwork, isN_eAt, z, slept]
theorem zshows {row : List Deed} {r : D} (h : Row row r) (h1 : 1 ≤ row.length) (h8 : row.length ≤ 8) (latch : Bool) : d_Sleeps_shows [.d (.ins 2 ["moves"] [.tup [.str "zz"]]), .d r, .d (.bl latch)] = .ok (.d (.bl false)) [] := by
  have ck := check_ok h h1 h8
  have fm : getf ["moves"] [.tup [.str "zz"]] "moves" = some (.tup [.str "zz"]) := by with_unfolding_all rfl
  simp [d_Sleeps_shows, g_Sleeps_shows, d_fun, ck, fm, forL, beq_zs, beq_zd]
theorem wk_eq (m n : Nat) : d_Wakes_eq [.d (eWk m), .d (eWk n)] = .ok (.d (.bl ((m : Int) == (n : Int)))) [] := by with_unfolding_all rfl
theorem sl_eq (mv : List Bool) (n : Nat) : d_Sleeps_eq [.d (eSl mv), .d (eWk n)] = .ok (.d (.bl false)) [] := by with_unfolding_all rfl
def isWk : Sum (List Bool) Nat → Nat → Bool
  | .inl _, _ => false
  | .inr m, n => m == n
theorem cmp_wk (neg : Bool) (g : D → D → Option D) (res : Sum (List Bool) Nat) (n : Nat) : cmpID 3 neg etbl g (frz (eRes res)) (eWk n) = some (.bl (isWk res n != neg)) := by
  cases res with
  | inl mv =>
    have := sl_eq mv n
    show (match d_Sleeps_eq [.d (eSl mv), .d (eWk n)] with | .ok (.d (.bl r)) [] => some (D.bl (r != neg)) | _ => none) = _
    rw [this]
    rfl
  | inr m =>
    have := wk_eq m n
    show (match d_Wakes_eq [.d (eWk m), .d (eWk n)] with | .ok (.d (.bl r)) [] => some (D.bl (r != neg)) | _ => none) = _
    rw [this]
    have : ((m : Int) == (n : Int)) = (m == n) := by
      by_cases c : m = n
      · simp [c]
      · have : ¬ ((m : Int) = (n : Int)) := by omega
        rw [beq_eq_false_iff_ne.mpr c, beq_eq_false_iff_ne.mpr this]
    rw [this]
    rfl
theorem wshows {row : List Deed} {r : D} (h : Row row r) (h1 : 1 ≤ row.length) (h8 : row.length ≤ 8) (latch : Bool) {res : Sum (List Bool) Nat} (e : search row latch 1000 0 [(first, [])] = some res) (n : Nat) : d_Wakes_shows [.d (eWk n), .d r, .d (.bl latch)] = .ok (.d (.bl (isWk res n))) [] := by
  have j := judge_ok h h1 h8 latch e
  have c := cmp_wk false eqC res n
  simp [d_Wakes_shows, g_Wakes_shows, d_fun, j, c]
end K40

set_option Elab.async false
set_option linter.all false
set_option maxRecDepth 100000
set_option maxHeartbeats 4000000
namespace K40
open PySem L3
/-! ### rows that end with a sleep -/
def wakes (pl : List Deed) (latch : Bool) : Bool := match search (pl ++ [.sleep]) latch 1000 0 [(first, [])] with
  | some (.inr _) => true
  | _ => false
def exP (l : List (List Deed)) : List (List Deed) := l.flatMap fun r => [r ++ [.arm], r ++ [.look], r ++ [.work]]
def pl0 : List (List Deed) := [[]]
def pls : List (List Deed) := pl0 ++ exP pl0 ++ exP (exP pl0) ++ exP (exP (exP pl0)) ++ exP (exP (exP (exP pl0)))
def goodIs (r : D) (latch b : Bool) : Bool := match d__law_is_good [.d r, .d (.bl latch)] with
  | .ok (.d (.bl c)) [] => c == b
  | _ => false
theorem good_all : (pls.all fun pl => [true, false].all fun latch => goodIs (.lst (eDs (pl ++ [.sleep]))) latch (wakes pl latch) && goodIs (.tup (eDs (pl ++ [.sleep]))) latch (wakes pl latch)) = true := by decide +kernel
def ext (l : List (List Deed)) : List (List Deed) := l.flatMap fun r => [r ++ [.arm], r ++ [.look], r ++ [.work], r ++ [.sleep]]
def lvl : Nat → List (List Deed)
  | 0 => [[]]
  | n + 1 => ext (lvl n)
def endS (r : List Deed) : Bool := decide (r.getLast? = some .sleep) && !decide (Deed.sleep ∈ r.dropLast)
def keep (latch : Bool) (r : List Deed) : Bool := endS r && wakes r.dropLast latch
def acc (latch : Bool) : Nat → List (List Deed)
  | 0 => []
  | n + 1 => acc latch n ++ (lvl (n + 1)).filter (keep latch)
def eR (r : List Deed) : D := .tup (eDs r)
def lvls : List (List Deed) := lvl 1 ++ lvl 2 ++ lvl 3 ++ lvl 4
theorem lvl_good : ([true, false].all fun latch => lvls.all fun r => !endS r || goodIs (eR r) latch (wakes r.dropLast latch)) = true := by decide +kernel
theorem lvl_len : (lvls.all fun r => decide (1 ≤ r.length) && decide (r.length ≤ 4)) = true := by decide +kernel
theorem acc_len : ([true, false].all fun latch => (acc latch 0).length + (lvl 1).length ≤ 1000 && (acc latch 1).length + (lvl 2).length ≤ 1000 && (acc latch 2).length + (lvl 3).length ≤ 1000 && (acc latch 3).length + (lvl 4).length ≤ 1000) = true := by decide +kernel
theorem plain_Ds (q : List Deed) : plains (eDs q) = true := plains_map _ q fun _ _ => rfl
theorem beq_ss (d : Deed) : (d.s == Str.ofString "sleep") = decide (d = .sleep) := by cases d <;> decide +kernel
theorem beq_s2 (d : Deed) : eqD (.str d.s) (.str "sleep") = decide (d = .sleep) := beq_ss d
theorem any_sleep : ∀ q : List Deed, ((eDs q).any fun z => eqD z (.str "sleep")) = decide (Deed.sleep ∈ q)
  | [] => rfl
  | d :: r => by
    show (eqD (.str d.s) (.str "sleep") || (eDs r).any fun z => eqD z (.str "sleep")) = _
    rw [beq_s2, any_sleep r]
    cases d <;> simp
theorem dep_Ds (q : List Deed) : deps (eDs q) ≤ 0 := deps_map _ 0 q fun _ _ => Nat.le_refl _
theorem nin_sleep (q : List Deed) : ninD (.str "sleep") (.tup (eDs q)) = some (.bl (!decide (Deed.sleep ∈ q))) := by
  have h : inC (.str "sleep") (.tup (eDs q)) = some (decide (Deed.sleep ∈ q)) := by
    show (if (plain (.str "sleep") && plains (eDs q) && decide (min (deps (eDs q)) (dep (.str "sleep")) ≤ 60)) = true then some ((eDs q).any fun z => eqD z (.str "sleep")) else none) = _
    have := dep_Ds q
    have h1 : min (deps (eDs q)) (dep (.str "sleep")) ≤ 60 := Nat.le_trans (Nat.min_le_left _ _) (by omega)
    have h2 : plain (.str "sleep") = true := rfl
    rw [plain_Ds, any_sleep, h2, decide_eq_true h1]
    rfl
  unfold ninD
  rw [h]
  rfl
theorem in_sleep (q : List Deed) : inD (.str "sleep") (.lst (eDs q)) = some (.bl (decide (Deed.sleep ∈ q))) := by
  have h : inC (.str "sleep") (.lst (eDs q)) = some (decide (Deed.sleep ∈ q)) := by
    show (if (plain (.str "sleep") && plains (eDs q) && decide (min (deps (eDs q)) (dep (.str "sleep")) ≤ 60)) = true then some ((eDs q).any fun z => eqD z (.str "sleep")) else none) = _
    have := dep_Ds q
    have h1 : min (deps (eDs q)) (dep (.str "sleep")) ≤ 60 := Nat.le_trans (Nat.min_le_left _ _) (by omega)
    have h2 : plain (.str "sleep") = true := rfl
    rw [plain_Ds, any_sleep, h2, decide_eq_true h1]
    rfl
  unfold inD
  rw [h]
  rfl
theorem eR_snoc (q : List Deed) (d : Deed) : eR (q ++ [d]) = .tup (eDs q ++ [.str d.s]) := by simp [eR, eDs]
theorem goodIs_eq {r : D} {latch b : Bool} (h : goodIs r latch b = true) : d__law_is_good [.d r, .d (.bl latch)] = .ok (.d (.bl b)) [] := by
  unfold goodIs at h
  split at h
  · rename_i c e
    rw [e]
    have : c = b := by simpa using h
    rw [this]
  · cases h
def tst : Ro → ER := (c_and (c_op2 eqC (c_op2 subD' (c_peek 12) (c_op1 negD (c_const (.int 1)))) (c_const (.str "sleep"))) (c_and (c_op2 ninD (c_const (.str "sleep")) (c_slice (c_peek 12) p_none (p_some (c_op1 negD (c_const (.int 1)))))) (c_truth tb0 (c_call d__law_is_good (l_cons (c_var 12) (l_cons (c_var 2) l_nil))))))
def tst2 : Ro → ER := (c_and (c_op2 eqC (c_op2 subD' (c_peek 5) (c_op1 negD (c_const (.int 1)))) (c_const (.str "sleep"))) (c_and (c_op2 ninD (c_const (.str "sleep")) (c_slice (c_peek 5) p_none (p_some (c_op1 negD (c_const (.int 1)))))) (c_truth tbl (c_call d_judge_row (l_cons (c_var 5) (l_cons (c_var 1) l_nil))))))
theorem endS_snoc (q : List Deed) (d : Deed) : endS (q ++ [d]) = (decide (d = .sleep) && !decide (Deed.sleep ∈ q)) := by simp [endS]
theorem keep_snoc (latch : Bool) (q : List Deed) (d : Deed) : keep latch (q ++ [d]) = (decide (d = .sleep) && (!decide (Deed.sleep ∈ q) && wakes q latch)) := by
  unfold keep
  rw [endS_snoc]
  simp [Bool.and_assoc]
theorem tst_ok {r : List Deed} (hr : r ∈ lvls) (latch : Bool) {ρ : Ro} (h12 : ρ[12]? = some (some (.d (eR r)))) (h2 : ρ[2]? = some (some (.d (.bl latch)))) : tst ρ = .ok (.d (.bl (keep latch r))) ρ := by
  have hl := List.all_eq_true.mp lvl_len r hr
  have hg := List.all_eq_true.mp (List.all_eq_true.mp lvl_good latch (by cases latch <;> simp)) r hr
  obtain ⟨q, d, rfl⟩ : ∃ q d, r = q ++ [d] := by
    rcases List.eq_nil_or_concat r with rfl | ⟨q, d, rfl⟩
    · simp at hl
    · exact ⟨q, d, by simp⟩
  have p := peek_d h12
  have v := var_self h12
  have v2 := var_self h2
  rw [frz_d] at p
  have s1 : subD' (eR (q ++ [d])) (.int (-1)) = some (.str d.s) := by rw [eR_snoc]; exact atI_last _ _
  have s3 : sliceD (eR (q ++ [d])) none (some (-1)) = some (.tup (eDs q)) := by
    rw [eR_snoc]
    show some (D.tup (cutD _ _ _)) = _
    rw [cut_last]
  rw [keep_snoc]
  by_cases c1 : d = .sleep
  · subst c1
    by_cases c2 : Deed.sleep ∈ q
    · simp [-ap_c_peek, -ap_c_var, tst, p, s1, s3, beq_ss, nin_sleep, c2]
    · rw [endS_snoc, decide_eq_true rfl, decide_eq_false c2] at hg
      have g := goodIs_eq (by simpa using hg)
      have c3 : ∀ b : Bool, truD tb0 (.bl b) = some b := fun _ => rfl
      simp [-ap_c_peek, -ap_c_var, tst, p, v, v2, s1, s3, beq_ss, nin_sleep, c2]
      simp [g, c3]
  · simp [-ap_c_peek, -ap_c_var, tst, p, s1, beq_ss, c1]
theorem wakes_some (q : List Deed) (latch : Bool) (h : q.length ≤ 5) : ∃ res, search (q ++ [.sleep]) latch 1000 0 [(first, [])] = some res ∧ tbl (match res with | .inl _ => 2 | .inr _ => 1) = some (wakes q latch) := by
  rcases agree (q ++ [.sleep]) latch (by simp; omega) with ⟨n, e, _⟩ | ⟨mv, n, e, _⟩
  · exact ⟨_, e, by simp [wakes, e, tbl]⟩
  · exact ⟨_, e, by simp [wakes, e, tbl]⟩
theorem tst2_ok {r : List Deed} (hr : r ∈ lvls) (latch : Bool) {ρ : Ro} (h5 : ρ[5]? = some (some (.d (eR r)))) (h1 : ρ[1]? = some (some (.d (.bl latch)))) : tst2 ρ = .ok (.d (.bl (keep latch r))) ρ := by
  have hl := List.all_eq_true.mp lvl_len r hr
  obtain ⟨q, d, rfl⟩ : ∃ q d, r = q ++ [d] := by
    rcases List.eq_nil_or_concat r with rfl | ⟨q, d, rfl⟩
    · simp at hl
    · exact ⟨q, d, by simp⟩
  have p := peek_d h5
  have v := var_self h5
  have v2 := var_self h1
  rw [frz_d] at p
  have s1 : subD' (eR (q ++ [d])) (.int (-1)) = some (.str d.s) := by rw [eR_snoc]; exact atI_last _ _
  have s3 : sliceD (eR (q ++ [d])) none (some (-1)) = some (.tup (eDs q)) := by
    rw [eR_snoc]
    show some (D.tup (cutD _ _ _)) = _
    rw [cut_last]
  rw [keep_snoc]
  by_cases c1 : d = .sleep
  · subst c1
    by_cases c2 : Deed.sleep ∈ q
    · simp [-ap_c_peek, -ap_c_var, tst2, p, s1, s3, beq_ss, nin_sleep, c2]
    · have hq : q.length ≤ 3 := by simp at hl; omega
      obtain ⟨res, e, w⟩ := wakes_some q latch (by omega)
      have j := judge_ok (row := q ++ [.sleep]) (r := eR (q ++ [.sleep])) (.inr rfl) (by simp) (by simp; omega) latch e
      simp [-ap_c_peek, -ap_c_var, tst2, p, v, v2, s1, s3, beq_ss, nin_sleep, c2, j]
      cases res with
      | inl mv =>
        have : truD tbl (frz (eRes (.inl mv))) = some (wakes q latch) := w
        rw [this]
      | inr n =>
        have : truD tbl (frz (eRes (.inr n))) = some (wakes q latch) := w
        rw [this]
  · simp [-ap_c_peek, -ap_c_var, tst2, p, s1, beq_ss, c1]
end K40

set_option Elab.async false
set_option linter.all false
set_option maxRecDepth 100000
set_option maxHeartbeats 4000000
namespace K40
open PySem L3
/-! ### the rows that are due, the good rows -/
theorem addD_lst (l m : List D) : addD (.lst l) (.lst m) = if l.length + m.length ≤ maxLen then some (.lst (l ++ m)) else none := rfl
theorem addD_tup (l m : List D) : addD (.tup l) (.tup m) = if l.length + m.length ≤ maxLen then some (.tup (l ++ m)) else none := rfl
def ibody : Ro → SR := (s_set 11 (c_dat (c_op2 addD (c_peek 11) (c_comp (i_seq (c_tup (l_cons (c_const (.str "arm")) (l_cons (c_const (.str "look")) (l_cons (c_const (.str "work")) (l_cons (c_const (.str "sleep")) l_nil)))))) [16] (.name 16) c_yes (c_op2 addD (c_peek 12) (c_tup (l_cons (c_var 16) l_nil)))))))
theorem ib_ok (a0 a1 a2 a3 a4 a5 a6 a7 a8 a9 a10 a13 a14 a15 : Option W) (w : W) (L : List (List Deed)) (hw : frz w = .lst (L.map eR)) (r : List Deed) (hl : L.length + 4 ≤ maxLen) (hr : r.length + 1 ≤ maxLen) :
    ibody [a0, a1, a2, a3, a4, a5, a6, a7, a8, a9, a10, some w, some (.d (eR r)), a13, a14, a15, none] = .nx [a0, a1, a2, a3, a4, a5, a6, a7, a8, a9, a10, some (.d (.lst ((L ++ ext [r]).map eR))), some (.d (eR r)), a13, a14, a15, none] := by
  have m1 : (1 : Nat) ≤ maxLen := by decide
  have m2 : (4 : Nat) ≤ maxLen := by decide
  have m0 : (0 : Nat) < maxLen := by decide
  have m3 : (1 : Nat) < maxLen := by decide
  have m4 : (2 : Nat) < maxLen := by decide
  have m5 : (3 : Nat) < maxLen := by decide
  have hr' : (eDs r).length + 1 ≤ maxLen := by simpa [eDs] using hr
  simp [ibody, compL, wipeR, frzSl, frz1, restR, m1, m2, m0, m3, m4, m5, eR, addD_tup, addD_lst, hr', hw, hl, ext]
  simp [eDs, Deed.s]
theorem il_ok (a0 a1 a2 a3 a4 a5 a6 a7 a8 a9 a10 a13 a14 a15 : Option W) : ∀ (R L : List (List Deed)) (w : W) (a12 : Option W), frz w = .lst (L.map eR) → L.length + 4 * R.length ≤ maxLen → (∀ r ∈ R, r.length + 1 ≤ maxLen) →
    ∃ w' b12, frz w' = .lst ((L ++ ext R).map eR) ∧ forL (.name 12) ibody (R.map eR) [a0, a1, a2, a3, a4, a5, a6, a7, a8, a9, a10, some w, a12, a13, a14, a15, none] = .nx [a0, a1, a2, a3, a4, a5, a6, a7, a8, a9, a10, some w', b12, a13, a14, a15, none]
  | [], L, w, a12, hw, _, _ => ⟨w, a12, by simp [ext, hw], rfl⟩
  | r :: R, L, w, a12, hw, hl, hr => by
    rw [List.length_cons] at hl
    have e := ib_ok a0 a1 a2 a3 a4 a5 a6 a7 a8 a9 a10 a13 a14 a15 w L hw r (by omega) (hr r List.mem_cons_self)
    obtain ⟨w', b12, h1, h2⟩ := il_ok a0 a1 a2 a3 a4 a5 a6 a7 a8 a9 a10 a13 a14 a15 R (L ++ ext [r]) (.d (.lst ((L ++ ext [r]).map eR))) (some (.d (eR r))) rfl (by simp [ext]; omega) fun x hx => hr x (List.mem_cons_of_mem _ hx)
    refine ⟨w', b12, by simpa [ext] using h1, ?_⟩
    rw [List.map_cons]
    simp only [forL, tset_name, List.set_cons_zero, List.set_cons_succ]
    rw [e]
    exact h2
def lbody : Ro → SR := (s_seq (s_set 11 (c_lst l_nil))
  (s_seq (s_for (i_seq (c_var 8)) (.name 12) ibody)
  (s_seq (s_set 8 (c_dat (c_var 11)))
  (s_set 9 (c_dat (c_op2 addD (c_peek 9) (c_comp (i_seq (c_peek 8)) [12] (.name 12) tst (c_var 12))))))))
theorem lb_ok (latch : Bool) (i : Nat) (hi : i < 4) (a0 a1 a3 a4 a5 a6 a7 a10 a11 a12 a13 a14 a15 : Option W) (w8 w9 : W) (h8 : frz w8 = .lst ((lvl i).map eR)) (h9 : frz w9 = .lst ((acc latch i).map eR)) :
    ∃ w8' w9' b11 b12, frz w8' = .lst ((lvl (i + 1)).map eR) ∧ frz w9' = .lst ((acc latch (i + 1)).map eR) ∧ lbody [a0, a1, some (.d (.bl latch)), a3, a4, a5, a6, a7, some w8, some w9, a10, a11, a12, a13, a14, a15, none] = .nx [a0, a1, some (.d (.bl latch)), a3, a4, a5, a6, a7, some w8', some w9', a10, b11, b12, a13, a14, a15, none] := by
  have ll : (lvl i).length ≤ 100 := by
    rcases (show i = 0 ∨ i = 1 ∨ i = 2 ∨ i = 3 by omega) with rfl | rfl | rfl | rfl <;> decide
  have lr : ∀ r ∈ lvl i, r.length + 1 ≤ maxLen := by
    have : (((lvl 0) ++ (lvl 1) ++ (lvl 2) ++ (lvl 3)).all fun r => decide (r.length ≤ 10)) = true := by decide
    intro r hr
    have := List.all_eq_true.mp this r (by rcases (show i = 0 ∨ i = 1 ∨ i = 2 ∨ i = 3 by omega) with rfl | rfl | rfl | rfl <;> simp [hr])
    have h2 : r.length ≤ 10 := by simpa using this
    have : maxLen = 16777216 := rfl
    omega
  have la : (acc latch i).length + (lvl (i + 1)).length ≤ 1000 := by
    have h := List.all_eq_true.mp acc_len latch (by cases latch <;> simp)
    simp only [Bool.and_eq_true, decide_eq_true_eq] at h
    rcases (show i = 0 ∨ i = 1 ∨ i = 2 ∨ i = 3 by omega) with rfl | rfl | rfl | rfl
    · exact h.1.1.1
    · exact h.1.1.2
    · exact h.1.2
    · exact h.2
  have lm : ∀ r ∈ lvl (i + 1), r ∈ lvls := by
    intro r hr
    unfold lvls
    rcases (show i = 0 ∨ i = 1 ∨ i = 2 ∨ i = 3 by omega) with rfl | rfl | rfl | rfl
    · exact List.mem_append_left _ (List.mem_append_left _ (List.mem_append_left _ hr))
    · exact List.mem_append_left _ (List.mem_append_left _ (List.mem_append_right _ hr))
    · exact List.mem_append_left _ (List.mem_append_right _ hr)
    · exact List.mem_append_right _ hr
  have mx : maxLen = 16777216 := rfl
  obtain ⟨w', b12, h1, h2⟩ := il_ok a0 a1 (some (.d (.bl latch))) a3 a4 a5 a6 a7 (some (.d (frz w8))) (some w9) a10 a13 a14 a15 (lvl i) [] (.lst []) a12 rfl (by rw [List.length_nil]; omega) lr
  rw [List.nil_append] at h1
  have e1 : ext (lvl i) = lvl (i + 1) := rfl
  rw [e1] at h1
  have comp : ∀ (L A : List (List Deed)), (∀ r ∈ L, r ∈ lvls) → A.length + L.length ≤ 1000 → ∀ w8 w9 b11, compL [12] (.name 12) tst (c_var 12) (L.map eR) (A.map eR) [a0, a1, some (.d (.bl latch)), a3, a4, a5, a6, a7, w8, w9, a10, b11, none, a13, a14, a15, none] = some ((A ++ L.filter (keep latch)).map eR, [a0, a1, some (.d (.bl latch)), a3, a4, a5, a6, a7, w8, w9, a10, b11, none, a13, a14, a15, none]) := by
    intro L
    induction L with
    | nil => intro A _ _ w8 w9 b11; simp [compL]
    | cons r L ih =>
      intro A hm hl w8 w9 b11
      have t := tst_ok (hm r List.mem_cons_self) latch (ρ := [a0, a1, some (.d (.bl latch)), a3, a4, a5, a6, a7, w8, w9, a10, b11, some (.d (eR r)), a13, a14, a15, none]) rfl rfl
      rw [List.length_cons] at hl
      rw [List.map_cons]
      unfold compL
      simp only [tset_name, List.set_cons_zero, List.set_cons_succ]
      rw [t]
      cases k : keep latch r with
      | true =>
        have i2 := ih (A ++ [r]) (fun x hx => hm x (List.mem_cons_of_mem _ hx)) (by simp; omega) w8 w9 b11
        have la : (A.map eR).length < maxLen := by simp; omega
        have e2 : (A ++ [r]).map eR = A.map eR ++ [eR r] := by simp
        rw [e2] at i2
        simp only [ap_c_var, List.getElem?_cons_zero, List.getElem?_cons_succ, List.set_cons_zero, List.set_cons_succ, wipeR, if_pos la, frz_d]
        rw [i2]
        simp [k]
      | false =>
        have i2 := ih A (fun x hx => hm x (List.mem_cons_of_mem _ hx)) (by omega) w8 w9 b11
        simp only [wipeR, List.set_cons_zero, List.set_cons_succ]
        rw [i2]
        simp [k]
  have cp := fun b11 => comp (lvl (i + 1)) [] lm (by simp; omega) (some (.d (.lst ((lvl (i + 1)).map eR)))) (some w9) b11
  simp only [List.map_nil, List.nil_append] at cp
  have hs : (acc latch i).length + ((lvl (i + 1)).filter (keep latch)).length ≤ maxLen := by
    have := List.length_filter_le (keep latch) (lvl (i + 1))
    omega
  have z : ∀ (w8 w9 a11 a12 : Option W), (s_set 11 (c_lst l_nil)) [a0, a1, some (.d (.bl latch)), a3, a4, a5, a6, a7, w8, w9, a10, a11, a12, a13, a14, a15, none] = .nx [a0, a1, some (.d (.bl latch)), a3, a4, a5, a6, a7, w8, w9, a10, some (.lst []), a12, a13, a14, a15, none] := fun _ _ _ _ => rfl
  refine ⟨.d (.lst ((lvl (i + 1)).map eR)), .d (.lst ((acc latch (i + 1)).map eR)), some (.d (.lst ((lvl (i + 1)).map eR))), frz1 12 [none, none, none, none, none, none, none, none, none, none, none, none, b12] |>.getD 12 none, rfl, rfl, ?_⟩
  unfold lbody
  rw [seq_nx (z _ _ _ _)]
  have f8 : (s_for (i_seq (c_var 8)) (.name 12) ibody) [a0, a1, some (.d (.bl latch)), a3, a4, a5, a6, a7, some w8, some w9, a10, some (.lst []), a12, a13, a14, a15, none] = .nx [a0, a1, some (.d (.bl latch)), a3, a4, a5, a6, a7, some (.d (frz w8)), some w9, a10, some w', b12, a13, a14, a15, none] := by
    rw [← h2]
    simp [h8]
  rw [seq_nx f8]
  have hs' : ((acc latch i).map eR).length + (((lvl (i + 1)).filter (keep latch)).map eR).length ≤ maxLen := by simpa using hs
  have ac : acc latch (i + 1) = acc latch i ++ (lvl (i + 1)).filter (keep latch) := rfl
  rw [ac]
  cases b12 with
  | none => simp [h1, h9, frzSl, frz1, wipeR, restR, cp, addD_lst, hs', hs]
  | some b => simp [h1, h9, frzSl, frz1, wipeR, restR, cp, addD_lst, hs', hs]
theorem due_ok (latch : Bool) (a0 a1 a3 a4 a5 a6 a7 a10 a11 a12 a13 a14 a15 : Option W) (w8 w9 : W) (h8 : frz w8 = .lst [.tup []]) (h9 : frz w9 = .lst []) :
    ∃ w8' w9' b10 b11 b12, frz w9' = .lst ((acc latch 4).map eR) ∧ s_for (i_range1 (c_const (.int 4))) (.name 10) lbody [a0, a1, some (.d (.bl latch)), a3, a4, a5, a6, a7, some w8, some w9, a10, a11, a12, a13, a14, a15, none] = .nx [a0, a1, some (.d (.bl latch)), a3, a4, a5, a6, a7, some w8', some w9', b10, b11, b12, a13, a14, a15, none] := by
  obtain ⟨x8, x9, x11, x12, e8, e9, e0⟩ := lb_ok latch 0 (by decide) a0 a1 a3 a4 a5 a6 a7 (some (.d (.int 0))) a11 a12 a13 a14 a15 w8 w9 h8 h9
  obtain ⟨y8, y9, y11, y12, f8, f9, e1⟩ := lb_ok latch 1 (by decide) a0 a1 a3 a4 a5 a6 a7 (some (.d (.int 1))) x11 x12 a13 a14 a15 x8 x9 e8 e9
  obtain ⟨z8, z9, z11, z12, g8, g9, e2⟩ := lb_ok latch 2 (by decide) a0 a1 a3 a4 a5 a6 a7 (some (.d (.int 2))) y11 y12 a13 a14 a15 y8 y9 f8 f9
  obtain ⟨u8, u9, u11, u12, k8, k9, e3⟩ := lb_ok latch 3 (by decide) a0 a1 a3 a4 a5 a6 a7 (some (.d (.int 3))) z11 z12 a13 a14 a15 z8 z9 g8 g9
  refine ⟨u8, u9, some (.d (.int 3)), u11, u12, k9, ?_⟩
  have r : i_range1 (c_const (.int 4)) [a0, a1, some (.d (.bl latch)), a3, a4, a5, a6, a7, some w8, some w9, a10, a11, a12, a13, a14, a15, none] = .ok [.int 0, .int 1, .int 2, .int 3] [a0, a1, some (.d (.bl latch)), a3, a4, a5, a6, a7, some w8, some w9, a10, a11, a12, a13, a14, a15, none] := rfl
  rw [ap_s_for, r]
  simp only [forL, tset_name, List.set_cons_zero, List.set_cons_succ, e0, e1, e2, e3]
def gcomp : Ro → ER := (c_comp2 (i_seq (c_peek 3)) [5, 6] (.name 5) c_yes (i_seq (c_const k_DEEDS)) [6] (.name 6) c_yes (c_tup (l_star (c_var 5) (l_cons (c_var 6) l_nil))))
theorem gc_ok (a0 a1 a2 a3 a4 : Option W) : ∀ (R A : List (List Deed)), A.length + 4 * R.length ≤ maxLen → (∀ r ∈ R, r.length + 1 ≤ maxLen) →
    comp2L [5, 6] (.name 5) c_yes (i_seq (c_const k_DEEDS)) [6] (.name 6) c_yes (c_tup (l_star (c_var 5) (l_cons (c_var 6) l_nil))) (R.map eR) (A.map eR) [a0, a1, a2, a3, a4, none, none] = some ((A ++ ext R).map eR, [a0, a1, a2, a3, a4, none, none])
  | [], A, _, _ => by simp [comp2L, ext]
  | r :: R, A, hl, hr => by
    rw [List.length_cons] at hl
    have ih := gc_ok a0 a1 a2 a3 a4 R (A ++ ext [r]) (by simp [ext]; omega) fun x hx => hr x (List.mem_cons_of_mem _ hx)
    have r1 := hr r List.mem_cons_self
    have r2 : (eDs r).length + 1 ≤ maxLen := by simpa [eDs] using r1
    have q0 : (A.map eR).length < maxLen := by simp; omega
    have q1 : (A.map eR).length + 1 < maxLen := by simp; omega
    have q2 : (A.map eR).length + 1 + 1 < maxLen := by simp; omega
    have q3 : (A.map eR).length + 1 + 1 + 1 < maxLen := by simp; omega
    rw [List.map_cons]
    unfold comp2L
    simp only [List.length_map] at q0 q1 q2 q3
    simp [k_DEEDS, compL, wipeR, eR, r2, q0, q1, q2, q3]
    have e : (A ++ ext [r]).map eR = A.map eR ++ [D.tup (eDs r ++ [.str "arm"]), D.tup (eDs r ++ [.str "look"]), D.tup (eDs r ++ [.str "work"]), D.tup (eDs r ++ [.str "sleep"])] := by
      simp [ext, eR, eDs, Deed.s]
    rw [e] at ih
    simp only [k_DEEDS] at ih
    rw [ih]
    simp [ext, eR, eDs, Deed.s]
def gbody : Ro → SR := s_if tst2 (s_app 2 (c_var 5)) s_nil
theorem gl_ok (latch : Bool) (a0 a3 a4 a6 : Option W) : ∀ (L A : List (List Deed)) (x5 : Option D), (∀ r ∈ L, r ∈ lvls) → A.length + L.length ≤ 1000 → ∃ y5 : Option D, forL (.name 5) gbody (L.map eR) [a0, some (.d (.bl latch)), some (.lst (A.map eR)), a3, a4, x5.map .d, a6] = .nx [a0, some (.d (.bl latch)), some (.lst ((A ++ L.filter (keep latch)).map eR)), a3, a4, y5.map .d, a6]
  | [], A, x5, _, _ => ⟨x5, by simp [forL]⟩
  | r :: L, A, x5, hm, hl => by
    rw [List.length_cons] at hl
    have t := tst2_ok (hm r List.mem_cons_self) latch (ρ := [a0, some (.d (.bl latch)), some (.lst (A.map eR)), a3, a4, some (.d (eR r)), a6]) rfl rfl
    rw [List.map_cons]
    simp only [forL, tset_name, List.set_cons_zero, List.set_cons_succ]
    cases k : keep latch r with
    | true =>
      obtain ⟨b5, e⟩ := gl_ok latch a0 a3 a4 a6 L (A ++ [r]) (some (eR r)) (fun x hx => hm x (List.mem_cons_of_mem _ hx)) (by simp; omega)
      refine ⟨b5, ?_⟩
      have mx : maxLen = 16777216 := rfl
      have q : A.length < maxLen := by omega
      have : gbody [a0, some (.d (.bl latch)), some (.lst (A.map eR)), a3, a4, some (.d (eR r)), a6] = .nx [a0, some (.d (.bl latch)), some (.lst ((A ++ [r]).map eR)), a3, a4, some (.d (eR r)), a6] := by
        rw [gbody, ap_s_if, t, k]
        simp [slotU, appW, q]
      rw [this]
      simp only []
      erw [e]
      simp [k]
    | false =>
      obtain ⟨b5, e⟩ := gl_ok latch a0 a3 a4 a6 L A (some (eR r)) (fun x hx => hm x (List.mem_cons_of_mem _ hx)) (by omega)
      refine ⟨b5, ?_⟩
      have : gbody [a0, some (.d (.bl latch)), some (.lst (A.map eR)), a3, a4, some (.d (eR r)), a6] = .nx [a0, some (.d (.bl latch)), some (.lst (A.map eR)), a3, a4, some (.d (eR r)), a6] := by
        rw [gbody, ap_s_if, t, k]
        simp
      rw [this]
      simp only []
      erw [e]
      simp [k]
theorem lv (i : Nat) (hi : i < 4) (latch : Bool) : (lvl i).length ≤ 100 ∧ (∀ r ∈ lvl i, r.length + 1 ≤ maxLen) ∧ (acc latch i).length + (lvl (i + 1)).length ≤ 1000 ∧ ∀ r ∈ lvl (i + 1), r ∈ lvls := by
  refine ⟨?_, ?_, ?_, ?_⟩
  · rcases (show i = 0 ∨ i = 1 ∨ i = 2 ∨ i = 3 by omega) with rfl | rfl | rfl | rfl <;> decide
  · have : (((lvl 0) ++ (lvl 1) ++ (lvl 2) ++ (lvl 3)).all fun r => decide (r.length ≤ 10)) = true := by decide
    intro r hr
    have := List.all_eq_true.mp this r (by rcases (show i = 0 ∨ i = 1 ∨ i = 2 ∨ i = 3 by omega) with rfl | rfl | rfl | rfl <;> simp [hr])
    have h2 : r.length ≤ 10 := by simpa using this
    have : maxLen = 16777216 := rfl
    omega
  · have h := List.all_eq_true.mp acc_len latch (by cases latch <;> simp)
    simp only [Bool.and_eq_true, decide_eq_true_eq] at h
    rcases (show i = 0 ∨ i = 1 ∨ i = 2 ∨ i = 3 by omega) with rfl | rfl | rfl | rfl
    · exact h.1.1.1
    · exact h.1.1.2
    · exact h.1.2
    · exact h.2
  · intro r hr
    unfold lvls
    rcases (show i = 0 ∨ i = 1 ∨ i = 2 ∨ i = 3 by omega) with rfl | rfl | rfl | rfl
    · exact List.mem_append_left _ (List.mem_append_left _ (List.mem_append_left _ hr))
    · exact List.mem_append_left _ (List.mem_append_left _ (List.mem_append_right _ hr))
    · exact List.mem_append_left _ (List.mem_append_right _ hr)
    · exact List.mem_append_right _ hr
def gturn : Ro → SR := (s_seq (s_set 3 gcomp) (s_for (i_seq (c_var 3)) (.name 5) gbody))
theorem gt_ok (latch : Bool) (i : Nat) (hi : i < 4) (a0 a4 : Option W) (x5 : Option D) (w3 : W) (h3 : frz w3 = .lst ((lvl i).map eR)) :
    ∃ (y5 : Option D) (w3' : W), frz w3' = .lst ((lvl (i + 1)).map eR) ∧ gturn [a0, some (.d (.bl latch)), some (.lst ((acc latch i).map eR)), some w3, a4, x5.map .d, none] = .nx [a0, some (.d (.bl latch)), some (.lst ((acc latch (i + 1)).map eR)), some w3', a4, y5.map .d, none] := by
  obtain ⟨ll, lr, la, lm⟩ := lv i hi latch
  have mx : maxLen = 16777216 := rfl
  have gc := gc_ok a0 (some (.d (.bl latch))) (some (.lst ((acc latch i).map eR))) (some w3) a4 (lvl i) [] (by simp; omega) lr
  obtain ⟨y5, gl⟩ := gl_ok latch a0 (some (.d (.lst ((lvl (i + 1)).map eR)))) a4 none (lvl (i + 1)) (acc latch i) x5 lm la
  simp only [List.map_nil, List.nil_append] at gc
  have e1 : ext (lvl i) = lvl (i + 1) := rfl
  rw [e1] at gc
  refine ⟨y5, .d (.lst ((lvl (i + 1)).map eR)), rfl, ?_⟩
  unfold gturn
  have f : s_set 3 gcomp [a0, some (.d (.bl latch)), some (.lst ((acc latch i).map eR)), some w3, a4, x5.map .d, none] = .nx [a0, some (.d (.bl latch)), some (.lst ((acc latch i).map eR)), some (.lst ((lvl (i + 1)).map eR)), a4, x5.map .d, none] := by
    unfold gcomp
    rw [ap_s_set, ap_c_comp2]
    cases x5 <;> simp [h3, frzSl, frz1, wipeR, restR, gc]
  rw [seq_nx f]
  rw [← show acc latch i ++ (lvl (i + 1)).filter (keep latch) = acc latch (i + 1) from rfl, ← gl]
  simp
theorem rows_ok (latch : Bool) : d_good_rows [.d (.int 4), .d (.bl latch)] = .ok (.lst ((acc latch 4).map eR)) [] := by
  obtain ⟨x5, x3, h1, e1⟩ := gt_ok latch 0 (by decide) (some (.d (.int 4))) (some (.d (.int 0))) none (.lst [.tup []]) rfl
  obtain ⟨y5, y3, h2, e2⟩ := gt_ok latch 1 (by decide) (some (.d (.int 4))) (some (.d (.int 1))) x5 x3 h1
  obtain ⟨z5, z3, h3, e3⟩ := gt_ok latch 2 (by decide) (some (.d (.int 4))) (some (.d (.int 2))) y5 y3 h2
  obtain ⟨u5, u3, h4, e4⟩ := gt_ok latch 3 (by decide) (some (.d (.int 4))) (some (.d (.int 3))) z5 z3 h3
  have lp : s_for (i_range1 (c_var 0)) (.name 4) gturn [some (.d (.int 4)), some (.d (.bl latch)), some (.lst []), some (.lst [.tup []]), none, none, none] = .nx [some (.d (.int 4)), some (.d (.bl latch)), some (.lst ((acc latch 4).map eR)), some u3, some (.d (.int 3)), u5.map .d, none] := by
    have r : i_range1 (c_var 0) [some (.d (.int 4)), some (.d (.bl latch)), some (.lst []), some (.lst [.tup []]), none, none, none] = .ok [.int 0, .int 1, .int 2, .int 3] [some (.d (.int 4)), some (.d (.bl latch)), some (.lst []), some (.lst [.tup []]), none, none, none] := rfl
    have e1' : gturn [some (.d (.int 4)), some (.d (.bl latch)), some (.lst []), some (.lst [.tup []]), some (.d (.int 0)), none, none] = _ := e1
    rw [ap_s_for, r]
    simp only [forL, tset_name, List.set_cons_zero, List.set_cons_succ, e1', e2, e3, e4]
  have run : g_good_rows [some (.d (.int 4)), some (.d (.bl latch)), none, none, none, none, none] = s_seq (s_for (i_range1 (c_var 0)) (.name 4) gturn) (s_ret (c_move 2)) [some (.d (.int 4)), some (.d (.bl latch)), some (.lst []), some (.lst [.tup []]), none, none, none] := by
    have is1 : isTys 3 (.int 4) [.ty .bl] = some false := rfl
    have is2 : isTys 3 (.int 4) [.ty .int] = some true := rfl
    have g : ∀ ρ, g_good_rows ρ = s_seq (s_if (c_or (c_truth tb0 (c_isi 3 [.ty .bl] (c_peek 0))) (c_or (c_not (c_truth tb0 (c_isi 3 [.ty .int] (c_peek 0)))) (c_not (c_chain (cmpD fun i j => decide (i ≤ j)) (cmpD fun i j => decide (i ≤ j)) (c_const (.int 0)) (c_var 0) (c_const (.int 6)))))) (s_raise 4 ["number"] (l_cons (c_const .non) l_nil)) s_nil)
      (s_seq (s_par [2, 3] (w_cons (c_lst l_nil) (w_cons (c_lst (l_cons (c_tup l_nil) l_nil)) w_nil))) (s_seq (s_for (i_range1 (c_var 0)) (.name 4) gturn) (s_ret (c_move 2)))) ρ := fun _ => rfl
    have a1 : (s_if (c_or (c_truth tb0 (c_isi 3 [.ty .bl] (c_peek 0))) (c_or (c_not (c_truth tb0 (c_isi 3 [.ty .int] (c_peek 0)))) (c_not (c_chain (cmpD fun i j => decide (i ≤ j)) (cmpD fun i j => decide (i ≤ j)) (c_const (.int 0)) (c_var 0) (c_const (.int 6)))))) (s_raise 4 ["number"] (l_cons (c_const .non) l_nil)) s_nil) [some (.d (.int 4)), some (.d (.bl latch)), none, none, none, none, none] = .nx [some (.d (.int 4)), some (.d (.bl latch)), none, none, none, none, none] := by
      simp [is1, is2]
    have a2 : (s_par [2, 3] (w_cons (c_lst l_nil) (w_cons (c_lst (l_cons (c_tup l_nil) l_nil)) w_nil))) [some (.d (.int 4)), some (.d (.bl latch)), none, none, none, none, none] = .nx [some (.d (.int 4)), some (.d (.bl latch)), some (.lst []), some (.lst [.tup []]), none, none, none] := by
      simp [maxLen]
    rw [g, seq_nx a1, seq_nx a2]
  refine den_rt (ρ := [some (.d (.int 4)), some (.d (.bl latch)), none, none, none, none, none]) rfl (ρ' := [some (.d (.int 4)), some (.d (.bl latch)), none, some u3, some (.d (.int 3)), u5.map .d, none]) ?_
  show g_good_rows _ = _
  rw [run, seq_nx lp]
  simp
theorem rows0_ok (latch : Bool) : d_good_rows [.d (.int 0), .d (.bl latch)] = .ok (.lst []) [] := by
  cases latch <;> with_unfolding_all rfl
end K40

set_option Elab.async false
set_option linter.all false
set_option maxRecDepth 100000
set_option maxHeartbeats 4000000
/-! K40y: the law, statement by statement (printed by k40y.py). -/
namespace K40
open PySem L3
def st0 : Ro → SR := (s_set 1 (c_lst (l_cons (c_var 0) (l_cons (c_const (.int 0)) l_nil))))
def st1 : Ro → SR := (s_set 2 (c_dat (c_op2 eqC (c_callM d__law_take (slots [some 1, none]) (w_cons (c_move 1) (w_cons (c_dat (c_const (.int 2))) w_nil))) (c_const (.int 0)))))
def st2 : Ro → SR := (s_set 3 (c_comp (i_range1 (c_op2 addD (c_const (.int 1)) (c_callM d__law_take (slots [some 1, none]) (w_cons (c_move 1) (w_cons (c_dat (c_const (.int 6))) w_nil))))) [10] (.name 10) c_yes (c_callM d__law_pick (slots [some 1, none]) (w_cons (c_move 1) (w_cons (c_lst (l_cons (c_const (.str "arm")) (l_cons (c_const (.str "look")) (l_cons (c_const (.str "work")) (l_cons (c_const (.str "sleep")) l_nil))))) w_nil)))))
def st3 : Ro → SR := (s_unp (.tup [(.name 4), (.name 5)]) (c_call d__law_fewest (l_cons (c_var 3) (l_cons (c_var 2) l_nil))))
def st4 : Ro → SR := (s_set 6 (c_call d_judge_row (l_cons (c_var 3) (l_cons (c_var 2) l_nil))))
def st5 : Ro → SR := (s_if (c_or (c_op2 neC (c_op1 (boolD tbl) (c_peek 6)) (c_op2 isN (c_peek 4) (c_const .non))) (c_or (c_not (c_truth tb0 (c_meth mt_shows "shows" (c_var 6) (l_cons (c_var 3) (l_cons (c_var 2) l_nil))))) (c_or (c_and (c_op2 isN (c_peek 4) (c_const .non)) (c_op2 (cmpID 3 true etbl neC) (c_peek 6) (c_make 1 d_Wakes_init (l_cons (c_var 5) l_nil)))) (c_or (c_truth tb0 (c_meth mt_shows "shows" (c_make 1 d_Wakes_init (l_cons (c_const (.int 0)) l_nil)) (l_cons (c_var 3) (l_cons (c_var 2) l_nil)))) (c_truth tb0 (c_meth mt_shows "shows" (c_make 2 d_Sleeps_init (l_cons (c_tup l_nil) l_nil)) (l_cons (c_var 3) (l_cons (c_var 2) l_nil)))))))) (s_ret (c_dat (c_const (.bl false)))) s_nil)
def st6 : Ro → SR := (s_if (c_and (c_truth tb0 (c_isi 3 [.own 2] (c_peek 6))) (c_or (c_op2 neC (c_op1 lenD (c_op1 (fldN 3 "moves") (c_peek 6))) (c_peek 4)) (c_or (c_truth tb0 (c_meth mt_shows "shows" (c_make 2 d_Sleeps_init (l_cons (c_slice (c_op1 (fldN 3 "moves") (c_peek 6)) p_none (p_some (c_op1 negD (c_const (.int 1))))) l_nil)) (l_cons (c_var 3) (l_cons (c_var 2) l_nil)))) (c_or (c_truth tb0 (c_meth mt_shows "shows" (c_make 1 d_Wakes_init (l_cons (c_var 5) l_nil)) (l_cons (c_var 3) (l_cons (c_var 2) l_nil)))) (c_truth tb0 (c_meth mt_shows "shows" (c_make 2 d_Sleeps_init (l_cons (c_tup (l_cons (c_const (.str "zz")) l_nil)) l_nil)) (l_cons (c_var 3) (l_cons (c_var 2) l_nil)))))))) (s_ret (c_dat (c_const (.bl false)))) s_nil)
def st7 : Ro → SR := (s_set 7 (c_dat (c_op2 addD (c_slice (c_comp (i_seq (c_peek 3)) [16] (.name 16) (c_op2 neC (c_peek 16) (c_const (.str "sleep"))) (c_var 16)) p_none (p_some (c_const (.int 4)))) (c_lst (l_cons (c_const (.str "sleep")) l_nil)))))
def st8 : Ro → SR := (s_if (c_and (c_op2 neC (c_op1 (boolD tbl) (c_call d_judge_row (l_cons (c_var 7) (l_cons (c_var 2) l_nil)))) (c_call d__law_is_good (l_cons (c_var 7) (l_cons (c_var 2) l_nil)))) (c_op2 inD (c_const (.str "sleep")) (c_peek 7))) (s_ret (c_dat (c_const (.bl false)))) s_nil)
def st9 : Ro → SR := (s_par [8, 9] (w_cons (c_lst (l_cons (c_tup l_nil) l_nil)) (w_cons (c_lst l_nil) w_nil)))
def st10 : Ro → SR := (s_for (i_range1 (c_const (.int 4))) (.name 10) lbody)
def st11 : Ro → SR := (s_if (c_or (c_op2 neC (c_call d_good_rows (l_cons (c_const (.int 4)) (l_cons (c_var 2) l_nil))) (c_peek 9)) (c_op2 neC (c_call d_good_rows (l_cons (c_const (.int 0)) (l_cons (c_var 2) l_nil))) (c_lst l_nil))) (s_ret (c_dat (c_const (.bl false)))) s_nil)
def st12 : Ro → SR := (s_unp (.tup [(.name 13), (.name 14)]) (c_callM d__law_pick (slots [some 1, none]) (w_cons (c_move 1) (w_cons (c_lst (l_cons (c_tup (l_cons (c_const .non) (l_cons (c_const .non) l_nil))) (l_cons (c_tup (l_cons (c_lst l_nil) (l_cons (c_const .non) l_nil))) (l_cons (c_tup (l_cons (c_mul (c_lst (l_cons (c_const (.str "arm")) l_nil)) (c_const (.int 9))) (l_cons (c_const .non) l_nil))) (l_cons (c_tup (l_cons (c_lst (l_cons (c_const (.str "arm")) (l_cons (c_const (.str "zz")) l_nil))) (l_cons (c_const (.int 1)) l_nil))) (l_cons (c_tup (l_cons (c_lst (l_cons (c_const .non) l_nil)) (l_cons (c_const (.int 0)) l_nil))) l_nil)))))) w_nil))))
def st13 : Ro → SR := (s_try sub_BadRow (s_seq (s_expr (c_call d_judge_row (l_cons (c_var 13) (l_cons (c_var 2) l_nil))))
  (s_ret (c_dat (c_const (.bl false))))) (some 15) (fun y => (s_ret (c_dat (c_op2 eqC (c_xfld xt y "number") (c_peek 14))))))
theorem g_law_eq : g_law = s_seq st0 (s_seq st1 (s_seq st2 (s_seq st3 (s_seq st4 (s_seq st5 (s_seq st6 (s_seq st7 (s_seq st8 (s_seq st9 (s_seq st10 (s_seq st11 (s_seq st12 (st13))))))))))))) := rfl
def deedAt : Nat → Deed
  | 0 => .arm
  | 1 => .look
  | 2 => .work
  | _ => .sleep
def lat (ns : List Int) : Bool := (take 2 ns 0 : Int) == 0
def cnt (ns : List Int) : Nat := 1 + take 6 ns 1
def rowOf (ns : List Int) : List Deed := picks deedAt 4 ns 2 (cnt ns)
theorem rowOf_len (ns : List Int) : 1 ≤ (rowOf ns).length ∧ (rowOf ns).length ≤ 6 := by
  have := take_lt (show 0 < 6 by decide) ns 1
  rw [rowOf, picks_len, cnt]
  omega
theorem st0_ok (ns : List Int) : st0 [some ((.d (eIs ns))), none, none, none, none, none, none, none, none, none, none, none, none, none, none, none, none] = .nx [some ((.d (eIs ns))), some (drw ns 0), none, none, none, none, none, none, none, none, none, none, none, none, none, none, none] := rfl
theorem st1_ok {ns : List Int} (hn : ns.length ≤ 63) : st1 [some ((.d (eIs ns))), some (drw ns 0), none, none, none, none, none, none, none, none, none, none, none, none, none, none, none] = .nx [some ((.d (eIs ns))), some (drw ns 1), some (.d (.bl (lat ns))), none, none, none, none, none, none, none, none, none, none, none, none, none, none] := by
  have t : d__law_take [drw ns 0, .d (.int 2)] = .ok (.d (.int (take 2 ns 0))) [drw ns 1] := take_eq hn 0 (m := 2) (by decide)
  simp [st1, t, lat]
theorem st2_ok {ns : List Int} (hn : ns.length ≤ 63) (l : W) : st2 [some ((.d (eIs ns))), some (drw ns 1), some (l), none, none, none, none, none, none, none, none, none, none, none, none, none, none] = .nx [some ((.d (eIs ns))), some (drw ns (2 + cnt ns)), some (l), some (.lst (eDs (rowOf ns))), none, none, none, none, none, none, none, none, none, none, none, none, none] := by
  have t : d__law_take [drw ns 1, .d (.int 6)] = .ok (.d (.int (take 6 ns 1))) [drw ns 2] := take_eq hn 1 (m := 6) (by decide)
  have c := compL_st (t := .name 10) (vs := [10]) (ft := c_yes) (fe := (c_callM d__law_pick (slots [some 1, none]) (w_cons (c_move 1) (w_cons (c_lst (l_cons (c_const (.str "arm")) (l_cons (c_const (.str "look")) (l_cons (c_const (.str "work")) (l_cons (c_const (.str "sleep")) l_nil))))) w_nil)))) (fun k _ => (D.str (deedAt (take 4 ns k)).s, k + 1)) (fun k ρ => ρ = [some ((.d (eIs ns))), some (drw ns k), some (l), none, none, none, none, none, none, none, none, none, none, none, none, none, none]) (rngL 0 (cnt ns)) [] 2 _ rfl (by
      have := take_lt (show 0 < 6 by decide) ns 1
      have mx : maxLen = 16777216 := rfl
      rw [rngL_len, cnt]
      simp
      omega) fun d k ρ _ e => by
    subst e
    have hl := take_lt (show 0 < 4 by decide) ns k
    have p : d__law_pick [drw ns k, .lst [.str "arm", .str "look", .str "work", .str "sleep"]] = .ok (.d (.str (deedAt (take 4 ns k)).s)) [drw ns (k + 1)] := by
      refine pick_eq hn k (c := .lst [.str "arm", .str "look", .str "work", .str "sleep"]) rfl ?_
      show [D.str "arm", .str "look", .str "work", .str "sleep"][take 4 ns k]? = _
      rcases (show take 4 ns k = 0 ∨ take 4 ns k = 1 ∨ take 4 ns k = 2 ∨ take 4 ns k = 3 by omega) with h | h | h | h <;> rw [h] <;> rfl
    refine ⟨_, _, .d (.str (deedAt (take 4 ns k)).s), [some ((.d (eIs ns))), some (drw ns (k + 1)), some (l), none, none, none, none, none, none, none, some (.d d), none, none, none, none, none, none], rfl, rfl, ?_, rfl, rfl⟩
    simp [p, maxLen]
  obtain ⟨ρ', c1, c2⟩ := c
  subst c2
  rw [mapSt_picks (fun i => D.str (deedAt i).s)] at c1
  have e1 : [] ++ (picks (fun i => D.str (deedAt i).s) 4 ns 2 (rngL 0 (cnt ns)).length) = eDs (rowOf ns) := by
    rw [rngL_len, List.nil_append, eDs, rowOf, picks_map]
  have e2 : (2 + (rngL 0 (cnt ns)).length) = 2 + cnt ns := by rw [rngL_len]
  dsimp only at c1
  rw [e1, e2] at c1
  have lt := take_lt (show 0 < 6 by decide) ns 1
  have e3 : small62 (1 + (take 6 ns 1 : Int)) = true := by simp [small62]; omega
  have e4 : rngL 0 (1 + (take 6 ns 1 : Int)).toNat = rngL 0 (cnt ns) := by rw [cnt, show (1 + (take 6 ns 1 : Int)).toNat = 1 + take 6 ns 1 by omega]
  have src : (i_range1 (c_op2 addD (c_const (.int 1)) (c_callM d__law_take (slots [some 1, none]) (w_cons (c_move 1) (w_cons (c_dat (c_const (.int 6))) w_nil))))) [some ((.d (eIs ns))), some (drw ns 1), some (l), none, none, none, none, none, none, none, none, none, none, none, none, none, none] = .ok (rngL 0 (cnt ns)) [some ((.d (eIs ns))), some (drw ns 2), some (l), none, none, none, none, none, none, none, none, none, none, none, none, none, none] := by
    simp [t, e3, e4]
  simp only [slots_some, slots_none, slots_nil] at c1 src
  unfold st2
  rw [ap_s_set, ap_c_comp]
  simp only [slots_some, slots_none, slots_nil]
  rw [src]
  simp [frzSl, frz1, wipeR, restR, c1]

theorem st3_ok {row : List Deed} {latch : Bool} {b : Option (List Bool)} {n : Nat} (e : sweep row latch 200 0 [(first, [])] none = some (b, n)) (x0 x1 : W) : st3 [some (x0), some (x1), some (.d (.bl latch)), some (.lst (eDs row)), none, none, none, none, none, none, none, none, none, none, none, none, none] = .nx [some (x0), some (x1), some (.d (.bl latch)), some (.d (.lst (eDs row))), some (.d (eBest b)), some (.d (.int n)), none, none, none, none, none, none, none, none, none, none, none] := by
  have f := fewest_ok (r := .lst (eDs row)) (.inl rfl) latch e
  simp [st3, f]
theorem st4_ok {row : List Deed} {latch : Bool} (h1 : 1 ≤ row.length) (h8 : row.length ≤ 8) {res : Sum (List Bool) Nat} (e : search row latch 1000 0 [(first, [])] = some res) (x0 x1 x4 x5 : W) : st4 [some (x0), some (x1), some (.d (.bl latch)), some (.d (.lst (eDs row))), some (x4), some (x5), none, none, none, none, none, none, none, none, none, none, none] = .nx [some (x0), some (x1), some (.d (.bl latch)), some (.d (.lst (eDs row))), some (x4), some (x5), some (eRes res), none, none, none, none, none, none, none, none, none, none] := by
  have f := judge_ok (r := .lst (eDs row)) (.inl rfl) h1 h8 latch e
  simp [st4, f]
theorem get_sh1 (x : D) : getf ["standings"] [x] "shows" = none := by with_unfolding_all rfl
theorem get_sh2 (x : D) : getf ["moves"] [x] "shows" = none := by with_unfolding_all rfl
theorem get_mv (x : D) : getf ["moves"] [x] "moves" = some x := by with_unfolding_all rfl
@[simp] theorem mts1 : mt_shows 1 = some d_Wakes_shows := rfl
@[simp] theorem mts2 : mt_shows 2 = some d_Sleeps_shows := rfl
theorem wakes_init2 (n : Nat) : d_Wakes_init [.ins 1 [] [], .d (.int n)] = .ok (.d .non) [.ins 1 ["standings"] [.d (.int n)]] := wakes_init n
theorem wakes_init0 : d_Wakes_init [.ins 1 [] [], .d (.int 0)] = .ok (.d .non) [.ins 1 ["standings"] [.d (.int 0)]] := wakes_init 0
theorem sleeps_init2 (mv : List Bool) : d_Sleeps_init [.ins 2 [] [], .d (eMv mv)] = .ok (.d .non) [.ins 2 ["moves"] [.d (eMv mv)]] := sleeps_init mv
theorem sleeps_init0 : d_Sleeps_init [.ins 2 [] [], .d (.tup [])] = .ok (.d .non) [.ins 2 ["moves"] [.d (.tup [])]] := sleeps_init []
theorem sleeps_initz : d_Sleeps_init [.ins 2 [] [], .d (.tup [.str "zz"])] = .ok (.d .non) [.ins 2 ["moves"] [.d (.tup [.str "zz"])]] := by with_unfolding_all rfl
theorem st5_A {row : List Deed} {latch : Bool} (h1 : 1 ≤ row.length) (h8 : row.length ≤ 8) {n : Nat} (hn : 1 ≤ n) (e : search row latch 1000 0 [(first, [])] = some (.inr n)) (x0 x1 : W) : st5 [some (x0), some (x1), some (.d (.bl latch)), some (.d (.lst (eDs row))), some (.d (eBest none)), some (.d (.int n)), some (eRes (.inr n)), none, none, none, none, none, none, none, none, none, none] = .nx [some (x0), some (x1), some (.d (.bl latch)), some (.d (.lst (eDs row))), some (.d (eBest none)), some (.d (.int n)), some (.d (frz (eRes (.inr n)))), none, none, none, none, none, none, none, none, none, none] := by
  have w1 := wshows (r := .lst (eDs row)) (.inl rfl) h1 h8 latch e n
  have w0 := wshows (r := .lst (eDs row)) (.inl rfl) h1 h8 latch e 0
  have s0 := sshows (r := .lst (eDs row)) (.inl rfl) h1 h8 latch (mv := []) (s := first) rfl
  have c := cmp_wk true neC (.inr n) n
  have i1 : isWk (.inr n) n = true := by simp [isWk]
  have i2 : isWk (.inr n) 0 = false := by simp [isWk]; omega
  have i3 : slept first = false := rfl
  have b1 : boolD tbl (.ins 1 ["standings"] [.int n]) = some (.bl true) := rfl
  rw [i1] at w1 c
  rw [i2] at w0
  rw [i3] at s0
  have z : ((0 : Nat) : Int) = 0 := rfl
  simp only [eWk, eSl, eMv, List.map_nil, eRes, wWk, frz, frzs, z] at w1 w0 s0 c
  simp [st5, eRes, wWk, frz, frzs, b1, eBest, get_sh1, get_sh2, w1, w0, s0, wakes_init2, wakes_init0, sleeps_init0, c]
theorem Good.eqs {row : List Deed} {latch : Bool} {mv : List Bool} (g : Good row latch mv) (h1 : 1 ≤ row.length) (h8 : row.length ≤ 8) :
    d_Sleeps_shows [.d (eSl mv), .d (.lst (eDs row)), .d (.bl latch)] = .ok (.d (.bl true)) [] ∧ d_Sleeps_shows [.d (eSl mv.dropLast), .d (.lst (eDs row)), .d (.bl latch)] = .ok (.d (.bl false)) [] := by
  obtain ⟨s, h2, h3⟩ := g.ex
  obtain ⟨t, h4, h5⟩ := g.pre
  have a := sshows (r := .lst (eDs row)) (.inl rfl) h1 h8 latch h2
  have b := sshows (r := .lst (eDs row)) (.inl rfl) h1 h8 latch h4
  rw [h3] at a
  rw [h5] at b
  exact ⟨a, b⟩
theorem st5_B {row : List Deed} {latch : Bool} (h1 : 1 ≤ row.length) (h8 : row.length ≤ 8) {n : Nat} {mv : List Bool} (g : Good row latch mv) (e : search row latch 1000 0 [(first, [])] = some (.inl mv)) (x0 x1 : W) : st5 [some (x0), some (x1), some (.d (.bl latch)), some (.d (.lst (eDs row))), some (.d (eBest (some mv))), some (.d (.int n)), some (eRes (.inl mv)), none, none, none, none, none, none, none, none, none, none] = .nx [some (x0), some (x1), some (.d (.bl latch)), some (.d (.lst (eDs row))), some (.d (eBest (some mv))), some (.d (.int n)), some (.d (frz (eRes (.inl mv)))), none, none, none, none, none, none, none, none, none, none] := by
  obtain ⟨s1, _⟩ := g.eqs h1 h8
  have w0 := wshows (r := .lst (eDs row)) (.inl rfl) h1 h8 latch e 0
  have s0 := sshows (r := .lst (eDs row)) (.inl rfl) h1 h8 latch (mv := []) (s := first) rfl
  have i2 : isWk (.inl mv) 0 = false := rfl
  have i3 : slept first = false := rfl
  have b1 : boolD tbl (.ins 2 ["moves"] [eMv mv]) = some (.bl false) := rfl
  rw [i2] at w0
  rw [i3] at s0
  have z : ((0 : Nat) : Int) = 0 := rfl
  have q : eMv [] = .tup [] := rfl
  simp only [eWk, eSl, q, eRes, wWk, frz, frzs, z] at w0 s0 s1
  simp [st5, eRes, wSl, frz, frzs, b1, eBest, get_sh1, get_sh2, w0, s0, s1, wakes_init2, wakes_init0, sleeps_init0]
theorem st6_A {row : List Deed} {latch : Bool} {n : Nat} (x0 x1 x4 x5 : W) : st6 [some (x0), some (x1), some (.d (.bl latch)), some (.d (.lst (eDs row))), some (x4), some (x5), some (.d (frz (eRes (.inr n)))), none, none, none, none, none, none, none, none, none, none] = .nx [some (x0), some (x1), some (.d (.bl latch)), some (.d (.lst (eDs row))), some (x4), some (x5), some (.d (frz (eRes (.inr n)))), none, none, none, none, none, none, none, none, none, none] := by
  have i : isTys 3 (frz (eRes (.inr n))) [.own 2] = some false := rfl
  simp [st6, i]
theorem st6_B {row : List Deed} {latch : Bool} (h1 : 1 ≤ row.length) (h8 : row.length ≤ 8) {n : Nat} {mv : List Bool} (g : Good row latch mv) (e : search row latch 1000 0 [(first, [])] = some (.inl mv)) (x0 x1 : W) : st6 [some (x0), some (x1), some (.d (.bl latch)), some (.d (.lst (eDs row))), some (.d (eBest (some mv))), some (.d (.int n)), some (.d (frz (eRes (.inl mv)))), none, none, none, none, none, none, none, none, none, none] = .nx [some (x0), some (x1), some (.d (.bl latch)), some (.d (.lst (eDs row))), some (.d (eBest (some mv))), some (.d (.int n)), some (.d (frz (eRes (.inl mv)))), none, none, none, none, none, none, none, none, none, none] := by
  obtain ⟨_, s1⟩ := g.eqs h1 h8
  have wn := wshows (r := .lst (eDs row)) (.inl rfl) h1 h8 latch e n
  have sz := zshows (r := .lst (eDs row)) (.inl rfl) h1 h8 latch
  have i2 : isWk (.inl mv) n = false := rfl
  rw [i2] at wn
  have i : isTys 3 (.ins 2 ["moves"] [eMv mv]) [.own 2] = some true := rfl
  have sl : sliceD (eMv mv) none (some (-1)) = some (eMv mv.dropLast) := by
    rcases List.eq_nil_or_concat mv with z | ⟨q, m, z⟩
    · exact absurd z g.ne
    · subst z
      have : eMv (q.concat m) = .tup ((q.map fun b => D.str (mvS b)) ++ [.str (mvS m)]) := by simp [eMv]
      rw [this]
      show some (D.tup (cutD _ _ _)) = _
      rw [cut_last]
      simp [eMv]
  have ln : lenD (eMv mv) = some (.int mv.length) := by simp [eMv]
  have q2 : ∀ l, eMv l = .tup (l.map fun b => D.str (mvS b)) := fun _ => rfl
  simp only [eWk, eSl, eRes, wWk, frz, frzs] at wn s1
  have e0 : frz (eRes (.inl mv)) = .ins 2 ["moves"] [eMv mv] := rfl
  rw [e0]
  have si := sleeps_init2 mv.dropLast
  obtain ⟨tt, hq⟩ : ∃ tt, eMv mv.dropLast = .tup tt := ⟨_, rfl⟩
  rw [hq] at sl si s1
  simp [st6, i, get_mv, ln, eBest, sl, si, get_sh1, get_sh2, wn, s1, sz, sleeps_initz, wakes_init2, maxLen, frz, frzs]
def plainM (row : List Deed) : List Deed := (row.filter (fun d => !decide (d = .sleep))).take 4
theorem filt : ∀ (r A : List Deed), A.length + r.length ≤ 1000 → ∀ a0 a1 a2 a3 a4 a5 a6 : Option W, compL [16] (.name 16) (c_op2 neC (c_peek 16) (c_const (.str "sleep"))) (c_var 16) (eDs r) (eDs A) [a0, a1, a2, a3, a4, a5, a6, none, none, none, none, none, none, none, none, none, none] = some (eDs (A ++ r.filter (fun d => !decide (d = .sleep))), [a0, a1, a2, a3, a4, a5, a6, none, none, none, none, none, none, none, none, none, none])
  | [], A, _, a0, a1, a2, a3, a4, a5, a6 => by simp [compL, eDs]
  | d :: r, A, hl, a0, a1, a2, a3, a4, a5, a6 => by
    rw [List.length_cons] at hl
    have mx : maxLen = 16777216 := rfl
    have q : (eDs A).length < maxLen := by simp [eDs]; omega
    show compL _ _ _ _ (D.str d.s :: eDs r) _ _ = _
    unfold compL
    simp only [tset_name, List.set_cons_zero, List.set_cons_succ, ap_c_op2, ap_c_peek, ap_c_const, List.getElem?_cons_zero, List.getElem?_cons_succ, ap_bind_ok, frz_d, neC_str, beq_ss]
    by_cases c : d = .sleep
    · have ih := filt r A (by omega) a0 a1 a2 a3 a4 a5 a6
      simp only [decide_eq_true c, Bool.not_true, wipeR, List.set_cons_zero, List.set_cons_succ]
      rw [ih]
      simp [c]
    · have ih := filt r (A ++ [d]) (by simp; omega) a0 a1 a2 a3 a4 a5 a6
      have e : eDs (A ++ [d]) = eDs A ++ [.str d.s] := by simp [eDs]
      rw [e] at ih
      simp only [decide_eq_false c, Bool.not_false, ap_c_var, List.getElem?_cons_zero, List.getElem?_cons_succ, wipeR, List.set_cons_zero, List.set_cons_succ, frz_d, if_pos q]
      rw [ih]
      simp [c]
theorem st7_ok {row : List Deed} (h8 : row.length ≤ 8) {latch : Bool} (x0 x1 x4 x5 x6 : W) : st7 [some (x0), some (x1), some (.d (.bl latch)), some (.d (.lst (eDs row))), some (x4), some (x5), some (x6), none, none, none, none, none, none, none, none, none, none] = .nx [some (x0), some (x1), some (.d (.bl latch)), some (.d (.lst (eDs row))), some (x4), some (x5), some (x6), some (.d (.lst (eDs (plainM row ++ [.sleep])))), none, none, none, none, none, none, none, none, none] := by
  have f := fun a0 a1 a2 a3 a4 a5 a6 => filt row [] (by simp; omega) a0 a1 a2 a3 a4 a5 a6
  have e0 : eDs [] = [] := rfl
  rw [e0, List.nil_append] at f
  have cu : sliceD (.lst (eDs (row.filter (fun d => !decide (d = .sleep))))) none (some 4) = some (.lst (eDs (plainM row))) := by
    show some (D.lst (cutD _ _ _)) = _
    have : cutD (eDs (row.filter (fun d => !decide (d = .sleep)))) none (some 4) = eDs (plainM row) := by
      unfold cutD plainM eDs
      rw [show (some (4 : Int)) = some ((4 : Nat) : Int) from rfl, HT.sIx_nat, HT.sIx_none, List.map_take]
      simp
    rw [this]
  have l1 : (eDs (plainM row)).length + 1 ≤ maxLen := by
    have : (plainM row).length ≤ 4 := by unfold plainM; simp; omega
    have mx : maxLen = 16777216 := rfl
    simp [eDs]; omega
  have l2 : (plainM row).length + 1 ≤ maxLen := by simpa [eDs] using l1
  unfold st7
  simp [frzSl, frz1, wipeR, restR, f, cu, addD_lst, maxLen]
  have mx : maxLen = 16777216 := rfl
  rw [mx] at l1 l2
  have l3 : (plainM row).length ≤ 16777215 := by omega
  simp [l1, l2, l3, eDs, Deed.s]
def plN : Nat → List (List Deed)
  | 0 => pl0
  | n + 1 => exP (plN n)
theorem plain_mem (row : List Deed) : plainM row ∈ pls := by
  have key : ∀ (n : Nat) (l : List Deed), l.length = n → (∀ d ∈ l, d ≠ .sleep) → l ∈ plN n := by
    intro n
    induction n with
    | zero => intro l h _; rw [List.length_eq_zero_iff.mp h]; exact List.mem_cons_self
    | succ n ih =>
      intro l h hs
      rcases List.eq_nil_or_concat l with rfl | ⟨q, d, rfl⟩
      · cases h
      · simp only [List.concat_eq_append, List.length_append, List.length_cons, List.length_nil] at h hs ⊢
        have h1 := ih q (by omega) fun x hx => hs x (List.mem_append_left _ hx)
        have h2 := hs d (by simp)
        show _ ∈ exP (plN n)
        refine List.mem_flatMap.mpr ⟨q, h1, ?_⟩
        cases d <;> simp at h2 ⊢
  have h1 : (plainM row).length ≤ 4 := by unfold plainM; simp; omega
  have h2 : ∀ d ∈ plainM row, d ≠ .sleep := fun d hd => by
    have := List.mem_of_mem_take hd
    simpa using (List.mem_filter.mp this).2
  have k := key _ _ rfl h2
  unfold pls
  rcases (show (plainM row).length = 0 ∨ (plainM row).length = 1 ∨ (plainM row).length = 2 ∨ (plainM row).length = 3 ∨ (plainM row).length = 4 by omega) with h | h | h | h | h <;> rw [h] at k
  · exact List.mem_append_left _ (List.mem_append_left _ (List.mem_append_left _ (List.mem_append_left _ k)))
  · exact List.mem_append_left _ (List.mem_append_left _ (List.mem_append_left _ (List.mem_append_right _ k)))
  · exact List.mem_append_left _ (List.mem_append_left _ (List.mem_append_right _ k))
  · exact List.mem_append_left _ (List.mem_append_right _ k)
  · exact List.mem_append_right _ k
theorem st8_ok (row : List Deed) {latch : Bool} (x0 x1 x4 x5 x6 : W) : st8 [some (x0), some (x1), some (.d (.bl latch)), some (.d (.lst (eDs row))), some (x4), some (x5), some (x6), some (.d (.lst (eDs (plainM row ++ [.sleep])))), none, none, none, none, none, none, none, none, none] = .nx [some (x0), some (x1), some (.d (.bl latch)), some (.d (.lst (eDs row))), some (x4), some (x5), some (x6), some (.d (.lst (eDs (plainM row ++ [.sleep])))), none, none, none, none, none, none, none, none, none] := by
  have h1 : (plainM row).length ≤ 4 := by unfold plainM; simp; omega
  obtain ⟨res, e, w⟩ := wakes_some (plainM row) latch (by omega)
  have j := judge_ok (row := plainM row ++ [.sleep]) (r := .lst (eDs (plainM row ++ [.sleep]))) (.inl rfl) (by simp) (by simp; omega) latch e
  have g := List.all_eq_true.mp (List.all_eq_true.mp good_all (plainM row) (plain_mem row)) latch (by cases latch <;> simp)
  rw [Bool.and_eq_true] at g
  have g := goodIs_eq g.1
  have b : boolD tbl (frz (eRes res)) = some (.bl (wakes (plainM row) latch)) := by
    cases res with
    | inl mv =>
      show (tbl 2).map D.bl = _
      rw [show tbl 2 = _ from w]
      rfl
    | inr n =>
      show (tbl 1).map D.bl = _
      rw [show tbl 1 = _ from w]
      rfl
  simp [st8, j, b, g]
theorem st9_ok {row : List Deed} {latch : Bool} (x0 x1 x4 x5 x6 : W) : st9 [some (x0), some (x1), some (.d (.bl latch)), some (.d (.lst (eDs row))), some (x4), some (x5), some (x6), some (.d (.lst (eDs (plainM row ++ [.sleep])))), none, none, none, none, none, none, none, none, none] = .nx [some (x0), some (x1), some (.d (.bl latch)), some (.d (.lst (eDs row))), some (x4), some (x5), some (x6), some (.d (.lst (eDs (plainM row ++ [.sleep])))), some (.lst [.tup []]), some (.lst []), none, none, none, none, none, none, none] := by
  simp [st9, maxLen]
theorem rows_eq (L : List (List Deed)) : neC (.lst (L.map eR)) (.lst (L.map eR)) = some (.bl false) := by
  refine neC_self ?_ ?_
  · exact plains_map eR L fun r _ => plain_Ds r
  · have : deps (L.map eR) ≤ 1 := deps_map eR 1 L fun r _ => by
      show deps (eDs r) + 1 ≤ 1
      have := dep_Ds r
      omega
    show deps (L.map eR) + 1 ≤ 60
    omega
theorem acc_plain (latch : Bool) (w : W) (h : frz w = .lst ((acc latch 4).map eR)) : neC (.lst ((acc latch 4).map eR)) (frz w) = some (.bl false) := by
  rw [h, rows_eq]
theorem st11_ok {row : List Deed} {latch : Bool} (x0 x1 x4 x5 x6 x8 x9 : W) (x10 x11 x12 : Option W) (h : frz x9 = .lst ((acc latch 4).map eR)) : st11 [some (x0), some (x1), some (.d (.bl latch)), some (.d (.lst (eDs row))), some (x4), some (x5), some (x6), some (.d (.lst (eDs (plainM row ++ [.sleep])))), some (x8), some (x9), x10, x11, x12, none, none, none, none] = .nx [some (x0), some (x1), some (.d (.bl latch)), some (.d (.lst (eDs row))), some (x4), some (x5), some (x6), some (.d (.lst (eDs (plainM row ++ [.sleep])))), some (x8), some (x9), x10, x11, x12, none, none, none, none] := by
  have n1 := acc_plain latch x9 h
  have n0 : neC (.lst []) (.lst []) = some (.bl false) := rfl
  simp [st11, rows_ok, rows0_ok, n1, n0, maxLen]
def bads : List (D × D) := [(.non, .non), (.lst [], .non), (.lst [.str "arm", .str "arm", .str "arm", .str "arm", .str "arm", .str "arm", .str "arm", .str "arm", .str "arm"], .non), (.lst [.str "arm", .str "zz"], .int 1), (.lst [.non], .int 0)]
def bad5 : List D := bads.map fun p => .tup [p.1, p.2]
theorem bad_ok (latch : Bool) : ∀ p ∈ bads, d_judge_row [.d p.1, .d (.bl latch)] = .ex ⟨4, ["number"], [p.2]⟩ [] := by
  intro p hp
  simp only [bads, List.mem_cons, List.not_mem_nil, or_false] at hp
  rcases hp with rfl | rfl | rfl | rfl | rfl
  · cases latch <;> with_unfolding_all rfl
  · cases latch <;> with_unfolding_all rfl
  · cases latch <;> with_unfolding_all rfl
  · cases latch <;> with_unfolding_all rfl
  · cases latch <;> with_unfolding_all rfl
theorem bad_eq (p : D × D) (hp : p ∈ bads) : eqC p.2 p.2 = some (.bl true) := by
  simp only [bads, List.mem_cons, List.not_mem_nil, or_false] at hp
  rcases hp with rfl | rfl | rfl | rfl | rfl <;> rfl
theorem st12_ok {ns : List Int} (hn : ns.length ≤ 63) (k : Nat) {row : List Deed} {latch : Bool} (x0 x4 x5 x6 x8 x9 : W) (x10 x11 x12 : Option W) : ∃ p, p ∈ bads ∧ st12 [some (x0), some (drw ns k), some (.d (.bl latch)), some (.d (.lst (eDs row))), some (x4), some (x5), some (x6), some (.d (.lst (eDs (plainM row ++ [.sleep])))), some (x8), some (x9), x10, x11, x12, none, none, none, none] = .nx [some (x0), some (drw ns (k + 1)), some (.d (.bl latch)), some (.d (.lst (eDs row))), some (x4), some (x5), some (x6), some (.d (.lst (eDs (plainM row ++ [.sleep])))), some (x8), some (x9), x10, x11, x12, some (.d p.1), some (.d p.2), none, none] := by
  have lt := take_lt (show 0 < 5 by decide) ns k
  have hl : bad5.length = 5 := rfl
  have hp : bads[take 5 ns k]? = some (bads[take 5 ns k]'lt) := List.getElem?_eq_getElem lt
  refine ⟨bads[take 5 ns k]'lt, List.getElem_mem _, ?_⟩
  generalize hq : bads[take 5 ns k]'lt = q at *
  have pk : d__law_pick [drw ns k, .lst bad5] = .ok (.d (.tup [q.1, q.2])) [drw ns (k + 1)] := by
    refine pick_eq hn k (c := .lst bad5) rfl ?_
    rw [hl, bad5, List.getElem?_map, hp]
    rfl
  unfold bad5 bads at pk
  have ml : mulW (.lst [.str "arm"]) (.int 9) = some (.lst [.str "arm", .str "arm", .str "arm", .str "arm", .str "arm", .str "arm", .str "arm", .str "arm", .str "arm"]) := rfl
  simp only [List.map_cons, List.map_nil] at pk
  simp [st12, maxLen, ml, pk]
theorem st13_ok {row : List Deed} {latch : Bool} (p : D × D) (hp : p ∈ bads) (x0 x1 x4 x5 x6 x8 x9 : W) (x10 x11 x12 : Option W) : ∃ ρ, st13 [some (x0), some (x1), some (.d (.bl latch)), some (.d (.lst (eDs row))), some (x4), some (x5), some (x6), some (.d (.lst (eDs (plainM row ++ [.sleep])))), some (x8), some (x9), x10, x11, x12, some (.d p.1), some (.d p.2), none, none] = .rt (.d (.bl true)) ρ := by
  have j := bad_ok latch p hp
  have e := bad_eq p hp
  have s : sub_BadRow 4 = some true := rfl
  have xx : xt 4 = true := rfl
  have g : getf ["number"] [p.2] "number" = some p.2 := by with_unfolding_all rfl
  simp [st13, j, s, xx, g, e, s_off]
theorem law_true (ns : List Int) (hn : ns.length ≤ 63) : d_law [.d (.lst (ns.map .int))] = .ok (.d (.bl true)) [] := by
  obtain ⟨h1, h6⟩ := rowOf_len ns
  have h8 : (rowOf ns).length ≤ 8 := by omega
  have fin : ∃ ρ, g_law [some ((.d (eIs ns))), none, none, none, none, none, none, none, none, none, none, none, none, none, none, none, none] = .rt (.d (.bl true)) ρ := by
    rw [g_law_eq, seq_nx (st0_ok ns), seq_nx (st1_ok hn), seq_nx (st2_ok hn _)]
    have tail : ∀ x4 x5 x6 : W, ∃ ρ, s_seq st7 (s_seq st8 (s_seq st9 (s_seq st10 (s_seq st11 (s_seq st12 st13))))) [some (.d (eIs ns)), some (drw ns (2 + cnt ns)), some (.d (.bl (lat ns))), some (.d (.lst (eDs (rowOf ns)))), some (x4), some (x5), some (x6), none, none, none, none, none, none, none, none, none, none] = .rt (.d (.bl true)) ρ := by
      intro x4 x5 x6
      rw [seq_nx (st7_ok h8 _ _ x4 x5 x6), seq_nx (st8_ok (rowOf ns) _ _ x4 x5 x6), seq_nx (st9_ok _ _ x4 x5 x6)]
      obtain ⟨w8, w9, b10, b11, b12, h9, e10⟩ := due_ok (lat ns) (some (.d (eIs ns))) (some (drw ns (2 + cnt ns))) (some (.d (.lst (eDs (rowOf ns))))) (some x4) (some x5) (some x6) (some (.d (.lst (eDs (plainM (rowOf ns) ++ [.sleep]))))) none none none none none none (.lst [.tup []]) (.lst []) rfl rfl
      have e10' : st10 _ = _ := e10
      rw [seq_nx e10', seq_nx (st11_ok _ _ x4 x5 x6 w8 w9 b10 b11 b12 h9)]
      obtain ⟨p, hp, e12⟩ := st12_ok hn (2 + cnt ns) (row := rowOf ns) (latch := lat ns) (.d (eIs ns)) x4 x5 x6 w8 w9 b10 b11 b12
      rw [seq_nx e12]
      exact st13_ok p hp _ _ x4 x5 x6 w8 w9 b10 b11 b12
    rcases agree (rowOf ns) (lat ns) h6 with ⟨n, e1, e2, hn1⟩ | ⟨mv, n, e1, e2, g⟩
    · rw [seq_nx (st3_ok e2 _ _), seq_nx (st4_ok h1 h8 e1 _ _ _ _), seq_nx (st5_A h1 h8 hn1 e1 _ _), seq_nx (st6_A _ _ _ _)]
      exact tail _ _ _
    · rw [seq_nx (st3_ok e2 _ _), seq_nx (st4_ok h1 h8 e1 _ _ _ _), seq_nx (st5_B h1 h8 g e1 _ _), seq_nx (st6_B h1 h8 g e1 _ _)]
      exact tail _ _ _
  obtain ⟨ρ, fin⟩ := fin
  exact den_rt rfl fin
end K40

set_option Elab.async false
set_option linter.all false
set_option maxRecDepth 100000
set_option maxHeartbeats 4000000
/-! K40: each def computes its denotation (printed by gen.py). -/
namespace K40
open PySem L2 L3
/-! ### the text by places -/
def top (i : Nat) : Stmt := PySem.Challenge.pw_plugbooks_k40_dozing.main.body.getD i (.Pass ⟨0, 0, 0, 0⟩)
abbrev s__law_number : Stmt := top 16
abbrev N__law_number : List Str := ["script", "index", "cell", "turn", "rest", "step", "blend"]
theorem sc__law_number : FnScope N__law_number ["script", "index"] (defScope s__law_number) := ⟨rfl, rfl, rfl, by decide +kernel, rfl, by decide +kernel, by decide +kernel⟩
abbrev s__law_take : Stmt := top 17
abbrev N__law_take : List Str := ["draw", "many"]
theorem sc__law_take : FnScope N__law_take ["draw", "many"] (defScope s__law_take) := ⟨rfl, rfl, rfl, by decide +kernel, rfl, by decide +kernel, by decide +kernel⟩
abbrev s__law_pick : Stmt := top 18
abbrev N__law_pick : List Str := ["draw", "items"]
theorem sc__law_pick : FnScope N__law_pick ["draw", "items"] (defScope s__law_pick) := ⟨rfl, rfl, rfl, by decide +kernel, rfl, by decide +kernel, by decide +kernel⟩
abbrev s__law_signal : Stmt := top 19
abbrev N__law_signal : List Str := ["standing", "at", "armed", "noted", "work"]
theorem sc__law_signal : FnScope N__law_signal ["standing"] (defScope s__law_signal) := ⟨rfl, rfl, rfl, by decide +kernel, rfl, by decide +kernel, by decide +kernel⟩
abbrev s__law_deed : Stmt := top 20
abbrev N__law_deed : List Str := ["row", "latch", "standing", "at", "armed", "noted", "work", "deed"]
theorem sc__law_deed : FnScope N__law_deed ["row", "latch", "standing"] (defScope s__law_deed) := ⟨rfl, rfl, rfl, by decide +kernel, rfl, by decide +kernel, by decide +kernel⟩
abbrev s__law_fewest : Stmt := top 21
abbrev N__law_fewest : List Str := ["row", "latch", "line", "met", "best", "turn", "standing", "moves", "late"]
theorem sc__law_fewest : FnScope N__law_fewest ["row", "latch"] (defScope s__law_fewest) := ⟨rfl, rfl, rfl, by decide +kernel, rfl, by decide +kernel, by decide +kernel⟩
abbrev s_check_row : Stmt := top 6
abbrev N_check_row : List Str := ["row", "number", "deed"]
theorem sc_check_row : FnScope N_check_row ["row"] (defScope s_check_row) := ⟨rfl, rfl, rfl, by decide +kernel, rfl, by decide +kernel, by decide +kernel⟩
abbrev s_Standing_init : Stmt := inClass (top 7) 0
abbrev N_Standing_init : List Str := ["self", "at", "armed", "noted", "work"]
theorem sc_Standing_init : FnScope N_Standing_init ["self", "at", "armed", "noted", "work"] (defScope s_Standing_init) := ⟨rfl, rfl, rfl, by decide +kernel, rfl, by decide +kernel, by decide +kernel⟩
abbrev s_first_standing : Stmt := top 8
abbrev N_first_standing : List Str := []
theorem sc_first_standing : FnScope N_first_standing [] (defScope s_first_standing) := ⟨rfl, rfl, rfl, by decide +kernel, rfl, by decide +kernel, by decide +kernel⟩
abbrev s_Standing_key : Stmt := inClass (top 7) 2
abbrev N_Standing_key : List Str := ["self"]
theorem sc_Standing_key : FnScope N_Standing_key ["self"] (defScope s_Standing_key) := ⟨rfl, rfl, rfl, by decide +kernel, rfl, by decide +kernel, by decide +kernel⟩
abbrev s_Sleeps_init : Stmt := inClass (top 12) 0
abbrev N_Sleeps_init : List Str := ["self", "moves"]
theorem sc_Sleeps_init : FnScope N_Sleeps_init ["self", "moves"] (defScope s_Sleeps_init) := ⟨rfl, rfl, rfl, by decide +kernel, rfl, by decide +kernel, by decide +kernel⟩
abbrev s_signalled : Stmt := top 9
abbrev N_signalled : List Str := ["standing"]
theorem sc_signalled : FnScope N_signalled ["standing"] (defScope s_signalled) := ⟨rfl, rfl, rfl, by decide +kernel, rfl, by decide +kernel, by decide +kernel⟩
abbrev s_done : Stmt := top 10
abbrev N_done : List Str := ["row", "latch", "standing", "deed"]
theorem sc_done : FnScope N_done ["row", "latch", "standing"] (defScope s_done) := ⟨rfl, rfl, rfl, by decide +kernel, rfl, by decide +kernel, by decide +kernel⟩
abbrev s_Wakes_init : Stmt := inClass (top 11) 0
abbrev N_Wakes_init : List Str := ["self", "standings"]
theorem sc_Wakes_init : FnScope N_Wakes_init ["self", "standings"] (defScope s_Wakes_init) := ⟨rfl, rfl, rfl, by decide +kernel, rfl, by decide +kernel, by decide +kernel⟩
abbrev s_judge_row : Stmt := top 13
abbrev N_judge_row : List Str := ["row", "latch", "first", "line", "met", "at", "standing", "moves", "rows", "move", "late"]
theorem sc_judge_row : FnScope N_judge_row ["row", "latch"] (defScope s_judge_row) := ⟨rfl, rfl, rfl, by decide +kernel, rfl, by decide +kernel, by decide +kernel⟩
abbrev s_Standing_eq : Stmt := inClass (top 7) 1
abbrev N_Standing_eq : List Str := ["self", "other"]
theorem sc_Standing_eq : FnScope N_Standing_eq ["self", "other"] (defScope s_Standing_eq) := ⟨rfl, rfl, rfl, by decide +kernel, rfl, by decide +kernel, by decide +kernel⟩
abbrev s_Wakes_eq : Stmt := inClass (top 11) 2
abbrev N_Wakes_eq : List Str := ["self", "other"]
theorem sc_Wakes_eq : FnScope N_Wakes_eq ["self", "other"] (defScope s_Wakes_eq) := ⟨rfl, rfl, rfl, by decide +kernel, rfl, by decide +kernel, by decide +kernel⟩
abbrev s_Sleeps_eq : Stmt := inClass (top 12) 2
abbrev N_Sleeps_eq : List Str := ["self", "other"]
theorem sc_Sleeps_eq : FnScope N_Sleeps_eq ["self", "other"] (defScope s_Sleeps_eq) := ⟨rfl, rfl, rfl, by decide +kernel, rfl, by decide +kernel, by decide +kernel⟩
abbrev s_Wakes_shows : Stmt := inClass (top 11) 3
abbrev N_Wakes_shows : List Str := ["self", "row", "latch"]
theorem sc_Wakes_shows : FnScope N_Wakes_shows ["self", "row", "latch"] (defScope s_Wakes_shows) := ⟨rfl, rfl, rfl, by decide +kernel, rfl, by decide +kernel, by decide +kernel⟩
abbrev s_Sleeps_shows : Stmt := inClass (top 12) 3
abbrev N_Sleeps_shows : List Str := ["self", "row", "latch", "standing", "move"]
theorem sc_Sleeps_shows : FnScope N_Sleeps_shows ["self", "row", "latch"] (defScope s_Sleeps_shows) := ⟨rfl, rfl, rfl, by decide +kernel, rfl, by decide +kernel, by decide +kernel⟩
abbrev s_Wakes_bool : Stmt := inClass (top 11) 1
abbrev N_Wakes_bool : List Str := ["self"]
theorem sc_Wakes_bool : FnScope N_Wakes_bool ["self"] (defScope s_Wakes_bool) := ⟨rfl, rfl, rfl, by decide +kernel, rfl, by decide +kernel, by decide +kernel⟩
abbrev s_Sleeps_bool : Stmt := inClass (top 12) 1
abbrev N_Sleeps_bool : List Str := ["self"]
theorem sc_Sleeps_bool : FnScope N_Sleeps_bool ["self"] (defScope s_Sleeps_bool) := ⟨rfl, rfl, rfl, by decide +kernel, rfl, by decide +kernel, by decide +kernel⟩
abbrev s__law_is_good : Stmt := top 22
abbrev N__law_is_good : List Str := ["row", "latch", "at"]
theorem sc__law_is_good : FnScope N__law_is_good ["row", "latch"] (defScope s__law_is_good) := ⟨rfl, rfl, rfl, by decide +kernel, rfl, by decide +kernel, by decide +kernel⟩
abbrev s_good_rows : Stmt := top 14
abbrev N_good_rows : List Str := ["most", "latch", "found", "rows", "turn", "row", "deed"]
theorem sc_good_rows : FnScope N_good_rows ["most", "latch"] (defScope s_good_rows) := ⟨rfl, rfl, rfl, by decide +kernel, rfl, by decide +kernel, by decide +kernel⟩
abbrev s_law : Stmt := top 23
abbrev N_law : List Str := ["script", "draw", "latch", "row", "best", "many", "told", "plain", "rows", "due", "turn", "late", "one", "bad", "place", "fault", "deed"]
theorem sc_law : FnScope N_law ["script"] (defScope s_law) := ⟨rfl, rfl, rfl, by decide +kernel, rfl, by decide +kernel, by decide +kernel⟩
abbrev s_BadRow_init : Stmt := inClass (top 5) 0
abbrev N_BadRow_init : List Str := ["self", "number"]
theorem sc_BadRow_init : FnScope N_BadRow_init ["self", "number"] (defScope s_BadRow_init) := ⟨rfl, rfl, rfl, by decide +kernel, rfl, by decide +kernel, by decide +kernel⟩
structure Txt (P : Program) (w : World) (K : PySem.W.Frag) (mg : Str → Option Value) (cl fa : Nat → Addr) : Prop where
  F__law_number : ∃ fd, Fun K "_law_number" "_law_number" s__law_number (fa 0) fd
  g__law_number : mg "_law_number" = some (.ref (fa 0))
  F__law_take : ∃ fd, Fun K "_law_take" "_law_take" s__law_take (fa 1) fd
  g__law_take : mg "_law_take" = some (.ref (fa 1))
  F__law_pick : ∃ fd, Fun K "_law_pick" "_law_pick" s__law_pick (fa 2) fd
  g__law_pick : mg "_law_pick" = some (.ref (fa 2))
  F__law_signal : ∃ fd, Fun K "_law_signal" "_law_signal" s__law_signal (fa 3) fd
  g__law_signal : mg "_law_signal" = some (.ref (fa 3))
  F__law_deed : ∃ fd, Fun K "_law_deed" "_law_deed" s__law_deed (fa 4) fd
  g__law_deed : mg "_law_deed" = some (.ref (fa 4))
  F__law_fewest : ∃ fd, Fun K "_law_fewest" "_law_fewest" s__law_fewest (fa 5) fd
  g__law_fewest : mg "_law_fewest" = some (.ref (fa 5))
  F_check_row : ∃ fd, Fun K "check_row" "check_row" s_check_row (fa 6) fd
  g_check_row : mg "check_row" = some (.ref (fa 6))
  F_Standing_init : ∃ fd, Fun K "__init__" "Standing.__init__" s_Standing_init (fa 7) fd
  F_first_standing : ∃ fd, Fun K "first_standing" "first_standing" s_first_standing (fa 8) fd
  g_first_standing : mg "first_standing" = some (.ref (fa 8))
  F_Standing_key : ∃ fd, Fun K "key" "Standing.key" s_Standing_key (fa 9) fd
  F_Sleeps_init : ∃ fd, Fun K "__init__" "Sleeps.__init__" s_Sleeps_init (fa 10) fd
  F_signalled : ∃ fd, Fun K "signalled" "signalled" s_signalled (fa 11) fd
  g_signalled : mg "signalled" = some (.ref (fa 11))
  F_done : ∃ fd, Fun K "done" "done" s_done (fa 12) fd
  g_done : mg "done" = some (.ref (fa 12))
  F_Wakes_init : ∃ fd, Fun K "__init__" "Wakes.__init__" s_Wakes_init (fa 13) fd
  F_judge_row : ∃ fd, Fun K "judge_row" "judge_row" s_judge_row (fa 14) fd
  g_judge_row : mg "judge_row" = some (.ref (fa 14))
  F_Standing_eq : ∃ fd, Fun K "__eq__" "Standing.__eq__" s_Standing_eq (fa 15) fd
  F_Wakes_eq : ∃ fd, Fun K "__eq__" "Wakes.__eq__" s_Wakes_eq (fa 16) fd
  F_Sleeps_eq : ∃ fd, Fun K "__eq__" "Sleeps.__eq__" s_Sleeps_eq (fa 17) fd
  F_Wakes_shows : ∃ fd, Fun K "shows" "Wakes.shows" s_Wakes_shows (fa 18) fd
  F_Sleeps_shows : ∃ fd, Fun K "shows" "Sleeps.shows" s_Sleeps_shows (fa 19) fd
  F_Wakes_bool : ∃ fd, Fun K "__bool__" "Wakes.__bool__" s_Wakes_bool (fa 20) fd
  F_Sleeps_bool : ∃ fd, Fun K "__bool__" "Sleeps.__bool__" s_Sleeps_bool (fa 21) fd
  F__law_is_good : ∃ fd, Fun K "_law_is_good" "_law_is_good" s__law_is_good (fa 22) fd
  g__law_is_good : mg "_law_is_good" = some (.ref (fa 22))
  F_good_rows : ∃ fd, Fun K "good_rows" "good_rows" s_good_rows (fa 23) fd
  g_good_rows : mg "good_rows" = some (.ref (fa 23))
  F_law : ∃ fd, Fun K "law" "law" s_law (fa 24) fd
  g_law : mg "law" = some (.ref (fa 24))
  g_Standing : mg "Standing" = some (.ref (cl 0))
  g_Wakes : mg "Wakes" = some (.ref (cl 1))
  g_Sleeps : mg "Sleeps" = some (.ref (cl 2))
  g_BadRow : mg "BadRow" = some (.ref (cl 4))
  b_any : mg "any" = none
  b_bool : mg "bool" = none
  b_enumerate : mg "enumerate" = none
  b_int : mg "int" = none
  b_isinstance : mg "isinstance" = none
  b_len : mg "len" = none
  b_list : mg "list" = none
  b_range : mg "range" = none
  b_str : mg "str" = none
  b_tuple : mg "tuple" = none
  c_DEEDS : ∃ u v, mg "DEEDS" = some u ∧ RelV v u ∧ ∀ G, RepD P w K cl G k_DEEDS v
  c_MOST_DEEDS : ∃ u v, mg "MOST_DEEDS" = some u ∧ RelV v u ∧ ∀ G, RepD P w K cl G k_MOST_DEEDS v
  mk_Standing : Mk K (cl 0) (fa 7)
  cls_Standing : Cls K (cl 0)
  mk_Wakes : Mk K (cl 1) (fa 13)
  cls_Wakes : Cls K (cl 1)
  mk_Sleeps : Mk K (cl 2) (fa 10)
  cls_Sleeps : Cls K (cl 2)
  mt_Standing_key : Meth K (cl 0) "key" (fa 9)
  mt_Wakes_shows : Meth K (cl 1) "shows" (fa 18)
  mt_Sleeps_shows : Meth K (cl 2) "shows" (fa 19)
  ko : KindOk K cl 3
  f_armed : ∀ C, C < 3 → Cls K (cl C) ∧ NoAttr K (cl C) "armed"
  f_at : ∀ C, C < 3 → Cls K (cl C) ∧ NoAttr K (cl C) "at"
  f_moves : ∀ C, C < 3 → Cls K (cl C) ∧ NoAttr K (cl C) "moves"
  f_noted : ∀ C, C < 3 → Cls K (cl C) ∧ NoAttr K (cl C) "noted"
  f_standings : ∀ C, C < 3 → Cls K (cl C) ∧ NoAttr K (cl C) "standings"
  f_work : ∀ C, C < 3 → Cls K (cl C) ∧ NoAttr K (cl C) "work"
  x_number : XfOk K cl xt "number"
  qa_Standing : PySem.W.findIn K (.ref (cl 0)) "__eq__" = some (some (.ref (fa 15)))
  qb_Standing : PySem.W.isFn K (.ref (fa 15)) = true
  qn_Standing : PySem.W.findIn K (.ref (cl 0)) "__ne__" = some (some (.builtin "object.__ne__"))
  qm_Standing : PySem.W.mroIn K (cl 0) (.type "object") = some true
  q1_Standing : ∀ T, T ∈ ["NoneType", "bool", "int", "str", "tuple", "list", "dict"] → PySem.W.notFirst K (cl 0) (.type T) = true
  q2_Standing : ∀ C', C' < 3 → PySem.W.notFirst K (cl 0) (.ref (cl C')) = true
  qa_Wakes : PySem.W.findIn K (.ref (cl 1)) "__eq__" = some (some (.ref (fa 16)))
  qb_Wakes : PySem.W.isFn K (.ref (fa 16)) = true
  qn_Wakes : PySem.W.findIn K (.ref (cl 1)) "__ne__" = some (some (.builtin "object.__ne__"))
  qm_Wakes : PySem.W.mroIn K (cl 1) (.type "object") = some true
  q1_Wakes : ∀ T, T ∈ ["NoneType", "bool", "int", "str", "tuple", "list", "dict"] → PySem.W.notFirst K (cl 1) (.type T) = true
  q2_Wakes : ∀ C', C' < 3 → PySem.W.notFirst K (cl 1) (.ref (cl C')) = true
  qa_Sleeps : PySem.W.findIn K (.ref (cl 2)) "__eq__" = some (some (.ref (fa 17)))
  qb_Sleeps : PySem.W.isFn K (.ref (fa 17)) = true
  qn_Sleeps : PySem.W.findIn K (.ref (cl 2)) "__ne__" = some (some (.builtin "object.__ne__"))
  qm_Sleeps : PySem.W.mroIn K (cl 2) (.type "object") = some true
  q1_Sleeps : ∀ T, T ∈ ["NoneType", "bool", "int", "str", "tuple", "list", "dict"] → PySem.W.notFirst K (cl 2) (.type T) = true
  q2_Sleeps : ∀ C', C' < 3 → PySem.W.notFirst K (cl 2) (.ref (cl C')) = true
  ba_Wakes : PySem.W.findIn K (.ref (cl 1)) "__bool__" = some (some (.ref (fa 20)))
  bb_Wakes : PySem.W.isFn K (.ref (fa 20)) = true
  ba_Sleeps : PySem.W.findIn K (.ref (cl 2)) "__bool__" = some (some (.ref (fa 21)))
  bb_Sleeps : PySem.W.isFn K (.ref (fa 21)) = true
  F_BadRow_init : ∃ fd, Fun K "__init__" "BadRow.__init__" s_BadRow_init (fa 25) fd
  xi_BadRow : PySem.W.findIn K (.ref (cl 4)) "__init__" = some (some (.ref (fa 25)))
  xt_BadRow : PySem.W.typeIn K (.ref (fa 25)) = some (.type "function")
  xo_BadRow : OexC K (cl 4)
  xn_BadRow_number : PySem.W.findIn K (.ref (cl 4)) "number" = some none
  e_BadRow : ExmOk K cl (.ref (cl 4)) sub_BadRow
section
variable {P : Program} {w : World} {K : PySem.W.Frag} {mg : Str → Option Value} {base : Heap} {cl fa : Nat → Addr}
theorem okX_BadRow (T : Txt P w K mg cl fa) : OkX P w K mg base cl 1 4 ["number"] := by
  obtain ⟨fd, F⟩ := T.F_BadRow_init
  exact ⟨⟨_, fd, ["self", "number"], T.xi_BadRow, T.xt_BadRow, okX1 (k := 0) F sc_BadRow_init rfl rfl T.xo_BadRow T.xn_BadRow_number (fun _ _ _ _ _ _ => pv 0) (fun _ _ _ _ _ _ => pv 1) (fun _ _ _ _ _ _ => rfl), F.binds (ps := ["self", "number"]) fun _ _ _ _ _ _ us hl => match us, hl with | [_, _], _ => rfl⟩, T.xo_BadRow⟩
theorem ok__law_number (T : Txt P w K mg cl fa) : OkF P w K mg base cl 2 [] 2 d__law_number (fa 0) := by
  obtain ⟨fd, F⟩ := T.F__law_number
  refine ⟨⟨fd, ["script", "index"], ?_, F.binds (ps := ["script", "index"]) fun _ _ _ _ _ _ us hl => match us, hl with | [_, _], _ => rfl⟩, F.kp⟩
  exact okD F sc__law_number rfl (by decide) (fun cdv A outer s H E hr => (dss_cons (ds_unp (db_if (dt_cmp (o_ne hr.units) (db_peek 0 (pv 0)) (DE.b (de_lst dl_nil)) (by first | exact .inl rfl | exact .inr rfl)) (db_tup (dl_cons (db_sub hr.units (db_peek 0 (pv 0)) (db_bin o_mod (db_peek 1 (pv 1)) (db_callB b_len (db_peek 0 (pv 0)) (hm := T.b_len)) (by first | exact .inl rfl | exact .inr rfl)) (by first | exact .inl rfl | exact .inr rfl)) (dl_cons (db_bin o_fdiv (db_peek 1 (pv 1)) (db_callB b_len (db_peek 0 (pv 0)) (hm := T.b_len)) (by first | exact .inl rfl | exact .inr rfl)) dl_nil))) (db_tup (dl_cons db_int (dl_cons db_int dl_nil)))) (dg_tup rfl (dgs_cons (dg_name (i := 2) sc__law_number.nd rfl (by first | exact .inl rfl | exact .inr rfl)) (dgs_cons (dg_name (i := 3) sc__law_number.nd rfl (by first | exact .inl rfl | exact .inr rfl)) dgs_nil))))
  (dss_cons (ds_set (i := 4) sc__law_number.nd rfl (by first | exact .inl rfl | exact .inr rfl) (DB.e (db_if (dt_cmp o_lt (db_peek 3 (pv 3)) db_int (by first | exact .inl rfl | exact .inr rfl)) (db_bin o_sub (db_peek 2 (pv 2)) (db_bin o_pow db_int db_int (by first | exact .inl rfl | exact .inr rfl)) (by first | exact .inl rfl | exact .inr rfl)) db_int)))
  (dss_cons (ds_for (passes_of rfl) rfl (di_range1 (k := true) T.b_range (db_bin o_mod (db_callT b_int (db_peek 3 (pv 3)) (hm := T.b_int)) db_int (by first | exact .inl rfl | exact .inr rfl))) (dg_name (i := 5) sc__law_number.nd rfl (by first | exact .inl rfl | exact .inr rfl)) (dss_one (ds_set (i := 4) sc__law_number.nd rfl (by first | exact .inl rfl | exact .inr rfl) (DB.e (db_bin o_fdiv (db_peek 4 (pv 4)) db_int (by first | exact .inl rfl | exact .inr rfl))))))
  (dss_cons (ds_if (dt_cmp o_gt (db_peek 4 (pv 4)) db_int (by first | exact .inl rfl | exact .inr rfl)) (dss_one (ds_ret (DB.e (db_bin o_mod (db_callT b_int (db_peek 4 (pv 4)) (hm := T.b_int)) db_int (by first | exact .inl rfl | exact .inr rfl))))) dss_nil)
  (dss_cons (ds_set (i := 6) sc__law_number.nd rfl (by first | exact .inl rfl | exact .inr rfl) (DB.e (db_bin o_mod (db_bin o_add (db_mul (DB.e (db_callT b_int (db_bin o_add (db_var 2 (pv 2)) (db_mul (DB.e db_int) (db_var 1 (pv 1))) (by first | exact .inl rfl | exact .inr rfl)) (hm := T.b_int))) db_int) (db_mul (DB.e db_int) (db_callB b_len (db_peek 0 (pv 0)) (hm := T.b_len))) (by first | exact .inl rfl | exact .inr rfl)) db_int (by first | exact .inl rfl | exact .inr rfl))))
  (dss_cons (ds_set (i := 6) sc__law_number.nd rfl (by first | exact .inl rfl | exact .inr rfl) (DB.e (db_bin o_mod (db_bin o_add (db_mul (DB.e (db_var 6 (pv 6))) (db_var 6 (pv 6))) (db_mul (DB.e db_int) (db_var 1 (pv 1))) (by first | exact .inl rfl | exact .inr rfl)) db_int (by first | exact .inl rfl | exact .inr rfl))))
  (dss_one (ds_ret (DB.e (db_callT b_int (db_bin o_mod (db_bin o_add (db_mul (DB.e (db_var 6 (pv 6))) db_int) (db_bin o_fdiv (db_peek 6 (pv 6)) db_int (by first | exact .inl rfl | exact .inr rfl)) (by first | exact .inl rfl | exact .inr rfl)) db_int (by first | exact .inl rfl | exact .inr rfl)) (hm := T.b_int))))))))))))
theorem ok__law_take (T : Txt P w K mg cl fa) : OkF P w K mg base cl 3 [0] 2 d__law_take (fa 1) := by
  obtain ⟨fd, F⟩ := T.F__law_take
  refine ⟨⟨fd, ["draw", "many"], ?_, F.binds (ps := ["draw", "many"]) fun _ _ _ _ _ _ us hl => match us, hl with | [_, _], _ => rfl⟩, F.kp⟩
  exact okD F sc__law_take rfl (by decide) (fun cdv A outer s H E hr => (dss_cons (ds_augsub 1 (pv 0) ip_add db_int)
  (dss_one (ds_ret (DB.e (db_bin o_mod (db_callT b_int (DE.b (de_call (kk := 2) (ok__law_number T) (hr.mono (by decide)) (takes_of rfl rfl rfl rfl) (dl_cons (db_sub hr.units (db_peek 0 (pv 0)) db_int (by first | exact .inl rfl | exact .inr rfl)) (dl_cons (db_callT b_int (db_sub hr.units (db_peek 0 (pv 0)) db_int (by first | exact .inl rfl | exact .inr rfl)) (hm := T.b_int)) dl_nil)) (llen_cons (llen_cons llen_nil)) (hm := T.g__law_number))) (hm := T.b_int)) (db_peek 1 (pv 1)) (by first | exact .inl rfl | exact .inr rfl)))))))
theorem ok__law_pick (T : Txt P w K mg cl fa) : OkF P w K mg base cl 4 [0] 2 d__law_pick (fa 2) := by
  obtain ⟨fd, F⟩ := T.F__law_pick
  refine ⟨⟨fd, ["draw", "items"], ?_, F.binds (ps := ["draw", "items"]) fun _ _ _ _ _ _ us hl => match us, hl with | [_, _], _ => rfl⟩, F.kp⟩
  exact okD F sc__law_pick rfl (by decide) (fun cdv A outer s H E hr => (dss_one (ds_ret (DB.e (db_sub hr.units (db_var 1 (pv 1)) (DE.b (de_callM (kk := 3) (mv := [some 0, none]) (ok__law_take T) (hr.mono (by decide)) (takes_of rfl rfl rfl rfl) (da_cons (dem_move 0 (pv 0)) (da_cons (DE.m (DB.e (db_callB b_len (db_peek 1 (pv 1)) (hm := T.b_len)))) da_nil)) (hm := T.g__law_take))) (by first | exact .inl rfl | exact .inr rfl))))))
theorem ok__law_signal (T : Txt P w K mg cl fa) : OkF P w K mg base cl 2 [] 1 d__law_signal (fa 3) := by
  obtain ⟨fd, F⟩ := T.F__law_signal
  refine ⟨⟨fd, ["standing"], ?_, F.binds (ps := ["standing"]) fun _ _ _ _ _ _ us hl => match us, hl with | [_], _ => rfl⟩, F.kp⟩
  exact okD F sc__law_signal rfl (by decide) (fun cdv A outer s H E hr => (dss_cons (ds_unp (db_var 0 (pv 0)) (dg_tup rfl (dgs_cons (dg_name (i := 1) sc__law_signal.nd rfl (by first | exact .inl rfl | exact .inr rfl)) (dgs_cons (dg_name (i := 2) sc__law_signal.nd rfl (by first | exact .inl rfl | exact .inr rfl)) (dgs_cons (dg_name (i := 3) sc__law_signal.nd rfl (by first | exact .inl rfl | exact .inr rfl)) (dgs_cons (dg_name (i := 4) sc__law_signal.nd rfl (by first | exact .inl rfl | exact .inr rfl)) dgs_nil))))))
  (dss_one (ds_ret (DB.e (db_if (DW.t (dw_and (dt_cmp (o_eq hr.units) (db_peek 1 (pv 1)) (db_neg db_int) (by first | exact .inl rfl | exact .inr rfl)) (dw_and1 (dt_truth tr0 (db_peek 2 (pv 2)))))) (db_tup (dl_cons db_int (dl_cons db_bl (dl_cons db_bl (dl_cons db_bl dl_nil))))) (db_tup (dl_cons (db_var 1 (pv 1)) (dl_cons (db_var 2 (pv 2)) (dl_cons (db_var 2 (pv 2)) (dl_cons db_bl dl_nil)))))))))))
theorem ok__law_deed (T : Txt P w K mg cl fa) : OkF P w K mg base cl 2 [] 3 d__law_deed (fa 4) := by
  obtain ⟨fd, F⟩ := T.F__law_deed
  refine ⟨⟨fd, ["row", "latch", "standing"], ?_, F.binds (ps := ["row", "latch", "standing"]) fun _ _ _ _ _ _ us hl => match us, hl with | [_, _, _], _ => rfl⟩, F.kp⟩
  exact okD F sc__law_deed rfl (by decide) (fun cdv A outer s H E hr => (dss_cons (ds_unp (db_var 2 (pv 2)) (dg_tup rfl (dgs_cons (dg_name (i := 3) sc__law_deed.nd rfl (by first | exact .inl rfl | exact .inr rfl)) (dgs_cons (dg_name (i := 4) sc__law_deed.nd rfl (by first | exact .inl rfl | exact .inr rfl)) (dgs_cons (dg_name (i := 5) sc__law_deed.nd rfl (by first | exact .inl rfl | exact .inr rfl)) (dgs_cons (dg_name (i := 6) sc__law_deed.nd rfl (by first | exact .inl rfl | exact .inr rfl)) dgs_nil))))))
  (dss_cons (ds_if (dt_cmp (o_eq hr.units) (db_peek 3 (pv 3)) (db_neg db_int) (by first | exact .inl rfl | exact .inr rfl)) (dss_one (ds_ret (DB.e db_non))) dss_nil)
  (dss_cons (ds_if (dt_cmp (o_eq hr.units) (db_peek 3 (pv 3)) (db_callB b_len (db_peek 0 (pv 0)) (hm := T.b_len)) (by first | exact .inl rfl | exact .inr rfl)) (dss_one (ds_ret (DB.e (db_tup (dl_cons db_int (dl_cons db_bl (dl_cons db_bl (dl_cons db_bl dl_nil)))))))) dss_nil)
  (dss_cons (ds_set (i := 7) sc__law_deed.nd rfl (by first | exact .inl rfl | exact .inr rfl) (DB.e (db_sub hr.units (db_peek 0 (pv 0)) (db_peek 3 (pv 3)) (by first | exact .inl rfl | exact .inr rfl))))
  (dss_cons (ds_if (dt_cmp (o_eq hr.units) (db_peek 7 (pv 7)) db_str (by first | exact .inl rfl | exact .inr rfl)) (dss_one (ds_ret (DB.e (db_tup (dl_cons (db_bin o_add (db_peek 3 (pv 3)) db_int (by first | exact .inl rfl | exact .inr rfl)) (dl_cons db_bl (dl_cons (db_var 5 (pv 5)) (dl_cons (db_var 6 (pv 6)) dl_nil)))))))) dss_nil)
  (dss_cons (ds_if (DW.t (dw_or (DW.t (dw_and (dt_cmp (o_eq hr.units) (db_peek 7 (pv 7)) db_str (by first | exact .inl rfl | exact .inr rfl)) (dw_and1 (dt_truth tr0 (db_peek 5 (pv 5)))))) (dw_or (DW.t (dw_and (dt_cmp (o_eq hr.units) (db_peek 7 (pv 7)) db_str (by first | exact .inl rfl | exact .inr rfl)) (dw_and1 (dt_truth tr0 (db_peek 6 (pv 6)))))) (dw_or1 (DW.t (dw_and (dt_cmp (o_eq hr.units) (db_peek 7 (pv 7)) db_str (by first | exact .inl rfl | exact .inr rfl)) (dw_and (dt_truth tr0 (db_peek 5 (pv 5))) (dw_and1 (dt_truth tr0 (db_peek 1 (pv 1))))))))))) (dss_one (ds_ret (DB.e (db_tup (dl_cons db_int (dl_cons db_bl (dl_cons db_bl (dl_cons db_bl dl_nil)))))))) dss_nil)
  (dss_one (ds_ret (DB.e (db_if (dt_cmp (o_eq hr.units) (db_peek 7 (pv 7)) db_str (by first | exact .inl rfl | exact .inr rfl)) (db_tup (dl_cons (db_neg db_int) (dl_cons (db_var 4 (pv 4)) (dl_cons (db_var 5 (pv 5)) (dl_cons (db_var 6 (pv 6)) dl_nil))))) (db_tup (dl_cons (db_bin o_add (db_peek 3 (pv 3)) db_int (by first | exact .inl rfl | exact .inr rfl)) (dl_cons (db_var 4 (pv 4)) (dl_cons (db_var 5 (pv 5)) (dl_cons (db_var 6 (pv 6)) dl_nil))))))))))))))))
theorem ok__law_fewest (T : Txt P w K mg cl fa) : OkF P w K mg base cl 3 [] 2 d__law_fewest (fa 5) := by
  obtain ⟨fd, F⟩ := T.F__law_fewest
  refine ⟨⟨fd, ["row", "latch"], ?_, F.binds (ps := ["row", "latch"]) fun _ _ _ _ _ _ us hl => match us, hl with | [_, _], _ => rfl⟩, F.kp⟩
  exact okD F sc__law_fewest rfl (by decide) (fun cdv A outer s H E hr => (dss_cons (ds_par3 (i := 2) (j := 3) (l := 4) rfl sc__law_fewest.nd rfl rfl rfl (by decide) (by decide) (by decide) rfl rfl rfl (dlw_cons (de_lst (dl_cons (db_tup (dl_cons (db_tup (dl_cons db_int (dl_cons db_bl (dl_cons db_bl (dl_cons db_bl dl_nil))))) (dl_cons db_int dl_nil))) dl_nil)) (dlw_cons (de_lst (dl_cons (db_tup (dl_cons db_int (dl_cons db_bl (dl_cons db_bl (dl_cons db_bl dl_nil))))) dl_nil)) (dlw_cons (DB.e db_non) dlw_nil))) rfl)
  (dss_cons (ds_for (passes_of rfl) rfl (di_range1 (k := true) T.b_range db_int) (dg_name (i := 5) sc__law_fewest.nd rfl (by first | exact .inl rfl | exact .inr rfl)) (dss_cons (ds_if (dt_cmp (o_eq hr.units) (db_peek 5 (pv 5)) (db_callB b_len (db_peek 2 (pv 2)) (hm := T.b_len)) (by first | exact .inl rfl | exact .inr rfl)) (dss_one ds_break) dss_nil)
  (dss_cons (ds_unp (db_sub hr.units (db_peek 2 (pv 2)) (db_peek 5 (pv 5)) (by first | exact .inl rfl | exact .inr rfl)) (dg_tup rfl (dgs_cons (dg_name (i := 6) sc__law_fewest.nd rfl (by first | exact .inl rfl | exact .inr rfl)) (dgs_cons (dg_name (i := 7) sc__law_fewest.nd rfl (by first | exact .inl rfl | exact .inr rfl)) dgs_nil))))
  (dss_cons (ds_if (DW.t (dw_and (dt_cmp (o_eq hr.units) (db_sub hr.units (db_peek 6 (pv 6)) db_int (by first | exact .inl rfl | exact .inr rfl)) (db_neg db_int) (by first | exact .inl rfl | exact .inr rfl)) (dw_and (dt_truth tr0 (db_sub hr.units (db_peek 6 (pv 6)) db_int (by first | exact .inl rfl | exact .inr rfl))) (dw_and1 (dt_cmp o_isN (db_peek 4 (pv 4)) db_non (by first | exact .inl rfl | exact .inr rfl)))))) (dss_one (ds_set (i := 4) sc__law_fewest.nd rfl (by first | exact .inl rfl | exact .inr rfl) (DB.e (db_var 7 (pv 7))))) dss_nil)
  (dss_one (ds_for (passes_of rfl) rfl (di_seq (db_tup (dl_cons (DE.b (de_call (kk := 2) (ok__law_deed T) (hr.mono (by decide)) (takes_of rfl rfl rfl rfl) (dl_cons (db_var 0 (pv 0)) (dl_cons (db_var 1 (pv 1)) (dl_cons (db_var 6 (pv 6)) dl_nil))) (llen_cons (llen_cons (llen_cons llen_nil))) (hm := T.g__law_deed))) (dl_cons (DE.b (de_call (kk := 2) (ok__law_signal T) (hr.mono (by decide)) (takes_of rfl rfl rfl rfl) (dl_cons (db_var 6 (pv 6)) dl_nil) (llen_cons llen_nil) (hm := T.g__law_signal))) dl_nil)))) (dg_name (i := 8) sc__law_fewest.nd rfl (by first | exact .inl rfl | exact .inr rfl)) (dss_one (ds_if (DW.t (dw_and (dt_cmp o_notN (db_peek 8 (pv 8)) db_non (by first | exact .inl rfl | exact .inr rfl)) (dw_and1 (dt_cmp (o_notin hr.units) (db_peek 8 (pv 8)) (db_peek 3 (pv 3)) (by first | exact .inl rfl | exact .inr rfl))))) (dss_cons (ds_app 3 (pv 3) (db_var 8 (pv 8)))
  (dss_one (ds_app 2 (pv 2) (db_tup (dl_cons (db_var 8 (pv 8)) (dl_cons (db_bin o_add (db_peek 7 (pv 7)) db_int (by first | exact .inl rfl | exact .inr rfl)) dl_nil)))))) dss_nil))))))))
  (dss_one (ds_ret (DB.e (db_tup (dl_cons (db_var 4 (pv 4)) (dl_cons (db_callB b_len (db_peek 2 (pv 2)) (hm := T.b_len)) dl_nil)))))))))
theorem ok_check_row (T : Txt P w K mg cl fa) : OkF P w K mg base cl 3 [] 1 d_check_row (fa 6) := by
  obtain ⟨fd, F⟩ := T.F_check_row
  refine ⟨⟨fd, ["row"], ?_, F.binds (ps := ["row"]) fun _ _ _ _ _ _ us hl => match us, hl with | [_], _ => rfl⟩, F.kp⟩
  exact okD F sc_check_row rfl (by decide) (fun cdv A outer s H E hr => (dss_cons (ds_if (DW.t (dw_or (dt_not (dt_truth tr0 (db_isiT (ts := [.ty .lst, .ty .tup]) T.ko (.cons (cle_ty (hm := T.b_list)) rfl (.cons (cle_ty (hm := T.b_tuple)) rfl .nil)) (db_peek 0 (pv 0)) (hm := T.b_isinstance)))) (dw_or1 (dt_not (dt_chain o_le o_le db_int (db_callB b_len (db_peek 0 (pv 0)) (hm := T.b_len)) (db_globE rfl T.c_MOST_DEEDS)))))) (dss_one (ds_raise (kk := 1) rfl (okX_BadRow T) (hr.mono (by decide)) (takes_of rfl rfl rfl rfl) (dl_cons db_non dl_nil) (hm := T.g_BadRow))) dss_nil)
  (dss_one (ds_for (passes_of rfl) rfl (di_enum T.b_enumerate (db_var 0 (pv 0))) (dg_tup rfl (dgs_cons (dg_name (i := 1) sc_check_row.nd rfl (by first | exact .inl rfl | exact .inr rfl)) (dgs_cons (dg_name (i := 2) sc_check_row.nd rfl (by first | exact .inl rfl | exact .inr rfl)) dgs_nil))) (dss_one (ds_if (DW.t (dw_or (dt_not (dt_truth tr0 (db_isi (t := .ty .str) T.ko (cle_ty (hm := T.b_str)) (db_peek 2 (pv 2)) (hm := T.b_isinstance)))) (dw_or1 (dt_cmp (o_notin hr.units) (db_peek 2 (pv 2)) (db_globE rfl T.c_DEEDS) (by first | exact .inl rfl | exact .inr rfl))))) (dss_one (ds_raise (kk := 1) rfl (okX_BadRow T) (hr.mono (by decide)) (takes_of rfl rfl rfl rfl) (dl_cons (db_var 1 (pv 1)) dl_nil) (hm := T.g_BadRow))) dss_nil))))))
theorem ok_Standing_init (T : Txt P w K mg cl fa) : OkC P w K mg base cl 2 5 d_Standing_init 0 := by
  obtain ⟨fd, F⟩ := T.F_Standing_init
  refine ⟨⟨_, fd, ["self", "at", "armed", "noted", "work"], T.mk_Standing, ?_, F.binds (ps := ["self", "at", "armed", "noted", "work"]) fun _ _ _ _ _ _ us hl => match us, hl with | [_, _, _, _, _], _ => rfl⟩⟩
  exact okD F sc_Standing_init rfl (by decide) (fun cdv A outer s H E hr => (dss_cons (ds_fld 0 (by exact T.f_at) (pv 0) (DB.e (db_var 1 (pv 1))))
  (dss_cons (ds_fld 0 (by exact T.f_armed) (pv 0) (DB.e (db_var 2 (pv 2))))
  (dss_cons (ds_fld 0 (by exact T.f_noted) (pv 0) (DB.e (db_var 3 (pv 3))))
  (dss_one (ds_fld 0 (by exact T.f_work) (pv 0) (DB.e (db_var 4 (pv 4)))))))))
theorem ok_first_standing (T : Txt P w K mg cl fa) : OkF P w K mg base cl 4 [] 0 d_first_standing (fa 8) := by
  obtain ⟨fd, F⟩ := T.F_first_standing
  refine ⟨⟨fd, [], ?_, F.binds (ps := []) fun _ _ _ _ _ _ us hl => match us, hl with | [], _ => rfl⟩, F.kp⟩
  exact okD F sc_first_standing rfl (by decide) (fun cdv A outer s H E hr => (dss_one (ds_ret (de_make (kk := 2) (ok_Standing_init T) (hr.mono (by decide)) (takes_of rfl rfl rfl rfl) (dl_cons db_int (dl_cons db_bl (dl_cons db_bl (dl_cons db_bl dl_nil)))) (llen_cons (llen_cons (llen_cons (llen_cons llen_nil)))) (hm := T.g_Standing)))))
theorem ok_Standing_key (T : Txt P w K mg cl fa) : OkF P w K mg base cl 2 [] 1 d_Standing_key (fa 9) := by
  obtain ⟨fd, F⟩ := T.F_Standing_key
  refine ⟨⟨fd, ["self"], ?_, F.binds (ps := ["self"]) fun _ _ _ _ _ _ us hl => match us, hl with | [_], _ => rfl⟩, F.kp⟩
  exact okD F sc_Standing_key rfl (by decide) (fun cdv A outer s H E hr => (dss_one (ds_ret (DB.e (db_tup (dl_cons (db_if (dt_cmp o_isN (db_fld (n := 3) (by exact T.f_at) (db_peek 0 (pv 0))) db_non (by first | exact .inl rfl | exact .inr rfl)) (db_neg db_int) (db_fld (n := 3) (by exact T.f_at) (db_var 0 (pv 0)))) (dl_cons (db_fld (n := 3) (by exact T.f_armed) (db_var 0 (pv 0))) (dl_cons (db_fld (n := 3) (by exact T.f_noted) (db_var 0 (pv 0))) (dl_cons (db_fld (n := 3) (by exact T.f_work) (db_var 0 (pv 0))) dl_nil)))))))))
theorem okM_key (T : Txt P w K mg cl fa) : MtOk P w K mg base cl 2 [] 1 "key" mt_key :=
  fun C M e => match C, e with | 0, e => by cases e; exact ⟨_, T.cls_Standing, T.mt_Standing_key, ok_Standing_key T⟩  | n + 1, e => nomatch (show none = some M from e)
theorem ok_Sleeps_init (T : Txt P w K mg cl fa) : OkC P w K mg base cl 2 2 d_Sleeps_init 2 := by
  obtain ⟨fd, F⟩ := T.F_Sleeps_init
  refine ⟨⟨_, fd, ["self", "moves"], T.mk_Sleeps, ?_, F.binds (ps := ["self", "moves"]) fun _ _ _ _ _ _ us hl => match us, hl with | [_, _], _ => rfl⟩⟩
  exact okD F sc_Sleeps_init rfl (by decide) (fun cdv A outer s H E hr => (dss_one (ds_fld 0 (by exact T.f_moves) (pv 0) (DB.e (db_callT b_tup (db_peek 1 (pv 1)) (hm := T.b_tuple))))))
theorem ok_signalled (T : Txt P w K mg cl fa) : OkF P w K mg base cl 5 [] 1 d_signalled (fa 11) := by
  obtain ⟨fd, F⟩ := T.F_signalled
  refine ⟨⟨fd, ["standing"], ?_, F.binds (ps := ["standing"]) fun _ _ _ _ _ _ us hl => match us, hl with | [_], _ => rfl⟩, F.kp⟩
  exact okD F sc_signalled rfl (by decide) (fun cdv A outer s H E hr => (dss_cons (ds_if (DW.t (dw_and (dt_cmp o_isN (db_fld (n := 3) (by exact T.f_at) (db_peek 0 (pv 0))) db_non (by first | exact .inl rfl | exact .inr rfl)) (dw_and1 (dt_truth tr0 (db_fld (n := 3) (by exact T.f_armed) (db_peek 0 (pv 0))))))) (dss_one (ds_ret (de_call0 (kk := 4) (ok_first_standing T) (hr.mono (by decide)) (takes_of rfl rfl rfl rfl) (hm := T.g_first_standing)))) dss_nil)
  (dss_one (ds_ret (de_make (kk := 2) (ok_Standing_init T) (hr.mono (by decide)) (takes_of rfl rfl rfl rfl) (dl_cons (db_fld (n := 3) (by exact T.f_at) (db_var 0 (pv 0))) (dl_cons (db_fld (n := 3) (by exact T.f_armed) (db_var 0 (pv 0))) (dl_cons (db_fld (n := 3) (by exact T.f_armed) (db_var 0 (pv 0))) (dl_cons db_bl dl_nil)))) (llen_cons (llen_cons (llen_cons (llen_cons llen_nil)))) (hm := T.g_Standing))))))
theorem ok_done (T : Txt P w K mg cl fa) : OkF P w K mg base cl 5 [] 3 d_done (fa 12) := by
  obtain ⟨fd, F⟩ := T.F_done
  refine ⟨⟨fd, ["row", "latch", "standing"], ?_, F.binds (ps := ["row", "latch", "standing"]) fun _ _ _ _ _ _ us hl => match us, hl with | [_, _, _], _ => rfl⟩, F.kp⟩
  exact okD F sc_done rfl (by decide) (fun cdv A outer s H E hr => (dss_cons (ds_if (dt_cmp o_isN (db_fld (n := 3) (by exact T.f_at) (db_peek 2 (pv 2))) db_non (by first | exact .inl rfl | exact .inr rfl)) (dss_one (ds_ret (DB.e db_non))) dss_nil)
  (dss_cons (ds_if (dt_cmp (o_eq hr.units) (db_fld (n := 3) (by exact T.f_at) (db_peek 2 (pv 2))) (db_callB b_len (db_peek 0 (pv 0)) (hm := T.b_len)) (by first | exact .inl rfl | exact .inr rfl)) (dss_one (ds_ret (de_call0 (kk := 4) (ok_first_standing T) (hr.mono (by decide)) (takes_of rfl rfl rfl rfl) (hm := T.g_first_standing)))) dss_nil)
  (dss_cons (ds_set (i := 3) sc_done.nd rfl (by first | exact .inl rfl | exact .inr rfl) (DB.e (db_sub hr.units (db_peek 0 (pv 0)) (db_fld (n := 3) (by exact T.f_at) (db_peek 2 (pv 2))) (by first | exact .inl rfl | exact .inr rfl))))
  (dss_cons (ds_if (dt_cmp (o_eq hr.units) (db_peek 3 (pv 3)) db_str (by first | exact .inl rfl | exact .inr rfl)) (dss_one (ds_ret (de_make (kk := 2) (ok_Standing_init T) (hr.mono (by decide)) (takes_of rfl rfl rfl rfl) (dl_cons (db_bin o_add (db_fld (n := 3) (by exact T.f_at) (db_peek 2 (pv 2))) db_int (by first | exact .inl rfl | exact .inr rfl)) (dl_cons db_bl (dl_cons (db_fld (n := 3) (by exact T.f_noted) (db_var 2 (pv 2))) (dl_cons (db_fld (n := 3) (by exact T.f_work) (db_var 2 (pv 2))) dl_nil)))) (llen_cons (llen_cons (llen_cons (llen_cons llen_nil)))) (hm := T.g_Standing)))) dss_nil)
  (dss_cons (ds_if (dt_cmp (o_eq hr.units) (db_peek 3 (pv 3)) db_str (by first | exact .inl rfl | exact .inr rfl)) (dss_one (ds_ret (de_if (dt_truth tr0 (db_fld (n := 3) (by exact T.f_noted) (db_peek 2 (pv 2)))) (de_call0 (kk := 4) (ok_first_standing T) (hr.mono (by decide)) (takes_of rfl rfl rfl rfl) (hm := T.g_first_standing)) (de_make (kk := 2) (ok_Standing_init T) (hr.mono (by decide)) (takes_of rfl rfl rfl rfl) (dl_cons (db_bin o_add (db_fld (n := 3) (by exact T.f_at) (db_peek 2 (pv 2))) db_int (by first | exact .inl rfl | exact .inr rfl)) (dl_cons (db_fld (n := 3) (by exact T.f_armed) (db_var 2 (pv 2))) (dl_cons db_bl (dl_cons (db_fld (n := 3) (by exact T.f_work) (db_var 2 (pv 2))) dl_nil)))) (llen_cons (llen_cons (llen_cons (llen_cons llen_nil)))) (hm := T.g_Standing))))) dss_nil)
  (dss_cons (ds_if (dt_cmp (o_eq hr.units) (db_peek 3 (pv 3)) db_str (by first | exact .inl rfl | exact .inr rfl)) (dss_cons (ds_if (dt_truth tr0 (db_fld (n := 3) (by exact T.f_work) (db_peek 2 (pv 2)))) (dss_one (ds_ret (de_call0 (kk := 4) (ok_first_standing T) (hr.mono (by decide)) (takes_of rfl rfl rfl rfl) (hm := T.g_first_standing)))) dss_nil)
  (dss_one (ds_ret (de_make (kk := 2) (ok_Standing_init T) (hr.mono (by decide)) (takes_of rfl rfl rfl rfl) (dl_cons (db_bin o_add (db_fld (n := 3) (by exact T.f_at) (db_peek 2 (pv 2))) db_int (by first | exact .inl rfl | exact .inr rfl)) (dl_cons (db_fld (n := 3) (by exact T.f_armed) (db_var 2 (pv 2))) (dl_cons (db_fld (n := 3) (by exact T.f_noted) (db_var 2 (pv 2))) (dl_cons db_bl dl_nil)))) (llen_cons (llen_cons (llen_cons (llen_cons llen_nil)))) (hm := T.g_Standing))))) dss_nil)
  (dss_cons (ds_if (DW.t (dw_and (dt_truth tr0 (db_fld (n := 3) (by exact T.f_noted) (db_peek 2 (pv 2)))) (dw_and1 (dt_truth tr0 (db_peek 1 (pv 1)))))) (dss_one (ds_ret (de_call0 (kk := 4) (ok_first_standing T) (hr.mono (by decide)) (takes_of rfl rfl rfl rfl) (hm := T.g_first_standing)))) dss_nil)
  (dss_one (ds_ret (de_make (kk := 2) (ok_Standing_init T) (hr.mono (by decide)) (takes_of rfl rfl rfl rfl) (dl_cons db_non (dl_cons (db_fld (n := 3) (by exact T.f_armed) (db_var 2 (pv 2))) (dl_cons (db_fld (n := 3) (by exact T.f_noted) (db_var 2 (pv 2))) (dl_cons (db_fld (n := 3) (by exact T.f_work) (db_var 2 (pv 2))) dl_nil)))) (llen_cons (llen_cons (llen_cons (llen_cons llen_nil)))) (hm := T.g_Standing))))))))))))
theorem ok_Wakes_init (T : Txt P w K mg cl fa) : OkC P w K mg base cl 2 2 d_Wakes_init 1 := by
  obtain ⟨fd, F⟩ := T.F_Wakes_init
  refine ⟨⟨_, fd, ["self", "standings"], T.mk_Wakes, ?_, F.binds (ps := ["self", "standings"]) fun _ _ _ _ _ _ us hl => match us, hl with | [_, _], _ => rfl⟩⟩
  exact okD F sc_Wakes_init rfl (by decide) (fun cdv A outer s H E hr => (dss_one (ds_fld 0 (by exact T.f_standings) (pv 0) (DB.e (db_var 1 (pv 1))))))
theorem ok_judge_row (T : Txt P w K mg cl fa) : OkF P w K mg base cl 6 [] 2 d_judge_row (fa 14) := by
  obtain ⟨fd, F⟩ := T.F_judge_row
  refine ⟨⟨fd, ["row", "latch"], ?_, F.binds (ps := ["row", "latch"]) fun _ _ _ _ _ _ us hl => match us, hl with | [_, _], _ => rfl⟩, F.kp⟩
  exact okD F sc_judge_row rfl (by decide) (fun cdv A outer s H E hr => (dss_cons (ds_expr (de_call (kk := 3) (ok_check_row T) (hr.mono (by decide)) (takes_of rfl rfl rfl rfl) (dl_cons (db_var 0 (pv 0)) dl_nil) (llen_cons llen_nil) (hm := T.g_check_row)))
  (dss_cons (ds_set (i := 2) sc_judge_row.nd rfl (by first | exact .inl rfl | exact .inr rfl) (de_call0 (kk := 4) (ok_first_standing T) (hr.mono (by decide)) (takes_of rfl rfl rfl rfl) (hm := T.g_first_standing)))
  (dss_cons (ds_par3 (i := 3) (j := 4) (l := 5) rfl sc_judge_row.nd rfl rfl rfl (by decide) (by decide) (by decide) rfl rfl rfl (dlw_cons (de_lst (dl_cons (db_tup (dl_cons (db_var 2 (pv 2)) (dl_cons (db_tup dl_nil) dl_nil))) dl_nil)) (dlw_cons (de_dic1 hr.units (DE.b (de_meth0 (kk := 2) (okM_key T) (hr.mono (by decide)) (takes_of rfl rfl rfl rfl) (db_var 2 (pv 2)))) db_bl) (dlw_cons (DB.e db_int) dlw_nil))) rfl)
  (dss_cons (ds_while 1000 (passes_of rfl) (dt_cmp o_lt (db_peek 5 (pv 5)) (db_callB b_len (db_peek 3 (pv 3)) (hm := T.b_len)) (by first | exact .inl rfl | exact .inr rfl)) (dss_cons (ds_unp (db_sub hr.units (db_peek 3 (pv 3)) (db_peek 5 (pv 5)) (by first | exact .inl rfl | exact .inr rfl)) (dg_tup rfl (dgs_cons (dg_name (i := 6) sc_judge_row.nd rfl (by first | exact .inl rfl | exact .inr rfl)) (dgs_cons (dg_name (i := 7) sc_judge_row.nd rfl (by first | exact .inl rfl | exact .inr rfl)) dgs_nil))))
  (dss_cons (ds_aug (i := 5) sc_judge_row.nd rfl (by first | exact .inl rfl | exact .inr rfl) io_add db_int)
  (dss_cons (ds_if (DW.t (dw_and (dt_cmp o_isN (db_fld (n := 3) (by exact T.f_at) (db_peek 6 (pv 6))) db_non (by first | exact .inl rfl | exact .inr rfl)) (dw_and1 (dt_truth tr0 (db_fld (n := 3) (by exact T.f_work) (db_peek 6 (pv 6))))))) (dss_one (ds_ret (de_make (kk := 2) (ok_Sleeps_init T) (hr.mono (by decide)) (takes_of rfl rfl rfl rfl) (dl_cons (db_var 7 (pv 7)) dl_nil) (llen_cons llen_nil) (hm := T.g_Sleeps)))) dss_nil)
  (dss_cons (ds_set (i := 8) sc_judge_row.nd rfl (by first | exact .inl rfl | exact .inr rfl) (de_lst (dl_cons (db_tup (dl_cons db_str (dl_cons (DE.b (de_call (kk := 5) (ok_done T) (hr.mono (by decide)) (takes_of rfl rfl rfl rfl) (dl_cons (db_var 0 (pv 0)) (dl_cons (db_var 1 (pv 1)) (dl_cons (db_var 6 (pv 6)) dl_nil))) (llen_cons (llen_cons (llen_cons llen_nil))) (hm := T.g_done))) dl_nil))) (dl_cons (db_tup (dl_cons db_str (dl_cons (DE.b (de_call (kk := 5) (ok_signalled T) (hr.mono (by decide)) (takes_of rfl rfl rfl rfl) (dl_cons (db_var 6 (pv 6)) dl_nil) (llen_cons llen_nil) (hm := T.g_signalled))) dl_nil))) dl_nil))))
  (dss_one (ds_for (passes_of rfl) rfl (di_seq (db_var 8 (pv 8))) (dg_tup rfl (dgs_cons (dg_name (i := 9) sc_judge_row.nd rfl (by first | exact .inl rfl | exact .inr rfl)) (dgs_cons (dg_name (i := 10) sc_judge_row.nd rfl (by first | exact .inl rfl | exact .inr rfl)) dgs_nil))) (dss_one (ds_if (DW.t (dw_and (dt_cmp o_notN (db_peek 10 (pv 10)) db_non (by first | exact .inl rfl | exact .inr rfl)) (dw_and1 (dt_cmp (o_notin hr.units) (DE.b (de_meth0 (kk := 2) (okM_key T) (hr.mono (by decide)) (takes_of rfl rfl rfl rfl) (db_var 10 (pv 10)))) (db_peek 4 (pv 4)) (by first | exact .inl rfl | exact .inr rfl))))) (dss_cons (ds_sub 4 hr.units (pv 4) (DE.b (de_meth0 (kk := 2) (okM_key T) (hr.mono (by decide)) (takes_of rfl rfl rfl rfl) (db_var 10 (pv 10)))) db_bl)
  (dss_one (ds_app 3 (pv 3) (db_tup (dl_cons (db_var 10 (pv 10)) (dl_cons (db_tup (dl_star (db_var 7 (pv 7)) (dl_cons (db_var 9 (pv 9)) dl_nil))) dl_nil)))))) dss_nil)))))))))
  (dss_one (ds_ret (de_make (kk := 2) (ok_Wakes_init T) (hr.mono (by decide)) (takes_of rfl rfl rfl rfl) (dl_cons (db_callB b_len (db_peek 3 (pv 3)) (hm := T.b_len)) dl_nil) (llen_cons llen_nil) (hm := T.g_Wakes)))))))))
theorem ok_Standing_eq (T : Txt P w K mg cl fa) : OkF P w K mg base cl 2 [] 2 d_Standing_eq (fa 15) := by
  obtain ⟨fd, F⟩ := T.F_Standing_eq
  refine ⟨⟨fd, ["self", "other"], ?_, F.binds (ps := ["self", "other"]) fun _ _ _ _ _ _ us hl => match us, hl with | [_, _], _ => rfl⟩, F.kp⟩
  exact okD F sc_Standing_eq rfl (by decide) (fun cdv A outer s H E hr => (dss_cons (ds_if (DW.t (dw_or (dt_not (dt_truth tr0 (db_isi (t := .own 0) T.ko (cle_own (hm := T.g_Standing)) (db_peek 1 (pv 1)) (hm := T.b_isinstance)))) (dw_or1 (dt_cmp (o_ne hr.units) (db_tup (dl_cons (db_fld (n := 3) (by exact T.f_at) (db_var 0 (pv 0))) (dl_cons (db_fld (n := 3) (by exact T.f_armed) (db_var 0 (pv 0))) dl_nil))) (db_tup (dl_cons (db_fld (n := 3) (by exact T.f_at) (db_var 1 (pv 1))) (dl_cons (db_fld (n := 3) (by exact T.f_armed) (db_var 1 (pv 1))) dl_nil))) (by first | exact .inl rfl | exact .inr rfl))))) (dss_one (ds_ret (DB.e db_bl))) dss_nil)
  (dss_one (ds_ret (DB.e (db_cmp (o_eq hr.units) (db_tup (dl_cons (db_fld (n := 3) (by exact T.f_noted) (db_var 0 (pv 0))) (dl_cons (db_fld (n := 3) (by exact T.f_work) (db_var 0 (pv 0))) dl_nil))) (db_tup (dl_cons (db_fld (n := 3) (by exact T.f_noted) (db_var 1 (pv 1))) (dl_cons (db_fld (n := 3) (by exact T.f_work) (db_var 1 (pv 1))) dl_nil))) (by first | exact .inl rfl | exact .inr rfl)))))))
theorem ok_Wakes_eq (T : Txt P w K mg cl fa) : OkF P w K mg base cl 2 [] 2 d_Wakes_eq (fa 16) := by
  obtain ⟨fd, F⟩ := T.F_Wakes_eq
  refine ⟨⟨fd, ["self", "other"], ?_, F.binds (ps := ["self", "other"]) fun _ _ _ _ _ _ us hl => match us, hl with | [_, _], _ => rfl⟩, F.kp⟩
  exact okD F sc_Wakes_eq rfl (by decide) (fun cdv A outer s H E hr => (dss_one (ds_ret (DB.e (db_and tr0 (db_isi (t := .own 1) T.ko (cle_own (hm := T.g_Wakes)) (db_peek 1 (pv 1)) (hm := T.b_isinstance)) (db_one (db_cmp (o_eq hr.units) (db_fld (n := 3) (by exact T.f_standings) (db_peek 0 (pv 0))) (db_fld (n := 3) (by exact T.f_standings) (db_peek 1 (pv 1))) (by first | exact .inl rfl | exact .inr rfl))))))))
theorem ok_Sleeps_eq (T : Txt P w K mg cl fa) : OkF P w K mg base cl 2 [] 2 d_Sleeps_eq (fa 17) := by
  obtain ⟨fd, F⟩ := T.F_Sleeps_eq
  refine ⟨⟨fd, ["self", "other"], ?_, F.binds (ps := ["self", "other"]) fun _ _ _ _ _ _ us hl => match us, hl with | [_, _], _ => rfl⟩, F.kp⟩
  exact okD F sc_Sleeps_eq rfl (by decide) (fun cdv A outer s H E hr => (dss_one (ds_ret (DB.e (db_and tr0 (db_isi (t := .own 2) T.ko (cle_own (hm := T.g_Sleeps)) (db_peek 1 (pv 1)) (hm := T.b_isinstance)) (db_one (db_cmp (o_eq hr.units) (db_fld (n := 3) (by exact T.f_moves) (db_peek 0 (pv 0))) (db_fld (n := 3) (by exact T.f_moves) (db_peek 1 (pv 1))) (by first | exact .inl rfl | exact .inr rfl))))))))
theorem okEq (T : Txt P w K mg cl fa) : EqOk P w K mg base cl 2 3 etbl :=
  ⟨T.ko, (fun C M e => match C, e with | 0, e => by cases e; exact ⟨_, ok_Standing_eq T, T.qa_Standing, T.qb_Standing⟩ | 1, e => by cases e; exact ⟨_, ok_Wakes_eq T, T.qa_Wakes, T.qb_Wakes⟩ | 2, e => by cases e; exact ⟨_, ok_Sleeps_eq T, T.qa_Sleeps, T.qb_Sleeps⟩ | n + 3, e => nomatch (show none = some M from e)),
   (fun C M e => match C, e with | 0, e => by cases e; exact T.qn_Standing | 1, e => by cases e; exact T.qn_Wakes | 2, e => by cases e; exact T.qn_Sleeps | n + 3, e => nomatch (show none = some M from e)), (fun C M e => match C, e with | 0, e => by cases e; exact T.qm_Standing | 1, e => by cases e; exact T.qm_Wakes | 2, e => by cases e; exact T.qm_Sleeps | n + 3, e => nomatch (show none = some M from e)),
   (fun C M T0 e => match C, e with | 0, e => T.q1_Standing T0 | 1, e => T.q1_Wakes T0 | 2, e => T.q1_Sleeps T0 | n + 3, e => nomatch (show none = some M from e)),
   (fun C M C' e => match C, e with | 0, e => T.q2_Standing C' | 1, e => T.q2_Wakes C' | 2, e => T.q2_Sleeps C' | n + 3, e => nomatch (show none = some M from e))⟩
theorem ok_Wakes_shows (T : Txt P w K mg cl fa) : OkF P w K mg base cl 7 [] 3 d_Wakes_shows (fa 18) := by
  obtain ⟨fd, F⟩ := T.F_Wakes_shows
  refine ⟨⟨fd, ["self", "row", "latch"], ?_, F.binds (ps := ["self", "row", "latch"]) fun _ _ _ _ _ _ us hl => match us, hl with | [_, _, _], _ => rfl⟩, F.kp⟩
  exact okD F sc_Wakes_shows rfl (by decide) (fun cdv A outer s H E hr => (dss_one (ds_ret (DB.e (db_cmp (o_eqI (kk := 2) (okEq T) (hr.mono (by decide))) (DE.b (de_call (kk := 6) (ok_judge_row T) (hr.mono (by decide)) (takes_of rfl rfl rfl rfl) (dl_cons (db_var 1 (pv 1)) (dl_cons (db_var 2 (pv 2)) dl_nil)) (llen_cons (llen_cons llen_nil)) (hm := T.g_judge_row))) (db_peek 0 (pv 0)) (by first | exact .inl rfl | exact .inr rfl))))))
theorem ok_Sleeps_shows (T : Txt P w K mg cl fa) : OkF P w K mg base cl 7 [] 3 d_Sleeps_shows (fa 19) := by
  obtain ⟨fd, F⟩ := T.F_Sleeps_shows
  refine ⟨⟨fd, ["self", "row", "latch"], ?_, F.binds (ps := ["self", "row", "latch"]) fun _ _ _ _ _ _ us hl => match us, hl with | [_, _, _], _ => rfl⟩, F.kp⟩
  exact okD F sc_Sleeps_shows rfl (by decide) (fun cdv A outer s H E hr => (dss_cons (ds_expr (de_call (kk := 3) (ok_check_row T) (hr.mono (by decide)) (takes_of rfl rfl rfl rfl) (dl_cons (db_var 1 (pv 1)) dl_nil) (llen_cons llen_nil) (hm := T.g_check_row)))
  (dss_cons (ds_set (i := 3) sc_Sleeps_shows.nd rfl (by first | exact .inl rfl | exact .inr rfl) (de_call0 (kk := 4) (ok_first_standing T) (hr.mono (by decide)) (takes_of rfl rfl rfl rfl) (hm := T.g_first_standing)))
  (dss_cons (ds_for (passes_of rfl) rfl (di_seq (db_fld (n := 3) (by exact T.f_moves) (db_var 0 (pv 0)))) (dg_name (i := 4) sc_Sleeps_shows.nd rfl (by first | exact .inl rfl | exact .inr rfl)) (dss_one (ds_if (dt_cmp (o_eq hr.units) (db_peek 4 (pv 4)) db_str (by first | exact .inl rfl | exact .inr rfl)) (dss_one (ds_set (i := 3) sc_Sleeps_shows.nd rfl (by first | exact .inl rfl | exact .inr rfl) (de_call (kk := 5) (ok_signalled T) (hr.mono (by decide)) (takes_of rfl rfl rfl rfl) (dl_cons (db_var 3 (pv 3)) dl_nil) (llen_cons llen_nil) (hm := T.g_signalled)))) (dss_one (ds_if (DW.t (dw_and (dt_cmp (o_eq hr.units) (db_peek 4 (pv 4)) db_str (by first | exact .inl rfl | exact .inr rfl)) (dw_and1 (dt_cmp o_notN (db_fld (n := 3) (by exact T.f_at) (db_peek 3 (pv 3))) db_non (by first | exact .inl rfl | exact .inr rfl))))) (dss_one (ds_set (i := 3) sc_Sleeps_shows.nd rfl (by first | exact .inl rfl | exact .inr rfl) (de_call (kk := 5) (ok_done T) (hr.mono (by decide)) (takes_of rfl rfl rfl rfl) (dl_cons (db_var 1 (pv 1)) (dl_cons (db_var 2 (pv 2)) (dl_cons (db_var 3 (pv 3)) dl_nil))) (llen_cons (llen_cons (llen_cons llen_nil))) (hm := T.g_done)))) (dss_one (ds_ret (DB.e db_bl))))))))
  (dss_one (ds_ret (DB.e (db_and tr0 (db_cmp o_isN (db_fld (n := 3) (by exact T.f_at) (db_peek 3 (pv 3))) db_non (by first | exact .inl rfl | exact .inr rfl)) (db_one (db_fld (n := 3) (by exact T.f_work) (db_var 3 (pv 3))))))))))))
theorem okM_shows (T : Txt P w K mg cl fa) : MtOk P w K mg base cl 7 [] 3 "shows" mt_shows :=
  fun C M e => match C, e with | 1, e => by cases e; exact ⟨_, T.cls_Wakes, T.mt_Wakes_shows, ok_Wakes_shows T⟩ | 2, e => by cases e; exact ⟨_, T.cls_Sleeps, T.mt_Sleeps_shows, ok_Sleeps_shows T⟩ | 0, e => nomatch (show none = some M from e) | n + 3, e => nomatch (show none = some M from e)
theorem ok_Wakes_bool (T : Txt P w K mg cl fa) : OkF P w K mg base cl 2 [] 1 d_Wakes_bool (fa 20) := by
  obtain ⟨fd, F⟩ := T.F_Wakes_bool
  refine ⟨⟨fd, ["self"], ?_, F.binds (ps := ["self"]) fun _ _ _ _ _ _ us hl => match us, hl with | [_], _ => rfl⟩, F.kp⟩
  exact okD F sc_Wakes_bool rfl (by decide) (fun cdv A outer s H E hr => (dss_one (ds_ret (DB.e db_bl))))
theorem ok_Sleeps_bool (T : Txt P w K mg cl fa) : OkF P w K mg base cl 2 [] 1 d_Sleeps_bool (fa 21) := by
  obtain ⟨fd, F⟩ := T.F_Sleeps_bool
  refine ⟨⟨fd, ["self"], ?_, F.binds (ps := ["self"]) fun _ _ _ _ _ _ us hl => match us, hl with | [_], _ => rfl⟩, F.kp⟩
  exact okD F sc_Sleeps_bool rfl (by decide) (fun cdv A outer s H E hr => (dss_one (ds_ret (DB.e db_bl))))
theorem okBool (T : Txt P w K mg cl fa) : BoolOk P w K mg base cl 2 tbl :=
  ⟨fun C b e => match C, e with | 1, e => by cases e; exact .inl ⟨_, _, ok_Wakes_bool T, T.ba_Wakes, T.bb_Wakes, fun _ _ => rfl⟩ | 2, e => by cases e; exact .inl ⟨_, _, ok_Sleeps_bool T, T.ba_Sleeps, T.bb_Sleeps, fun _ _ => rfl⟩ | 0, e => nomatch (show none = some b from e) | n + 3, e => nomatch (show none = some b from e)⟩
theorem ok__law_is_good (T : Txt P w K mg cl fa) : OkF P w K mg base cl 2 [] 2 d__law_is_good (fa 22) := by
  obtain ⟨fd, F⟩ := T.F__law_is_good
  refine ⟨⟨fd, ["row", "latch"], ?_, F.binds (ps := ["row", "latch"]) fun _ _ _ _ _ _ us hl => match us, hl with | [_, _], _ => rfl⟩, F.kp⟩
  exact okD F sc__law_is_good rfl (by decide) (fun cdv A outer s H E hr => (dss_cons (ds_if (dt_not (dt_truth tr0 (db_peek 1 (pv 1)))) (dss_one (ds_ret (DB.e db_bl))) dss_nil)
  (dss_one (ds_ret (DB.e (db_callB (b_any rfl) (DE.b (de_comp rfl sc__law_is_good.nd (own := [("at", 2)]) (vs := [2]) (n := 3) (pinc := [0, 1]) (di_range1 (k := true) T.b_range (db_callB b_len (db_peek 0 (pv 0)) (hm := T.b_len))) (blkOk_by (own := [("at", 2)]) (N := N__law_is_good) (sc := defScope s__law_is_good) (by decide +kernel)) (fun s H C cl fp => (dg_name (i := 2) sc__law_is_good.nd rfl (by first | exact .inl rfl | exact .inr rfl))) (fun s H C cl fp => dts_nil) (fun s H C cl fp => (db_and tr0 (db_cmp (o_eq hr.units) (db_sub hr.units (db_peek 0 (pv 0)) (db_peek 2 (pv 2)) (by first | exact .inl rfl | exact .inr rfl)) db_str (by first | exact .inl rfl | exact .inr rfl)) (db_one (db_cmp (o_in hr.units) db_str (DE.b (de_slice (db_peek 0 (pv 0)) (dp_some (db_bin o_add (db_peek 2 (pv 2)) db_int (by first | exact .inl rfl | exact .inr rfl))) dp_none)) (by first | exact .inl rfl | exact .inr rfl))))))) (hm := T.b_any)))))))
theorem ok_good_rows (T : Txt P w K mg cl fa) : OkF P w K mg base cl 7 [] 2 d_good_rows (fa 23) := by
  obtain ⟨fd, F⟩ := T.F_good_rows
  refine ⟨⟨fd, ["most", "latch"], ?_, F.binds (ps := ["most", "latch"]) fun _ _ _ _ _ _ us hl => match us, hl with | [_, _], _ => rfl⟩, F.kp⟩
  exact okD F sc_good_rows rfl (by decide) (fun cdv A outer s H E hr => (dss_cons (ds_if (DW.t (dw_or (dt_truth tr0 (db_isi (t := .ty .bl) T.ko (cle_ty (hm := T.b_bool)) (db_peek 0 (pv 0)) (hm := T.b_isinstance))) (dw_or (dt_not (dt_truth tr0 (db_isi (t := .ty .int) T.ko (cle_ty (hm := T.b_int)) (db_peek 0 (pv 0)) (hm := T.b_isinstance)))) (dw_or1 (dt_not (dt_chain o_le o_le db_int (db_var 0 (pv 0)) db_int)))))) (dss_one (ds_raise (kk := 1) rfl (okX_BadRow T) (hr.mono (by decide)) (takes_of rfl rfl rfl rfl) (dl_cons db_non dl_nil) (hm := T.g_BadRow))) dss_nil)
  (dss_cons (ds_par2 (i := 2) (j := 3) rfl sc_good_rows.nd rfl rfl (by decide) rfl rfl (dlw_cons (de_lst dl_nil) (dlw_cons (de_lst (dl_cons (db_tup dl_nil) dl_nil)) dlw_nil)) rfl)
  (dss_cons (ds_for (passes_of rfl) rfl (di_range1 (k := true) T.b_range (db_var 0 (pv 0))) (dg_name (i := 4) sc_good_rows.nd rfl (by first | exact .inl rfl | exact .inr rfl)) (dss_cons (ds_setLc2 (i := 3) rfl sc_good_rows.nd rfl rfl (own := [("row", 5), ("deed", 6)]) (vs := [5, 6]) (vs1 := [6]) (n := 7) (pinc := [0, 1, 2, 3, 4]) (pinc1 := [0, 1, 2, 3, 4, 5]) (di_seq (db_peek 3 (pv 3))) (blkOk_by (own := [("row", 5), ("deed", 6)]) (N := N_good_rows) (sc := defScope s_good_rows) (by decide +kernel)) (fun s H C cl fp => (dg_name (i := 5) sc_good_rows.nd rfl (by first | exact .inl rfl | exact .inr rfl))) (fun s H C cl fp => dts_nil) (fun s H C cl fp => (di_seq (db_globE rfl T.c_DEEDS))) (fun s H C cl fp => (dg_name (i := 6) sc_good_rows.nd rfl (by first | exact .inl rfl | exact .inr rfl))) (fun s H C cl fp => dts_nil) (fun s H C cl fp => (db_tup (dl_star (db_var 5 (pv 5)) (dl_cons (db_var 6 (pv 6)) dl_nil)))))
  (dss_one (ds_for (passes_of rfl) rfl (di_seq (db_var 3 (pv 3))) (dg_name (i := 5) sc_good_rows.nd rfl (by first | exact .inl rfl | exact .inr rfl)) (dss_one (ds_if (DW.t (dw_and (dt_cmp (o_eq hr.units) (db_sub hr.units (db_peek 5 (pv 5)) (db_neg db_int) (by first | exact .inl rfl | exact .inr rfl)) db_str (by first | exact .inl rfl | exact .inr rfl)) (dw_and (dt_cmp (o_notin hr.units) db_str (DE.b (de_slice (db_peek 5 (pv 5)) dp_none (dp_some (db_neg db_int)))) (by first | exact .inl rfl | exact .inr rfl)) (dw_and1 (dt_truth (trB_of (kk := 2) (okBool T) (hr.mono (by decide))) (DE.b (de_call (kk := 6) (ok_judge_row T) (hr.mono (by decide)) (takes_of rfl rfl rfl rfl) (dl_cons (db_var 5 (pv 5)) (dl_cons (db_var 1 (pv 1)) dl_nil)) (llen_cons (llen_cons llen_nil)) (hm := T.g_judge_row)))))))) (dss_one (ds_app 2 (pv 2) (db_var 5 (pv 5)))) dss_nil))))))
  (dss_one (ds_ret (de_move 2 (pv 2))))))))
theorem fn_law {fd : FuncData} (T : Txt P w K mg cl fa) (F : Fun K "law" "law" s_law (fa 24) fd) : FnOk P w K mg base (L2.CX P w) 8 (fa 24) fd ["script"] (spD P w K cl [] 1 d_law) := by
  exact okD F sc_law rfl (by decide) (fun cdv A outer s H E hr => (dss_cons (ds_set (i := 1) sc_law.nd rfl (by first | exact .inl rfl | exact .inr rfl) (de_lst (dl_cons (db_var 0 (pv 0)) (dl_cons db_int dl_nil))))
  (dss_cons (ds_set (i := 2) sc_law.nd rfl (by first | exact .inl rfl | exact .inr rfl) (DB.e (db_cmp (o_eq hr.units) (DE.b (de_callM (kk := 3) (mv := [some 1, none]) (ok__law_take T) (hr.mono (by decide)) (takes_of rfl rfl rfl rfl) (da_cons (dem_move 1 (pv 1)) (da_cons (DE.m (DB.e db_int)) da_nil)) (hm := T.g__law_take))) db_int (by first | exact .inl rfl | exact .inr rfl))))
  (dss_cons (ds_setLc (i := 3) rfl sc_law.nd rfl rfl (own := [("turn", 10)]) (vs := [10]) (n := 17) (pinc := [0, 1, 2, 3, 4, 5, 6, 7, 8, 9, 11, 12, 13, 14, 15, 16]) (di_range1 (k := true) T.b_range (db_bin o_add db_int (DE.b (de_callM (kk := 3) (mv := [some 1, none]) (ok__law_take T) (hr.mono (by decide)) (takes_of rfl rfl rfl rfl) (da_cons (dem_move 1 (pv 1)) (da_cons (DE.m (DB.e db_int)) da_nil)) (hm := T.g__law_take))) (by first | exact .inl rfl | exact .inr rfl))) (blkOk_by (own := [("turn", 10)]) (N := N_law) (sc := defScope s_law) (by decide +kernel)) (fun s H C cl fp => (dg_name (i := 10) sc_law.nd rfl (by first | exact .inl rfl | exact .inr rfl))) (fun s H C cl fp => dts_nil) (fun s H C cl fp => (DE.b (de_callM (kk := 4) (mv := [some 1, none]) (ok__law_pick T) (hr.mono (by decide)) takes0 (da_cons (dem_move 1 (pv 1)) (da_cons (DE.m (de_lst (dl_cons db_str (dl_cons db_str (dl_cons db_str (dl_cons db_str dl_nil)))))) da_nil)) (hm := T.g__law_pick)))))
  (dss_cons (ds_unp (DE.b (de_call (kk := 3) (ok__law_fewest T) (hr.mono (by decide)) (takes_of rfl rfl rfl rfl) (dl_cons (db_var 3 (pv 3)) (dl_cons (db_var 2 (pv 2)) dl_nil)) (llen_cons (llen_cons llen_nil)) (hm := T.g__law_fewest))) (dg_tup rfl (dgs_cons (dg_name (i := 4) sc_law.nd rfl (by first | exact .inl rfl | exact .inr rfl)) (dgs_cons (dg_name (i := 5) sc_law.nd rfl (by first | exact .inl rfl | exact .inr rfl)) dgs_nil))))
  (dss_cons (ds_set (i := 6) sc_law.nd rfl (by first | exact .inl rfl | exact .inr rfl) (de_call (kk := 6) (ok_judge_row T) (hr.mono (by decide)) (takes_of rfl rfl rfl rfl) (dl_cons (db_var 3 (pv 3)) (dl_cons (db_var 2 (pv 2)) dl_nil)) (llen_cons (llen_cons llen_nil)) (hm := T.g_judge_row)))
  (dss_cons (ds_if (DW.t (dw_or (dt_cmp (o_ne hr.units) (db_callT (b_bool (trB_of (kk := 2) (okBool T) (hr.mono (by decide)))) (db_peek 6 (pv 6)) (hm := T.b_bool)) (db_cmp o_isN (db_peek 4 (pv 4)) db_non (by first | exact .inl rfl | exact .inr rfl)) (by first | exact .inl rfl | exact .inr rfl)) (dw_or (dt_not (dt_truth tr0 (DE.b (de_meth (kk := 7) (okM_shows T) (hr.mono (by decide)) (takes_of rfl rfl rfl rfl) (db_var 6 (pv 6)) (dl_cons (db_var 3 (pv 3)) (dl_cons (db_var 2 (pv 2)) dl_nil)) (llen_cons (llen_cons llen_nil)))))) (dw_or (DW.t (dw_and (dt_cmp o_isN (db_peek 4 (pv 4)) db_non (by first | exact .inl rfl | exact .inr rfl)) (dw_and1 (dt_cmp (o_neI (kk := 2) (okEq T) (hr.mono (by decide))) (db_peek 6 (pv 6)) (DE.b (de_make (kk := 2) (ok_Wakes_init T) (hr.mono (by decide)) (takes_of rfl rfl rfl rfl) (dl_cons (db_var 5 (pv 5)) dl_nil) (llen_cons llen_nil) (hm := T.g_Wakes))) (by first | exact .inl rfl | exact .inr rfl))))) (dw_or (dt_truth tr0 (DE.b (de_meth (kk := 7) (okM_shows T) (hr.mono (by decide)) (takes_of rfl rfl rfl rfl) (DE.b (de_make (kk := 2) (ok_Wakes_init T) (hr.mono (by decide)) (takes_of rfl rfl rfl rfl) (dl_cons db_int dl_nil) (llen_cons llen_nil) (hm := T.g_Wakes))) (dl_cons (db_var 3 (pv 3)) (dl_cons (db_var 2 (pv 2)) dl_nil)) (llen_cons (llen_cons llen_nil))))) (dw_or1 (dt_truth tr0 (DE.b (de_meth (kk := 7) (okM_shows T) (hr.mono (by decide)) (takes_of rfl rfl rfl rfl) (DE.b (de_make (kk := 2) (ok_Sleeps_init T) (hr.mono (by decide)) (takes_of rfl rfl rfl rfl) (dl_cons (db_tup dl_nil) dl_nil) (llen_cons llen_nil) (hm := T.g_Sleeps))) (dl_cons (db_var 3 (pv 3)) (dl_cons (db_var 2 (pv 2)) dl_nil)) (llen_cons (llen_cons llen_nil))))))))))) (dss_one (ds_ret (DB.e db_bl))) dss_nil)
  (dss_cons (ds_if (DW.t (dw_and (dt_truth tr0 (db_isi (t := .own 2) T.ko (cle_own (hm := T.g_Sleeps)) (db_peek 6 (pv 6)) (hm := T.b_isinstance))) (dw_and1 (DW.t (dw_or (dt_cmp (o_ne hr.units) (db_callB b_len (db_fld (n := 3) (by exact T.f_moves) (db_peek 6 (pv 6))) (hm := T.b_len)) (db_peek 4 (pv 4)) (by first | exact .inl rfl | exact .inr rfl)) (dw_or (dt_truth tr0 (DE.b (de_meth (kk := 7) (okM_shows T) (hr.mono (by decide)) (takes_of rfl rfl rfl rfl) (DE.b (de_make (kk := 2) (ok_Sleeps_init T) (hr.mono (by decide)) (takes_of rfl rfl rfl rfl) (dl_cons (DE.b (de_slice (db_fld (n := 3) (by exact T.f_moves) (db_peek 6 (pv 6))) dp_none (dp_some (db_neg db_int)))) dl_nil) (llen_cons llen_nil) (hm := T.g_Sleeps))) (dl_cons (db_var 3 (pv 3)) (dl_cons (db_var 2 (pv 2)) dl_nil)) (llen_cons (llen_cons llen_nil))))) (dw_or (dt_truth tr0 (DE.b (de_meth (kk := 7) (okM_shows T) (hr.mono (by decide)) (takes_of rfl rfl rfl rfl) (DE.b (de_make (kk := 2) (ok_Wakes_init T) (hr.mono (by decide)) (takes_of rfl rfl rfl rfl) (dl_cons (db_var 5 (pv 5)) dl_nil) (llen_cons llen_nil) (hm := T.g_Wakes))) (dl_cons (db_var 3 (pv 3)) (dl_cons (db_var 2 (pv 2)) dl_nil)) (llen_cons (llen_cons llen_nil))))) (dw_or1 (dt_truth tr0 (DE.b (de_meth (kk := 7) (okM_shows T) (hr.mono (by decide)) (takes_of rfl rfl rfl rfl) (DE.b (de_make (kk := 2) (ok_Sleeps_init T) (hr.mono (by decide)) (takes_of rfl rfl rfl rfl) (dl_cons (db_tup (dl_cons db_str dl_nil)) dl_nil) (llen_cons llen_nil) (hm := T.g_Sleeps))) (dl_cons (db_var 3 (pv 3)) (dl_cons (db_var 2 (pv 2)) dl_nil)) (llen_cons (llen_cons llen_nil))))))))))))) (dss_one (ds_ret (DB.e db_bl))) dss_nil)
  (dss_cons (ds_set (i := 7) sc_law.nd rfl (by first | exact .inl rfl | exact .inr rfl) (DB.e (db_bin o_add (DE.b (de_slice (DE.b (de_comp rfl sc_law.nd (own := [("deed", 16)]) (vs := [16]) (n := 17) (pinc := [0, 1, 2, 3, 4, 5, 6, 7, 8, 9, 10, 11, 12, 13, 14, 15]) (di_seq (db_peek 3 (pv 3))) (blkOk_by (own := [("deed", 16)]) (N := N_law) (sc := defScope s_law) (by decide +kernel)) (fun s H C cl fp => (dg_name (i := 16) sc_law.nd rfl (by first | exact .inl rfl | exact .inr rfl))) (fun s H C cl fp => (dts_one (dt_cmp (o_ne hr.units) (db_peek 16 (pv 16)) db_str (by first | exact .inl rfl | exact .inr rfl)))) (fun s H C cl fp => (db_var 16 (pv 16))))) dp_none (dp_some db_int))) (DE.b (de_lst (dl_cons db_str dl_nil))) (by first | exact .inl rfl | exact .inr rfl))))
  (dss_cons (ds_if (DW.t (dw_and (dt_cmp (o_ne hr.units) (db_callT (b_bool (trB_of (kk := 2) (okBool T) (hr.mono (by decide)))) (DE.b (de_call (kk := 6) (ok_judge_row T) (hr.mono (by decide)) (takes_of rfl rfl rfl rfl) (dl_cons (db_var 7 (pv 7)) (dl_cons (db_var 2 (pv 2)) dl_nil)) (llen_cons (llen_cons llen_nil)) (hm := T.g_judge_row))) (hm := T.b_bool)) (DE.b (de_call (kk := 2) (ok__law_is_good T) (hr.mono (by decide)) (takes_of rfl rfl rfl rfl) (dl_cons (db_var 7 (pv 7)) (dl_cons (db_var 2 (pv 2)) dl_nil)) (llen_cons (llen_cons llen_nil)) (hm := T.g__law_is_good))) (by first | exact .inl rfl | exact .inr rfl)) (dw_and1 (dt_cmp (o_in hr.units) db_str (db_peek 7 (pv 7)) (by first | exact .inl rfl | exact .inr rfl))))) (dss_one (ds_ret (DB.e db_bl))) dss_nil)
  (dss_cons (ds_par2 (i := 8) (j := 9) rfl sc_law.nd rfl rfl (by decide) rfl rfl (dlw_cons (de_lst (dl_cons (db_tup dl_nil) dl_nil)) (dlw_cons (de_lst dl_nil) dlw_nil)) rfl)
  (dss_cons (ds_for (passes_of rfl) rfl (di_range1 (k := true) T.b_range db_int) (dg_name (i := 10) sc_law.nd rfl (by first | exact .inl rfl | exact .inr rfl)) (dss_cons (ds_set (i := 11) sc_law.nd rfl (by first | exact .inl rfl | exact .inr rfl) (de_lst dl_nil))
  (dss_cons (ds_for (passes_of rfl) rfl (di_seq (db_var 8 (pv 8))) (dg_name (i := 12) sc_law.nd rfl (by first | exact .inl rfl | exact .inr rfl)) (dss_one (ds_set (i := 11) sc_law.nd rfl (by first | exact .inl rfl | exact .inr rfl) (DB.e (db_bin o_add (db_peek 11 (pv 11)) (DE.b (de_comp rfl sc_law.nd (own := [("deed", 16)]) (vs := [16]) (n := 17) (pinc := [0, 1, 2, 3, 4, 5, 6, 7, 8, 9, 10, 11, 12, 13, 14, 15]) (di_seq (db_tup (dl_cons db_str (dl_cons db_str (dl_cons db_str (dl_cons db_str dl_nil)))))) (blkOk_by (own := [("deed", 16)]) (N := N_law) (sc := defScope s_law) (by decide +kernel)) (fun s H C cl fp => (dg_name (i := 16) sc_law.nd rfl (by first | exact .inl rfl | exact .inr rfl))) (fun s H C cl fp => dts_nil) (fun s H C cl fp => (db_bin o_add (db_peek 12 (pv 12)) (db_tup (dl_cons (db_var 16 (pv 16)) dl_nil)) (by first | exact .inl rfl | exact .inr rfl))))) (by first | exact .inl rfl | exact .inr rfl))))))
  (dss_cons (ds_set (i := 8) sc_law.nd rfl (by first | exact .inl rfl | exact .inr rfl) (DB.e (db_var 11 (pv 11))))
  (dss_one (ds_set (i := 9) sc_law.nd rfl (by first | exact .inl rfl | exact .inr rfl) (DB.e (db_bin o_add (db_peek 9 (pv 9)) (DE.b (de_comp rfl sc_law.nd (own := [("one", 12)]) (vs := [12]) (n := 17) (pinc := [0, 1, 2, 3, 4, 5, 6, 7, 8, 9, 10, 11, 13, 14, 15, 16]) (di_seq (db_peek 8 (pv 8))) (blkOk_by (own := [("one", 12)]) (N := N_law) (sc := defScope s_law) (by decide +kernel)) (fun s H C cl fp => (dg_name (i := 12) sc_law.nd rfl (by first | exact .inl rfl | exact .inr rfl))) (fun s H C cl fp => (dts_one (DW.t (dw_and (dt_cmp (o_eq hr.units) (db_sub hr.units (db_peek 12 (pv 12)) (db_neg db_int) (by first | exact .inl rfl | exact .inr rfl)) db_str (by first | exact .inl rfl | exact .inr rfl)) (dw_and (dt_cmp (o_notin hr.units) db_str (DE.b (de_slice (db_peek 12 (pv 12)) dp_none (dp_some (db_neg db_int)))) (by first | exact .inl rfl | exact .inr rfl)) (dw_and1 (dt_truth tr0 (DE.b (de_call (kk := 2) (ok__law_is_good T) (hr.mono (by decide)) takes0 (dl_cons (db_var 12 (pv 12)) (dl_cons (db_var 2 (pv 2)) dl_nil)) (llen_cons (llen_cons llen_nil)) (hm := T.g__law_is_good)))))))))) (fun s H C cl fp => (db_var 12 (pv 12))))) (by first | exact .inl rfl | exact .inr rfl)))))))))
  (dss_cons (ds_if (DW.t (dw_or (dt_cmp (o_ne hr.units) (DE.b (de_call (kk := 7) (ok_good_rows T) (hr.mono (by decide)) (takes_of rfl rfl rfl rfl) (dl_cons db_int (dl_cons (db_var 2 (pv 2)) dl_nil)) (llen_cons (llen_cons llen_nil)) (hm := T.g_good_rows))) (db_peek 9 (pv 9)) (by first | exact .inl rfl | exact .inr rfl)) (dw_or1 (dt_cmp (o_ne hr.units) (DE.b (de_call (kk := 7) (ok_good_rows T) (hr.mono (by decide)) (takes_of rfl rfl rfl rfl) (dl_cons db_int (dl_cons (db_var 2 (pv 2)) dl_nil)) (llen_cons (llen_cons llen_nil)) (hm := T.g_good_rows))) (DE.b (de_lst dl_nil)) (by first | exact .inl rfl | exact .inr rfl))))) (dss_one (ds_ret (DB.e db_bl))) dss_nil)
  (dss_cons (ds_unp (DE.b (de_callM (kk := 4) (mv := [some 1, none]) (ok__law_pick T) (hr.mono (by decide)) (takes_of rfl rfl rfl rfl) (da_cons (dem_move 1 (pv 1)) (da_cons (DE.m (de_lst (dl_cons (db_tup (dl_cons db_non (dl_cons db_non dl_nil))) (dl_cons (db_tup (dl_cons (DE.b (de_lst dl_nil)) (dl_cons db_non dl_nil))) (dl_cons (db_tup (dl_cons (db_mul (de_lst (dl_cons db_str dl_nil)) db_int) (dl_cons db_non dl_nil))) (dl_cons (db_tup (dl_cons (DE.b (de_lst (dl_cons db_str (dl_cons db_str dl_nil)))) (dl_cons db_int dl_nil))) (dl_cons (db_tup (dl_cons (DE.b (de_lst (dl_cons db_non dl_nil))) (dl_cons db_int dl_nil))) dl_nil))))))) da_nil)) (hm := T.g__law_pick))) (dg_tup rfl (dgs_cons (dg_name (i := 13) sc_law.nd rfl (by first | exact .inl rfl | exact .inr rfl)) (dgs_cons (dg_name (i := 14) sc_law.nd rfl (by first | exact .inl rfl | exact .inr rfl)) dgs_nil))))
  (dss_one (ds_try_as (i := 15) rfl rfl sc_law.nd rfl rfl (names_own T.g_BadRow) T.e_BadRow (takes_of rfl rfl rfl rfl) (fun W pn xe tk1 hp1 => (dss_cons (ds_expr (de_call (kk := 6) (ok_judge_row T) (hr.mono (by decide)) tk1 (dl_cons (db_var 13 (pv 13)) (dl_cons (db_var 2 (pv 2)) dl_nil)) (llen_cons (llen_cons llen_nil)) (hm := T.g_judge_row)))
  (dss_one (ds_ret (DB.e db_bl))))) (fun a oe cls dx pn y hz hv => (dss_one (ds_ret (DB.e (db_cmp (o_eq hr.units) (db_xfld 15 (by exact T.x_number) hz hv (pv 15)) (db_peek 14 (pv 14)) (by first | exact .inl rfl | exact .inr rfl))))))))))))))))))))))
end
end K40

set_option Elab.async false
set_option linter.all false
set_option maxRecDepth 100000
set_option maxHeartbeats 4000000
/-! K40: the facts, and the end (printed by gen.py). -/
namespace K40
open PySem PySem.W L2 L3
theorem all_mk {P : Program} {w : World} {K : PySem.W.Frag} {h : Heap} {mg : Str → Option Value} {f0 : Addr}
    {a0 : Addr}
    {a1 : Addr}
    {a2 : Addr}
    {a3 : Addr}
    {a4 : Addr}
    {a5 : Addr}
    {a6 : Addr}
    {a7 : Addr}
    {a8 : Addr}
    {a9 : Addr}
    {a10 : Addr}
    {a11 : Addr}
    {a12 : Addr}
    {a13 : Addr}
    {a14 : Addr}
    {a15 : Addr}
    {a16 : Addr}
    {a17 : Addr}
    {a18 : Addr}
    {a19 : Addr}
    {a20 : Addr}
    {a21 : Addr}
    {a22 : Addr}
    {a23 : Addr}
    {a24 : Addr}
    {a25 : Addr}
    {c0 : Addr}
    {c1 : Addr}
    {c2 : Addr}
    {c3 : Addr}
    {c4 : Addr}
    {oc0 kV0 dc0 pm0 cd0 ct0 : Value}
    {od0 an0 : Option Addr}
    {sl0 : Array (Option Value)}
    {oc1 kV1 dc1 pm1 cd1 ct1 : Value}
    {od1 an1 : Option Addr}
    {sl1 : Array (Option Value)}
    {oc2 kV2 dc2 pm2 cd2 ct2 : Value}
    {od2 an2 : Option Addr}
    {sl2 : Array (Option Value)}
    {oc3 kV3 dc3 pm3 cd3 ct3 : Value}
    {od3 an3 : Option Addr}
    {sl3 : Array (Option Value)}
    {oc4 kV4 dc4 pm4 cd4 ct4 : Value}
    {od4 an4 : Option Addr}
    {sl4 : Array (Option Value)}
    {oc5 kV5 dc5 pm5 cd5 ct5 : Value}
    {od5 an5 : Option Addr}
    {sl5 : Array (Option Value)}
    {oc6 kV6 dc6 pm6 cd6 ct6 : Value}
    {od6 an6 : Option Addr}
    {sl6 : Array (Option Value)}
    {oc7 kV7 dc7 pm7 cd7 ct7 : Value}
    {od7 an7 : Option Addr}
    {sl7 : Array (Option Value)}
    {oc8 kV8 dc8 pm8 cd8 ct8 : Value}
    {od8 an8 : Option Addr}
    {sl8 : Array (Option Value)}
    {oc9 kV9 dc9 pm9 cd9 ct9 : Value}
    {od9 an9 : Option Addr}
    {sl9 : Array (Option Value)}
    {oc10 kV10 dc10 pm10 cd10 ct10 : Value}
    {od10 an10 : Option Addr}
    {sl10 : Array (Option Value)}
    {oc11 kV11 dc11 pm11 cd11 ct11 : Value}
    {od11 an11 : Option Addr}
    {sl11 : Array (Option Value)}
    {oc12 kV12 dc12 pm12 cd12 ct12 : Value}
    {od12 an12 : Option Addr}
    {sl12 : Array (Option Value)}
    {oc13 kV13 dc13 pm13 cd13 ct13 : Value}
    {od13 an13 : Option Addr}
    {sl13 : Array (Option Value)}
    {oc14 kV14 dc14 pm14 cd14 ct14 : Value}
    {od14 an14 : Option Addr}
    {sl14 : Array (Option Value)}
    {oc15 kV15 dc15 pm15 cd15 ct15 : Value}
    {od15 an15 : Option Addr}
    {sl15 : Array (Option Value)}
    {oc16 kV16 dc16 pm16 cd16 ct16 : Value}
    {od16 an16 : Option Addr}
    {sl16 : Array (Option Value)}
    {oc17 kV17 dc17 pm17 cd17 ct17 : Value}
    {od17 an17 : Option Addr}
    {sl17 : Array (Option Value)}
    {oc18 kV18 dc18 pm18 cd18 ct18 : Value}
    {od18 an18 : Option Addr}
    {sl18 : Array (Option Value)}
    {oc19 kV19 dc19 pm19 cd19 ct19 : Value}
    {od19 an19 : Option Addr}
    {sl19 : Array (Option Value)}
    {oc20 kV20 dc20 pm20 cd20 ct20 : Value}
    {od20 an20 : Option Addr}
    {sl20 : Array (Option Value)}
    {oc21 kV21 dc21 pm21 cd21 ct21 : Value}
    {od21 an21 : Option Addr}
    {sl21 : Array (Option Value)}
    {oc22 kV22 dc22 pm22 cd22 ct22 : Value}
    {od22 an22 : Option Addr}
    {sl22 : Array (Option Value)}
    {oc23 kV23 dc23 pm23 cd23 ct23 : Value}
    {od23 an23 : Option Addr}
    {sl23 : Array (Option Value)}
    {oc24 kV24 dc24 pm24 cd24 ct24 : Value}
    {od24 an24 : Option Addr}
    {sl24 : Array (Option Value)}
    {oc25 kV25 dc25 pm25 cd25 ct25 : Value}
    {od25 an25 : Option Addr}
    {sl25 : Array (Option Value)}
    {t_DEEDS_0 t_DEEDS_1 t_DEEDS_2 t_DEEDS_3 : Tok}
    {k_DEEDS : Addr}
    {od_DEEDS : Option Addr}
    {sl_DEEDS : Array (Option Value)}
    {n_DEEDS : Nat}
    {t_MOST_DEEDS : Tok}
    {nm4 q4 : Str}
    {N4 : Addr}
    {bs4 bm4 sub4 : List Value}
    {sn4 : List Str}
    {ab4 : Bool}
    {col4 : Option Bool}
    {dd4 : Option Addr}
    {m04 m14 m24 m34 m54 : Option Value}
    (X : K.In h) (G : h.Ns mainGlobals mg) (hfa : mg "law" = some (.ref f0))
    (h0 : PySem.W.nsIn K mainGlobals "Standing" = some (some (.ref c0)))
    (h1 : PySem.W.nsIn K mainGlobals "Wakes" = some (some (.ref c1)))
    (h2 : PySem.W.nsIn K mainGlobals "Sleeps" = some (some (.ref c2)))
    (h3 : PySem.W.nsIn K mainGlobals "PlugError" = some (some (.ref c3)))
    (h4 : PySem.W.nsIn K mainGlobals "BadRow" = some (some (.ref c4)))
    (h5 : PySem.W.nsIn K mainGlobals "_law_number" = some (some (.ref a0)))
    (h6 : PySem.W.nsIn K mainGlobals "_law_take" = some (some (.ref a1)))
    (h7 : PySem.W.nsIn K mainGlobals "_law_pick" = some (some (.ref a2)))
    (h8 : PySem.W.nsIn K mainGlobals "_law_signal" = some (some (.ref a3)))
    (h9 : PySem.W.nsIn K mainGlobals "_law_deed" = some (some (.ref a4)))
    (h10 : PySem.W.nsIn K mainGlobals "_law_fewest" = some (some (.ref a5)))
    (h11 : PySem.W.nsIn K mainGlobals "check_row" = some (some (.ref a6)))
    (h12 : PySem.W.findIn K (.ref c0) "__init__" = some (some (.ref a7)))
    (h13 : PySem.W.nsIn K mainGlobals "first_standing" = some (some (.ref a8)))
    (h14 : PySem.W.findIn K (.ref c0) "key" = some (some (.ref a9)))
    (h15 : PySem.W.findIn K (.ref c2) "__init__" = some (some (.ref a10)))
    (h16 : PySem.W.nsIn K mainGlobals "signalled" = some (some (.ref a11)))
    (h17 : PySem.W.nsIn K mainGlobals "done" = some (some (.ref a12)))
    (h18 : PySem.W.findIn K (.ref c1) "__init__" = some (some (.ref a13)))
    (h19 : PySem.W.nsIn K mainGlobals "judge_row" = some (some (.ref a14)))
    (h20 : PySem.W.findIn K (.ref c0) "__eq__" = some (some (.ref a15)))
    (h21 : PySem.W.findIn K (.ref c1) "__eq__" = some (some (.ref a16)))
    (h22 : PySem.W.findIn K (.ref c2) "__eq__" = some (some (.ref a17)))
    (h23 : PySem.W.findIn K (.ref c1) "shows" = some (some (.ref a18)))
    (h24 : PySem.W.findIn K (.ref c2) "shows" = some (some (.ref a19)))
    (h25 : PySem.W.findIn K (.ref c1) "__bool__" = some (some (.ref a20)))
    (h26 : PySem.W.findIn K (.ref c2) "__bool__" = some (some (.ref a21)))
    (h27 : PySem.W.nsIn K mainGlobals "_law_is_good" = some (some (.ref a22)))
    (h28 : PySem.W.nsIn K mainGlobals "good_rows" = some (some (.ref a23)))
    (h29 : PySem.W.nsIn K mainGlobals "law" = some (some (.ref a24)))
    (h30 : PySem.W.findIn K (.ref c4) "__init__" = some (some (.ref a25)))
    (h31 : K.lookup a0 = some ⟨oc0, od0, .func (PySem.W.fnOf "_law_number" "_law_number" (defArgs s__law_number) (defBody s__law_number) (defScope s__law_number) .none kV0 dc0 pm0 an0 cd0 ct0), sl0⟩)
    (h32 : PySem.W.codeIn K cd0 "_law_number" = true)
    (h33 : PySem.W.keepIn K (.ref a0) = true)
    (h34 : PySem.W.isFn K (.ref a0) = true)
    (h35 : K.lookup a1 = some ⟨oc1, od1, .func (PySem.W.fnOf "_law_take" "_law_take" (defArgs s__law_take) (defBody s__law_take) (defScope s__law_take) .none kV1 dc1 pm1 an1 cd1 ct1), sl1⟩)
    (h36 : PySem.W.codeIn K cd1 "_law_take" = true)
    (h37 : PySem.W.keepIn K (.ref a1) = true)
    (h38 : PySem.W.isFn K (.ref a1) = true)
    (h39 : K.lookup a2 = some ⟨oc2, od2, .func (PySem.W.fnOf "_law_pick" "_law_pick" (defArgs s__law_pick) (defBody s__law_pick) (defScope s__law_pick) .none kV2 dc2 pm2 an2 cd2 ct2), sl2⟩)
    (h40 : PySem.W.codeIn K cd2 "_law_pick" = true)
    (h41 : PySem.W.keepIn K (.ref a2) = true)
    (h42 : PySem.W.isFn K (.ref a2) = true)
    (h43 : K.lookup a3 = some ⟨oc3, od3, .func (PySem.W.fnOf "_law_signal" "_law_signal" (defArgs s__law_signal) (defBody s__law_signal) (defScope s__law_signal) .none kV3 dc3 pm3 an3 cd3 ct3), sl3⟩)
    (h44 : PySem.W.codeIn K cd3 "_law_signal" = true)
    (h45 : PySem.W.keepIn K (.ref a3) = true)
    (h46 : PySem.W.isFn K (.ref a3) = true)
    (h47 : K.lookup a4 = some ⟨oc4, od4, .func (PySem.W.fnOf "_law_deed" "_law_deed" (defArgs s__law_deed) (defBody s__law_deed) (defScope s__law_deed) .none kV4 dc4 pm4 an4 cd4 ct4), sl4⟩)
    (h48 : PySem.W.codeIn K cd4 "_law_deed" = true)
    (h49 : PySem.W.keepIn K (.ref a4) = true)
    (h50 : PySem.W.isFn K (.ref a4) = true)
    (h51 : K.lookup a5 = some ⟨oc5, od5, .func (PySem.W.fnOf "_law_fewest" "_law_fewest" (defArgs s__law_fewest) (defBody s__law_fewest) (defScope s__law_fewest) .none kV5 dc5 pm5 an5 cd5 ct5), sl5⟩)
    (h52 : PySem.W.codeIn K cd5 "_law_fewest" = true)
    (h53 : PySem.W.keepIn K (.ref a5) = true)
    (h54 : PySem.W.isFn K (.ref a5) = true)
    (h55 : K.lookup a6 = some ⟨oc6, od6, .func (PySem.W.fnOf "check_row" "check_row" (defArgs s_check_row) (defBody s_check_row) (defScope s_check_row) .none kV6 dc6 pm6 an6 cd6 ct6), sl6⟩)
    (h56 : PySem.W.codeIn K cd6 "check_row" = true)
    (h57 : PySem.W.keepIn K (.ref a6) = true)
    (h58 : PySem.W.isFn K (.ref a6) = true)
    (h59 : K.lookup a7 = some ⟨oc7, od7, .func (PySem.W.fnOf "__init__" "Standing.__init__" (defArgs s_Standing_init) (defBody s_Standing_init) (defScope s_Standing_init) .none kV7 dc7 pm7 an7 cd7 ct7), sl7⟩)
    (h60 : PySem.W.codeIn K cd7 "Standing.__init__" = true)
    (h61 : PySem.W.keepIn K (.ref a7) = true)
    (h62 : PySem.W.isFn K (.ref a7) = true)
    (h63 : K.lookup a8 = some ⟨oc8, od8, .func (PySem.W.fnOf "first_standing" "first_standing" (defArgs s_first_standing) (defBody s_first_standing) (defScope s_first_standing) .none kV8 dc8 pm8 an8 cd8 ct8), sl8⟩)
    (h64 : PySem.W.codeIn K cd8 "first_standing" = true)
    (h65 : PySem.W.keepIn K (.ref a8) = true)
    (h66 : PySem.W.isFn K (.ref a8) = true)
    (h67 : K.lookup a9 = some ⟨oc9, od9, .func (PySem.W.fnOf "key" "Standing.key" (defArgs s_Standing_key) (defBody s_Standing_key) (defScope s_Standing_key) .none kV9 dc9 pm9 an9 cd9 ct9), sl9⟩)
    (h68 : PySem.W.codeIn K cd9 "Standing.key" = true)
    (h69 : PySem.W.keepIn K (.ref a9) = true)
    (h70 : PySem.W.isFn K (.ref a9) = true)
    (h71 : K.lookup a10 = some ⟨oc10, od10, .func (PySem.W.fnOf "__init__" "Sleeps.__init__" (defArgs s_Sleeps_init) (defBody s_Sleeps_init) (defScope s_Sleeps_init) .none kV10 dc10 pm10 an10 cd10 ct10), sl10⟩)
    (h72 : PySem.W.codeIn K cd10 "Sleeps.__init__" = true)
    (h73 : PySem.W.keepIn K (.ref a10) = true)
    (h74 : PySem.W.isFn K (.ref a10) = true)
    (h75 : K.lookup a11 = some ⟨oc11, od11, .func (PySem.W.fnOf "signalled" "signalled" (defArgs s_signalled) (defBody s_signalled) (defScope s_signalled) .none kV11 dc11 pm11 an11 cd11 ct11), sl11⟩)
    (h76 : PySem.W.codeIn K cd11 "signalled" = true)
    (h77 : PySem.W.keepIn K (.ref a11) = true)
    (h78 : PySem.W.isFn K (.ref a11) = true)
    (h79 : K.lookup a12 = some ⟨oc12, od12, .func (PySem.W.fnOf "done" "done" (defArgs s_done) (defBody s_done) (defScope s_done) .none kV12 dc12 pm12 an12 cd12 ct12), sl12⟩)
    (h80 : PySem.W.codeIn K cd12 "done" = true)
    (h81 : PySem.W.keepIn K (.ref a12) = true)
    (h82 : PySem.W.isFn K (.ref a12) = true)
    (h83 : K.lookup a13 = some ⟨oc13, od13, .func (PySem.W.fnOf "__init__" "Wakes.__init__" (defArgs s_Wakes_init) (defBody s_Wakes_init) (defScope s_Wakes_init) .none kV13 dc13 pm13 an13 cd13 ct13), sl13⟩)
    (h84 : PySem.W.codeIn K cd13 "Wakes.__init__" = true)
    (h85 : PySem.W.keepIn K (.ref a13) = true)
    (h86 : PySem.W.isFn K (.ref a13) = true)
    (h87 : K.lookup a14 = some ⟨oc14, od14, .func (PySem.W.fnOf "judge_row" "judge_row" (defArgs s_judge_row) (defBody s_judge_row) (defScope s_judge_row) .none kV14 dc14 pm14 an14 cd14 ct14), sl14⟩)
    (h88 : PySem.W.codeIn K cd14 "judge_row" = true)
    (h89 : PySem.W.keepIn K (.ref a14) = true)
    (h90 : PySem.W.isFn K (.ref a14) = true)
    (h91 : K.lookup a15 = some ⟨oc15, od15, .func (PySem.W.fnOf "__eq__" "Standing.__eq__" (defArgs s_Standing_eq) (defBody s_Standing_eq) (defScope s_Standing_eq) .none kV15 dc15 pm15 an15 cd15 ct15), sl15⟩)
    (h92 : PySem.W.codeIn K cd15 "Standing.__eq__" = true)
    (h93 : PySem.W.keepIn K (.ref a15) = true)
    (h94 : PySem.W.isFn K (.ref a15) = true)
    (h95 : K.lookup a16 = some ⟨oc16, od16, .func (PySem.W.fnOf "__eq__" "Wakes.__eq__" (defArgs s_Wakes_eq) (defBody s_Wakes_eq) (defScope s_Wakes_eq) .none kV16 dc16 pm16 an16 cd16 ct16), sl16⟩)
    (h96 : PySem.W.codeIn K cd16 "Wakes.__eq__" = true)
    (h97 : PySem.W.keepIn K (.ref a16) = true)
    (h98 : PySem.W.isFn K (.ref a16) = true)
    (h99 : K.lookup a17 = some ⟨oc17, od17, .func (PySem.W.fnOf "__eq__" "Sleeps.__eq__" (defArgs s_Sleeps_eq) (defBody s_Sleeps_eq) (defScope s_Sleeps_eq) .none kV17 dc17 pm17 an17 cd17 ct17), sl17⟩)
    (h100 : PySem.W.codeIn K cd17 "Sleeps.__eq__" = true)
    (h101 : PySem.W.keepIn K (.ref a17) = true)
    (h102 : PySem.W.isFn K (.ref a17) = true)
    (h103 : K.lookup a18 = some ⟨oc18, od18, .func (PySem.W.fnOf "shows" "Wakes.shows" (defArgs s_Wakes_shows) (defBody s_Wakes_shows) (defScope s_Wakes_shows) .none kV18 dc18 pm18 an18 cd18 ct18), sl18⟩)
    (h104 : PySem.W.codeIn K cd18 "Wakes.shows" = true)
    (h105 : PySem.W.keepIn K (.ref a18) = true)
    (h106 : PySem.W.isFn K (.ref a18) = true)
    (h107 : K.lookup a19 = some ⟨oc19, od19, .func (PySem.W.fnOf "shows" "Sleeps.shows" (defArgs s_Sleeps_shows) (defBody s_Sleeps_shows) (defScope s_Sleeps_shows) .none kV19 dc19 pm19 an19 cd19 ct19), sl19⟩)
    (h108 : PySem.W.codeIn K cd19 "Sleeps.shows" = true)
    (h109 : PySem.W.keepIn K (.ref a19) = true)
    (h110 : PySem.W.isFn K (.ref a19) = true)
    (h111 : K.lookup a20 = some ⟨oc20, od20, .func (PySem.W.fnOf "__bool__" "Wakes.__bool__" (defArgs s_Wakes_bool) (defBody s_Wakes_bool) (defScope s_Wakes_bool) .none kV20 dc20 pm20 an20 cd20 ct20), sl20⟩)
    (h112 : PySem.W.codeIn K cd20 "Wakes.__bool__" = true)
    (h113 : PySem.W.keepIn K (.ref a20) = true)
    (h114 : PySem.W.isFn K (.ref a20) = true)
    (h115 : K.lookup a21 = some ⟨oc21, od21, .func (PySem.W.fnOf "__bool__" "Sleeps.__bool__" (defArgs s_Sleeps_bool) (defBody s_Sleeps_bool) (defScope s_Sleeps_bool) .none kV21 dc21 pm21 an21 cd21 ct21), sl21⟩)
    (h116 : PySem.W.codeIn K cd21 "Sleeps.__bool__" = true)
    (h117 : PySem.W.keepIn K (.ref a21) = true)
    (h118 : PySem.W.isFn K (.ref a21) = true)
    (h119 : K.lookup a22 = some ⟨oc22, od22, .func (PySem.W.fnOf "_law_is_good" "_law_is_good" (defArgs s__law_is_good) (defBody s__law_is_good) (defScope s__law_is_good) .none kV22 dc22 pm22 an22 cd22 ct22), sl22⟩)
    (h120 : PySem.W.codeIn K cd22 "_law_is_good" = true)
    (h121 : PySem.W.keepIn K (.ref a22) = true)
    (h122 : PySem.W.isFn K (.ref a22) = true)
    (h123 : K.lookup a23 = some ⟨oc23, od23, .func (PySem.W.fnOf "good_rows" "good_rows" (defArgs s_good_rows) (defBody s_good_rows) (defScope s_good_rows) .none kV23 dc23 pm23 an23 cd23 ct23), sl23⟩)
    (h124 : PySem.W.codeIn K cd23 "good_rows" = true)
    (h125 : PySem.W.keepIn K (.ref a23) = true)
    (h126 : PySem.W.isFn K (.ref a23) = true)
    (h127 : K.lookup a24 = some ⟨oc24, od24, .func (PySem.W.fnOf "law" "law" (defArgs s_law) (defBody s_law) (defScope s_law) .none kV24 dc24 pm24 an24 cd24 ct24), sl24⟩)
    (h128 : PySem.W.codeIn K cd24 "law" = true)
    (h129 : PySem.W.keepIn K (.ref a24) = true)
    (h130 : PySem.W.isFn K (.ref a24) = true)
    (h131 : K.lookup a25 = some ⟨oc25, od25, .func (PySem.W.fnOf "__init__" "BadRow.__init__" (defArgs s_BadRow_init) (defBody s_BadRow_init) (defScope s_BadRow_init) .none kV25 dc25 pm25 an25 cd25 ct25), sl25⟩)
    (h132 : PySem.W.codeIn K cd25 "BadRow.__init__" = true)
    (h133 : PySem.W.keepIn K (.ref a25) = true)
    (h134 : PySem.W.isFn K (.ref a25) = true)
    (h135 : PySem.W.nsIn K mainGlobals "any" = some none)
    (h136 : PySem.W.nsIn K mainGlobals "bool" = some none)
    (h137 : PySem.W.nsIn K mainGlobals "enumerate" = some none)
    (h138 : PySem.W.nsIn K mainGlobals "int" = some none)
    (h139 : PySem.W.nsIn K mainGlobals "isinstance" = some none)
    (h140 : PySem.W.nsIn K mainGlobals "len" = some none)
    (h141 : PySem.W.nsIn K mainGlobals "list" = some none)
    (h142 : PySem.W.nsIn K mainGlobals "range" = some none)
    (h143 : PySem.W.nsIn K mainGlobals "str" = some none)
    (h144 : PySem.W.nsIn K mainGlobals "tuple" = some none)
    (h145 : PySem.W.nsIn K mainGlobals "DEEDS" = some (some (.ref k_DEEDS)))
    (h146 : K.lookup k_DEEDS = some ⟨.type "tuple", od_DEEDS, .seq #[.str "arm" t_DEEDS_0, .str "look" t_DEEDS_1, .str "work" t_DEEDS_2, .str "sleep" t_DEEDS_3] n_DEEDS, sl_DEEDS⟩)
    (h147 : PySem.W.nsIn K mainGlobals "MOST_DEEDS" = some (some (.int 8 t_MOST_DEEDS)))
    (h148 : PySem.W.plainGet K c0 Str.empty = true)
    (h149 : PySem.W.hasDictIn K c0 = true)
    (h150 : PySem.W.plainOver K c0 = true)
    (h151 : PySem.W.findIn K (.ref c0) "__setattr__" = some (some (.builtin "object.__setattr__")))
    (h152 : PySem.W.makesIn K c0 = true)
    (h153 : PySem.W.keepIn K (.ref c0) = true)
    (h154 : PySem.W.plainGet K c1 Str.empty = true)
    (h155 : PySem.W.hasDictIn K c1 = true)
    (h156 : PySem.W.plainOver K c1 = true)
    (h157 : PySem.W.findIn K (.ref c1) "__setattr__" = some (some (.builtin "object.__setattr__")))
    (h158 : PySem.W.makesIn K c1 = true)
    (h159 : PySem.W.keepIn K (.ref c1) = true)
    (h160 : PySem.W.plainGet K c2 Str.empty = true)
    (h161 : PySem.W.hasDictIn K c2 = true)
    (h162 : PySem.W.plainOver K c2 = true)
    (h163 : PySem.W.findIn K (.ref c2) "__setattr__" = some (some (.builtin "object.__setattr__")))
    (h164 : PySem.W.makesIn K c2 = true)
    (h165 : PySem.W.keepIn K (.ref c2) = true)
    (h166 : PySem.W.specialIn K (.builtin "object.__class__") "__get__" = some (some (.builtin "getset_descriptor.__get__")))
    (h167 : PySem.W.takesIn K (.builtin "object.__class__") = some true)
    (h168 : PySem.W.findIn K (.ref c0) "__class__" = some (some (.builtin "object.__class__")))
    (h169 : PySem.W.mroIn K c0 (.type "object") = some true)
    (h170 : PySem.W.isClsIn K c0 = true)
    (h171 : PySem.W.typeIn K (.ref c0) = some (.type "type"))
    (h172 : PySem.W.subIn K (.ref c0) (.type "int") = some false)
    (h173 : PySem.W.subIn K (.ref c0) (.type "str") = some false)
    (h174 : PySem.W.subIn K (.ref c0) (.type "bool") = some false)
    (h175 : PySem.W.subIn K (.ref c0) (.type "list") = some false)
    (h176 : PySem.W.subIn K (.ref c0) (.type "tuple") = some false)
    (h177 : PySem.W.subIn K (.ref c0) (.type "dict") = some false)
    (h178 : PySem.W.subIn K (.type "NoneType") (.ref c0) = some false)
    (h179 : PySem.W.subIn K (.type "bool") (.ref c0) = some false)
    (h180 : PySem.W.subIn K (.type "int") (.ref c0) = some false)
    (h181 : PySem.W.subIn K (.type "str") (.ref c0) = some false)
    (h182 : PySem.W.subIn K (.type "tuple") (.ref c0) = some false)
    (h183 : PySem.W.subIn K (.type "list") (.ref c0) = some false)
    (h184 : PySem.W.subIn K (.type "dict") (.ref c0) = some false)
    (h185 : PySem.W.findIn K (.ref c1) "__class__" = some (some (.builtin "object.__class__")))
    (h186 : PySem.W.mroIn K c1 (.type "object") = some true)
    (h187 : PySem.W.isClsIn K c1 = true)
    (h188 : PySem.W.typeIn K (.ref c1) = some (.type "type"))
    (h189 : PySem.W.subIn K (.ref c1) (.type "int") = some false)
    (h190 : PySem.W.subIn K (.ref c1) (.type "str") = some false)
    (h191 : PySem.W.subIn K (.ref c1) (.type "bool") = some false)
    (h192 : PySem.W.subIn K (.ref c1) (.type "list") = some false)
    (h193 : PySem.W.subIn K (.ref c1) (.type "tuple") = some false)
    (h194 : PySem.W.subIn K (.ref c1) (.type "dict") = some false)
    (h195 : PySem.W.subIn K (.type "NoneType") (.ref c1) = some false)
    (h196 : PySem.W.subIn K (.type "bool") (.ref c1) = some false)
    (h197 : PySem.W.subIn K (.type "int") (.ref c1) = some false)
    (h198 : PySem.W.subIn K (.type "str") (.ref c1) = some false)
    (h199 : PySem.W.subIn K (.type "tuple") (.ref c1) = some false)
    (h200 : PySem.W.subIn K (.type "list") (.ref c1) = some false)
    (h201 : PySem.W.subIn K (.type "dict") (.ref c1) = some false)
    (h202 : PySem.W.findIn K (.ref c2) "__class__" = some (some (.builtin "object.__class__")))
    (h203 : PySem.W.mroIn K c2 (.type "object") = some true)
    (h204 : PySem.W.isClsIn K c2 = true)
    (h205 : PySem.W.typeIn K (.ref c2) = some (.type "type"))
    (h206 : PySem.W.subIn K (.ref c2) (.type "int") = some false)
    (h207 : PySem.W.subIn K (.ref c2) (.type "str") = some false)
    (h208 : PySem.W.subIn K (.ref c2) (.type "bool") = some false)
    (h209 : PySem.W.subIn K (.ref c2) (.type "list") = some false)
    (h210 : PySem.W.subIn K (.ref c2) (.type "tuple") = some false)
    (h211 : PySem.W.subIn K (.ref c2) (.type "dict") = some false)
    (h212 : PySem.W.subIn K (.type "NoneType") (.ref c2) = some false)
    (h213 : PySem.W.subIn K (.type "bool") (.ref c2) = some false)
    (h214 : PySem.W.subIn K (.type "int") (.ref c2) = some false)
    (h215 : PySem.W.subIn K (.type "str") (.ref c2) = some false)
    (h216 : PySem.W.subIn K (.type "tuple") (.ref c2) = some false)
    (h217 : PySem.W.subIn K (.type "list") (.ref c2) = some false)
    (h218 : PySem.W.subIn K (.type "dict") (.ref c2) = some false)
    (h219 : PySem.W.subIn K (.ref c0) (.ref c0) = some true)
    (h220 : PySem.W.subIn K (.ref c0) (.ref c1) = some false)
    (h221 : PySem.W.subIn K (.ref c0) (.ref c2) = some false)
    (h222 : PySem.W.subIn K (.ref c1) (.ref c0) = some false)
    (h223 : PySem.W.subIn K (.ref c1) (.ref c1) = some true)
    (h224 : PySem.W.subIn K (.ref c1) (.ref c2) = some false)
    (h225 : PySem.W.subIn K (.ref c2) (.ref c0) = some false)
    (h226 : PySem.W.subIn K (.ref c2) (.ref c1) = some false)
    (h227 : PySem.W.subIn K (.ref c2) (.ref c2) = some true)
    (h228 : PySem.W.findIn K (.ref c0) "armed" = some none)
    (h229 : PySem.W.findIn K (.ref c1) "armed" = some none)
    (h230 : PySem.W.findIn K (.ref c2) "armed" = some none)
    (h231 : PySem.W.findIn K (.ref c0) "at" = some none)
    (h232 : PySem.W.findIn K (.ref c1) "at" = some none)
    (h233 : PySem.W.findIn K (.ref c2) "at" = some none)
    (h234 : PySem.W.findIn K (.ref c0) "moves" = some none)
    (h235 : PySem.W.findIn K (.ref c1) "moves" = some none)
    (h236 : PySem.W.findIn K (.ref c2) "moves" = some none)
    (h237 : PySem.W.findIn K (.ref c0) "noted" = some none)
    (h238 : PySem.W.findIn K (.ref c1) "noted" = some none)
    (h239 : PySem.W.findIn K (.ref c2) "noted" = some none)
    (h240 : PySem.W.findIn K (.ref c0) "standings" = some none)
    (h241 : PySem.W.findIn K (.ref c1) "standings" = some none)
    (h242 : PySem.W.findIn K (.ref c2) "standings" = some none)
    (h243 : PySem.W.findIn K (.ref c0) "work" = some none)
    (h244 : PySem.W.findIn K (.ref c1) "work" = some none)
    (h245 : PySem.W.findIn K (.ref c2) "work" = some none)
    (h246 : PySem.W.findIn K (.ref c0) "__ne__" = some (some (.builtin "object.__ne__")))
    (h247 : PySem.W.findIn K (.ref c1) "__ne__" = some (some (.builtin "object.__ne__")))
    (h248 : PySem.W.findIn K (.ref c2) "__ne__" = some (some (.builtin "object.__ne__")))
    (h249 : PySem.W.subIn K (.ref c3) (.type "BaseException") = some true)
    (h250 : PySem.W.typeIn K (.ref c3) = some (.type "type"))
    (h251 : PySem.W.isClsIn K c3 = true)
    (h252 : PySem.W.subIn K (.ref c4) (.type "BaseException") = some true)
    (h253 : PySem.W.typeIn K (.ref c4) = some (.type "type"))
    (h254 : PySem.W.isClsIn K c4 = true)
    (h255 : PySem.W.typeIn K (.ref a25) = some (.type "function"))
    (h256 : K.lookup c4 = some (excClassObj nm4 q4 c4 N4 bs4 bm4 true sn4 sub4 ab4 col4 dd4 m04 m14 m24 m34 m54 "ValueError.__new__"))
    (h257 : PySem.HandSPX.refsVE bm4 = true)
    (h258 : PySem.W.findIn K (.ref c4) "__setattr__" = some (some (.builtin "object.__setattr__")))
    (h259 : PySem.W.keepIn K (.ref c4) = true)
    (h260 : PySem.W.findIn K (.ref c4) "number" = some none)
    (h261 : PySem.W.findIn K (.ref c4) "__getattribute__" = some (some (.builtin "BaseException.__getattribute__")))
    (h262 : PySem.W.findIn K (.ref c4) "__getattr__" = some none)
    (h263 : PySem.W.hasDictIn K c4 = true)
    (h264 : PySem.W.subIn K (.ref c3) (.ref c4) = some false)
    (h265 : PySem.W.subIn K (.ref c4) (.ref c4) = some true)
    : ∃ fd : FuncData, (∀ (s : Shared) (v : Value), BindsTo s fd ⟨[v], []⟩ [("script", v)]) ∧ ∀ base : Heap, K.In base → base.Ns mainGlobals mg → FnOk P w K mg base (L2.CX P w) 8 f0 fd ["script"] (spLaw K) := by
  have e := hfa.symm.trans (mg_of X G h29)
  cases e
  have kbt0 : ∀ T0, T0 ∈ ["NoneType", "bool", "int", "str", "tuple", "list", "dict"] → PySem.W.kitOne K (.type T0) (.ref c0) = some false := (by
      intro T0 hT
      simp only [List.mem_cons, List.not_mem_nil, or_false] at hT
      rcases hT with rfl | rfl | rfl | rfl | rfl | rfl | rfl
      · exact kit_tb h170 h171 h178
      · exact kit_tb h170 h171 h179
      · exact kit_tb h170 h171 h180
      · exact kit_tb h170 h171 h181
      · exact kit_tb h170 h171 h182
      · exact kit_tb h170 h171 h183
      · exact kit_tb h170 h171 h184)
  have knf0 : ∀ T0, T0 ∈ ["NoneType", "bool", "int", "str", "tuple", "list", "dict"] → PySem.W.notFirst K c0 (.type T0) = true := (by
      intro T0 hT
      simp only [List.mem_cons, List.not_mem_nil, or_false] at hT
      rcases hT with rfl | rfl | rfl | rfl | rfl | rfl | rfl
      · exact notFirst_ty h178
      · exact notFirst_ty h179
      · exact notFirst_ty h180
      · exact notFirst_ty h181
      · exact notFirst_ty h182
      · exact notFirst_ty h183
      · exact notFirst_ty h184)
  have kbt1 : ∀ T0, T0 ∈ ["NoneType", "bool", "int", "str", "tuple", "list", "dict"] → PySem.W.kitOne K (.type T0) (.ref c1) = some false := (by
      intro T0 hT
      simp only [List.mem_cons, List.not_mem_nil, or_false] at hT
      rcases hT with rfl | rfl | rfl | rfl | rfl | rfl | rfl
      · exact kit_tb h187 h188 h195
      · exact kit_tb h187 h188 h196
      · exact kit_tb h187 h188 h197
      · exact kit_tb h187 h188 h198
      · exact kit_tb h187 h188 h199
      · exact kit_tb h187 h188 h200
      · exact kit_tb h187 h188 h201)
  have knf1 : ∀ T0, T0 ∈ ["NoneType", "bool", "int", "str", "tuple", "list", "dict"] → PySem.W.notFirst K c1 (.type T0) = true := (by
      intro T0 hT
      simp only [List.mem_cons, List.not_mem_nil, or_false] at hT
      rcases hT with rfl | rfl | rfl | rfl | rfl | rfl | rfl
      · exact notFirst_ty h195
      · exact notFirst_ty h196
      · exact notFirst_ty h197
      · exact notFirst_ty h198
      · exact notFirst_ty h199
      · exact notFirst_ty h200
      · exact notFirst_ty h201)
  have kbt2 : ∀ T0, T0 ∈ ["NoneType", "bool", "int", "str", "tuple", "list", "dict"] → PySem.W.kitOne K (.type T0) (.ref c2) = some false := (by
      intro T0 hT
      simp only [List.mem_cons, List.not_mem_nil, or_false] at hT
      rcases hT with rfl | rfl | rfl | rfl | rfl | rfl | rfl
      · exact kit_tb h204 h205 h212
      · exact kit_tb h204 h205 h213
      · exact kit_tb h204 h205 h214
      · exact kit_tb h204 h205 h215
      · exact kit_tb h204 h205 h216
      · exact kit_tb h204 h205 h217
      · exact kit_tb h204 h205 h218)
  have knf2 : ∀ T0, T0 ∈ ["NoneType", "bool", "int", "str", "tuple", "list", "dict"] → PySem.W.notFirst K c2 (.type T0) = true := (by
      intro T0 hT
      simp only [List.mem_cons, List.not_mem_nil, or_false] at hT
      rcases hT with rfl | rfl | rfl | rfl | rfl | rfl | rfl
      · exact notFirst_ty h212
      · exact notFirst_ty h213
      · exact notFirst_ty h214
      · exact notFirst_ty h215
      · exact notFirst_ty h216
      · exact notFirst_ty h217
      · exact notFirst_ty h218)
  have T : Txt P w K mg (tab [c0, c1, c2, c3, c4]) (tab [a0, a1, a2, a3, a4, a5, a6, a7, a8, a9, a10, a11, a12, a13, a14, a15, a16, a17, a18, a19, a20, a21, a22, a23, f0, a25]) := {
    F__law_number := ⟨_, fun_mk (st := s__law_number) h31 h32 h33⟩
    g__law_number := mg_of X G h5
    F__law_take := ⟨_, fun_mk (st := s__law_take) h35 h36 h37⟩
    g__law_take := mg_of X G h6
    F__law_pick := ⟨_, fun_mk (st := s__law_pick) h39 h40 h41⟩
    g__law_pick := mg_of X G h7
    F__law_signal := ⟨_, fun_mk (st := s__law_signal) h43 h44 h45⟩
    g__law_signal := mg_of X G h8
    F__law_deed := ⟨_, fun_mk (st := s__law_deed) h47 h48 h49⟩
    g__law_deed := mg_of X G h9
    F__law_fewest := ⟨_, fun_mk (st := s__law_fewest) h51 h52 h53⟩
    g__law_fewest := mg_of X G h10
    F_check_row := ⟨_, fun_mk (st := s_check_row) h55 h56 h57⟩
    g_check_row := mg_of X G h11
    F_Standing_init := ⟨_, fun_mk (st := s_Standing_init) h59 h60 h61⟩
    F_first_standing := ⟨_, fun_mk (st := s_first_standing) h63 h64 h65⟩
    g_first_standing := mg_of X G h13
    F_Standing_key := ⟨_, fun_mk (st := s_Standing_key) h67 h68 h69⟩
    F_Sleeps_init := ⟨_, fun_mk (st := s_Sleeps_init) h71 h72 h73⟩
    F_signalled := ⟨_, fun_mk (st := s_signalled) h75 h76 h77⟩
    g_signalled := mg_of X G h16
    F_done := ⟨_, fun_mk (st := s_done) h79 h80 h81⟩
    g_done := mg_of X G h17
    F_Wakes_init := ⟨_, fun_mk (st := s_Wakes_init) h83 h84 h85⟩
    F_judge_row := ⟨_, fun_mk (st := s_judge_row) h87 h88 h89⟩
    g_judge_row := mg_of X G h19
    F_Standing_eq := ⟨_, fun_mk (st := s_Standing_eq) h91 h92 h93⟩
    F_Wakes_eq := ⟨_, fun_mk (st := s_Wakes_eq) h95 h96 h97⟩
    F_Sleeps_eq := ⟨_, fun_mk (st := s_Sleeps_eq) h99 h100 h101⟩
    F_Wakes_shows := ⟨_, fun_mk (st := s_Wakes_shows) h103 h104 h105⟩
    F_Sleeps_shows := ⟨_, fun_mk (st := s_Sleeps_shows) h107 h108 h109⟩
    F_Wakes_bool := ⟨_, fun_mk (st := s_Wakes_bool) h111 h112 h113⟩
    F_Sleeps_bool := ⟨_, fun_mk (st := s_Sleeps_bool) h115 h116 h117⟩
    F__law_is_good := ⟨_, fun_mk (st := s__law_is_good) h119 h120 h121⟩
    g__law_is_good := mg_of X G h27
    F_good_rows := ⟨_, fun_mk (st := s_good_rows) h123 h124 h125⟩
    g_good_rows := mg_of X G h28
    F_law := ⟨_, fun_mk (st := s_law) h127 h128 h129⟩
    g_law := mg_of X G h29
    g_Standing := mg_of X G h0
    g_Wakes := mg_of X G h1
    g_Sleeps := mg_of X G h2
    g_BadRow := mg_of X G h4
    b_any := mg_none_of X G h135
    b_bool := mg_none_of X G h136
    b_enumerate := mg_none_of X G h137
    b_int := mg_none_of X G h138
    b_isinstance := mg_none_of X G h139
    b_len := mg_none_of X G h140
    b_list := mg_none_of X G h141
    b_range := mg_none_of X G h142
    b_str := mg_none_of X G h143
    b_tuple := mg_none_of X G h144
    c_DEEDS := ⟨_, .ref k_DEEDS, mg_of X G h145, rfl, fun _ => ⟨k_DEEDS, [.str "arm", .str "look", .str "work", .str "sleep"], rfl, .inr ⟨_, _, _, h146, rfl, rfl, (by show 4 ≤ sizeLine; decide), (.cons ⟨_, rfl⟩ (.cons ⟨_, rfl⟩ (.cons ⟨_, rfl⟩ (.cons ⟨_, rfl⟩ .nil))))⟩, ⟨_, _, rfl, ⟨rfl, by decide +kernel⟩, ⟨_, _, rfl, ⟨rfl, by decide +kernel⟩, ⟨_, _, rfl, ⟨rfl, by decide +kernel⟩, ⟨_, _, rfl, ⟨rfl, by decide +kernel⟩, rfl⟩⟩⟩⟩⟩⟩
    c_MOST_DEEDS := ⟨_, .int 8, mg_of X G h147, ⟨_, rfl⟩, fun _ => rfl⟩
    mk_Standing := ⟨h152, h12, h62, h153⟩
    cls_Standing := ⟨h148, h149, h150, h151⟩
    mk_Wakes := ⟨h158, h18, h86, h159⟩
    cls_Wakes := ⟨h154, h155, h156, h157⟩
    mk_Sleeps := ⟨h164, h15, h74, h165⟩
    cls_Sleeps := ⟨h160, h161, h162, h163⟩
    mt_Standing_key := ⟨h14, h70, h69⟩
    mt_Wakes_shows := ⟨h23, h106, h105⟩
    mt_Sleeps_shows := ⟨h24, h110, h109⟩
    ko := ⟨(fun C hC => match C, hC with | 0, _ => ⟨⟨h148, h149, h150, h151⟩, h168, h166, h167, h169⟩ | 1, _ => ⟨⟨h154, h155, h156, h157⟩, h185, h166, h167, h186⟩ | 2, _ => ⟨⟨h160, h161, h162, h163⟩, h202, h166, h167, h203⟩ | n + 3, hC => absurd hC (by omega)), (fun C b hC => match C, hC with | 0, _ => (match b with | .int => kit_ty (by decide +kernel) h172 | .str => kit_ty (by decide +kernel) h173 | .bl => kit_ty (by decide +kernel) h174 | .lst => kit_ty (by decide +kernel) h175 | .tup => kit_ty (by decide +kernel) h176 | .dic => kit_ty (by decide +kernel) h177) | 1, _ => (match b with | .int => kit_ty (by decide +kernel) h189 | .str => kit_ty (by decide +kernel) h190 | .bl => kit_ty (by decide +kernel) h191 | .lst => kit_ty (by decide +kernel) h192 | .tup => kit_ty (by decide +kernel) h193 | .dic => kit_ty (by decide +kernel) h194) | 2, _ => (match b with | .int => kit_ty (by decide +kernel) h206 | .str => kit_ty (by decide +kernel) h207 | .bl => kit_ty (by decide +kernel) h208 | .lst => kit_ty (by decide +kernel) h209 | .tup => kit_ty (by decide +kernel) h210 | .dic => kit_ty (by decide +kernel) h211) | n + 3, hC => absurd hC (by omega)), (fun C C' hC hC' => match C, C', hC, hC' with | 0, 0, _, _ => kit_own h170 h171 h219 h219 | 0, 1, _, _ => kit_own h187 h188 h220 h223 | 0, 2, _, _ => kit_own h204 h205 h221 h227 | 1, 0, _, _ => kit_own h170 h171 h222 h219 | 1, 1, _, _ => kit_own h187 h188 h223 h223 | 1, 2, _, _ => kit_own h204 h205 h224 h227 | 2, 0, _, _ => kit_own h170 h171 h225 h219 | 2, 1, _, _ => kit_own h187 h188 h226 h223 | 2, 2, _, _ => kit_own h204 h205 h227 h227 | n + 3, _, hC, _ => absurd hC (by omega) | _, n + 3, _, hC => absurd hC (by omega)), (fun T1 C' hT hC => match C', hC with | 0, _ => kbt0 T1 hT | 1, _ => kbt1 T1 hT | 2, _ => kbt2 T1 hT | n + 3, hC => absurd hC (by omega))⟩
    f_armed := (fun C hC => match C, hC with | 0, _ => ⟨⟨h148, h149, h150, h151⟩, h228⟩ | 1, _ => ⟨⟨h154, h155, h156, h157⟩, h229⟩ | 2, _ => ⟨⟨h160, h161, h162, h163⟩, h230⟩ | n + 3, hC => absurd hC (by omega))
    f_at := (fun C hC => match C, hC with | 0, _ => ⟨⟨h148, h149, h150, h151⟩, h231⟩ | 1, _ => ⟨⟨h154, h155, h156, h157⟩, h232⟩ | 2, _ => ⟨⟨h160, h161, h162, h163⟩, h233⟩ | n + 3, hC => absurd hC (by omega))
    f_moves := (fun C hC => match C, hC with | 0, _ => ⟨⟨h148, h149, h150, h151⟩, h234⟩ | 1, _ => ⟨⟨h154, h155, h156, h157⟩, h235⟩ | 2, _ => ⟨⟨h160, h161, h162, h163⟩, h236⟩ | n + 3, hC => absurd hC (by omega))
    f_noted := (fun C hC => match C, hC with | 0, _ => ⟨⟨h148, h149, h150, h151⟩, h237⟩ | 1, _ => ⟨⟨h154, h155, h156, h157⟩, h238⟩ | 2, _ => ⟨⟨h160, h161, h162, h163⟩, h239⟩ | n + 3, hC => absurd hC (by omega))
    f_standings := (fun C hC => match C, hC with | 0, _ => ⟨⟨h148, h149, h150, h151⟩, h240⟩ | 1, _ => ⟨⟨h154, h155, h156, h157⟩, h241⟩ | 2, _ => ⟨⟨h160, h161, h162, h163⟩, h242⟩ | n + 3, hC => absurd hC (by omega))
    f_work := (fun C hC => match C, hC with | 0, _ => ⟨⟨h148, h149, h150, h151⟩, h243⟩ | 1, _ => ⟨⟨h154, h155, h156, h157⟩, h244⟩ | 2, _ => ⟨⟨h160, h161, h162, h163⟩, h245⟩ | n + 3, hC => absurd hC (by omega))
    x_number := ⟨(fun C e => match C, e with | 0, e => nomatch (show false = true from e) | 1, e => nomatch (show false = true from e) | 2, e => nomatch (show false = true from e) | 3, e => nomatch (show false = true from e) | 4, _ => ⟨h261, h262, h252, h263⟩ | n + 5, e => nomatch (show false = true from e)), (fun C e => match C, e with | 0, e => nomatch (show false = true from e) | 1, e => nomatch (show false = true from e) | 2, e => nomatch (show false = true from e) | 3, e => nomatch (show false = true from e) | 4, _ => h260 | n + 5, e => nomatch (show false = true from e))⟩
    qa_Standing := h20
    qb_Standing := h94
    qn_Standing := h246
    qm_Standing := h169
    q1_Standing := knf0
    q2_Standing := (fun C hC => match C, hC with | 0, _ => notFirst_sub (.inl rfl) | 1, _ => notFirst_sub (.inr h222) | 2, _ => notFirst_sub (.inr h225) | n + 3, hC => absurd hC (by omega))
    qa_Wakes := h21
    qb_Wakes := h98
    qn_Wakes := h247
    qm_Wakes := h186
    q1_Wakes := knf1
    q2_Wakes := (fun C hC => match C, hC with | 0, _ => notFirst_sub (.inr h220) | 1, _ => notFirst_sub (.inl rfl) | 2, _ => notFirst_sub (.inr h226) | n + 3, hC => absurd hC (by omega))
    qa_Sleeps := h22
    qb_Sleeps := h102
    qn_Sleeps := h248
    qm_Sleeps := h203
    q1_Sleeps := knf2
    q2_Sleeps := (fun C hC => match C, hC with | 0, _ => notFirst_sub (.inr h221) | 1, _ => notFirst_sub (.inr h224) | 2, _ => notFirst_sub (.inl rfl) | n + 3, hC => absurd hC (by omega))
    ba_Wakes := h25
    bb_Wakes := h114
    ba_Sleeps := h26
    bb_Sleeps := h118
    F_BadRow_init := ⟨_, fun_mk (st := s_BadRow_init) h131 h132 h133⟩
    xi_BadRow := h30
    xt_BadRow := h255
    xo_BadRow := ⟨⟨_, _, _, _, _, _, _, _, _, _, _, _, _, _, _, h256, h257⟩, h258, h252, h253, h259⟩
    xn_BadRow_number := h260
    e_BadRow := (fun C b e => match C, e with | 0, e => nomatch (show none = some b from e) | 1, e => nomatch (show none = some b from e) | 2, e => nomatch (show none = some b from e) | 3, e => by cases e; exact exm_by h252 h254 h253 h264 | 4, e => by cases e; exact exm_by h252 h254 h253 h265 | n + 5, e => nomatch (show none = some b from e))
  }
  exact ⟨(PySem.W.fnOf "law" "law" (defArgs s_law) (defBody s_law) (defScope s_law) .none kV24 dc24 pm24 an24 cd24 ct24), fun s v => .of_eq rfl, fun base _ _ => law_fn (fn_law T (fun_mk (st := s_law) h127 h128 h129)) K40.law_true⟩
end K40
open PySem PySem.W PyProof.Rows
set_option maxRecDepth 100000 in
set_option maxHeartbeats 0 in
theorem PySem.Challenge.cw_plugbooks_k40_dozing_holds : PySem.Challenge.rw_plugbooks_k40_dozing.Holds := by
  w_on; o_law; k_head; (case hw => w_witness2)
  k_fill
  refine L3.law_walk (l := PySem.Challenge.rw_plugbooks_k40_dozing) (k := 8) rfl rfl ⟨rfl, by decide, by decide⟩ (fun w h Y => PySem.W.kIn_of Y) ?F
  case F =>
    intro w mg fa h KX G hmg
    refine' K40.all_mk KX G hmg ?h0 ?h1 ?h2 ?h3 ?h4 ?h5 ?h6 ?h7 ?h8 ?h9 ?h10 ?h11 ?h12 ?h13 ?h14 ?h15 ?h16 ?h17 ?h18 ?h19 ?h20 ?h21 ?h22 ?h23 ?h24 ?h25 ?h26 ?h27 ?h28 ?h29 ?h30 ?h31 ?h32 ?h33 ?h34 ?h35 ?h36 ?h37 ?h38 ?h39 ?h40 ?h41 ?h42 ?h43 ?h44 ?h45 ?h46 ?h47 ?h48 ?h49 ?h50 ?h51 ?h52 ?h53 ?h54 ?h55 ?h56 ?h57 ?h58 ?h59 ?h60 ?h61 ?h62 ?h63 ?h64 ?h65 ?h66 ?h67 ?h68 ?h69 ?h70 ?h71 ?h72 ?h73 ?h74 ?h75 ?h76 ?h77 ?h78 ?h79 ?h80 ?h81 ?h82 ?h83 ?h84 ?h85 ?h86 ?h87 ?h88 ?h89 ?h90 ?h91 ?h92 ?h93 ?h94 ?h95 ?h96 ?h97 ?h98 ?h99 ?h100 ?h101 ?h102 ?h103 ?h104 ?h105 ?h106 ?h107 ?h108 ?h109 ?h110 ?h111 ?h112 ?h113 ?h114 ?h115 ?h116 ?h117 ?h118 ?h119 ?h120 ?h121 ?h122 ?h123 ?h124 ?h125 ?h126 ?h127 ?h128 ?h129 ?h130 ?h131 ?h132 ?h133 ?h134 ?h135 ?h136 ?h137 ?h138 ?h139 ?h140 ?h141 ?h142 ?h143 ?h144 ?h145 ?h146 ?h147 ?h148 ?h149 ?h150 ?h151 ?h152 ?h153 ?h154 ?h155 ?h156 ?h157 ?h158 ?h159 ?h160 ?h161 ?h162 ?h163 ?h164 ?h165 ?h166 ?h167 ?h168 ?h169 ?h170 ?h171 ?h172 ?h173 ?h174 ?h175 ?h176 ?h177 ?h178 ?h179 ?h180 ?h181 ?h182 ?h183 ?h184 ?h185 ?h186 ?h187 ?h188 ?h189 ?h190 ?h191 ?h192 ?h193 ?h194 ?h195 ?h196 ?h197 ?h198 ?h199 ?h200 ?h201 ?h202 ?h203 ?h204 ?h205 ?h206 ?h207 ?h208 ?h209 ?h210 ?h211 ?h212 ?h213 ?h214 ?h215 ?h216 ?h217 ?h218 ?h219 ?h220 ?h221 ?h222 ?h223 ?h224 ?h225 ?h226 ?h227 ?h228 ?h229 ?h230 ?h231 ?h232 ?h233 ?h234 ?h235 ?h236 ?h237 ?h238 ?h239 ?h240 ?h241 ?h242 ?h243 ?h244 ?h245 ?h246 ?h247 ?h248 ?h249 ?h250 ?h251 ?h252 ?h253 ?h254 ?h255 ?h256 ?h257 ?h258 ?h259 ?h260 ?h261 ?h262 ?h263 ?h264 ?h265
    (case h0 => k_is)
    (case h1 => k_is)
    (case h2 => k_is)
    (case h3 => k_is)
    (case h4 => k_is)
    (case h5 => k_is)
    (case h6 => k_is)
    (case h7 => k_is)
    (case h8 => k_is)
    (case h9 => k_is)
    (case h10 => k_is)
    (case h11 => k_is)
    (case h12 => k_is)
    (case h13 => k_is)
    (case h14 => k_is)
    (case h15 => k_is)
    (case h16 => k_is)
    (case h17 => k_is)
    (case h18 => k_is)
    (case h19 => k_is)
    (case h20 => k_is)
    (case h21 => k_is)
    (case h22 => k_is)
    (case h23 => k_is)
    (case h24 => k_is)
    (case h25 => k_is)
    (case h26 => k_is)
    (case h27 => k_is)
    (case h28 => k_is)
    (case h29 => k_is)
    (case h30 => k_is)
    (case h31 => k_is)
    (case h32 => k_is)
    (case h33 => k_is)
    (case h34 => k_is)
    (case h35 => k_is)
    (case h36 => k_is)
    (case h37 => k_is)
    (case h38 => k_is)
    (case h39 => k_is)
    (case h40 => k_is)
    (case h41 => k_is)
    (case h42 => k_is)
    (case h43 => k_is)
    (case h44 => k_is)
    (case h45 => k_is)
    (case h46 => k_is)
    (case h47 => k_is)
    (case h48 => k_is)
    (case h49 => k_is)
    (case h50 => k_is)
    (case h51 => k_is)
    (case h52 => k_is)
    (case h53 => k_is)
    (case h54 => k_is)
    (case h55 => k_is)
    (case h56 => k_is)
    (case h57 => k_is)
    (case h58 => k_is)
    (case h59 => k_is)
    (case h60 => k_is)
    (case h61 => k_is)
    (case h62 => k_is)
    (case h63 => k_is)
    (case h64 => k_is)
    (case h65 => k_is)
    (case h66 => k_is)
    (case h67 => k_is)
    (case h68 => k_is)
    (case h69 => k_is)
    (case h70 => k_is)
    (case h71 => k_is)
    (case h72 => k_is)
    (case h73 => k_is)
    (case h74 => k_is)
    (case h75 => k_is)
    (case h76 => k_is)
    (case h77 => k_is)
    (case h78 => k_is)
    (case h79 => k_is)
    (case h80 => k_is)
    (case h81 => k_is)
    (case h82 => k_is)
    (case h83 => k_is)
    (case h84 => k_is)
    (case h85 => k_is)
    (case h86 => k_is)
    (case h87 => k_is)
    (case h88 => k_is)
    (case h89 => k_is)
    (case h90 => k_is)
    (case h91 => k_is)
    (case h92 => k_is)
    (case h93 => k_is)
    (case h94 => k_is)
    (case h95 => k_is)
    (case h96 => k_is)
    (case h97 => k_is)
    (case h98 => k_is)
    (case h99 => k_is)
    (case h100 => k_is)
    (case h101 => k_is)
    (case h102 => k_is)
    (case h103 => k_is)
    (case h104 => k_is)
    (case h105 => k_is)
    (case h106 => k_is)
    (case h107 => k_is)
    (case h108 => k_is)
    (case h109 => k_is)
    (case h110 => k_is)
    (case h111 => k_is)
    (case h112 => k_is)
    (case h113 => k_is)
    (case h114 => k_is)
    (case h115 => k_is)
    (case h116 => k_is)
    (case h117 => k_is)
    (case h118 => k_is)
    (case h119 => k_is)
    (case h120 => k_is)
    (case h121 => k_is)
    (case h122 => k_is)
    (case h123 => k_is)
    (case h124 => k_is)
    (case h125 => k_is)
    (case h126 => k_is)
    (case h127 => k_is)
    (case h128 => k_is)
    (case h129 => k_is)
    (case h130 => k_is)
    (case h131 => k_is)
    (case h132 => k_is)
    (case h133 => k_is)
    (case h134 => k_is)
    (case h135 => k_is)
    (case h136 => k_is)
    (case h137 => k_is)
    (case h138 => k_is)
    (case h139 => k_is)
    (case h140 => k_is)
    (case h141 => k_is)
    (case h142 => k_is)
    (case h143 => k_is)
    (case h144 => k_is)
    (case h145 => k_is)
    (case h146 => k_is)
    (case h147 => k_is)
    (case h148 => k_is)
    (case h149 => k_is)
    (case h150 => k_is)
    (case h151 => k_is)
    (case h152 => k_is)
    (case h153 => k_is)
    (case h154 => k_is)
    (case h155 => k_is)
    (case h156 => k_is)
    (case h157 => k_is)
    (case h158 => k_is)
    (case h159 => k_is)
    (case h160 => k_is)
    (case h161 => k_is)
    (case h162 => k_is)
    (case h163 => k_is)
    (case h164 => k_is)
    (case h165 => k_is)
    (case h166 => k_is)
    (case h167 => k_is)
    (case h168 => k_is)
    (case h169 => k_is)
    (case h170 => k_is)
    (case h171 => k_is)
    (case h172 => k_is)
    (case h173 => k_is)
    (case h174 => k_is)
    (case h175 => k_is)
    (case h176 => k_is)
    (case h177 => k_is)
    (case h178 => k_is)
    (case h179 => k_is)
    (case h180 => k_is)
    (case h181 => k_is)
    (case h182 => k_is)
    (case h183 => k_is)
    (case h184 => k_is)
    (case h185 => k_is)
    (case h186 => k_is)
    (case h187 => k_is)
    (case h188 => k_is)
    (case h189 => k_is)
    (case h190 => k_is)
    (case h191 => k_is)
    (case h192 => k_is)
    (case h193 => k_is)
    (case h194 => k_is)
    (case h195 => k_is)
    (case h196 => k_is)
    (case h197 => k_is)
    (case h198 => k_is)
    (case h199 => k_is)
    (case h200 => k_is)
    (case h201 => k_is)
    (case h202 => k_is)
    (case h203 => k_is)
    (case h204 => k_is)
    (case h205 => k_is)
    (case h206 => k_is)
    (case h207 => k_is)
    (case h208 => k_is)
    (case h209 => k_is)
    (case h210 => k_is)
    (case h211 => k_is)
    (case h212 => k_is)
    (case h213 => k_is)
    (case h214 => k_is)
    (case h215 => k_is)
    (case h216 => k_is)
    (case h217 => k_is)
    (case h218 => k_is)
    (case h219 => first | rfl | k_is)
    (case h220 => first | rfl | k_is)
    (case h221 => first | rfl | k_is)
    (case h222 => first | rfl | k_is)
    (case h223 => first | rfl | k_is)
    (case h224 => first | rfl | k_is)
    (case h225 => first | rfl | k_is)
    (case h226 => first | rfl | k_is)
    (case h227 => first | rfl | k_is)
    (case h228 => k_is)
    (case h229 => k_is)
    (case h230 => k_is)
    (case h231 => k_is)
    (case h232 => k_is)
    (case h233 => k_is)
    (case h234 => k_is)
    (case h235 => k_is)
    (case h236 => k_is)
    (case h237 => k_is)
    (case h238 => k_is)
    (case h239 => k_is)
    (case h240 => k_is)
    (case h241 => k_is)
    (case h242 => k_is)
    (case h243 => k_is)
    (case h244 => k_is)
    (case h245 => k_is)
    (case h246 => k_is)
    (case h247 => k_is)
    (case h248 => k_is)
    (case h249 => k_is)
    (case h250 => k_is)
    (case h251 => k_is)
    (case h252 => k_is)
    (case h253 => k_is)
    (case h254 => k_is)
    (case h255 => k_is)
    (case h256 => k_is)
    (case h257 => decide +kernel)
    (case h258 => k_is)
    (case h259 => k_is)
    (case h260 => k_is)
    (case h261 => k_is)
    (case h262 => k_is)
    (case h263 => k_is)
    (case h264 => first | rfl | k_is)
    (case h265 => first | rfl | k_is)

