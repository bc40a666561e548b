import PyProof.Rows.All
import Wide.All
import OpenK.AllK
import Wide.FinOn
import HandS.ForMost
import HandS.ForExc
import HandS.Flow
import HandS.Wide
import HandS.TupAny
import HandS.IsInst
import HandS.Deep
import HandS.Gcd
import HandS.SortInts
import HandS.Zip
import KE.DataMinMax
import KE.SortData
import HandS.SortKw
import HandS.Head0
import HandS.Head1
import HandS.Head2
import HandS.HeadEnd
import HandS.HeadHook1
import HandS.HeadHook2
import PySem.Challenge.RW_paintsmixed_k55_best_fillings
set_option Elab.async false
set_option linter.all false
set_option maxRecDepth 100000
set_option maxHeartbeats 4000000
set_option autoImplicit false
namespace PD
open PySem PySem.Spec PyProof.Rows L2
inductive D where
  | non | bl (b : Bool) | int (i : Int) | str (s : Str)
  | lst (xs : List D) | tup (xs : List D)
  | dK (ks : List Key) (vs : List D) | dT (ks : List (List Key)) (vs : List D)
  | ins (c : Str) (ns : List Str) (vs : List D)
  | scr (ns : List Int)
structure Ex where
  cls : Str
  fld : Option (Str × D)
inductive R (α : Type) where
  | ok (a : α) | ex (x : Ex) | no
def R.bind {α β : Type} : R α → (α → R β) → R β
  | .ok a, f => f a
  | .ex x, _ => .ex x
  | .no, _ => .no
@[simp] theorem R.bind_ok {α β : Type} (a : α) (f : α → R β) : (R.ok a).bind f = f a := rfl
@[simp] theorem R.bind_ex {α β : Type} (x : Ex) (f : α → R β) : (R.ex x).bind f = .ex x := rfl
@[simp] theorem R.bind_no {α β : Type} (f : α → R β) : (R.no).bind f = .no := rfl
structure Gb where
  K : PySem.W.Frag
  mg : Str → Option Value
def LW (K : PySem.W.Frag) (a : Addr) (xs : List V) : Prop :=
  ∃ (o : Obj) (its : Array Value) (n : Nat), K.lookup a = some o ∧ o.cls = .type "list" ∧ o.dict = none ∧ o.data = .seq its n ∧ its.size ≤ sizeLine ∧ Vals xs its.toList
abbrev AS := Addr → Prop
def Scr (G : Gb) (H : Hp) (a : Addr) (xs : List V) : Prop := (∃ o, H a = some (.frz o (.lst xs))) ∨ LW G.K a xs
theorem Scr.seq {G : Gb} {H : Hp} {a : Addr} {xs : List V} (h : Scr G H a xs) : SqL G.K H a xs := by
  rcases h with h | h
  · exact .inl (.inr h)
  · exact .inr h
mutual
def Rep (G : Gb) (H : Hp) (O : AS) : D → V → Prop
  | .non, v => v = .non
  | .bl b, v => v = .bl b
  | .int i, v => v = .int i
  | .str s, v => v = .str s
  | .lst ds, v => ∃ a xs, v = .ref a ∧ ¬ O a ∧ H a = some (.lst xs) ∧ Reps G H O ds xs
  | .scr ns, v => ∃ a, v = .ref a ∧ Scr G H a (ns.map V.int)
  | .tup ds, v => ∃ a xs, v = .ref a ∧ SqT G.K H a xs ∧ Reps G H O ds xs
  | .dK ks ds, v => ∃ a us, v = .ref a ∧ ¬ O a ∧ Rd H a (.dK us) ∧ us.map (·.1) = ks ∧ Reps G H O ds (us.map (·.2))
  | .dT ks ds, v => ∃ a us, v = .ref a ∧ ¬ O a ∧ Rd H a (.dT us) ∧ us.map (·.1) = ks ∧ Reps G H O ds (us.map (·.2))
  | .ins c ns ds, v => ∃ a C dx us, v = .ref a ∧ ¬ O a ∧ G.mg c = some (.ref C) ∧ H a = some (.ins C dx us) ∧ us.map (·.1) = ns ∧ Reps G H O ds (us.map (·.2))
def Reps (G : Gb) (H : Hp) (O : AS) : List D → List V → Prop
  | [], vs => vs = []
  | d :: ds, vs => ∃ v r, vs = v :: r ∧ Rep G H O d v ∧ Reps G H O ds r
end
def Top (G : Gb) (H : Hp) (O : AS) : D → Addr → Prop
  | .lst ds, a => ∃ xs, H a = some (.lst xs) ∧ Reps G H O ds xs
  | .dK ks ds, a => ∃ us, H a = some (.dK us) ∧ us.map (·.1) = ks ∧ Reps G H O ds (us.map (·.2))
  | .dT ks ds, a => ∃ us, H a = some (.dT us) ∧ us.map (·.1) = ks ∧ Reps G H O ds (us.map (·.2))
  | .ins c ns ds, a => ∃ C dx us, G.mg c = some (.ref C) ∧ H a = some (.ins C dx us) ∧ us.map (·.1) = ns ∧ Reps G H O ds (us.map (·.2))
  | _, _ => False
def Kid (G : Gb) (H : Hp) (O : AS) : D → V → Prop
  | .lst ds, v => ∃ a xs, v = .ref a ∧ H a = some (.lst xs) ∧ Reps G H O ds xs
  | .tup ds, v => ∃ a xs, v = .ref a ∧ SqT G.K H a xs ∧ Reps G H O ds xs
  | .dK ks ds, v => ∃ a us, v = .ref a ∧ Rd H a (.dK us) ∧ us.map (·.1) = ks ∧ Reps G H O ds (us.map (·.2))
  | .dT ks ds, v => ∃ a us, v = .ref a ∧ Rd H a (.dT us) ∧ us.map (·.1) = ks ∧ Reps G H O ds (us.map (·.2))
  | .ins c ns ds, v => ∃ a C dx us, v = .ref a ∧ G.mg c = some (.ref C) ∧ H a = some (.ins C dx us) ∧ us.map (·.1) = ns ∧ Reps G H O ds (us.map (·.2))
  | d, v => Rep G H O d v
def D.isMut : D → Bool
  | .lst _ | .dK .. | .dT .. | .ins .. => true
  | _ => false
mutual
def D.imm : D → Bool
  | .non | .bl _ | .int _ | .str _ | .scr _ => true
  | .tup ds => D.imms ds
  | _ => false
def D.imms : List D → Bool
  | [] => true
  | d :: ds => d.imm && D.imms ds
end
def D.kids : D → List D
  | .lst ds | .tup ds | .dK _ ds | .dT _ ds | .ins _ _ ds => ds
  | _ => []
@[simp] theorem D.imms_map_int (ns : List Int) : D.imms (ns.map D.int) = true := by
  induction ns with
  | nil => rfl
  | cons n r ih => show (true && D.imms (r.map D.int)) = true; rw [ih]; rfl
theorem D.imms_all : ∀ (ds : List D), D.imms ds = true ↔ ∀ d ∈ ds, d.imm = true
  | [] => by simp [D.imms]
  | d :: ds => by simp [D.imms, D.imms_all ds]
def fixd : HO → Bool
  | .tup _ => true
  | .frz _ _ => true
  | _ => false
def Ev (O : AS) (H H' : Hp) : Prop := ∀ a o, H a = some o → (fixd o = true ∨ ¬ O a) → H' a = some o
theorem Ev.of_same {O : AS} {H H' : Hp} (h : Same H H') : Ev O H H' := fun a o e _ => h a o e
section
variable {G : Gb} {H H' : Hp} {O O' : AS}
theorem rd_ev {a : Addr} {u : HO} (h : Ev O H H') (n : ¬ O a) (r : Rd H a u) : Rd H' a u := by
  rcases r with r | ⟨o, r⟩
  · exact .inl (h _ _ r (.inr n))
  · exact .inr ⟨o, h _ _ r (.inl rfl)⟩
theorem rd_some {a : Addr} {u : HO} (r : Rd H a u) : H a ≠ none := by
  rcases r with r | ⟨o, r⟩ <;> (rw [r]; exact fun z => nomatch z)
theorem sqt_ev {a : Addr} {xs : List V} (h : Ev O H H') (r : SqT G.K H a xs) : SqT G.K H' a xs := by
  rcases r with (r | ⟨o, r⟩) | r
  · exact .inl (.inl (h _ _ r (.inl rfl)))
  · exact .inl (.inr ⟨o, h _ _ r (.inl rfl)⟩)
  · exact .inr r
theorem scr_ev {a : Addr} {xs : List V} (h : Ev O H H') (r : Scr G H a xs) : Scr G H' a xs := by
  rcases r with ⟨o, r⟩ | r
  · exact .inl ⟨o, h _ _ r (.inl rfl)⟩
  · exact .inr r
mutual
theorem Rep.mono (h : Ev O H H') (k : ∀ a, H a ≠ none → ¬ O a → ¬ O' a) : ∀ (d : D) (v : V), Rep G H O d v → Rep G H' O' d v
  | .non, _, r => r
  | .bl _, _, r => r
  | .int _, _, r => r
  | .str _, _, r => r
  | .lst ds, v, ⟨a, xs, e, n, l, r⟩ => ⟨a, xs, e, k a (by rw [l]; exact fun z => nomatch z) n, h _ _ l (.inr n), Reps.mono h k ds xs r⟩
  | .scr ns, v, ⟨a, e, l⟩ => ⟨a, e, scr_ev h l⟩
  | .tup ds, v, ⟨a, xs, e, l, r⟩ => ⟨a, xs, e, sqt_ev h l, Reps.mono h k ds xs r⟩
  | .dK ks ds, v, ⟨a, us, e, n, l, m, r⟩ => ⟨a, us, e, k a (rd_some l) n, rd_ev h n l, m, Reps.mono h k ds _ r⟩
  | .dT ks ds, v, ⟨a, us, e, n, l, m, r⟩ => ⟨a, us, e, k a (rd_some l) n, rd_ev h n l, m, Reps.mono h k ds _ r⟩
  | .ins c ns ds, v, ⟨a, C, dx, us, e, n, g, l, m, r⟩ => ⟨a, C, dx, us, e, k a (by rw [l]; exact fun z => nomatch z) n, g, h _ _ l (.inr n), m, Reps.mono h k ds _ r⟩
theorem Reps.mono (h : Ev O H H') (k : ∀ a, H a ≠ none → ¬ O a → ¬ O' a) : ∀ (ds : List D) (vs : List V), Reps G H O ds vs → Reps G H' O' ds vs
  | [], _, r => r
  | d :: ds, _, ⟨v, r, e, r1, r2⟩ => ⟨v, r, e, Rep.mono h k d v r1, Reps.mono h k ds r r2⟩
end
theorem Rep.same (h : Same H H') {d : D} {v : V} (r : Rep G H O d v) : Rep G H' O d v := r.mono (Ev.of_same h) (fun _ _ n => n)
theorem Reps.same (h : Same H H') {ds : List D} {vs : List V} (r : Reps G H O ds vs) : Reps G H' O ds vs := r.mono (Ev.of_same h) (fun _ _ n => n)
theorem Rep.less (k : ∀ a, O' a → O a) {d : D} {v : V} (r : Rep G H O d v) : Rep G H O' d v := r.mono (Ev.of_same (Same.refl H)) (fun a _ n z => n (k a z))
theorem Reps.less (k : ∀ a, O' a → O a) {ds : List D} {vs : List V} (r : Reps G H O ds vs) : Reps G H O' ds vs := r.mono (Ev.of_same (Same.refl H)) (fun a _ n z => n (k a z))
mutual
theorem Rep.imm : ∀ (d : D) (v : V), d.imm = true → Rep G H O d v → Rep G H O' d v
  | .non, _, _, r => r
  | .bl _, _, _, r => r
  | .int _, _, _, r => r
  | .str _, _, _, r => r
  | .tup ds, v, i, ⟨a, xs, e, l, r⟩ => ⟨a, xs, e, l, Reps.imm ds xs (by simpa [D.imm] using i) r⟩
  | .lst _, _, i, _ => by simp [D.imm] at i
  | .scr _, _, _, r => r
  | .dK _ _, _, i, _ => by simp [D.imm] at i
  | .dT _ _, _, i, _ => by simp [D.imm] at i
  | .ins _ _ _, _, i, _ => by simp [D.imm] at i
theorem Reps.imm : ∀ (ds : List D) (vs : List V), D.imms ds = true → Reps G H O ds vs → Reps G H O' ds vs
  | [], _, _, r => r
  | d :: ds, _, i, ⟨v, r, e, r1, r2⟩ => by
    have i : (d.imm && D.imms ds) = true := i
    rw [Bool.and_eq_true] at i
    exact ⟨v, r, e, Rep.imm d v i.1 r1, Reps.imm ds r i.2 r2⟩
end
theorem Rep.kid {d : D} {v : V} (r : Rep G H O d v) : Kid G H O d v := by
  cases d with
  | lst ds => obtain ⟨a, xs, e, n, l, r⟩ := r; exact ⟨a, xs, e, l, r⟩
  | tup ds => exact r
  | dK ks ds => obtain ⟨a, us, e, n, l, m, r⟩ := r; exact ⟨a, us, e, l, m, r⟩
  | dT ks ds => obtain ⟨a, us, e, n, l, m, r⟩ := r; exact ⟨a, us, e, l, m, r⟩
  | ins c ns ds => obtain ⟨a, C, dx, us, e, n, g, l, m, r⟩ := r; exact ⟨a, C, dx, us, e, g, l, m, r⟩
  | _ => exact r
theorem Top.kid {d : D} {a : Addr} (r : Top G H O d a) : Kid G H O d (.ref a) := by
  cases d with
  | lst ds => obtain ⟨xs, l, r⟩ := r; exact ⟨a, xs, rfl, l, r⟩
  | dK ks ds => obtain ⟨us, l, m, r⟩ := r; exact ⟨a, us, rfl, .of l, m, r⟩
  | dT ks ds => obtain ⟨us, l, m, r⟩ := r; exact ⟨a, us, rfl, .of l, m, r⟩
  | ins c ns ds => obtain ⟨C, dx, us, g, l, m, r⟩ := r; exact ⟨a, C, dx, us, rfl, g, l, m, r⟩
  | _ => exact r.elim
theorem Top.rep {d : D} {a : Addr} (n : ¬ O a) (r : Top G H O d a) : Rep G H O d (.ref a) := by
  cases d with
  | lst ds => obtain ⟨xs, l, r⟩ := r; exact ⟨a, xs, rfl, n, l, r⟩
  | dK ks ds => obtain ⟨us, l, m, r⟩ := r; exact ⟨a, us, rfl, n, .of l, m, r⟩
  | dT ks ds => obtain ⟨us, l, m, r⟩ := r; exact ⟨a, us, rfl, n, .of l, m, r⟩
  | ins c ns ds => obtain ⟨C, dx, us, g, l, m, r⟩ := r; exact ⟨a, C, dx, us, rfl, n, g, l, m, r⟩
  | _ => exact r.elim
theorem Top.mut {d : D} {a : Addr} (r : Top G H O d a) : Mut (H a) ∧ H a ≠ none ∧ ∀ o, H a = some o → fixd o = false := by
  cases d with
  | lst ds => obtain ⟨xs, l, r⟩ := r; rw [l]; exact ⟨trivial, fun z => (nomatch z), fun o e => by cases e; rfl⟩
  | dK ks ds => obtain ⟨us, l, m, r⟩ := r; rw [l]; exact ⟨trivial, fun z => (nomatch z), fun o e => by cases e; rfl⟩
  | dT ks ds => obtain ⟨us, l, m, r⟩ := r; rw [l]; exact ⟨trivial, fun z => (nomatch z), fun o e => by cases e; rfl⟩
  | ins c ns ds => obtain ⟨C, dx, us, g, l, m, r⟩ := r; rw [l]; exact ⟨trivial, fun z => (nomatch z), fun o e => by cases e; rfl⟩
  | _ => exact r.elim
theorem Top.mono (h : Ev O H H') (k : ∀ a, H a ≠ none → ¬ O a → ¬ O' a) {d : D} {a : Addr} (ha : ∀ o, H a = some o → H' a = some o) (r : Top G H O d a) : Top G H' O' d a := by
  cases d with
  | lst ds => obtain ⟨xs, l, r⟩ := r; exact ⟨xs, ha _ l, r.mono h k⟩
  | dK ks ds => obtain ⟨us, l, m, r⟩ := r; exact ⟨us, ha _ l, m, r.mono h k⟩
  | dT ks ds => obtain ⟨us, l, m, r⟩ := r; exact ⟨us, ha _ l, m, r.mono h k⟩
  | ins c ns ds => obtain ⟨C, dx, us, g, l, m, r⟩ := r; exact ⟨C, dx, us, g, ha _ l, m, r.mono h k⟩
  | _ => exact r.elim
theorem Kid.mono (h : Same H H') (k : ∀ a, H a ≠ none → ¬ O a → ¬ O' a) {d : D} {v : V} (r : Kid G H O d v) : Kid G H' O' d v := by
  cases d with
  | lst ds => obtain ⟨a, xs, e, l, r⟩ := r; exact ⟨a, xs, e, h _ _ l, r.mono (Ev.of_same h) k⟩
  | tup ds => obtain ⟨a, xs, e, l, r⟩ := r; exact ⟨a, xs, e, sqt_ev (O := O) (Ev.of_same h) l, r.mono (Ev.of_same h) k⟩
  | dK ks ds => obtain ⟨a, us, e, l, m, r⟩ := r; exact ⟨a, us, e, rd_ev (O := fun _ => False) (Ev.of_same h) id l, m, r.mono (Ev.of_same h) k⟩
  | dT ks ds => obtain ⟨a, us, e, l, m, r⟩ := r; exact ⟨a, us, e, rd_ev (O := fun _ => False) (Ev.of_same h) id l, m, r.mono (Ev.of_same h) k⟩
  | ins c ns ds => obtain ⟨a, C, dx, us, e, g, l, m, r⟩ := r; exact ⟨a, C, dx, us, e, g, h _ _ l, m, r.mono (Ev.of_same h) k⟩
  | non => exact r
  | bl _ => exact r
  | int _ => exact r
  | str _ => exact r
  | scr ns => obtain ⟨a, e, l⟩ := r; exact ⟨a, e, scr_ev (O := O) (Ev.of_same h) l⟩
theorem Kid.same (h : Same H H') {d : D} {v : V} (r : Kid G H O d v) : Kid G H' O d v := r.mono h (fun _ _ n => n)
theorem Kid.less (k : ∀ a, O' a → O a) {d : D} {v : V} (r : Kid G H O d v) : Kid G H O' d v := r.mono (Same.refl H) (fun a _ n z => n (k a z))
theorem Reps.length : ∀ {ds : List D} {vs : List V}, Reps G H O ds vs → ds.length = vs.length
  | [], _, r => by rw [show _ = [] from r]; rfl
  | d :: ds, _, ⟨v, r, e, _, r2⟩ => by rw [e, List.length_cons, List.length_cons, Reps.length r2]
theorem Reps.get : ∀ {ds : List D} {vs : List V} {i : Nat} {d : D}, Reps G H O ds vs → ds[i]? = some d → ∃ v, vs[i]? = some v ∧ Rep G H O d v
  | [], _, _, _, _, e => by simp at e
  | d :: ds, _, 0, _, ⟨v, r, e, r1, _⟩, e' => by simp at e'; subst e' e; exact ⟨v, rfl, r1⟩
  | d :: ds, _, i + 1, _, ⟨v, r, e, _, r2⟩, e' => by
    subst e
    obtain ⟨w, h1, h2⟩ := Reps.get (i := i) r2 (by simpa using e')
    exact ⟨w, by simpa using h1, h2⟩
theorem Reps.append : ∀ {ds es : List D} {vs us : List V}, Reps G H O ds vs → Reps G H O es us → Reps G H O (ds ++ es) (vs ++ us)
  | [], _, _, _, r, s => by rw [show _ = [] from r]; exact s
  | d :: ds, _, _, _, ⟨v, r, e, r1, r2⟩, s => by subst e; exact ⟨v, _, rfl, r1, Reps.append r2 s⟩
theorem Reps.one {d : D} {v : V} (r : Rep G H O d v) : Reps G H O [d] [v] := ⟨v, [], rfl, r, rfl⟩
theorem Reps.take : ∀ {ds : List D} {vs : List V} (n : Nat), Reps G H O ds vs → Reps G H O (ds.take n) (vs.take n)
  | _, _, 0, _ => by simp [Reps]
  | [], _, n + 1, r => by rw [show _ = [] from r]; rfl
  | d :: ds, _, n + 1, ⟨v, r, e, r1, r2⟩ => by subst e; exact ⟨v, _, rfl, r1, Reps.take n r2⟩
theorem Reps.drop : ∀ {ds : List D} {vs : List V} (n : Nat), Reps G H O ds vs → Reps G H O (ds.drop n) (vs.drop n)
  | _, _, 0, r => r
  | [], _, n + 1, r => by rw [show _ = [] from r]; rfl
  | d :: ds, _, n + 1, ⟨v, r, e, r1, r2⟩ => by subst e; exact Reps.drop n r2
theorem Reps.set : ∀ {ds : List D} {vs : List V} (i : Nat) {d : D} {v : V}, Reps G H O ds vs → Rep G H O d v → Reps G H O (ds.set i d) (vs.set i v)
  | [], _, _, _, _, r, _ => by rw [show _ = [] from r]; rfl
  | d :: ds, _, 0, _, w, ⟨v, r, e, r1, r2⟩, q => by subst e; exact ⟨w, r, rfl, q, r2⟩
  | d :: ds, _, i + 1, _, w, ⟨v, r, e, r1, r2⟩, q => by subst e; exact ⟨v, _, rfl, r1, Reps.set i r2 q⟩
theorem Reps.reverse : ∀ {ds : List D} {vs : List V}, Reps G H O ds vs → Reps G H O ds.reverse vs.reverse
  | [], _, r => by rw [show _ = [] from r]; rfl
  | d :: ds, _, ⟨v, r, e, r1, r2⟩ => by
    subst e
    rw [List.reverse_cons, List.reverse_cons]
    exact (Reps.reverse r2).append (.one r1)
theorem Reps.map {α : Type} {f : α → D} {g : α → V} (h : ∀ a, Rep G H O (f a) (g a)) : ∀ l : List α, Reps G H O (l.map f) (l.map g)
  | [] => rfl
  | a :: l => ⟨_, _, rfl, h a, Reps.map h l⟩
theorem Reps.ints : ∀ {ns : List Int} {vs : List V}, Reps G H O (ns.map D.int) vs → vs = ns.map V.int
  | [], _, r => r
  | n :: ns, _, ⟨v, r, e, r1, r2⟩ => by subst e; rw [show v = V.int n from r1, Reps.ints r2]; rfl
theorem Reps.bls : ∀ {ns : List Bool} {vs : List V}, Reps G H O (ns.map D.bl) vs → vs = ns.map V.bl
  | [], _, r => r
  | n :: ns, _, ⟨v, r, e, r1, r2⟩ => by subst e; rw [show v = V.bl n from r1, Reps.bls r2]; rfl
theorem Reps.strs : ∀ {ns : List Str} {vs : List V}, Reps G H O (ns.map D.str) vs → vs = ns.map V.str
  | [], _, r => r
  | n :: ns, _, ⟨v, r, e, r1, r2⟩ => by subst e; rw [show v = V.str n from r1, Reps.strs r2]; rfl
end
end PD
set_option autoImplicit false
namespace PD
open PySem PySem.Spec PyProof.Rows L2
inductive Sl where
  | no | sh (d : D) | ow (d : D)
abbrev DS := List Sl
def ownAt (ρ : DS) (σ : L2.St) (i : Nat) (a : Addr) : Prop := (∃ d, ρ[i]? = some (.ow d)) ∧ σ[i]? = some (some (V.ref a))
def Own (B : AS) (ρ : DS) (σ : L2.St) (fr : List Nat) : AS := fun a => B a ∨ ∃ i, i ∉ fr ∧ ownAt ρ σ i a
def RelSl (G : Gb) (H : Hp) (O : AS) : Sl → Option V → Prop
  | .no, _ => True
  | .sh d, o => ∃ v, o = some v ∧ Rep G H O d v
  | .ow d, o => ∃ a, o = some (V.ref a) ∧ Top G H O d a
def mutO (H : Hp) (a : Addr) : Prop := ∃ o, H a = some o ∧ fixd o = false
structure RelS (G : Gb) (B : AS) (H0 : Hp) (ρ : DS) (σ : L2.St) (H : Hp) : Prop where
  len : σ.length = ρ.length
  rel : ∀ (i : Nat) (s : Sl) (o : Option V), ρ[i]? = some s → σ[i]? = some o → RelSl G H (Own B ρ σ []) s o
  inj : ∀ (i j : Nat) (a : Addr), ownAt ρ σ i a → ownAt ρ σ j a → i = j
  bm : ∀ a, B a → mutO H a
  bo : ∀ (i : Nat) (a : Addr), ownAt ρ σ i a → ¬ B a
  new : ∀ (i : Nat) (a : Addr), ownAt ρ σ i a → H0 a = none
  old : Same H0 H
section
variable {G : Gb} {B : AS} {H0 H H' : Hp} {ρ : DS} {σ : L2.St}
theorem Own.less {fr fr' : List Nat} (h : ∀ i ∈ fr', i ∈ fr) {a : Addr} (o : Own B ρ σ fr a) : Own B ρ σ fr' a := by
  rcases o with o | ⟨i, n, o⟩
  · exact .inl o
  · exact .inr ⟨i, fun z => n (h i z), o⟩
theorem RelS.slot (r : RelS G B H0 ρ σ H) {i : Nat} {s : Sl} (e : ρ[i]? = some s) : ∃ o, σ[i]? = some o ∧ RelSl G H (Own B ρ σ []) s o := by
  obtain ⟨hi, _⟩ := List.getElem?_eq_some_iff.mp e
  have hs : i < σ.length := by rw [r.len]; exact hi
  exact ⟨σ[i], List.getElem?_eq_getElem hs, r.rel i s _ e (List.getElem?_eq_getElem hs)⟩
theorem RelS.sh (r : RelS G B H0 ρ σ H) {i : Nat} {d : D} (e : ρ[i]? = some (.sh d)) : ∃ v, σ[i]? = some (some v) ∧ Rep G H (Own B ρ σ []) d v := by
  obtain ⟨o, h, v, eo, q⟩ := r.slot e
  exact ⟨v, by rw [h, eo], q⟩
theorem RelS.ow (r : RelS G B H0 ρ σ H) {i : Nat} {d : D} (e : ρ[i]? = some (.ow d)) : ∃ a, σ[i]? = some (some (.ref a)) ∧ Top G H (Own B ρ σ []) d a ∧ ownAt ρ σ i a := by
  obtain ⟨o, h, a, eo, q⟩ := r.slot e
  have h2 : σ[i]? = some (some (.ref a)) := by rw [h, eo]
  exact ⟨a, h2, q, ⟨d, e⟩, h2⟩
theorem RelS.mut (r : RelS G B H0 ρ σ H) {fr : List Nat} {a : Addr} (o : Own B ρ σ fr a) : mutO H a := by
  rcases o with o | ⟨i, _, ⟨d, e⟩, h⟩
  · exact r.bm a o
  · obtain ⟨b, h2, t, _⟩ := r.ow e
    rw [h] at h2
    cases h2
    obtain ⟨_, n, f⟩ := t.mut
    cases q : H a with
    | none => exact absurd q n
    | some o => exact ⟨o, q, f o q⟩
theorem mutO.same (h : Same H H') {a : Addr} (m : mutO H a) : mutO H' a := let ⟨o, e, f⟩ := m; ⟨o, h a o e, f⟩
theorem mutO.some {a : Addr} (m : mutO H a) : H a ≠ none := let ⟨o, e, _⟩ := m; by rw [e]; exact fun z => nomatch z
theorem RelS.same (r : RelS G B H0 ρ σ H) (h : Same H H') : RelS G B H0 ρ σ H' where
  len := r.len
  rel := fun i s o e1 e2 => by
    have q := r.rel i s o e1 e2
    cases s with
    | no => trivial
    | sh d => obtain ⟨v, e, q⟩ := q; exact ⟨v, e, q.same h⟩
    | ow d => obtain ⟨a, e, q⟩ := q; exact ⟨a, e, q.mono (Ev.of_same h) (fun _ _ n => n) (fun o z => h a o z)⟩
  inj := r.inj
  bm := fun a b => (r.bm a b).same h
  bo := r.bo
  new := r.new
  old := r.old.trans h
def Fresh (G : Gb) (H H' : Hp) (O : AS) (d : D) (v : V) : Prop := d.isMut = true → ∃ p, v = .ref p ∧ H p = none ∧ Top G H' (fun a => O a ∨ a = p) d p
structure RepX (G : Gb) (B : AS) (ρ : DS) (σ : L2.St) (ft fc : List Nat) (nw : Bool) (H H' : Hp) (d : D) (v : V) : Prop where
  top : Rep G H' (Own B ρ σ ft) d v
  kid : Kid G H' (Own B ρ σ fc) d v
  fresh : nw = true → Fresh G H H' (Own B ρ σ fc) d v
def ExR (G : Gb) (O : AS) (x : Ex) (cls : Value) (dd : Option Addr) (H : Hp) : Prop := ∃ C, G.mg x.cls = some (.ref C) ∧ cls = .ref C ∧
  match x.fld with
  | none => True
  | some (f, d) => ∃ p v, dd = some p ∧ H p = some (.xd [(f, v)]) ∧ Rep G H O d v
abbrev FE := DS → R D
def SimE (G : Gb) (W : WX) (t : TE) (f : FE) (ft fc : List Nat) (nw : Bool) : Prop :=
  ∀ (B : AS) (H0 : Hp) (ρ : DS) (σ : L2.St) (H : Hp), RelS G B H0 ρ σ H → ∀ Q : VK, (match f ρ with
    | .ok d => ∀ v H', Same H H' → RepX G B ρ σ ft fc nw H H' d v → Q v H'
    | .ex x => ∀ cls dd H', Same H H' → ExR G B x cls dd H' → W cls dd σ H'
    | .no => False) → t σ H Q
structure Good {ι : Type} (X : ι → Cx) (G : Gb) : Prop where
  k : ∀ i, (X i).K = G.K
  m : ∀ i, (X i).mg = G.mg
  calm : ∀ i, (X i).calm = true
def PD {ι : Type} (X : ι → Cx) (G : Gb) (W : WX) (e : Expr) (f : FE) (ft fc : List Nat) (nw : Bool) : Prop := ∃ t, (∀ i, PE (X i) e t) ∧ SimE G W t f ft fc nw
abbrev FT := DS → R Bool
def SimT (G : Gb) (W : WX) (t : TT) (f : FT) : Prop :=
  ∀ (B : AS) (H0 : Hp) (ρ : DS) (σ : L2.St) (H : Hp), RelS G B H0 ρ σ H → ∀ Q : Bool → Hp → Prop, (match f ρ with
    | .ok b => ∀ H', Same H H' → Q b H'
    | .ex x => ∀ cls dd H', Same H H' → ExR G B x cls dd H' → W cls dd σ H'
    | .no => False) → t σ H Q
def PTD {ι : Type} (X : ι → Cx) (G : Gb) (W : WX) (e : Expr) (f : FT) : Prop := ∃ t, (∀ i, PT (X i) e t) ∧ SimT G W t f
def PWD {ι : Type} (X : ι → Cx) (G : Gb) (W : WX) (e : Expr) (f : FT) : Prop := ∃ t, (∀ i, PW (X i) e t) ∧ SimT G W t f
abbrev FA := DS → R (List D)
def Kids (G : Gb) (H : Hp) (O : AS) : List D → List V → Prop
  | [], vs => vs = []
  | d :: ds, vs => ∃ v r, vs = v :: r ∧ Kid G H O d v ∧ Kids G H O ds r
def SimA (G : Gb) (W : WX) (t : TA) (f : FA) (ft fc : List Nat) : Prop :=
  ∀ (B : AS) (H0 : Hp) (ρ : DS) (σ : L2.St) (H : Hp), RelS G B H0 ρ σ H → ∀ Q : List V → Hp → Prop, (match f ρ with
    | .ok ds => ∀ vs H', Same H H' → Reps G H' (Own B ρ σ ft) ds vs → Kids G H' (Own B ρ σ fc) ds vs → Q vs H'
    | .ex x => ∀ cls dd H', Same H H' → ExR G B x cls dd H' → W cls dd σ H'
    | .no => False) → t σ H Q
def PAD {ι : Type} (X : ι → Cx) (G : Gb) (W : WX) (es : List Expr) (f : FA) (ft fc : List Nat) : Prop := ∃ t, (∀ i, PA (X i) es t) ∧ SimA G W t f ft fc ∧ ∀ (ρ : DS) (ds : List D), f ρ = .ok ds → ds.length = es.length
inductive SO where
  | nx (ρ : DS) | rt (d : D) | bk (ρ : DS) | ct (ρ : DS) | ex (x : Ex) (ρ : DS) | no
abbrev FS := DS → SO
def RepR (G : Gb) (B : AS) (nw : Bool) (H H' : Hp) (d : D) (v : V) : Prop := Rep G H' B d v ∧ (nw = true → Fresh G H H' B d v)
def SimS (G : Gb) (W : WX) (t : TS) (f : FS) (nw : Bool) : Prop :=
  ∀ (B : AS) (H0 : Hp) (ρ : DS) (σ : L2.St) (H : Hp), RelS G B H0 ρ σ H → ∀ D : Ends, (match f ρ with
    | .nx ρ' => ∀ σ' H', RelS G B H0 ρ' σ' H' → D.nx σ' H'
    | .rt d => ∀ v H', Same H0 H' → RepR G B nw H0 H' d v → D.rt v H'
    | .bk ρ' => ∀ σ' H', RelS G B H0 ρ' σ' H' → D.bk σ' H'
    | .ct ρ' => ∀ σ' H', RelS G B H0 ρ' σ' H' → D.ct σ' H'
    | .ex x ρ' => ∀ cls dd σ' H', RelS G B H0 ρ' σ' H' → ExR G B x cls dd H' → W cls dd σ' H'
    | .no => False) → t D σ H
def PSD {ι : Type} (X : ι → Cx) (G : Gb) (W : WX) (s : Stmt) (f : FS) (nw : Bool) : Prop := ∃ t, (∀ i, PS (X i) s t) ∧ SimS G W t f nw
def PSsD {ι : Type} (X : ι → Cx) (G : Gb) (W : WX) (s : List Stmt) (f : FS) (nw : Bool) : Prop := ∃ t, (∀ i, PSs (X i) s t) ∧ SimS G W t f nw
abbrev FF := List D → R D
def spF (G : Gb) (F : FF) (nw : Bool) (n : Nat) : Sp := fun vs H Q E => vs.length = n ∧ ∃ (O : AS) (ds : List D), (∀ a, O a → mutO H a) ∧ Reps G H O ds vs ∧
  match F ds with
  | .ok d => ∀ v H', Same H H' → RepR G O nw H H' d v → Q v H'
  | .ex x => ∀ cls dd H', Same H H' → ExR G O x cls dd H' → E cls dd H'
  | .no => False
end
end PD
set_option autoImplicit false
namespace PD
open PySem PySem.Spec PyProof.Rows L2
def frz1 (i : Nat) (ρ : DS) : DS := match ρ[i]? with
  | some (.ow d) => ρ.set i (.sh d)
  | _ => ρ
def frz : List Nat → DS → DS
  | [], ρ => ρ
  | i :: r, ρ => frz r (frz1 i ρ)
@[simp] theorem frz_nil (ρ : DS) : frz [] ρ = ρ := rfl
section
variable {G : Gb} {B : AS} {H0 H H' : Hp} {ρ : DS} {σ : L2.St}
theorem Own.mono_slots {ρ' : DS} {σ' : L2.St} {fr fr' : List Nat} (h : ∀ i a, i ∉ fr' → ownAt ρ' σ' i a → i ∉ fr ∧ ownAt ρ σ i a) {a : Addr} (o : Own B ρ' σ' fr' a) : Own B ρ σ fr a := by
  rcases o with o | ⟨i, n, o⟩
  · exact .inl o
  · exact .inr ⟨i, h i a n o⟩
theorem RelS.sub {ρ' : DS} {σ' : L2.St} (r : RelS G B H0 ρ σ H) (hl : σ'.length = ρ'.length) (ho : ∀ i a, ownAt ρ' σ' i a → ownAt ρ σ i a)
    (hr : ∀ (i : Nat) (s : Sl) (o : Option V), ρ'[i]? = some s → σ'[i]? = some o → RelSl G H (Own B ρ' σ' []) s o) : RelS G B H0 ρ' σ' H where
  len := hl
  rel := hr
  inj := fun i j a h1 h2 => r.inj i j a (ho i a h1) (ho j a h2)
  bm := r.bm
  bo := fun i a h => r.bo i a (ho i a h)
  new := fun i a h => r.new i a (ho i a h)
  old := r.old
theorem RelSl.less {O O' : AS} (k : ∀ a, O' a → O a) {s : Sl} {o : Option V} (r : RelSl G H O s o) : RelSl G H O' s o := by
  cases s with
  | no => trivial
  | sh d => obtain ⟨v, e, q⟩ := r; exact ⟨v, e, q.less k⟩
  | ow d => obtain ⟨a, e, q⟩ := r; exact ⟨a, e, q.mono (Ev.of_same (Same.refl H)) (fun a _ n z => n (k a z)) (fun _ z => z)⟩
theorem ownAt_set_not {i j : Nat} {s : Sl} {o : Option V} {a : Addr} (hs : ∀ d, s ≠ .ow d) (h : ownAt (ρ.set i s) (σ.set i o) j a) : j ≠ i ∧ ownAt ρ σ j a := by
  obtain ⟨⟨d, e1⟩, e2⟩ := h
  by_cases hj : i = j
  · subst hj
    rw [List.getElem?_set] at e1
    simp only [if_true] at e1
    split at e1
    · cases e1; exact absurd rfl (hs d)
    · cases e1
  · rw [List.getElem?_set_ne hj] at e1 e2
    exact ⟨fun z => hj z.symm, ⟨d, e1⟩, e2⟩
theorem frz1_own {i j : Nat} {a : Addr} (h : ownAt (frz1 i ρ) σ j a) : j ≠ i ∧ ownAt ρ σ j a := by
  unfold frz1 at h
  split at h
  · rename_i d e
    have e2 : σ.set i (σ[i]?.join) = σ ∨ σ[i]? = none := by
      by_cases hi : i < σ.length
      · left
        apply List.ext_getElem?
        intro k
        rw [List.getElem?_set]
        split
        · rename_i hk
          subst hk
          simp [hi]
        · rfl
      · exact .inr (List.getElem?_eq_none (Nat.le_of_not_lt hi))
    obtain ⟨⟨d', e1⟩, e3⟩ := h
    by_cases hj : i = j
    · subst hj
      rw [List.getElem?_set] at e1
      simp only [if_true] at e1
      split at e1 <;> cases e1
    · rw [List.getElem?_set_ne hj] at e1
      exact ⟨fun z => hj z.symm, ⟨d', e1⟩, e3⟩
  · rename_i hn
    refine ⟨?_, h⟩
    rintro rfl
    obtain ⟨⟨d, e⟩, _⟩ := h
    exact hn d e
theorem frz_own : ∀ {fr : List Nat} {ρ : DS} {j : Nat} {a : Addr}, ownAt (frz fr ρ) σ j a → j ∉ fr ∧ ownAt ρ σ j a
  | [], _, _, _, h => ⟨by simp, h⟩
  | i :: r, ρ, j, a, h => by
    obtain ⟨h1, h2⟩ := frz_own (fr := r) (ρ := frz1 i ρ) h
    obtain ⟨h3, h4⟩ := frz1_own h2
    exact ⟨by simp only [List.mem_cons, not_or]; exact ⟨h3, h1⟩, h4⟩
theorem Own.frz {fr : List Nat} {a : Addr} (o : Own B (frz fr ρ) σ [] a) : Own B ρ σ fr a := o.mono_slots fun _ _ _ h => frz_own h
theorem frz1_length (i : Nat) (ρ : DS) : (frz1 i ρ).length = ρ.length := by
  unfold frz1; split <;> simp
theorem frz_length : ∀ (fr : List Nat) (ρ : DS), (frz fr ρ).length = ρ.length
  | [], _ => rfl
  | i :: r, ρ => by unfold PD.frz; rw [frz_length, frz1_length]
theorem RelS.frz1 (r : RelS G B H0 ρ σ H) (i : Nat) : RelS G B H0 (frz1 i ρ) σ H := by
  refine r.sub (by rw [frz1_length]; exact r.len) (fun j a h => (frz1_own h).2) fun j s o e1 e2 => ?_
  have less : ∀ a, Own B (PD.frz1 i ρ) σ [] a → Own B ρ σ [] a := fun a z => z.mono_slots fun k b _ h => ⟨by simp, (frz1_own h).2⟩
  by_cases hc : ∃ d, ρ[i]? = some (.ow d)
  · obtain ⟨d, hd⟩ := hc
    have e0 : PD.frz1 i ρ = ρ.set i (.sh d) := by unfold PD.frz1; rw [hd]
    by_cases hj : i = j
    · subst hj
      rw [e0, List.getElem?_set_self (List.getElem?_eq_some_iff.mp hd).1] at e1
      cases e1
      obtain ⟨a, h2, t, own⟩ := r.ow hd
      rw [e2] at h2
      cases h2
      refine ⟨.ref a, rfl, Top.rep (fun z => ?_) (t.mono (Ev.of_same (Same.refl H)) (fun a _ n z => n (less a z)) (fun _ z => z))⟩
      rcases z with z | ⟨k, _, z⟩
      · exact r.bo i a own z
      · obtain ⟨nk, z⟩ := frz1_own z
        exact nk (r.inj k i a z own)
    · rw [e0, List.getElem?_set_ne hj] at e1
      exact (r.rel j s o e1 e2).less less
  · have e0 : PD.frz1 i ρ = ρ := by
      unfold PD.frz1
      split
      · rename_i d h; exact absurd ⟨d, h⟩ hc
      · rfl
    rw [e0] at e1
    exact (r.rel j s o e1 e2).less less
theorem RelS.frz : ∀ (fr : List Nat) {ρ : DS}, RelS G B H0 ρ σ H → RelS G B H0 (frz fr ρ) σ H
  | [], _, r => r
  | i :: fr, _, r => RelS.frz fr (r.frz1 i)
theorem RelS.setSh (r : RelS G B H0 ρ σ H) {i : Nat} {d : D} {v : V} (q : Rep G H (Own B ρ σ []) d v) : RelS G B H0 (ρ.set i (.sh d)) (σ.set i (some v)) H := by
  have own : ∀ j a, ownAt (ρ.set i (.sh d)) (σ.set i (some v)) j a → j ≠ i ∧ ownAt ρ σ j a := fun j a h => ownAt_set_not (by intro _ z; cases z) h
  have less : ∀ a, Own B (ρ.set i (.sh d)) (σ.set i (some v)) [] a → Own B ρ σ [] a := fun a z => z.mono_slots fun k b _ h => ⟨by simp, (own k b h).2⟩
  refine r.sub (by simpa using r.len) (fun j a h => (own j a h).2) fun j s o e1 e2 => ?_
  by_cases hj : i = j
  · subst hj
    rw [List.getElem?_set] at e1 e2
    simp only [if_true] at e1 e2
    split at e1 <;> cases e1
    split at e2 <;> cases e2
    exact ⟨v, rfl, q.less less⟩
  · rw [List.getElem?_set_ne hj] at e1 e2
    exact (r.rel j s o e1 e2).less less
theorem RelS.setNo (r : RelS G B H0 ρ σ H) {i : Nat} {o : Option V} : RelS G B H0 (ρ.set i .no) (σ.set i o) H := by
  have own : ∀ j a, ownAt (ρ.set i .no) (σ.set i o) j a → j ≠ i ∧ ownAt ρ σ j a := fun j a h => ownAt_set_not (by intro _ z; cases z) h
  have less : ∀ a, Own B (ρ.set i .no) (σ.set i o) [] a → Own B ρ σ [] a := fun a z => z.mono_slots fun k b _ h => ⟨by simp, (own k b h).2⟩
  refine r.sub (by simpa using r.len) (fun j a h => (own j a h).2) fun j s o e1 e2 => ?_
  by_cases hj : i = j
  · subst hj
    rw [List.getElem?_set] at e1
    simp only [if_true] at e1
    split at e1 <;> cases e1
    trivial
  · rw [List.getElem?_set_ne hj] at e1 e2
    exact (r.rel j s o e1 e2).less less
theorem ownAt_set_ow {i j : Nat} {d : D} {p a : Addr} (h : ownAt (ρ.set i (.ow d)) (σ.set i (some (V.ref p))) j a) : (j = i ∧ a = p) ∨ (j ≠ i ∧ ownAt ρ σ j a) := by
  obtain ⟨⟨d', e1⟩, e2⟩ := h
  by_cases hj : i = j
  · subst hj
    rw [List.getElem?_set] at e2
    simp only [if_true] at e2
    split at e2
    · cases e2; exact .inl ⟨rfl, rfl⟩
    · cases e2
  · rw [List.getElem?_set_ne hj] at e1 e2
    exact .inr ⟨fun z => hj z.symm, ⟨d', e1⟩, e2⟩
theorem RelS.setOw {H1 : Hp} (r : RelS G B H0 ρ σ H1) (sm : Same H1 H) {i : Nat} {d : D} {p : Addr} (h1 : H1 p = none) (t : Top G H (fun a => Own B ρ σ [] a ∨ a = p) d p) : RelS G B H0 (ρ.set i (.ow d)) (σ.set i (some (V.ref p))) H := by
  have hp : ¬ Own B ρ σ [] p := fun z => (r.mut z).some h1
  have h0 : H0 p = none := r.old.free h1
  have less : ∀ a, Own B (ρ.set i (.ow d)) (σ.set i (some (V.ref p))) [] a → Own B ρ σ [] a ∨ a = p := fun a z => by
    rcases z with z | ⟨k, _, z⟩
    · exact .inl (.inl z)
    · rcases ownAt_set_ow z with ⟨_, z⟩ | ⟨_, z⟩
      · exact .inr z
      · exact .inl (.inr ⟨k, by simp, z⟩)
  have k : ∀ a, H1 a ≠ none → ¬ Own B ρ σ [] a → ¬ Own B (ρ.set i (.ow d)) (σ.set i (some (V.ref p))) [] a := fun a ha n z => (less a z).elim n fun e => ha (e ▸ h1)
  refine ⟨by simpa using r.len, fun j s o e1 e2 => ?_, fun j k a h1 h2 => ?_, fun a b => (r.bm a b).same sm, fun j a h => ?_, fun j a h => ?_, r.old.trans sm⟩
  · by_cases hj : i = j
    · subst hj
      rw [List.getElem?_set] at e1 e2
      simp only [if_true] at e1 e2
      split at e1 <;> cases e1
      split at e2 <;> cases e2
      exact ⟨p, rfl, t.mono (Ev.of_same (Same.refl H)) (fun a _ n z => n (less a z)) (fun _ z => z)⟩
    · rw [List.getElem?_set_ne hj] at e1 e2
      have q := r.rel j s o e1 e2
      cases s with
      | no => trivial
      | sh d' => obtain ⟨v, e, q⟩ := q; exact ⟨v, e, q.mono (Ev.of_same sm) k⟩
      | ow d' => obtain ⟨a, e, q⟩ := q; exact ⟨a, e, q.mono (Ev.of_same sm) k (fun o z => sm _ o z)⟩
  · rcases ownAt_set_ow h1 with ⟨e1, e2⟩ | ⟨n1, h1⟩
    · rcases ownAt_set_ow h2 with ⟨e3, e4⟩ | ⟨n2, h2⟩
      · rw [e1, e3]
      · exact absurd (.inr ⟨k, by simp, e2 ▸ h2⟩) hp
    · rcases ownAt_set_ow h2 with ⟨e3, e4⟩ | ⟨n2, h2⟩
      · exact absurd (.inr ⟨j, by simp, e4 ▸ h1⟩) hp
      · exact r.inj j k a h1 h2
  · rcases ownAt_set_ow h with ⟨e1, e2⟩ | ⟨n1, h⟩
    · rw [e2]; exact fun z => hp (.inl z)
    · exact r.bo j a h
  · rcases ownAt_set_ow h with ⟨e1, e2⟩ | ⟨n1, h⟩
    · rw [e2]; exact h0
    · exact r.new j a h
theorem RelS.wr (r : RelS G B H0 ρ σ H) {i : Nat} {d d' : D} {a : Addr} {o : HO} (e : ρ[i]? = some (.ow d)) (e2 : σ[i]? = some (some (V.ref a)))
    (t : ∀ (O : AS) (H' : Hp), (∀ (x : D) (v : V), Rep G H (Own B ρ σ []) x v → Rep G H' O x v) → (∀ (xs : List D) (vs : List V), Reps G H (Own B ρ σ []) xs vs → Reps G H' O xs vs) → H' = upd H a o → Top G H' O d' a) : RelS G B H0 (ρ.set i (.ow d')) σ (upd H a o) := by
  have own : ownAt ρ σ i a := ⟨⟨d, e⟩, e2⟩
  have ea : σ.set i (some (V.ref a)) = σ := by
    apply List.ext_getElem?
    intro k
    rw [List.getElem?_set]
    split
    · rename_i hk; subst hk; split
      · exact e2.symm
      · rename_i hn; exact absurd (List.getElem?_eq_some_iff.mp e2).1 hn
    · rfl
  have oa : Own B ρ σ [] a := .inr ⟨i, by simp, own⟩
  have ev : Ev (Own B ρ σ []) H (upd H a o) := fun b u hb hf => by
    by_cases hba : b = a
    · subst hba
      rcases hf with hf | hf
      · obtain ⟨u', h1, h2⟩ := r.mut oa
        rw [hb] at h1; cases h1
        rw [hf] at h2; cases h2
      · exact absurd oa hf
    · rw [upd_ne hba]; exact hb
  have ow : ∀ j b, ownAt (ρ.set i (.ow d')) σ j b → ownAt ρ σ j b := fun j b h => by
    rw [← ea] at h
    rcases ownAt_set_ow h with ⟨rfl, rfl⟩ | ⟨_, h⟩
    · exact own
    · exact h
  have less : ∀ b, Own B (ρ.set i (.ow d')) σ [] b → Own B ρ σ [] b := fun b z => z.mono_slots fun k b _ h => ⟨by simp, ow k b h⟩
  have k : ∀ b, H b ≠ none → ¬ Own B ρ σ [] b → ¬ Own B (ρ.set i (.ow d')) σ [] b := fun b _ n z => n (less b z)
  refine ⟨by simpa using r.len, fun j s o' e1 e3 => ?_, fun j k a h1 h2 => r.inj j k a (ow _ _ h1) (ow _ _ h2), fun b hb => ?_, fun j b h => r.bo j b (ow _ _ h), fun j b h => r.new j b (ow _ _ h), fun b u hb => ?_⟩
  · by_cases hj : i = j
    · subst hj
      rw [List.getElem?_set_self (List.getElem?_eq_some_iff.mp e).1] at e1
      cases e1
      rw [e2] at e3; cases e3
      exact ⟨a, rfl, t _ _ (fun x v q => q.mono ev k) (fun x v q => q.mono ev k) rfl⟩
    · rw [List.getElem?_set_ne hj] at e1
      have q := r.rel j s o' e1 e3
      cases s with
      | no => trivial
      | sh x => obtain ⟨v, e, q⟩ := q; exact ⟨v, e, q.mono ev k⟩
      | ow x =>
        obtain ⟨b, eb, q⟩ := q
        subst eb
        refine ⟨b, rfl, q.mono ev k fun u hu => ?_⟩
        rw [upd_ne]
        · exact hu
        · rintro rfl
          exact hj (r.inj i j b own ⟨⟨x, e1⟩, e3⟩)
  · obtain ⟨u, h1, h2⟩ := r.bm b hb
    refine ⟨u, ?_, h2⟩
    rw [upd_ne]
    · exact h1
    · rintro rfl
      exact r.bo i b own hb
  · have n0 := r.new i a own
    rw [upd_ne (ne_of_none hb n0)]
    exact r.old b u hb
end
end PD
set_option autoImplicit false
namespace PD
open PySem PySem.Spec PyProof.Rows L2
section
variable {G : Gb} {B : AS} {H0 H H' H1 : Hp} {ρ : DS} {σ : L2.St} {W : WX}
theorem Own.mut (r : RelS G B H0 ρ σ H) {fr : List Nat} {a : Addr} (o : Own B ρ σ fr a) : H a ≠ none := (r.mut o).some
theorem RepX.same {ft fc : List Nat} {nw : Bool} {d : D} {v : V} (x : RepX G B ρ σ ft fc nw H H1 d v) (s : Same H1 H') : RepX G B ρ σ ft fc nw H H' d v :=
  ⟨x.top.same s, x.kid.same s, fun e m => let ⟨p, h1, h2, t⟩ := x.fresh e m; ⟨p, h1, h2, t.mono (Ev.of_same s) (fun _ _ n => n) (fun o z => s _ o z)⟩⟩
theorem RepX.of {O : AS} {ft fc : List Nat} {nw : Bool} {d : D} {v : V} (q : Rep G H' O d v) (k1 : ∀ a, Own B ρ σ ft a → O a) (k2 : ∀ a, Own B ρ σ fc a → O a) (f : nw = true → Fresh G H H' O d v) : RepX G B ρ σ ft fc nw H H' d v :=
  ⟨q.less k1, (q.less k2).kid, fun e m => let ⟨p, h1, h2, t⟩ := f e m; ⟨p, h1, h2, t.mono (Ev.of_same (Same.refl H')) (fun a _ n z => n (z.elim (fun z => .inl (k2 a z)) .inr)) (fun _ z => z)⟩⟩
theorem Own.app1 {a b : List Nat} {p : Addr} (h : Own B ρ σ (a ++ b) p) : Own B ρ σ a p := h.less fun i hi => List.mem_append_left _ hi
theorem Own.app2 {a b : List Nat} {p : Addr} (h : Own B ρ σ (a ++ b) p) : Own B ρ σ b p := h.less fun i hi => List.mem_append_right _ hi
theorem Own.nil {a : List Nat} {p : Addr} (h : Own B ρ σ a p) : Own B ρ σ [] p := h.less fun i hi => by cases hi
def eV (i : Nat) : FE := fun ρ => match ρ[i]? with
  | some (.sh d) => .ok d
  | _ => .no
def eO (i : Nat) : FE := fun ρ => match ρ[i]? with
  | some (.sh d) => .ok d
  | some (.ow d) => .ok d
  | _ => .no
def eC (d : D) : FE := fun _ => .ok d
theorem sim_v (i : Nat) : SimE G W (tVar i) (eV i) [] [] false := fun B H0 ρ σ H r Q h => by
  unfold eV at h
  split at h
  · rename_i d e
    split at e
    · rename_i d' e'
      cases e
      obtain ⟨v, h1, h2⟩ := r.sh e'
      exact ⟨v, h1, h v H (Same.refl H) ⟨h2, h2.kid, fun z => nomatch z⟩⟩
    · cases e
  · rename_i e; split at e <;> cases e
  · exact h.elim
theorem sim_o (i : Nat) : SimE G W (tVar i) (eO i) [i] [] false := fun B H0 ρ σ H r Q h => by
  unfold eO at h
  split at h
  · rename_i d e
    split at e
    · rename_i d' e'
      cases e
      obtain ⟨v, h1, h2⟩ := r.sh e'
      exact ⟨v, h1, h v H (Same.refl H) ⟨h2.less fun a z => z.nil, h2.kid, fun z => nomatch z⟩⟩
    · rename_i d' e'
      cases e
      obtain ⟨a, h1, t, o⟩ := r.ow e'
      refine ⟨.ref a, h1, h _ H (Same.refl H) ⟨Top.rep (fun z => ?_) (t.mono (Ev.of_same (Same.refl H)) (fun a _ n z => n z.nil) (fun _ z => z)), t.kid, fun z => nomatch z⟩⟩
      rcases z with z | ⟨j, n, z⟩
      · exact r.bo i a o z
      · exact n (by rw [r.inj j i a z o]; exact List.mem_singleton.mpr rfl)
    · cases e
  · rename_i e; split at e <;> cases e
  · exact h.elim
theorem sim_c {d : D} {v : V} (q : ∀ H O, Rep G H O d v) (m : d.isMut = false) : SimE G W (tC v) (eC d) [] [] true := fun B H0 ρ σ H r Q h =>
  h v H (Same.refl H) ⟨q _ _, (q _ _).kid, fun _ z => by rw [m] at z; cases z⟩
variable {ι : Type} {X : ι → Cx}
theorem pd_v (i : Nat) {x : Str} {pos : Pos} (hN : ∀ j, (X j).N[i]? = some x := by exact fun _ => rfl) (hv : ∀ j, Vis (X j).env.scope x := by first | exact fun _ => Or.inl rfl | exact fun _ => Or.inr (Or.inl rfl) | exact fun _ => Or.inr (Or.inr rfl)) (hd : (x == ("__debug__" : Str)) = false := by decide) (hcd : (x == ("__classdict__" : Str)) = false := by decide) : PD X G W (.Name x pos) (eV i) [] [] false :=
  ⟨_, fun j => pe_var (hN j) (hv j) hd hcd, sim_v i⟩
theorem pd_o (i : Nat) {x : Str} {pos : Pos} (hN : ∀ j, (X j).N[i]? = some x := by exact fun _ => rfl) (hv : ∀ j, Vis (X j).env.scope x := by first | exact fun _ => Or.inl rfl | exact fun _ => Or.inr (Or.inl rfl) | exact fun _ => Or.inr (Or.inr rfl)) (hd : (x == ("__debug__" : Str)) = false := by decide) (hcd : (x == ("__classdict__" : Str)) = false := by decide) : PD X G W (.Name x pos) (eO i) [i] [] false :=
  ⟨_, fun j => pe_var (hN j) (hv j) hd hcd, sim_o i⟩
theorem pd_int {i : Int} {k : Nat} {pos : Pos} : PD X G W (.Constant (.int i) k pos) (eC (.int i)) [] [] true := ⟨_, fun _ => pe_int, sim_c (fun _ _ => rfl) rfl⟩
theorem pd_bl {b : Bool} {k : Nat} {pos : Pos} : PD X G W (.Constant (.bool b) k pos) (eC (.bl b)) [] [] true := ⟨_, fun _ => pe_bl, sim_c (fun _ _ => rfl) rfl⟩
theorem pd_non {k : Nat} {pos : Pos} : PD X G W (.Constant .none k pos) (eC .non) [] [] true := ⟨_, fun _ => pe_non, sim_c (fun _ _ => rfl) rfl⟩
theorem pd_str {s : Str} {k : Nat} {pos : Pos} : PD X G W (.Constant (.str s) k pos) (eC (.str s)) [] [] true := ⟨_, fun _ => pe_str, sim_c (fun _ _ => rfl) rfl⟩
structure Konst (G : Gb) (x : Str) (d : D) : Prop where
  ex : ∃ v u, G.mg x = some u ∧ RelV v u ∧ ∀ H O, Rep G H O d v
theorem pd_glob {x : Str} {d : D} {pos : Pos} (g : Good X G) (c : Konst G x d) (hg : ∀ j, Gl (X j) x) (m : d.isMut = false := by rfl) (hd : (x == ("__debug__" : Str)) = false := by decide) : PD X G W (.Name x pos) (eC d) [] [] true := by
  obtain ⟨v, u, h1, h2, h3⟩ := c.ex
  exact ⟨_, fun j => pe_glob (hg j) (by rw [g.m]; exact h1) h2 hd, sim_c h3 m⟩
theorem PD.old {e : Expr} {f : FE} {ft fc : List Nat} {nw : Bool} (h : PD X G W e f ft fc nw) : PD X G W e f ft fc false := by
  obtain ⟨t, h1, h2⟩ := h
  refine ⟨t, h1, fun B H0 ρ σ H r Q h => h2 B H0 ρ σ H r Q ?_⟩
  cases e : f ρ with
  | ok d => rw [e] at h; exact fun v H' s x => h v H' s ⟨x.top, x.kid, fun z => nomatch z⟩
  | ex x => rw [e] at h; exact h
  | no => rw [e] at h; exact h
def ofO {α : Type} : Option α → R α
  | some a => .ok a
  | none => .no
@[simp] theorem ofO_some {α : Type} (a : α) : ofO (some a) = .ok a := rfl
@[simp] theorem ofO_none {α : Type} : ofO (none : Option α) = .no := rfl
def Op2S (G : Gb) (r : R2) (op : D → D → Option D) (nw : Bool) : Prop := ∀ (H : Hp) (O : AS) (a b : D) (x y : V) (Q : VK), (∀ p, O p → H p ≠ none) → Kid G H O a x → Kid G H O b y → ∀ d, op a b = some d →
  (∀ v H', Same H H' → Rep G H' O d v → (nw = true → Fresh G H H' O d v) → Q v H') → r x y H Q
def eBin (op : D → D → Option D) (f g : FE) : FE := fun ρ => (f ρ).bind fun a => (g ρ).bind fun b => ofO (op a b)
theorem sim_op {r : R2} {op : D → D → Option D} {nw nwa nwb : Bool} {ta tb : TE} {fa fb : FE} {fta fca ftb fcb : List Nat} (ho : Op2S G r op nw) (ha : SimE G W ta fa fta fca nwa) (hb : SimE G W tb fb ftb fcb nwb) :
    SimE G W (tOp r ta tb) (eBin op fa fb) (fca ++ fcb) (fca ++ fcb) nw := fun B H0 ρ σ H rl Q h => by
  unfold eBin at h
  refine ha B H0 ρ σ H rl _ ?_
  cases ea : fa ρ with
  | no => rw [ea] at h; exact h
  | ex x => rw [ea] at h; exact h
  | ok a =>
    rw [ea] at h
    intro x H1 s1 x1
    refine hb B H0 ρ σ H1 (rl.same s1) _ ?_
    cases eb : fb ρ with
    | no => rw [eb] at h; exact h
    | ex e => rw [eb] at h; exact fun cls dd H2 s2 => h cls dd H2 (s1.trans s2)
    | ok b =>
      rw [eb] at h
      intro y H2 s2 x2
      have s12 := s1.trans s2
      simp only [R.bind_ok] at h
      cases eo : op a b with
      | none => rw [eo] at h; exact h.elim
      | some d =>
        rw [eo] at h
        refine ho H2 (Own B ρ σ (fca ++ fcb)) a b x y Q (fun p o => (Own.mut (rl.same s12) o)) ((x1.kid.same s2).less fun _ z => z.app1) (x2.kid.less fun _ z => z.app2) d eo fun v H3 s3 q fr => ?_
        exact h v H3 (s12.trans s3) (RepX.of q (fun _ z => z) (fun _ z => z) fun e m => let ⟨p, e1, e2, t⟩ := fr e m; ⟨p, e1, s12.free e2, t⟩)
theorem pd_op {op : Operator} {r : R2} {o : D → D → Option D} {nw nwa nwb : Bool} {a b : Expr} {fa fb : FE} {fta fca ftb fcb : List Nat} {pos : Pos} (ho : Op2S G r o nw) (hr : ∀ i, OpR (X i) (binaryOp op) r) (ha : PD X G W a fa fta fca nwa) (hb : PD X G W b fb ftb fcb nwb) :
    PD X G W (.BinOp a op b pos) (eBin o fa fb) (fca ++ fcb) (fca ++ fcb) nw := by
  obtain ⟨ta, a1, a2⟩ := ha
  obtain ⟨tb, b1, b2⟩ := hb
  exact ⟨_, fun i => pe_op (hr i) (a1 i) (b1 i), sim_op ho a2 b2⟩
theorem pd_cmp {op : CmpOp} {r : R2} {o : D → D → Option D} {nw nwa nwb : Bool} {a b : Expr} {fa fb : FE} {fta fca ftb fcb : List Nat} {pos : Pos} (ho : Op2S G r o nw) (hr : ∀ i, OpR (X i) (compareOp op) r) (ha : PD X G W a fa fta fca nwa) (hb : PD X G W b fb ftb fcb nwb) (hm : behindInMarks op b = false) :
    PD X G W (.Compare a [op] [b] pos) (eBin o fa fb) (fca ++ fcb) (fca ++ fcb) nw := by
  obtain ⟨ta, a1, a2⟩ := ha
  obtain ⟨tb, b1, b2⟩ := hb
  exact ⟨_, fun i => pe_cmpR (hr i) (a1 i) (b1 i) hm, sim_op ho a2 b2⟩
def asB : D → R Bool
  | .bl b => .ok b
  | _ => .no
def tE (f : FE) : FT := fun ρ => (f ρ).bind asB
theorem sim_test {t : TE} {f : FE} {ft fc : List Nat} {nw : Bool} (h : SimE G W t f ft fc nw) : SimT G W (tTest t) (tE f) := fun B H0 ρ σ H rl Q hq => by
  refine h B H0 ρ σ H rl _ ?_
  unfold tE at hq
  cases e : f ρ with
  | no => rw [e] at hq; exact hq
  | ex x => rw [e] at hq; exact hq
  | ok d =>
    rw [e] at hq
    intro v H1 s1 x1
    cases d with
    | bl b => exact ⟨b, x1.top, hq H1 s1⟩
    | _ => exact False.elim hq
theorem ptd_cmp {op : CmpOp} {r : R2} {o : D → D → Option D} {nw nwa nwb : Bool} {a b : Expr} {fa fb : FE} {fta fca ftb fcb : List Nat} {pos : Pos} (ho : Op2S G r o nw) (hr : ∀ i, OpR (X i) (compareOp op) r) (ha : PD X G W a fa fta fca nwa) (hb : PD X G W b fb ftb fcb nwb) (hm : behindInMarks op b = false) :
    PTD X G W (.Compare a [op] [b] pos) (tE (eBin o fa fb)) := by
  obtain ⟨ta, a1, a2⟩ := ha
  obtain ⟨tb, b1, b2⟩ := hb
  exact ⟨_, fun i => pt_cmpR (hr i) (a1 i) (b1 i) hm, sim_test (sim_op ho a2 b2)⟩
theorem ptd_val {e : Expr} {f : FE} {ft fc : List Nat} {nw : Bool} (h : PD X G W e f ft fc nw) (he : ∀ i whole, isTrue e (X i).env whole = (do let v ← whole; standAt e.pos; holding [v] (truthy v))) : PTD X G W e (tE f) := by
  obtain ⟨t, h1, h2⟩ := h
  exact ⟨_, fun i => pt_val (h1 i) (he i), sim_test h2⟩
def tNotD (f : FT) : FT := fun ρ => (f ρ).bind fun b => .ok (!b)
def tAndD (f g : FT) : FT := fun ρ => (f ρ).bind fun b => if b = true then g ρ else .ok false
def tOrD (f g : FT) : FT := fun ρ => (f ρ).bind fun b => if b = true then .ok true else g ρ
theorem sim_not {t : TT} {f : FT} (h : SimT G W t f) : SimT G W (tNot t) (tNotD f) := fun B H0 ρ σ H rl Q hq => by
  refine h B H0 ρ σ H rl _ ?_
  unfold tNotD at hq
  cases e : f ρ with
  | no => rw [e] at hq; exact hq
  | ex x => rw [e] at hq; exact hq
  | ok b => rw [e] at hq; exact hq
theorem sim_and {t u : TT} {f g : FT} (h : SimT G W t f) (h' : SimT G W u g) : SimT G W (tAnd t u) (tAndD f g) := fun B H0 ρ σ H rl Q hq => by
  refine h B H0 ρ σ H rl _ ?_
  unfold tAndD at hq
  cases e : f ρ with
  | no => rw [e] at hq; exact hq
  | ex x => rw [e] at hq; exact hq
  | ok b =>
    rw [e] at hq
    intro H1 s1
    cases b with
    | true =>
      rw [if_pos rfl]
      refine h' B H0 ρ σ H1 (rl.same s1) Q ?_
      simp only [R.bind_ok, if_true] at hq
      cases e2 : g ρ with
      | no => rw [e2] at hq; exact hq
      | ex x => rw [e2] at hq; exact fun c d H2 s2 => hq c d H2 (s1.trans s2)
      | ok b => rw [e2] at hq; exact fun H2 s2 => hq H2 (s1.trans s2)
    | false =>
      rw [if_neg Bool.false_ne_true]
      exact hq H1 s1
theorem sim_or {t u : TT} {f g : FT} (h : SimT G W t f) (h' : SimT G W u g) : SimT G W (tOr t u) (tOrD f g) := fun B H0 ρ σ H rl Q hq => by
  refine h B H0 ρ σ H rl _ ?_
  unfold tOrD at hq
  cases e : f ρ with
  | no => rw [e] at hq; exact hq
  | ex x => rw [e] at hq; exact hq
  | ok b =>
    rw [e] at hq
    intro H1 s1
    cases b with
    | false =>
      rw [if_neg Bool.false_ne_true]
      refine h' B H0 ρ σ H1 (rl.same s1) Q ?_
      simp only [R.bind_ok, Bool.false_eq_true, if_false] at hq
      cases e2 : g ρ with
      | no => rw [e2] at hq; exact hq
      | ex x => rw [e2] at hq; exact fun c d H2 s2 => hq c d H2 (s1.trans s2)
      | ok b => rw [e2] at hq; exact fun H2 s2 => hq H2 (s1.trans s2)
    | true =>
      rw [if_pos rfl]
      exact hq H1 s1
theorem ptd_not {a : Expr} {f : FT} {pos : Pos} (h : PTD X G W a f) : PTD X G W (.UnaryOp .Not a pos) (tNotD f) := let ⟨_, h1, h2⟩ := h; ⟨_, fun i => pt_not (h1 i), sim_not h2⟩
theorem PWD.pt {e : Expr} {f : FT} (h : PWD X G W e f) : PTD X G W e f := let ⟨_, h1, h2⟩ := h; ⟨_, fun i => (h1 i).pt, h2⟩
theorem pwd_and1 {a : Expr} {f : FT} {pos : Pos} (h : PTD X G W a f) : PWD X G W (.BoolOp .And [a] pos) f := let ⟨_, h1, h2⟩ := h; ⟨_, fun i => pw_and1 (h1 i), h2⟩
theorem pwd_or1 {a : Expr} {f : FT} {pos : Pos} (h : PTD X G W a f) : PWD X G W (.BoolOp .Or [a] pos) f := let ⟨_, h1, h2⟩ := h; ⟨_, fun i => pw_or1 (h1 i), h2⟩
theorem pwd_and {a b : Expr} {rest : List Expr} {f g : FT} {pos : Pos} (h : PTD X G W a f) (h' : PWD X G W (.BoolOp .And (b :: rest) pos) g) : PWD X G W (.BoolOp .And (a :: b :: rest) pos) (tAndD f g) :=
  let ⟨_, h1, h2⟩ := h; let ⟨_, h3, h4⟩ := h'; ⟨_, fun i => pw_and (h1 i) (h3 i), sim_and h2 h4⟩
theorem pwd_or {a b : Expr} {rest : List Expr} {f g : FT} {pos : Pos} (h : PTD X G W a f) (h' : PWD X G W (.BoolOp .Or (b :: rest) pos) g) : PWD X G W (.BoolOp .Or (a :: b :: rest) pos) (tOrD f g) :=
  let ⟨_, h1, h2⟩ := h; let ⟨_, h3, h4⟩ := h'; ⟨_, fun i => pw_or (h1 i) (h3 i), sim_or h2 h4⟩
def eAnd (f g : FE) : FE := fun ρ => (f ρ).bind fun a => (asB a).bind fun b => if b = true then g ρ else .ok (.bl false)
def eOr (f g : FE) : FE := fun ρ => (f ρ).bind fun a => (asB a).bind fun b => if b = true then .ok (.bl true) else g ρ
def eNot (f : FE) : FE := fun ρ => (f ρ).bind fun a => (asB a).bind fun b => .ok (.bl (!b))
theorem repx_bl {ft fc : List Nat} {nw : Bool} (b : Bool) : RepX G B ρ σ ft fc nw H H' (.bl b) (.bl b) := ⟨rfl, rfl, fun _ z => nomatch z⟩
theorem repx_weak {ft fc ft' fc' : List Nat} {nw : Bool} {d : D} {v : V} (h1 : ∀ i ∈ ft, i ∈ ft') (h2 : ∀ i ∈ fc, i ∈ fc') (x : RepX G B ρ σ ft fc nw H H' d v) : RepX G B ρ σ ft' fc' nw H H' d v :=
  ⟨x.top.less fun _ z => z.less h1, x.kid.less fun _ z => z.less h2, fun e m => let ⟨p, e1, e2, t⟩ := x.fresh e m; ⟨p, e1, e2, t.mono (Ev.of_same (Same.refl H')) (fun a _ n z => n (z.elim (fun z => .inl (z.less h2)) .inr)) (fun _ z => z)⟩⟩
theorem repx_from {ft fc : List Nat} {nw : Bool} {d : D} {v : V} (s : Same H H1) (x : RepX G B ρ σ ft fc nw H1 H' d v) : RepX G B ρ σ ft fc nw H H' d v :=
  ⟨x.top, x.kid, fun e m => let ⟨p, e1, e2, t⟩ := x.fresh e m; ⟨p, e1, s.free e2, t⟩⟩
theorem sim_andV {t u : TE} {f g : FE} {fta fca ftb fcb : List Nat} {nwa nwb : Bool} (h : SimE G W t f fta fca nwa) (h' : SimE G W u g ftb fcb nwb) : SimE G W (tAndV t u) (eAnd f g) ftb fcb nwb := fun B H0 ρ σ H rl Q hq => by
  refine h B H0 ρ σ H rl _ ?_
  unfold eAnd at hq
  cases e : f ρ with
  | no => rw [e] at hq; exact hq
  | ex x => rw [e] at hq; exact hq
  | ok d =>
    rw [e] at hq
    intro v H1 s1 x1
    cases d with
    | bl b =>
      refine ⟨b, x1.top, ?_⟩
      cases b with
      | true =>
        rw [if_pos rfl]
        refine h' B H0 ρ σ H1 (rl.same s1) Q ?_
        simp only [R.bind_ok, asB, if_true] at hq
        cases e2 : g ρ with
        | no => rw [e2] at hq; exact hq
        | ex x => rw [e2] at hq; exact fun c d H2 s2 => hq c d H2 (s1.trans s2)
        | ok b => rw [e2] at hq; exact fun v H2 s2 x2 => hq v H2 (s1.trans s2) (repx_from s1 x2)
      | false =>
        rw [if_neg Bool.false_ne_true]
        exact hq (.bl false) H1 s1 (repx_bl _)
    | _ => exact False.elim hq
theorem sim_orV {t u : TE} {f g : FE} {fta fca ftb fcb : List Nat} {nwa nwb : Bool} (h : SimE G W t f fta fca nwa) (h' : SimE G W u g ftb fcb nwb) : SimE G W (tOrV t u) (eOr f g) ftb fcb nwb := fun B H0 ρ σ H rl Q hq => by
  refine h B H0 ρ σ H rl _ ?_
  unfold eOr at hq
  cases e : f ρ with
  | no => rw [e] at hq; exact hq
  | ex x => rw [e] at hq; exact hq
  | ok d =>
    rw [e] at hq
    intro v H1 s1 x1
    cases d with
    | bl b =>
      refine ⟨b, x1.top, ?_⟩
      cases b with
      | false =>
        rw [if_neg Bool.false_ne_true]
        refine h' B H0 ρ σ H1 (rl.same s1) Q ?_
        simp only [R.bind_ok, asB, Bool.false_eq_true, if_false] at hq
        cases e2 : g ρ with
        | no => rw [e2] at hq; exact hq
        | ex x => rw [e2] at hq; exact fun c d H2 s2 => hq c d H2 (s1.trans s2)
        | ok b => rw [e2] at hq; exact fun v H2 s2 x2 => hq v H2 (s1.trans s2) (repx_from s1 x2)
      | true =>
        rw [if_pos rfl]
        exact hq (.bl true) H1 s1 (repx_bl _)
    | _ => exact False.elim hq
theorem sim_notV {t : TE} {f : FE} {fta fca : List Nat} {nwa : Bool} (h : SimE G W t f fta fca nwa) : SimE G W (tNotV t) (eNot f) [] [] true := fun B H0 ρ σ H rl Q hq => by
  refine h B H0 ρ σ H rl _ ?_
  unfold eNot at hq
  cases e : f ρ with
  | no => rw [e] at hq; exact hq
  | ex x => rw [e] at hq; exact hq
  | ok d =>
    rw [e] at hq
    intro v H1 s1 x1
    cases d with
    | bl b => exact ⟨b, x1.top, hq _ H1 s1 (repx_bl _)⟩
    | _ => exact False.elim hq
theorem pd_one {op : BoolOp} {a : Expr} {f : FE} {ft fc : List Nat} {nw : Bool} {pos : Pos} (h : PD X G W a f ft fc nw) : PD X G W (.BoolOp op [a] pos) f ft fc nw := let ⟨_, h1, h2⟩ := h; ⟨_, fun i => pe_one (h1 i), h2⟩
theorem pd_and {a b : Expr} {rest : List Expr} {f g : FE} {fta fca ftb fcb : List Nat} {nwa nwb : Bool} {pos : Pos} (h : PD X G W a f fta fca nwa) (h' : PD X G W (.BoolOp .And (b :: rest) pos) g ftb fcb nwb) : PD X G W (.BoolOp .And (a :: b :: rest) pos) (eAnd f g) ftb fcb nwb :=
  let ⟨_, h1, h2⟩ := h; let ⟨_, h3, h4⟩ := h'; ⟨_, fun i => pe_and (h1 i) (h3 i), sim_andV h2 h4⟩
theorem pd_or {a b : Expr} {rest : List Expr} {f g : FE} {fta fca ftb fcb : List Nat} {nwa nwb : Bool} {pos : Pos} (h : PD X G W a f fta fca nwa) (h' : PD X G W (.BoolOp .Or (b :: rest) pos) g ftb fcb nwb) : PD X G W (.BoolOp .Or (a :: b :: rest) pos) (eOr f g) ftb fcb nwb :=
  let ⟨_, h1, h2⟩ := h; let ⟨_, h3, h4⟩ := h'; ⟨_, fun i => pe_or (h1 i) (h3 i), sim_orV h2 h4⟩
theorem pd_not {a : Expr} {f : FE} {ft fc : List Nat} {nw : Bool} {pos : Pos} (h : PD X G W a f ft fc nw) : PD X G W (.UnaryOp .Not a pos) (eNot f) [] [] true := let ⟨_, h1, h2⟩ := h; ⟨_, fun i => pe_not (h1 i), sim_notV h2⟩
def eIf (c : FT) (f g : FE) : FE := fun ρ => (c ρ).bind fun b => if b = true then f ρ else g ρ
theorem sim_if {tc : TT} {t u : TE} {c : FT} {f g : FE} {fta fca ftb fcb : List Nat} {nwa nwb : Bool} (hc : SimT G W tc c) (h : SimE G W t f fta fca nwa) (h' : SimE G W u g ftb fcb nwb) : SimE G W (tIf tc t u) (eIf c f g) (fta ++ ftb) (fca ++ fcb) (nwa && nwb) := fun B H0 ρ σ H rl Q hq => by
  refine hc B H0 ρ σ H rl _ ?_
  unfold eIf at hq
  cases e : c ρ with
  | no => rw [e] at hq; exact hq
  | ex x => rw [e] at hq; exact hq
  | ok b =>
    rw [e] at hq
    intro H1 s1
    cases b with
    | true =>
      rw [if_pos rfl]
      refine h B H0 ρ σ H1 (rl.same s1) Q ?_
      simp only [R.bind_ok, if_true] at hq
      cases e2 : f ρ with
      | no => rw [e2] at hq; exact hq
      | ex x => rw [e2] at hq; exact fun c d H2 s2 => hq c d H2 (s1.trans s2)
      | ok b =>
        rw [e2] at hq
        intro v H2 s2 x2
        refine hq v H2 (s1.trans s2) (repx_from s1 (repx_weak (fun _ => List.mem_append_left _) (fun _ => List.mem_append_left _) ⟨x2.top, x2.kid, fun z => x2.fresh ?_⟩))
        rw [Bool.and_eq_true] at z; exact z.1
    | false =>
      rw [if_neg Bool.false_ne_true]
      refine h' B H0 ρ σ H1 (rl.same s1) Q ?_
      simp only [R.bind_ok, Bool.false_eq_true, if_false] at hq
      cases e2 : g ρ with
      | no => rw [e2] at hq; exact hq
      | ex x => rw [e2] at hq; exact fun c d H2 s2 => hq c d H2 (s1.trans s2)
      | ok b =>
        rw [e2] at hq
        intro v H2 s2 x2
        refine hq v H2 (s1.trans s2) (repx_from s1 (repx_weak (fun _ => List.mem_append_right _) (fun _ => List.mem_append_right _) ⟨x2.top, x2.kid, fun z => x2.fresh ?_⟩))
        rw [Bool.and_eq_true] at z; exact z.2
theorem pd_if {c a b : Expr} {fc : FT} {f g : FE} {fta fca ftb fcb : List Nat} {nwa nwb : Bool} {pos : Pos} (hc : PTD X G W c fc) (h : PD X G W a f fta fca nwa) (h' : PD X G W b g ftb fcb nwb) : PD X G W (.IfExp c a b pos) (eIf fc f g) (fta ++ ftb) (fca ++ fcb) (nwa && nwb) :=
  let ⟨_, c1, c2⟩ := hc; let ⟨_, h1, h2⟩ := h; let ⟨_, h3, h4⟩ := h'; ⟨_, fun i => pe_ifExp (c1 i) (h1 i) (h3 i), sim_if c2 h2 h4⟩
end
end PD
set_option autoImplicit false
namespace PD
open PySem PySem.Spec PyProof.Rows L2
theorem same_new {H : Hp} {p : Addr} {o : HO} (h : H p = none) : Same H (upd H p o) := fun b x e => by
  rw [upd_ne (ne_of_none e h)]; exact e
section
variable {G : Gb} {H : Hp} {O : AS}
theorem own_new {p : Addr} (hO : ∀ a, O a → H a ≠ none) (hp : H p = none) : ¬ O p := fun z => hO p z hp
theorem new_top {p : Addr} {ds : List D} {vs : List V} (hp : H p = none) (r : Reps G H O ds vs) : Top G (upd H p (.lst vs)) (fun a => O a ∨ a = p) (.lst ds) p :=
  ⟨vs, upd_same, r.mono (Ev.of_same (same_new hp)) fun a ha n z => z.elim n fun e => ha (e ▸ hp)⟩
theorem new_list {p : Addr} {ds : List D} {vs : List V} (hO : ∀ a, O a → H a ≠ none) (hp : H p = none) (r : Reps G H O ds vs) :
    Rep G (upd H p (.lst vs)) O (.lst ds) (.ref p) ∧ Fresh G H (upd H p (.lst vs)) O (.lst ds) (.ref p) :=
  ⟨⟨p, vs, rfl, own_new hO hp, upd_same, r.same (same_new hp)⟩, fun _ => ⟨p, rfl, hp, new_top hp r⟩⟩
theorem new_tup {p : Addr} {ds : List D} {vs : List V} (hp : H p = none) (r : Reps G H O ds vs) : Rep G (upd H p (.tup vs)) O (.tup ds) (.ref p) :=
  ⟨p, vs, rfl, .of upd_same, r.same (same_new hp)⟩
theorem fresh_not {H' : Hp} {d : D} {v : V} (m : d.isMut = false) : Fresh G H H' O d v := fun z => by rw [m] at z; cases z
end
theorem OpR.or {X : Cx} {f : Value → Value → Sem Value} {r r' : R2} (h : OpR X f r) (h' : OpR X f r') : OpR X f (fun x y H Q => r x y H Q ∨ r' x y H Q) := by
  intro pins s σ H x y v u Q I rx ry hh
  rcases hh with hh | hh
  · exact h pins s σ H x y v u Q I rx ry hh
  · exact h' pins s σ H x y v u Q I rx ry hh
section
variable {G : Gb} {ι : Type} {X : ι → Cx}
def addD : D → D → Option D
  | .int i, .int j => some (.int (i + j))
  | .str a, .str b => if a.length + b.length ≤ sizeLine then some (.str (a ++ b)) else none
  | .lst a, .lst b => if a.length + b.length ≤ sizeLine then some (.lst (a ++ b)) else none
  | .tup a, .tup b => if a.length + b.length ≤ sizeLine then some (.tup (a ++ b)) else none
  | _, _ => none
def rStr2 : R2 := fun x y H Q => ∃ i j, x = .str i ∧ y = .str j ∧ i.length + j.length ≤ sizeLine ∧ Q (.str (i ++ j)) H
def rAddU (K : PySem.W.Frag) : R2 := fun x y H Q => rI0 (fun i j => .int (i + j)) x y H Q ∨ rStr2 x y H Q ∨ rCat x y H Q ∨ rCatA K x y H Q
theorem opr_add (g : Good X G) (i : ι) : OpR (X i) (binaryOp .Add) (rAddU G.K) := by
  rw [← g.k i]
  exact op_add.or (op_add_str.or (op_cat.or op_catA))
theorem op2_add : Op2S G (rAddU G.K) addD true := by
  intro H O a b x y Q hO ka kb d e h
  cases a <;> cases b <;> first | (simp [addD] at e; done) | skip
  · rename_i i j
    cases e
    exact .inl ⟨i, j, ka, kb, h _ _ (Same.refl H) rfl fun _ => fresh_not rfl⟩
  · rename_i i j
    simp only [addD] at e
    split at e
    · rename_i hl
      cases e
      exact .inr (.inl ⟨i, j, ka, kb, hl, h _ _ (Same.refl H) rfl fun _ => fresh_not rfl⟩)
    · cases e
  · rename_i i j
    simp only [addD] at e
    split at e
    · rename_i hl
      cases e
      obtain ⟨p, xs, rfl, h1, r1⟩ := ka
      obtain ⟨q, ys, rfl, h2, r2⟩ := kb
      refine .inr (.inr (.inl ⟨p, q, xs, ys, rfl, rfl, h1, h2, by rw [← r1.length, ← r2.length]; exact hl, fun t ht => ?_⟩))
      obtain ⟨n1, n2⟩ := new_list hO ht (r1.append r2)
      exact h _ _ (same_new ht) n1 fun _ => n2
    · cases e
  · rename_i i j
    simp only [addD] at e
    split at e
    · rename_i hl
      cases e
      obtain ⟨p, xs, rfl, h1, r1⟩ := ka
      obtain ⟨q, ys, rfl, h2, r2⟩ := kb
      refine .inr (.inr (.inr ⟨p, q, xs, ys, rfl, rfl, h1, h2, by rw [← r1.length, ← r2.length]; exact hl, fun e0 => ?_, fun _ e0 => ?_, fun _ _ t ht => ?_⟩))
      · subst e0
        have : i = [] := List.eq_nil_of_length_eq_zero (by rw [r1.length]; rfl)
        subst this
        exact h _ _ (Same.refl H) ⟨q, ys, rfl, h2, r2⟩ fun _ => fresh_not rfl
      · subst e0
        have : j = [] := List.eq_nil_of_length_eq_zero (by rw [r2.length]; rfl)
        subst this
        rw [List.append_nil] at h
        exact h _ _ (Same.refl H) ⟨p, xs, rfl, h1, r1⟩ fun _ => fresh_not rfl
      · exact h _ _ (same_new ht) (new_tup ht (r1.append r2)) fun _ => fresh_not rfl
    · cases e
def iop (C : Int → Int → Bool) (f : Int → Int → Int) : D → D → Option D
  | .int i, .int j => if C i j = true then some (.int (f i j)) else none
  | _, _ => none
theorem op2_iop {C : Int → Int → Prop} {Cb : Int → Int → Bool} {f : Int → Int → Int} (hc : ∀ i j, Cb i j = true → C i j) : Op2S G (rI C fun i j => .int (f i j)) (iop Cb f) true := by
  intro H O a b x y Q hO ka kb d e h
  cases a <;> cases b <;> first | (simp [iop] at e; done) | skip
  rename_i i j
  simp only [iop] at e
  split at e
  · rename_i hl
    cases e
    exact ⟨i, j, ka, kb, hc i j hl, h _ _ (Same.refl H) rfl fun _ => fresh_not rfl⟩
  · cases e
def subD : D → D → Option D
  | .int i, .int j => some (.int (i - j))
  | _, _ => none
theorem op2_sub : Op2S G (rI0 fun i j => .int (i - j)) subD true := by
  intro H O a b x y Q hO ka kb d e h
  cases a <;> cases b <;> first | (simp [subD] at e; done) | skip
  rename_i i j
  cases e
  exact ⟨i, j, ka, kb, h _ _ (Same.refl H) rfl fun _ => fresh_not rfl⟩
def mulOk (i j : Int) : Bool := decide ((-(2 ^ 64) < i ∧ i < 2 ^ 64) ∨ (-(2 ^ 64) < j ∧ j < 2 ^ 64)) || decide (i.natAbs.log2 + j.natAbs.log2 < 1000000)
def mulD : D → D → Option D
  | .int i, .int j => if mulOk i j = true then some (.int (i * j)) else none
  | .lst a, .int k => if -(2 ^ 63) ≤ k ∧ k < 2 ^ 63 ∧ a.length * k.toNat ≤ sizeLine then some (.lst (List.replicate k.toNat a).flatten) else none
  | _, _ => none
def rMulU : R2 := fun x y H Q => (rI CMul (fun i j => .int (i * j)) x y H Q ∨ rI CMulW (fun i j => .int (i * j)) x y H Q) ∨ rRep x y H Q
theorem opr_mul (i : ι) : OpR (X i) (binaryOp .Mult) rMulU := (op_mul.or op_mulW).or op_rep
theorem Reps.rep {H : Hp} {O : AS} {ds : List D} {vs : List V} (r : Reps G H O ds vs) : ∀ k : Nat, Reps G H O (List.replicate k ds).flatten (List.replicate k vs).flatten
  | 0 => by simp [Reps]
  | k + 1 => by
    rw [List.replicate_succ, List.replicate_succ, List.flatten_cons, List.flatten_cons]
    exact r.append (r.rep k)
theorem op2_mul : Op2S G rMulU mulD true := by
  intro H O a b x y Q hO ka kb d e h
  cases a <;> cases b <;> first | (simp [mulD] at e; done) | skip
  · rename_i i j
    simp only [mulD] at e
    split at e
    · rename_i hl
      cases e
      rcases Bool.or_eq_true _ _ |>.mp hl with hl | hl
      · exact .inl (.inl ⟨i, j, ka, kb, (of_decide_eq_true hl : (-(2 ^ 64) < i ∧ i < 2 ^ 64) ∨ (-(2 ^ 64) < j ∧ j < 2 ^ 64)), h _ _ (Same.refl H) rfl fun _ => fresh_not rfl⟩)
      · exact .inl (.inr ⟨i, j, ka, kb, (of_decide_eq_true hl : i.natAbs.log2 + j.natAbs.log2 < 1000000), h _ _ (Same.refl H) rfl fun _ => fresh_not rfl⟩)
    · cases e
  · rename_i i j
    simp only [mulD] at e
    split at e
    · rename_i hl
      cases e
      obtain ⟨p, xs, rfl, h1, r1⟩ := ka
      refine .inr ⟨p, j, xs, rfl, kb, h1, hl.1, hl.2.1, by rw [← r1.length]; exact hl.2.2, fun t ht => ?_⟩
      obtain ⟨n1, n2⟩ := new_list hO ht (r1.rep j.toNat)
      exact h _ _ (same_new ht) n1 fun _ => n2
    · cases e
def fdivOk (_ j : Int) : Bool := decide (0 < j ∧ j.natAbs.log2 < 9000)
def fdivD : D → D → Option D := iop fdivOk (· / ·)
theorem op2_fdiv : Op2S G (rI CDivW fun i j => .int (i / j)) fdivD true := op2_iop fun i j h => (of_decide_eq_true h : 0 < j ∧ j.natAbs.log2 < 9000)
def modD : D → D → Option D := iop (fun _ j => decide (0 < j)) (· % ·)
theorem op2_mod : Op2S G (rI (fun _ j => 0 < j) fun i j => .int (i % j)) modD true := op2_iop fun _ _ h => of_decide_eq_true h
def powOk (i j : Int) : Bool := decide (0 ≤ j ∧ j ≤ 1000000 ∧ i.natAbs < 2 ^ 64)
def powD : D → D → Option D := iop powOk fun i j => i ^ j.toNat
theorem op2_pow : Op2S G (rI CPow fun i j => .int (i ^ j.toNat)) powD true := op2_iop fun i j h => (of_decide_eq_true h : 0 ≤ j ∧ j ≤ 1000000 ∧ i.natAbs < 2 ^ 64)
mutual
def D.py : D → PyData
  | .non => .none
  | .bl b => .bool b
  | .int i => .int i
  | .str s => .str s
  | .lst ds => .list (D.pys ds)
  | .tup ds => .tuple (D.pys ds)
  | _ => .dict []
def D.pys : List D → List PyData
  | [] => []
  | d :: ds => d.py :: D.pys ds
end
mutual
def D.sh : D → Nat → Bool
  | .non, _ | .bl _, _ | .int _, _ => true
  | .str s, _ => PyData.strOk s
  | .lst ds, n + 1 => D.shs ds n
  | .tup ds, n + 1 => D.shs ds n
  | _, _ => false
def D.shs : List D → Nat → Bool
  | [], _ => true
  | d :: ds, n => d.sh n && D.shs ds n
end
mutual
theorem D.sh_lay : ∀ (d : D) (n : Nat), d.sh n = true → d.py.canLay0 = true ∧ d.py.depth ≤ n
  | .non, _, _ => ⟨rfl, Nat.zero_le _⟩
  | .bl _, _, _ => ⟨rfl, Nat.zero_le _⟩
  | .int _, _, _ => ⟨rfl, Nat.zero_le _⟩
  | .str s, _, h => ⟨by simpa [D.py, PyData.canLay0, D.sh] using h, Nat.zero_le _⟩
  | .lst ds, n + 1, h => by
    obtain ⟨h1, h2⟩ := D.shs_lay ds n (by simpa [D.sh] using h)
    exact ⟨by simpa [D.py, PyData.canLay0] using h1, by simpa [D.py, PyData.depth] using h2⟩
  | .tup ds, n + 1, h => by
    obtain ⟨h1, h2⟩ := D.shs_lay ds n (by simpa [D.sh] using h)
    exact ⟨by simpa [D.py, PyData.canLay0] using h1, by simpa [D.py, PyData.depth] using h2⟩
  | .lst _, 0, h => by simp [D.sh] at h
  | .tup _, 0, h => by simp [D.sh] at h
  | .dK _ _, _, h => by simp [D.sh] at h
  | .dT _ _, _, h => by simp [D.sh] at h
  | .ins _ _ _, _, h => by simp [D.sh] at h
  | .scr _, _, h => by simp [D.sh] at h
theorem D.shs_lay : ∀ (ds : List D) (n : Nat), D.shs ds n = true → PyData.canLayAll0 (D.pys ds) = true ∧ PyData.depthAll (D.pys ds) ≤ n
  | [], _, _ => ⟨rfl, Nat.zero_le _⟩
  | d :: ds, n, h => by
    have h : (d.sh n && D.shs ds n) = true := h
    rw [Bool.and_eq_true] at h
    obtain ⟨a1, a2⟩ := D.sh_lay d n h.1
    obtain ⟨b1, b2⟩ := D.shs_lay ds n h.2
    exact ⟨by simp [D.pys, PyData.canLayAll0, a1, b1], by simp only [D.pys, PyData.depthAll]; omega⟩
end
theorem D.sh_shaped {d : D} (h : d.sh 60 = true) : SeqAt.shaped d.py = true := by
  obtain ⟨h1, h2⟩ := D.sh_lay d 60 h
  unfold SeqAt.shaped
  rw [h1, decide_eq_true (by omega)]
  rfl
mutual
theorem Rep.dp {H : Hp} {O : AS} : ∀ (d : D) (n : Nat) (v : V), d.sh n = true → Rep G H O d v → Dp G.K H v d.py
  | .non, _, _, _, r => by rw [show _ = V.non from r]; exact .non
  | .bl b, _, _, _, r => by rw [show _ = V.bl b from r]; exact .bl b
  | .int i, _, _, _, r => by rw [show _ = V.int i from r]; exact .int i
  | .str s, _, _, _, r => by rw [show _ = V.str s from r]; exact .str s
  | .lst ds, n + 1, _, h, ⟨a, xs, e, _, l, r⟩ => by subst e; exact .lst (.of l) (Reps.dp ds n xs (by simpa [D.sh] using h) r)
  | .tup ds, n + 1, _, h, ⟨a, xs, e, l, r⟩ => by subst e; exact .tup l (Reps.dp ds n xs (by simpa [D.sh] using h) r)
  | .lst _, 0, _, h, _ => by simp [D.sh] at h
  | .tup _, 0, _, h, _ => by simp [D.sh] at h
  | .dK _ _, _, _, h, _ => by simp [D.sh] at h
  | .dT _ _, _, _, h, _ => by simp [D.sh] at h
  | .ins _ _ _, _, _, h, _ => by simp [D.sh] at h
  | .scr _, _, _, h, _ => by simp [D.sh] at h
theorem Reps.dp {H : Hp} {O : AS} : ∀ (ds : List D) (n : Nat) (vs : List V), D.shs ds n = true → Reps G H O ds vs → DpAll G.K H vs (D.pys ds)
  | [], _, _, _, r => by rw [show _ = [] from r]; exact .nil
  | d :: ds, n, _, h, ⟨v, r, e, r1, r2⟩ => by
    subst e
    have h : (d.sh n && D.shs ds n) = true := h
    rw [Bool.and_eq_true] at h
    exact .cons (Rep.dp d n v h.1 r1) (Reps.dp ds n r h.2 r2)
end
theorem Kid.dp {H : Hp} {O : AS} {d : D} {n : Nat} {v : V} (h : d.sh n = true) (k : Kid G H O d v) : Dp G.K H v d.py := by
  cases d with
  | lst ds =>
    cases n with
    | zero => simp [D.sh] at h
    | succ n =>
      obtain ⟨a, xs, e, l, r⟩ := k
      subst e
      exact .lst (.of l) (Reps.dp ds n xs (by simpa [D.sh] using h) r)
  | tup ds => exact Rep.dp (O := O) (.tup ds) n v h k
  | dK _ _ => simp [D.sh] at h
  | dT _ _ => simp [D.sh] at h
  | ins _ _ _ => simp [D.sh] at h
  | scr _ => simp [D.sh] at h
  | non => exact Rep.dp (O := O) .non n v h k
  | bl b => exact Rep.dp (O := O) (.bl b) n v h k
  | int i => exact Rep.dp (O := O) (.int i) n v h k
  | str s => exact Rep.dp (O := O) (.str s) n v h k
def D.eqv (a b : D) : Bool := PyData.eqv a.py b.py
def eqD (a b : D) : Option D := if a.sh 60 && b.sh 60 then some (.bl (a.eqv b)) else none
def neD (a b : D) : Option D := if a.sh 60 && b.sh 60 then some (.bl (!a.eqv b)) else none
theorem op2_eq : Op2S G (rEqD G.K) eqD true := by
  intro H O a b x y Q hO ka kb d e h
  unfold eqD at e
  split at e
  · rename_i hs
    rw [Bool.and_eq_true] at hs
    cases e
    exact ⟨a.py, b.py, ka.dp hs.1, kb.dp hs.2, D.sh_shaped hs.1, D.sh_shaped hs.2, h _ _ (Same.refl H) rfl fun _ => fresh_not rfl⟩
  · cases e
theorem op2_ne : Op2S G (rNeD G.K) neD true := by
  intro H O a b x y Q hO ka kb d e h
  unfold neD at e
  split at e
  · rename_i hs
    rw [Bool.and_eq_true] at hs
    cases e
    exact ⟨a.py, b.py, ka.dp hs.1, kb.dp hs.2, D.sh_shaped hs.1, D.sh_shaped hs.2, h _ _ (Same.refl H) rfl fun _ => fresh_not rfl⟩
  · cases e
theorem opr_eq (g : Good X G) (hu : ∀ i, (X i).A.units + 65 < cLine) (i : ι) : OpR (X i) (compareOp .Eq) (rEqD G.K) := by
  rw [← g.k i]; exact op_eqD (Nat.lt_of_succ_lt (hu i))
theorem opr_ne (g : Good X G) (hu : ∀ i, (X i).A.units + 65 < cLine) (i : ι) : OpR (X i) (compareOp .NotEq) (rNeD G.K) := by
  rw [← g.k i]; exact op_neD (Nat.lt_of_succ_lt (hu i))
def cmpI (p : Int → Int → Bool) : D → D → Option D
  | .int i, .int j => some (.bl (p i j))
  | _, _ => none
theorem op2_cmpI {p : Int → Int → Bool} : Op2S G (rI0 fun i j => .bl (p i j)) (cmpI p) true := by
  intro H O a b x y Q hO ka kb d e h
  cases a <;> cases b <;> first | (simp [cmpI] at e; done) | skip
  rename_i i j
  cases e
  exact ⟨i, j, ka, kb, h _ _ (Same.refl H) rfl fun _ => fresh_not rfl⟩
abbrev ltD : D → D → Option D := cmpI fun i j => decide (i < j)
abbrev leD : D → D → Option D := cmpI fun i j => decide (i ≤ j)
abbrev gtD : D → D → Option D := cmpI fun i j => decide (j < i)
abbrev geD : D → D → Option D := cmpI fun i j => decide (j ≤ i)
def inD (a b : D) : Option D := match b with
  | .lst ds => if a.sh 60 && (D.lst ds).sh 60 then some (.bl (ds.any fun z => z.eqv a)) else none
  | _ => none
def notInD (a b : D) : Option D := match b with
  | .lst ds => if a.sh 60 && (D.lst ds).sh 60 then some (.bl (!ds.any fun z => z.eqv a)) else none
  | _ => none
theorem pys_any (a : D) : ∀ ds : List D, ((D.pys ds).any fun z => PyData.eqv z a.py) = ds.any fun z => z.eqv a
  | [] => rfl
  | d :: ds => by
    show ((d.py :: D.pys ds).any fun z => PyData.eqv z a.py) = _
    rw [List.any_cons, List.any_cons, pys_any a ds]; rfl
theorem op2_in : Op2S G (rInD G.K) inD true := by
  intro H O a b x y Q hO ka kb d e h
  cases b <;> first | (simp [inD] at e; done) | skip
  rename_i ds
  simp only [inD] at e
  split at e
  · rename_i hs
    rw [Bool.and_eq_true] at hs
    cases e
    refine ⟨a.py, D.pys ds, ka.dp hs.1, kb.dp hs.2, D.sh_shaped hs.1, D.sh_shaped hs.2, ?_⟩
    rw [pys_any]
    exact h _ _ (Same.refl H) rfl fun _ => fresh_not rfl
  · cases e
theorem op2_notIn : Op2S G (rNotInD G.K) notInD true := by
  intro H O a b x y Q hO ka kb d e h
  cases b <;> first | (simp [notInD] at e; done) | skip
  rename_i ds
  simp only [notInD] at e
  split at e
  · rename_i hs
    rw [Bool.and_eq_true] at hs
    cases e
    refine ⟨a.py, D.pys ds, ka.dp hs.1, kb.dp hs.2, D.sh_shaped hs.1, D.sh_shaped hs.2, ?_⟩
    rw [pys_any]
    exact h _ _ (Same.refl H) rfl fun _ => fresh_not rfl
  · cases e
theorem opr_in (g : Good X G) (hu : ∀ i, (X i).A.units + 65 < cLine) (i : ι) : OpR (X i) (compareOp .In) (rInD G.K) := by rw [← g.k i]; exact op_inD (hu i)
theorem opr_notIn (g : Good X G) (hu : ∀ i, (X i).A.units + 65 < cLine) (i : ι) : OpR (X i) (compareOp .NotIn) (rNotInD G.K) := by rw [← g.k i]; exact op_notInD (hu i)
def D.isN : D → Bool
  | .non => true
  | _ => false
def isND (a b : D) : Option D := match b with
  | .non => some (.bl a.isN)
  | _ => none
def notND (a b : D) : Option D := match b with
  | .non => some (.bl (!a.isN))
  | _ => none
theorem kid_non {H : Hp} {O : AS} {a : D} {x : V} (k : Kid G H O a x) : decide (x = .non) = a.isN := by
  cases a with
  | non => rw [show x = V.non from k]; rfl
  | bl b => rw [show x = V.bl b from k]; rfl
  | int b => rw [show x = V.int b from k]; rfl
  | str b => rw [show x = V.str b from k]; rfl
  | lst _ => obtain ⟨a, xs, rfl, _⟩ := k; rfl
  | tup _ => obtain ⟨a, xs, rfl, _⟩ := k; rfl
  | dK _ _ => obtain ⟨a, xs, rfl, _⟩ := k; rfl
  | dT _ _ => obtain ⟨a, xs, rfl, _⟩ := k; rfl
  | ins _ _ _ => obtain ⟨a, _, _, xs, rfl, _⟩ := k; rfl
  | scr _ => obtain ⟨a, rfl, _⟩ := k; rfl
theorem op2_isN : Op2S G (fun x y H Q => y = .non ∧ Q (.bl (decide (x = .non))) H) isND true := by
  intro H O a b x y Q hO ka kb d e h
  cases b <;> first | (simp [isND] at e; done) | skip
  cases e
  refine ⟨kb, ?_⟩
  rw [kid_non ka]
  exact h _ _ (Same.refl H) rfl fun _ => fresh_not rfl
theorem op2_notN : Op2S G (fun x y H Q => y = .non ∧ Q (.bl (!decide (x = .non))) H) notND true := by
  intro H O a b x y Q hO ka kb d e h
  cases b <;> first | (simp [notND] at e; done) | skip
  cases e
  refine ⟨kb, ?_⟩
  rw [kid_non ka]
  exact h _ _ (Same.refl H) rfl fun _ => fresh_not rfl
def idxD : D → D → Option D
  | .lst ds, .int i => atI ds i
  | .tup ds, .int i => atI ds i
  | .scr ns, .int i => (atI ns i).map D.int
  | .str s, .int i => if s.length ≤ sizeLine then (atI s.cps.toList i).map fun c => D.str ⟨#[c]⟩ else none
  | _, _ => none
theorem Reps.at {H : Hp} {O : AS} {ds : List D} {vs : List V} {i : Int} {d : D} (r : Reps G H O ds vs) (e : atI ds i = some d) : ∃ v, atI vs i = some v ∧ Rep G H O d v := by
  unfold atI at e ⊢
  rw [← r.length]
  cases q : ixN ds.length i with
  | none => rw [q] at e; cases e
  | some j =>
    rw [q] at e
    obtain ⟨v, h1, h2⟩ := r.get (i := j) e
    exact ⟨v, h1, h2⟩
theorem op2_ix : Op2S G (rIx G.K) idxD false := by
  intro H O a b x y Q hO ka kb d e h
  cases a <;> cases b <;> first | (simp [idxD] at e; done) | skip
  · rename_i s i
    simp only [idxD] at e
    split at e
    · rename_i hl
      cases q : atI s.cps.toList i with
      | none => rw [q] at e; cases e
      | some c =>
        rw [q] at e
        cases e
        exact .inr (.inr ⟨s, i, c, ka, kb, hl, q, h _ _ (Same.refl H) rfl fun z => nomatch z⟩)
    · cases e
  · rename_i ds i
    obtain ⟨p, xs, rfl, h1, r1⟩ := ka
    obtain ⟨v, h2, h3⟩ := r1.at e
    exact .inl ⟨p, xs, i, v, rfl, kb, .of h1, h2, h _ _ (Same.refl H) h3 fun z => nomatch z⟩
  · rename_i ds i
    obtain ⟨p, xs, rfl, h1, r1⟩ := ka
    obtain ⟨v, h2, h3⟩ := r1.at e
    exact .inr (.inl ⟨p, xs, i, v, rfl, kb, h1, h2, h _ _ (Same.refl H) h3 fun z => nomatch z⟩)
  · rename_i ns i
    obtain ⟨p, rfl, h1⟩ := ka
    simp only [idxD] at e
    cases q : atI ns i with
    | none => rw [q] at e; cases e
    | some c =>
      rw [q] at e
      cases e
      refine .inl ⟨p, ns.map V.int, i, .int c, rfl, kb, h1.seq, ?_, h _ _ (Same.refl H) rfl fun z => nomatch z⟩
      unfold atI at q ⊢
      rw [List.length_map]
      cases q2 : ixN ns.length i with
      | none => rw [q2] at q; cases q
      | some j =>
        rw [q2] at q
        have q : ns[j]? = some c := q
        show (ns.map V.int)[j]? = _
        rw [List.getElem?_map, q]; rfl
end
section
variable {G : Gb} {W : WX} {ι : Type} {X : ι → Cx}
theorem pd_ix {a b : Expr} {fa fb : FE} {fta fca ftb fcb : List Nat} {nwa nwb : Bool} {pos : Pos} (g : Good X G) (ha : PD X G W a fa fta fca nwa) (hb : PD X G W b fb ftb fcb nwb) (hs : PlainIx b) :
    PD X G W (.Subscript a b pos) (eBin idxD fa fb) (fca ++ fcb) (fca ++ fcb) false := by
  obtain ⟨ta, a1, a2⟩ := ha
  obtain ⟨tb, b1, b2⟩ := hb
  refine ⟨tOp (rIx G.K) ta tb, fun i => ?_, sim_op op2_ix a2 b2⟩
  rw [← g.k i]
  exact L2.pe_ix ix_seq (a1 i) (b1 i) hs
end
end PD
set_option autoImplicit false
namespace PD
open PySem PySem.Spec PyProof.Rows L2
section
variable {G : Gb} {W : WX} {ι : Type} {X : ι → Cx}
def eChain (o o' : D → D → Option D) (f g h : FE) : FE := fun ρ => (f ρ).bind fun a => (g ρ).bind fun b => (ofO (o a b)).bind fun z => (asB z).bind fun k =>
  if k = true then (h ρ).bind fun c => ofO (o' b c) else .ok (.bl false)
theorem sim_chain {r r' : R2} {o o' : D → D → Option D} {nw nw' : Bool} {ta tb tc : TE} {fa fb fc : FE} {xa ya xb yb xc yc : List Nat} {na nb nc : Bool} (ho : Op2S G r o nw) (ho' : Op2S G r' o' nw') (ha : SimE G W ta fa xa ya na) (hb : SimE G W tb fb xb yb nb) (hc : SimE G W tc fc xc yc nc) :
    SimE G W (tChain r r' ta tb tc) (eChain o o' fa fb fc) (yb ++ yc) (yb ++ yc) nw' := fun B H0 ρ σ H rl Q h => by
  unfold eChain at h
  refine ha B H0 ρ σ H rl _ ?_
  cases ea : fa ρ with
  | no => rw [ea] at h; exact h
  | ex x => rw [ea] at h; exact h
  | ok a =>
    rw [ea] at h
    intro x H1 s1 x1
    refine hb B H0 ρ σ H1 (rl.same s1) _ ?_
    cases eb : fb ρ with
    | no => rw [eb] at h; exact h
    | ex e => rw [eb] at h; exact fun cls dd H2 s2 => h cls dd H2 (s1.trans s2)
    | ok b =>
      rw [eb] at h
      intro y H2 s2 x2
      have s12 := s1.trans s2
      simp only [R.bind_ok] at h
      cases eo : o a b with
      | none => rw [eo] at h; exact h.elim
      | some d =>
        rw [eo] at h
        refine ho H2 (Own B ρ σ (ya ++ yb)) a b x y _ (fun p o => (Own.mut (rl.same s12) o)) ((x1.kid.same s2).less fun _ z => z.app1) (x2.kid.less fun _ z => z.app2) d eo fun v H3 s3 q fr => ?_
        have s13 := s12.trans s3
        cases d <;> first | exact False.elim h | skip
        rename_i k
        refine ⟨k, q, ?_⟩
        cases k with
        | false =>
          rw [if_neg Bool.false_ne_true]
          exact h _ H3 s13 (repx_bl _)
        | true =>
          rw [if_pos rfl]
          simp only [asB, R.bind_ok, ofO_some, if_true] at h
          refine hc B H0 ρ σ H3 (rl.same s13) _ ?_
          cases ec : fc ρ with
          | no => rw [ec] at h; exact h
          | ex e => rw [ec] at h; exact fun cls dd H2 s2 => h cls dd H2 (s13.trans s2)
          | ok c =>
            rw [ec] at h
            simp only [R.bind_ok] at h
            intro z H4 s4 x4
            have s14 := s13.trans s4
            cases eo' : o' b c with
            | none => rw [eo'] at h; exact h.elim
            | some d' =>
              rw [eo'] at h
              refine ho' H4 (Own B ρ σ (yb ++ yc)) b c y z Q (fun p o => (Own.mut (rl.same s14) o)) ((x2.kid.same (s3.trans s4)).less fun _ z => z.app1) (x4.kid.less fun _ z => z.app2) d' eo' fun v H5 s5 q fr => ?_
              exact h v H5 (s14.trans s5) (RepX.of q (fun _ z => z) (fun _ z => z) fun e m => let ⟨p, e1, e2, t⟩ := fr e m; ⟨p, e1, s14.free e2, t⟩)
theorem pd_chain {op op' : CmpOp} {r r' : R2} {o o' : D → D → Option D} {nw nw' : Bool} {a b c : Expr} {fa fb fc : FE} {xa ya xb yb xc yc : List Nat} {na nb nc : Bool} {pos : Pos} (ho : Op2S G r o nw) (ho' : Op2S G r' o' nw') (hr : ∀ i, OpR (X i) (compareOp op) r) (hr' : ∀ i, OpR (X i) (compareOp op') r')
    (ha : PD X G W a fa xa ya na) (hb : PD X G W b fb xb yb nb) (hc : PD X G W c fc xc yc nc) (hm : lastMarks [op, op'] [b, c] = false := by with_unfolding_all rfl) : PD X G W (.Compare a [op, op'] [b, c] pos) (eChain o o' fa fb fc) (yb ++ yc) (yb ++ yc) nw' :=
  let ⟨_, a1, a2⟩ := ha; let ⟨_, b1, b2⟩ := hb; let ⟨_, c1, c2⟩ := hc; ⟨_, fun i => pe_chain (hr i) (hr' i) (a1 i) (b1 i) (c1 i) hm, sim_chain ho ho' a2 b2 c2⟩
theorem ptd_chain {op op' : CmpOp} {r r' : R2} {o o' : D → D → Option D} {nw nw' : Bool} {a b c : Expr} {fa fb fc : FE} {xa ya xb yb xc yc : List Nat} {na nb nc : Bool} {pos : Pos} (ho : Op2S G r o nw) (ho' : Op2S G r' o' nw') (hr : ∀ i, OpR (X i) (compareOp op) r) (hr' : ∀ i, OpR (X i) (compareOp op') r')
    (ha : PD X G W a fa xa ya na) (hb : PD X G W b fb xb yb nb) (hc : PD X G W c fc xc yc nc) (hm : lastMarks [op, op'] [b, c] = false := by with_unfolding_all rfl) : PTD X G W (.Compare a [op, op'] [b, c] pos) (tE (eChain o o' fa fb fc)) :=
  let ⟨_, a1, a2⟩ := ha; let ⟨_, b1, b2⟩ := hb; let ⟨_, c1, c2⟩ := hc; ⟨_, fun i => pt_chain (hr i) (hr' i) (a1 i) (b1 i) (c1 i) hm, sim_test (sim_chain ho ho' a2 b2 c2)⟩
def truD : D → Option Bool
  | .non => some false
  | .bl b => some b
  | .int i => some (i != 0)
  | .str s => if s.length ≤ sizeLine then some ((s.length : Int) != 0) else none
  | .lst ds => some (!ds.isEmpty)
  | .tup ds => some (!ds.isEmpty)
  | _ => none
def tTru (f : FE) : FT := fun ρ => (f ρ).bind fun d => ofO (truD d)
theorem reps_empty {H : Hp} {O : AS} {ds : List D} {vs : List V} (r : Reps G H O ds vs) : ds.isEmpty = vs.isEmpty := by
  have := r.length
  cases ds <;> cases vs <;> simp at this ⊢
theorem ptd_tru {a : Expr} {f : FE} {ft fc : List Nat} {nw : Bool} (g : Good X G) (h : PD X G W a f ft fc nw) (he : ∀ i whole, isTrue a (X i).env whole = (do let v ← whole; standAt a.pos; holding [v] (truthy v))) : PTD X G W a (tTru f) := by
  obtain ⟨t, h1, h2⟩ := h
  refine ⟨fun σ H Q => t σ H fun x H' => ∃ k, TruV G.K x H' k ∧ Q k H', fun i => ?_, fun B H0 ρ σ H rl Q hq => ?_⟩
  · rw [← g.k i]
    exact pt_truth (h1 i) (he i)
  · refine h2 B H0 ρ σ H rl _ ?_
    unfold tTru at hq
    cases e : f ρ with
    | no => rw [e] at hq; exact hq
    | ex x => rw [e] at hq; exact hq
    | ok d =>
      rw [e] at hq
      intro v H1 s1 x1
      simp only [R.bind_ok] at hq
      cases et : truD d with
      | none => rw [et] at hq; exact hq.elim
      | some k =>
        rw [et] at hq
        refine ⟨k, ?_, hq H1 s1⟩
        have x1 := x1.kid
        cases d <;> first | (simp [truD] at et; done) | skip
        · rw [show v = V.non from x1]; cases et; rfl
        · rw [show v = V.bl _ from x1]; cases et; rfl
        · rw [show v = V.int _ from x1]; cases et; rfl
        · rw [show v = V.str _ from x1]
          simp only [truD] at et
          split at et
          · rename_i hl; cases et; exact ⟨hl, rfl⟩
          · cases et
        · obtain ⟨a, xs, rfl, h3, r⟩ := x1
          cases et
          exact .inl ⟨xs, .of h3, by rw [reps_empty r]⟩
        · obtain ⟨a, xs, rfl, h3, r⟩ := x1
          cases et
          exact .inr (.inl ⟨xs, h3, by rw [reps_empty r]⟩)
def aNil : FA := fun _ => .ok []
def aCons (f : FE) (g : FA) : FA := fun ρ => (f ρ).bind fun d => (g ρ).bind fun ds => .ok (d :: ds)
theorem Kids.less {H : Hp} {O O' : AS} (k : ∀ a, O' a → O a) : ∀ {ds : List D} {vs : List V}, Kids G H O ds vs → Kids G H O' ds vs
  | [], _, r => r
  | d :: ds, _, ⟨v, r, e, r1, r2⟩ => ⟨v, r, e, r1.less k, Kids.less k r2⟩
theorem pad_nil : PAD X G W [] aNil [] [] := ⟨_, fun _ => pa_nil, fun B H0 ρ σ H rl Q h => h [] H (Same.refl H) rfl rfl, fun _ _ e => by cases e; rfl⟩
theorem pad_cons {e : Expr} {es : List Expr} {f : FE} {g : FA} {ft fc at' ac : List Nat} {nw : Bool} (h : PD X G W e f ft fc nw) (h' : PAD X G W es g at' ac)
    (hs : ∀ i, starEach (e :: es) (X i).env = (false, eval e (X i).env) :: starEach es (X i).env := by exact fun _ => rfl) : PAD X G W (e :: es) (aCons f g) (ft ++ at') (fc ++ ac) := by
  obtain ⟨t, h1, h2⟩ := h
  obtain ⟨u, h3, h4, hl⟩ := h'
  refine ⟨_, fun i => pa_cons (h1 i) (h3 i) (hs i), fun B H0 ρ σ H rl Q hq => ?_, fun ρ ds e => ?_⟩
  rotate_left
  · unfold aCons at e
    cases e1 : f ρ with
    | no => rw [e1] at e; cases e
    | ex x => rw [e1] at e; cases e
    | ok d =>
      rw [e1] at e
      cases e2 : g ρ with
      | no => rw [R.bind_ok, e2] at e; cases e
      | ex x => rw [R.bind_ok, e2] at e; cases e
      | ok r =>
        rw [R.bind_ok, e2] at e
        cases e
        rw [List.length_cons, List.length_cons, hl ρ r e2]
  unfold aCons at hq
  refine h2 B H0 ρ σ H rl _ ?_
  cases e1 : f ρ with
  | no => rw [e1] at hq; exact hq
  | ex x => rw [e1] at hq; exact hq
  | ok d =>
    rw [e1] at hq
    intro v H1 s1 x1
    refine h4 B H0 ρ σ H1 (rl.same s1) _ ?_
    cases e2 : g ρ with
    | no => rw [e2] at hq; exact hq
    | ex x => rw [e2] at hq; exact fun c dd H2 s2 => hq c dd H2 (s1.trans s2)
    | ok ds =>
      rw [e2] at hq
      intro vs H2 s2 r k
      exact hq (v :: vs) H2 (s1.trans s2) ⟨v, vs, rfl, (x1.top.same s2).less fun _ z => z.app1, r.less fun _ z => z.app2⟩ ⟨v, vs, rfl, (x1.kid.same s2).less fun _ z => z.app1, k.less fun _ z => z.app2⟩
def eTup (f : FA) : FE := fun ρ => (f ρ).bind fun ds => if ds.length ≤ sizeLine then .ok (.tup ds) else .no
def eLst (f : FA) : FE := fun ρ => (f ρ).bind fun ds => if ds.length ≤ sizeLine then .ok (.lst ds) else .no
theorem pd_tup {es : List Expr} {k : Nat} {f : FA} {ft fc : List Nat} {pos : Pos} (h : PAD X G W es f ft fc) : PD X G W (.Tuple es k pos) (eTup f) ft ft true := by
  obtain ⟨t, h1, h2, _⟩ := h
  refine ⟨_, fun i => pe_tup (h1 i), fun B H0 ρ σ H rl Q hq => ?_⟩
  unfold eTup at hq
  refine h2 B H0 ρ σ H rl _ ?_
  cases e1 : f ρ with
  | no => rw [e1] at hq; exact hq
  | ex x => rw [e1] at hq; exact hq
  | ok ds =>
    rw [e1] at hq
    intro vs H1 s1 r k
    simp only [R.bind_ok] at hq
    by_cases hl : ds.length ≤ sizeLine
    · rw [if_pos hl] at hq
      refine ⟨by rw [← r.length]; exact hl, fun p hp => ?_⟩
      have n := new_tup hp r
      exact hq _ _ (s1.trans (same_new hp)) ⟨n, n.kid, fun _ => fresh_not rfl⟩
    · rw [if_neg hl] at hq; exact hq.elim
theorem pd_lst {es : List Expr} {f : FA} {ft fc : List Nat} {pos : Pos} (h : PAD X G W es f ft fc) : PD X G W (.List es pos) (eLst f) ft ft true := by
  obtain ⟨t, h1, h2, _⟩ := h
  refine ⟨_, fun i => pe_lst (h1 i), fun B H0 ρ σ H rl Q hq => ?_⟩
  unfold eLst at hq
  refine h2 B H0 ρ σ H rl _ ?_
  cases e1 : f ρ with
  | no => rw [e1] at hq; exact hq
  | ex x => rw [e1] at hq; exact hq
  | ok ds =>
    rw [e1] at hq
    intro vs H1 s1 r k
    simp only [R.bind_ok] at hq
    by_cases hl : ds.length ≤ sizeLine
    · rw [if_pos hl] at hq
      refine ⟨by rw [← r.length]; exact hl, fun p hp => ?_⟩
      obtain ⟨n, fr⟩ := new_list (O := Own B ρ σ ft) (fun a z => Own.mut (rl.same s1) z) hp r
      exact hq _ _ (s1.trans (same_new hp)) ⟨n, n.kid, fun _ m => let ⟨q, e1, e2, t⟩ := fr m; ⟨q, e1, s1.free e2, t⟩⟩
    · rw [if_neg hl] at hq; exact hq.elim
abbrev FO := DS → R (Option Int)
def SimO (G : Gb) (W : WX) (t : TO) (f : FO) : Prop :=
  ∀ (B : AS) (H0 : Hp) (ρ : DS) (σ : L2.St) (H : Hp), RelS G B H0 ρ σ H → ∀ Q : Option Int → Hp → Prop, (match f ρ with
    | .ok o => ∀ H', Same H H' → Q o H'
    | .ex x => ∀ cls dd H', Same H H' → ExR G B x cls dd H' → W cls dd σ H'
    | .no => False) → t σ H Q
def POD {ι : Type} (X : ι → Cx) (G : Gb) (W : WX) (e : Option Expr) (f : FO) : Prop := ∃ t, (∀ i, PO (X i) e t) ∧ SimO G W t f
def oNone : FO := fun _ => .ok none
def asI : D → R Int
  | .int i => .ok i
  | _ => .no
def oSome (f : FE) : FO := fun ρ => (f ρ).bind fun d => (asI d).bind fun i => .ok (some i)
theorem pod_none : POD X G W none oNone := ⟨_, fun _ => po_none, fun B H0 ρ σ H rl Q h => h H (Same.refl H)⟩
theorem pod_some {e : Expr} {f : FE} {ft fc : List Nat} {nw : Bool} (h : PD X G W e f ft fc nw) : POD X G W (some e) (oSome f) := by
  obtain ⟨t, h1, h2⟩ := h
  refine ⟨_, fun i => po_some (h1 i), fun B H0 ρ σ H rl Q hq => ?_⟩
  unfold oSome at hq
  refine h2 B H0 ρ σ H rl _ ?_
  cases e1 : f ρ with
  | no => rw [e1] at hq; exact hq
  | ex x => rw [e1] at hq; exact hq
  | ok d =>
    rw [e1] at hq
    intro v H1 s1 x1
    cases d <;> first | exact False.elim hq | skip
    exact ⟨_, x1.top, hq H1 s1⟩
def cutD {α : Type} (xs : List α) (lo hi : Option Int) : List α := (xs.drop (HT.sIx xs.length 0 lo)).take (HT.sIx xs.length xs.length hi - HT.sIx xs.length 0 lo)
theorem Reps.cut {H : Hp} {O : AS} {ds : List D} {vs : List V} (r : Reps G H O ds vs) (lo hi : Option Int) : Reps G H O (cutD ds lo hi) (cutV vs lo hi) := by
  unfold cutD cutV
  rw [← r.length]
  exact (r.drop _).take _
def sliceD : D → Option Int → Option Int → Option D
  | .lst ds, lo, hi => some (.lst (cutD ds lo hi))
  | .tup ds, lo, hi => some (.tup (cutD ds lo hi))
  | .scr ns, lo, hi => some (.lst ((cutD ns lo hi).map D.int))
  | .str s, lo, hi => if s.length ≤ sizeLine then some (.str (cutS s lo hi)) else none
  | _, _, _ => none
def eSl (f : FE) (lo hi : FO) : FE := fun ρ => (f ρ).bind fun d => (lo ρ).bind fun l => (hi ρ).bind fun u => ofO (sliceD d l u)
def rSlU (K : PySem.W.Frag) : V → Option Int → Option Int → Hp → VK → Prop := fun x lo hi H Q => rSlL K x lo hi H Q ∨ rSlA K x lo hi H Q ∨ rSlS x lo hi H Q
theorem slr_u (g : Good X G) (i : ι) : L2.SlR (X i) (rSlU G.K) := by
  rw [← g.k i]
  exact sl_list.or (sl_tupA.or sl_str)
theorem cut_whole {α : Type} {xs : List α} {lo hi : Option Int} (h : HT.sIx xs.length 0 lo = 0 ∧ HT.sIx xs.length xs.length hi = xs.length) : cutD xs lo hi = xs := by
  unfold cutD
  rw [h.1, h.2]
  simp
theorem cut_map {α β : Type} (f : α → β) (xs : List α) (lo hi : Option Int) : cutD (xs.map f) lo hi = (cutD xs lo hi).map f := by
  unfold cutD
  rw [List.length_map, List.map_take, List.map_drop]
theorem pd_sl {e : Expr} {lo hi : Option Expr} {f : FE} {l u : FO} {ft fc : List Nat} {nw : Bool} {p2 pos : Pos} (g : Good X G) (h : PD X G W e f ft fc nw) (hl : POD X G W lo l) (hh : POD X G W hi u) : PD X G W (.Subscript e (.Slice lo hi none p2) pos) (eSl f l u) fc fc true := by
  obtain ⟨t, h1, h2⟩ := h
  obtain ⟨tl, l1, l2⟩ := hl
  obtain ⟨tu, u1, u2⟩ := hh
  refine ⟨_, fun i => pe_slice (slr_u g i) (h1 i) (l1 i) (u1 i), fun B H0 ρ σ H rl Q hq => ?_⟩
  unfold eSl at hq
  refine h2 B H0 ρ σ H rl _ ?_
  cases e1 : f ρ with
  | no => rw [e1] at hq; exact hq
  | ex x => rw [e1] at hq; exact hq
  | ok d =>
    rw [e1] at hq
    intro v H1 s1 x1
    refine l2 B H0 ρ σ H1 (rl.same s1) _ ?_
    simp only [R.bind_ok] at hq
    cases e2 : l ρ with
    | no => rw [e2] at hq; exact hq
    | ex x => rw [e2] at hq; exact fun c dd H2 s2 => hq c dd H2 (s1.trans s2)
    | ok o1 =>
      rw [e2] at hq
      intro H2 s2
      refine u2 B H0 ρ σ H2 ((rl.same s1).same s2) _ ?_
      simp only [R.bind_ok] at hq
      cases e3 : u ρ with
      | no => rw [e3] at hq; exact hq
      | ex x => rw [e3] at hq; exact fun c dd H3 s3 => hq c dd H3 ((s1.trans s2).trans s3)
      | ok o2 =>
        rw [e3] at hq
        intro H3 s3
        have s13 := (s1.trans s2).trans s3
        have k := x1.kid.same (s2.trans s3)
        have hO : ∀ a, Own B ρ σ fc a → H3 a ≠ none := fun a z => Own.mut (rl.same s13) z
        simp only [R.bind_ok] at hq
        cases d <;> first | exact False.elim hq | skip
        · rename_i s
          simp only [sliceD] at hq
          split at hq
          · rename_i d' ed
            split at ed
            · rename_i hlen
              cases ed
              refine .inr (.inr ⟨s, k, hlen, hq _ _ s13 ⟨rfl, rfl, fun _ => fresh_not rfl⟩⟩)
            · cases ed
          · rename_i ed; split at ed <;> cases ed
          · exact hq.elim
        · rename_i ds
          obtain ⟨a, xs, rfl, h3, r⟩ := k
          refine .inl ⟨a, xs, rfl, .of h3, fun p hp => ?_⟩
          obtain ⟨n, fr⟩ := new_list hO hp (r.cut o1 o2)
          exact hq _ _ (s13.trans (same_new hp)) ⟨n, n.kid, fun _ m => let ⟨q, e1, e2, t⟩ := fr m; ⟨q, e1, s13.free e2, t⟩⟩
        · rename_i ds
          obtain ⟨a, xs, rfl, h3, r⟩ := k
          have rc := r.cut o1 o2
          refine .inr (.inl ⟨a, xs, rfl, h3, fun hw => ?_, fun _ p hp => ?_⟩)
          · rw [← r.length] at hw
            have hq : ∀ v H', Same H H' → RepX G B ρ σ fc fc true H H' (.tup (cutD ds o1 o2)) v → Q v H' := hq
            rw [cut_whole hw] at hq
            have n : Rep G H3 (Own B ρ σ fc) (.tup ds) (.ref a) := ⟨a, xs, rfl, h3, r⟩
            exact hq _ _ s13 ⟨n, n.kid, fun _ => fresh_not rfl⟩
          · have n := new_tup hp rc
            exact hq _ _ (s13.trans (same_new hp)) ⟨n, n.kid, fun _ => fresh_not rfl⟩
        · rename_i ns
          obtain ⟨a, rfl, h3⟩ := k
          refine .inl ⟨a, _, rfl, h3.seq, fun p hp => ?_⟩
          have rr : Reps G H3 (Own B ρ σ fc) (ns.map D.int) (ns.map V.int) := Reps.map (f := D.int) (g := V.int) (fun n => (rfl : V.int n = V.int n)) ns
          have rc := rr.cut o1 o2
          rw [cut_map] at rc
          obtain ⟨n, fr⟩ := new_list hO hp rc
          exact hq _ _ (s13.trans (same_new hp)) ⟨n, n.kid, fun _ m => let ⟨q, e1, e2, t⟩ := fr m; ⟨q, e1, s13.free e2, t⟩⟩
end
end PD
set_option autoImplicit false
namespace PD
open PySem PySem.Spec PyProof.Rows L2
section
variable {G : Gb} {W : WX} {ι : Type} {X : ι → Cx}
def CallS (G : Gb) (r : List V → Hp → VK → Prop) (op : List D → Option D) (nw : Bool) : Prop := ∀ (H : Hp) (O : AS) (ds : List D) (vs : List V) (Q : VK), (∀ p, O p → H p ≠ none) → Kids G H O ds vs → ∀ d, op ds = some d →
  (∀ v H', Same H H' → Rep G H' O d v → (nw = true → Fresh G H H' O d v) → Q v H') → r vs H Q
def eCall (op : List D → Option D) (f : FA) : FE := fun ρ => (f ρ).bind fun ds => ofO (op ds)
theorem sim_call {r : List V → Hp → VK → Prop} {op : List D → Option D} {nw : Bool} {t : TA} {f : FA} {ft fc : List Nat} (hs : CallS G r op nw) (h : SimA G W t f ft fc) : SimE G W (tCB r t) (eCall op f) fc fc nw := fun B H0 ρ σ H rl Q hq => by
  unfold eCall at hq
  refine h B H0 ρ σ H rl _ ?_
  cases e1 : f ρ with
  | no => rw [e1] at hq; exact hq
  | ex x => rw [e1] at hq; exact hq
  | ok ds =>
    rw [e1] at hq
    intro vs H1 s1 _ k
    simp only [R.bind_ok] at hq
    cases eo : op ds with
    | none => rw [eo] at hq; exact hq.elim
    | some d =>
      rw [eo] at hq
      refine hs H1 (Own B ρ σ fc) ds vs Q (fun p o => (Own.mut (rl.same s1) o)) k d eo fun v H2 s2 q fr => ?_
      exact hq v H2 (s1.trans s2) (RepX.of q (fun _ z => z) (fun _ z => z) fun e m => let ⟨p, e1, e2, t⟩ := fr e m; ⟨p, e1, s1.free e2, t⟩)
theorem pd_callB {id : String} {x : Str} {r : List V → Hp → VK → Prop} {op : List D → Option D} {nw : Bool} {e : Expr} {es : List Expr} {f : FA} {ft fc : List Nat} {p pos : Pos} (g : Good X G) (hs : CallS G r op nw) (hc : ∀ i, CallR (X i) (.builtin id) r) (hv : bootBuiltins x = some (.builtin id)) (hm : G.mg x = none)
    (hg : ∀ i, Gl (X i) x) (ha : PAD X G W (e :: es) f ft fc) (hn : x ≠ "__name__" := by decide) (hdb : (x == ("__debug__" : Str)) = false := by decide)
    (he : ∀ i, starEach (e :: es) (X i).env = (false, eval e (X i).env) :: starEach es (X i).env := by exact fun _ => rfl) (hpl : ∀ i, (backTo pos (starEach es (X i).env)).any (·.1) = false := by exact fun _ => rfl) : PD X G W (.Call (.Name x p) (e :: es) [] pos) (eCall op f) fc fc nw := by
  obtain ⟨t, h1, h2, _⟩ := ha
  exact ⟨_, fun i => pe_callB (hc i) (hg i) (by rw [g.m]; exact hm) hv (h1 i) hn hdb (he i) (hpl i), sim_call hs h2⟩
theorem pd_callTy {T : String} {x : Str} {r : List V → Hp → VK → Prop} {op : List D → Option D} {nw : Bool} {e : Expr} {es : List Expr} {f : FA} {ft fc : List Nat} {p pos : Pos} (g : Good X G) (hs : CallS G r op nw) (hc : ∀ i, CallR (X i) (.type T) r) (hv : bootBuiltins x = some (.type T)) (hm : G.mg x = none)
    (hg : ∀ i, Gl (X i) x) (ha : PAD X G W (e :: es) f ft fc) (hn : x ≠ "__name__" := by decide) (hdb : (x == ("__debug__" : Str)) = false := by decide)
    (he : ∀ i, starEach (e :: es) (X i).env = (false, eval e (X i).env) :: starEach es (X i).env := by exact fun _ => rfl) (hpl : ∀ i, (backTo pos (starEach es (X i).env)).any (·.1) = false := by exact fun _ => rfl) : PD X G W (.Call (.Name x p) (e :: es) [] pos) (eCall op f) fc fc nw := by
  obtain ⟨t, h1, h2, _⟩ := ha
  exact ⟨_, fun i => pe_callTy (hc i) (hg i) (by rw [g.m]; exact hm) hv (h1 i) hn hdb (he i) (hpl i), sim_call hs h2⟩
theorem pd_callBf {id : String} {x : Str} {r : List V → Hp → VK → Prop} {op : List D → Option D} {nw : Bool} {e : Expr} {es : List Expr} {f : FA} {ft fc : List Nat} {p pos : Pos} (g : Good X G) (hs : CallS G r op nw) (hc : ∀ i, CallR (X i) (.builtin id) r) (hm : G.mg x = some (.builtin id))
    (hg : ∀ i, Gl (X i) x) (ha : PAD X G W (e :: es) f ft fc) (hdb : (x == ("__debug__" : Str)) = false := by decide)
    (he : ∀ i, starEach (e :: es) (X i).env = (false, eval e (X i).env) :: starEach es (X i).env := by exact fun _ => rfl) (hpl : ∀ i, (backTo pos (starEach es (X i).env)).any (·.1) = false := by exact fun _ => rfl) : PD X G W (.Call (.Name x p) (e :: es) [] pos) (eCall op f) fc fc nw := by
  obtain ⟨t, h1, h2, _⟩ := ha
  exact ⟨_, fun i => pe_callBfun (hc i) (hg i) (by rw [g.m]; exact hm) (h1 i) hdb (he i) (hpl i), sim_call hs h2⟩
theorem kids1 {H : Hp} {O : AS} {d : D} {vs : List V} (k : Kids G H O [d] vs) : ∃ v, vs = [v] ∧ Kid G H O d v := by
  obtain ⟨v, r, e, k, e2⟩ := k
  rw [show r = [] from e2] at e
  exact ⟨v, e, k⟩
theorem kids2 {H : Hp} {O : AS} {d d' : D} {vs : List V} (k : Kids G H O [d, d'] vs) : ∃ v v', vs = [v, v'] ∧ Kid G H O d v ∧ Kid G H O d' v' := by
  obtain ⟨v, r, e, k, k2⟩ := k
  obtain ⟨v', e', k'⟩ := kids1 k2
  rw [e'] at e
  exact ⟨v, v', e, k, k'⟩
def lenD : List D → Option D
  | [.lst ds] => some (.int ds.length)
  | [.tup ds] => some (.int ds.length)
  | [.scr ns] => some (.int ns.length)
  | [.str s] => if s.length ≤ sizeLine then some (.int s.length) else none
  | _ => none
def rLenU (K : PySem.W.Frag) : List V → Hp → VK → Prop := fun xs H Q => (∃ p ys, xs = [.ref p] ∧ (SqL K H p ys ∨ SqT K H p ys) ∧ Q (.int ys.length) H) ∨ ∃ z, xs = [.str z] ∧ z.length ≤ sizeLine ∧ Q (.int z.length) H
theorem cr_len (g : Good X G) (i : ι) : CallR (X i) (.builtin "len") (rLenU G.K) := by rw [← g.k i]; exact call_len_seq.or call_len_str
theorem cs_len : CallS G (rLenU G.K) lenD true := by
  intro H O ds vs Q hO k d e h
  match ds, e with
  | [.lst ds], e =>
    obtain ⟨v, rfl, p, xs, rfl, h1, r⟩ := kids1 k
    cases e
    refine .inl ⟨p, xs, rfl, .inl (.of h1), ?_⟩
    rw [← r.length]
    exact h _ _ (Same.refl H) rfl fun _ => fresh_not rfl
  | [.tup ds], e =>
    obtain ⟨v, rfl, p, xs, rfl, h1, r⟩ := kids1 k
    cases e
    refine .inl ⟨p, xs, rfl, .inr h1, ?_⟩
    rw [← r.length]
    exact h _ _ (Same.refl H) rfl fun _ => fresh_not rfl
  | [.scr ns], e =>
    obtain ⟨v, rfl, p, rfl, h1⟩ := kids1 k
    cases e
    refine .inl ⟨p, _, rfl, .inl h1.seq, ?_⟩
    rw [List.length_map]
    exact h _ _ (Same.refl H) rfl fun _ => fresh_not rfl
  | [.str s], e =>
    obtain ⟨v, rfl, k1⟩ := kids1 k
    simp only [lenD] at e
    split at e
    · rename_i hl
      cases e
      exact .inr ⟨s, by rw [show v = V.str s from k1], hl, h _ _ (Same.refl H) rfl fun _ => fresh_not rfl⟩
    · cases e
def listD : List D → Option D
  | [.lst ds] => some (.lst ds)
  | [.tup ds] => some (.lst ds)
  | [.scr ns] => some (.lst (ns.map D.int))
  | _ => none
theorem cr_list (g : Good X G) (i : ι) : CallR (X i) (.type "list") (fun xs H Q => ∃ p ys, xs = [.ref p] ∧ (SqL G.K H p ys ∨ SqT G.K H p ys) ∧ ∀ l, H l = none → Q (.ref l) (upd H l (.lst ys))) := by rw [← g.k i]; exact call_list_of
theorem cs_list : CallS G (fun xs H Q => ∃ p ys, xs = [.ref p] ∧ (SqL G.K H p ys ∨ SqT G.K H p ys) ∧ ∀ l, H l = none → Q (.ref l) (upd H l (.lst ys))) listD true := by
  intro H O ds vs Q hO k d e h
  match ds, e with
  | [.lst ds], e =>
    obtain ⟨v, rfl, p, xs, rfl, h1, r⟩ := kids1 k
    cases e
    refine ⟨p, xs, rfl, .inl (.of h1), fun l hl => ?_⟩
    obtain ⟨n, fr⟩ := new_list hO hl r
    exact h _ _ (same_new hl) n fun _ => fr
  | [.tup ds], e =>
    obtain ⟨v, rfl, p, xs, rfl, h1, r⟩ := kids1 k
    cases e
    refine ⟨p, xs, rfl, .inr h1, fun l hl => ?_⟩
    obtain ⟨n, fr⟩ := new_list hO hl r
    exact h _ _ (same_new hl) n fun _ => fr
  | [.scr ns], e =>
    obtain ⟨v, rfl, p, rfl, h1⟩ := kids1 k
    cases e
    refine ⟨p, _, rfl, .inl h1.seq, fun l hl => ?_⟩
    obtain ⟨n, fr⟩ := new_list hO hl (Reps.map (f := D.int) (g := V.int) (fun n => (rfl : V.int n = V.int n)) ns)
    exact h _ _ (same_new hl) n fun _ => fr
def tupleD : List D → Option D
  | [.lst ds] => some (.tup ds)
  | [.tup ds] => some (.tup ds)
  | _ => none
def rTupU (K : PySem.W.Frag) : List V → Hp → VK → Prop := fun xs H Q => ∃ p ys, xs = [.ref p] ∧ ((SqL K H p ys ∧ ∀ l, H l = none → Q (.ref l) (upd H l (.tup ys))) ∨ (SqT K H p ys ∧ Q (.ref p) H))
theorem cr_tuple (g : Good X G) (i : ι) : CallR (X i) (.type "tuple") (rTupU G.K) := by rw [← g.k i]; exact call_tuple_of
theorem cs_tuple : CallS G (rTupU G.K) tupleD true := by
  intro H O ds vs Q hO k d e h
  match ds, e with
  | [.lst ds], e =>
    obtain ⟨v, rfl, p, xs, rfl, h1, r⟩ := kids1 k
    cases e
    refine ⟨p, xs, rfl, .inl ⟨.of h1, fun l hl => ?_⟩⟩
    exact h _ _ (same_new hl) (new_tup hl r) fun _ => fresh_not rfl
  | [.tup ds], e =>
    obtain ⟨v, rfl, p, xs, rfl, h1, r⟩ := kids1 k
    cases e
    exact ⟨p, xs, rfl, .inr ⟨h1, h _ _ (Same.refl H) ⟨p, xs, rfl, h1, r⟩ fun _ => fresh_not rfl⟩⟩
def asInts : List D → Option (List Int)
  | [] => some []
  | .int i :: r => (asInts r).map (i :: ·)
  | _ => none
theorem asInts_eq : ∀ {ds : List D} {ns : List Int}, asInts ds = some ns → ds = ns.map D.int
  | [], _, e => by cases e; rfl
  | .int i :: r, ns, e => by
    have e : (asInts r).map (i :: ·) = some ns := e
    cases q : asInts r with
    | none => rw [q] at e; cases e
    | some m => rw [q] at e; cases e; rw [asInts_eq q]; rfl
  | .non :: _, _, e | .bl _ :: _, _, e | .str _ :: _, _, e | .lst _ :: _, _, e | .tup _ :: _, _, e | .dK _ _ :: _, _, e | .dT _ _ :: _, _, e | .ins _ _ _ :: _, _, e | .scr _ :: _, _, e => by cases e
@[simp] theorem asInts_map : ∀ ns : List Int, asInts (ns.map D.int) = some ns
  | [] => rfl
  | n :: r => by show (asInts (r.map D.int)).map (n :: ·) = _; rw [asInts_map r]; rfl
def asBls : List D → Option (List Bool)
  | [] => some []
  | .bl i :: r => (asBls r).map (i :: ·)
  | _ => none
theorem asBls_eq : ∀ {ds : List D} {ns : List Bool}, asBls ds = some ns → ds = ns.map D.bl
  | [], _, e => by cases e; rfl
  | .bl i :: r, ns, e => by
    have e : (asBls r).map (i :: ·) = some ns := e
    cases q : asBls r with
    | none => rw [q] at e; cases e
    | some m => rw [q] at e; cases e; rw [asBls_eq q]; rfl
  | .non :: _, _, e | .int _ :: _, _, e | .str _ :: _, _, e | .lst _ :: _, _, e | .tup _ :: _, _, e | .dK _ _ :: _, _, e | .dT _ _ :: _, _, e | .ins _ _ _ :: _, _, e | .scr _ :: _, _, e => by cases e
@[simp] theorem asBls_map : ∀ ns : List Bool, asBls (ns.map D.bl) = some ns
  | [] => rfl
  | n :: r => by show (asBls (r.map D.bl)).map (n :: ·) = _; rw [asBls_map r]; rfl
def asStrs : List D → Option (List Str)
  | [] => some []
  | .str i :: r => (asStrs r).map (i :: ·)
  | _ => none
theorem asStrs_eq : ∀ {ds : List D} {ns : List Str}, asStrs ds = some ns → ds = ns.map D.str
  | [], _, e => by cases e; rfl
  | .str i :: r, ns, e => by
    have e : (asStrs r).map (i :: ·) = some ns := e
    cases q : asStrs r with
    | none => rw [q] at e; cases e
    | some m => rw [q] at e; cases e; rw [asStrs_eq q]; rfl
  | .non :: _, _, e | .int _ :: _, _, e | .bl _ :: _, _, e | .lst _ :: _, _, e | .tup _ :: _, _, e | .dK _ _ :: _, _, e | .dT _ _ :: _, _, e | .ins _ _ _ :: _, _, e | .scr _ :: _, _, e => by cases e
@[simp] theorem asStrs_map : ∀ ns : List Str, asStrs (ns.map D.str) = some ns
  | [] => rfl
  | n :: r => by show (asStrs (r.map D.str)).map (n :: ·) = _; rw [asStrs_map r]; rfl
theorem kid_ints {H : Hp} {O : AS} {ds : List D} {ns : List Int} {v : V} (e : asInts ds = some ns) (k : Kid G H O (.lst ds) v) : ∃ a, v = .ref a ∧ H a = some (.lst (ns.map V.int)) := by
  obtain ⟨a, xs, rfl, h1, r⟩ := k
  rw [asInts_eq e] at r
  rw [r.ints] at h1
  exact ⟨a, rfl, h1⟩
theorem kid_bls {H : Hp} {O : AS} {ds : List D} {ns : List Bool} {v : V} (e : asBls ds = some ns) (k : Kid G H O (.lst ds) v) : ∃ a, v = .ref a ∧ H a = some (.lst (ns.map V.bl)) := by
  obtain ⟨a, xs, rfl, h1, r⟩ := k
  rw [asBls_eq e] at r
  rw [r.bls] at h1
  exact ⟨a, rfl, h1⟩
theorem kid_strs {H : Hp} {O : AS} {ds : List D} {ns : List Str} {v : V} (e : asStrs ds = some ns) (k : Kid G H O (.lst ds) v) : ∃ a, v = .ref a ∧ H a = some (.lst (ns.map V.str)) := by
  obtain ⟨a, xs, rfl, h1, r⟩ := k
  rw [asStrs_eq e] at r
  rw [r.strs] at h1
  exact ⟨a, rfl, h1⟩
def sumD : List D → Option D
  | [.lst ds] => (asInts ds).map fun ns => .int ns.sum
  | _ => none
theorem cr_sum' (g : Good X G) (i : ι) : CallR (X i) (.builtin "sum") (rSum G.K) := by rw [← g.k i]; exact cr_sum (g.calm i)
theorem cs_sum : CallS G (rSum G.K) sumD true := by
  intro H O ds vs Q hO k d e h
  match ds, e with
  | [.lst ds], e =>
    obtain ⟨v, rfl, k1⟩ := kids1 k
    cases q : asInts ds with
    | none => simp [sumD, q] at e
    | some ns =>
      simp only [sumD, q, Option.map_some, Option.some.injEq] at e
      subst e
      obtain ⟨a, rfl, h1⟩ := kid_ints q k1
      exact ⟨a, ns, rfl, .of h1, h _ _ (Same.refl H) rfl fun _ => fresh_not rfl⟩
def gr : Int → List Int → Int
  | m, [] => m
  | m, n :: r => gr (if m < n then n else m) r
def le' : Int → List Int → Int
  | m, [] => m
  | m, n :: r => le' (if n < m then n else m) r
theorem gr_spec : ∀ (r : List Int) (m : Int), gr m r ∈ m :: r ∧ ∀ y ∈ m :: r, y ≤ gr m r
  | [], m => by simp [gr]
  | n :: r, m => by
    obtain ⟨h1, h2⟩ := gr_spec r (if m < n then n else m)
    simp only [gr]
    have h3 := h2 _ (List.mem_cons_self)
    constructor
    · rcases List.mem_cons.mp h1 with e | e
      · rw [e]; split <;> simp
      · simp [e]
    · intro y hy
      by_cases hc : m < n
      · rw [if_pos hc] at h2 h3 ⊢
        rcases List.mem_cons.mp hy with e | hy
        · rw [e]; omega
        · exact h2 y hy
      · rw [if_neg hc] at h2 h3 ⊢
        rcases List.mem_cons.mp hy with e | hy
        · rw [e]; exact h3
        · rcases List.mem_cons.mp hy with e | hy
          · rw [e]; omega
          · exact h2 y (List.mem_cons_of_mem _ hy)
theorem le_spec : ∀ (r : List Int) (m : Int), le' m r ∈ m :: r ∧ ∀ y ∈ m :: r, le' m r ≤ y
  | [], m => by simp [le']
  | n :: r, m => by
    obtain ⟨h1, h2⟩ := le_spec r (if n < m then n else m)
    simp only [le']
    have h3 := h2 _ (List.mem_cons_self)
    constructor
    · rcases List.mem_cons.mp h1 with e | e
      · rw [e]; split <;> simp
      · simp [e]
    · intro y hy
      by_cases hc : n < m
      · rw [if_pos hc] at h2 h3 ⊢
        rcases List.mem_cons.mp hy with e | hy
        · rw [e]; omega
        · exact h2 y hy
      · rw [if_neg hc] at h2 h3 ⊢
        rcases List.mem_cons.mp hy with e | hy
        · rw [e]; exact h3
        · rcases List.mem_cons.mp hy with e | hy
          · rw [e]; omega
          · exact h2 y (List.mem_cons_of_mem _ hy)
def maxD : List D → Option D
  | [.lst ds] => match asInts ds with
    | some (n :: r) => some (.int (gr n r))
    | _ => none
  | _ => none
def minD : List D → Option D
  | [.lst ds] => match asInts ds with
    | some (n :: r) => some (.int (le' n r))
    | _ => none
  | _ => none
theorem cr_max' (g : Good X G) (i : ι) : CallR (X i) (.builtin "max") (rMax G.K) := by rw [← g.k i]; exact cr_max (g.calm i)
theorem cr_min' (g : Good X G) (i : ι) : CallR (X i) (.builtin "min") (rMin G.K) := by rw [← g.k i]; exact cr_min (g.calm i)
theorem cs_max : CallS G (rMax G.K) maxD true := by
  intro H O ds vs Q hO k d e h
  match ds, e with
  | [.lst ds], e =>
    obtain ⟨v, rfl, k1⟩ := kids1 k
    cases q : asInts ds with
    | none => simp [maxD, q] at e
    | some ns =>
      cases ns with
      | nil => simp [maxD, q] at e
      | cons n r =>
        simp only [maxD, q, Option.some.injEq] at e
        subst e
        obtain ⟨a, rfl, h1⟩ := kid_ints q k1
        refine ⟨a, n :: r, rfl, .of h1, by simp, fun m hm hle => ?_⟩
        obtain ⟨g1, g2⟩ := gr_spec r n
        have : m = gr n r := by
          have := hle _ g1
          have := g2 _ hm
          omega
        rw [this]
        exact h _ _ (Same.refl H) rfl fun _ => fresh_not rfl
theorem cs_min : CallS G (rMin G.K) minD true := by
  intro H O ds vs Q hO k d e h
  match ds, e with
  | [.lst ds], e =>
    obtain ⟨v, rfl, k1⟩ := kids1 k
    cases q : asInts ds with
    | none => simp [minD, q] at e
    | some ns =>
      cases ns with
      | nil => simp [minD, q] at e
      | cons n r =>
        simp only [minD, q, Option.some.injEq] at e
        subst e
        obtain ⟨a, rfl, h1⟩ := kid_ints q k1
        refine ⟨a, n :: r, rfl, .of h1, by simp, fun m hm hle => ?_⟩
        obtain ⟨g1, g2⟩ := le_spec r n
        have : m = le' n r := by
          have := hle _ g1
          have := g2 _ hm
          omega
        rw [this]
        exact h _ _ (Same.refl H) rfl fun _ => fresh_not rfl
def max2D : List D → Option D
  | [.int i, .int j] => some (.int (if j > i then j else i))
  | _ => none
def min2D : List D → Option D
  | [.int i, .int j] => some (.int (if j < i then j else i))
  | _ => none
theorem cs_max2 : CallS G (fun xs H Q => ∃ i j, xs = [.int i, .int j] ∧ Q (.int (if j > i then j else i)) H) max2D true := by
  intro H O ds vs Q hO k d e h
  match ds, e with
  | [.int i, .int j], e =>
    obtain ⟨v, w, rfl, k1, k2⟩ := kids2 k
    cases e
    exact ⟨i, j, by rw [show v = V.int i from k1, show w = V.int j from k2], h _ _ (Same.refl H) rfl fun _ => fresh_not rfl⟩
theorem cs_min2 : CallS G (fun xs H Q => ∃ i j, xs = [.int i, .int j] ∧ Q (.int (if j < i then j else i)) H) min2D true := by
  intro H O ds vs Q hO k d e h
  match ds, e with
  | [.int i, .int j], e =>
    obtain ⟨v, w, rfl, k1, k2⟩ := kids2 k
    cases e
    exact ⟨i, j, by rw [show v = V.int i from k1, show w = V.int j from k2], h _ _ (Same.refl H) rfl fun _ => fresh_not rfl⟩
def absD : List D → Option D
  | [.int i] => some (.int (if i < 0 then -i else i))
  | _ => none
theorem cs_abs : CallS G (fun xs H Q => ∃ i, xs = [.int i] ∧ Q (.int (if i < 0 then -i else i)) H) absD true := by
  intro H O ds vs Q hO k d e h
  match ds, e with
  | [.int i], e =>
    obtain ⟨v, rfl, k1⟩ := kids1 k
    cases e
    exact ⟨i, by rw [show v = V.int i from k1], h _ _ (Same.refl H) rfl fun _ => fresh_not rfl⟩
def intD : List D → Option D
  | [.int i] => some (.int i)
  | [.bl b] => some (.int (if b then 1 else 0))
  | _ => none
theorem cs_int : CallS G (fun xs H Q => (∃ i, xs = [.int i] ∧ Q (.int i) H) ∨ ∃ k, xs = [.bl k] ∧ Q (.int (if k then 1 else 0)) H) intD true := by
  intro H O ds vs Q hO k d e h
  match ds, e with
  | [.int i], e =>
    obtain ⟨v, rfl, k1⟩ := kids1 k
    cases e
    exact .inl ⟨i, by rw [show v = V.int i from k1], h _ _ (Same.refl H) rfl fun _ => fresh_not rfl⟩
  | [.bl i], e =>
    obtain ⟨v, rfl, k1⟩ := kids1 k
    cases e
    exact .inr ⟨i, by rw [show v = V.bl i from k1], h _ _ (Same.refl H) rfl fun _ => fresh_not rfl⟩
def gcdD : List D → Option D
  | [.int i, .int j] => some (.int (Nat.gcd i.natAbs j.natAbs : Nat))
  | _ => none
theorem cs_gcd : CallS G rGcd gcdD true := by
  intro H O ds vs Q hO k d e h
  match ds, e with
  | [.int i, .int j], e =>
    obtain ⟨v, w, rfl, k1, k2⟩ := kids2 k
    cases e
    exact ⟨i, j, by rw [show v = V.int i from k1, show w = V.int j from k2], h _ _ (Same.refl H) rfl fun _ => fresh_not rfl⟩
def allD : List D → Option D
  | [.lst ds] => (asBls ds).map fun ns => .bl (ns.all id)
  | _ => none
def anyD : List D → Option D
  | [.lst ds] => (asBls ds).map fun ns => .bl (ns.any id)
  | _ => none
theorem cr_all' (g : Good X G) (i : ι) : CallR (X i) (.builtin "all") (rAll G.K) := by rw [← g.k i]; exact cr_all (g.calm i)
theorem cr_any' (g : Good X G) (i : ι) : CallR (X i) (.builtin "any") (rAny G.K) := by rw [← g.k i]; exact cr_any (g.calm i)
theorem cs_all : CallS G (rAll G.K) allD true := by
  intro H O ds vs Q hO k d e h
  match ds, e with
  | [.lst ds], e =>
    obtain ⟨v, rfl, k1⟩ := kids1 k
    cases q : asBls ds with
    | none => simp [allD, q] at e
    | some ns =>
      simp only [allD, q, Option.map_some, Option.some.injEq] at e
      subst e
      obtain ⟨a, rfl, h1⟩ := kid_bls q k1
      exact ⟨a, ns, rfl, .of h1, h _ _ (Same.refl H) rfl fun _ => fresh_not rfl⟩
theorem cs_any : CallS G (rAny G.K) anyD true := by
  intro H O ds vs Q hO k d e h
  match ds, e with
  | [.lst ds], e =>
    obtain ⟨v, rfl, k1⟩ := kids1 k
    cases q : asBls ds with
    | none => simp [anyD, q] at e
    | some ns =>
      simp only [anyD, q, Option.map_some, Option.some.injEq] at e
      subst e
      obtain ⟨a, rfl, h1⟩ := kid_bls q k1
      exact ⟨a, ns, rfl, .of h1, h _ _ (Same.refl H) rfl fun _ => fresh_not rfl⟩
def sortI (ns : List Int) : List Int := ns.mergeSort fun a b => decide (a ≤ b)
theorem sortI_perm (ns : List Int) : (sortI ns).Perm ns := List.mergeSort_perm _ _
theorem sortI_sorted (ns : List Int) : (sortI ns).Pairwise (· ≤ ·) := by
  have := List.pairwise_mergeSort (le := fun a b : Int => decide (a ≤ b)) (by intro a b c h1 h2; simp at h1 h2 ⊢; omega) (by intro a b; simp; omega) ns
  exact this.imp fun h => by simpa using h
theorem sortI_one {ns ms : List Int} (h1 : ms.Perm ns) (h2 : ms.Pairwise (· ≤ ·)) : ms = sortI ns :=
  List.Perm.eq_of_pairwise (fun a b _ _ x y => Int.le_antisymm x y) h2 (sortI_sorted ns) (h1.trans (sortI_perm ns).symm)
def sortedD : List D → Option D
  | [.lst ds] => (asInts ds).map fun ns => .lst ((sortI ns).map D.int)
  | _ => none
theorem cr_sorted' (g : Good X G) (i : ι) : CallR (X i) (.builtin "sorted") (rSortedI G.K) := by rw [← g.k i]; exact cr_sortedI
theorem cs_sorted : CallS G (rSortedI G.K) sortedD true := by
  intro H O ds vs Q hO k d e h
  match ds, e with
  | [.lst ds], e =>
    obtain ⟨v, rfl, k1⟩ := kids1 k
    cases q : asInts ds with
    | none => simp [sortedD, q] at e
    | some ns =>
      simp only [sortedD, q, Option.map_some, Option.some.injEq] at e
      subst e
      obtain ⟨a, rfl, h1⟩ := kid_ints q k1
      refine ⟨a, ns, rfl, .of h1, fun ms p hp hs hn => ?_⟩
      rw [sortI_one hp hs]
      obtain ⟨n, fr⟩ := new_list hO hn (Reps.map (f := D.int) (g := V.int) (fun n => (rfl : V.int n = V.int n)) (sortI ns))
      exact h _ _ (same_new hn) n fun _ => fr
def D.ty : D → String
  | .non => "NoneType"
  | .bl _ => "bool"
  | .int _ => "int"
  | .str _ => "str"
  | .lst _ => "list"
  | .scr _ => "list"
  | .tup _ => "tuple"
  | .dK .. => "dict"
  | _ => ""
def isiB (t T : String) : Bool := t == T || (t == "bool" && T == "int")
theorem kid_ty {H : Hp} {O : AS} {d : D} {v : V} (k : Kid G H O d v) (hd : d.ty ≠ "") : TyX G.K H v (.type d.ty) := by
  cases d with
  | non => rw [show v = V.non from k]; exact .base .non
  | bl b => rw [show v = V.bl b from k]; exact .base (.bl b)
  | int b => rw [show v = V.int b from k]; exact .base (.int b)
  | str b => rw [show v = V.str b from k]; exact .base (.str b)
  | lst _ => obtain ⟨a, xs, rfl, h, _⟩ := k; exact .base (.lst h)
  | tup _ =>
    obtain ⟨a, xs, rfl, h, _⟩ := k
    rcases h with (h | ⟨o, h⟩) | ⟨o, its, n, h, c, _⟩
    · exact .base (.tup h)
    · exact .fTuple h
    · exact .kTuple h c
  | scr _ =>
    obtain ⟨a, rfl, h⟩ := k
    rcases h with ⟨o, h⟩ | ⟨o, its, n, h, c, _⟩
    · exact .base (.frz h)
    · exact .kList h c
  | dK _ _ =>
    obtain ⟨a, xs, rfl, h, _⟩ := k
    rcases h with h | ⟨o, h⟩
    · exact .base (.dK h)
    · exact .fDict h
  | dT _ _ => exact absurd rfl hd
  | ins _ _ _ => exact absurd rfl hd
def isiOk (T : String) : Bool := ["NoneType", "bool", "int", "str", "list", "tuple", "dict"].all fun t => kitB t T == some (isiB t T)
def isiD (T : String) (d : D) : Option D := if d.ty = "" then none else some (.bl (isiB d.ty T))
def eIsi (T : String) (f : FE) : FE := fun ρ => (f ρ).bind fun d => ofO (isiD T d)
theorem ty_mem {d : D} (h : d.ty ≠ "") : d.ty ∈ ["NoneType", "bool", "int", "str", "list", "tuple", "dict"] := by
  cases d <;> first | exact absurd rfl h | simp [D.ty]
theorem pd_isi {T : String} {x : Str} {e : Expr} {f : FE} {ft fc : List Nat} {nw : Bool} {p p2 pos : Pos} (g : Good X G) (ok : isiOk T = true) (ha : PD X G W e f ft fc nw) (hm : G.mg "isinstance" = none) (hmT : G.mg x = none) (hvT : bootBuiltins x = some (.type T)) (hg : ∀ i, Gl (X i) "isinstance") (hgT : ∀ i, Gl (X i) x)
    (hn : x ≠ "__name__" := by decide) (hdb : (x == ("__debug__" : Str)) = false := by decide)
    (he : ∀ i, starEach [e, .Name x p2] (X i).env = (false, eval e (X i).env) :: starEach [.Name x p2] (X i).env := by exact fun _ => rfl)
    (he2 : ∀ i, starEach [.Name x p2] (X i).env = (false, eval (.Name x p2) (X i).env) :: starEach [] (X i).env := by exact fun _ => rfl)
    (hpl : ∀ i, (backTo pos (starEach [.Name x p2] (X i).env)).any (·.1) = false := by exact fun _ => rfl) :
    PD X G W (.Call (.Name "isinstance" p) [e, .Name x p2] [] pos) (eIsi T f) [] [] true := by
  obtain ⟨t, h1, h2⟩ := ha
  refine ⟨tCB (rIsi G.K) (tCons t (tCons (tC (.ty T)) tNil)), fun i => ?_, fun B H0 ρ σ H rl Q hq => ?_⟩
  · rw [← g.k i]
    exact pe_callB call_isi (hg i) (by rw [g.m]; exact hm) (by decide +kernel) (pa_cons (h1 i) (pa_cons (pe_bltn (hgT i) (by rw [g.m]; exact hmT) hvT rfl hn hdb) pa_nil (he2 i)) (he i)) (by decide) (by decide) (he i) (hpl i)
  · unfold eIsi at hq
    refine h2 B H0 ρ σ H rl _ ?_
    cases e1 : f ρ with
    | no => rw [e1] at hq; exact hq
    | ex x => rw [e1] at hq; exact hq
    | ok d =>
      rw [e1] at hq
      intro v H1 s1 x1
      simp only [R.bind_ok, isiD] at hq
      by_cases hd : d.ty = ""
      · rw [if_pos hd] at hq; exact hq.elim
      · rw [if_neg hd] at hq
        have hk : kitB d.ty T = some (isiB d.ty T) := by
          have := List.all_eq_true.mp ok d.ty (ty_mem hd)
          simpa using this
        exact ⟨v, .ty T, .type d.ty, .type T, _, rfl, .ty T, kid_ty x1.kid hd, kit_ty hk, hq _ _ s1 (repx_bl _)⟩
end
end PD
set_option autoImplicit false
namespace PD
open PySem PySem.Spec PyProof.Rows L2
section
variable {G : Gb} {W : WX} {ι : Type} {X : ι → Cx}
abbrev FnF (P : Program) (w : World) (K : PySem.W.Frag) (mg : Str → Option Value) (base : Heap) (G : Gb) (k : Nat) (f : Addr) (fd : FuncData) (ps : List Str) (F : FF) (nw : Bool) : Prop :=
  FnOk P w K mg base (L2.CX P w) k f fd ps (spF G F nw ps.length)
def eFn (F : FF) (f : FA) : FE := fun ρ => (f ρ).bind F
def chk (nw : Bool) (d : D) : Bool := if nw = true then D.imms d.kids else d.imm
def eFnK (nw : Bool) (F : FF) (f : FA) : FE := fun ρ => (f ρ).bind fun ds => (F ds).bind fun d => if chk nw d = true then .ok d else .no
theorem ExR.less {H : Hp} {O O' : AS} {x : Ex} {cls : Value} {dd : Option Addr} (k : ∀ a, O' a → O a) (h : ExR G O x cls dd H) : ExR G O' x cls dd H := by
  obtain ⟨C, h1, h2, h3⟩ := h
  refine ⟨C, h1, h2, ?_⟩
  split at h3
  · rename_i e; simp
  · rename_i f d e
    obtain ⟨p, v, h4, h5, h6⟩ := h3
    exact ⟨p, v, h4, h5, h6.less k⟩
structure CallOk {ι : Type} (X : ι → Cx) (G : Gb) (W : WX) (x : Str) (F : FF) (nw : Bool) (n : Nat) : Prop where
  ex : ∃ (f : Addr) (fd : FuncData) (k : Nat) (ps : List Str), ps.length = n ∧ (∀ i, FnOk (X i).prog (X i).w (X i).K (X i).mg (X i).base (L2.CX (X i).prog (X i).w) k f fd ps (spF G F nw n)) ∧ (∀ i, Room k (X i).A) ∧ G.mg x = some (.ref f) ∧ PySem.W.keepIn G.K (.ref f) = true ∧ Binds G.K fd ps []
  tk : ∀ i, Takes (X i) W
theorem sim_fn {F : FF} {nw : Bool} {n : Nat} {t : TA} {f : FA} {ft fc : List Nat} (h : SimA G W t f ft fc) (hl : ∀ ρ ds, f ρ = .ok ds → ds.length = n) : SimE G W (tCallS (spF G F nw n) (WE W) t) (eFn F f) ft ft nw := fun B H0 ρ σ H rl Q hq => by
  unfold eFn at hq
  refine h B H0 ρ σ H rl _ ?_
  have hl := hl ρ
  cases e1 : f ρ with
  | no => rw [e1] at hq; exact hq
  | ex x => rw [e1] at hq; exact hq
  | ok ds =>
    rw [e1] at hq
    have hl := hl ds e1
    intro vs H1 s1 r _
    simp only [R.bind_ok] at hq
    refine ⟨by rw [← r.length]; exact hl, Own B ρ σ ft, ds, fun a z => (rl.same s1).mut z, r, ?_⟩
    cases e2 : F ds with
    | no => rw [e2] at hq; exact hq
    | ex x => rw [e2] at hq; exact fun cls dd H2 s2 q => hq cls dd H2 (s1.trans s2) (q.less fun a z => .inl z)
    | ok d => rw [e2] at hq; exact fun v H2 s2 q => hq v H2 (s1.trans s2) ⟨q.1, q.1.kid, fun e m => let ⟨p, h1, h2, t⟩ := q.2 e m; ⟨p, h1, s1.free h2, t⟩⟩
theorem Top.imms {H : Hp} {O O' : AS} {d : D} {a : Addr} (i : D.imms d.kids = true) (t : Top G H O d a) : Top G H O' d a := by
  cases d with
  | lst ds => obtain ⟨xs, l, r⟩ := t; exact ⟨xs, l, r.imm _ _ i⟩
  | dK ks ds => obtain ⟨xs, l, m, r⟩ := t; exact ⟨xs, l, m, r.imm _ _ i⟩
  | dT ks ds => obtain ⟨xs, l, m, r⟩ := t; exact ⟨xs, l, m, r.imm _ _ i⟩
  | ins c ns ds => obtain ⟨C, dx, xs, g, l, m, r⟩ := t; exact ⟨C, dx, xs, g, l, m, r.imm _ _ i⟩
  | _ => exact t.elim
theorem imms_not_mut {d : D} (i : D.imms d.kids = true) (m : d.isMut = false) : d.imm = true := by
  cases d <;> first | rfl | (cases m; done) | exact i
theorem sim_fnK {F : FF} {nw : Bool} {n : Nat} {t : TA} {f : FA} {ft fc : List Nat} (h : SimA G W t f ft fc) (hl : ∀ ρ ds, f ρ = .ok ds → ds.length = n) : SimE G W (tCallS (spF G F nw n) (WE W) t) (eFnK nw F f) [] [] nw := fun B H0 ρ σ H rl Q hq => by
  refine sim_fn (F := F) (nw := nw) h hl B H0 ρ σ H rl Q ?_
  unfold eFnK at hq
  unfold eFn
  cases e1 : f ρ with
  | no => rw [e1] at hq; exact hq
  | ex x => rw [e1] at hq; exact hq
  | ok ds =>
    rw [e1] at hq
    simp only [R.bind_ok] at hq ⊢
    cases e2 : F ds with
    | no => rw [e2] at hq; exact hq
    | ex x => rw [e2] at hq; exact hq
    | ok d =>
      rw [e2] at hq
      simp only [R.bind_ok] at hq
      by_cases hc : chk nw d = true
      · rw [if_pos hc] at hq
        intro v H1 s1 x1
        refine hq v H1 s1 ?_
        unfold chk at hc
        by_cases hn : nw = true
        · rw [if_pos hn] at hc
          by_cases hm : d.isMut = true
          · obtain ⟨p, ev, hp, t⟩ := x1.fresh hn hm
            subst ev
            have t' : Top G H1 (fun a => Own B ρ σ [] a ∨ a = p) d p := t.imms hc
            have np : ¬ Own B ρ σ [] p := fun z => Own.mut rl z hp
            have tr : Rep G H1 (Own B ρ σ []) d (.ref p) := Top.rep np (t'.mono (Ev.of_same (Same.refl H1)) (fun a _ n z => n (.inl z)) (fun _ z => z))
            exact ⟨tr, tr.kid, fun _ _ => ⟨p, rfl, hp, t'⟩⟩
          · have hm : d.isMut = false := by simpa using hm
            have q : Rep G H1 (Own B ρ σ []) d v := x1.top.imm d v (imms_not_mut hc hm)
            exact ⟨q, q.kid, fun _ => fresh_not hm⟩
        · rw [if_neg hn] at hc
          have q : Rep G H1 (Own B ρ σ []) d v := x1.top.imm d v hc
          exact ⟨q, q.kid, fun z => absurd z hn⟩
      · rw [if_neg hc] at hq; exact hq.elim
theorem pd_fn {x : Str} {F : FF} {nw : Bool} {n : Nat} {e : Expr} {es : List Expr} {f : FA} {ft fc : List Nat} {p pos : Pos} (g : Good X G) (c : CallOk X G W x F nw n) (hg : ∀ i, Gl (X i) x) (ha : PAD X G W (e :: es) f ft fc) (hn : (e :: es).length = n := by rfl) (hdb : (x == ("__debug__" : Str)) = false := by decide)
    (he : ∀ i, starEach (e :: es) (X i).env = (false, eval e (X i).env) :: starEach es (X i).env := by exact fun _ => rfl) (hpl : ∀ i, (backTo pos (starEach es (X i).env)).any (·.1) = false := by exact fun _ => rfl) : PD X G W (.Call (.Name x p) (e :: es) [] pos) (eFn F f) ft ft nw := by
  obtain ⟨fa, fd, k, ps, hps, c1, c2, c3, c4, c5⟩ := c.ex
  obtain ⟨t, h1, h2, h3⟩ := ha
  exact ⟨_, fun i => pe_callS (c1 i) (c2 i) (hg i) (by rw [g.m]; exact c3) (by rw [g.k]; exact c4) (by rw [g.k]; exact c5) (fun σ => passAt (c.tk i) σ) (h1 i) hdb (he i) (hpl i), sim_fn h2 fun ρ ds e => (h3 ρ ds e).trans hn⟩
theorem pd_fnK {x : Str} {F : FF} {nw : Bool} {n : Nat} {e : Expr} {es : List Expr} {f : FA} {ft fc : List Nat} {p pos : Pos} (g : Good X G) (c : CallOk X G W x F nw n) (hg : ∀ i, Gl (X i) x) (ha : PAD X G W (e :: es) f ft fc) (hn : (e :: es).length = n := by rfl) (hdb : (x == ("__debug__" : Str)) = false := by decide)
    (he : ∀ i, starEach (e :: es) (X i).env = (false, eval e (X i).env) :: starEach es (X i).env := by exact fun _ => rfl) (hpl : ∀ i, (backTo pos (starEach es (X i).env)).any (·.1) = false := by exact fun _ => rfl) : PD X G W (.Call (.Name x p) (e :: es) [] pos) (eFnK nw F f) [] [] nw := by
  obtain ⟨fa, fd, k, ps, hps, c1, c2, c3, c4, c5⟩ := c.ex
  obtain ⟨t, h1, h2, h3⟩ := ha
  exact ⟨_, fun i => pe_callS (c1 i) (c2 i) (hg i) (by rw [g.m]; exact c3) (by rw [g.k]; exact c4) (by rw [g.k]; exact c5) (fun σ => passAt (c.tk i) σ) (h1 i) hdb (he i) (hpl i), sim_fnK h2 fun ρ ds e => (h3 ρ ds e).trans hn⟩
def sSeq (f g : FS) : FS := fun ρ => match f ρ with
  | .nx ρ' => g ρ'
  | o => o
def sNil : FS := fun ρ => .nx ρ
theorem pss_nil' {nw : Bool} : PSsD X G W [] sNil nw := ⟨_, fun _ => pss_nil, fun B H0 ρ σ H rl D h => h σ H rl⟩
theorem sim_seq {t u : TS} {f g : FS} {nw : Bool} (h : SimS G W t f nw) (h' : SimS G W u g nw) : SimS G W (tSeq t u) (sSeq f g) nw := fun B H0 ρ σ H rl D hq => by
  refine h B H0 ρ σ H rl _ ?_
  unfold sSeq at hq
  cases e : f ρ with
  | nx ρ' => rw [e] at hq; exact fun σ' H' r' => h' B H0 ρ' σ' H' r' D hq
  | rt d => rw [e] at hq; exact hq
  | bk ρ' => rw [e] at hq; exact hq
  | ct ρ' => rw [e] at hq; exact hq
  | ex x ρ' => rw [e] at hq; exact hq
  | no => rw [e] at hq; exact hq
theorem pss_cons' {s : Stmt} {rest : List Stmt} {f g : FS} {nw : Bool} (h : PSD X G W s f nw) (h' : PSsD X G W rest g nw) : PSsD X G W (s :: rest) (sSeq f g) nw :=
  let ⟨_, h1, h2⟩ := h; let ⟨_, h3, h4⟩ := h'; ⟨_, fun i => pss_cons (h1 i) (h3 i), sim_seq h2 h4⟩
theorem pss_one' {s : Stmt} {f : FS} {nw : Bool} (h : PSD X G W s f nw) : PSsD X G W [s] f nw := let ⟨_, h1, h2⟩ := h; ⟨_, fun i => pss_one (h1 i), h2⟩
def sBk : FS := fun ρ => .bk ρ
def sCt : FS := fun ρ => .ct ρ
theorem psd_pass {pos : Pos} {nw : Bool} : PSD X G W (.Pass pos) sNil nw := ⟨_, fun _ => ps_pass, fun B H0 ρ σ H rl D h => h σ H rl⟩
theorem psd_break {pos : Pos} {nw : Bool} : PSD X G W (.Break pos) sBk nw := ⟨_, fun _ => ps_break, fun B H0 ρ σ H rl D h => h σ H rl⟩
theorem psd_continue {pos : Pos} {nw : Bool} : PSD X G W (.Continue pos) sCt nw := ⟨_, fun _ => ps_continue, fun B H0 ρ σ H rl D h => h σ H rl⟩
def sNo : FS := fun _ => .no
theorem psd_never {s : Stmt} {nw : Bool} : PSD X G W s sNo nw := ⟨_, fun _ => ps_never, fun B H0 ρ σ H rl D h => h.elim⟩
theorem pssd_never {s : List Stmt} {nw : Bool} : PSsD X G W s sNo nw := ⟨_, fun _ => pss_never, fun B H0 ρ σ H rl D h => h.elim⟩
theorem Fresh.from {H H1 H' : Hp} {O : AS} {d : D} {v : V} (s : Same H H1) (h : Fresh G H1 H' O d v) : Fresh G H H' O d v := fun m => let ⟨p, h1, h2, t⟩ := h m; ⟨p, h1, s.free h2, t⟩
theorem Fresh.less {H H' : Hp} {O O' : AS} {d : D} {v : V} (k : ∀ a, O' a → O a) (h : Fresh G H H' O d v) : Fresh G H H' O' d v := fun m => let ⟨p, h1, h2, t⟩ := h m; ⟨p, h1, h2, t.mono (Ev.of_same (Same.refl H')) (fun a _ n z => n (z.elim (fun z => .inl (k a z)) .inr)) (fun _ z => z)⟩
def sRet (f : FE) : FS := fun ρ => match f ρ with
  | .ok d => .rt d
  | .ex x => .ex x ρ
  | .no => .no
theorem sim_ret {t : TE} {f : FE} {ft fc : List Nat} {nw nwr : Bool} (h : SimE G W t f ft fc nw) (hn : nwr = true → nw = true) : SimS G W (tRet t) (sRet f) nwr := fun B H0 ρ σ H rl D hq => by
  unfold sRet at hq
  refine h B H0 ρ σ H rl _ ?_
  cases e : f ρ with
  | no => rw [e] at hq; exact hq
  | ex x => rw [e] at hq; exact fun cls dd H' s q => hq cls dd σ H' (rl.same s) q
  | ok d => rw [e] at hq; exact fun v H' s x => hq v H' (rl.old.trans s) ⟨x.top.less fun a z => .inl z, fun z => ((x.fresh (hn z)).from rl.old).less fun a z => .inl z⟩
theorem psd_ret {e : Expr} {f : FE} {ft fc : List Nat} {nw nwr : Bool} {pos : Pos} (h : PD X G W e f ft fc nw) (hn : nwr = true → nw = true := by first | exact fun _ => rfl | exact fun z => nomatch z) : PSD X G W (.Return (some e) pos) (sRet f) nwr :=
  let ⟨_, h1, h2⟩ := h; ⟨_, fun i => ps_ret (h1 i), sim_ret h2 hn⟩
def sRetN : FS := fun _ => .rt .non
theorem psd_retN {pos : Pos} {nwr : Bool} : PSD X G W (.Return none pos) sRetN nwr := ⟨_, fun i => ps_retN, fun B H0 ρ σ H rl D h => h .non H rl.old ⟨rfl, fun _ => fresh_not rfl⟩⟩
def sRetO (i : Nat) : FS := fun ρ => match ρ[i]? with
  | some (.ow d) => .rt d
  | some (.sh d) => if d.isMut = true then .no else .rt d
  | _ => .no
theorem psd_retO (i : Nat) {x : Str} {p pos : Pos} {nwr : Bool} (hN : ∀ j, (X j).N[i]? = some x := by exact fun _ => rfl) (hv : ∀ j, Vis (X j).env.scope x := by first | exact fun _ => Or.inl rfl | exact fun _ => Or.inr (Or.inl rfl) | exact fun _ => Or.inr (Or.inr rfl)) (hd : (x == ("__debug__" : Str)) = false := by decide) (hcd : (x == ("__classdict__" : Str)) = false := by decide) : PSD X G W (.Return (some (.Name x p)) pos) (sRetO i) nwr := by
  refine ⟨_, fun j => ps_ret (pe_var (hN j) (hv j) hd hcd), fun B H0 ρ σ H rl D h => ?_⟩
  unfold sRetO at h
  cases e : ρ[i]? with
  | none => rw [e] at h; exact h.elim
  | some sl =>
    rw [e] at h
    cases sl with
    | no => exact h.elim
    | ow d =>
      obtain ⟨a, h1, t, o⟩ := rl.ow e
      refine ⟨.ref a, h1, h _ H rl.old ⟨Top.rep (fun z => rl.bo i a o z) (t.mono (Ev.of_same (Same.refl H)) (fun a _ n z => n (.inl z)) (fun _ z => z)), fun _ _ => ⟨a, rfl, rl.new i a o, t.mono (Ev.of_same (Same.refl H)) (fun b _ n z => n ?_) (fun _ z => z)⟩⟩⟩
      rcases z with z | z
      · exact .inl z
      · exact .inr ⟨i, by simp, z ▸ o⟩
    | sh d =>
      simp only at h
      by_cases m : d.isMut = true
      · rw [if_pos m] at h; exact h.elim
      · rw [if_neg m] at h
        obtain ⟨v, h1, h2⟩ := rl.sh e
        exact ⟨v, h1, h v H rl.old ⟨h2.less fun a z => .inl z, fun _ => fresh_not (by simpa using m)⟩⟩
def sExp (f : FE) : FS := fun ρ => match f ρ with
  | .ok _ => .nx ρ
  | .ex x => .ex x ρ
  | .no => .no
theorem psd_exp {e : Expr} {f : FE} {ft fc : List Nat} {nw nwr : Bool} {pos : Pos} (h : PD X G W e f ft fc nw) (hs : ∀ i, swapsWith e none pos.line (X i).env = pure false := by exact fun _ => rfl) : PSD X G W (.Expr e pos) (sExp f) nwr := by
  obtain ⟨t, h1, h2⟩ := h
  refine ⟨_, fun i => ps_expr (h1 i) (hs i), fun B H0 ρ σ H rl D hq => ?_⟩
  unfold sExp at hq
  refine h2 B H0 ρ σ H rl _ ?_
  cases e : f ρ with
  | no => rw [e] at hq; exact hq
  | ex x => rw [e] at hq; exact fun cls dd H' s q => hq cls dd σ H' (rl.same s) q
  | ok d => rw [e] at hq; exact fun v H' s x => hq σ H' (rl.same s)
def sIf (c : FT) (f g : FS) : FS := fun ρ => match c ρ with
  | .ok b => if b = true then f ρ else g ρ
  | .ex x => .ex x ρ
  | .no => .no
theorem psd_if {c : Expr} {a b : List Stmt} {fc : FT} {f g : FS} {nw : Bool} {pos : Pos} (hc : PTD X G W c fc) (h : PSsD X G W a f nw) (h' : PSsD X G W b g nw) : PSD X G W (.If c a b pos) (sIf fc f g) nw := by
  obtain ⟨tc, c1, c2⟩ := hc
  obtain ⟨t, h1, h2⟩ := h
  obtain ⟨u, h3, h4⟩ := h'
  refine ⟨_, fun i => ps_if (c1 i) (h1 i) (h3 i), fun B H0 ρ σ H rl D hq => ?_⟩
  unfold sIf at hq
  refine c2 B H0 ρ σ H rl _ ?_
  cases e : fc ρ with
  | no => rw [e] at hq; exact hq
  | ex x => rw [e] at hq; exact fun cls dd H' s q => hq cls dd σ H' (rl.same s) q
  | ok b =>
    rw [e] at hq
    intro H1 s1
    cases b with
    | true => rw [if_pos rfl]; exact h2 B H0 ρ σ H1 (rl.same s1) D hq
    | false => rw [if_neg Bool.false_ne_true]; exact h4 B H0 ρ σ H1 (rl.same s1) D hq
def frzD (fr : List Nat) (d : D) (ρ : DS) : DS := if d.imm = true then ρ else frz fr ρ
def frzK (fr : List Nat) (d : D) (ρ : DS) : DS := if D.imms d.kids = true then ρ else frz fr ρ
@[simp] theorem frzD_nil (d : D) (ρ : DS) : frzD [] d ρ = ρ := by unfold frzD; split <;> rfl
@[simp] theorem frzK_nil (d : D) (ρ : DS) : frzK [] d ρ = ρ := by unfold frzK; split <;> rfl
def mkSl (d : D) : Sl := if d.isMut = true then .ow d else .sh d
def sSh (i : Nat) (fr : List Nat) (f : FE) : FS := fun ρ => match f ρ with
  | .ok d => .nx ((frzD fr d ρ).set i (.sh d))
  | .ex x => .ex x ρ
  | .no => .no
def sOw (i : Nat) (fr : List Nat) (f : FE) : FS := fun ρ => match f ρ with
  | .ok d => .nx ((frzK fr d ρ).set i (mkSl d))
  | .ex x => .ex x ρ
  | .no => .no
theorem frzD_rep {B : AS} {H0 H : Hp} {ρ : DS} {σ : L2.St} (r : RelS G B H0 ρ σ H) {fr : List Nat} {d : D} {v : V} (q : Rep G H (Own B ρ σ fr) d v) : RelS G B H0 (frzD fr d ρ) σ H ∧ Rep G H (Own B (frzD fr d ρ) σ []) d v := by
  unfold frzD
  by_cases hi : d.imm = true
  · rw [if_pos hi]; exact ⟨r, q.imm d v hi⟩
  · rw [if_neg hi]; exact ⟨r.frz fr, q.less fun a z => z.frz⟩
theorem sim_sh {i : Nat} {t : TE} {f : FE} {ft fc : List Nat} {nw nwr : Bool} (h : SimE G W t f ft fc nw) : SimS G W (tAsg t (gName i)) (sSh i ft f) nwr := fun B H0 ρ σ H rl D hq => by
  unfold sSh at hq
  refine h B H0 ρ σ H rl _ ?_
  cases e : f ρ with
  | no => rw [e] at hq; exact hq
  | ex x => rw [e] at hq; exact fun cls dd H' s q => hq cls dd σ H' (rl.same s) q
  | ok d =>
    rw [e] at hq
    intro v H' s x
    obtain ⟨r1, q1⟩ := frzD_rep (rl.same s) x.top
    exact hq _ _ (r1.setSh q1)
theorem sim_ow {i : Nat} {t : TE} {f : FE} {ft fc : List Nat} {nwr : Bool} (h : SimE G W t f ft fc true) : SimS G W (tAsg t (gName i)) (sOw i fc f) nwr := fun B H0 ρ σ H rl D hq => by
  unfold sOw at hq
  refine h B H0 ρ σ H rl _ ?_
  cases e : f ρ with
  | no => rw [e] at hq; exact hq
  | ex x => rw [e] at hq; exact fun cls dd H' s q => hq cls dd σ H' (rl.same s) q
  | ok d =>
    rw [e] at hq
    intro v H' s x
    refine hq _ _ ?_
    by_cases hm : d.isMut = true
    · unfold mkSl
      rw [if_pos hm]
      obtain ⟨p, ev, hp, t⟩ := x.fresh rfl hm
      subst ev
      by_cases hi : PD.D.imms d.kids = true
      · have e2 : frzK fc d ρ = ρ := by unfold frzK; rw [if_pos hi]
        rw [e2]
        exact rl.setOw s hp (t.imms hi)
      · have e2 : frzK fc d ρ = frz fc ρ := by unfold frzK; rw [if_neg hi]
        rw [e2]
        exact (rl.frz fc).setOw s hp (t.mono (Ev.of_same (Same.refl H')) (fun a _ n z => n (z.elim (fun z => .inl z.frz) .inr)) (fun _ z => z))
    · have hm : d.isMut = false := by simpa using hm
      unfold mkSl
      rw [hm]
      have q : Rep G H' (Own B ρ σ fc) d v := by
        have k := x.kid
        cases d <;> first | exact k | cases hm
      have e2 : frzK fc d ρ = frzD fc d ρ := by
        unfold frzK frzD
        by_cases hi : PD.D.imms d.kids = true
        · rw [if_pos hi, if_pos (imms_not_mut hi hm)]
        · rw [if_neg hi]
          rw [if_neg]
          intro z
          apply hi
          cases d <;> first | rfl | exact z | cases hm
      rw [e2]
      obtain ⟨r1, q1⟩ := frzD_rep (rl.same s) q
      exact r1.setSh q1
structure Nm {ι : Type} (X : ι → Cx) (i : Nat) (x : Str) : Prop where
  nd : ∀ j, (X j).N.Nodup
  at_ : ∀ j, (X j).N[i]? = some x
  loc : ∀ j, Loc (X j).env.scope x
  fn : ∀ j, (X j).fn x = true ∨ (X j).env.scope.names.lookup x = some .local
theorem psd_sh {i : Nat} {x : Str} {e : Expr} {f : FE} {ft fc : List Nat} {nw nwr : Bool} {p pos : Pos} (n : Nm X i x) (h : PD X G W e f ft fc nw) (hs : ∀ j, swapsWith e (some (.Name x p)) pos.line (X j).env = pure false := by exact fun _ => rfl) : PSD X G W (.Assign [.Name x p] e pos) (sSh i ft f) nwr :=
  let ⟨_, h1, h2⟩ := h; ⟨_, fun j => ps_set (n.nd j) (n.at_ j) (n.loc j) (h1 j) (hs j) (n.fn j), sim_sh h2⟩
theorem psd_ow {i : Nat} {x : Str} {e : Expr} {f : FE} {ft fc : List Nat} {nwr : Bool} {p pos : Pos} (n : Nm X i x) (h : PD X G W e f ft fc true) (hs : ∀ j, swapsWith e (some (.Name x p)) pos.line (X j).env = pure false := by exact fun _ => rfl) : PSD X G W (.Assign [.Name x p] e pos) (sOw i fc f) nwr :=
  let ⟨_, h1, h2⟩ := h; ⟨_, fun j => ps_set (n.nd j) (n.at_ j) (n.loc j) (h1 j) (hs j) (n.fn j), sim_ow h2⟩
theorem frz1_get {i j : Nat} (h : i ≠ j) (ρ : DS) : (frz1 j ρ)[i]? = ρ[i]? := by
  unfold frz1
  split
  · rw [List.getElem?_set_ne (fun z => h z.symm)]
  · rfl
theorem frz_get {i : Nat} : ∀ {fr : List Nat}, i ∉ fr → ∀ ρ : DS, (frz fr ρ)[i]? = ρ[i]?
  | [], _, _ => rfl
  | j :: fr, h, ρ => by
    simp only [List.mem_cons, not_or] at h
    show (frz fr (frz1 j ρ))[i]? = _
    rw [frz_get h.2, frz1_get h.1]
theorem frzD_get {i : Nat} {fr : List Nat} (h : i ∉ fr) (d : D) (ρ : DS) : (frzD fr d ρ)[i]? = ρ[i]? := by
  unfold frzD
  split
  · rfl
  · exact frz_get h ρ
def D.isL : D → Bool
  | .lst _ => true
  | _ => false
def sMut (i : Nat) (fr : List Nat) (kd : D → Bool) (mu : D → D → Option D) (f : FE) : FS := fun ρ => match ρ[i]? with
  | some (.ow x) => if kd x = true then (match f ρ with
    | .ok d => match mu x d with
      | some x' => .nx ((frzD fr d ρ).set i (.ow x'))
      | none => .no
    | .ex e => .ex e ρ
    | .no => .no) else .no
  | _ => .no
def appD : D → D → Option D
  | .lst ds, d => if ds.length < sizeLine then some (.lst (ds ++ [d])) else none
  | _, _ => none
theorem isL_eq {d : D} (h : d.isL = true) : ∃ ds, d = .lst ds := by cases d <;> first | exact ⟨_, rfl⟩ | cases h
theorem psd_app {i : Nat} {x : Str} {e : Expr} {f : FE} {ft fc : List Nat} {nw nwr : Bool} {pa p2 p3 pos : Pos} (g : Good X G) (hi : i ∉ ft) (h : PD X G W e f ft fc nw)
    (hpe : ∀ (j : ι) (te : TE), PE (X j) e te → PE (X j) (.Call (.Attribute (.Name x pa) "append" p2) [e] [] p3) (tBM (X j).K "list" rAppend (tVar i) (tCons te tNil)))
    (hs : ∀ j, swapsWith (.Call (.Attribute (.Name x pa) "append" p2) [e] [] p3) none pos.line (X j).env = pure false := by exact fun _ => rfl) :
    PSD X G W (.Expr (.Call (.Attribute (.Name x pa) "append" p2) [e] [] p3) pos) (sMut i ft D.isL appD f) nwr := by
  obtain ⟨t, h1, h2⟩ := h
  refine ⟨tDrop (tBM G.K "list" rAppend (tVar i) (tCons t tNil)), fun j => ?_, fun B H0 ρ σ H rl D hq => ?_⟩
  · rw [← g.k j]
    exact ps_expr (hpe j t (h1 j)) (hs j)
  · unfold sMut at hq
    cases es : ρ[i]? with
    | none => rw [es] at hq; exact hq.elim
    | some sl =>
      rw [es] at hq
      cases sl with
      | no => exact hq.elim
      | sh _ => exact hq.elim
      | ow x =>
        simp only at hq
        by_cases hk : x.isL = true
        · rw [if_pos hk] at hq
          obtain ⟨ds, rfl⟩ := isL_eq hk
          obtain ⟨a, e1, ⟨xs, e2, t2⟩, _⟩ := rl.ow es
          refine ⟨.ref a, e1, .inl ⟨rfl, _, .of e2⟩, ?_⟩
          refine h2 B H0 ρ σ H rl _ ?_
          cases e : f ρ with
          | no => rw [e] at hq; exact hq
          | ex x => rw [e] at hq; exact fun cls dd H' s q => hq cls dd σ H' (rl.same s) q
          | ok d =>
            rw [e] at hq
            intro v H' s x
            simp only [appD] at hq
            by_cases hlen : ds.length < sizeLine
            · rw [if_pos hlen] at hq
              obtain ⟨r1, q1⟩ := frzD_rep (rl.same s) x.top
              have ed : (frzD ft d ρ)[i]? = some (.ow (.lst ds)) := by rw [frzD_get hi]; exact es
              obtain ⟨a', f1, ⟨xs', f2, f3⟩, f4⟩ := r1.ow ed
              rw [e1] at f1; cases f1
              refine ⟨a, xs', v, rfl, rfl, f2, by rw [← f3.length]; exact hlen, hq _ _ (r1.wr ed e1 fun O H2 k1 k2 eH => ?_)⟩
              exact ⟨xs' ++ [v], by rw [eH]; exact upd_same, (k2 _ _ f3).append (.one (k1 _ _ q1))⟩
            · rw [if_neg hlen] at hq; exact hq.elim
        · rw [if_neg hk] at hq; exact hq.elim
def setD : D → D → D → Option D
  | .lst ds, .int k, d => (ixN ds.length k).map fun j => .lst (ds.set j d)
  | _, _, _ => none
def sSetIx (i : Nat) (fr : List Nat) (f g : FE) : FS := fun ρ => match f ρ with
  | .ok d => match ρ[i]? with
    | some (.ow x) => (match g ρ with
      | .ok k => match setD x k d with
        | some x' => .nx ((frzD fr d ρ).set i (.ow x'))
        | none => .no
      | .ex e => .ex e ρ
      | .no => .no)
    | _ => .no
  | .ex e => .ex e ρ
  | .no => .no
theorem psd_setIx {i : Nat} {x : Str} {e ix : Expr} {f k : FE} {ft fc kt kc : List Nat} {nw nwk nwr : Bool} {pa p2 pos : Pos} (hi : i ∉ ft) (h : PD X G W e f ft fc nw) (h' : PD X G W ix k kt kc nwk) (hN : ∀ j, (X j).N[i]? = some x := by exact fun _ => rfl) (hv : ∀ j, Vis (X j).env.scope x := by first | exact fun _ => Or.inl rfl | exact fun _ => Or.inr (Or.inl rfl) | exact fun _ => Or.inr (Or.inr rfl))
    (ha : ∀ j v, assign (.Subscript (.Name x pa) ix p2) (X j).env v = (do
      let ov ← holding [v] (eval (.Name x pa) (X j).env)
      let iv ← holding [v, ov] (eval ix (X j).env)
      standAt p2
      holding [v, ov, iv] (setItem ov iv v)
      release [v, ov, iv] []) := by intro _ _; rfl)
    (hs : ∀ j, swapsWithSole [.Subscript (.Name x pa) ix p2] e pos.line (X j).env = pure false := by exact fun _ => rfl) (hw : ∀ j, swappedStores [.Subscript (.Name x pa) ix p2] e (X j).env = pure none := by exact fun _ => rfl)
    (h1 : ∀ j, (assignEach [.Subscript (.Name x pa) ix p2] (X j).env).map (·.2) = [assign (.Subscript (.Name x pa) ix p2) (X j).env] := by exact fun _ => rfl) (hd : (x == ("__debug__" : Str)) = false := by decide) (hcd : (x == ("__classdict__" : Str)) = false := by decide) :
    PSD X G W (.Assign [.Subscript (.Name x pa) ix p2] e pos) (sSetIx i ft f k) nwr := by
  obtain ⟨t, t1, t2⟩ := h
  obtain ⟨u, u1, u2⟩ := h'
  refine ⟨_, fun j => ps_asg (t1 j) (pg_sub (pe_var (hN j) (hv j) hd hcd) (u1 j) set_list (ha j)) (hs j) (hw j) (h1 j), fun B H0 ρ σ H rl D hq => ?_⟩
  unfold sSetIx at hq
  refine t2 B H0 ρ σ H rl _ ?_
  cases e : f ρ with
  | no => rw [e] at hq; exact hq
  | ex x => rw [e] at hq; exact fun cls dd H' s q => hq cls dd σ H' (rl.same s) q
  | ok d =>
    rw [e] at hq
    intro v H1 s1 x1
    simp only at hq
    cases es : ρ[i]? with
    | none => rw [es] at hq; exact hq.elim
    | some sl =>
      rw [es] at hq
      cases sl with
      | no => exact hq.elim
      | sh _ => exact hq.elim
      | ow x =>
        simp only at hq
        obtain ⟨a, e1, -⟩ := rl.ow es
        refine ⟨.ref a, e1, ?_⟩
        refine u2 B H0 ρ σ H1 (rl.same s1) _ ?_
        cases e2 : k ρ with
        | no => rw [e2] at hq; exact hq
        | ex x => rw [e2] at hq; exact fun cls dd H' s q => hq cls dd σ H' ((rl.same s1).same s) q
        | ok kd =>
          rw [e2] at hq
          intro kv H2 s2 x2
          have s12 := s1.trans s2
          simp only at hq
          cases eo : setD x kd d with
          | none => rw [eo] at hq; exact hq.elim
          | some x' =>
            rw [eo] at hq
            cases x <;> cases kd <;> first | (simp [setD] at eo; done) | skip
            rename_i ds n
            simp only [setD] at eo
            cases ej : ixN ds.length n with
            | none => rw [ej] at eo; cases eo
            | some j =>
              rw [ej] at eo
              cases eo
              obtain ⟨r1, q1⟩ := frzD_rep (rl.same s12) (x1.top.same s2)
              have ed : (frzD ft d ρ)[i]? = some (.ow (.lst ds)) := by rw [frzD_get hi]; exact es
              obtain ⟨a', f1, ⟨xs', f2, f3⟩, f4⟩ := r1.ow ed
              rw [e1] at f1; cases f1
              refine ⟨a, xs', n, j, rfl, x2.top, f2, by rw [← f3.length]; exact ej, hq _ _ (r1.wr ed e1 fun O H3 k1 k2 eH => ?_)⟩
              exact ⟨xs'.set j v, by rw [eH]; exact upd_same, (k2 _ _ f3).set j (k1 _ _ q1)⟩
def sAug (i : Nat) (op : Int → Int → Int) (f : FE) : FS := fun ρ => match ρ[i]? with
  | some (.sh (.int a)) => (match f ρ with
    | .ok (.int b) => .nx (ρ.set i (.sh (.int (op a b))))
    | .ok _ => .no
    | .ex e => .ex e ρ
    | .no => .no)
  | _ => .no
theorem psd_aug {i : Nat} {x : Str} {e : Expr} {f : FE} {ft fc : List Nat} {nw nwr : Bool} {op : Operator} {o : Int → Int → Int} {p pos : Pos} (n : Nm X i x) (h : PD X G W e f ft fc nw) (hp : ∀ j, PIp (X j) op (ipI o)) : PSD X G W (.AugAssign (.Name x p) op e pos) (sAug i o f) nwr := by
  obtain ⟨t, h1, h2⟩ := h
  refine ⟨_, fun j => ps_aug (n.nd j) (n.at_ j) (n.loc j) (h1 j) (hp j) (n.fn j), fun B H0 ρ σ H rl D hq => ?_⟩
  unfold sAug at hq
  cases es : ρ[i]? with
  | none => rw [es] at hq; exact hq.elim
  | some sl =>
    rw [es] at hq
    cases sl with
    | no => exact hq.elim
    | ow _ => exact hq.elim
    | sh x =>
      cases x <;> first | exact False.elim hq | skip
      rename_i a
      simp only at hq
      obtain ⟨v, e1, q1⟩ := rl.sh es
      refine ⟨v, e1, h2 B H0 ρ σ H rl _ ?_⟩
      cases e : f ρ with
      | no => rw [e] at hq; exact hq
      | ex x => rw [e] at hq; exact fun cls dd H' s q => hq cls dd σ H' (rl.same s) q
      | ok d =>
        rw [e] at hq
        intro w H' s x
        cases d <;> first | exact False.elim hq | skip
        rename_i b
        exact ⟨a, b, q1, x.top, hq _ _ ((rl.same s).setSh rfl)⟩
end
end PD
set_option autoImplicit false
namespace PD
open PySem PySem.Spec PyProof.Rows L2
section
variable {G : Gb} {W : WX} {ι : Type} {X : ι → Cx}
inductive Pat where
  | nm (i : Nat) | tp (is : List Nat)
def Pat.slots : Pat → List Nat
  | .nm i => [i]
  | .tp is => is
def binds : List Nat → List D → DS → Option DS
  | [], [], ρ => some ρ
  | i :: is, d :: ds, ρ => binds is ds (ρ.set i (.sh d))
  | _, _, _ => none
def bindP : Pat → D → DS → Option DS
  | .nm i, d, ρ => some (ρ.set i (.sh d))
  | .tp is, .tup ds, ρ => binds is ds ρ
  | _, _, _ => none
def SimG (G : Gb) (g : TG) (p : Pat) : Prop := ∀ (B : AS) (H0 : Hp) (ρ : DS) (σ : L2.St) (H : Hp) (d : D) (v : V) (ρ' : DS) (Q : L2.St → Hp → Prop), RelS G B H0 ρ σ H → Rep G H (Own B ρ σ []) d v → bindP p d ρ = some ρ' →
  (∀ σ', RelS G B H0 ρ' σ' H → (∀ own, (∀ i ∈ p.slots, i ∈ own) → wipe σ' own = wipe σ own) → Q σ' H) → g v σ H Q
def PGD {ι : Type} (X : ι → Cx) (G : Gb) (tg : Expr) (p : Pat) : Prop := ∃ g, (∀ i, PG (X i) tg g) ∧ SimG G g p
theorem wipe_set {σ : L2.St} {i : Nat} {o : Option V} : ∀ {own : List Nat}, i ∈ own → wipe (σ.set i o) own = wipe σ own
  | [], h => by cases h
  | j :: own, h => by
    show (wipe (σ.set i o) own).set j none = (wipe σ own).set j none
    by_cases hj : i ∈ own
    · rw [wipe_set hj]
    · have e : i = j := (List.mem_cons.mp h).resolve_right hj
      subst e
      have key : ∀ own : List Nat, (wipe (σ.set i o) own).set i none = (wipe σ own).set i none := by
        intro own
        induction own with
        | nil => show (σ.set i o).set i none = σ.set i none; rw [List.set_set]
        | cons k own ih =>
          show ((wipe (σ.set i o) own).set k none).set i none = ((wipe σ own).set k none).set i none
          by_cases hk : k = i
          · subst hk; rw [List.set_set, List.set_set, ih]
          · rw [List.set_comm _ _ hk, List.set_comm _ _ hk, ih]
      exact key own
theorem pgd_name {i : Nat} {x : Str} {p : Pos} (n : Nm X i x) : PGD X G (.Name x p) (.nm i) :=
  ⟨_, fun j => pg_name (n.nd j) (n.at_ j) (n.loc j) (n.fn j), fun B H0 ρ σ H d v ρ' Q rl q e h => by
    cases e
    exact h _ (rl.setSh q) fun own ho => wipe_set (ho i (by simp [Pat.slots]))⟩
def PGsD {ι : Type} (X : ι → Cx) (G : Gb) (ts : List Expr) (is : List Nat) : Prop := ∃ t, (∀ i, PGs (X i) ts t) ∧ ts.length = is.length ∧
  ∀ (B : AS) (H0 : Hp) (ρ : DS) (σ : L2.St) (H : Hp) (ds : List D) (vs : List V) (ρ' : DS) (Q : L2.St → Hp → Prop), RelS G B H0 ρ σ H → (∀ O : AS, (∀ a, O a → Own B ρ σ [] a) → Reps G H O ds vs) → binds is ds ρ = some ρ' →
    (∀ σ', RelS G B H0 ρ' σ' H → (∀ own, (∀ i ∈ is, i ∈ own) → wipe σ' own = wipe σ own) → Q σ' H) → t vs σ H Q
theorem pgsd_nil : PGsD X G [] [] := ⟨_, fun _ => pgs_nil, rfl, fun B H0 ρ σ H ds vs ρ' Q rl q e h => by
  cases ds with
  | nil =>
    cases e
    exact ⟨q (Own B ρ σ []) fun _ z => z, h σ rl fun _ _ => rfl⟩
  | cons d ds => cases e⟩
theorem pgsd_cons {i : Nat} {x : Str} {p : Pos} {ts : List Expr} {is : List Nat} (n : Nm X i x) (h : PGsD X G ts is)
    (hs : ∀ j, (assignEach (.Name x p :: ts) (X j).env).map (·.2) = assign (.Name x p) (X j).env :: (assignEach ts (X j).env).map (·.2) := by exact fun _ => rfl) : PGsD X G (.Name x p :: ts) (i :: is) := by
  obtain ⟨t, h1, hl, h2⟩ := h
  refine ⟨_, fun j => pgs_cons (pg_name (n.nd j) (n.at_ j) (n.loc j) (n.fn j)) (h1 j) (hs j), by rw [List.length_cons, List.length_cons, hl], fun B H0 ρ σ H ds vs ρ' Q rl q e h => ?_⟩
  cases ds with
  | nil => cases e
  | cons d ds =>
    obtain ⟨v, r, rfl, q1, q2⟩ := q (Own B ρ σ []) fun _ z => z
    refine ⟨v, r, rfl, ?_⟩
    have own : ∀ j a, ownAt (ρ.set i (.sh d)) (σ.set i (some v)) j a → j ≠ i ∧ ownAt ρ σ j a := fun j a h => ownAt_set_not (by intro _ z; cases z) h
    refine h2 B H0 _ _ H ds r ρ' Q (rl.setSh q1) (fun O hO => ?_) e fun σ' r' hw => ?_
    · have := q O fun a z => (hO a z).mono_slots fun k b _ h => ⟨by simp, (own k b h).2⟩
      obtain ⟨v', r', e', _, q3⟩ := this
      injection e' with _ e'
      rw [e']; exact q3
    · exact h σ' r' fun own ho => (hw own fun k hk => ho k (List.mem_cons_of_mem _ hk)).trans (wipe_set (ho i List.mem_cons_self))
theorem binds_len : ∀ {is : List Nat} {ds : List D} {ρ ρ' : DS}, binds is ds ρ = some ρ' → ds.length = is.length
  | [], [], _, _, _ => rfl
  | [], _ :: _, _, _, e => by cases e
  | _ :: _, [], _, _, e => by cases e
  | i :: is, d :: ds, ρ, ρ', e => by
    have e : binds is ds (ρ.set i (.sh d)) = some ρ' := e
    rw [List.length_cons, List.length_cons, binds_len e]
theorem pgd_tup {ts : List Expr} {is : List Nat} {k : Nat} {pos : Pos} (g : Good X G) (h : PGsD X G ts is) (hn : ∀ j, (assignEach ts (X j).env).length = is.length := by exact fun _ => rfl) (hst : ∀ j, (assignEach ts (X j).env).findIdx? (·.1) = none := by exact fun _ => rfl) : PGD X G (.Tuple ts k pos) (.tp is) := by
  obtain ⟨t, h1, hl, h2⟩ := h
  refine ⟨gTup G.K is.length t, fun j => ?_, fun B H0 ρ σ H d v ρ' Q rl q e h => ?_⟩
  · rw [← g.k j]; exact pg_tup (g.calm j) (h1 j) (hn j) (hst j)
  · cases d <;> first | (cases e; done) | skip
    rename_i ds
    have e : binds is ds ρ = some ρ' := e
    obtain ⟨a, xs, rfl, hq, r⟩ := q
    exact ⟨a, xs, rfl, hq, by rw [← r.length]; exact binds_len e, h2 B H0 ρ σ H ds xs ρ' Q rl (fun O hO => r.less hO) e h⟩
def sTup (p : Pat) (fr : List Nat) (f : FE) : FS := fun ρ => match f ρ with
  | .ok d => match bindP p d (frzD fr d ρ) with
    | some ρ' => .nx ρ'
    | none => .no
  | .ex x => .ex x ρ
  | .no => .no
theorem psd_tup {tg e : Expr} {p : Pat} {f : FE} {ft fc : List Nat} {nw nwr : Bool} {pos : Pos} (hg : PGD X G tg p) (h : PD X G W e f ft fc nw) (hs : ∀ j, swapsWithSole [tg] e pos.line (X j).env = pure false := by exact fun _ => rfl) (hw : ∀ j, swappedStores [tg] e (X j).env = pure none := by exact fun _ => rfl)
    (h1 : ∀ j, (assignEach [tg] (X j).env).map (·.2) = [assign tg (X j).env] := by exact fun _ => rfl) : PSD X G W (.Assign [tg] e pos) (sTup p ft f) nwr := by
  obtain ⟨g, g1, g2⟩ := hg
  obtain ⟨t, t1, t2⟩ := h
  refine ⟨_, fun j => ps_asg (t1 j) (g1 j) (hs j) (hw j) (h1 j), fun B H0 ρ σ H rl D hq => ?_⟩
  unfold sTup at hq
  refine t2 B H0 ρ σ H rl _ ?_
  cases e : f ρ with
  | no => rw [e] at hq; exact hq
  | ex x => rw [e] at hq; exact fun cls dd H' s q => hq cls dd σ H' (rl.same s) q
  | ok d =>
    rw [e] at hq
    intro v H1 s1 x1
    simp only at hq
    obtain ⟨r1, q1⟩ := frzD_rep (rl.same s1) x1.top
    cases eb : bindP p d (frzD ft d ρ) with
    | none => rw [eb] at hq; exact hq.elim
    | some ρ' =>
      rw [eb] at hq
      exact g2 B H0 _ σ H1 d v ρ' _ r1 q1 eb fun σ' r' _ => hq σ' H1 r'
def ItOk (G : Gb) (Or : AS) (Hb : Hp) (J : It) (items : List D) : Prop := ∀ (i : Nat) (H2 : Hp), Same Hb H2 →
  (∀ d, items[i]? = some d → J.go i H2 ∧ ∀ x H3, J.yld i H2 x H3 → Same H2 H3 ∧ ∀ O : AS, (∀ a, O a → (Or a ∨ Hb a = none) ∧ H2 a ≠ none) → Rep G H3 O d x) ∧ (items.length ≤ i → J.stop i H2)
abbrev FI := DS → R (List D)
def SimI (G : Gb) (W : WX) (wi : TI) (f : FI) (ft fc : List Nat) : Prop :=
  ∀ (B : AS) (H0 : Hp) (ρ : DS) (σ : L2.St) (H : Hp), RelS G B H0 ρ σ H → ∀ R : It → Hp → Prop, (match f ρ with
    | .ok items => ∀ J H', Same H H' → (∀ Hb, Same Hb H' → (∀ a o, H' a = some o → ¬ Own B ρ σ ft a → Hb a = some o) → ItOk G (Own B ρ σ ft) Hb J items) → ItOk G (Own B ρ σ fc) H' J items → R J H'
    | .ex x => ∀ cls dd H', Same H H' → ExR G B x cls dd H' → W cls dd σ H'
    | .no => False) → wi σ H R
def PID {ι : Type} (X : ι → Cx) (G : Gb) (W : WX) (tg iter : Expr) (f : FI) (ft fc : List Nat) : Prop := ∃ wi, (∀ i, PI (X i) tg iter wi) ∧ SimI G W wi f ft fc
theorem reps_later {H' Hb H2 : Hp} {Or O : AS} {ds : List D} {vs : List V} (r : Reps G H' Or ds vs) (hb : ∀ a o, H' a = some o → ¬ Or a → Hb a = some o) (s : Same Hb H2) (hO : ∀ a, O a → (Or a ∨ Hb a = none)) (hfix : ∀ a o, H' a = some o → fixd o = true → Hb a = some o) : Reps G H2 O ds vs :=
  r.mono (fun a o e z => s a o (z.elim (fun z => hfix a o e z) fun z => hb a o e z)) fun a ha n z => (hO a z).elim n fun e => by
    cases q : H' a with
    | none => exact ha q
    | some o => rw [hb a o q n] at e; cases e
theorem itok_list {H' Hb : Hp} {Or : AS} {a : Addr} {ds : List D} {vs : List V} (r : Reps G H' Or ds vs) (hb : ∀ a o, H' a = some o → ¬ Or a → Hb a = some o) (hfix : ∀ a o, H' a = some o → fixd o = true → Hb a = some o) (hl : ∀ H2, Same Hb H2 → SqL G.K H2 a vs) : ItOk G Or Hb (Itl G.K a) ds := fun i H2 s => by
  have q := hl H2 s
  refine ⟨fun d e => ?_, fun h => ⟨vs, q, by rw [← r.length]; exact h⟩⟩
  obtain ⟨v, e1, _⟩ := r.get e
  refine ⟨⟨vs, v, q, e1⟩, fun x H3 y => ?_⟩
  obtain ⟨e3, y⟩ := y
  subst e3
  refine ⟨Same.refl H3, fun O hO => ?_⟩
  obtain ⟨v', e4, r4⟩ := (reps_later r hb s (fun a z => (hO a z).1) hfix).get e
  have := (y vs q).symm.trans e4
  cases this
  exact r4
theorem itok_tup {H' Hb : Hp} {Or : AS} {a : Addr} {ds : List D} {vs : List V} (r : Reps G H' Or ds vs) (hb : ∀ a o, H' a = some o → ¬ Or a → Hb a = some o) (hfix : ∀ a o, H' a = some o → fixd o = true → Hb a = some o) (hl : ∀ H2, Same Hb H2 → SqT G.K H2 a vs) : ItOk G Or Hb (Itt G.K a) ds := fun i H2 s => by
  have q := hl H2 s
  refine ⟨fun d e => ?_, fun h => ⟨vs, q, by rw [← r.length]; exact h⟩⟩
  obtain ⟨v, e1, _⟩ := r.get e
  refine ⟨⟨vs, v, q, e1⟩, fun x H3 y => ?_⟩
  obtain ⟨e3, y⟩ := y
  subst e3
  refine ⟨Same.refl H3, fun O hO => ?_⟩
  obtain ⟨v', e4, r4⟩ := (reps_later r hb s (fun a z => (hO a z).1) hfix).get e
  have := (y vs q).symm.trans e4
  cases this
  exact r4
theorem own_fix {B : AS} {H0 H : Hp} {ρ : DS} {σ : L2.St} (rl : RelS G B H0 ρ σ H) {fr : List Nat} {Hb : Hp} (hb : ∀ a o, H a = some o → ¬ Own B ρ σ fr a → Hb a = some o) : ∀ a o, H a = some o → fixd o = true → Hb a = some o := fun a o e f => hb a o e fun z => by
  obtain ⟨u, e2, f2⟩ := rl.mut z
  rw [e] at e2; cases e2
  rw [f] at f2; cases f2
def itSeq (f : FE) : FI := fun ρ => (f ρ).bind fun d => match d with
  | .lst ds => .ok ds
  | .tup ds => .ok ds
  | .scr ns => .ok (ns.map D.int)
  | _ => .no
theorem PI.or {X : Cx} {tg iter : Expr} {wi wi' : TI} (h : PI X tg iter wi) (h' : PI X tg iter wi') : PI X tg iter (fun σ H R => wi σ H R ∨ wi' σ H R) := ⟨fun pins s σ H R I q => q.elim (h.run pins s σ H R I) (h'.run pins s σ H R I)⟩
theorem pid_seq {tg e : Expr} {f : FE} {ft fc : List Nat} {nw : Bool} (g : Good X G) (h : PD X G W e f ft fc nw) : PID X G W tg e (itSeq f) ft fc := by
  obtain ⟨t, h1, h2⟩ := h
  refine ⟨fun σ H R => iList G.K t σ H R ∨ iTup G.K t σ H R, fun j => ?_, fun B H0 ρ σ H rl R hq => ?_⟩
  · rw [← g.k j]; exact PD.PI.or (pi_list (h1 j)) (pi_tup (h1 j))
  · unfold itSeq at hq
    cases e : f ρ with
    | no => rw [e] at hq; exact hq.elim
    | ex x => rw [e] at hq; exact .inl (h2 B H0 ρ σ H rl _ (by rw [e]; exact hq))
    | ok d =>
      rw [e] at hq
      cases d <;> first | exact False.elim hq | skip
      · rename_i ds
        refine .inl (h2 B H0 ρ σ H rl _ ?_)
        rw [e]
        intro v H1 s1 x1
        obtain ⟨a, xs, rfl, no, h3, r⟩ := x1.top
        obtain ⟨a', xs', ea, h3', r'⟩ := x1.kid
        cases ea
        rw [h3] at h3'; cases h3'
        have rl1 := rl.same s1
        refine ⟨a, rfl, ⟨xs, .of h3⟩, hq _ H1 s1 (fun Hb sb hb => itok_list r hb (own_fix rl1 hb) fun H2 s2 => .of (s2 _ _ (hb _ _ h3 no))) (itok_list r' (fun a o e _ => e) (fun a o e _ => e) fun H2 s2 => .of (s2 _ _ h3))⟩
      · rename_i ds
        refine .inr (h2 B H0 ρ σ H rl _ ?_)
        rw [e]
        intro v H1 s1 x1
        obtain ⟨a, xs, rfl, h3, r⟩ := x1.top
        obtain ⟨a', xs', ea, h3', r'⟩ := x1.kid
        cases ea
        have rl1 := rl.same s1
        refine ⟨a, rfl, ⟨xs, h3⟩, hq _ H1 s1 (fun Hb sb hb => itok_tup r hb (own_fix rl1 hb) fun H2 s2 => ?_) (itok_tup r' (fun a o e _ => e) (fun a o e _ => e) fun H2 s2 => sqt_ev (O := fun _ => False) (Ev.of_same s2) h3')⟩
        rcases h3 with (h3 | ⟨o, h3⟩) | h3
        · exact .inl (.inl (s2 _ _ (own_fix rl1 hb _ _ h3 rfl)))
        · exact .inl (.inr ⟨o, s2 _ _ (own_fix rl1 hb _ _ h3 rfl)⟩)
        · exact .inr h3
      · rename_i ns
        refine .inl (h2 B H0 ρ σ H rl _ ?_)
        rw [e]
        intro v H1 s1 x1
        obtain ⟨a, rfl, h3⟩ := x1.top
        have rl1 := rl.same s1
        have r : ∀ O, Reps G H1 O (ns.map D.int) (ns.map V.int) := fun O => Reps.map (f := D.int) (g := V.int) (fun n => (rfl : V.int n = V.int n)) ns
        refine ⟨a, rfl, ⟨_, h3.seq⟩, hq _ H1 s1 (fun Hb sb hb => itok_list (r _) hb (own_fix rl1 hb) fun H2 s2 => ?_) (itok_list (r _) (fun a o e _ => e) (fun a o e _ => e) fun H2 s2 => s2.seq h3.seq)⟩
        rcases h3 with ⟨o, h3⟩ | h3
        · exact .inl (.inr ⟨o, s2 _ _ (own_fix rl1 hb _ _ h3 rfl)⟩)
        · exact .inr h3
def rangeD (lo hi : Int) : List D := (List.range (hi - lo).toNat).map fun i => .int (lo + (i : Nat))
theorem itok_range {Or : AS} {Hb : Hp} {lo : Int} {n : Nat} : ItOk G Or Hb (Itr lo n) ((List.range n).map fun i => .int (lo + (i : Nat))) := fun i H2 s => by
  refine ⟨fun d e => ?_, fun h => ?_⟩
  · rw [List.getElem?_map] at e
    cases q : (List.range n)[i]? with
    | none => rw [q] at e; cases e
    | some j =>
      rw [q] at e
      cases e
      obtain ⟨h1, h2⟩ := List.getElem?_eq_some_iff.mp q
      rw [List.getElem_range] at h2
      subst h2
      refine ⟨show i < n by simpa using h1, fun x H3 y => ?_⟩
      obtain ⟨e3, y⟩ := y
      subst e3 y
      exact ⟨Same.refl _, fun O _ => rfl⟩
  · show n ≤ i
    simpa using h
def small62 (i : Int) : Bool := decide (-(2 ^ 62) ≤ i ∧ i < 2 ^ 62)
def itRange1 (f : FA) : FI := fun ρ => (f ρ).bind fun ds => match ds with
  | [.int j] => if small62 j = true then .ok (rangeD 0 j) else .no
  | _ => .no
def itRange2 (f : FA) : FI := fun ρ => (f ρ).bind fun ds => match ds with
  | [.int i, .int j] => if small62 i && small62 j then .ok (rangeD i j) else .no
  | _ => .no
theorem pid_range1 {tg a : Expr} {f : FA} {ft fc : List Nat} {p pos : Pos} (g : Good X G) (hg : ∀ j, Gl (X j) "range") (hm : G.mg "range" = none) (ha : PAD X G W [a] f ft fc) (hs : ∀ j, starEach [a] (X j).env = [(false, eval a (X j).env)] := by exact fun _ => rfl) : PID X G W tg (.Call (.Name "range" p) [a] [] pos) (itRange1 f) [] [] := by
  obtain ⟨t, h1, h2, _⟩ := ha
  refine ⟨_, fun j => pi_range1 (hg j) (by rw [g.m]; exact hm) (h1 j) (hs j), fun B H0 ρ σ H rl R hq => ?_⟩
  unfold itRange1 at hq
  refine h2 B H0 ρ σ H rl _ ?_
  cases e : f ρ with
  | no => rw [e] at hq; exact hq
  | ex x => rw [e] at hq; exact hq
  | ok ds =>
    rw [e] at hq
    intro vs H1 s1 _ k
    match ds, hq with
    | [.int j], hq =>
      obtain ⟨v, rfl, k1⟩ := kids1 k
      simp only [PD.R.bind_ok] at hq
      by_cases hj : small62 j = true
      · rw [if_pos hj] at hq
        have hj := of_decide_eq_true hj
        have e0 : rangeD 0 j = (List.range j.toNat).map fun i => .int (0 + (i : Nat)) := by unfold rangeD; rw [Int.sub_zero]
        rw [e0] at hq
        exact ⟨j, by rw [show v = V.int j from k1], hj.1, hj.2, hq _ H1 s1 (fun Hb sb hb => itok_range) itok_range⟩
      · rw [if_neg hj] at hq; exact hq.elim
theorem pid_range2 {tg a b : Expr} {f : FA} {ft fc : List Nat} {p pos : Pos} (g : Good X G) (hg : ∀ j, Gl (X j) "range") (hm : G.mg "range" = none) (ha : PAD X G W [a, b] f ft fc) (hs : ∀ j, starEach [a, b] (X j).env = [(false, eval a (X j).env), (false, eval b (X j).env)] := by exact fun _ => rfl)
    (hs2 : ∀ j, starEach [b] (X j).env = [(false, eval b (X j).env)] := by exact fun _ => rfl) : PID X G W tg (.Call (.Name "range" p) [a, b] [] pos) (itRange2 f) [] [] := by
  obtain ⟨t, h1, h2, _⟩ := ha
  refine ⟨_, fun j => pi_range2 (hg j) (by rw [g.m]; exact hm) (h1 j) (hs j) (hs2 j), fun B H0 ρ σ H rl R hq => ?_⟩
  unfold itRange2 at hq
  refine h2 B H0 ρ σ H rl _ ?_
  cases e : f ρ with
  | no => rw [e] at hq; exact hq
  | ex x => rw [e] at hq; exact hq
  | ok ds =>
    rw [e] at hq
    intro vs H1 s1 _ k
    match ds, hq with
    | [.int i, .int j], hq =>
      obtain ⟨v, w, rfl, k1, k2⟩ := kids2 k
      simp only [PD.R.bind_ok] at hq
      by_cases hj : (small62 i && small62 j) = true
      · rw [if_pos hj] at hq
        rw [Bool.and_eq_true] at hj
        have hi := of_decide_eq_true hj.1
        have hj := of_decide_eq_true hj.2
        exact ⟨i, j, by rw [show v = V.int i from k1, show w = V.int j from k2], ⟨hi.1, hi.2, hj.1, hj.2⟩, hq _ H1 s1 (fun Hb sb hb => itok_range) itok_range⟩
      · rw [if_neg hj] at hq; exact hq.elim
def enumFrom (i : Nat) : List D → List D
  | [] => []
  | d :: ds => .tup [.int (i : Nat), d] :: enumFrom (i + 1) ds
theorem enumFrom_get : ∀ (ds : List D) (k i : Nat) (x : D), (enumFrom k ds)[i]? = some x → ∃ d, ds[i]? = some d ∧ x = .tup [.int ((k + i : Nat) : Int), d]
  | [], _, _, _, e => by cases e
  | d :: ds, k, 0, x, e => by cases e; exact ⟨d, rfl, by simp⟩
  | d :: ds, k, i + 1, x, e => by
    obtain ⟨y, e1, e2⟩ := enumFrom_get ds (k + 1) i x e
    exact ⟨y, e1, by rw [e2]; congr 3; omega⟩
theorem enumFrom_len : ∀ (ds : List D) (k : Nat), (enumFrom k ds).length = ds.length
  | [], _ => rfl
  | d :: ds, k => by show (enumFrom (k + 1) ds).length + 1 = _; rw [enumFrom_len]; rfl
def itEnum (f : FA) : FI := fun ρ => (f ρ).bind fun ds => match ds with
  | [.lst ds] => .ok (enumFrom 0 ds)
  | _ => .no
theorem itok_enum {H' Hb : Hp} {Or : AS} {a : Addr} {ds : List D} {vs : List V} (r : Reps G H' Or ds vs) (hb : ∀ a o, H' a = some o → ¬ Or a → Hb a = some o) (hfix : ∀ a o, H' a = some o → fixd o = true → Hb a = some o) (hl : ∀ H2, Same Hb H2 → SqL G.K H2 a vs) : ItOk G Or Hb (Ite G.K a) (enumFrom 0 ds) := fun i H2 s => by
  have q := hl H2 s
  refine ⟨fun d e => ?_, fun h => ⟨vs, q, by rw [← r.length, ← enumFrom_len ds 0]; exact h⟩⟩
  obtain ⟨d0, e0, rfl⟩ := enumFrom_get ds 0 i d e
  obtain ⟨v, e1, _⟩ := r.get e0
  refine ⟨⟨vs, v, q, e1⟩, fun x H3 y => ?_⟩
  obtain ⟨T, x0, rfl, hT, rfl, y⟩ := y
  refine ⟨same_new hT, fun O hO => ?_⟩
  have sh := s.trans (same_new (o := .tup [V.int (i : Nat), x0]) hT)
  obtain ⟨v', e4, r4⟩ := (reps_later r hb sh (fun a z => (hO a z).1) hfix).get e0
  have := (y vs q).symm.trans e4
  cases this
  refine ⟨T, _, rfl, .of upd_same, _, _, rfl, ?_, _, [], rfl, r4, rfl⟩
  show V.int (i : Nat) = V.int ((0 + i : Nat) : Int)
  rw [Nat.zero_add]
theorem pid_enum {a : Expr} {f : FA} {ft fc : List Nat} {p pos tpos : Pos} {elts : List Expr} {kk : Nat} (g : Good X G) (hg : ∀ j, Gl (X j) "enumerate") (hm : G.mg "enumerate" = none) (ha : PAD X G W [a] f ft fc) (hs : ∀ j, starEach [a] (X j).env = [(false, eval a (X j).env)] := by exact fun _ => rfl) : PID X G W (.Tuple elts kk tpos) (.Call (.Name "enumerate" p) [a] [] pos) (itEnum f) ft fc := by
  obtain ⟨t, h1, h2, _⟩ := ha
  refine ⟨iEnum G.K t, fun j => ?_, fun B H0 ρ σ H rl R hq => ?_⟩
  · rw [← g.k j]; exact pi_enum (hg j) (by rw [g.m]; exact hm) (h1 j) (hs j)
  · unfold itEnum at hq
    refine h2 B H0 ρ σ H rl _ ?_
    cases e : f ρ with
    | no => rw [e] at hq; exact hq
    | ex x => rw [e] at hq; exact hq
    | ok ds =>
      rw [e] at hq
      intro vs H1 s1 r k
      match ds, hq with
      | [.lst ds], hq =>
        have rl1 := rl.same s1
        obtain ⟨v, rr, ev, ⟨a, xs, rfl, no, h3, r⟩, er⟩ := r
        rw [show rr = [] from er] at ev
        subst ev
        obtain ⟨v', e', a', xs', ea, h3', r'⟩ := kids1 k
        cases e'
        cases ea
        rw [h3] at h3'; cases h3'
        exact ⟨a, xs, rfl, .of h3, hq _ H1 s1 (fun Hb sb hb => itok_enum r hb (own_fix rl1 hb) fun H2 s2 => .of (s2 _ _ (hb _ _ h3 no))) (itok_enum r' (fun a o e _ => e) (fun a o e _ => e) fun H2 s2 => .of (s2 _ _ h3))⟩
def zipD : List D → List D → List D
  | x :: xs, y :: ys => .tup [x, y] :: zipD xs ys
  | _, _ => []
theorem zipD_get : ∀ (xs ys : List D) (i : Nat) (d : D), (zipD xs ys)[i]? = some d → ∃ x y, xs[i]? = some x ∧ ys[i]? = some y ∧ d = .tup [x, y]
  | x :: xs, y :: ys, 0, d, e => by cases e; exact ⟨x, y, rfl, rfl, rfl⟩
  | x :: xs, y :: ys, i + 1, d, e => zipD_get xs ys i d e
  | [], _, _, _, e => by cases e
  | _ :: _, [], _, _, e => by cases e
theorem zipD_len : ∀ (xs ys : List D) (i : Nat), (zipD xs ys).length ≤ i → xs.length ≤ i ∨ ys.length ≤ i
  | x :: xs, y :: ys, 0, h => by cases h
  | x :: xs, y :: ys, i + 1, h => by
    have := zipD_len xs ys i (Nat.le_of_succ_le_succ h)
    rcases this with h | h
    · exact .inl (Nat.succ_le_succ h)
    · exact .inr (Nat.succ_le_succ h)
  | [], _, _, _ => .inl (Nat.zero_le _)
  | _ :: _, [], _, _ => .inr (Nat.zero_le _)
def itZip (f : FA) : FI := fun ρ => (f ρ).bind fun ds => match ds with
  | [.lst xs, .lst ys] => .ok (zipD xs ys)
  | _ => .no
theorem itok_zip {H' Hb : Hp} {Or : AS} {a b : Addr} {ds es : List D} {vs us : List V} (r : Reps G H' Or ds vs) (r2 : Reps G H' Or es us) (hb : ∀ a o, H' a = some o → ¬ Or a → Hb a = some o) (hfix : ∀ a o, H' a = some o → fixd o = true → Hb a = some o)
    (hl : ∀ H2, Same Hb H2 → SqL G.K H2 a vs) (hl2 : ∀ H2, Same Hb H2 → SqL G.K H2 b us) : ItOk G Or Hb (Itz G.K a b) (zipD ds es) := fun i H2 s => by
  have q := hl H2 s
  have q2 := hl2 H2 s
  refine ⟨fun d e => ?_, fun h => ⟨vs, us, q, q2, by rw [← r.length, ← r2.length]; exact zipD_len ds es i h⟩⟩
  obtain ⟨d0, d1, e0, e1, rfl⟩ := zipD_get ds es i d e
  obtain ⟨v, f1, _⟩ := r.get e0
  obtain ⟨u, f2, _⟩ := r2.get e1
  refine ⟨⟨vs, us, v, u, q, q2, f1, f2⟩, fun x H3 y => ?_⟩
  obtain ⟨T, x0, x1, rfl, hT, rfl, y, y2⟩ := y
  refine ⟨same_new hT, fun O hO => ?_⟩
  have sh := s.trans (same_new (o := .tup [x0, x1]) hT)
  obtain ⟨v', e4, r4⟩ := (reps_later r hb sh (fun a z => (hO a z).1) hfix).get e0
  obtain ⟨u', e5, r5⟩ := (reps_later r2 hb sh (fun a z => (hO a z).1) hfix).get e1
  have := (y vs q).symm.trans e4
  cases this
  have := (y2 us q2).symm.trans e5
  cases this
  exact ⟨T, _, rfl, .of upd_same, _, _, rfl, r4, _, [], rfl, r5, rfl⟩
theorem pid_zip {a b : Expr} {f : FA} {ft fc : List Nat} {p pos tpos : Pos} {elts : List Expr} {kk : Nat} (g : Good X G) (hg : ∀ j, Gl (X j) "zip") (hm : G.mg "zip" = none) (ha : PAD X G W [a, b] f ft fc) (hs : ∀ j, starEach [a, b] (X j).env = (false, eval a (X j).env) :: starEach [b] (X j).env := by exact fun _ => rfl)
    (hpl : ∀ j, (backTo pos (starEach [b] (X j).env)).any (·.1) = false := by exact fun _ => rfl) : PID X G W (.Tuple elts kk tpos) (.Call (.Name "zip" p) [a, b] [] pos) (itZip f) ft fc := by
  obtain ⟨t, h1, h2, _⟩ := ha
  refine ⟨iZip G.K t, fun j => ?_, fun B H0 ρ σ H rl R hq => ?_⟩
  · rw [← g.k j]; exact pi_zip (hg j) (by rw [g.m]; exact hm) (h1 j) (hs j) (hpl j)
  · unfold itZip at hq
    refine h2 B H0 ρ σ H rl _ ?_
    cases e : f ρ with
    | no => rw [e] at hq; exact hq
    | ex x => rw [e] at hq; exact hq
    | ok ds =>
      rw [e] at hq
      intro vs H1 s1 r k
      match ds, hq with
      | [.lst xs0, .lst ys0], hq =>
        have rl1 := rl.same s1
        obtain ⟨v, rr, ev, ⟨a, xs, rfl, no, h3, r⟩, w, rr2, ev2, ⟨b, ys, rfl, no2, h4, r2⟩, er⟩ := r
        rw [show rr2 = [] from er] at ev2
        subst ev2
        subst ev
        obtain ⟨v', w', e', ⟨a', xs', ea, h3', r'⟩, b', ys', eb, h4', r2'⟩ := kids2 k
        cases e'
        cases ea
        cases eb
        rw [h3] at h3'; cases h3'
        rw [h4] at h4'; cases h4'
        exact ⟨a, b, xs, ys, rfl, .of h3, .of h4, hq _ H1 s1 (fun Hb sb hb => itok_zip r r2 hb (own_fix rl1 hb) (fun H2 s2 => .of (s2 _ _ (hb _ _ h3 no))) fun H2 s2 => .of (s2 _ _ (hb _ _ h4 no2)))
          (itok_zip r' r2' (fun a o e _ => e) (fun a o e _ => e) (fun H2 s2 => .of (s2 _ _ h3)) fun H2 s2 => .of (s2 _ _ h4))⟩
def forD (p : Pat) (body : FS) : List D → DS → SO
  | [], ρ => .nx ρ
  | d :: ds, ρ => match bindP p d ρ with
    | none => .no
    | some ρ1 => match body ρ1 with
      | .nx ρ2 => forD p body ds ρ2
      | .ct ρ2 => forD p body ds ρ2
      | .bk ρ2 => .nx ρ2
      | o => o
def sFor (it : FI) (fr : List Nat) (p : Pat) (body : FS) : FS := fun ρ => match it ρ with
  | .ok ds => forD p body ds (frz fr ρ)
  | .ex x => .ex x ρ
  | .no => .no
theorem RepR.base {B : AS} {nw : Bool} {H H1 H' : Hp} {d : D} {v : V} (k : ∀ p, H1 p = none → H p = none) (h : RepR G B nw H1 H' d v) : RepR G B nw H H' d v := ⟨h.1, fun z m => let ⟨p, e1, e2, t⟩ := h.2 z m; ⟨p, e1, k p e2, t⟩⟩
theorem psd_for {tg iter : Expr} {p : Pat} {body : List Stmt} {it : FI} {fb : FS} {ft fc : List Nat} {nw : Bool} {pos : Pos} (g : Good X G) (hp : ∀ j, PassesOwn (model (X j).prog (X j).w) (X j).A (X j).env (X j).xe) (hi : PID X G W tg iter it ft fc) (hg : PGD X G tg p) (hb : PSsD X G W body fb nw)
    (hs : ∀ j x, foldedSetIterable iter (X j).env x = pure x := by intro _ _; rfl) : PSD X G W (.For tg iter body [] pos) (sFor it ft p fb) nw := by
  obtain ⟨wi, i1, i2⟩ := hi
  obtain ⟨gg, g1, g2⟩ := hg
  obtain ⟨tb, b1, b2⟩ := hb
  refine ⟨_, fun j => ps_for (hp j) (g.calm j) (i1 j) (g1 j) (b1 j) (hs j), fun B H0 ρ σ H rl D hq => ?_⟩
  unfold sFor at hq
  refine i2 B H0 ρ σ H rl _ ?_
  cases e : it ρ with
  | no => rw [e] at hq; exact hq
  | ex x => rw [e] at hq; exact fun cls dd H' s q => hq cls dd σ H' (rl.same s) q
  | ok items =>
    rw [e] at hq
    intro J H' s' ok _
    simp only at hq
    have rl1 : RelS G B H0 ρ σ H' := rl.same s'
    have rf : RelS G B H0 (frz ft ρ) σ H' := rl1.frz ft
    classical
    let Hb : Hp := fun a => if ∃ i, ownAt (frz ft ρ) σ i a then none else H' a
    have hbs : Same Hb H' := fun a o h => by
      by_cases z : ∃ i, ownAt (frz ft ρ) σ i a
      · simp only [Hb, if_pos z] at h; cases h
      · simpa only [Hb, if_neg z] using h
    have hb1 : ∀ a o, H' a = some o → ¬ Own B ρ σ ft a → Hb a = some o := fun a o h n => by
      have z : ¬ ∃ i, ownAt (frz ft ρ) σ i a := fun ⟨i, z⟩ => n (let ⟨z1, z2⟩ := frz_own z; .inr ⟨i, z1, z2⟩)
      simp only [Hb, if_neg z]; exact h
    have h0b : ∀ a, Hb a = none → H0 a = none := fun a h => by
      by_cases z : ∃ i, ownAt (frz ft ρ) σ i a
      · obtain ⟨i, z⟩ := z; exact rf.new i a z
      · simp only [Hb, if_neg z] at h; exact rf.old.free h
    have sb0 : Same H0 Hb := fun a o h => by
      cases q : Hb a with
      | none => rw [h0b a q] at h; cases h
      | some u => have := hbs a u q; rw [rf.old a o h] at this; cases this; rfl
    have J1 := ok Hb hbs hb1
    have start : RelS G B Hb (frz ft ρ) σ H' := ⟨rf.len, rf.rel, rf.inj, rf.bm, rf.bo, fun i a z => by simp only [Hb]; rw [if_pos ⟨i, z⟩], hbs⟩
    have back : ∀ {ρ' : DS} {σ' : L2.St} {H2 : Hp}, RelS G B Hb ρ' σ' H2 → RelS G B H0 ρ' σ' H2 := fun r => ⟨r.len, r.rel, r.inj, r.bm, r.bo, fun i a z => h0b a (r.new i a z), sb0.trans r.old⟩
    let Want : SO → Prop := fun o => match o with
      | .nx ρ' => ∀ σ' H', RelS G B H0 ρ' σ' H' → D.nx σ' H'
      | .rt d => ∀ v H', Same H0 H' → RepR G B nw H0 H' d v → D.rt v H'
      | .bk ρ' => ∀ σ' H', RelS G B H0 ρ' σ' H' → D.bk σ' H'
      | .ct ρ' => ∀ σ' H', RelS G B H0 ρ' σ' H' → D.ct σ' H'
      | .ex x ρ' => ∀ cls dd σ' H', RelS G B H0 ρ' σ' H' → ExR G B x cls dd H' → W cls dd σ' H'
      | .no => False
    have hq : Want (forD p fb items (frz ft ρ)) := hq
    refine ⟨fun i m σ2 H2 => m = items.length - i ∧ i ≤ items.length ∧ ∃ ρ2, RelS G B Hb ρ2 σ2 H2 ∧ Want (forD p fb (items.drop i) ρ2), ⟨items.length, rfl, Nat.zero_le _, frz ft ρ, start, by rw [List.drop_zero]; exact hq⟩, ?_⟩
    rintro i m σ2 H2 ⟨rfl, hi, ρ2, r2, w2⟩
    obtain ⟨J2, J3⟩ := J1 i H2 r2.old
    by_cases hlt : i < items.length
    · obtain ⟨ed⟩ : Nonempty (items[i]? = some items[i]) := ⟨List.getElem?_eq_getElem hlt⟩
      obtain ⟨go, yl⟩ := J2 _ ed
      rw [List.drop_eq_getElem_cons hlt] at w2
      refine .inr ⟨go, fun σ' H3 => ∃ ρ3, RelS G B Hb ρ3 σ' H3 ∧ Want (forD p fb (items.drop (i + 1)) ρ3), fun σ' H3 ⟨ρ3, r3, w3⟩ => ⟨items.length - (i + 1), by omega, rfl, hlt, ρ3, r3, w3⟩, fun x H3 y => ?_⟩
      obtain ⟨s23, rp⟩ := yl x H3 y
      have r3 := r2.same s23
      have rep : Rep G H3 (Own B ρ2 σ2 []) items[i] x := rp _ fun a z => ⟨by
        rcases z with z | ⟨j, _, z⟩
        · exact .inl (.inl z)
        · exact .inr (r2.new j a z), (r2.mut z).some⟩
      unfold forD at w2
      cases eb : bindP p items[i] ρ2 with
      | none => rw [eb] at w2; exact w2.elim
      | some ρ3 =>
        rw [eb] at w2
        simp only at w2
        refine g2 B Hb ρ2 σ2 H3 items[i] x ρ3 _ r3 rep eb fun σ3 r4 _ => ?_
        refine b2 B Hb ρ3 σ3 H3 r4 _ ?_
        cases eo : fb ρ3 with
        | nx ρ4 => rw [eo] at w2; exact fun σ' H' r' => ⟨ρ4, r', w2⟩
        | ct ρ4 => rw [eo] at w2; exact fun σ' H' r' => ⟨ρ4, r', w2⟩
        | bk ρ4 => rw [eo] at w2; exact fun σ' H' r' => w2 σ' H' (back r')
        | rt d => rw [eo] at w2; exact fun v H' s q => w2 v H' (sb0.trans s) (q.base h0b)
        | ex x ρ4 => rw [eo] at w2; exact fun cls dd σ' H' r' q => w2 cls dd σ' H' (back r') q
        | no => rw [eo] at w2; exact w2.elim
    · have e : i = items.length := by omega
      subst e
      rw [List.drop_length] at w2
      exact .inl ⟨J3 (Nat.le_refl _), w2 σ2 H2 (back r2)⟩
end
end PD
set_option autoImplicit false
namespace PD
open PySem PySem.Spec PyProof.Rows L2
section
variable {G : Gb} {W : WX} {ι : Type} {X : ι → Cx}
def whileN (c : FT) (b : FS) : Nat → DS → SO
  | 0, _ => .no
  | n + 1, ρ => match c ρ with
    | .ok true => (match b ρ with
      | .nx ρ' => whileN c b n ρ'
      | .ct ρ' => whileN c b n ρ'
      | .bk ρ' => .nx ρ'
      | o => o)
    | .ok false => .nx ρ
    | .ex x => .ex x ρ
    | .no => .no
theorem whileN_more {c : FT} {b : FS} : ∀ (n : Nat) (ρ : DS), whileN c b n ρ ≠ .no → whileN c b (n + 1) ρ = whileN c b n ρ
  | 0, ρ, h => absurd rfl h
  | n + 1, ρ, h => by
    have ih := whileN_more (c := c) (b := b) n
    show (match c ρ with
      | .ok true => (match b ρ with
        | .nx ρ' => whileN c b (n + 1) ρ'
        | .ct ρ' => whileN c b (n + 1) ρ'
        | .bk ρ' => .nx ρ'
        | o => o)
      | .ok false => .nx ρ
      | .ex x => .ex x ρ
      | .no => .no) = whileN c b (n + 1) ρ
    have h' : (match c ρ with
      | .ok true => (match b ρ with
        | .nx ρ' => whileN c b n ρ'
        | .ct ρ' => whileN c b n ρ'
        | .bk ρ' => .nx ρ'
        | o => o)
      | .ok false => .nx ρ
      | .ex x => .ex x ρ
      | .no => .no) ≠ SO.no := h
    show _ = (match c ρ with
      | .ok true => (match b ρ with
        | .nx ρ' => whileN c b n ρ'
        | .ct ρ' => whileN c b n ρ'
        | .bk ρ' => .nx ρ'
        | o => o)
      | .ok false => .nx ρ
      | .ex x => .ex x ρ
      | .no => .no)
    cases ec : c ρ with
    | no => rfl
    | ex x => rfl
    | ok t =>
      cases t with
      | false => rfl
      | true =>
        rw [ec] at h'
        simp only at h' ⊢
        cases eb : b ρ with
        | nx ρ' => rw [eb] at h'; exact ih ρ' h'
        | ct ρ' => rw [eb] at h'; exact ih ρ' h'
        | _ => rfl
theorem whileN_le {c : FT} {b : FS} {n m : Nat} {ρ : DS} (hm : n ≤ m) (h : whileN c b n ρ ≠ .no) : whileN c b m ρ = whileN c b n ρ := by
  induction m with
  | zero => rw [show n = 0 by omega]
  | succ m ih =>
    by_cases e : n = m + 1
    · rw [e]
    · have h1 := ih (by omega)
      rw [whileN_more m ρ (by rw [h1]; exact h), h1]
open Classical in
noncomputable def sWhile (c : FT) (b : FS) : FS := fun ρ => if h : ∃ n, whileN c b n ρ ≠ .no then whileN c b (Classical.choose h) ρ else .no
theorem sWhile_of {c : FT} {b : FS} {n : Nat} {ρ : DS} (h : whileN c b n ρ ≠ .no) : sWhile c b ρ = whileN c b n ρ := by
  have hx : ∃ n, whileN c b n ρ ≠ .no := ⟨n, h⟩
  unfold sWhile
  rw [dif_pos hx]
  have h2 := Classical.choose_spec hx
  rcases Nat.le_total n (Classical.choose hx) with hl | hl
  · exact whileN_le hl h
  · exact (whileN_le hl h2).symm
theorem sWhile_no {c : FT} {b : FS} {ρ : DS} (h : ∀ n, whileN c b n ρ = .no) : sWhile c b ρ = .no := by
  unfold sWhile
  rw [dif_neg]
  exact fun ⟨n, hn⟩ => hn (h n)
theorem sWhile_eq (c : FT) (b : FS) (ρ : DS) : sWhile c b ρ = (match c ρ with
    | .ok true => (match b ρ with
      | .nx ρ' => sWhile c b ρ'
      | .ct ρ' => sWhile c b ρ'
      | .bk ρ' => .nx ρ'
      | o => o)
    | .ok false => .nx ρ
    | .ex x => .ex x ρ
    | .no => .no) := by
  have step : ∀ n, whileN c b (n + 1) ρ = (match c ρ with
    | .ok true => (match b ρ with
      | .nx ρ' => whileN c b n ρ'
      | .ct ρ' => whileN c b n ρ'
      | .bk ρ' => .nx ρ'
      | o => o)
    | .ok false => .nx ρ
    | .ex x => .ex x ρ
    | .no => .no) := fun _ => rfl
  have rest : ∀ ρ', (∀ n, whileN c b (n + 1) ρ = whileN c b n ρ') → sWhile c b ρ = sWhile c b ρ' := fun ρ' h => by
    by_cases q : ∃ n, whileN c b n ρ' ≠ .no
    · obtain ⟨n, q⟩ := q
      rw [sWhile_of q, sWhile_of (n := n + 1) (by rw [h n]; exact q), h n]
    · have q : ∀ n, whileN c b n ρ' = .no := fun n => Classical.byContradiction fun z => q ⟨n, z⟩
      rw [sWhile_no q, sWhile_no fun n => by cases n with
        | zero => rfl
        | succ n => rw [h n, q n]]
  have one : ∀ o : SO, (∀ n, whileN c b (n + 1) ρ = o) → sWhile c b ρ = o := fun o h => by
    by_cases q : o = .no
    · rw [q] at h ⊢
      exact sWhile_no fun n => by cases n with
        | zero => rfl
        | succ n => exact h n
    · rw [sWhile_of (n := 1) (by rw [h 0]; exact q), h 0]
  cases ec : c ρ with
  | no => exact one _ fun n => by rw [step, ec]
  | ex x => exact one _ fun n => by rw [step, ec]
  | ok t =>
    cases t with
    | false => exact one _ fun n => by rw [step, ec]
    | true =>
      simp only
      cases eb : b ρ with
      | nx ρ' => exact rest ρ' fun n => by rw [step, ec]; simp only [eb]
      | ct ρ' => exact rest ρ' fun n => by rw [step, ec]; simp only [eb]
      | bk ρ' => exact one _ fun n => by rw [step, ec]; simp only [eb]
      | rt d => exact one _ fun n => by rw [step, ec]; simp only [eb]
      | ex x ρ' => exact one _ fun n => by rw [step, ec]; simp only [eb]
      | no => exact one _ fun n => by rw [step, ec]; simp only [eb]
theorem psd_while {c : Expr} {body : List Stmt} {fc : FT} {fb : FS} {nw : Bool} {pos : Pos} (hp : ∀ j, PassesOwn (model (X j).prog (X j).w) (X j).A (X j).env (X j).xe) (hc : PTD X G W c fc) (hb : PSsD X G W body fb nw) : PSD X G W (.While c body [] pos) (sWhile fc fb) nw := by
  obtain ⟨tc, c1, c2⟩ := hc
  obtain ⟨tb, b1, b2⟩ := hb
  refine ⟨_, fun j => ps_while (hp j) (c1 j) (b1 j), fun B H0 ρ σ H rl D hq => ?_⟩
  let Want : SO → Prop := fun o => match o with
      | .nx ρ' => ∀ σ' H', RelS G B H0 ρ' σ' H' → D.nx σ' H'
      | .rt d => ∀ v H', Same H0 H' → RepR G B nw H0 H' d v → D.rt v H'
      | .bk ρ' => ∀ σ' H', RelS G B H0 ρ' σ' H' → D.bk σ' H'
      | .ct ρ' => ∀ σ' H', RelS G B H0 ρ' σ' H' → D.ct σ' H'
      | .ex x ρ' => ∀ cls dd σ' H', RelS G B H0 ρ' σ' H' → ExR G B x cls dd H' → W cls dd σ' H'
      | .no => False
  have hq : Want (sWhile fc fb ρ) := hq
  have hx : ∃ n, whileN fc fb n ρ ≠ .no := Classical.byContradiction fun z => by
    rw [sWhile_no fun n => Classical.byContradiction fun y => z ⟨n, y⟩] at hq
    exact hq
  obtain ⟨n0, h0⟩ := hx
  rw [sWhile_of h0] at hq
  refine ⟨fun n σ H => ∃ ρ, RelS G B H0 ρ σ H ∧ Want (whileN fc fb n ρ), ⟨n0, ρ, rl, hq⟩, ?_⟩
  rintro n σ1 H1 ⟨ρ1, r1, w1⟩
  cases n with
  | zero => exact w1.elim
  | succ n =>
    refine c2 B H0 ρ1 σ1 H1 r1 _ ?_
    unfold whileN at w1
    cases ec : fc ρ1 with
    | no => rw [ec] at w1; exact w1.elim
    | ex x => rw [ec] at w1; exact fun cls dd H' s q => w1 cls dd σ1 H' (r1.same s) q
    | ok t =>
      rw [ec] at w1
      intro H2 s2
      cases t with
      | false => rw [if_neg Bool.false_ne_true]; exact w1 σ1 H2 (r1.same s2)
      | true =>
        rw [if_pos rfl]
        refine ⟨fun σ' H' => ∃ ρ', RelS G B H0 ρ' σ' H' ∧ Want (whileN fc fb n ρ'), fun σ' H' h => ⟨n, Nat.lt_succ_self n, h⟩, ?_⟩
        refine b2 B H0 ρ1 σ1 H2 (r1.same s2) _ ?_
        simp only at w1
        cases eb : fb ρ1 with
        | nx ρ4 => rw [eb] at w1; exact fun σ' H' r' => ⟨ρ4, r', w1⟩
        | ct ρ4 => rw [eb] at w1; exact fun σ' H' r' => ⟨ρ4, r', w1⟩
        | bk ρ4 => rw [eb] at w1; exact fun σ' H' r' => w1 σ' H' r'
        | rt d => rw [eb] at w1; exact w1
        | ex x ρ4 => rw [eb] at w1; exact w1
        | no => rw [eb] at w1; exact w1.elim
def runF (n : Nat) (fs : FS) : FF := fun ds => match fs (ds.map Sl.sh ++ List.replicate (n - ds.length) Sl.no) with
  | .rt d => .ok d
  | .nx _ => .ok .non
  | .ex x _ => .ex x
  | _ => .no
theorem rel_start {n : Nat} {O : AS} {H : Hp} {ds : List D} {vs : List V} {N : List Str} (hm : ∀ a, O a → mutO H a) (r : Reps G H O ds vs) (hn : n = N.length) : RelS G O H (ds.map Sl.sh ++ List.replicate (n - ds.length) Sl.no) (L2.start N vs) H := by
  have hl := r.length
  have sh : ∀ (i : Nat) (s : Sl), (ds.map Sl.sh ++ List.replicate (n - ds.length) Sl.no)[i]? = some s → (∃ d, ds[i]? = some d ∧ s = .sh d) ∨ s = .no := fun i s e => by
    rw [List.getElem?_append] at e
    split at e
    · rw [List.getElem?_map] at e
      cases q : ds[i]? with
      | none => rw [q] at e; cases e
      | some d => rw [q] at e; cases e; exact .inl ⟨d, rfl, rfl⟩
    · have := List.mem_of_getElem? e
      exact .inr (List.eq_of_mem_replicate this)
  have noown : ∀ i a, ¬ ownAt (ds.map Sl.sh ++ List.replicate (n - ds.length) Sl.no) (L2.start N vs) i a := fun i a ⟨⟨d, e⟩, _⟩ => by
    rcases sh i _ e with ⟨d', _, e'⟩ | e' <;> cases e'
  refine ⟨by unfold L2.start; simp [hl, hn], fun i s o e1 e2 => ?_, fun i j a h => (noown i a h).elim, hm, fun i a h => (noown i a h).elim, fun i a h => (noown i a h).elim, Same.refl H⟩
  rcases sh i s e1 with ⟨d, ed, rfl⟩ | rfl
  · obtain ⟨v, ev, q⟩ := r.get ed
    have hi : i < vs.length := (List.getElem?_eq_some_iff.mp ev).1
    have : (L2.start N vs)[i]? = some (some v) := by
      unfold L2.start
      rw [List.getElem?_append_left (by simpa using hi), List.getElem?_map, ev]; rfl
    rw [this] at e2
    cases e2
    exact ⟨v, rfl, q.less fun a z => z.elim id fun ⟨j, _, z⟩ => (noown j a z).elim⟩
  · trivial
theorem fn_body {P : Program} {w : World} {base : Heap} {x qual : Str} {st : Stmt} {f : Addr} {fd : FuncData} {N ps : List Str} {k : Nat} {fs : FS} {nw : Bool} (F : Fun G.K x qual st f fd) (S : FnScope N ps (defScope st))
    (hb : ∀ (cdv : Value) (A : Around) (outer : List Env) (s : Shared) (H : Hp) (E : XK), Room k (A.deeper (envOfC qual (defScope st) s.heap.objs.size f cdv)) →
      PSsD (fun _ : Unit => cxOf (L2.CX P w) P w G.K G.mg base N qual (defScope st) f cdv A outer s H E) G (fun cls d _ H => E cls d H) (defBody st) fs nw) :
    FnF P w G.K G.mg base G (k + 1) f fd ps (runF N.length fs) nw := by
  refine F.okX S (fun vs H Q E h => h.1) fun cdv A outer s H vs Q E hr h => ?_
  obtain ⟨hl, O, ds, hm, r, h⟩ := h
  obtain ⟨t, t1, t2⟩ := hb cdv A outer s H E hr
  refine ⟨t, t1 (), t2 O H _ _ H (rel_start hm r rfl) _ ?_⟩
  unfold runF at h
  cases e : fs (ds.map Sl.sh ++ List.replicate (N.length - ds.length) Sl.no) with
  | nx ρ' => rw [e] at h; exact fun σ' H' r' => h .non H' r'.old ⟨rfl, fun _ => fresh_not rfl⟩
  | rt d => rw [e] at h; exact fun v H' s q => h v H' s q
  | bk ρ' => rw [e] at h; exact h.elim
  | ct ρ' => rw [e] at h; exact h.elim
  | ex x ρ' => rw [e] at h; exact fun cls dd σ' H' r' q => h cls dd H' r'.old q
  | no => rw [e] at h; exact h.elim
end
end PD
set_option autoImplicit false
namespace PD
open PySem PySem.Spec PyProof.Rows L2
section
variable {G : Gb} {W : WX} {ι : Type} {X : ι → Cx}
def noX {α : Type} : R α → R α
  | .ok a => .ok a
  | _ => .no
def wipeD (ρ : DS) : List Nat → DS
  | [] => ρ
  | i :: r => (wipeD ρ r).set i .no
def compD (p : Pat) (tt : FT) (te : FE) (ρw : DS) : List D → R (List D)
  | [] => .ok []
  | d :: ds => match bindP p d ρw with
    | none => .no
    | some ρ1 => (noX (tt ρ1)).bind fun b => if b = true then (noX (te ρ1)).bind fun e => (compD p tt te ρw ds).bind fun es => .ok (e :: es) else compD p tt te ρw ds
def okOwn (own : List Nat) (ρ : DS) : Bool := own.all fun i => match ρ[i]? with
  | some (.ow _) => false
  | _ => true
def eComp (it : FI) (fr own : List Nat) (p : Pat) (tt : FT) (te : FE) : FE := fun ρ => if okOwn own ρ = true then (it ρ).bind fun ds => (compD p tt te (wipeD (frz fr ρ) own) ds).bind fun es => if es.length ≤ sizeLine then .ok (.lst es) else .no else .no
theorem wipe_get {σ : L2.St} {i : Nat} : ∀ {own : List Nat}, i ∉ own → (wipe σ own)[i]? = σ[i]?
  | [], _ => rfl
  | j :: own, h => by
    simp only [List.mem_cons, not_or] at h
    show ((wipe σ own).set j none)[i]? = _
    rw [List.getElem?_set_ne (fun z => h.1 z.symm), wipe_get h.2]
theorem wipe_in {σ : L2.St} {i : Nat} : ∀ {own : List Nat}, i ∈ own → (wipe σ own)[i]? = if i < σ.length then some none else none
  | [], h => by cases h
  | j :: own, h => by
    show ((wipe σ own).set j none)[i]? = _
    by_cases e : j = i
    · subst e
      rw [List.getElem?_set]
      simp [wipe_length]
    · rw [List.getElem?_set_ne e]
      exact wipe_in ((List.mem_cons.mp h).resolve_left fun z => e z.symm)
theorem wipe_wipe (σ : L2.St) (own : List Nat) : wipe (wipe σ own) own = wipe σ own := by
  apply List.ext_getElem?
  intro i
  by_cases h : i ∈ own
  · rw [wipe_in h, wipe_in h, wipe_length]
  · rw [wipe_get h]
theorem wipeD_get {ρ : DS} {i : Nat} : ∀ {own : List Nat}, i ∉ own → (wipeD ρ own)[i]? = ρ[i]?
  | [], _ => rfl
  | j :: own, h => by
    simp only [List.mem_cons, not_or] at h
    show ((wipeD ρ own).set j .no)[i]? = _
    rw [List.getElem?_set_ne (fun z => h.1 z.symm), wipeD_get h.2]
theorem binds_get : ∀ {is : List Nat} {ds : List D} {ρ ρ' : DS} {j : Nat}, binds is ds ρ = some ρ' → j ∉ is → ρ'[j]? = ρ[j]?
  | [], [], _, _, _, e, _ => by cases e; rfl
  | [], _ :: _, _, _, _, e, _ => by cases e
  | _ :: _, [], _, _, _, e, _ => by cases e
  | i :: is, d :: ds, ρ, ρ', j, e, h => by
    have e : binds is ds (ρ.set i (.sh d)) = some ρ' := e
    simp only [List.mem_cons, not_or] at h
    rw [binds_get e h.2, List.getElem?_set_ne (fun z => h.1 z.symm)]
theorem bindP_get {p : Pat} {d : D} {ρ ρ' : DS} {j : Nat} (e : bindP p d ρ = some ρ') (h : j ∉ p.slots) : ρ'[j]? = ρ[j]? := by
  cases p with
  | nm i =>
    cases e
    rw [List.getElem?_set_ne]
    rintro rfl
    exact h (by simp [Pat.slots])
  | tp is =>
    cases d <;> first | (cases e; done) | skip
    exact binds_get e h
theorem RelS.wipe {B : AS} {H0 H : Hp} {ρ : DS} {σ : L2.St} (r : RelS G B H0 ρ σ H) : ∀ own : List Nat, RelS G B H0 (wipeD ρ own) (L2.wipe σ own) H
  | [] => r
  | i :: own => (RelS.wipe r own).setNo
theorem RelS.addB {B : AS} {H0 H1 H2 : Hp} {ρ : DS} {σ : L2.St} {D : Addr} (r : RelS G B H0 ρ σ H1) (s : Same H1 H2) (n : H1 D = none) (m : mutO H2 D) : RelS G (fun a => B a ∨ a = D) (fun _ => none) ρ σ H2 := by
  have up : ∀ a, Own (fun a => B a ∨ a = D) ρ σ [] a → Own B ρ σ [] a ∨ a = D := fun a z => by
    rcases z with (z | z) | z
    · exact .inl (.inl z)
    · exact .inr z
    · exact .inl (.inr z)
  have k : ∀ a, H1 a ≠ none → ¬ Own B ρ σ [] a → ¬ Own (fun a => B a ∨ a = D) ρ σ [] a := fun a ha no z => (up a z).elim no fun e => ha (e ▸ n)
  refine ⟨r.len, fun i sl o e1 e2 => ?_, r.inj, fun a z => z.elim (fun z => (r.bm a z).same s) fun e => e ▸ m, fun i a h z => z.elim (r.bo i a h) fun e => ?_, fun _ _ _ => rfl, fun _ _ z => nomatch z⟩
  · have q := r.rel i sl o e1 e2
    cases sl with
    | no => trivial
    | sh d => obtain ⟨v, e, q⟩ := q; exact ⟨v, e, q.mono (Ev.of_same s) k⟩
    | ow d => obtain ⟨a, e, q⟩ := q; exact ⟨a, e, q.mono (Ev.of_same s) k (fun o z => s a o z)⟩
  · exact (r.mut (fr := []) (.inr ⟨i, by simp, h⟩)).some (e ▸ n)
abbrev W0 : WX := fun _ _ _ _ => False
theorem sim_comp {wi : TI} {g : TG} {tt : TT} {te : TE} {own : List Nat} {it : FI} {p : Pat} {ft : FT} {fe : FE} {it_t it_c et ec : List Nat} {nwe : Bool} (hi : SimI G W wi it it_t it_c) (hg : SimG G g p) (ht : SimT G W0 tt ft) (he : SimE G W0 te fe et ec nwe) (hp : ∀ i ∈ p.slots, i ∈ own) :
    SimE G W (tLc wi g tt te own) (eComp it it_c own p ft fe) (it_c ++ et) (it_c ++ et) true := fun B H0 ρ σ H rl Q hq => by
  unfold eComp at hq
  by_cases hown : okOwn own ρ = true
  case neg => rw [if_neg hown] at hq; exact hq.elim
  rw [if_pos hown] at hq
  have noown : ∀ i a, ownAt ρ σ i a → i ∉ own := fun i a ⟨⟨d, e⟩, _⟩ hi => by
    have := List.all_eq_true.mp hown i hi
    rw [e] at this
    cases this
  refine hi B H0 ρ σ H rl _ ?_
  cases e : it ρ with
  | no => rw [e] at hq; exact hq
  | ex x => rw [e] at hq; exact hq
  | ok items =>
    rw [e] at hq
    intro J H1 s1 _ ok D hD
    simp only [PD.R.bind_ok] at hq
    cases ec' : compD p ft fe (wipeD (frz it_c ρ) own) items with
    | no => rw [ec'] at hq; exact hq.elim
    | ex x =>
      exfalso
      have : ∀ ds : List PD.D, ∀ x, compD p ft fe (wipeD (frz it_c ρ) own) ds ≠ .ex x := by
        intro ds
        induction ds with
        | nil => intro x z; cases z
        | cons d ds ih =>
          intro x z
          unfold compD at z
          split at z
          · cases z
          · rename_i ρ1 eb
            cases et' : ft ρ1 with
            | no => rw [et'] at z; cases z
            | ex y => rw [et'] at z; cases z
            | ok b =>
              rw [et'] at z
              simp only [noX, PD.R.bind_ok] at z
              split at z
              · cases ee : fe ρ1 with
                | no => rw [ee] at z; cases z
                | ex y => rw [ee] at z; cases z
                | ok y =>
                  rw [ee] at z
                  simp only [noX, PD.R.bind_ok] at z
                  cases er : compD p ft fe (wipeD (frz it_c ρ) own) ds with
                  | no => rw [er] at z; cases z
                  | ex y => exact ih y er
                  | ok y => rw [er] at z; cases z
              · exact ih x z
      exact this _ _ ec'
    | ok es =>
      rw [ec'] at hq
      simp only [PD.R.bind_ok] at hq
      by_cases hlen : es.length ≤ sizeLine
      case neg => rw [if_neg hlen] at hq; exact hq.elim
      rw [if_pos hlen] at hq
      have rl1 := rl.same s1
      let OR : AS := fun a => Own B ρ σ (it_c ++ et) a ∨ a = D
      refine ⟨fun i m H2 => m = items.length - i ∧ i ≤ items.length ∧ Same H1 H2 ∧ ∃ (acc : List PD.D) (vs : List V) (rest : List PD.D), H2 D = some (.lst vs) ∧ Reps G H2 OR acc vs ∧ compD p ft fe (wipeD (frz it_c ρ) own) (items.drop i) = .ok rest ∧ acc ++ rest = es,
        ⟨items.length, rfl, Nat.zero_le _, same_new hD, [], [], es, upd_same, rfl, by rw [List.drop_zero]; exact ec', rfl⟩, ?_⟩
      rintro i m H2 ⟨rfl, hi', s2, acc, vs, rest, hD2, racc, erest, esum⟩
      obtain ⟨J2, J3⟩ := ok i H2 s2
      by_cases hlt : i < items.length
      · have ed : items[i]? = some items[i] := List.getElem?_eq_getElem hlt
        obtain ⟨go, yl⟩ := J2 _ ed
        rw [List.drop_eq_getElem_cons hlt] at erest
        unfold compD at erest
        cases eb : bindP p items[i] (wipeD (frz it_c ρ) own) with
        | none => rw [eb] at erest; cases erest
        | some ρ1 =>
          rw [eb] at erest
          simp only at erest
          let Nx : Hp → Prop := fun H' => Same H1 H' ∧ ∃ (acc : List PD.D) (vs : List V) (rest : List PD.D), H' D = some (.lst vs) ∧ Reps G H' OR acc vs ∧ compD p ft fe (wipeD (frz it_c ρ) own) (items.drop (i + 1)) = .ok rest ∧ acc ++ rest = es
          refine .inr ⟨go, Nx, fun H' ⟨a1, a2⟩ => ⟨items.length - (i + 1), by omega, rfl, hlt, a1, a2⟩, fun x H3 y => ?_⟩
          obtain ⟨s23, rp⟩ := yl x H3 y
          have s13 := s2.trans s23
          have blk : RelS G (fun a => B a ∨ a = D) (fun _ => none) (wipeD (frz it_c ρ) own) (L2.wipe σ own) H3 := ((rl1.frz it_c).wipe own).addB s13 hD ⟨_, s23 _ _ hD2, rfl⟩
          have rep : Rep G H3 (Own (fun a => B a ∨ a = D) (wipeD (frz it_c ρ) own) (L2.wipe σ own) []) items[i] x := rp _ fun a z => by
            refine ⟨?_, ?_⟩
            · rcases z with (z | z) | ⟨j, _, z⟩
              · exact .inl (.inl z)
              · exact .inr (z ▸ hD)
              · obtain ⟨⟨d, e1⟩, e2⟩ := z
                by_cases hj : j ∈ own
                · rw [wipe_in hj] at e2; split at e2 <;> cases e2
                · rw [wipe_get hj] at e2
                  rw [wipeD_get hj] at e1
                  obtain ⟨z1, z2⟩ := frz_own (σ := σ) ⟨⟨d, e1⟩, e2⟩
                  exact .inl (.inr ⟨j, z1, z2⟩)
            · rcases z with (z | z) | ⟨j, _, z⟩
              · exact ((rl1.bm a z).same s2).some
              · rw [z, hD2]; exact fun z => nomatch z
              · obtain ⟨⟨d, e1⟩, e2⟩ := z
                by_cases hj : j ∈ own
                · rw [wipe_in hj] at e2; split at e2 <;> cases e2
                · rw [wipe_get hj] at e2
                  rw [wipeD_get hj] at e1
                  obtain ⟨z1, z2⟩ := frz_own (σ := σ) ⟨⟨d, e1⟩, e2⟩
                  exact ((rl1.mut (fr := []) (.inr ⟨j, by simp, z2⟩)).same s2).some
          refine hg _ _ _ _ H3 items[i] x ρ1 _ blk rep eb fun σ3 r3 hw => ?_
          have hw3 : L2.wipe σ3 own = L2.wipe σ own := (hw own hp).trans (wipe_wipe σ own)
          refine ⟨hw3, ?_⟩
          refine ht _ _ ρ1 σ3 H3 r3 _ ?_
          have conv : ∀ a, OR a → Own (fun a => B a ∨ a = D) ρ1 σ3 et a := fun a z => by
            rcases z with (z | ⟨j, n, z⟩) | z
            · exact .inl (.inl z)
            · have hj := noown j a z
              simp only [List.mem_append, not_or] at n
              obtain ⟨⟨d, e1⟩, e2⟩ := z
              refine .inr ⟨j, n.2, ⟨d, ?_⟩, ?_⟩
              · rw [bindP_get eb fun z => hj (hp j z), wipeD_get hj, frz_get n.1]; exact e1
              · have := congrArg (fun l => l[j]?) hw3
                simp only [wipe_get hj] at this
                rw [this]; exact e2
            · exact .inl (.inr z)
          cases et' : ft ρ1 with
          | no => rw [et'] at erest; cases erest
          | ex x => rw [et'] at erest; cases erest
          | ok b =>
            rw [et'] at erest
            simp only [noX, PD.R.bind_ok] at erest
            intro H4 s4
            have s14 := s13.trans s4
            cases b with
            | false =>
              rw [if_neg Bool.false_ne_true] at erest ⊢
              exact ⟨s14, acc, vs, rest, s4 _ _ (s23 _ _ hD2), (racc.same s23).same s4, erest, esum⟩
            | true =>
              rw [if_pos rfl] at erest ⊢
              refine he _ _ ρ1 σ3 H4 (r3.same s4) _ ?_
              cases ee : fe ρ1 with
              | no => rw [ee] at erest; cases erest
              | ex x => rw [ee] at erest; cases erest
              | ok y =>
                rw [ee] at erest
                simp only [noX, PD.R.bind_ok] at erest
                cases er : compD p ft fe (wipeD (frz it_c ρ) own) (items.drop (i + 1)) with
                | no => rw [er] at erest; cases erest
                | ex x => rw [er] at erest; cases erest
                | ok rest' =>
                  rw [er] at erest
                  cases erest
                  intro v H5 s5 x5
                  have s15 := s14.trans s5
                  have hD5 := s5 _ _ (s4 _ _ (s23 _ _ hD2))
                  have hl : vs.length < sizeLine := by
                    have h1 := racc.length
                    have h2 := congrArg List.length esum
                    rw [List.length_append, List.length_cons] at h2
                    omega
                  have sD : Same H1 (upd H5 D (.lst (vs ++ [v]))) := fun a o z => by
                    rw [upd_ne (ne_of_none z hD)]; exact s15 a o z
                  refine ⟨vs, hD5, hl, sD, acc ++ [y], vs ++ [v], rest', upd_same, ?_, er, by rw [List.append_assoc]; exact esum⟩
                  have r5 : Reps G H5 OR (acc ++ [y]) (vs ++ [v]) := (((racc.same s23).same s4).same s5).append (.one (x5.top.less conv))
                  refine r5.mono (fun a o z hf => ?_) fun _ _ n => n
                  by_cases ha : a = D
                  · subst ha
                    rw [hD5] at z; cases z
                    rcases hf with hf | hf
                    · cases hf
                    · exact absurd (Or.inr rfl) hf
                  · rw [upd_ne ha]; exact z
      · have e : i = items.length := by omega
        subst e
        rw [List.drop_length] at erest
        cases erest
        rw [List.append_nil] at esum
        subst esum
        refine .inl ⟨J3 (Nat.le_refl _), hq _ H2 (s1.trans s2) ?_⟩
        have nD : ∀ fr, ¬ Own B ρ σ fr D := fun fr z => (rl1.mut z).some hD
        have top : Top G H2 OR (.lst acc) D := ⟨vs, hD2, racc⟩
        have rep : Rep G H2 (Own B ρ σ (it_c ++ et)) (.lst acc) (.ref D) := ⟨D, vs, rfl, nD _, hD2, racc.less fun a z => .inl z⟩
        exact ⟨rep, rep.kid, fun _ _ => ⟨D, rfl, s1.free hD, top⟩⟩
abbrev blkX {ι : Type} (X : ι → Cx) (scope : Scope) : (ι × Shared × Hp × Addr × List (Str × Addr) × List Addr) → Cx := fun q => (X q.1).blk q.2.1 q.2.2.1 scope (compEnvC scope q.2.2.2.2.1 q.2.2.2.1 (X q.1).env) q.2.2.2.2.2
theorem good_blk {scope : Scope} (g : Good X G) : Good (blkX X scope) G := ⟨fun q => g.k q.1, fun q => g.m q.1, fun q => g.calm q.1⟩
theorem takes_blk {scope : Scope} : ∀ q, Takes (blkX X scope q) W0 := fun q u s' h => by
  obtain ⟨a, B, sI, pins, σ, H, cls, d, e, I, nb, up, sky, na, os, ag, w⟩ := h
  exact w
theorem pd_comp {elt tg iter : Expr} {ifs : List Expr} {scope : Scope} {own : List (Str × Nat)} {pos : Pos} {it : FI} {p : Pat} {tt : FT} {fe : FE} {it_t it_c et ec : List Nat} {nwe : Bool} (g : Good X G) (hN : ∀ j, (X j).N.Nodup) (hi : PID X G W tg iter it it_t it_c) (ok : ∀ j, BlkOk (X j).N (X j).env.scope scope own)
    (hg : PGD (blkX X scope) G tg p) (ht : ∃ t, (∀ q, PTs (blkX X scope q) ifs t) ∧ SimT G W0 t tt) (he : PD (blkX X scope) G W0 elt fe et ec nwe) (hp : ∀ i ∈ p.slots, i ∈ own.map (·.2)) (hs : ∀ j x, foldedSetIterable iter (X j).env x = pure x := by intro _ _; rfl) :
    PD X G W (.ListComp elt [⟨tg, iter, ifs, 0⟩] scope pos) (eComp it it_c (own.map (·.2)) p tt fe) (it_c ++ et) (it_c ++ et) true := by
  obtain ⟨wi, i1, i2⟩ := hi
  obtain ⟨gg, g1, g2⟩ := hg
  obtain ⟨t, t1, t2⟩ := ht
  obtain ⟨u, u1, u2⟩ := he
  exact ⟨_, fun j => pe_lc (g.calm j) (hN j) (i1 j) (ok j) (fun s H C cl fp => g1 (j, s, H, C, cl, fp)) (fun s H C cl fp => t1 (j, s, H, C, cl, fp)) (fun s H C cl fp => u1 (j, s, H, C, cl, fp)) (hs j), sim_comp i2 g2 t2 u2 hp⟩
def tYesD : FT := fun _ => .ok true
theorem pts_yes : ∃ t, (∀ i, PTs (X i) [] t) ∧ SimT G W t tYesD := ⟨_, fun _ => pts_nil, fun B H0 ρ σ H rl Q h => h H (Same.refl H)⟩
theorem pts_if {c : Expr} {f : FT} (h : PTD X G W c f) : ∃ t, (∀ i, PTs (X i) [c] t) ∧ SimT G W t f := let ⟨_, h1, h2⟩ := h; ⟨_, fun i => pts_one (h1 i), h2⟩
theorem psd_comp_sh {i : Nat} {y : Str} {py : Pos} {elt tg iter : Expr} {ifs : List Expr} {scope : Scope} {own : List (Str × Nat)} {pos spos : Pos} {it : FI} {p : Pat} {tt : FT} {fe : FE} {it_t it_c et ec : List Nat} {nwe nwr : Bool} (g : Good X G) (hN : ∀ j, (X j).N.Nodup) (hy : ∀ j, (X j).N[i]? = some y) (hyl : ∀ j, (X j).env.scope.names.lookup y = some .local)
    (hsw : ∀ j, swapsWith (.ListComp elt [⟨tg, iter, ifs, 0⟩] scope pos) (some (.Name y py)) spos.line (X j).env = pure true) (hi : PID X G W tg iter it it_t it_c) (ok : ∀ j, BlkOk (X j).N (X j).env.scope scope own)
    (hg : PGD (blkX X scope) G tg p) (ht : ∃ t, (∀ q, PTs (blkX X scope q) ifs t) ∧ SimT G W0 t tt) (he : PD (blkX X scope) G W0 elt fe et ec nwe) (hp : ∀ i ∈ p.slots, i ∈ own.map (·.2)) (hs : ∀ j x, foldedSetIterable iter (X j).env x = pure x := by intro _ _; rfl) :
    PSD X G W (.Assign [.Name y py] (.ListComp elt [⟨tg, iter, ifs, 0⟩] scope pos) spos) (sSh i (it_c ++ et) (eComp it it_c (own.map (·.2)) p tt fe)) nwr := by
  obtain ⟨wi, i1, i2⟩ := hi
  obtain ⟨gg, g1, g2⟩ := hg
  obtain ⟨t, t1, t2⟩ := ht
  obtain ⟨u, u1, u2⟩ := he
  exact ⟨_, fun j => ps_setLc (g.calm j) (hN j) (hy j) (hyl j) (hsw j) (i1 j) (ok j) (fun s H C cl fp => g1 (j, s, H, C, cl, fp)) (fun s H C cl fp => t1 (j, s, H, C, cl, fp)) (fun s H C cl fp => u1 (j, s, H, C, cl, fp)) (hs j), sim_sh (sim_comp i2 g2 t2 u2 hp)⟩
theorem psd_comp_ow {i : Nat} {y : Str} {py : Pos} {elt tg iter : Expr} {ifs : List Expr} {scope : Scope} {own : List (Str × Nat)} {pos spos : Pos} {it : FI} {p : Pat} {tt : FT} {fe : FE} {it_t it_c et ec : List Nat} {nwe nwr : Bool} (g : Good X G) (hN : ∀ j, (X j).N.Nodup) (hy : ∀ j, (X j).N[i]? = some y) (hyl : ∀ j, (X j).env.scope.names.lookup y = some .local)
    (hsw : ∀ j, swapsWith (.ListComp elt [⟨tg, iter, ifs, 0⟩] scope pos) (some (.Name y py)) spos.line (X j).env = pure true) (hi : PID X G W tg iter it it_t it_c) (ok : ∀ j, BlkOk (X j).N (X j).env.scope scope own)
    (hg : PGD (blkX X scope) G tg p) (ht : ∃ t, (∀ q, PTs (blkX X scope q) ifs t) ∧ SimT G W0 t tt) (he : PD (blkX X scope) G W0 elt fe et ec nwe) (hp : ∀ i ∈ p.slots, i ∈ own.map (·.2)) (hs : ∀ j x, foldedSetIterable iter (X j).env x = pure x := by intro _ _; rfl) :
    PSD X G W (.Assign [.Name y py] (.ListComp elt [⟨tg, iter, ifs, 0⟩] scope pos) spos) (sOw i (it_c ++ et) (eComp it it_c (own.map (·.2)) p tt fe)) nwr := by
  obtain ⟨wi, i1, i2⟩ := hi
  obtain ⟨gg, g1, g2⟩ := hg
  obtain ⟨t, t1, t2⟩ := ht
  obtain ⟨u, u1, u2⟩ := he
  exact ⟨_, fun j => ps_setLc (g.calm j) (hN j) (hy j) (hyl j) (hsw j) (i1 j) (ok j) (fun s H C cl fp => g1 (j, s, H, C, cl, fp)) (fun s H C cl fp => t1 (j, s, H, C, cl, fp)) (fun s H C cl fp => u1 (j, s, H, C, cl, fp)) (hs j), sim_ow (sim_comp i2 g2 t2 u2 hp)⟩
end
end PD
set_option autoImplicit false
namespace PD
open PySem PySem.Spec PyProof.Rows L2
structure Ctx {ι : Type} (X : ι → Cx) (G : Gb) (W : WX) (P : Program) (w : World) (base : Heap) (k : Nat) : Prop where
  g : Good X G
  tk : ∀ i, Takes (X i) W
  hr : ∀ i, Room k (X i).A
  nd : ∀ i, (X i).N.Nodup
  P : ∀ i, (X i).prog = P
  w : ∀ i, (X i).w = w
  b : ∀ i, (X i).base = base
structure Dfn (G : Gb) (P : Program) (w : World) (base : Heap) (x : Str) (F : FF) (nw : Bool) (n k : Nat) : Prop where
  ex : ∃ (f : Addr) (fd : FuncData) (ps : List Str), ps.length = n ∧ FnOk P w G.K G.mg base (L2.CX P w) k f fd ps (spF G F nw n) ∧ G.mg x = some (.ref f) ∧ PySem.W.keepIn G.K (.ref f) = true ∧ Binds G.K fd ps []
section
variable {ι : Type} {X : ι → Cx} {G : Gb} {W : WX} {P : Program} {w : World} {base : Heap} {k : Nat}
theorem Ctx.blk (c : Ctx X G W P w base k) {scope : Scope} : Ctx (blkX X scope) G W0 P w base k := ⟨good_blk c.g, takes_blk, fun q => c.hr q.1, fun q => c.nd q.1, fun q => c.P q.1, fun q => c.w q.1, fun q => c.b q.1⟩
theorem Ctx.hu (c : Ctx X G W P w base k) : ∀ i, (X i).A.units + 65 < cLine := fun i => by have := (c.hr i).un; omega
theorem Ctx.call (c : Ctx X G W P w base k) {x : Str} {F : FF} {nw : Bool} {n k' : Nat} (d : Dfn G P w base x F nw n k') (hk : k' ≤ k) : CallOk X G W x F nw n := by
  obtain ⟨f, fd, ps, h1, h2, h3, h4, h5⟩ := d.ex
  refine ⟨⟨f, fd, k', ps, h1, fun i => ?_, fun i => (c.hr i).mono hk, h3, h4, h5⟩, c.tk⟩
  rw [c.P i, c.w i, c.b i, c.g.k i, c.g.m i]
  exact h2
theorem Ctx.nm (c : Ctx X G W P w base k) (i : Nat) {x : Str} (hN : ∀ j, (X j).N[i]? = some x := by exact fun _ => rfl) (hl : ∀ j, Loc (X j).env.scope x := by first | exact fun _ => Or.inl rfl | exact fun _ => Or.inr rfl)
    (hf : ∀ j, (X j).fn x = true ∨ (X j).env.scope.names.lookup x = some .local := by first | exact fun _ => Or.inl rfl | exact fun _ => Or.inr rfl) : Nm X i x := ⟨c.nd, hN, hl, hf⟩
theorem fn_def {x qual : Str} {st : Stmt} {f : Addr} {fd : FuncData} {N ps : List Str} {k n : Nat} {fs : FS} {nw : Bool} {F0 : FF} (F : Fun G.K x qual st f fd) (hm : G.mg x = some (.ref f)) (hn : ps.length = n) (b : Binds G.K fd ps []) (S : FnScope N ps (defScope st)) (hF : F0 = runF N.length fs)
    (hb : ∀ (cdv : Value) (A : Around) (outer : List Env) (s : Shared) (H : Hp) (E : XK), Ctx (fun _ : Unit => cxOf (L2.CX P w) P w G.K G.mg base N qual (defScope st) f cdv A outer s H E) G (fun cls d _ H => E cls d H) P w base k →
      PSsD (fun _ : Unit => cxOf (L2.CX P w) P w G.K G.mg base N qual (defScope st) f cdv A outer s H E) G (fun cls d _ H => E cls d H) (defBody st) fs nw) :
    Dfn G P w base x F0 nw n (k + 1) := by
  subst hn
  subst hF
  exact ⟨f, fd, ps, rfl, fn_body F S fun cdv A outer s H E hr => hb cdv A outer s H E ⟨⟨fun _ => rfl, fun _ => rfl, fun _ => rfl⟩, fun _ => takes_of rfl rfl rfl rfl, fun _ => hr, fun _ => S.nd, fun _ => rfl, fun _ => rfl, fun _ => rfl⟩, hm, F.kp, b⟩
section
variable {a b : Expr} {fa fb : FE} {fta fca ftb fcb : List Nat} {nwa nwb : Bool} {pos : Pos}
theorem Ctx.add (c : Ctx X G W P w base k) (ha : PD X G W a fa fta fca nwa) (hb : PD X G W b fb ftb fcb nwb) : PD X G W (.BinOp a .Add b pos) (eBin addD fa fb) (fca ++ fcb) (fca ++ fcb) true := pd_op op2_add (opr_add c.g) ha hb
theorem Ctx.sub (c : Ctx X G W P w base k) (ha : PD X G W a fa fta fca nwa) (hb : PD X G W b fb ftb fcb nwb) : PD X G W (.BinOp a .Sub b pos) (eBin subD fa fb) (fca ++ fcb) (fca ++ fcb) true := pd_op op2_sub (fun _ => op_sub) ha hb
theorem Ctx.mul (c : Ctx X G W P w base k) (ha : PD X G W a fa fta fca nwa) (hb : PD X G W b fb ftb fcb nwb) : PD X G W (.BinOp a .Mult b pos) (eBin mulD fa fb) (fca ++ fcb) (fca ++ fcb) true := pd_op op2_mul opr_mul ha hb
theorem Ctx.fdiv (c : Ctx X G W P w base k) (ha : PD X G W a fa fta fca nwa) (hb : PD X G W b fb ftb fcb nwb) : PD X G W (.BinOp a .FloorDiv b pos) (eBin fdivD fa fb) (fca ++ fcb) (fca ++ fcb) true := pd_op op2_fdiv (fun _ => op_fdivW) ha hb
theorem Ctx.mod (c : Ctx X G W P w base k) (ha : PD X G W a fa fta fca nwa) (hb : PD X G W b fb ftb fcb nwb) : PD X G W (.BinOp a .Mod b pos) (eBin modD fa fb) (fca ++ fcb) (fca ++ fcb) true := pd_op op2_mod (fun _ => op_mod) ha hb
theorem Ctx.pow (c : Ctx X G W P w base k) (ha : PD X G W a fa fta fca nwa) (hb : PD X G W b fb ftb fcb nwb) : PD X G W (.BinOp a .Pow b pos) (eBin powD fa fb) (fca ++ fcb) (fca ++ fcb) true := pd_op op2_pow (fun _ => op_pow) ha hb
def eNeg (fa : FE) : FE := fun ρ => (fa ρ).bind fun d => (asI d).bind fun i => .ok (.int (-i))
theorem Ctx.neg (c : Ctx X G W P w base k) (ha : PD X G W a fa fta fca nwa) : PD X G W (.UnaryOp .USub a pos) (eNeg fa) [] [] true := by
  obtain ⟨t, h1, h2⟩ := ha
  refine ⟨_, fun i => pe_un un_neg (h1 i), fun B H0 ρ σ H rl Q hq => ?_⟩
  unfold eNeg at hq
  refine h2 B H0 ρ σ H rl _ ?_
  cases e : fa ρ with
  | no => rw [e] at hq; exact hq
  | ex x => rw [e] at hq; exact hq
  | ok d =>
    rw [e] at hq
    intro v H1 s1 x1
    cases d <;> first | exact False.elim hq | skip
    exact ⟨_, x1.top, hq _ _ s1 ⟨rfl, rfl, fun _ => fresh_not rfl⟩⟩
theorem Ctx.ix (c : Ctx X G W P w base k) (ha : PD X G W a fa fta fca nwa) (hb : PD X G W b fb ftb fcb nwb) (hs : PlainIx b := by exact fun _ _ => rfl) : PD X G W (.Subscript a b pos) (eBin idxD fa fb) (fca ++ fcb) (fca ++ fcb) false := pd_ix c.g ha hb hs
theorem Ctx.eq (c : Ctx X G W P w base k) (ha : PD X G W a fa fta fca nwa) (hb : PD X G W b fb ftb fcb nwb) : PD X G W (.Compare a [.Eq] [b] pos) (eBin eqD fa fb) (fca ++ fcb) (fca ++ fcb) true := pd_cmp op2_eq (opr_eq c.g c.hu) ha hb (nomark _)
theorem Ctx.ne (c : Ctx X G W P w base k) (ha : PD X G W a fa fta fca nwa) (hb : PD X G W b fb ftb fcb nwb) : PD X G W (.Compare a [.NotEq] [b] pos) (eBin neD fa fb) (fca ++ fcb) (fca ++ fcb) true := pd_cmp op2_ne (opr_ne c.g c.hu) ha hb (nomark _)
theorem Ctx.lt (c : Ctx X G W P w base k) (ha : PD X G W a fa fta fca nwa) (hb : PD X G W b fb ftb fcb nwb) : PD X G W (.Compare a [.Lt] [b] pos) (eBin ltD fa fb) (fca ++ fcb) (fca ++ fcb) true := pd_cmp op2_cmpI (fun _ => op_lt) ha hb (nomark _)
theorem Ctx.le (c : Ctx X G W P w base k) (ha : PD X G W a fa fta fca nwa) (hb : PD X G W b fb ftb fcb nwb) : PD X G W (.Compare a [.LtE] [b] pos) (eBin leD fa fb) (fca ++ fcb) (fca ++ fcb) true := pd_cmp op2_cmpI (fun _ => op_le) ha hb (nomark _)
theorem Ctx.gt (c : Ctx X G W P w base k) (ha : PD X G W a fa fta fca nwa) (hb : PD X G W b fb ftb fcb nwb) : PD X G W (.Compare a [.Gt] [b] pos) (eBin gtD fa fb) (fca ++ fcb) (fca ++ fcb) true := pd_cmp op2_cmpI (fun _ => op_gt) ha hb (nomark _)
theorem Ctx.ge (c : Ctx X G W P w base k) (ha : PD X G W a fa fta fca nwa) (hb : PD X G W b fb ftb fcb nwb) : PD X G W (.Compare a [.GtE] [b] pos) (eBin geD fa fb) (fca ++ fcb) (fca ++ fcb) true := pd_cmp op2_cmpI (fun _ => op_ge) ha hb (nomark _)
theorem Ctx.isin (c : Ctx X G W P w base k) (ha : PD X G W a fa fta fca nwa) (hb : PD X G W b fb ftb fcb nwb) (hm : behindInMarks .In b = false := by rfl) : PD X G W (.Compare a [.In] [b] pos) (eBin inD fa fb) (fca ++ fcb) (fca ++ fcb) true := pd_cmp op2_in (opr_in c.g c.hu) ha hb hm
theorem Ctx.notin (c : Ctx X G W P w base k) (ha : PD X G W a fa fta fca nwa) (hb : PD X G W b fb ftb fcb nwb) (hm : behindInMarks .NotIn b = false := by rfl) : PD X G W (.Compare a [.NotIn] [b] pos) (eBin notInD fa fb) (fca ++ fcb) (fca ++ fcb) true := pd_cmp op2_notIn (opr_notIn c.g c.hu) ha hb hm
theorem Ctx.isN (c : Ctx X G W P w base k) (ha : PD X G W a fa fta fca nwa) (hb : PD X G W b fb ftb fcb nwb) : PD X G W (.Compare a [.Is] [b] pos) (eBin isND fa fb) (fca ++ fcb) (fca ++ fcb) true := pd_cmp op2_isN (fun _ => op_isN) ha hb (nomark _)
theorem Ctx.notN (c : Ctx X G W P w base k) (ha : PD X G W a fa fta fca nwa) (hb : PD X G W b fb ftb fcb nwb) : PD X G W (.Compare a [.IsNot] [b] pos) (eBin notND fa fb) (fca ++ fcb) (fca ++ fcb) true := pd_cmp op2_notN (fun _ => op_notN) ha hb (nomark _)
theorem Ctx.teq (c : Ctx X G W P w base k) (ha : PD X G W a fa fta fca nwa) (hb : PD X G W b fb ftb fcb nwb) : PTD X G W (.Compare a [.Eq] [b] pos) (tE (eBin eqD fa fb)) := ptd_cmp op2_eq (opr_eq c.g c.hu) ha hb (nomark _)
theorem Ctx.tne (c : Ctx X G W P w base k) (ha : PD X G W a fa fta fca nwa) (hb : PD X G W b fb ftb fcb nwb) : PTD X G W (.Compare a [.NotEq] [b] pos) (tE (eBin neD fa fb)) := ptd_cmp op2_ne (opr_ne c.g c.hu) ha hb (nomark _)
theorem Ctx.tlt (c : Ctx X G W P w base k) (ha : PD X G W a fa fta fca nwa) (hb : PD X G W b fb ftb fcb nwb) : PTD X G W (.Compare a [.Lt] [b] pos) (tE (eBin ltD fa fb)) := ptd_cmp op2_cmpI (fun _ => op_lt) ha hb (nomark _)
theorem Ctx.tle (c : Ctx X G W P w base k) (ha : PD X G W a fa fta fca nwa) (hb : PD X G W b fb ftb fcb nwb) : PTD X G W (.Compare a [.LtE] [b] pos) (tE (eBin leD fa fb)) := ptd_cmp op2_cmpI (fun _ => op_le) ha hb (nomark _)
theorem Ctx.tgt (c : Ctx X G W P w base k) (ha : PD X G W a fa fta fca nwa) (hb : PD X G W b fb ftb fcb nwb) : PTD X G W (.Compare a [.Gt] [b] pos) (tE (eBin gtD fa fb)) := ptd_cmp op2_cmpI (fun _ => op_gt) ha hb (nomark _)
theorem Ctx.tge (c : Ctx X G W P w base k) (ha : PD X G W a fa fta fca nwa) (hb : PD X G W b fb ftb fcb nwb) : PTD X G W (.Compare a [.GtE] [b] pos) (tE (eBin geD fa fb)) := ptd_cmp op2_cmpI (fun _ => op_ge) ha hb (nomark _)
theorem Ctx.tisin (c : Ctx X G W P w base k) (ha : PD X G W a fa fta fca nwa) (hb : PD X G W b fb ftb fcb nwb) (hm : behindInMarks .In b = false := by rfl) : PTD X G W (.Compare a [.In] [b] pos) (tE (eBin inD fa fb)) := ptd_cmp op2_in (opr_in c.g c.hu) ha hb hm
theorem Ctx.tnotin (c : Ctx X G W P w base k) (ha : PD X G W a fa fta fca nwa) (hb : PD X G W b fb ftb fcb nwb) (hm : behindInMarks .NotIn b = false := by rfl) : PTD X G W (.Compare a [.NotIn] [b] pos) (tE (eBin notInD fa fb)) := ptd_cmp op2_notIn (opr_notIn c.g c.hu) ha hb hm
theorem Ctx.tisN (c : Ctx X G W P w base k) (ha : PD X G W a fa fta fca nwa) (hb : PD X G W b fb ftb fcb nwb) : PTD X G W (.Compare a [.Is] [b] pos) (tE (eBin isND fa fb)) := ptd_cmp op2_isN (fun _ => op_isN) ha hb (nomark _)
theorem Ctx.tnotN (c : Ctx X G W P w base k) (ha : PD X G W a fa fta fca nwa) (hb : PD X G W b fb ftb fcb nwb) : PTD X G W (.Compare a [.IsNot] [b] pos) (tE (eBin notND fa fb)) := ptd_cmp op2_notN (fun _ => op_notN) ha hb (nomark _)
theorem Ctx.rlt (c : Ctx X G W P w base k) : ∀ i, OpR (X i) (compareOp .Lt) (rI0 fun i j => .bl (decide (i < j))) := fun _ => op_lt
theorem Ctx.rle (c : Ctx X G W P w base k) : ∀ i, OpR (X i) (compareOp .LtE) (rI0 fun i j => .bl (decide (i ≤ j))) := fun _ => op_le
theorem Ctx.tru (c : Ctx X G W P w base k) (h : PD X G W a fa fta fca nwa) (he : ∀ i whole, isTrue a (X i).env whole = (do let v ← whole; standAt a.pos; holding [v] (truthy v)) := by intro _ _; rfl) : PTD X G W a (tTru fa) := ptd_tru c.g h he
theorem tval (h : PD X G W a fa fta fca nwa) (he : ∀ i whole, isTrue a (X i).env whole = (do let v ← whole; standAt a.pos; holding [v] (truthy v)) := by intro _ _; rfl) : PTD X G W a (tE fa) := ptd_val h he
end
section
variable {e : Expr} {es : List Expr} {f : FA} {ft fc : List Nat} {p pos : Pos}
abbrev SE {ι : Type} (X : ι → Cx) (e : Expr) (es : List Expr) : Prop := ∀ i, starEach (e :: es) (X i).env = (false, eval e (X i).env) :: starEach es (X i).env
abbrev SP' {ι : Type} (X : ι → Cx) (pos : Pos) (es : List Expr) : Prop := ∀ i, (backTo pos (starEach es (X i).env)).any (·.1) = false
abbrev GlX {ι : Type} (X : ι → Cx) (x : Str) : Prop := ∀ i, Gl (X i) x
theorem Ctx.len (c : Ctx X G W P w base k) (hm : G.mg "len" = none) (ha : PAD X G W (e :: es) f ft fc) (hg : GlX X "len" := by exact fun _ => rfl) (he : SE X e es := by exact fun _ => rfl) (hpl : SP' X pos es := by exact fun _ => rfl) : PD X G W (.Call (.Name "len" p) (e :: es) [] pos) (eCall lenD f) fc fc true :=
  pd_callB c.g cs_len (cr_len c.g) (by decide +kernel) hm hg ha (by decide) (by decide) he hpl
theorem Ctx.list (c : Ctx X G W P w base k) (hm : G.mg "list" = none) (ha : PAD X G W (e :: es) f ft fc) (hg : GlX X "list" := by exact fun _ => rfl) (he : SE X e es := by exact fun _ => rfl) (hpl : SP' X pos es := by exact fun _ => rfl) : PD X G W (.Call (.Name "list" p) (e :: es) [] pos) (eCall listD f) fc fc true :=
  pd_callTy c.g cs_list (cr_list c.g) (by decide +kernel) hm hg ha (by decide) (by decide) he hpl
theorem Ctx.tuple (c : Ctx X G W P w base k) (hm : G.mg "tuple" = none) (ha : PAD X G W (e :: es) f ft fc) (hg : GlX X "tuple" := by exact fun _ => rfl) (he : SE X e es := by exact fun _ => rfl) (hpl : SP' X pos es := by exact fun _ => rfl) : PD X G W (.Call (.Name "tuple" p) (e :: es) [] pos) (eCall tupleD f) fc fc true :=
  pd_callTy c.g cs_tuple (cr_tuple c.g) (by decide +kernel) hm hg ha (by decide) (by decide) he hpl
theorem Ctx.sum (c : Ctx X G W P w base k) (hm : G.mg "sum" = none) (ha : PAD X G W (e :: es) f ft fc) (hg : GlX X "sum" := by exact fun _ => rfl) (he : SE X e es := by exact fun _ => rfl) (hpl : SP' X pos es := by exact fun _ => rfl) : PD X G W (.Call (.Name "sum" p) (e :: es) [] pos) (eCall sumD f) fc fc true :=
  pd_callB c.g cs_sum (cr_sum' c.g) (by decide +kernel) hm hg ha (by decide) (by decide) he hpl
theorem Ctx.max (c : Ctx X G W P w base k) (hm : G.mg "max" = none) (ha : PAD X G W (e :: es) f ft fc) (hg : GlX X "max" := by exact fun _ => rfl) (he : SE X e es := by exact fun _ => rfl) (hpl : SP' X pos es := by exact fun _ => rfl) : PD X G W (.Call (.Name "max" p) (e :: es) [] pos) (eCall maxD f) fc fc true :=
  pd_callB c.g cs_max (cr_max' c.g) (by decide +kernel) hm hg ha (by decide) (by decide) he hpl
theorem Ctx.min (c : Ctx X G W P w base k) (hm : G.mg "min" = none) (ha : PAD X G W (e :: es) f ft fc) (hg : GlX X "min" := by exact fun _ => rfl) (he : SE X e es := by exact fun _ => rfl) (hpl : SP' X pos es := by exact fun _ => rfl) : PD X G W (.Call (.Name "min" p) (e :: es) [] pos) (eCall minD f) fc fc true :=
  pd_callB c.g cs_min (cr_min' c.g) (by decide +kernel) hm hg ha (by decide) (by decide) he hpl
theorem Ctx.max2 (c : Ctx X G W P w base k) (hm : G.mg "max" = none) (ha : PAD X G W (e :: es) f ft fc) (hg : GlX X "max" := by exact fun _ => rfl) (he : SE X e es := by exact fun _ => rfl) (hpl : SP' X pos es := by exact fun _ => rfl) : PD X G W (.Call (.Name "max" p) (e :: es) [] pos) (eCall max2D f) fc fc true :=
  pd_callB c.g cs_max2 (fun i => call_max2 (c.g.calm i)) (by decide +kernel) hm hg ha (by decide) (by decide) he hpl
theorem Ctx.min2 (c : Ctx X G W P w base k) (hm : G.mg "min" = none) (ha : PAD X G W (e :: es) f ft fc) (hg : GlX X "min" := by exact fun _ => rfl) (he : SE X e es := by exact fun _ => rfl) (hpl : SP' X pos es := by exact fun _ => rfl) : PD X G W (.Call (.Name "min" p) (e :: es) [] pos) (eCall min2D f) fc fc true :=
  pd_callB c.g cs_min2 (fun i => call_min2 (c.g.calm i)) (by decide +kernel) hm hg ha (by decide) (by decide) he hpl
theorem Ctx.abs (c : Ctx X G W P w base k) (hm : G.mg "abs" = none) (ha : PAD X G W (e :: es) f ft fc) (hg : GlX X "abs" := by exact fun _ => rfl) (he : SE X e es := by exact fun _ => rfl) (hpl : SP' X pos es := by exact fun _ => rfl) : PD X G W (.Call (.Name "abs" p) (e :: es) [] pos) (eCall absD f) fc fc true :=
  pd_callB c.g cs_abs (fun i => call_abs) (by decide +kernel) hm hg ha (by decide) (by decide) he hpl
theorem Ctx.int (c : Ctx X G W P w base k) (hm : G.mg "int" = none) (ha : PAD X G W (e :: es) f ft fc) (hg : GlX X "int" := by exact fun _ => rfl) (he : SE X e es := by exact fun _ => rfl) (hpl : SP' X pos es := by exact fun _ => rfl) : PD X G W (.Call (.Name "int" p) (e :: es) [] pos) (eCall intD f) fc fc true :=
  pd_callTy c.g cs_int (fun i => call_int1) (by decide +kernel) hm hg ha (by decide) (by decide) he hpl
theorem Ctx.all (c : Ctx X G W P w base k) (hm : G.mg "all" = none) (ha : PAD X G W (e :: es) f ft fc) (hg : GlX X "all" := by exact fun _ => rfl) (he : SE X e es := by exact fun _ => rfl) (hpl : SP' X pos es := by exact fun _ => rfl) : PD X G W (.Call (.Name "all" p) (e :: es) [] pos) (eCall allD f) fc fc true :=
  pd_callB c.g cs_all (cr_all' c.g) (by decide +kernel) hm hg ha (by decide) (by decide) he hpl
theorem Ctx.any (c : Ctx X G W P w base k) (hm : G.mg "any" = none) (ha : PAD X G W (e :: es) f ft fc) (hg : GlX X "any" := by exact fun _ => rfl) (he : SE X e es := by exact fun _ => rfl) (hpl : SP' X pos es := by exact fun _ => rfl) : PD X G W (.Call (.Name "any" p) (e :: es) [] pos) (eCall anyD f) fc fc true :=
  pd_callB c.g cs_any (cr_any' c.g) (by decide +kernel) hm hg ha (by decide) (by decide) he hpl
theorem Ctx.sorted (c : Ctx X G W P w base k) (hm : G.mg "sorted" = none) (ha : PAD X G W (e :: es) f ft fc) (hg : GlX X "sorted" := by exact fun _ => rfl) (he : SE X e es := by exact fun _ => rfl) (hpl : SP' X pos es := by exact fun _ => rfl) : PD X G W (.Call (.Name "sorted" p) (e :: es) [] pos) (eCall sortedD f) fc fc true :=
  pd_callB c.g cs_sorted (cr_sorted' c.g) (by decide +kernel) hm hg ha (by decide) (by decide) he hpl
theorem Ctx.gcd (c : Ctx X G W P w base k) (hm : G.mg "gcd" = some (.builtin "math.gcd")) (ha : PAD X G W (e :: es) f ft fc) (hg : GlX X "gcd" := by exact fun _ => rfl) (he : SE X e es := by exact fun _ => rfl) (hpl : SP' X pos es := by exact fun _ => rfl) : PD X G W (.Call (.Name "gcd" p) (e :: es) [] pos) (eCall gcdD f) fc fc true :=
  pd_callBf c.g cs_gcd (fun i => cr_gcd) hm hg ha (by decide) he hpl
theorem Ctx.isi {fe : FE} {nw : Bool} {p2 : Pos} (c : Ctx X G W P w base k) (T : String) {x : Str} (hm : G.mg "isinstance" = none) (hmT : G.mg x = none) (ha : PD X G W e fe ft fc nw) (ok : isiOk T = true := by decide +kernel) (hvT : bootBuiltins x = some (.type T) := by decide +kernel) (hg : GlX X "isinstance" := by exact fun _ => rfl) (hgT : GlX X x := by exact fun _ => rfl)
    (hn : x ≠ "__name__" := by decide) (hdb : (x == ("__debug__" : Str)) = false := by decide) (he : SE X e [.Name x p2] := by exact fun _ => rfl) (he2 : SE X (.Name x p2) [] := by exact fun _ => rfl) (hpl : SP' X pos [.Name x p2] := by exact fun _ => rfl) :
    PD X G W (.Call (.Name "isinstance" p) [e, .Name x p2] [] pos) (eIsi T fe) [] [] true := pd_isi c.g ok ha hm hmT hvT hg hgT hn hdb he he2 hpl
theorem Ctx.fn (c : Ctx X G W P w base k) {x : Str} {F : FF} {nw : Bool} {n k' : Nat} (d : Dfn G P w base x F nw n k') (hk : k' ≤ k) (ha : PAD X G W (e :: es) f ft fc) (hg : GlX X x := by exact fun _ => rfl) (hn : (e :: es).length = n := by rfl) (hdb : (x == ("__debug__" : Str)) = false := by decide)
    (he : SE X e es := by exact fun _ => rfl) (hpl : SP' X pos es := by exact fun _ => rfl) : PD X G W (.Call (.Name x p) (e :: es) [] pos) (eFn F f) ft ft nw := pd_fn c.g (c.call d hk) hg ha hn hdb he hpl
theorem Ctx.fnK (c : Ctx X G W P w base k) {x : Str} {F : FF} {nw : Bool} {n k' : Nat} (d : Dfn G P w base x F nw n k') (hk : k' ≤ k) (ha : PAD X G W (e :: es) f ft fc) (hg : GlX X x := by exact fun _ => rfl) (hn : (e :: es).length = n := by rfl) (hdb : (x == ("__debug__" : Str)) = false := by decide)
    (he : SE X e es := by exact fun _ => rfl) (hpl : SP' X pos es := by exact fun _ => rfl) : PD X G W (.Call (.Name x p) (e :: es) [] pos) (eFnK nw F f) [] [] nw := pd_fnK c.g (c.call d hk) hg ha hn hdb he hpl
theorem Ctx.glob (c : Ctx X G W P w base k) {x : Str} {d : D} (hc : Konst G x d) (hg : GlX X x := by exact fun _ => rfl) (m : d.isMut = false := by rfl) (hd : (x == ("__debug__" : Str)) = false := by decide) : PD X G W (.Name x pos) (eC d) [] [] true := pd_glob c.g hc hg m hd
end
theorem Ctx.comp {elt tg iter : Expr} {ifs : List Expr} {scope : Scope} {pos : Pos} {it : FI} {pt : Pat} {tt : FT} {fe : FE} {it_t it_c et ec : List Nat} {nwe : Bool} (c : Ctx X G W P w base k) (own : List (Str × Nat)) (hi : PID X G W tg iter it it_t it_c) (hg : PGD (blkX X scope) G tg pt) (ht : ∃ t, (∀ q, PTs (blkX X scope q) ifs t) ∧ SimT G W0 t tt) (he : PD (blkX X scope) G W0 elt fe et ec nwe)
    (ok : ∀ j, BlkOk (X j).N (X j).env.scope scope own := by exact fun _ => blkOk_by (by kernel_rfl)) (hp : ∀ i ∈ pt.slots, i ∈ own.map (·.2) := by decide) (hs : ∀ j x, foldedSetIterable iter (X j).env x = pure x := by intro _ _; rfl) :
    PD X G W (.ListComp elt [⟨tg, iter, ifs, 0⟩] scope pos) (eComp it it_c (own.map (·.2)) pt tt fe) (it_c ++ et) (it_c ++ et) true := pd_comp c.g c.nd hi ok hg ht he hp hs
theorem Ctx.compSh {i : Nat} {y : Str} {py spos : Pos} {elt tg iter : Expr} {ifs : List Expr} {scope : Scope} {pos : Pos} {it : FI} {pt : Pat} {tt : FT} {fe : FE} {it_t it_c et ec : List Nat} {nwe nwr : Bool} (c : Ctx X G W P w base k) (own : List (Str × Nat)) (hi : PID X G W tg iter it it_t it_c) (hg : PGD (blkX X scope) G tg pt) (ht : ∃ t, (∀ q, PTs (blkX X scope q) ifs t) ∧ SimT G W0 t tt) (he : PD (blkX X scope) G W0 elt fe et ec nwe)
    (hy : ∀ j, (X j).N[i]? = some y := by exact fun _ => rfl) (hyl : ∀ j, (X j).env.scope.names.lookup y = some .local := by exact fun _ => rfl) (hsw : ∀ j, swapsWith (.ListComp elt [⟨tg, iter, ifs, 0⟩] scope pos) (some (.Name y py)) spos.line (X j).env = pure true := by exact fun _ => sw_true rfl rfl rfl (by decide +kernel))
    (ok : ∀ j, BlkOk (X j).N (X j).env.scope scope own := by exact fun _ => blkOk_by (by kernel_rfl)) (hp : ∀ i ∈ pt.slots, i ∈ own.map (·.2) := by decide) (hs : ∀ j x, foldedSetIterable iter (X j).env x = pure x := by intro _ _; rfl) :
    PSD X G W (.Assign [.Name y py] (.ListComp elt [⟨tg, iter, ifs, 0⟩] scope pos) spos) (sSh i (it_c ++ et) (eComp it it_c (own.map (·.2)) pt tt fe)) nwr := psd_comp_sh c.g c.nd hy hyl hsw hi ok hg ht he hp hs
theorem Ctx.compOw {i : Nat} {y : Str} {py spos : Pos} {elt tg iter : Expr} {ifs : List Expr} {scope : Scope} {pos : Pos} {it : FI} {pt : Pat} {tt : FT} {fe : FE} {it_t it_c et ec : List Nat} {nwe nwr : Bool} (c : Ctx X G W P w base k) (own : List (Str × Nat)) (hi : PID X G W tg iter it it_t it_c) (hg : PGD (blkX X scope) G tg pt) (ht : ∃ t, (∀ q, PTs (blkX X scope q) ifs t) ∧ SimT G W0 t tt) (he : PD (blkX X scope) G W0 elt fe et ec nwe)
    (hy : ∀ j, (X j).N[i]? = some y := by exact fun _ => rfl) (hyl : ∀ j, (X j).env.scope.names.lookup y = some .local := by exact fun _ => rfl) (hsw : ∀ j, swapsWith (.ListComp elt [⟨tg, iter, ifs, 0⟩] scope pos) (some (.Name y py)) spos.line (X j).env = pure true := by exact fun _ => sw_true rfl rfl rfl (by decide +kernel))
    (ok : ∀ j, BlkOk (X j).N (X j).env.scope scope own := by exact fun _ => blkOk_by (by kernel_rfl)) (hp : ∀ i ∈ pt.slots, i ∈ own.map (·.2) := by decide) (hs : ∀ j x, foldedSetIterable iter (X j).env x = pure x := by intro _ _; rfl) :
    PSD X G W (.Assign [.Name y py] (.ListComp elt [⟨tg, iter, ifs, 0⟩] scope pos) spos) (sOw i (it_c ++ et) (eComp it it_c (own.map (·.2)) pt tt fe)) nwr := psd_comp_ow c.g c.nd hy hyl hsw hi ok hg ht he hp hs
theorem Ctx.range1 {tg a : Expr} {f : FA} {ft fc : List Nat} {p pos : Pos} (c : Ctx X G W P w base k) (hm : G.mg "range" = none) (ha : PAD X G W [a] f ft fc) (hg : GlX X "range" := by exact fun _ => rfl) (hs : ∀ j, starEach [a] (X j).env = [(false, eval a (X j).env)] := by exact fun _ => rfl) : PID X G W tg (.Call (.Name "range" p) [a] [] pos) (itRange1 f) [] [] := pid_range1 c.g hg hm ha hs
theorem Ctx.range2 {tg a b : Expr} {f : FA} {ft fc : List Nat} {p pos : Pos} (c : Ctx X G W P w base k) (hm : G.mg "range" = none) (ha : PAD X G W [a, b] f ft fc) (hg : GlX X "range" := by exact fun _ => rfl) (hs : ∀ j, starEach [a, b] (X j).env = [(false, eval a (X j).env), (false, eval b (X j).env)] := by exact fun _ => rfl)
    (hs2 : ∀ j, starEach [b] (X j).env = [(false, eval b (X j).env)] := by exact fun _ => rfl) : PID X G W tg (.Call (.Name "range" p) [a, b] [] pos) (itRange2 f) [] [] := pid_range2 c.g hg hm ha hs hs2
theorem Ctx.enum {a : Expr} {f : FA} {ft fc : List Nat} {p pos tpos : Pos} {elts : List Expr} {kk : Nat} (c : Ctx X G W P w base k) (hm : G.mg "enumerate" = none) (ha : PAD X G W [a] f ft fc) (hg : GlX X "enumerate" := by exact fun _ => rfl) (hs : ∀ j, starEach [a] (X j).env = [(false, eval a (X j).env)] := by exact fun _ => rfl) : PID X G W (.Tuple elts kk tpos) (.Call (.Name "enumerate" p) [a] [] pos) (itEnum f) ft fc := pid_enum c.g hg hm ha hs
theorem Ctx.zip {a b : Expr} {f : FA} {ft fc : List Nat} {p pos tpos : Pos} {elts : List Expr} {kk : Nat} (c : Ctx X G W P w base k) (hm : G.mg "zip" = none) (ha : PAD X G W [a, b] f ft fc) (hg : GlX X "zip" := by exact fun _ => rfl) (hs : SE X a [b] := by exact fun _ => rfl) (hpl : SP' X pos [b] := by exact fun _ => rfl) : PID X G W (.Tuple elts kk tpos) (.Call (.Name "zip" p) [a, b] [] pos) (itZip f) ft fc := pid_zip c.g hg hm ha hs hpl
theorem Ctx.for {tg iter : Expr} {pt : Pat} {body : List Stmt} {it : FI} {fb : FS} {ft fc : List Nat} {nw : Bool} {pos : Pos} (c : Ctx X G W P w base k) (hi : PID X G W tg iter it ft fc) (hg : PGD X G tg pt) (hb : PSsD X G W body fb nw) (hp : ∀ j, PassesOwn (model (X j).prog (X j).w) (X j).A (X j).env (X j).xe := by first | assumption | exact fun _ => passes_of rfl)
    (hs : ∀ j x, foldedSetIterable iter (X j).env x = pure x := by intro _ _; rfl) : PSD X G W (.For tg iter body [] pos) (sFor it ft pt fb) nw := psd_for c.g hp hi hg hb hs
theorem Ctx.while {t : Expr} {body : List Stmt} {ft : FT} {fb : FS} {nw : Bool} {pos : Pos} (c : Ctx X G W P w base k) (hc : PTD X G W t ft) (hb : PSsD X G W body fb nw) (hp : ∀ j, PassesOwn (model (X j).prog (X j).w) (X j).A (X j).env (X j).xe := by first | assumption | exact fun _ => passes_of rfl) : PSD X G W (.While t body [] pos) (sWhile ft fb) nw := psd_while hp hc hb
theorem Ctx.app (c : Ctx X G W P w base k) (i : Nat) {x : Str} {e : Expr} {f : FE} {ft fc : List Nat} {nw nwr : Bool} {pa p2 p3 pos : Pos} (h : PD X G W e f ft fc nw) (hN : ∀ j, (X j).N[i]? = some x := by exact fun _ => rfl) (hv : ∀ j, Vis (X j).env.scope x := by first | exact fun _ => Or.inl rfl | exact fun _ => Or.inr (Or.inl rfl) | exact fun _ => Or.inr (Or.inr rfl))
    (hd : (x == ("__debug__" : Str)) = false := by decide) (hcd : (x == ("__classdict__" : Str)) = false := by decide) (hi : i ∉ ft := by decide)
    (hbase : ∀ j, attributeBase (.Name x pa) "append" (X j).env (eval (.Name x pa) (X j).env) = eval (.Name x pa) (X j).env := by exact fun _ => rfl)
    (hfew : ∀ j, ((backTo p3 (starEach [e] (X j).env)).all (fun x => !x.1) && (backToKw p3 (keywordEach [] (X j).env)).all (fun x => x.1.isSome) && decide ([e].length + ([] : List Keyword).length + (if ([] : List Keyword).isEmpty then 0 else 1) < 30)) = true := by exact fun _ => rfl)
    (hline : (p2.endLine == p3.line) = true := by rfl) (hs1 : SE X e [] := by exact fun _ => rfl) (hpl : SP' X p3 [] := by exact fun _ => rfl)
    (hs : ∀ j, swapsWith (.Call (.Attribute (.Name x pa) "append" p2) [e] [] p3) none pos.line (X j).env = pure false := by exact fun _ => rfl) :
    PSD X G W (.Expr (.Call (.Attribute (.Name x pa) "append" p2) [e] [] p3) pos) (sMut i ft D.isL appD f) nwr :=
  psd_app c.g hi h (fun j te hte => pe_bm PySem.F.plainAttrs_list PySem.F.slot_list_append PySem.F.type_list_append mt_append (pe_var (hN j) (hv j) hd hcd) (pa_cons hte pa_nil (hs1 j)) (hbase j) (hfew j) hline (hs1 j) (hpl j)) hs
end
end PD
namespace PD
open PySem PySem.Spec PyProof.Rows L2
section
variable {ι : Type} {X : ι → Cx} {G : Gb} {W : WX}
def eNo : FE := fun _ => .no
def tNo : FT := fun _ => .no
theorem pd_never {e : Expr} {nw : Bool} : PD X G W e eNo [] [] nw := ⟨fun _ _ _ => False, fun _ => ⟨fun _ _ _ _ _ _ h => h.elim⟩, fun B H0 ρ σ H rl Q h => h⟩
theorem ptd_never {e : Expr} : PTD X G W e tNo := ⟨fun _ _ _ => False, fun _ => ⟨fun _ _ _ _ _ _ h => h.elim⟩, fun B H0 ρ σ H rl Q h => h⟩
end
end PD
set_option autoImplicit false
namespace PD
open PySem PySem.Spec PyProof.Rows L2
mutual
theorem D.py_inj : ∀ (d e : D) (n m : Nat), d.sh n = true → e.sh m = true → d.py = e.py → d = e
  | .non, e, _, _, _, h, q => by cases e <;> first | rfl | (simp [D.py] at q; done) | (simp [D.sh] at h; done)
  | .bl b, e, _, _, _, h, q => by cases e <;> first | (simp [D.py] at q; rw [q]; done) | (simp [D.py] at q; done) | (simp [D.sh] at h; done)
  | .int b, e, _, _, _, h, q => by cases e <;> first | (simp [D.py] at q; rw [q]; done) | (simp [D.py] at q; done) | (simp [D.sh] at h; done)
  | .str b, e, _, _, _, h, q => by cases e <;> first | (simp [D.py] at q; rw [q]; done) | (simp [D.py] at q; done) | (simp [D.sh] at h; done)
  | .lst ds, e, n, m, g, h, q => by
    cases e <;> first | (simp [D.py] at q; done) | (simp [D.sh] at h; done) | skip
    rename_i es
    cases n with
    | zero => simp [D.sh] at g
    | succ n =>
      cases m with
      | zero => simp [D.sh] at h
      | succ m => rw [D.pys_inj ds es n m (by simpa [D.sh] using g) (by simpa [D.sh] using h) (by simpa [D.py] using q)]
  | .tup ds, e, n, m, g, h, q => by
    cases e <;> first | (simp [D.py] at q; done) | (simp [D.sh] at h; done) | skip
    rename_i es
    cases n with
    | zero => simp [D.sh] at g
    | succ n =>
      cases m with
      | zero => simp [D.sh] at h
      | succ m => rw [D.pys_inj ds es n m (by simpa [D.sh] using g) (by simpa [D.sh] using h) (by simpa [D.py] using q)]
  | .dK _ _, _, _, _, g, _, _ => by simp [D.sh] at g
  | .dT _ _, _, _, _, g, _, _ => by simp [D.sh] at g
  | .ins _ _ _, _, _, _, g, _, _ => by simp [D.sh] at g
  | .scr _, _, _, _, g, _, _ => by simp [D.sh] at g
theorem D.pys_inj : ∀ (ds es : List D) (n m : Nat), D.shs ds n = true → D.shs es m = true → D.pys ds = D.pys es → ds = es
  | [], [], _, _, _, _, _ => rfl
  | [], _ :: _, _, _, _, _, q => by simp [D.pys] at q
  | _ :: _, [], _, _, _, _, q => by simp [D.pys] at q
  | d :: ds, e :: es, n, m, g, h, q => by
    have g : (d.sh n && D.shs ds n) = true := g
    have h : (e.sh m && D.shs es m) = true := h
    rw [Bool.and_eq_true] at g h
    have q : d.py :: D.pys ds = e.py :: D.pys es := q
    injection q with q1 q2
    rw [D.py_inj d e n m g.1 h.1 q1, D.pys_inj ds es n m g.2 h.2 q2]
end
theorem pys_map : ∀ ds : List D, D.pys ds = ds.map D.py
  | [] => rfl
  | d :: ds => by rw [D.pys, pys_map ds]; rfl
theorem shs_all : ∀ (ds : List D) (n : Nat), D.shs ds n = true ↔ ∀ d ∈ ds, d.sh n = true
  | [], n => by simp [D.shs]
  | d :: ds, n => by simp [D.shs, shs_all ds]
def D.lt (a b : D) : Bool := PySem.W.dataLt a.py b.py
def D.alike (a b : D) : Bool := PySem.W.alike a.py b.py
def alk (ds : List D) : Bool := D.shs ds 60 && ds.all fun x => !x.isN && ds.all fun y => x.alike y
theorem alk_spec {ds : List D} (h : alk ds = true) : D.shs ds 60 = true ∧ PySem.W.AlikeAll (D.pys ds) := by
  unfold alk at h
  rw [Bool.and_eq_true] at h
  obtain ⟨h1, h2⟩ := h
  refine ⟨h1, fun x hx y hy => ?_, fun x hx => ?_⟩
  · rw [pys_map] at hx hy
    obtain ⟨a, ha, rfl⟩ := List.mem_map.mp hx
    obtain ⟨b, hb, rfl⟩ := List.mem_map.mp hy
    have q := List.all_eq_true.mp h2 a ha
    rw [Bool.and_eq_true] at q
    exact List.all_eq_true.mp q.2 b hb
  · rw [pys_map] at hx
    obtain ⟨a, ha, rfl⟩ := List.mem_map.mp hx
    have q := List.all_eq_true.mp h2 a ha
    rw [Bool.and_eq_true] at q
    rintro e
    have s := (shs_all ds 60).mp h1 a ha
    cases a <;> first | (simp [D.py] at e; done) | (simp [D.sh] at s; done) | (simp [D.isN] at q; done)
def lessOf (d : D) (ds : List D) : D := ds.foldl (fun a y => if y.lt a = true then y else a) d
def moreOf (d : D) (ds : List D) : D := ds.foldl (fun a y => if a.lt y = true then y else a) d
theorem lessOf_py : ∀ (ds : List D) (d : D), (lessOf d ds).py = PySem.W.minD d.py (D.pys ds)
  | [], _ => rfl
  | e :: ds, d => by
    show (lessOf (if e.lt d = true then e else d) ds).py = PySem.W.minD (if PySem.W.dataLt e.py d.py then e.py else d.py) (D.pys ds)
    rw [lessOf_py ds]
    congr 1
    unfold D.lt
    split <;> rfl
theorem moreOf_py : ∀ (ds : List D) (d : D), (moreOf d ds).py = PySem.W.maxD d.py (D.pys ds)
  | [], _ => rfl
  | e :: ds, d => by
    show (moreOf (if d.lt e = true then e else d) ds).py = PySem.W.maxD (if PySem.W.dataLt d.py e.py then e.py else d.py) (D.pys ds)
    rw [moreOf_py ds]
    congr 1
    unfold D.lt
    split <;> rfl
theorem lessOf_mem : ∀ (ds : List D) (d : D), lessOf d ds ∈ d :: ds
  | [], d => by simp [lessOf]
  | e :: ds, d => by
    have h := lessOf_mem ds (if e.lt d = true then e else d)
    show lessOf (if e.lt d = true then e else d) ds ∈ _
    rcases List.mem_cons.mp h with h | h
    · rw [h]; split <;> simp
    · simp [h]
theorem moreOf_mem : ∀ (ds : List D) (d : D), moreOf d ds ∈ d :: ds
  | [], d => by simp [moreOf]
  | e :: ds, d => by
    have h := moreOf_mem ds (if d.lt e = true then e else d)
    show moreOf (if d.lt e = true then e else d) ds ∈ _
    rcases List.mem_cons.mp h with h | h
    · rw [h]; split <;> simp
    · simp [h]
theorem vals_at : ∀ {vs : List V} {us : List Value} {i : Nat} {u : Value}, Vals vs us → us[i]? = some u → ∃ x, vs[i]? = some x ∧ RelV x u
  | _, _, _, _, .nil, e => by simp at e
  | _, _, 0, _, .cons r _, e => by simp at e; subst e; exact ⟨_, rfl, r⟩
  | _, _, i + 1, u, .cons _ t, e => by
    obtain ⟨x, h1, h2⟩ := vals_at (i := i) (u := u) t (by simpa using e)
    exact ⟨x, by simpa using h1, h2⟩
theorem readsAll_get {h : Heap} : ∀ {vs : List Value} {xs : List PyData} {as : List Addr} {i : Nat} {v : Value}, ReadsAll h vs xs as → vs[i]? = some v → ∃ d bs, xs[i]? = some d ∧ Reads h v d bs
  | _, _, _, _, _, .nil, e => by simp at e
  | _, _, _, 0, _, .cons r _, e => by simp at e; subst e; exact ⟨_, _, rfl, r⟩
  | _, _, _, i + 1, v, .cons _ t, e => by
    obtain ⟨d, bs, h1, h2⟩ := readsAll_get (i := i) (v := v) t (by simpa using e)
    exact ⟨d, bs, by simpa using h1, h2⟩
def rBest (K : PySem.W.Frag) (best : PyData → List PyData → PyData) : List V → Hp → VK → Prop := fun xs H Q => ∃ (a : Addr) (vs : List V) (y : PyData) (ys : List PyData), xs = [.ref a] ∧ H a = some (.lst vs) ∧ DpAll K H vs (y :: ys) ∧
  (∀ d ∈ y :: ys, d.canLay0 = true) ∧ PyData.depthAll (y :: ys) ≤ 60 ∧ PySem.W.AlikeAll (y :: ys) ∧ ∀ (i : Nat) x, vs[i]? = some x → (y :: ys)[i]? = some (best y ys) → Q x H
section
variable {X : Cx}
theorem best_fin {pins : List (Addr × Obj)} {s : Shared} {σ : L2.St} {H : Hp} {Q : VK} {a : Addr} {vs : List V} {its : List Value} {ds : List PyData} {as : List Addr} {b : PyData} (I : Inv X pins σ H s) (rv : Vals vs its) (hr : ReadsAll s.heap its ds as) (hl : ∀ d ∈ ds, d.canLay0 = true)
    (q : ∀ (i : Nat) x, vs[i]? = some x → ds[i]? = some b → Q x H) {i : Nat} {v : Value} {h' : Heap} {tk : Nat} {bs : List Addr} (e : its.toArray[i]? = some v) (r : Reads h' v b bs) (k : ∀ b o, s.heap.get? b = some o → h'.get? b = some o) : EP X pins σ Q v { s with heap := h', toks := tk } := by
  have e : its[i]? = some v := by simpa using e
  obtain ⟨x, h1, h2⟩ := vals_at rv e
  obtain ⟨d, cs, h3, h4⟩ := readsAll_get hr e
  have : d = b := PySem.SeqAt.Reads.unique d b v cs bs (hl d (List.mem_of_getElem? h3)) (PyProof.Rows.Reads.keeps k h4) r
  subst this
  exact ⟨x, H, I.kept k, h2, q i x h1 h3⟩
theorem cr_minG (hc : X.calm = true) (hu : X.A.units + 65 < cLine) : CallR X (.builtin "min") (rBest X.K PySem.W.minD) := by
  intro pins s σ H xs us Q I r h
  obtain ⟨a, vs, y, ys, rfl, hH, hd, hl, hdep, hal, q⟩ := h
  obtain ⟨its, rv, p, hz⟩ := I.list (.of hH)
  rw [Vals.ref1 r]
  obtain ⟨as, hr⟩ := Dp.readsAll I (y :: ys) vs its hd rv
  exact PySem.W.min_list_data (I.ok.hd hc) p.isList (by simpa using hr) hal (by omega) fun i v h' tk bs e r k => best_fin (a := a) I rv hr hl q e r k
theorem cr_maxG (hc : X.calm = true) (hu : X.A.units + 65 < cLine) : CallR X (.builtin "max") (rBest X.K PySem.W.maxD) := by
  intro pins s σ H xs us Q I r h
  obtain ⟨a, vs, y, ys, rfl, hH, hd, hl, hdep, hal, q⟩ := h
  obtain ⟨its, rv, p, hz⟩ := I.list (.of hH)
  rw [Vals.ref1 r]
  obtain ⟨as, hr⟩ := Dp.readsAll I (y :: ys) vs its hd rv
  exact PySem.W.max_list_data (I.ok.hd hc) p.isList (by simpa using hr) hal (by omega) fun i v h' tk bs e r k => best_fin (a := a) I rv hr hl q e r k
def rBestD (K : PySem.W.Frag) (best : PyData → List PyData → PyData) : List V → List V → Hp → VK → Prop := fun xs zs H Q => ∃ (a : Addr) (vs : List V) (ds : List PyData) (z : V), xs = [.ref a] ∧ zs = [z] ∧ H a = some (.lst vs) ∧ DpAll K H vs ds ∧
  (∀ d ∈ ds, d.canLay0 = true) ∧ PyData.depthAll ds ≤ 60 ∧ PySem.W.AlikeAll ds ∧ (ds = [] → Q z H) ∧ ∀ (y : PyData) (ys : List PyData) (i : Nat) x, ds = y :: ys → vs[i]? = some x → ds[i]? = some (best y ys) → Q x H
theorem cr_minDf (hc : X.calm = true) (hu : X.A.units + 65 < cLine) : CallRK X (.builtin "min") ["default"] (rBestD X.K PySem.W.minD) := by
  intro pins s σ H xs zs us ws Q I r rz h
  obtain ⟨a, vs, ds, z, rfl, rfl, hH, hd, hl, hdep, hal, q0, q⟩ := h
  obtain ⟨its, rv, p, hz⟩ := I.list (.of hH)
  rw [Vals.ref1 r]
  obtain ⟨zv, rfl, rz1⟩ := Vals.one rz
  obtain ⟨as, hr⟩ := Dp.readsAll I ds vs its hd rv
  exact PySem.W.min_list_default (I.ok.hd hc) p.isList (by simpa using hr) hal (by omega) (fun e h' tk k => ⟨z, H, I.kept k, rz1, q0 e⟩) fun y ys i v h' tk bs e0 e r k => best_fin (a := a) I rv hr hl (fun i x h1 h2 => q y ys i x e0 h1 h2) e r k
theorem cr_maxDf (hc : X.calm = true) (hu : X.A.units + 65 < cLine) : CallRK X (.builtin "max") ["default"] (rBestD X.K PySem.W.maxD) := by
  intro pins s σ H xs zs us ws Q I r rz h
  obtain ⟨a, vs, ds, z, rfl, rfl, hH, hd, hl, hdep, hal, q0, q⟩ := h
  obtain ⟨its, rv, p, hz⟩ := I.list (.of hH)
  rw [Vals.ref1 r]
  obtain ⟨zv, rfl, rz1⟩ := Vals.one rz
  obtain ⟨as, hr⟩ := Dp.readsAll I ds vs its hd rv
  exact PySem.W.max_list_default (I.ok.hd hc) p.isList (by simpa using hr) hal (by omega) (fun e h' tk k => ⟨z, H, I.kept k, rz1, q0 e⟩) fun y ys i v h' tk bs e0 e r k => best_fin (a := a) I rv hr hl (fun i x h1 h2 => q y ys i x e0 h1 h2) e r k
def rSortG (K : PySem.W.Frag) : List V → Hp → VK → Prop := fun xs H Q => ∃ (a : Addr) (vs : List V) (ds : List PyData), xs = [.ref a] ∧ H a = some (.lst vs) ∧ DpAll K H vs ds ∧ PySem.W.AllAlike ds ∧ PySem.W.Sortable ds ∧ (∀ d ∈ ds, d.depth ≤ 60) ∧
  ∀ p, H p = none → Q (.ref p) (upd H p (.lst (((vs.zip ds).mergeSort (PySem.W.dataLe false Prod.snd)).map Prod.fst)))
theorem each_zip {h : Heap} : ∀ {vs : List V} {us : List Value} {ds : List PyData} {as : List Addr}, Vals vs us → ReadsAll h us ds as → PySem.W.EachIs (fun (u : Value) (z : V × PyData) => RelV z.1 u) us (vs.zip ds) ∧ PySem.W.EachIs (fun (u : Value) (z : V × PyData) => ∃ as, Reads h u z.2 as) us (vs.zip ds) ∧ (vs.zip ds).map Prod.snd = ds ∧ (vs.zip ds).length = vs.length
  | _, _, _, _, .nil, r => by
    cases r
    exact ⟨.nil, .nil, rfl, rfl⟩
  | _, _, _, _, .cons r t, q => by
    cases q with
    | cons q1 q2 =>
      obtain ⟨h1, h2, h3, h4⟩ := each_zip t q2
      exact ⟨.cons r h1, .cons ⟨_, q1⟩ h2, by rw [List.zip_cons_cons, List.map_cons, h3], by rw [List.zip_cons_cons, List.length_cons, List.length_cons, h4]⟩
theorem each_vals : ∀ {us : List Value} {zs : List (V × PyData)}, PySem.W.EachIs (fun (u : Value) (z : V × PyData) => RelV z.1 u) us zs → Vals (zs.map Prod.fst) us
  | _, _, .nil => .nil
  | _, _, .cons r t => .cons r (each_vals t)
theorem cr_sortG (hu : X.A.units + 65 < cLine) : CallR X (.builtin "sorted") (rSortG X.K) := by
  intro pins s σ H xs us Q I r h
  obtain ⟨a, vs, ds, rfl, hH, hd, hal, hk, hdep, q⟩ := h
  obtain ⟨its, rv, p, hz⟩ := I.list (.of hH)
  rw [Vals.ref1 r]
  obtain ⟨as, hr⟩ := Dp.readsAll I ds vs its hd rv
  obtain ⟨e1, e2, e3, e4⟩ := each_zip rv hr
  refine PySem.W.sorted_data (bs := vs.zip ds) (enc := Prod.snd) p.isList e1 e2 (by rw [e3]; exact hal) (by rw [e3]; exact hk) (by rw [e4]; exact hz) (fun b hb => ?_) fun out ho eo => ?_
  · have := hdep b.2 (by rw [← e3]; exact List.mem_map_of_mem hb)
    omega
  · obtain ⟨ep, he'⟩ := PyProof.Rows.sortedAll_at s.heap its out.toArray
    have hlen : (((vs.zip ds).mergeSort (PySem.W.dataLe false Prod.snd)).map Prod.fst).length ≤ sizeLine := by
      rw [List.length_map, List.length_mergeSort, e4]; exact hz
    exact ⟨.ref _, upd H (s.heap.objs.size + 1) (.lst _), I.laid (t' := s.toks) (fun _ _ => PyProof.Rows.sortedAll_old) (Nat.le_succ _) ⟨hlen, out, ep, each_vals eo, he'⟩, rfl, q _ (I.hok.fresh (Nat.le_succ _))⟩
end
section
variable {G : Gb} {W : WX} {ι : Type} {X : ι → Cx}
theorem DpAll.len {K : PySem.W.Frag} {H : Hp} : ∀ {vs : List V} {ds : List PyData}, DpAll K H vs ds → vs.length = ds.length
  | _, _, .nil => rfl
  | _, _, .cons _ t => by rw [List.length_cons, List.length_cons, DpAll.len t]
def lessO : List D → Option D
  | d :: ds => some (lessOf d ds)
  | [] => none
def moreO : List D → Option D
  | d :: ds => some (moreOf d ds)
  | [] => none
def minU : List D → Option D
  | [.lst ds] => match asInts ds with
    | some (n :: r) => some (.int (le' n r))
    | _ => if alk ds = true then lessO ds else none
  | _ => none
def maxU : List D → Option D
  | [.lst ds] => match asInts ds with
    | some (n :: r) => some (.int (gr n r))
    | _ => if alk ds = true then moreO ds else none
  | _ => none
theorem best_of {K : PySem.W.Frag} {H : Hp} {O : AS} {d : D} {ds : List D} {vs : List V} {b : D} {bp : PyData} (r : Reps G H O (d :: ds) vs) (ha : alk (d :: ds) = true) (hm : b ∈ d :: ds) (e : b.py = bp) {i : Nat} {x : V} (h1 : vs[i]? = some x) (h2 : (D.pys (d :: ds))[i]? = some bp) : Rep G H O b x := by
  obtain ⟨hs, _⟩ := alk_spec ha
  rw [pys_map, List.getElem?_map] at h2
  cases q : (d :: ds)[i]? with
  | none => rw [q] at h2; cases h2
  | some c =>
    rw [q] at h2
    have h2 : c.py = bp := Option.some.inj h2
    obtain ⟨v, h3, h4⟩ := r.get q
    rw [h1] at h3; cases h3
    have : c = b := D.py_inj c b 60 60 ((shs_all _ _).mp hs c (List.mem_of_getElem? q)) ((shs_all _ _).mp hs b hm) (h2.trans e.symm)
    rw [← this]; exact h4
theorem alk_lay {ds : List D} (h : alk ds = true) : (∀ d ∈ D.pys ds, d.canLay0 = true) ∧ PyData.depthAll (D.pys ds) ≤ 60 := by
  obtain ⟨hs, _⟩ := alk_spec h
  refine ⟨fun d hd => ?_, (D.shs_lay ds 60 hs).2⟩
  rw [pys_map] at hd
  obtain ⟨a, ha, rfl⟩ := List.mem_map.mp hd
  exact (D.sh_lay a 60 ((shs_all _ _).mp hs a ha)).1
theorem cs_minU : CallS G (fun xs H Q => rMin G.K xs H Q ∨ rBest G.K PySem.W.minD xs H Q) minU false := by
  intro H O ds vs Q hO k d e h
  match ds, e with
  | [.lst ds], e =>
    by_cases hi : ∃ n r, asInts ds = some (n :: r)
    · obtain ⟨n, r, hi⟩ := hi
      refine .inl (cs_min H O _ _ Q hO k d ?_ fun v H' s q _ => h v H' s q fun z => nomatch z)
      simpa [minU, minD, hi] using e
    · obtain ⟨v, rfl, a, xs, rfl, h1, r⟩ := kids1 k
      have e : (if alk ds = true then lessO ds else none) = some d := by
        have e : (match asInts ds with
          | some (n :: r) => some (D.int (le' n r))
          | _ => if alk ds = true then lessO ds else none) = some d := e
        split at e
        · rename_i n r q; exact absurd ⟨n, r, q⟩ hi
        · exact e
      by_cases ha : alk ds = true
      · rw [if_pos ha] at e
        cases ds with
        | nil => cases e
        | cons c cs =>
          cases e
          obtain ⟨l1, l2⟩ := alk_lay ha
          refine .inr ⟨a, xs, c.py, D.pys cs, rfl, h1, Reps.dp (c :: cs) 60 xs (alk_spec ha).1 r, l1, l2, (alk_spec ha).2, fun i x e1 e2 => ?_⟩
          exact h x H (Same.refl H) (best_of (K := G.K) r ha (lessOf_mem cs c) (lessOf_py cs c) e1 e2) fun z => nomatch z
      · rw [if_neg ha] at e; cases e
theorem cs_maxU : CallS G (fun xs H Q => rMax G.K xs H Q ∨ rBest G.K PySem.W.maxD xs H Q) maxU false := by
  intro H O ds vs Q hO k d e h
  match ds, e with
  | [.lst ds], e =>
    by_cases hi : ∃ n r, asInts ds = some (n :: r)
    · obtain ⟨n, r, hi⟩ := hi
      refine .inl (cs_max H O _ _ Q hO k d ?_ fun v H' s q _ => h v H' s q fun z => nomatch z)
      simpa [maxU, maxD, hi] using e
    · obtain ⟨v, rfl, a, xs, rfl, h1, r⟩ := kids1 k
      have e : (if alk ds = true then moreO ds else none) = some d := by
        have e : (match asInts ds with
          | some (n :: r) => some (D.int (gr n r))
          | _ => if alk ds = true then moreO ds else none) = some d := e
        split at e
        · rename_i n r q; exact absurd ⟨n, r, q⟩ hi
        · exact e
      by_cases ha : alk ds = true
      · rw [if_pos ha] at e
        cases ds with
        | nil => cases e
        | cons c cs =>
          cases e
          obtain ⟨l1, l2⟩ := alk_lay ha
          refine .inr ⟨a, xs, c.py, D.pys cs, rfl, h1, Reps.dp (c :: cs) 60 xs (alk_spec ha).1 r, l1, l2, (alk_spec ha).2, fun i x e1 e2 => ?_⟩
          exact h x H (Same.refl H) (best_of (K := G.K) r ha (moreOf_mem cs c) (moreOf_py cs c) e1 e2) fun z => nomatch z
      · rw [if_neg ha] at e; cases e
theorem alike_lay {ds : List D} (h : D.shs ds 60 = true) : ∀ d ∈ D.pys ds, d.depth ≤ 60 := fun d hd => by
  rw [pys_map] at hd
  obtain ⟨a, ha, rfl⟩ := List.mem_map.mp hd
  exact (D.sh_lay a 60 ((shs_all _ _).mp h a ha)).2
def minDf : List D → Option D
  | [.lst []] => some .non
  | [.lst (d :: ds)] => if alk (d :: ds) = true then some (lessOf d ds) else none
  | _ => none
def maxDf : List D → Option D
  | [.lst []] => some .non
  | [.lst (d :: ds)] => if alk (d :: ds) = true then some (moreOf d ds) else none
  | _ => none
theorem cs_minDf {H : Hp} {O : AS} {ds : List D} {vs : List V} {Q : VK} (k : Kids G H O ds vs) {d : D} (e : minDf ds = some d) (h : ∀ v H', Same H H' → Rep G H' O d v → Q v H') : rBestD G.K PySem.W.minD vs [.non] H Q := by
  match ds, e with
  | [.lst []], e =>
    obtain ⟨v, rfl, a, xs, rfl, h1, r⟩ := kids1 k
    cases e
    rw [show xs = [] from r] at h1
    exact ⟨a, [], [], .non, rfl, rfl, h1, .nil, fun _ z => (by cases z), by simp [PyData.depthAll], ⟨fun _ z => (by cases z), fun _ z => (by cases z)⟩, fun _ => h _ H (Same.refl H) rfl, fun y ys i x z => (by cases z)⟩
  | [.lst (c :: cs)], e =>
    obtain ⟨v, rfl, a, xs, rfl, h1, r⟩ := kids1 k
    simp only [minDf] at e
    by_cases ha : alk (c :: cs) = true
    · rw [if_pos ha] at e
      cases e
      obtain ⟨l1, l2⟩ := alk_lay ha
      refine ⟨a, xs, D.pys (c :: cs), .non, rfl, rfl, h1, Reps.dp (c :: cs) 60 xs (alk_spec ha).1 r, l1, l2, (alk_spec ha).2, fun z => by simp [D.pys] at z, fun y ys i x ey e1 e2 => ?_⟩
      have ey : c.py :: D.pys cs = y :: ys := ey
      injection ey with ey1 ey2
      subst ey1 ey2
      exact h x H (Same.refl H) (best_of (K := G.K) r ha (lessOf_mem cs c) (lessOf_py cs c) e1 e2)
    · rw [if_neg ha] at e; cases e
theorem cs_maxDf {H : Hp} {O : AS} {ds : List D} {vs : List V} {Q : VK} (k : Kids G H O ds vs) {d : D} (e : maxDf ds = some d) (h : ∀ v H', Same H H' → Rep G H' O d v → Q v H') : rBestD G.K PySem.W.maxD vs [.non] H Q := by
  match ds, e with
  | [.lst []], e =>
    obtain ⟨v, rfl, a, xs, rfl, h1, r⟩ := kids1 k
    cases e
    rw [show xs = [] from r] at h1
    exact ⟨a, [], [], .non, rfl, rfl, h1, .nil, fun _ z => (by cases z), by simp [PyData.depthAll], ⟨fun _ z => (by cases z), fun _ z => (by cases z)⟩, fun _ => h _ H (Same.refl H) rfl, fun y ys i x z => (by cases z)⟩
  | [.lst (c :: cs)], e =>
    obtain ⟨v, rfl, a, xs, rfl, h1, r⟩ := kids1 k
    simp only [maxDf] at e
    by_cases ha : alk (c :: cs) = true
    · rw [if_pos ha] at e
      cases e
      obtain ⟨l1, l2⟩ := alk_lay ha
      refine ⟨a, xs, D.pys (c :: cs), .non, rfl, rfl, h1, Reps.dp (c :: cs) 60 xs (alk_spec ha).1 r, l1, l2, (alk_spec ha).2, fun z => by simp [D.pys] at z, fun y ys i x ey e1 e2 => ?_⟩
      have ey : c.py :: D.pys cs = y :: ys := ey
      injection ey with ey1 ey2
      subst ey1 ey2
      exact h x H (Same.refl H) (best_of (K := G.K) r ha (moreOf_mem cs c) (moreOf_py cs c) e1 e2)
    · rw [if_neg ha] at e; cases e
theorem sim_kw {r : List V → List V → Hp → VK → Prop} {op : List D → Option D} {t : TA} {f : FA} {ft fc : List Nat} (hs : ∀ {H : Hp} {O : AS} {ds : List D} {vs : List V} {Q : VK}, Kids G H O ds vs → ∀ {d : D}, op ds = some d → (∀ v H', Same H H' → Rep G H' O d v → Q v H') → r vs [.non] H Q)
    (h : SimA G W t f ft fc) : SimE G W (tCKw r t (tCons (tC .non) tNil)) (eCall op f) fc fc false := fun B H0 ρ σ H rl Q hq => by
  unfold eCall at hq
  refine h B H0 ρ σ H rl _ ?_
  cases e1 : f ρ with
  | no => rw [e1] at hq; exact hq
  | ex x => rw [e1] at hq; exact hq
  | ok ds =>
    rw [e1] at hq
    intro vs H1 s1 _ k
    simp only [PD.R.bind_ok] at hq
    cases eo : op ds with
    | none => rw [eo] at hq; exact hq.elim
    | some d =>
      rw [eo] at hq
      exact hs k eo fun v H2 s2 q => hq v H2 (s1.trans s2) (RepX.of q (fun _ z => z) (fun _ z => z) fun z => nomatch z)
def sortG (ds : List D) : List D := ds.mergeSort fun a b => !b.lt a
def srtOk (ds : List D) : Bool := D.shs ds 60 && (ds.all fun x => ds.all fun y => x.alike y) && ((ds.all fun x => match x with | .tup (_ :: _) => true | _ => false) || ds.all fun x => match x with | .tup _ => false | .non => false | _ => true)
def sortedU : List D → Option D
  | [.lst ds] => match asInts ds with
    | some ns => some (.lst ((sortI ns).map D.int))
    | none => if srtOk ds = true then some (.lst (sortG ds)) else none
  | _ => none
theorem srt_spec {ds : List D} (h : srtOk ds = true) : D.shs ds 60 = true ∧ PySem.W.AllAlike (D.pys ds) ∧ PySem.W.Sortable (D.pys ds) := by
  unfold srtOk at h
  rw [Bool.and_eq_true, Bool.and_eq_true] at h
  obtain ⟨⟨h1, h2⟩, h3⟩ := h
  refine ⟨h1, fun x hx y hy => ?_, ?_⟩
  · rw [pys_map] at hx hy
    obtain ⟨a, ha, rfl⟩ := List.mem_map.mp hx
    obtain ⟨b, hb, rfl⟩ := List.mem_map.mp hy
    exact List.all_eq_true.mp (List.all_eq_true.mp h2 a ha) b hb
  · rw [Bool.or_eq_true] at h3
    rcases h3 with h3 | h3
    · refine .inl fun x hx => ?_
      rw [pys_map] at hx
      obtain ⟨a, ha, rfl⟩ := List.mem_map.mp hx
      have q := List.all_eq_true.mp h3 a ha
      split at q
      · exact ⟨_, _, rfl⟩
      · cases q
    · refine .inr fun x hx => ?_
      rw [pys_map] at hx
      obtain ⟨a, ha, rfl⟩ := List.mem_map.mp hx
      have q := List.all_eq_true.mp h3 a ha
      have s := (shs_all ds 60).mp h1 a ha
      cases a <;> first | (simp at q; done) | (simp [D.sh] at s; done) | exact ⟨fun z => (nomatch z), fun _ z => (nomatch z)⟩
theorem reps_zip {H : Hp} {O : AS} : ∀ {ds : List D} {vs : List V}, Reps G H O ds vs → (∀ z ∈ vs.zip ds, Rep G H O z.2 z.1) ∧ (vs.zip ds).map Prod.snd = ds ∧ (vs.zip ds).map (fun z => (z.1, z.2.py)) = vs.zip (D.pys ds)
  | [], _, r => by rw [show _ = [] from r]; exact ⟨fun _ z => (by cases z), rfl, rfl⟩
  | d :: ds, _, ⟨v, r, e, r1, r2⟩ => by
    subst e
    obtain ⟨h1, h2, h3⟩ := reps_zip r2
    refine ⟨fun z hz => ?_, by rw [List.zip_cons_cons, List.map_cons, h2], by rw [List.zip_cons_cons, List.map_cons, h3]; rfl⟩
    rw [List.zip_cons_cons] at hz
    rcases List.mem_cons.mp hz with e | hz
    · rw [e]; exact r1
    · exact h1 z hz
theorem reps_of_zip {H : Hp} {O : AS} : ∀ {zs : List (V × D)}, (∀ z ∈ zs, Rep G H O z.2 z.1) → Reps G H O (zs.map Prod.snd) (zs.map Prod.fst)
  | [], _ => rfl
  | z :: zs, h => ⟨z.1, _, rfl, h z List.mem_cons_self, reps_of_zip fun y hy => h y (List.mem_cons_of_mem _ hy)⟩
theorem reps_sort {H : Hp} {O : AS} {ds : List D} {vs : List V} (r : Reps G H O ds vs) : Reps G H O (sortG ds) (((vs.zip (D.pys ds)).mergeSort (PySem.W.dataLe false Prod.snd)).map Prod.fst) := by
  obtain ⟨h1, h2, h3⟩ := reps_zip r
  have e1 : (vs.zip (D.pys ds)).mergeSort (PySem.W.dataLe false Prod.snd) = ((vs.zip ds).mergeSort (fun a b => !b.2.lt a.2)).map (fun z => (z.1, z.2.py)) := by
    rw [← h3]
    exact (List.map_mergeSort (fun a _ b _ => by rw [PySem.W.dataLe_eq]; rfl)).symm
  have e2 : sortG ds = ((vs.zip ds).mergeSort (fun a b => !b.2.lt a.2)).map Prod.snd := by
    unfold sortG
    rw [← h2]
    have e := List.map_mergeSort (f := Prod.snd) (l := vs.zip ds) (r := fun a b : V × D => !b.2.lt a.2) (s := fun a b : D => !b.lt a) (fun a _ b _ => rfl)
    rw [h2] at e ⊢
    exact e.symm
  rw [e1, e2, List.map_map]
  exact reps_of_zip fun z hz => h1 z ((List.mergeSort_perm _ _).mem_iff.mp hz)
theorem cs_sortU : CallS G (fun xs H Q => rSortedI G.K xs H Q ∨ rSortG G.K xs H Q) sortedU true := by
  intro H O ds vs Q hO k d e h
  match ds, e with
  | [.lst ds], e =>
    simp only [sortedU] at e
    cases hi : asInts ds with
    | some ns =>
      rw [hi] at e
      refine .inl (cs_sorted H O _ _ Q hO k d ?_ h)
      simpa [sortedD, hi] using e
    | none =>
      rw [hi] at e
      simp only at e
      by_cases ha : srtOk ds = true
      · rw [if_pos ha] at e
        cases e
        obtain ⟨v, rfl, a, xs, rfl, h1, r⟩ := kids1 k
        obtain ⟨s1, s2, s3⟩ := srt_spec ha
        refine .inr ⟨a, xs, D.pys ds, rfl, h1, Reps.dp ds 60 xs s1 r, s2, s3, alike_lay s1, fun p hp => ?_⟩
        obtain ⟨n, fr⟩ := new_list hO hp (reps_sort r)
        exact h _ _ (same_new hp) n fun _ => fr
      · rw [if_neg ha] at e; cases e
end
end PD
set_option autoImplicit false
namespace PD
open PySem PySem.Spec PyProof.Rows L2
section
variable {ι : Type} {X : ι → Cx} {G : Gb} {W : WX} {P : Program} {w : World} {base : Heap} {k : Nat}
theorem CallR.or' {X : Cx} {f : Value} {r r' : List V → Hp → VK → Prop} (h : CallR X f r) (h' : CallR X f r') : CallR X f (fun xs H Q => r xs H Q ∨ r' xs H Q) := fun pins s σ H xs us Q I rv q => q.elim (h pins s σ H xs us Q I rv) (h' pins s σ H xs us Q I rv)
section
variable {e : Expr} {es : List Expr} {f : FA} {ft fc : List Nat} {p pos : Pos}
theorem Ctx.minU (c : Ctx X G W P w base k) (hm : G.mg "min" = none) (ha : PAD X G W (e :: es) f ft fc) (hg : GlX X "min" := by exact fun _ => rfl) (he : SE X e es := by exact fun _ => rfl) (hpl : SP' X pos es := by exact fun _ => rfl) : PD X G W (.Call (.Name "min" p) (e :: es) [] pos) (eCall PD.minU f) fc fc false :=
  pd_callB c.g cs_minU (fun i => CallR.or' (cr_min' c.g i) (by rw [← c.g.k i]; exact cr_minG (c.g.calm i) (c.hu i))) (by decide +kernel) hm hg ha (by decide) (by decide) he hpl
theorem Ctx.maxU (c : Ctx X G W P w base k) (hm : G.mg "max" = none) (ha : PAD X G W (e :: es) f ft fc) (hg : GlX X "max" := by exact fun _ => rfl) (he : SE X e es := by exact fun _ => rfl) (hpl : SP' X pos es := by exact fun _ => rfl) : PD X G W (.Call (.Name "max" p) (e :: es) [] pos) (eCall PD.maxU f) fc fc false :=
  pd_callB c.g cs_maxU (fun i => CallR.or' (cr_max' c.g i) (by rw [← c.g.k i]; exact cr_maxG (c.g.calm i) (c.hu i))) (by decide +kernel) hm hg ha (by decide) (by decide) he hpl
theorem Ctx.sortedU (c : Ctx X G W P w base k) (hm : G.mg "sorted" = none) (ha : PAD X G W (e :: es) f ft fc) (hg : GlX X "sorted" := by exact fun _ => rfl) (he : SE X e es := by exact fun _ => rfl) (hpl : SP' X pos es := by exact fun _ => rfl) : PD X G W (.Call (.Name "sorted" p) (e :: es) [] pos) (eCall PD.sortedU f) fc fc true :=
  pd_callB c.g cs_sortU (fun i => CallR.or' (cr_sorted' c.g i) (by rw [← c.g.k i]; exact cr_sortG (c.hu i))) (by decide +kernel) hm hg ha (by decide) (by decide) he hpl
theorem Ctx.minDf {kp p3 : Pos} {j : Nat} (c : Ctx X G W P w base k) (hm : G.mg "min" = none) (ha : PAD X G W [e] f ft fc) (hg : GlX X "min" := by exact fun _ => rfl)
    (he : ∀ i, backTo pos (starEach [e] (X i).env) = (false, eval e (X i).env) :: backTo pos (starEach [] (X i).env) := by exact fun _ => rfl) (hpl : ∀ i, (backTo pos (starEach [e] (X i).env)).any (·.1) = false := by exact fun _ => rfl)
    (hall : ∀ i, (backToKw pos (keywordEach [⟨some "default", .Constant .none j p3, kp⟩] (X i).env)).all (·.1.isSome) = true := by exact fun _ => rfl) (hnone : ∀ i, (backToKw pos (keywordEach [⟨some "default", .Constant .none j p3, kp⟩] (X i).env)).any (·.1.isNone) = false := by exact fun _ => rfl)
    (hks : ∀ i, (backToKw pos (keywordEach [⟨some "default", .Constant .none j p3, kp⟩] (X i).env)).filterMap (·.1) = ([("default" : Str)] : List Str) := by exact fun _ => rfl) :
    PD X G W (.Call (.Name "min" p) [e] [⟨some "default", .Constant .none j p3, kp⟩] pos) (eCall PD.minDf f) fc fc false := by
  obtain ⟨t, h1, h2, _⟩ := ha
  refine ⟨_, fun i => ?_, sim_kw (G := G) cs_minDf h2⟩
  rw [← c.g.k i]
  exact pe_callBK (cr_minDf (c.g.calm i) (c.hu i)) (hg i) (by rw [c.g.m]; exact hm) (by decide +kernel) (h1 i) (pk_cons pe_non pk_nil) (by decide) (by decide) (he i) (hpl i) (hall i) (hnone i) (hks i)
theorem Ctx.maxDf {kp p3 : Pos} {j : Nat} (c : Ctx X G W P w base k) (hm : G.mg "max" = none) (ha : PAD X G W [e] f ft fc) (hg : GlX X "max" := by exact fun _ => rfl)
    (he : ∀ i, backTo pos (starEach [e] (X i).env) = (false, eval e (X i).env) :: backTo pos (starEach [] (X i).env) := by exact fun _ => rfl) (hpl : ∀ i, (backTo pos (starEach [e] (X i).env)).any (·.1) = false := by exact fun _ => rfl)
    (hall : ∀ i, (backToKw pos (keywordEach [⟨some "default", .Constant .none j p3, kp⟩] (X i).env)).all (·.1.isSome) = true := by exact fun _ => rfl) (hnone : ∀ i, (backToKw pos (keywordEach [⟨some "default", .Constant .none j p3, kp⟩] (X i).env)).any (·.1.isNone) = false := by exact fun _ => rfl)
    (hks : ∀ i, (backToKw pos (keywordEach [⟨some "default", .Constant .none j p3, kp⟩] (X i).env)).filterMap (·.1) = ([("default" : Str)] : List Str) := by exact fun _ => rfl) :
    PD X G W (.Call (.Name "max" p) [e] [⟨some "default", .Constant .none j p3, kp⟩] pos) (eCall PD.maxDf f) fc fc false := by
  obtain ⟨t, h1, h2, _⟩ := ha
  refine ⟨_, fun i => ?_, sim_kw (G := G) cs_maxDf h2⟩
  rw [← c.g.k i]
  exact pe_callBK (cr_maxDf (c.g.calm i) (c.hu i)) (hg i) (by rw [c.g.m]; exact hm) (by decide +kernel) (h1 i) (pk_cons pe_non pk_nil) (by decide) (by decide) (he i) (hpl i) (hall i) (hnone i) (hks i)
end
theorem get_list {X : Cx} : PGet X (rIxL X.K) := by
  intro pins s σ H x y v u Q I rx ry h
  obtain ⟨p, xs, i, z, rfl, rfl, hq, ha, q⟩ := h
  cases rx
  obtain ⟨t, rfl⟩ := ry
  obtain ⟨its, r, pl, hz⟩ := I.list hq
  obtain ⟨j, h1, h2, h3, h4, h5⟩ := atI_get ha
  obtain ⟨u, ew, ru⟩ := r.get h2
  have hl := r.length
  have hn := line63
  have fin : EP X pins σ Q u s := ⟨z, H, I, ru, q⟩
  by_cases h0 : 0 ≤ i
  · have hj : i.toNat = j := by
      rw [seqIndex_of h0 h5] at h1
      exact Option.some.inj h1
    exact wpAny_getItem_list pl.isList h0 (by omega) (by rw [hj]; simpa using ew) fin
  · have hj : (i + (its.toArray.size : Int)).toNat = j := by
      rw [seqIndex_neg (by omega) h4] at h1
      rw [List.size_toArray, ← hl]
      exact Option.some.inj h1
    exact wpAny_getItem_list_neg pl.isList (by omega) (by rw [List.size_toArray] <;> omega) (by omega) (by rw [hj]; simpa using ew) fin
def sAugIx (i : Nat) (op : Int → Int → Int) (g f : FE) : FS := fun ρ => match ρ[i]? with
  | some (.ow (.lst ds)) => (match g ρ with
    | .ok (.int k) => (match atI ds k with
      | some (.int a) => (match f ρ with
        | .ok (.int b) => (match ixN ds.length k with
          | some j => .nx (ρ.set i (.ow (.lst (ds.set j (.int (op a b))))))
          | none => .no)
        | .ok _ => .no
        | .ex e => .ex e ρ
        | .no => .no)
      | _ => .no)
    | .ok _ => .no
    | .ex e => .ex e ρ
    | .no => .no)
  | _ => .no
theorem psd_augIx {i : Nat} {x : Str} {e ix : Expr} {f k : FE} {ft fc kt kc : List Nat} {nw nwk nwr : Bool} {op : Operator} {o : Int → Int → Int} {pa p2 pos : Pos} (gd : Good X G) (h : PD X G W e f ft fc nw) (h' : PD X G W ix k kt kc nwk) (hp : ∀ j, PIp (X j) op (ipI o)) (hN : ∀ j, (X j).N[i]? = some x := by exact fun _ => rfl) (hv : ∀ j, Vis (X j).env.scope x := by first | exact fun _ => Or.inl rfl | exact fun _ => Or.inr (Or.inl rfl) | exact fun _ => Or.inr (Or.inr rfl))
    (hd : (x == ("__debug__" : Str)) = false := by decide) (hcd : (x == ("__classdict__" : Str)) = false := by decide)
    (haug : ∀ ov iv new, augStore ix ov iv new = (do holding [new, ov, iv] (setItem ov iv new); release [new, ov, iv] []; pure .next) := by intros; rfl) :
    PSD X G W (.AugAssign (.Subscript (.Name x pa) ix p2) op e pos) (sAugIx i o k f) nwr := by
  obtain ⟨t, t1, t2⟩ := h
  obtain ⟨u, u1, u2⟩ := h'
  refine ⟨_, fun j => ps_augS (pe_var (hN j) (hv j) hd hcd) (u1 j) (by have := get_list (X := X j); rw [gd.k j] at this; exact this) (t1 j) (hp j) set_list haug, fun B H0 ρ σ H rl D hq => ?_⟩
  unfold sAugIx at hq
  cases es : ρ[i]? with
  | none => rw [es] at hq; exact hq.elim
  | some sl =>
    rw [es] at hq
    cases sl with
    | no => exact hq.elim
    | sh _ => exact hq.elim
    | ow x =>
      cases x <;> first | exact False.elim hq | skip
      rename_i ds
      simp only at hq
      obtain ⟨a, e1, -⟩ := rl.ow es
      refine ⟨.ref a, e1, ?_⟩
      refine u2 B H0 ρ σ H rl _ ?_
      cases e2 : k ρ with
      | no => rw [e2] at hq; exact hq
      | ex x => rw [e2] at hq; exact fun cls dd H' s q => hq cls dd σ H' (rl.same s) q
      | ok kd =>
        rw [e2] at hq
        intro kv H2 s2 x2
        cases kd <;> first | exact False.elim hq | skip
        rename_i kk
        simp only at hq
        cases e3 : atI ds kk with
        | none => rw [e3] at hq; exact hq.elim
        | some d3 =>
          rw [e3] at hq
          cases d3 <;> first | exact False.elim hq | skip
          rename_i av
          simp only at hq
          have r2 := rl.same s2
          obtain ⟨a', f1, ⟨xs', f2, f3⟩, f4⟩ := r2.ow es
          rw [e1] at f1; cases f1
          obtain ⟨w, h2, h3⟩ := f3.at e3
          have h3 : w = V.int av := h3
          subst h3
          refine ⟨a, xs', kk, _, rfl, x2.top, .of f2, h2, t2 B H0 ρ σ H2 r2 _ ?_⟩
          cases e4 : f ρ with
          | no => rw [e4] at hq; exact hq
          | ex x => rw [e4] at hq; exact fun cls dd H' s q => hq cls dd σ H' (r2.same s) q
          | ok bd =>
            rw [e4] at hq
            intro bv H4 s4 x4
            cases bd <;> first | exact False.elim hq | skip
            rename_i b
            simp only at hq
            cases ej : ixN ds.length kk with
            | none => rw [ej] at hq; exact hq.elim
            | some j =>
              rw [ej] at hq
              simp only at hq
              have r4 := r2.same s4
              obtain ⟨a', f1, ⟨xs', f2, f3⟩, f4⟩ := r4.ow es
              rw [e1] at f1; cases f1
              refine ⟨av, b, rfl, x4.top, a, xs', kk, j, rfl, x2.top, f2, by rw [← f3.length]; exact ej, hq _ _ (r4.wr es e1 fun O H5 k1 k2 eH => ?_)⟩
              exact ⟨xs'.set j (V.int (o av b)), by rw [eH]; exact upd_same, (k2 _ _ f3).set j rfl⟩
end
end PD
set_option autoImplicit false
namespace PD
open PySem PySem.Spec PyProof.Rows L2
theorem fun_of {K : PySem.W.Frag} {x qual : Str} {st : Stmt} {kws : List (Str × V)} {f : Addr} {fd : FuncData} (F : FunD K x qual (defArgs st) (defBody st) (defScope st) [] kws f fd) : Fun K x qual st f fd := by
  obtain ⟨⟨oc, od, dV, kV, doc, pm, an, cdv, ct, osl, h1, h2, hcd, hD, hK⟩, kp⟩ := F
  rcases hD with ⟨_, rfl⟩ | ⟨e, _⟩
  · exact ⟨⟨oc, od, kV, doc, pm, an, cdv, ct, osl, h1, h2, hcd⟩, kp⟩
  · exact absurd rfl e
theorem konst_int {G : Gb} {h : Heap} {x : Str} {i : Int} (X : G.K.In h) (N : h.Ns mainGlobals G.mg) (c : (He.Fa.int x i).ok G.K = true) : Konst G x (.int i) := by
  obtain ⟨t, e⟩ := He.int_ok X N c
  exact ⟨.int i, _, e, ⟨t, rfl⟩, fun _ _ => rfl⟩
theorem konst_str {G : Gb} {h : Heap} {x z : Str} (X : G.K.In h) (N : h.Ns mainGlobals G.mg) (c : (He.Fa.str x z).ok G.K = true) : Konst G x (.str z) := by
  obtain ⟨t, e⟩ := He.str_ok X N c
  exact ⟨.str z, _, e, ⟨t, rfl⟩, fun _ _ => rfl⟩
theorem law_def {G : Gb} {P : Program} {w : World} {base : Heap} {x qual : Str} {st : Stmt} {f : Addr} {fd : FuncData} {N ps : List Str} {k : Nat} {fs : FS} {nw : Bool} {F0 : FF} (F : Fun G.K x qual st f fd) (S : FnScope N ps (defScope st)) (hF : F0 = runF N.length fs)
    (hb : ∀ (cdv : Value) (A : Around) (outer : List Env) (s : Shared) (H : Hp) (E : XK), Ctx (fun _ : Unit => cxOf (L2.CX P w) P w G.K G.mg base N qual (defScope st) f cdv A outer s H E) G (fun cls d _ H => E cls d H) P w base k →
      PSsD (fun _ : Unit => cxOf (L2.CX P w) P w G.K G.mg base N qual (defScope st) f cdv A outer s H E) G (fun cls d _ H => E cls d H) (defBody st) fs nw) :
    FnF P w G.K G.mg base G (k + 1) f fd ps F0 nw := by
  subst hF
  exact fn_body F S fun cdv A outer s H E hr => hb cdv A outer s H E ⟨⟨fun _ => rfl, fun _ => rfl, fun _ => rfl⟩, fun _ => takes_of rfl rfl rfl rfl, fun _ => hr, fun _ => S.nd, fun _ => rfl, fun _ => rfl, fun _ => rfl⟩
theorem law_end {l : PySem.W.OpenLaw} {n k : Nat} {q : Program} {loose : List Str} {XP : (Str → Option Value) → Heap → Prop} {YP : World → Heap → Prop} {d : DefRec} {x : Str} {F0 : FF}
    (hn : l.most = some n) (hn2 : n ≤ sizeLine) (hdf : d.params.defaults = []) (hr : Room k callerA)
    (F : ∀ (w : World) (mg : Str → Option Value) (fa : Addr) (h : Heap), YP w h → h.Ns mainGlobals mg → mg d.name = some (.ref fa) →
      ∃ (K : PySem.W.Frag) (fd : FuncData), K.In h ∧ (∀ (s : Shared) (u : Value), BindsTo s fd ⟨[u], []⟩ [(x, u)]) ∧
        ∀ base : Heap, K.In base → base.Ns mainGlobals mg → FnF l.prog w K mg base ⟨K, mg⟩ k fa fd [x] F0 false)
    (law : ∀ ns : List Int, ns.length ≤ n → F0 [.scr ns] = .ok (.bl true)) :
    PySem.W.WalkO q loose XP YP l.row.toRowW d [] (fun f vs => PySem.call f vs) := by
  refine Att.attach_call hn hdf fun w s₀ s₁ mg mb fa o pm cd doc a vs ns G Y ho hd hcd hmg hobj hints hlen hg => ?_
  obtain ⟨K, fd, KX, hb, hF⟩ := F w mg fa _ Y G.T.g hmg
  refine law_call KX G.T.g G.T.b G.T.builtins G.T.nolimit hg hobj hints (Nat.le_trans hlen hn2) hr hF hb (fun H hO hS => ?_) fun H e s' c => ?_
  · refine ⟨rfl, fun _ => False, [.scr ns], fun _ z => z.elim, ⟨.ref a, [], rfl, ⟨a, rfl, ?_⟩, rfl⟩, ?_⟩
    · rcases hS with (z | ⟨o, z⟩) | z
      · rcases hO a with e | ⟨o, xs, e⟩
        · rw [e] at z; cases z
        · rw [e] at z; cases z
      · exact .inl ⟨o, z⟩
      · exact .inr z
    · rw [law ns hlen]
      exact fun v H' _ r => r.1
  · obtain ⟨_, _, _, _, _, _, _, _, _, _, _, _, _, z⟩ := c
end PD
set_option autoImplicit false
namespace PD
open PySem PySem.Spec PyProof.Rows L2
abbrev Ints (ns : List Int) : D := .lst (ns.map D.int)
theorem Ints_snoc (L : List Int) (y : Int) : D.lst (L.map D.int ++ [D.int y]) = Ints (L ++ [y]) := by unfold Ints; rw [List.map_append]; rfl
theorem forD_map {α : Type} {p : Pat} {body : FS} (I : Nat → DS → Prop) (f : α → D) (xs : List α) : ∀ (k : Nat) (ρ : DS), I k ρ →
    (∀ i x ρ, xs[i]? = some x → I (k + i) ρ → ∃ ρ1, bindP p (f x) ρ = some ρ1 ∧ ∃ ρ2, (body ρ1 = .nx ρ2 ∨ body ρ1 = .ct ρ2) ∧ I (k + i + 1) ρ2) →
    ∃ ρ', forD p body (xs.map f) ρ = .nx ρ' ∧ I (k + xs.length) ρ' := by
  induction xs with
  | nil => exact fun k ρ h _ => ⟨ρ, rfl, h⟩
  | cons x xs ih =>
    intro k ρ h step
    obtain ⟨ρ1, e1, ρ2, e2, h2⟩ := step 0 x ρ rfl h
    obtain ⟨ρ', e3, h3⟩ := ih (k + 1) ρ2 h2 fun i y ρ hy hI => by
      have := step (i + 1) y ρ hy (by rw [show k + (i + 1) = k + 1 + i by omega]; exact hI)
      rw [show k + (i + 1) + 1 = k + 1 + i + 1 by omega] at this
      exact this
    refine ⟨ρ', ?_, by rw [List.length_cons, show k + (xs.length + 1) = k + 1 + xs.length by omega]; exact h3⟩
    show (match bindP p (f x) ρ with | none => SO.no | some ρ1 => _) = _
    rw [e1]
    simp only
    rcases e2 with e2 | e2 <;> rw [e2] <;> exact e3
theorem forD_fold {α β : Type} {p : Pat} {body : FS} (f : α → D) (g : β → α → β) (I : β → DS → Prop) (xs : List α) : ∀ (b : β) (ρ : DS), I b ρ →
    (∀ b x ρ, x ∈ xs → I b ρ → ∃ ρ1, bindP p (f x) ρ = some ρ1 ∧ ∃ ρ2, (body ρ1 = .nx ρ2 ∨ body ρ1 = .ct ρ2) ∧ I (g b x) ρ2) →
    ∃ ρ', forD p body (xs.map f) ρ = .nx ρ' ∧ I (xs.foldl g b) ρ' := by
  induction xs with
  | nil => exact fun b ρ h _ => ⟨ρ, rfl, h⟩
  | cons x xs ih =>
    intro b ρ h step
    obtain ⟨ρ1, e1, ρ2, e2, h2⟩ := step b x ρ (List.mem_cons_self) h
    obtain ⟨ρ', e3, h3⟩ := ih (g b x) ρ2 h2 fun b y ρ hy hI => step b y ρ (List.mem_cons_of_mem _ hy) hI
    refine ⟨ρ', ?_, h3⟩
    show (match bindP p (f x) ρ with | none => SO.no | some ρ1 => _) = _
    rw [e1]
    simp only
    rcases e2 with e2 | e2 <;> rw [e2] <;> exact e3
theorem compD_map {α : Type} {p : Pat} {tt : FT} {te : FE} {ρ : DS} (f : α → D) (c : α → Bool) (g : α → D) : ∀ xs : List α,
    (∀ x ∈ xs, ∃ ρ1, bindP p (f x) ρ = some ρ1 ∧ tt ρ1 = .ok (c x) ∧ (c x = true → te ρ1 = .ok (g x))) → compD p tt te ρ (xs.map f) = .ok ((xs.filter c).map g)
  | [], _ => rfl
  | x :: xs, h => by
    obtain ⟨ρ1, e1, e2, e3⟩ := h x List.mem_cons_self
    have ih := compD_map f c g xs fun y hy => h y (List.mem_cons_of_mem _ hy)
    show (match bindP p (f x) ρ with | none => R.no | some ρ1 => _) = _
    rw [e1]
    simp only [e2, noX, R.bind_ok]
    by_cases hc : c x = true
    · rw [if_pos hc, e3 hc, List.filter_cons_of_pos hc]
      simp only [noX, R.bind_ok]
      rw [ih]; rfl
    · rw [if_neg hc, List.filter_cons_of_neg hc]
      exact ih
theorem compD_all {α : Type} {p : Pat} {te : FE} {ρ : DS} (f : α → D) (g : α → D) (xs : List α)
    (h : ∀ x ∈ xs, ∃ ρ1, bindP p (f x) ρ = some ρ1 ∧ te ρ1 = .ok (g x)) : compD p tYesD te ρ (xs.map f) = .ok (xs.map g) := by
  have := compD_map (tt := tYesD) (te := te) f (fun _ => true) g xs fun x hx => let ⟨ρ1, h1, h2⟩ := h x hx; ⟨ρ1, h1, rfl, fun _ => h2⟩
  rw [this, List.filter_eq_self.mpr fun _ _ => rfl]
theorem rangeD_eq (lo hi : Int) : rangeD lo hi = ((List.range (hi - lo).toNat).map fun i : Nat => lo + (i : Int)).map D.int := by
  unfold rangeD
  rw [List.map_map]; rfl
def RQ {α : Type} (r : R α) (Q : α → Prop) : Prop := ∃ d, r = .ok d ∧ Q d
theorem RQ_ok {α : Type} {d : α} {Q : α → Prop} : RQ (.ok d) Q ↔ Q d := ⟨fun ⟨_, e, h⟩ => by cases e; exact h, fun h => ⟨_, rfl, h⟩⟩
theorem RQ.mono {α : Type} {r : R α} {Q Q' : α → Prop} (h : RQ r Q) (k : ∀ d, Q d → Q' d) : RQ r Q' := let ⟨d, h1, h2⟩ := h; ⟨d, h1, k d h2⟩
def OQ (o : SO) (N B : DS → Prop) (Rt : D → Prop) : Prop := match o with
  | .nx ρ => N ρ
  | .ct ρ => N ρ
  | .bk ρ => B ρ
  | .rt d => Rt d
  | _ => False
abbrev no1 {α : Type} : α → Prop := fun _ => False
theorem OQ_nx {ρ : DS} {N B : DS → Prop} {Rt : D → Prop} : OQ (.nx ρ) N B Rt ↔ N ρ := Iff.rfl
theorem OQ_ct {ρ : DS} {N B : DS → Prop} {Rt : D → Prop} : OQ (.ct ρ) N B Rt ↔ N ρ := Iff.rfl
theorem OQ_bk {ρ : DS} {N B : DS → Prop} {Rt : D → Prop} : OQ (.bk ρ) N B Rt ↔ B ρ := Iff.rfl
theorem OQ_rt {d : D} {N B : DS → Prop} {Rt : D → Prop} : OQ (.rt d) N B Rt ↔ Rt d := Iff.rfl
theorem forX {p : Pat} {body : FS} (I : Nat → DS → Prop) (B : DS → Prop) (Rt : D → Prop) (C : SO → Prop) : ∀ (xs : List D) (k : Nat) (ρ : DS), I k ρ →
    (∀ i x ρ, xs[i]? = some x → I (k + i) ρ → ∃ ρ1, bindP p x ρ = some ρ1 ∧ OQ (body ρ1) (I (k + i + 1)) B Rt) →
    (∀ ρ', I (k + xs.length) ρ' → C (.nx ρ')) → (∀ ρ', B ρ' → C (.nx ρ')) → (∀ d, Rt d → C (.rt d)) → C (forD p body xs ρ)
  | [], k, ρ, h, _, f, _, _ => f ρ h
  | x :: xs, k, ρ, h, step, f, b, r => by
    obtain ⟨ρ1, e1, h1⟩ := step 0 x ρ rfl h
    show C (match bindP p x ρ with | none => SO.no | some ρ1 => _)
    rw [e1]
    simp only
    have go : ∀ ρ2, I (k + 0 + 1) ρ2 → C (forD p body xs ρ2) := fun ρ2 h2 => forX I B Rt C xs (k + 1) ρ2 h2 (fun i y ρ hy hI => by
      have := step (i + 1) y ρ hy (by rw [show k + (i + 1) = k + 1 + i by omega]; exact hI)
      rw [show k + (i + 1) + 1 = k + 1 + i + 1 by omega] at this
      exact this) (fun ρ' h' => f ρ' (by rw [List.length_cons, show k + (xs.length + 1) = k + 1 + xs.length by omega]; exact h')) b r
    cases e2 : body ρ1 with
    | nx ρ2 => rw [e2] at h1; exact go ρ2 h1
    | ct ρ2 => rw [e2] at h1; exact go ρ2 h1
    | bk ρ2 => rw [e2] at h1; exact b ρ2 h1
    | rt d => rw [e2] at h1; exact r d h1
    | ex x ρ => rw [e2] at h1; exact h1.elim
    | no => rw [e2] at h1; exact h1.elim
theorem forQ {α : Type} {p : Pat} {body : FS} (C : SO → Prop) {f : α → D} {xs : List α} {ρ : DS} (I : Nat → DS → Prop) (h0 : I 0 ρ)
    (step : ∀ i x ρ, xs[i]? = some x → I i ρ → ∃ ρ1, bindP p (f x) ρ = some ρ1 ∧ OQ (body ρ1) (I (i + 1)) no1 no1) (fin : ∀ ρ', I xs.length ρ' → C (.nx ρ')) : C (forD p body (xs.map f) ρ) :=
  forX I no1 no1 C _ 0 ρ h0 (fun i x ρ hx h => by
    rw [List.getElem?_map] at hx
    cases e : xs[i]? with
    | none => rw [e] at hx; cases hx
    | some y =>
      rw [e] at hx; cases hx
      rw [Nat.zero_add] at h ⊢
      exact step i y ρ e h) (fun ρ' h => fin ρ' (by rw [List.length_map, Nat.zero_add] at h; exact h)) (fun _ z => z.elim) (fun _ z => z.elim)
theorem forQr {α : Type} {p : Pat} {body : FS} (C : SO → Prop) {f : α → D} {xs : List α} {ρ : DS} (I : Nat → DS → Prop) (B : DS → Prop) (Rt : D → Prop) (h0 : I 0 ρ)
    (step : ∀ i x ρ, xs[i]? = some x → I i ρ → ∃ ρ1, bindP p (f x) ρ = some ρ1 ∧ OQ (body ρ1) (I (i + 1)) B Rt) (fin : ∀ ρ', I xs.length ρ' → C (.nx ρ')) (bk : ∀ ρ', B ρ' → C (.nx ρ')) (rt : ∀ d, Rt d → C (.rt d)) : C (forD p body (xs.map f) ρ) :=
  forX I B Rt C _ 0 ρ h0 (fun i x ρ hx h => by
    rw [List.getElem?_map] at hx
    cases e : xs[i]? with
    | none => rw [e] at hx; cases hx
    | some y =>
      rw [e] at hx; cases hx
      rw [Nat.zero_add] at h ⊢
      exact step i y ρ e h) (fun ρ' h => fin ρ' (by rw [List.length_map, Nat.zero_add] at h; exact h)) bk rt
theorem forF {α β : Type} {p : Pat} {body : FS} (C : SO → Prop) {f : α → D} {xs : List α} {ρ : DS} (g : β → α → β) (I : β → DS → Prop) (b : β) (h0 : I b ρ)
    (step : ∀ b x ρ, x ∈ xs → I b ρ → ∃ ρ1, bindP p (f x) ρ = some ρ1 ∧ OQ (body ρ1) (I (g b x)) no1 no1) (fin : ∀ ρ', I (xs.foldl g b) ρ' → C (.nx ρ')) : C (forD p body (xs.map f) ρ) := by
  refine forQ C (fun i ρ => I ((xs.take i).foldl g b) ρ) h0 (fun i x ρ hx h => ?_) fun ρ' h => fin ρ' (by rw [List.take_length] at h; exact h)
  have := step _ x ρ (List.mem_of_getElem? hx) h
  rw [List.take_add_one, hx, Option.toList_some, List.foldl_append]
  exact this
def SO.thn : SO → FS → SO
  | .nx ρ, g => g ρ
  | o, _ => o
theorem sSeq_e (f g : FS) (ρ : DS) : sSeq f g ρ = (f ρ).thn g := by
  unfold sSeq SO.thn
  cases f ρ <;> rfl
@[simp] theorem thn_nx (ρ : DS) (g : FS) : (SO.nx ρ).thn g = g ρ := rfl
theorem thn_rt (d : D) (g : FS) : (SO.rt d).thn g = .rt d := rfl
theorem thn_ex (x : Ex) (ρ : DS) (g : FS) : (SO.ex x ρ).thn g = .ex x ρ := rfl
theorem thn_ct (ρ : DS) (g : FS) : (SO.ct ρ).thn g = .ct ρ := rfl
theorem thn_bk (ρ : DS) (g : FS) : (SO.bk ρ).thn g = .bk ρ := rfl
theorem thn_ite {c : Prop} [Decidable c] (a b : SO) (g : FS) : (if c then a else b).thn g = if c then a.thn g else b.thn g := by split <;> rfl
def SO.toR : SO → R D
  | .rt d => .ok d
  | .nx _ => .ok .non
  | .ex x _ => .ex x
  | _ => .no
theorem runF_e (n : Nat) (fs : FS) (ds : List D) : runF n fs ds = (fs (ds.map Sl.sh ++ List.replicate (n - ds.length) Sl.no)).toR := by
  unfold runF SO.toR
  cases fs (ds.map Sl.sh ++ List.replicate (n - ds.length) Sl.no) <;> rfl
theorem toR_rt (d : D) : (SO.rt d).toR = .ok d := rfl
theorem toR_nx (ρ : DS) : (SO.nx ρ).toR = .ok .non := rfl
theorem toR_ex (x : Ex) (ρ : DS) : (SO.ex x ρ).toR = .ex x := rfl
theorem toR_ite {c : Prop} [Decidable c] (a b : SO) : (if c then a else b).toR = if c then a.toR else b.toR := by split <;> rfl
def R.st {α : Type} (r : R α) (ρ : DS) (k : α → SO) : SO := match r with
  | .ok a => k a
  | .ex x => .ex x ρ
  | .no => .no
theorem st_ok {α : Type} (a : α) (ρ : DS) (k : α → SO) : (R.ok a).st ρ k = k a := rfl
theorem st_ex {α : Type} (x : Ex) (ρ : DS) (k : α → SO) : (R.ex x : R α).st ρ k = .ex x ρ := rfl
theorem st_ite {α : Type} {c : Prop} [Decidable c] (a b : R α) (ρ : DS) (k : α → SO) : (if c then a else b).st ρ k = if c then a.st ρ k else b.st ρ k := by split <;> rfl
theorem bind_ite {α β : Type} {c : Prop} [Decidable c] (a b : R α) (k : α → R β) : (if c then a else b).bind k = if c then a.bind k else b.bind k := by split <;> rfl
theorem sRet_e (f : FE) (ρ : DS) : sRet f ρ = (f ρ).st ρ SO.rt := by unfold sRet R.st; cases f ρ <;> rfl
theorem sExp_e (f : FE) (ρ : DS) : sExp f ρ = (f ρ).st ρ fun _ => .nx ρ := by unfold sExp R.st; cases f ρ <;> rfl
theorem sIf_e (c : FT) (f g : FS) (ρ : DS) : sIf c f g ρ = (c ρ).st ρ fun b => if b = true then f ρ else g ρ := by unfold sIf R.st; cases c ρ <;> rfl
theorem sSh_e (i : Nat) (fr : List Nat) (f : FE) (ρ : DS) : sSh i fr f ρ = (f ρ).st ρ fun d => .nx ((frzD fr d ρ).set i (.sh d)) := by unfold sSh R.st; cases f ρ <;> rfl
theorem sOw_e (i : Nat) (fr : List Nat) (f : FE) (ρ : DS) : sOw i fr f ρ = (f ρ).st ρ fun d => .nx ((frzK fr d ρ).set i (mkSl d)) := by unfold sOw R.st; cases f ρ <;> rfl
theorem sFor_e (it : FI) (fr : List Nat) (p : Pat) (body : FS) (ρ : DS) : sFor it fr p body ρ = (it ρ).st ρ fun ds => forD p body ds (frz fr ρ) := by unfold sFor R.st; cases it ρ <;> rfl
theorem mkSl_lst (ds : List D) : mkSl (.lst ds) = .ow (.lst ds) := rfl
theorem eV_e (i : Nat) (ρ : DS) {d : D} (h : ρ[i]? = some (.sh d)) : eV i ρ = .ok d := by unfold eV; rw [h]
theorem asB_bl (b : Bool) : asB (.bl b) = .ok b := rfl
theorem dec_true {p : Prop} [Decidable p] : (decide p = true) = p := by simp
theorem decide_eq {p : Prop} [Decidable p] : (decide p = true) = p := by simp
theorem st_bind {α β : Type} (r : R α) (k : α → R β) (ρ : DS) (q : β → SO) : (r.bind k).st ρ q = r.st ρ fun a => (k a).st ρ q := by cases r <;> rfl
theorem bind_bind {α β γ : Type} (r : R α) (k : α → R β) (q : β → R γ) : (r.bind k).bind q = r.bind fun a => (k a).bind q := by cases r <;> rfl
theorem mulOk_l {i j : Int} (h0 : -18446744073709551616 < i) (h1 : i < 18446744073709551616) : mulOk i j = true := by
  unfold mulOk
  rw [Bool.or_eq_true]
  exact .inl (decide_eq_true (.inl ⟨h0, h1⟩))
theorem mulOk_r {i j : Int} (h0 : -18446744073709551616 < j) (h1 : j < 18446744073709551616) : mulOk i j = true := by
  unfold mulOk
  rw [Bool.or_eq_true]
  exact .inl (decide_eq_true (.inr ⟨h0, h1⟩))
theorem small62_of {i : Int} (h0 : -4611686018427387904 ≤ i) (h1 : i < 4611686018427387904) : small62 i = true := decide_eq_true ⟨h0, h1⟩
theorem fdivOk_of {i j : Int} (h0 : 0 < j) (h1 : j < 18446744073709551616) : fdivOk i j = true := by
  refine decide_eq_true ⟨h0, ?_⟩
  have : j.natAbs < 2 ^ 64 := by omega
  have := (Nat.log2_lt (by omega)).mpr this
  omega
def NQ (o : SO) (P : DS → Prop) : Prop := ∃ ρ, o = .nx ρ ∧ P ρ
theorem NQ_nx {ρ : DS} {P : DS → Prop} : NQ (.nx ρ) P ↔ P ρ := ⟨fun ⟨_, e, h⟩ => by cases e; exact h, fun h => ⟨_, rfl, h⟩⟩
theorem cut {o : SO} {g : FS} (C : SO → Prop) (P : DS → Prop) (h : NQ o P) (k : ∀ ρ, P ρ → C (g ρ)) : C (o.thn g) := by
  obtain ⟨ρ, rfl, h⟩ := h
  exact k ρ h
theorem cutF {o : SO} {g : FS} {Q : D → Prop} (P : DS → Prop) (h : NQ o P) (k : ∀ ρ, P ρ → RQ (g ρ).toR Q) : RQ (o.thn g).toR Q := cut (C := fun o => RQ o.toR Q) P h k
theorem cutB {o : SO} {g : FS} {N B : DS → Prop} {Rt : D → Prop} (P : DS → Prop) (h : NQ o P) (k : ∀ ρ, P ρ → OQ (g ρ) N B Rt) : OQ (o.thn g) N B Rt := cut (C := fun o => OQ o N B Rt) P h k
theorem isiD_lst (ds : List D) : isiD "list" (.lst ds) = some (.bl true) := rfl
theorem isiD_int_int (i : Int) : isiD "int" (.int i) = some (.bl true) := rfl
theorem isiD_int_bool (i : Int) : isiD "bool" (.int i) = some (.bl false) := rfl
theorem isiD_bl_bool (i : Bool) : isiD "bool" (.bl i) = some (.bl true) := rfl
theorem isiD_tup (ds : List D) : isiD "tuple" (.tup ds) = some (.bl true) := rfl
def slV : Option Sl → R D
  | some (.sh d) => .ok d
  | _ => .no
def slO : Option Sl → R D
  | some (.sh d) => .ok d
  | some (.ow d) => .ok d
  | _ => .no
theorem eV_q (i : Nat) (ρ : DS) : eV i ρ = slV ρ[i]? := by unfold eV slV; rfl
theorem eO_q (i : Nat) (ρ : DS) : eO i ρ = slO ρ[i]? := by unfold eO slO; rfl
theorem slV_sh (d : D) : slV (some (.sh d)) = .ok d := rfl
theorem slO_sh (d : D) : slO (some (.sh d)) = .ok d := rfl
theorem slO_ow (d : D) : slO (some (.ow d)) = .ok d := rfl
def slOk : Option Sl → Bool
  | some (.ow _) => false
  | _ => true
theorem okOwn_q (own : List Nat) (ρ : DS) : okOwn own ρ = own.all fun i => slOk ρ[i]? := rfl
theorem slOk_sh (d : D) : slOk (some (.sh d)) = true := rfl
theorem slOk_no : slOk (some .no) = true := rfl
theorem slOk_none : slOk none = true := rfl
def seqK : D → R (List D)
  | .lst ds => .ok ds
  | .tup ds => .ok ds
  | .scr ns => .ok (ns.map D.int)
  | _ => .no
theorem itSeq_q (f : FE) (ρ : DS) : itSeq f ρ = (f ρ).bind seqK := rfl
theorem seqK_lst (ds : List D) : seqK (.lst ds) = .ok ds := rfl
theorem seqK_tup (ds : List D) : seqK (.tup ds) = .ok ds := rfl
theorem seqK_scr (ns : List Int) : seqK (.scr ns) = .ok (ns.map D.int) := rfl
def rng1K : List D → R (List D)
  | [.int j] => if small62 j = true then .ok (rangeD 0 j) else .no
  | _ => .no
def rng2K : List D → R (List D)
  | [.int i, .int j] => if small62 i && small62 j then .ok (rangeD i j) else .no
  | _ => .no
def enmK : List D → R (List D)
  | [.lst ds] => .ok (enumFrom 0 ds)
  | _ => .no
def zipK : List D → R (List D)
  | [.lst xs, .lst ys] => .ok (zipD xs ys)
  | _ => .no
theorem itRange1_q (f : FA) (ρ : DS) : itRange1 f ρ = (f ρ).bind rng1K := rfl
theorem itRange2_q (f : FA) (ρ : DS) : itRange2 f ρ = (f ρ).bind rng2K := rfl
theorem itEnum_q (f : FA) (ρ : DS) : itEnum f ρ = (f ρ).bind enmK := rfl
theorem itZip_q (f : FA) (ρ : DS) : itZip f ρ = (f ρ).bind zipK := rfl
theorem rng1K_e (j : Int) : rng1K [.int j] = if small62 j = true then .ok (rangeD 0 j) else .no := rfl
theorem rng2K_e (i j : Int) : rng2K [.int i, .int j] = if (small62 i && small62 j) = true then .ok (rangeD i j) else .no := rfl
theorem enmK_e (ds : List D) : enmK [.lst ds] = .ok (enumFrom 0 ds) := rfl
theorem zipK_e (xs ys : List D) : zipK [.lst xs, .lst ys] = .ok (zipD xs ys) := rfl
def tupK : Option DS → SO
  | some ρ' => .nx ρ'
  | none => .no
theorem sTup_q (p : Pat) (fr : List Nat) (f : FE) (ρ : DS) : sTup p fr f ρ = (f ρ).st ρ fun d => tupK (bindP p d (frzD fr d ρ)) := by unfold sTup R.st; cases f ρ <;> rfl
theorem tupK_some (ρ : DS) : tupK (some ρ) = .nx ρ := rfl
def retK : Option Sl → SO
  | some (.ow d) => .rt d
  | some (.sh d) => if d.isMut = true then .no else .rt d
  | _ => .no
theorem sRetO_q (i : Nat) (ρ : DS) : sRetO i ρ = retK ρ[i]? := by unfold sRetO retK; rfl
theorem retK_ow (d : D) : retK (some (.ow d)) = .rt d := rfl
theorem retK_sh (d : D) : retK (some (.sh d)) = if d.isMut = true then .no else .rt d := rfl
def mutK2 (i : Nat) (fr : List Nat) (d : D) (ρ : DS) : Option D → SO
  | some x' => .nx ((frzD fr d ρ).set i (.ow x'))
  | none => .no
def mutK (i : Nat) (fr : List Nat) (kd : D → Bool) (mu : D → D → Option D) (ρ : DS) (r : R D) : Option Sl → SO
  | some (.ow x) => if kd x = true then r.st ρ fun d => mutK2 i fr d ρ (mu x d) else .no
  | _ => .no
theorem sMut_q (i : Nat) (fr : List Nat) (kd : D → Bool) (mu : D → D → Option D) (f : FE) (ρ : DS) : sMut i fr kd mu f ρ = mutK i fr kd mu ρ (f ρ) ρ[i]? := by
  unfold sMut mutK
  cases ρ[i]? with
  | none => rfl
  | some s =>
    cases s with
    | ow x =>
      simp only
      split
      · cases f ρ with
        | ok d => cases e : mu x d <;> simp [R.st, mutK2, e]
        | ex x => rfl
        | no => rfl
      · rfl
    | _ => rfl
theorem mutK_ow {i : Nat} {fr : List Nat} {kd : D → Bool} {mu : D → D → Option D} {ρ : DS} {r : R D} {x : D} : mutK i fr kd mu ρ r (some (.ow x)) = if kd x = true then r.st ρ fun d => mutK2 i fr d ρ (mu x d) else .no := rfl
theorem mutK2_some {i : Nat} {fr : List Nat} {d x : D} {ρ : DS} : mutK2 i fr d ρ (some x) = .nx ((frzD fr d ρ).set i (.ow x)) := rfl
theorem appD_lst (ds : List D) (d : D) : appD (.lst ds) d = if ds.length < sizeLine then some (.lst (ds ++ [d])) else none := rfl
theorem mutK2_ite {c : Prop} [Decidable c] {i : Nat} {fr : List Nat} {d : D} {ρ : DS} {a b : Option D} : mutK2 i fr d ρ (if c then a else b) = if c then mutK2 i fr d ρ a else mutK2 i fr d ρ b := by split <;> rfl
def setK2 (i : Nat) (fr : List Nat) (d : D) (ρ : DS) : Option D → SO
  | some x' => .nx ((frzD fr d ρ).set i (.ow x'))
  | none => .no
def setK (i : Nat) (fr : List Nat) (d : D) (ρ : DS) (r : R D) : Option Sl → SO
  | some (.ow x) => r.st ρ fun k => setK2 i fr d ρ (setD x k d)
  | _ => .no
theorem sSetIx_q (i : Nat) (fr : List Nat) (f g : FE) (ρ : DS) : sSetIx i fr f g ρ = (f ρ).st ρ fun d => setK i fr d ρ (g ρ) ρ[i]? := by
  unfold sSetIx R.st setK
  cases f ρ with
  | ok d =>
    simp only
    cases ρ[i]? with
    | none => rfl
    | some s =>
      cases s with
      | ow x =>
        simp only
        cases g ρ with
        | ok k => cases e : setD x k d <;> simp [R.st, setK2, e]
        | ex x => rfl
        | no => rfl
      | _ => rfl
  | ex x => rfl
  | no => rfl
theorem setK_ow {i : Nat} {fr : List Nat} {d x : D} {ρ : DS} {r : R D} : setK i fr d ρ r (some (.ow x)) = r.st ρ fun k => setK2 i fr d ρ (setD x k d) := rfl
theorem setK2_some {i : Nat} {fr : List Nat} {d x : D} {ρ : DS} : setK2 i fr d ρ (some x) = .nx ((frzD fr d ρ).set i (.ow x)) := rfl
theorem setD_lst (ds : List D) (k : Int) (d : D) : setD (.lst ds) (.int k) d = (ixN ds.length k).map fun j => .lst (ds.set j d) := rfl
def augK2 (i : Nat) (op : Int → Int → Int) (a : Int) (ρ : DS) : D → SO
  | .int b => .nx (ρ.set i (.sh (.int (op a b))))
  | _ => .no
def augK (i : Nat) (op : Int → Int → Int) (ρ : DS) (r : R D) : Option Sl → SO
  | some (.sh (.int a)) => r.st ρ (augK2 i op a ρ)
  | _ => .no
theorem sAug_q (i : Nat) (op : Int → Int → Int) (f : FE) (ρ : DS) : sAug i op f ρ = augK i op ρ (f ρ) ρ[i]? := by
  unfold sAug augK
  cases ρ[i]? with
  | none => rfl
  | some s =>
    cases s with
    | sh x =>
      cases x with
      | int a =>
        simp only
        cases f ρ with
        | ok d => simp only [R.st]; cases d <;> rfl
        | ex x => rfl
        | no => rfl
      | _ => rfl
    | _ => rfl
theorem augK_sh {i : Nat} {op : Int → Int → Int} {ρ : DS} {r : R D} {a : Int} : augK i op ρ r (some (.sh (.int a))) = r.st ρ (augK2 i op a ρ) := rfl
theorem augK2_int {i : Nat} {op : Int → Int → Int} {ρ : DS} {a b : Int} : augK2 i op a ρ (.int b) = .nx (ρ.set i (.sh (.int (op a b)))) := rfl
def agxK3 (i : Nat) (ds : List D) (ρ : DS) (z : Int) : Option Nat → SO
  | some j => .nx (ρ.set i (.ow (.lst (ds.set j (.int z)))))
  | none => .no
def agxK2 (i : Nat) (op : Int → Int → Int) (ds : List D) (k : Int) (ρ : DS) (a : Int) : D → SO
  | .int b => agxK3 i ds ρ (op a b) (ixN ds.length k)
  | _ => .no
def agxK1 (i : Nat) (op : Int → Int → Int) (ds : List D) (k : Int) (ρ : DS) (r : R D) : Option D → SO
  | some (.int a) => r.st ρ (agxK2 i op ds k ρ a)
  | _ => .no
def agxK0 (i : Nat) (op : Int → Int → Int) (ds : List D) (ρ : DS) (r : R D) : D → SO
  | .int k => agxK1 i op ds k ρ r (atI ds k)
  | _ => .no
def agxK (i : Nat) (op : Int → Int → Int) (ρ : DS) (g r : R D) : Option Sl → SO
  | some (.ow (.lst ds)) => g.st ρ (agxK0 i op ds ρ r)
  | _ => .no
theorem sAugIx_q (i : Nat) (op : Int → Int → Int) (g f : FE) (ρ : DS) : sAugIx i op g f ρ = agxK i op ρ (g ρ) (f ρ) ρ[i]? := by
  unfold sAugIx agxK
  cases ρ[i]? with
  | none => rfl
  | some s =>
    cases s with
    | ow x =>
      cases x with
      | lst ds =>
        simp only
        cases g ρ with
        | ok d =>
          simp only [R.st]
          cases d with
          | int k =>
            simp only [agxK0]
            unfold agxK1
            cases atI ds k with
            | none => rfl
            | some y =>
              cases y with
              | int a =>
                simp only
                cases f ρ with
                | ok d =>
                  simp only [R.st]
                  cases d with
                  | int b =>
                    simp only [agxK2]
                    unfold agxK3
                    cases ixN ds.length k <;> rfl
                  | _ => rfl
                | ex x => rfl
                | no => rfl
              | _ => rfl
          | _ => rfl
        | ex x => rfl
        | no => rfl
      | _ => rfl
    | _ => rfl
theorem agxK_ow {i : Nat} {op : Int → Int → Int} {ρ : DS} {g r : R D} {ds : List D} : agxK i op ρ g r (some (.ow (.lst ds))) = g.st ρ (agxK0 i op ds ρ r) := rfl
theorem agxK0_int {i : Nat} {op : Int → Int → Int} {ds : List D} {ρ : DS} {r : R D} {k : Int} : agxK0 i op ds ρ r (.int k) = agxK1 i op ds k ρ r (atI ds k) := rfl
theorem agxK1_some {i : Nat} {op : Int → Int → Int} {ds : List D} {ρ : DS} {r : R D} {k a : Int} : agxK1 i op ds k ρ r (some (.int a)) = r.st ρ (agxK2 i op ds k ρ a) := rfl
theorem agxK2_int {i : Nat} {op : Int → Int → Int} {ds : List D} {ρ : DS} {k a b : Int} : agxK2 i op ds k ρ a (.int b) = agxK3 i ds ρ (op a b) (ixN ds.length k) := rfl
theorem agxK3_some {i : Nat} {ds : List D} {ρ : DS} {z : Int} {j : Nat} : agxK3 i ds ρ z (some j) = .nx (ρ.set i (.ow (.lst (ds.set j (.int z))))) := rfl
theorem ixN_nat {n : Nat} {j : Nat} (h : j < n) : ixN n (j : Int) = some j := by
  unfold ixN
  rw [if_pos (by omega), if_pos (by omega)]; simp
def frzS (i : Nat) (ρ : DS) : Option Sl → DS
  | some (.ow d) => ρ.set i (.sh d)
  | _ => ρ
theorem frz_cons (i : Nat) (r : List Nat) (ρ : DS) : frz (i :: r) ρ = frz r (frz1 i ρ) := rfl
theorem frz1_q (i : Nat) (ρ : DS) : frz1 i ρ = frzS i ρ ρ[i]? := by unfold frz1 frzS; rfl
theorem frzS_ow {i : Nat} {ρ : DS} {d : D} : frzS i ρ (some (.ow d)) = ρ.set i (.sh d) := rfl
theorem frzS_sh {i : Nat} {ρ : DS} {d : D} : frzS i ρ (some (.sh d)) = ρ := rfl
theorem frzS_no {i : Nat} {ρ : DS} : frzS i ρ (some .no) = ρ := rfl
theorem frzD_lst (fr : List Nat) (ds : List D) (ρ : DS) : frzD fr (.lst ds) ρ = frz fr ρ := by unfold frzD; rw [if_neg (by simp [D.imm])]
theorem frzD_int (fr : List Nat) (i : Int) (ρ : DS) : frzD fr (.int i) ρ = ρ := rfl
def intK : List D → R D := fun ds => ofO (PD.intD ds)
end PD
set_option autoImplicit false
namespace PD
open PySem PySem.Spec PyProof.Rows L2
noncomputable section
def lawNumF : FF := runF 7 (sSeq (sSh 3 [] (eBin mulD (eC (.int 1000003)) (eBin addD (eV 1) (eC (.int 1)))))
  (sSeq (sIf (tE (eBin ltD (eV 1) (eCall lenD (aCons (eV 0) aNil)))) (sSh 3 [] (eCall intD (aCons (eBin idxD (eV 0) (eV 1)) aNil))) sNil)
  (sSeq (sIf (tE (eBin ltD (eV 3) (eC (.int 0)))) (sSh 3 [] (eBin subD (eC (.int 1)) (eBin mulD (eC (.int 2)) (eV 3)))) sNil)
  (sSeq (sOw 4 [] (eLst aNil))
  (sSeq (sFor (itRange1 (aCons (eV 2) aNil)) [] (.nm 5) (sIf (tE (eBin geD (eV 3) (eBin powD (eC (.int 10)) (eC (.int 18))))) (sSeq (sMut 4 [] D.isL appD (eBin modD (eV 3) (eC (.int 1009))))
  (sSh 3 [] (eBin fdivD (eV 3) (eC (.int 1009))))) (sSeq (sSh 6 [] (eBin modD (eBin addD (eBin addD (eBin mulD (eV 3) (eC (.int 48271))) (eBin mulD (eBin addD (eV 5) (eC (.int 1))) (eC (.int 69621)))) (eBin mulD (eV 1) (eC (.int 4001)))) (eC (.int 2147483647))))
  (sSeq (sSh 6 [] (eBin modD (eBin addD (eBin mulD (eV 6) (eV 6)) (eBin mulD (eC (.int 16807)) (eBin addD (eV 5) (eC (.int 3))))) (eC (.int 2147483629))))
  (sMut 4 [] D.isL appD (eBin modD (eBin fdivD (eV 6) (eC (.int 7))) (eC (.int 1009))))))))
  (sRet (eO 4)))))))
theorem atI_natI {α : Type} {xs : List α} {i : Int} (h0 : 0 ≤ i) (h1 : i < xs.length) : atI xs i = xs[i.toNat]? := by
  obtain ⟨j, rfl⟩ := Int.eq_ofNat_of_zero_le h0
  have hj : j < xs.length := by omega
  rw [show ((j : Int)).toNat = j from rfl, List.getElem?_eq_getElem hj]
  exact atI_nat (List.getElem?_eq_getElem hj)
structure Drawn (n : Nat) (L : List Int) : Prop where
  len : L.length = n
  rng : ∀ x ∈ L, 0 ≤ x ∧ x < 1009
theorem lawNum (ns : List Int) (at' : Nat) (n : Nat) (hn : n ≤ 1000) (ha : at' ≤ 1000) (hl : ns.length ≤ 63) : RQ (lawNumF [.scr ns, .int at', .int n]) fun d => ∃ L, Drawn n L ∧ d = Ints L := by
  unfold lawNumF
  have m0 : mulOk 1000003 ((at' : Int) + 1) = true := mulOk_l (by omega) (by omega)
  have z0 : (0 : Nat) ≤ sizeLine := Nat.zero_le _
  have z1 : small62 (n : Int) = true := small62_of (by omega) (by omega)
  simp -implicitDefEqProofs only [runF_e, sSeq_e, thn_nx, thn_rt, thn_ex, thn_ct, thn_bk, toR_rt, toR_nx, toR_ex, st_ok, st_ex, st_bind, bind_bind, RQ_ok, OQ_nx, OQ_ct, OQ_bk, OQ_rt, NQ_nx, sNil, sRet_e, sRetO_q, retK_ow, retK_sh, sRetN, sExp_e, sIf_e, sSh_e, sOw_e, sMut_q, mutK_ow, mutK2_some, sSetIx_q, setK_ow, setK2_some, sAug_q, augK_sh, augK2_int, sAugIx_q, agxK_ow, agxK0_int, agxK1_some, agxK2_int, agxK3_some, sTup_q, tupK_some, sFor_e, sNo, sBk, sCt, eV_q, eO_q, slV_sh, slO_sh, slO_ow, eC, eBin, ofO_some, asB_bl, tE, tNotD, tAndD, tOrD, eAnd, eOr, eNot, eIf, eChain, tTru, truD, aNil, aCons, eTup, eLst, oNone, oSome, asI, eSl, sliceD, eCall, eFn, eFnK, eComp, okOwn_q, slOk_sh, slOk_no, slOk_none, wipeD, noX, tYesD, itSeq_q, seqK_lst, seqK_tup, seqK_scr, itRange1_q, rng1K_e, itRange2_q, rng2K_e, itEnum_q, enmK_e, itZip_q, zipK_e, bindP, binds, eNeg, eIsi, addD, subD, mulD, fdivD, modD, powD, iop, cmpI, isND, notND, D.isN, idxD, lenD, listD, tupleD, appD_lst, setD_lst, mutK2_ite, D.isL, max2D, min2D, absD, PD.intD, D.ty, frz_cons, frz1_q, frzS_ow, frzS_sh, frzS_no, frzD_lst, frzD_int, frzD_nil, frzK_nil, frz_nil, mkSl_lst, D.isMut, R.bind_ok, R.bind_no, dec_true, decide_eq_true_eq, decide_eq_false_iff_not, Bool.not_eq_true', Bool.decide_eq_true, Bool.not_eq_eq_eq_not, List.map_cons, List.map_nil, List.length_cons, List.length_nil, List.replicate_succ, List.replicate_zero, List.cons_append, List.nil_append, List.append_nil, List.getElem?_cons_zero, List.getElem?_cons_succ, List.set_cons_zero, List.set_cons_succ, List.all_cons, List.all_nil, Bool.and_true, Bool.true_and, Bool.and_self, Bool.not_true, Bool.not_false, Bool.false_eq_true, Bool.true_eq_false, if_true, if_false, ite_true, ite_false, reduceIte, Nat.add_sub_cancel, Nat.reduceSub, Nat.reduceAdd, Nat.sub_self, Nat.zero_add, Int.reduceLT, Int.reduceLE, Int.reduceEq, Int.reduceAdd, Int.reduceSub, Int.reduceMul, Int.reduceNeg, Int.reduceMod, Int.reduceDiv, Nat.zero_le, isiD_lst, isiD_int_int, isiD_int_bool, isiD_bl_bool, isiD_tup, decide_true, decide_false, m0]
  generalize (1000003 * ((at' : Int) + 1)) = c0
  refine cutF (fun ρ => ∃ c : Int, ρ = [Sl.sh (D.scr ns), Sl.sh (D.int ↑at'), Sl.sh (D.int ↑n), Sl.sh (D.int c), Sl.no, Sl.no, Sl.no]) ?_ ?_
  · by_cases h : (at' : Int) < ns.length
    · have e := atI_natI (xs := ns) (i := at') (by omega) h
      rw [if_pos h, e, List.getElem?_eq_getElem (by omega), Option.map_some]
      simp -implicitDefEqProofs only [runF_e, sSeq_e, thn_nx, thn_rt, thn_ex, thn_ct, thn_bk, toR_rt, toR_nx, toR_ex, st_ok, st_ex, st_bind, bind_bind, RQ_ok, OQ_nx, OQ_ct, OQ_bk, OQ_rt, NQ_nx, sNil, sRet_e, sRetO_q, retK_ow, retK_sh, sRetN, sExp_e, sIf_e, sSh_e, sOw_e, sMut_q, mutK_ow, mutK2_some, sSetIx_q, setK_ow, setK2_some, sAug_q, augK_sh, augK2_int, sAugIx_q, agxK_ow, agxK0_int, agxK1_some, agxK2_int, agxK3_some, sTup_q, tupK_some, sFor_e, sNo, sBk, sCt, eV_q, eO_q, slV_sh, slO_sh, slO_ow, eC, eBin, ofO_some, asB_bl, tE, tNotD, tAndD, tOrD, eAnd, eOr, eNot, eIf, eChain, tTru, truD, aNil, aCons, eTup, eLst, oNone, oSome, asI, eSl, sliceD, eCall, eFn, eFnK, eComp, okOwn_q, slOk_sh, slOk_no, slOk_none, wipeD, noX, tYesD, itSeq_q, seqK_lst, seqK_tup, seqK_scr, itRange1_q, rng1K_e, itRange2_q, rng2K_e, itEnum_q, enmK_e, itZip_q, zipK_e, bindP, binds, eNeg, eIsi, addD, subD, mulD, fdivD, modD, powD, iop, cmpI, isND, notND, D.isN, idxD, lenD, listD, tupleD, appD_lst, setD_lst, mutK2_ite, D.isL, max2D, min2D, absD, PD.intD, D.ty, frz_cons, frz1_q, frzS_ow, frzS_sh, frzS_no, frzD_lst, frzD_int, frzD_nil, frzK_nil, frz_nil, mkSl_lst, D.isMut, R.bind_ok, R.bind_no, dec_true, decide_eq_true_eq, decide_eq_false_iff_not, Bool.not_eq_true', Bool.decide_eq_true, Bool.not_eq_eq_eq_not, List.map_cons, List.map_nil, List.length_cons, List.length_nil, List.replicate_succ, List.replicate_zero, List.cons_append, List.nil_append, List.append_nil, List.getElem?_cons_zero, List.getElem?_cons_succ, List.set_cons_zero, List.set_cons_succ, List.all_cons, List.all_nil, Bool.and_true, Bool.true_and, Bool.and_self, Bool.not_true, Bool.not_false, Bool.false_eq_true, Bool.true_eq_false, if_true, if_false, ite_true, ite_false, reduceIte, Nat.add_sub_cancel, Nat.reduceSub, Nat.reduceAdd, Nat.sub_self, Nat.zero_add, Int.reduceLT, Int.reduceLE, Int.reduceEq, Int.reduceAdd, Int.reduceSub, Int.reduceMul, Int.reduceNeg, Int.reduceMod, Int.reduceDiv, Nat.zero_le, isiD_lst, isiD_int_int, isiD_int_bool, isiD_bl_bool, isiD_tup, decide_true, decide_false]
      exact ⟨_, rfl⟩
    · rw [if_neg h]
      simp -implicitDefEqProofs only [runF_e, sSeq_e, thn_nx, thn_rt, thn_ex, thn_ct, thn_bk, toR_rt, toR_nx, toR_ex, st_ok, st_ex, st_bind, bind_bind, RQ_ok, OQ_nx, OQ_ct, OQ_bk, OQ_rt, NQ_nx, sNil, sRet_e, sRetO_q, retK_ow, retK_sh, sRetN, sExp_e, sIf_e, sSh_e, sOw_e, sMut_q, mutK_ow, mutK2_some, sSetIx_q, setK_ow, setK2_some, sAug_q, augK_sh, augK2_int, sAugIx_q, agxK_ow, agxK0_int, agxK1_some, agxK2_int, agxK3_some, sTup_q, tupK_some, sFor_e, sNo, sBk, sCt, eV_q, eO_q, slV_sh, slO_sh, slO_ow, eC, eBin, ofO_some, asB_bl, tE, tNotD, tAndD, tOrD, eAnd, eOr, eNot, eIf, eChain, tTru, truD, aNil, aCons, eTup, eLst, oNone, oSome, asI, eSl, sliceD, eCall, eFn, eFnK, eComp, okOwn_q, slOk_sh, slOk_no, slOk_none, wipeD, noX, tYesD, itSeq_q, seqK_lst, seqK_tup, seqK_scr, itRange1_q, rng1K_e, itRange2_q, rng2K_e, itEnum_q, enmK_e, itZip_q, zipK_e, bindP, binds, eNeg, eIsi, addD, subD, mulD, fdivD, modD, powD, iop, cmpI, isND, notND, D.isN, idxD, lenD, listD, tupleD, appD_lst, setD_lst, mutK2_ite, D.isL, max2D, min2D, absD, PD.intD, D.ty, frz_cons, frz1_q, frzS_ow, frzS_sh, frzS_no, frzD_lst, frzD_int, frzD_nil, frzK_nil, frz_nil, mkSl_lst, D.isMut, R.bind_ok, R.bind_no, dec_true, decide_eq_true_eq, decide_eq_false_iff_not, Bool.not_eq_true', Bool.decide_eq_true, Bool.not_eq_eq_eq_not, List.map_cons, List.map_nil, List.length_cons, List.length_nil, List.replicate_succ, List.replicate_zero, List.cons_append, List.nil_append, List.append_nil, List.getElem?_cons_zero, List.getElem?_cons_succ, List.set_cons_zero, List.set_cons_succ, List.all_cons, List.all_nil, Bool.and_true, Bool.true_and, Bool.and_self, Bool.not_true, Bool.not_false, Bool.false_eq_true, Bool.true_eq_false, if_true, if_false, ite_true, ite_false, reduceIte, Nat.add_sub_cancel, Nat.reduceSub, Nat.reduceAdd, Nat.sub_self, Nat.zero_add, Int.reduceLT, Int.reduceLE, Int.reduceEq, Int.reduceAdd, Int.reduceSub, Int.reduceMul, Int.reduceNeg, Int.reduceMod, Int.reduceDiv, Nat.zero_le, isiD_lst, isiD_int_int, isiD_int_bool, isiD_bl_bool, isiD_tup, decide_true, decide_false]
      exact ⟨_, rfl⟩
  · rintro ρ ⟨c, rfl⟩
    simp -implicitDefEqProofs only [runF_e, sSeq_e, thn_nx, thn_rt, thn_ex, thn_ct, thn_bk, toR_rt, toR_nx, toR_ex, st_ok, st_ex, st_bind, bind_bind, RQ_ok, OQ_nx, OQ_ct, OQ_bk, OQ_rt, NQ_nx, sNil, sRet_e, sRetO_q, retK_ow, retK_sh, sRetN, sExp_e, sIf_e, sSh_e, sOw_e, sMut_q, mutK_ow, mutK2_some, sSetIx_q, setK_ow, setK2_some, sAug_q, augK_sh, augK2_int, sAugIx_q, agxK_ow, agxK0_int, agxK1_some, agxK2_int, agxK3_some, sTup_q, tupK_some, sFor_e, sNo, sBk, sCt, eV_q, eO_q, slV_sh, slO_sh, slO_ow, eC, eBin, ofO_some, asB_bl, tE, tNotD, tAndD, tOrD, eAnd, eOr, eNot, eIf, eChain, tTru, truD, aNil, aCons, eTup, eLst, oNone, oSome, asI, eSl, sliceD, eCall, eFn, eFnK, eComp, okOwn_q, slOk_sh, slOk_no, slOk_none, wipeD, noX, tYesD, itSeq_q, seqK_lst, seqK_tup, seqK_scr, itRange1_q, rng1K_e, itRange2_q, rng2K_e, itEnum_q, enmK_e, itZip_q, zipK_e, bindP, binds, eNeg, eIsi, addD, subD, mulD, fdivD, modD, powD, iop, cmpI, isND, notND, D.isN, idxD, lenD, listD, tupleD, appD_lst, setD_lst, mutK2_ite, D.isL, max2D, min2D, absD, PD.intD, D.ty, frz_cons, frz1_q, frzS_ow, frzS_sh, frzS_no, frzD_lst, frzD_int, frzD_nil, frzK_nil, frz_nil, mkSl_lst, D.isMut, R.bind_ok, R.bind_no, dec_true, decide_eq_true_eq, decide_eq_false_iff_not, Bool.not_eq_true', Bool.decide_eq_true, Bool.not_eq_eq_eq_not, List.map_cons, List.map_nil, List.length_cons, List.length_nil, List.replicate_succ, List.replicate_zero, List.cons_append, List.nil_append, List.append_nil, List.getElem?_cons_zero, List.getElem?_cons_succ, List.set_cons_zero, List.set_cons_succ, List.all_cons, List.all_nil, Bool.and_true, Bool.true_and, Bool.and_self, Bool.not_true, Bool.not_false, Bool.false_eq_true, Bool.true_eq_false, if_true, if_false, ite_true, ite_false, reduceIte, Nat.add_sub_cancel, Nat.reduceSub, Nat.reduceAdd, Nat.sub_self, Nat.zero_add, Int.reduceLT, Int.reduceLE, Int.reduceEq, Int.reduceAdd, Int.reduceSub, Int.reduceMul, Int.reduceNeg, Int.reduceMod, Int.reduceDiv, Nat.zero_le, isiD_lst, isiD_int_int, isiD_int_bool, isiD_bl_bool, isiD_tup, decide_true, decide_false]
    refine cutF (fun ρ => ∃ c : Int, ρ = [Sl.sh (D.scr ns), Sl.sh (D.int ↑at'), Sl.sh (D.int ↑n), Sl.sh (D.int c), Sl.no, Sl.no, Sl.no] ∧ 0 ≤ c) ?_ ?_
    · by_cases h : c < 0
      · rw [if_pos h]
        simp -implicitDefEqProofs only [runF_e, sSeq_e, thn_nx, thn_rt, thn_ex, thn_ct, thn_bk, toR_rt, toR_nx, toR_ex, st_ok, st_ex, st_bind, bind_bind, RQ_ok, OQ_nx, OQ_ct, OQ_bk, OQ_rt, NQ_nx, sNil, sRet_e, sRetO_q, retK_ow, retK_sh, sRetN, sExp_e, sIf_e, sSh_e, sOw_e, sMut_q, mutK_ow, mutK2_some, sSetIx_q, setK_ow, setK2_some, sAug_q, augK_sh, augK2_int, sAugIx_q, agxK_ow, agxK0_int, agxK1_some, agxK2_int, agxK3_some, sTup_q, tupK_some, sFor_e, sNo, sBk, sCt, eV_q, eO_q, slV_sh, slO_sh, slO_ow, eC, eBin, ofO_some, asB_bl, tE, tNotD, tAndD, tOrD, eAnd, eOr, eNot, eIf, eChain, tTru, truD, aNil, aCons, eTup, eLst, oNone, oSome, asI, eSl, sliceD, eCall, eFn, eFnK, eComp, okOwn_q, slOk_sh, slOk_no, slOk_none, wipeD, noX, tYesD, itSeq_q, seqK_lst, seqK_tup, seqK_scr, itRange1_q, rng1K_e, itRange2_q, rng2K_e, itEnum_q, enmK_e, itZip_q, zipK_e, bindP, binds, eNeg, eIsi, addD, subD, mulD, fdivD, modD, powD, iop, cmpI, isND, notND, D.isN, idxD, lenD, listD, tupleD, appD_lst, setD_lst, mutK2_ite, D.isL, max2D, min2D, absD, PD.intD, D.ty, frz_cons, frz1_q, frzS_ow, frzS_sh, frzS_no, frzD_lst, frzD_int, frzD_nil, frzK_nil, frz_nil, mkSl_lst, D.isMut, R.bind_ok, R.bind_no, dec_true, decide_eq_true_eq, decide_eq_false_iff_not, Bool.not_eq_true', Bool.decide_eq_true, Bool.not_eq_eq_eq_not, List.map_cons, List.map_nil, List.length_cons, List.length_nil, List.replicate_succ, List.replicate_zero, List.cons_append, List.nil_append, List.append_nil, List.getElem?_cons_zero, List.getElem?_cons_succ, List.set_cons_zero, List.set_cons_succ, List.all_cons, List.all_nil, Bool.and_true, Bool.true_and, Bool.and_self, Bool.not_true, Bool.not_false, Bool.false_eq_true, Bool.true_eq_false, if_true, if_false, ite_true, ite_false, reduceIte, Nat.add_sub_cancel, Nat.reduceSub, Nat.reduceAdd, Nat.sub_self, Nat.zero_add, Int.reduceLT, Int.reduceLE, Int.reduceEq, Int.reduceAdd, Int.reduceSub, Int.reduceMul, Int.reduceNeg, Int.reduceMod, Int.reduceDiv, Nat.zero_le, isiD_lst, isiD_int_int, isiD_int_bool, isiD_bl_bool, isiD_tup, decide_true, decide_false, show mulOk 2 c = true from mulOk_l (by decide) (by decide)]
        exact ⟨_, rfl, by omega⟩
      · rw [if_neg h]
        simp -implicitDefEqProofs only [runF_e, sSeq_e, thn_nx, thn_rt, thn_ex, thn_ct, thn_bk, toR_rt, toR_nx, toR_ex, st_ok, st_ex, st_bind, bind_bind, RQ_ok, OQ_nx, OQ_ct, OQ_bk, OQ_rt, NQ_nx, sNil, sRet_e, sRetO_q, retK_ow, retK_sh, sRetN, sExp_e, sIf_e, sSh_e, sOw_e, sMut_q, mutK_ow, mutK2_some, sSetIx_q, setK_ow, setK2_some, sAug_q, augK_sh, augK2_int, sAugIx_q, agxK_ow, agxK0_int, agxK1_some, agxK2_int, agxK3_some, sTup_q, tupK_some, sFor_e, sNo, sBk, sCt, eV_q, eO_q, slV_sh, slO_sh, slO_ow, eC, eBin, ofO_some, asB_bl, tE, tNotD, tAndD, tOrD, eAnd, eOr, eNot, eIf, eChain, tTru, truD, aNil, aCons, eTup, eLst, oNone, oSome, asI, eSl, sliceD, eCall, eFn, eFnK, eComp, okOwn_q, slOk_sh, slOk_no, slOk_none, wipeD, noX, tYesD, itSeq_q, seqK_lst, seqK_tup, seqK_scr, itRange1_q, rng1K_e, itRange2_q, rng2K_e, itEnum_q, enmK_e, itZip_q, zipK_e, bindP, binds, eNeg, eIsi, addD, subD, mulD, fdivD, modD, powD, iop, cmpI, isND, notND, D.isN, idxD, lenD, listD, tupleD, appD_lst, setD_lst, mutK2_ite, D.isL, max2D, min2D, absD, PD.intD, D.ty, frz_cons, frz1_q, frzS_ow, frzS_sh, frzS_no, frzD_lst, frzD_int, frzD_nil, frzK_nil, frz_nil, mkSl_lst, D.isMut, R.bind_ok, R.bind_no, dec_true, decide_eq_true_eq, decide_eq_false_iff_not, Bool.not_eq_true', Bool.decide_eq_true, Bool.not_eq_eq_eq_not, List.map_cons, List.map_nil, List.length_cons, List.length_nil, List.replicate_succ, List.replicate_zero, List.cons_append, List.nil_append, List.append_nil, List.getElem?_cons_zero, List.getElem?_cons_succ, List.set_cons_zero, List.set_cons_succ, List.all_cons, List.all_nil, Bool.and_true, Bool.true_and, Bool.and_self, Bool.not_true, Bool.not_false, Bool.false_eq_true, Bool.true_eq_false, if_true, if_false, ite_true, ite_false, reduceIte, Nat.add_sub_cancel, Nat.reduceSub, Nat.reduceAdd, Nat.sub_self, Nat.zero_add, Int.reduceLT, Int.reduceLE, Int.reduceEq, Int.reduceAdd, Int.reduceSub, Int.reduceMul, Int.reduceNeg, Int.reduceMod, Int.reduceDiv, Nat.zero_le, isiD_lst, isiD_int_int, isiD_int_bool, isiD_bl_bool, isiD_tup, decide_true, decide_false]
        exact ⟨_, rfl, by omega⟩
    · rintro ρ ⟨c, rfl, hc⟩
      simp -implicitDefEqProofs only [runF_e, sSeq_e, thn_nx, thn_rt, thn_ex, thn_ct, thn_bk, toR_rt, toR_nx, toR_ex, st_ok, st_ex, st_bind, bind_bind, RQ_ok, OQ_nx, OQ_ct, OQ_bk, OQ_rt, NQ_nx, sNil, sRet_e, sRetO_q, retK_ow, retK_sh, sRetN, sExp_e, sIf_e, sSh_e, sOw_e, sMut_q, mutK_ow, mutK2_some, sSetIx_q, setK_ow, setK2_some, sAug_q, augK_sh, augK2_int, sAugIx_q, agxK_ow, agxK0_int, agxK1_some, agxK2_int, agxK3_some, sTup_q, tupK_some, sFor_e, sNo, sBk, sCt, eV_q, eO_q, slV_sh, slO_sh, slO_ow, eC, eBin, ofO_some, asB_bl, tE, tNotD, tAndD, tOrD, eAnd, eOr, eNot, eIf, eChain, tTru, truD, aNil, aCons, eTup, eLst, oNone, oSome, asI, eSl, sliceD, eCall, eFn, eFnK, eComp, okOwn_q, slOk_sh, slOk_no, slOk_none, wipeD, noX, tYesD, itSeq_q, seqK_lst, seqK_tup, seqK_scr, itRange1_q, rng1K_e, itRange2_q, rng2K_e, itEnum_q, enmK_e, itZip_q, zipK_e, bindP, binds, eNeg, eIsi, addD, subD, mulD, fdivD, modD, powD, iop, cmpI, isND, notND, D.isN, idxD, lenD, listD, tupleD, appD_lst, setD_lst, mutK2_ite, D.isL, max2D, min2D, absD, PD.intD, D.ty, frz_cons, frz1_q, frzS_ow, frzS_sh, frzS_no, frzD_lst, frzD_int, frzD_nil, frzK_nil, frz_nil, mkSl_lst, D.isMut, R.bind_ok, R.bind_no, dec_true, decide_eq_true_eq, decide_eq_false_iff_not, Bool.not_eq_true', Bool.decide_eq_true, Bool.not_eq_eq_eq_not, List.map_cons, List.map_nil, List.length_cons, List.length_nil, List.replicate_succ, List.replicate_zero, List.cons_append, List.nil_append, List.append_nil, List.getElem?_cons_zero, List.getElem?_cons_succ, List.set_cons_zero, List.set_cons_succ, List.all_cons, List.all_nil, Bool.and_true, Bool.true_and, Bool.and_self, Bool.not_true, Bool.not_false, Bool.false_eq_true, Bool.true_eq_false, if_true, if_false, ite_true, ite_false, reduceIte, Nat.add_sub_cancel, Nat.reduceSub, Nat.reduceAdd, Nat.sub_self, Nat.zero_add, Int.reduceLT, Int.reduceLE, Int.reduceEq, Int.reduceAdd, Int.reduceSub, Int.reduceMul, Int.reduceNeg, Int.reduceMod, Int.reduceDiv, Nat.zero_le, isiD_lst, isiD_int_int, isiD_int_bool, isiD_bl_bool, isiD_tup, decide_true, decide_false, z0, z1]
      rw [rangeD_eq]
      refine forQ (C := fun o => RQ (o.thn _).toR _) (fun i ρ => ∃ (cell : Int) (x5 x6 : Sl) (L : List Int), ρ = [.sh (.scr ns), .sh (.int at'), .sh (.int n), .sh (.int cell), .ow (Ints L), x5, x6] ∧ 0 ≤ cell ∧ Drawn i L) ⟨c, .no, .no, [], rfl, hc, rfl, fun _ z => nomatch z⟩ ?_ ?_
      · rintro i x ρ hx ⟨cell, x5, x6, L, rfl, hc, hL⟩
        refine ⟨_, rfl, ?_⟩
        have hi : i < n := by
          have := (List.getElem?_eq_some_iff.mp hx).1
          simpa using this
        have hx : x = (i : Int) := by
          rw [List.getElem?_map, List.getElem?_range (by omega)] at hx
          have := Option.some.inj hx
          simp only at this
          omega
        subst hx
        have hLl : (L.map D.int).length < sizeLine := by
          rw [List.length_map, hL.len]
          exact small1000 (by omega)
        have app : ∀ y : Int, 0 ≤ y → y < 1009 → Drawn (i + 1) (L ++ [y]) := fun y h0 h1 => ⟨by rw [List.length_append, hL.len]; rfl, fun z hz => by
          rcases List.mem_append.mp hz with hz | hz
          · exact hL.rng z hz
          · rw [List.mem_singleton.mp hz]; exact ⟨h0, h1⟩⟩
        simp -implicitDefEqProofs only [runF_e, sSeq_e, thn_nx, thn_rt, thn_ex, thn_ct, thn_bk, toR_rt, toR_nx, toR_ex, st_ok, st_ex, st_bind, bind_bind, RQ_ok, OQ_nx, OQ_ct, OQ_bk, OQ_rt, NQ_nx, sNil, sRet_e, sRetO_q, retK_ow, retK_sh, sRetN, sExp_e, sIf_e, sSh_e, sOw_e, sMut_q, mutK_ow, mutK2_some, sSetIx_q, setK_ow, setK2_some, sAug_q, augK_sh, augK2_int, sAugIx_q, agxK_ow, agxK0_int, agxK1_some, agxK2_int, agxK3_some, sTup_q, tupK_some, sFor_e, sNo, sBk, sCt, eV_q, eO_q, slV_sh, slO_sh, slO_ow, eC, eBin, ofO_some, asB_bl, tE, tNotD, tAndD, tOrD, eAnd, eOr, eNot, eIf, eChain, tTru, truD, aNil, aCons, eTup, eLst, oNone, oSome, asI, eSl, sliceD, eCall, eFn, eFnK, eComp, okOwn_q, slOk_sh, slOk_no, slOk_none, wipeD, noX, tYesD, itSeq_q, seqK_lst, seqK_tup, seqK_scr, itRange1_q, rng1K_e, itRange2_q, rng2K_e, itEnum_q, enmK_e, itZip_q, zipK_e, bindP, binds, eNeg, eIsi, addD, subD, mulD, fdivD, modD, powD, iop, cmpI, isND, notND, D.isN, idxD, lenD, listD, tupleD, appD_lst, setD_lst, mutK2_ite, D.isL, max2D, min2D, absD, PD.intD, D.ty, frz_cons, frz1_q, frzS_ow, frzS_sh, frzS_no, frzD_lst, frzD_int, frzD_nil, frzK_nil, frz_nil, mkSl_lst, D.isMut, R.bind_ok, R.bind_no, dec_true, decide_eq_true_eq, decide_eq_false_iff_not, Bool.not_eq_true', Bool.decide_eq_true, Bool.not_eq_eq_eq_not, List.map_cons, List.map_nil, List.length_cons, List.length_nil, List.replicate_succ, List.replicate_zero, List.cons_append, List.nil_append, List.append_nil, List.getElem?_cons_zero, List.getElem?_cons_succ, List.set_cons_zero, List.set_cons_succ, List.all_cons, List.all_nil, Bool.and_true, Bool.true_and, Bool.and_self, Bool.not_true, Bool.not_false, Bool.false_eq_true, Bool.true_eq_false, if_true, if_false, ite_true, ite_false, reduceIte, Nat.add_sub_cancel, Nat.reduceSub, Nat.reduceAdd, Nat.sub_self, Nat.zero_add, Int.reduceLT, Int.reduceLE, Int.reduceEq, Int.reduceAdd, Int.reduceSub, Int.reduceMul, Int.reduceNeg, Int.reduceMod, Int.reduceDiv, Nat.zero_le, isiD_lst, isiD_int_int, isiD_int_bool, isiD_bl_bool, isiD_tup, decide_true, decide_false, show powOk 10 18 = true from rfl, show ((10 : Int) ^ (18 : Int).toNat) = 1000000000000000000 from rfl]
        by_cases h18 : (1000000000000000000 : Int) ≤ cell
        · rw [if_pos h18]
          simp -implicitDefEqProofs only [runF_e, sSeq_e, thn_nx, thn_rt, thn_ex, thn_ct, thn_bk, toR_rt, toR_nx, toR_ex, st_ok, st_ex, st_bind, bind_bind, RQ_ok, OQ_nx, OQ_ct, OQ_bk, OQ_rt, NQ_nx, sNil, sRet_e, sRetO_q, retK_ow, retK_sh, sRetN, sExp_e, sIf_e, sSh_e, sOw_e, sMut_q, mutK_ow, mutK2_some, sSetIx_q, setK_ow, setK2_some, sAug_q, augK_sh, augK2_int, sAugIx_q, agxK_ow, agxK0_int, agxK1_some, agxK2_int, agxK3_some, sTup_q, tupK_some, sFor_e, sNo, sBk, sCt, eV_q, eO_q, slV_sh, slO_sh, slO_ow, eC, eBin, ofO_some, asB_bl, tE, tNotD, tAndD, tOrD, eAnd, eOr, eNot, eIf, eChain, tTru, truD, aNil, aCons, eTup, eLst, oNone, oSome, asI, eSl, sliceD, eCall, eFn, eFnK, eComp, okOwn_q, slOk_sh, slOk_no, slOk_none, wipeD, noX, tYesD, itSeq_q, seqK_lst, seqK_tup, seqK_scr, itRange1_q, rng1K_e, itRange2_q, rng2K_e, itEnum_q, enmK_e, itZip_q, zipK_e, bindP, binds, eNeg, eIsi, addD, subD, mulD, fdivD, modD, powD, iop, cmpI, isND, notND, D.isN, idxD, lenD, listD, tupleD, appD_lst, setD_lst, mutK2_ite, D.isL, max2D, min2D, absD, PD.intD, D.ty, frz_cons, frz1_q, frzS_ow, frzS_sh, frzS_no, frzD_lst, frzD_int, frzD_nil, frzK_nil, frz_nil, mkSl_lst, D.isMut, R.bind_ok, R.bind_no, dec_true, decide_eq_true_eq, decide_eq_false_iff_not, Bool.not_eq_true', Bool.decide_eq_true, Bool.not_eq_eq_eq_not, List.map_cons, List.map_nil, List.length_cons, List.length_nil, List.replicate_succ, List.replicate_zero, List.cons_append, List.nil_append, List.append_nil, List.getElem?_cons_zero, List.getElem?_cons_succ, List.set_cons_zero, List.set_cons_succ, List.all_cons, List.all_nil, Bool.and_true, Bool.true_and, Bool.and_self, Bool.not_true, Bool.not_false, Bool.false_eq_true, Bool.true_eq_false, if_true, if_false, ite_true, ite_false, reduceIte, Nat.add_sub_cancel, Nat.reduceSub, Nat.reduceAdd, Nat.sub_self, Nat.zero_add, Int.reduceLT, Int.reduceLE, Int.reduceEq, Int.reduceAdd, Int.reduceSub, Int.reduceMul, Int.reduceNeg, Int.reduceMod, Int.reduceDiv, Nat.zero_le, isiD_lst, isiD_int_int, isiD_int_bool, isiD_bl_bool, isiD_tup, decide_true, decide_false, hLl, show (0 : Int) < 1009 by decide, show fdivOk cell 1009 = true from fdivOk_of (by decide) (by decide)]
          exact ⟨cell / 1009, _, x6, L ++ [cell % 1009], by rw [Ints_snoc], by omega, app _ (by omega) (by omega)⟩
        · rw [if_neg h18]
          have m1 : mulOk cell 48271 = true := mulOk_r (by omega) (by omega)
          have m2 : mulOk ((i : Int) + 1) 69621 = true := mulOk_r (by omega) (by omega)
          have m3 : mulOk (at' : Int) 4001 = true := mulOk_r (by omega) (by omega)
          simp -implicitDefEqProofs only [runF_e, sSeq_e, thn_nx, thn_rt, thn_ex, thn_ct, thn_bk, toR_rt, toR_nx, toR_ex, st_ok, st_ex, st_bind, bind_bind, RQ_ok, OQ_nx, OQ_ct, OQ_bk, OQ_rt, NQ_nx, sNil, sRet_e, sRetO_q, retK_ow, retK_sh, sRetN, sExp_e, sIf_e, sSh_e, sOw_e, sMut_q, mutK_ow, mutK2_some, sSetIx_q, setK_ow, setK2_some, sAug_q, augK_sh, augK2_int, sAugIx_q, agxK_ow, agxK0_int, agxK1_some, agxK2_int, agxK3_some, sTup_q, tupK_some, sFor_e, sNo, sBk, sCt, eV_q, eO_q, slV_sh, slO_sh, slO_ow, eC, eBin, ofO_some, asB_bl, tE, tNotD, tAndD, tOrD, eAnd, eOr, eNot, eIf, eChain, tTru, truD, aNil, aCons, eTup, eLst, oNone, oSome, asI, eSl, sliceD, eCall, eFn, eFnK, eComp, okOwn_q, slOk_sh, slOk_no, slOk_none, wipeD, noX, tYesD, itSeq_q, seqK_lst, seqK_tup, seqK_scr, itRange1_q, rng1K_e, itRange2_q, rng2K_e, itEnum_q, enmK_e, itZip_q, zipK_e, bindP, binds, eNeg, eIsi, addD, subD, mulD, fdivD, modD, powD, iop, cmpI, isND, notND, D.isN, idxD, lenD, listD, tupleD, appD_lst, setD_lst, mutK2_ite, D.isL, max2D, min2D, absD, PD.intD, D.ty, frz_cons, frz1_q, frzS_ow, frzS_sh, frzS_no, frzD_lst, frzD_int, frzD_nil, frzK_nil, frz_nil, mkSl_lst, D.isMut, R.bind_ok, R.bind_no, dec_true, decide_eq_true_eq, decide_eq_false_iff_not, Bool.not_eq_true', Bool.decide_eq_true, Bool.not_eq_eq_eq_not, List.map_cons, List.map_nil, List.length_cons, List.length_nil, List.replicate_succ, List.replicate_zero, List.cons_append, List.nil_append, List.append_nil, List.getElem?_cons_zero, List.getElem?_cons_succ, List.set_cons_zero, List.set_cons_succ, List.all_cons, List.all_nil, Bool.and_true, Bool.true_and, Bool.and_self, Bool.not_true, Bool.not_false, Bool.false_eq_true, Bool.true_eq_false, if_true, if_false, ite_true, ite_false, reduceIte, Nat.add_sub_cancel, Nat.reduceSub, Nat.reduceAdd, Nat.sub_self, Nat.zero_add, Int.reduceLT, Int.reduceLE, Int.reduceEq, Int.reduceAdd, Int.reduceSub, Int.reduceMul, Int.reduceNeg, Int.reduceMod, Int.reduceDiv, Nat.zero_le, isiD_lst, isiD_int_int, isiD_int_bool, isiD_bl_bool, isiD_tup, decide_true, decide_false, hLl, m1, m2, m3]
          have hm0 : 0 ≤ (cell * 48271 + ((i : Int) + 1) * 69621 + (at' : Int) * 4001) % 2147483647 ∧ (cell * 48271 + ((i : Int) + 1) * 69621 + (at' : Int) * 4001) % 2147483647 < 2147483647 := by omega
          revert hm0
          generalize (cell * 48271 + ((i : Int) + 1) * 69621 + (at' : Int) * 4001) % 2147483647 = m
          intro hm0
          have m4 : mulOk m m = true := mulOk_r (by omega) (by omega)
          have m5 : mulOk 16807 ((i : Int) + 3) = true := mulOk_r (by omega) (by omega)
          simp -implicitDefEqProofs only [runF_e, sSeq_e, thn_nx, thn_rt, thn_ex, thn_ct, thn_bk, toR_rt, toR_nx, toR_ex, st_ok, st_ex, st_bind, bind_bind, RQ_ok, OQ_nx, OQ_ct, OQ_bk, OQ_rt, NQ_nx, sNil, sRet_e, sRetO_q, retK_ow, retK_sh, sRetN, sExp_e, sIf_e, sSh_e, sOw_e, sMut_q, mutK_ow, mutK2_some, sSetIx_q, setK_ow, setK2_some, sAug_q, augK_sh, augK2_int, sAugIx_q, agxK_ow, agxK0_int, agxK1_some, agxK2_int, agxK3_some, sTup_q, tupK_some, sFor_e, sNo, sBk, sCt, eV_q, eO_q, slV_sh, slO_sh, slO_ow, eC, eBin, ofO_some, asB_bl, tE, tNotD, tAndD, tOrD, eAnd, eOr, eNot, eIf, eChain, tTru, truD, aNil, aCons, eTup, eLst, oNone, oSome, asI, eSl, sliceD, eCall, eFn, eFnK, eComp, okOwn_q, slOk_sh, slOk_no, slOk_none, wipeD, noX, tYesD, itSeq_q, seqK_lst, seqK_tup, seqK_scr, itRange1_q, rng1K_e, itRange2_q, rng2K_e, itEnum_q, enmK_e, itZip_q, zipK_e, bindP, binds, eNeg, eIsi, addD, subD, mulD, fdivD, modD, powD, iop, cmpI, isND, notND, D.isN, idxD, lenD, listD, tupleD, appD_lst, setD_lst, mutK2_ite, D.isL, max2D, min2D, absD, PD.intD, D.ty, frz_cons, frz1_q, frzS_ow, frzS_sh, frzS_no, frzD_lst, frzD_int, frzD_nil, frzK_nil, frz_nil, mkSl_lst, D.isMut, R.bind_ok, R.bind_no, dec_true, decide_eq_true_eq, decide_eq_false_iff_not, Bool.not_eq_true', Bool.decide_eq_true, Bool.not_eq_eq_eq_not, List.map_cons, List.map_nil, List.length_cons, List.length_nil, List.replicate_succ, List.replicate_zero, List.cons_append, List.nil_append, List.append_nil, List.getElem?_cons_zero, List.getElem?_cons_succ, List.set_cons_zero, List.set_cons_succ, List.all_cons, List.all_nil, Bool.and_true, Bool.true_and, Bool.and_self, Bool.not_true, Bool.not_false, Bool.false_eq_true, Bool.true_eq_false, if_true, if_false, ite_true, ite_false, reduceIte, Nat.add_sub_cancel, Nat.reduceSub, Nat.reduceAdd, Nat.sub_self, Nat.zero_add, Int.reduceLT, Int.reduceLE, Int.reduceEq, Int.reduceAdd, Int.reduceSub, Int.reduceMul, Int.reduceNeg, Int.reduceMod, Int.reduceDiv, Nat.zero_le, isiD_lst, isiD_int_int, isiD_int_bool, isiD_bl_bool, isiD_tup, decide_true, decide_false, m4, m5]
          generalize (m * m + 16807 * ((i : Int) + 3)) % 2147483629 = m'
          simp -implicitDefEqProofs only [runF_e, sSeq_e, thn_nx, thn_rt, thn_ex, thn_ct, thn_bk, toR_rt, toR_nx, toR_ex, st_ok, st_ex, st_bind, bind_bind, RQ_ok, OQ_nx, OQ_ct, OQ_bk, OQ_rt, NQ_nx, sNil, sRet_e, sRetO_q, retK_ow, retK_sh, sRetN, sExp_e, sIf_e, sSh_e, sOw_e, sMut_q, mutK_ow, mutK2_some, sSetIx_q, setK_ow, setK2_some, sAug_q, augK_sh, augK2_int, sAugIx_q, agxK_ow, agxK0_int, agxK1_some, agxK2_int, agxK3_some, sTup_q, tupK_some, sFor_e, sNo, sBk, sCt, eV_q, eO_q, slV_sh, slO_sh, slO_ow, eC, eBin, ofO_some, asB_bl, tE, tNotD, tAndD, tOrD, eAnd, eOr, eNot, eIf, eChain, tTru, truD, aNil, aCons, eTup, eLst, oNone, oSome, asI, eSl, sliceD, eCall, eFn, eFnK, eComp, okOwn_q, slOk_sh, slOk_no, slOk_none, wipeD, noX, tYesD, itSeq_q, seqK_lst, seqK_tup, seqK_scr, itRange1_q, rng1K_e, itRange2_q, rng2K_e, itEnum_q, enmK_e, itZip_q, zipK_e, bindP, binds, eNeg, eIsi, addD, subD, mulD, fdivD, modD, powD, iop, cmpI, isND, notND, D.isN, idxD, lenD, listD, tupleD, appD_lst, setD_lst, mutK2_ite, D.isL, max2D, min2D, absD, PD.intD, D.ty, frz_cons, frz1_q, frzS_ow, frzS_sh, frzS_no, frzD_lst, frzD_int, frzD_nil, frzK_nil, frz_nil, mkSl_lst, D.isMut, R.bind_ok, R.bind_no, dec_true, decide_eq_true_eq, decide_eq_false_iff_not, Bool.not_eq_true', Bool.decide_eq_true, Bool.not_eq_eq_eq_not, List.map_cons, List.map_nil, List.length_cons, List.length_nil, List.replicate_succ, List.replicate_zero, List.cons_append, List.nil_append, List.append_nil, List.getElem?_cons_zero, List.getElem?_cons_succ, List.set_cons_zero, List.set_cons_succ, List.all_cons, List.all_nil, Bool.and_true, Bool.true_and, Bool.and_self, Bool.not_true, Bool.not_false, Bool.false_eq_true, Bool.true_eq_false, if_true, if_false, ite_true, ite_false, reduceIte, Nat.add_sub_cancel, Nat.reduceSub, Nat.reduceAdd, Nat.sub_self, Nat.zero_add, Int.reduceLT, Int.reduceLE, Int.reduceEq, Int.reduceAdd, Int.reduceSub, Int.reduceMul, Int.reduceNeg, Int.reduceMod, Int.reduceDiv, Nat.zero_le, isiD_lst, isiD_int_int, isiD_int_bool, isiD_bl_bool, isiD_tup, decide_true, decide_false, show fdivOk m' 7 = true from fdivOk_of (by decide) (by decide), hLl]
          exact ⟨cell, _, _, L ++ [m' / 7 % 1009], by rw [Ints_snoc], hc, app _ (by omega) (by omega)⟩
      · rintro ρ ⟨cell, x5, x6, L, rfl, hc, hL⟩
        simp -implicitDefEqProofs only [runF_e, sSeq_e, thn_nx, thn_rt, thn_ex, thn_ct, thn_bk, toR_rt, toR_nx, toR_ex, st_ok, st_ex, st_bind, bind_bind, RQ_ok, OQ_nx, OQ_ct, OQ_bk, OQ_rt, NQ_nx, sNil, sRet_e, sRetO_q, retK_ow, retK_sh, sRetN, sExp_e, sIf_e, sSh_e, sOw_e, sMut_q, mutK_ow, mutK2_some, sSetIx_q, setK_ow, setK2_some, sAug_q, augK_sh, augK2_int, sAugIx_q, agxK_ow, agxK0_int, agxK1_some, agxK2_int, agxK3_some, sTup_q, tupK_some, sFor_e, sNo, sBk, sCt, eV_q, eO_q, slV_sh, slO_sh, slO_ow, eC, eBin, ofO_some, asB_bl, tE, tNotD, tAndD, tOrD, eAnd, eOr, eNot, eIf, eChain, tTru, truD, aNil, aCons, eTup, eLst, oNone, oSome, asI, eSl, sliceD, eCall, eFn, eFnK, eComp, okOwn_q, slOk_sh, slOk_no, slOk_none, wipeD, noX, tYesD, itSeq_q, seqK_lst, seqK_tup, seqK_scr, itRange1_q, rng1K_e, itRange2_q, rng2K_e, itEnum_q, enmK_e, itZip_q, zipK_e, bindP, binds, eNeg, eIsi, addD, subD, mulD, fdivD, modD, powD, iop, cmpI, isND, notND, D.isN, idxD, lenD, listD, tupleD, appD_lst, setD_lst, mutK2_ite, D.isL, max2D, min2D, absD, PD.intD, D.ty, frz_cons, frz1_q, frzS_ow, frzS_sh, frzS_no, frzD_lst, frzD_int, frzD_nil, frzK_nil, frz_nil, mkSl_lst, D.isMut, R.bind_ok, R.bind_no, dec_true, decide_eq_true_eq, decide_eq_false_iff_not, Bool.not_eq_true', Bool.decide_eq_true, Bool.not_eq_eq_eq_not, List.map_cons, List.map_nil, List.length_cons, List.length_nil, List.replicate_succ, List.replicate_zero, List.cons_append, List.nil_append, List.append_nil, List.getElem?_cons_zero, List.getElem?_cons_succ, List.set_cons_zero, List.set_cons_succ, List.all_cons, List.all_nil, Bool.and_true, Bool.true_and, Bool.and_self, Bool.not_true, Bool.not_false, Bool.false_eq_true, Bool.true_eq_false, if_true, if_false, ite_true, ite_false, reduceIte, Nat.add_sub_cancel, Nat.reduceSub, Nat.reduceAdd, Nat.sub_self, Nat.zero_add, Int.reduceLT, Int.reduceLE, Int.reduceEq, Int.reduceAdd, Int.reduceSub, Int.reduceMul, Int.reduceNeg, Int.reduceMod, Int.reduceDiv, Nat.zero_le, isiD_lst, isiD_int_int, isiD_int_bool, isiD_bl_bool, isiD_tup, decide_true, decide_false]
        exact ⟨L, by simpa using hL, rfl⟩
end
end PD
set_option autoImplicit false
namespace PD
open PySem PySem.Spec PyProof.Rows L2
theorem szL : sizeLine = 16777216 := sizeLine_eq
mutual
def D.nb : D → Bool
  | .non | .int _ | .str _ => true
  | .lst ds | .tup ds => D.nbs ds
  | _ => false
def D.nbs : List D → Bool
  | [] => true
  | d :: ds => d.nb && D.nbs ds
end
theorem nbs_all : ∀ ds : List D, D.nbs ds = true ↔ ∀ d ∈ ds, d.nb = true
  | [] => by simp [D.nbs]
  | d :: ds => by simp [D.nbs, nbs_all ds]
mutual
theorem D.eqv_iff : ∀ a b : D, a.nb = true → b.nb = true → (a.eqv b = true ↔ a = b)
  | .non, b, _, h => by cases b <;> simp [D.eqv, D.py, PyData.eqv, D.nb] at h ⊢
  | .int i, b, _, h => by cases b <;> simp [D.eqv, D.py, PyData.eqv, D.nb] at h ⊢
  | .str i, b, _, h => by cases b <;> simp [D.eqv, D.py, PyData.eqv, D.nb] at h ⊢
  | .lst xs, b, g, h => by
    cases b <;> first | (simp [D.eqv, D.py, PyData.eqv, D.nb] at h ⊢; done) | skip
    rename_i ys
    have := D.eqvs_iff xs ys (by simpa [D.nb] using g) (by simpa [D.nb] using h)
    simp only [D.eqv, D.py, PyData.eqv]
    rw [this]; simp
  | .tup xs, b, g, h => by
    cases b <;> first | (simp [D.eqv, D.py, PyData.eqv, D.nb] at h ⊢; done) | skip
    rename_i ys
    have := D.eqvs_iff xs ys (by simpa [D.nb] using g) (by simpa [D.nb] using h)
    simp only [D.eqv, D.py, PyData.eqv]
    rw [this]; simp
  | .bl _, _, g, _ => by simp [D.nb] at g
  | .dK _ _, _, g, _ => by simp [D.nb] at g
  | .dT _ _, _, g, _ => by simp [D.nb] at g
  | .ins _ _ _, _, g, _ => by simp [D.nb] at g
  | .scr _, _, g, _ => by simp [D.nb] at g
theorem D.eqvs_iff : ∀ a b : List D, D.nbs a = true → D.nbs b = true → (PyData.eqvAll (D.pys a) (D.pys b) = true ↔ a = b)
  | [], [], _, _ => by simp [D.pys, PyData.eqvAll]
  | [], _ :: _, _, _ => by simp [D.pys, PyData.eqvAll]
  | _ :: _, [], _, _ => by simp [D.pys, PyData.eqvAll]
  | x :: a, y :: b, g, h => by
    simp only [D.nbs, Bool.and_eq_true] at g h
    have h1 := D.eqv_iff x y g.1 h.1
    have h2 := D.eqvs_iff a b g.2 h.2
    simp only [D.pys, PyData.eqvAll, Bool.and_eq_true]
    unfold D.eqv at h1
    rw [h1, h2]; simp
end
theorem D.eqv_dec [DecidableEq D] (a b : D) (ha : a.nb = true) (hb : b.nb = true) : a.eqv b = decide (a = b) := by
  have := D.eqv_iff a b ha hb
  by_cases e : a = b
  · rw [decide_eq_true e, this.mpr e]
  · rw [decide_eq_false e]
    cases q : a.eqv b with
    | true => exact absurd (this.mp q) e
    | false => rfl
theorem eqD_int (i j : Int) : eqD (.int i) (.int j) = some (.bl (decide (i = j))) := by
  show some (D.bl (D.eqv (.int i) (.int j))) = _
  congr 2
theorem neD_int (i j : Int) : neD (.int i) (.int j) = some (.bl (!decide (i = j))) := by
  show some (D.bl (!D.eqv (.int i) (.int j))) = _
  congr 2
theorem neD_non_int (j : Int) : neD .non (.int j) = some (.bl true) := rfl
theorem eqD_non_int (j : Int) : eqD .non (.int j) = some (.bl false) := rfl
theorem eqD_nb {a b : D} (ha : a.nb = true) (hb : b.nb = true) (sa : a.sh 60 = true) (sb : b.sh 60 = true) {c : Bool} (h : c = true ↔ a = b) : eqD a b = some (.bl c) := by
  unfold eqD
  rw [sa, sb]
  show some (D.bl (a.eqv b)) = _
  congr 2
  rw [Bool.eq_iff_iff, D.eqv_iff a b ha hb, h]
theorem neD_nb {a b : D} (ha : a.nb = true) (hb : b.nb = true) (sa : a.sh 60 = true) (sb : b.sh 60 = true) {c : Bool} (h : c = true ↔ a ≠ b) : neD a b = some (.bl c) := by
  unfold neD
  rw [sa, sb]
  show some (D.bl (!a.eqv b)) = _
  congr 2
  rw [Bool.eq_iff_iff, Bool.not_eq_true', ← Bool.not_eq_true, D.eqv_iff a b ha hb, h]
theorem eqD_self {a : D} (ha : a.nb = true) (sa : a.sh 60 = true) : eqD a a = some (.bl true) := eqD_nb ha ha sa sa (by simp)
theorem neD_self {a : D} (ha : a.nb = true) (sa : a.sh 60 = true) : neD a a = some (.bl false) := neD_nb ha ha sa sa (by simp)
theorem sh_ints (L : List Int) (n : Nat) : (Ints L).sh (n + 1) = true := by
  show D.shs (L.map D.int) n = true
  rw [shs_all]
  intro d hd
  obtain ⟨i, _, rfl⟩ := List.mem_map.mp hd
  cases n <;> rfl
theorem nb_ints (L : List Int) : (Ints L).nb = true := by
  show D.nbs (L.map D.int) = true
  rw [nbs_all]
  intro d hd
  obtain ⟨i, _, rfl⟩ := List.mem_map.mp hd
  rfl
theorem Ints_inj {L M : List Int} : Ints L = Ints M ↔ L = M := by
  constructor
  · intro h
    injection h with h
    have := congrArg asInts h
    rw [asInts_map, asInts_map] at this
    exact Option.some.inj this
  · rintro rfl; rfl
theorem atI_map {α β : Type} (f : α → β) (xs : List α) (i : Int) : atI (xs.map f) i = (atI xs i).map f := by
  unfold atI
  rw [List.length_map]
  cases ixN xs.length i with
  | none => rfl
  | some j => simp
theorem idxD_nat {ds : List D} {i : Int} {d : D} (h0 : 0 ≤ i) (h : ds[i.toNat]? = some d) : idxD (.lst ds) (.int i) = some d := by
  have h1 : i.toNat < ds.length := (List.getElem?_eq_some_iff.mp h).1
  show atI ds i = _
  rw [atI_natI h0 (by omega), h]
theorem idxD_tup {ds : List D} {i : Int} {d : D} (h0 : 0 ≤ i) (h : ds[i.toNat]? = some d) : idxD (.tup ds) (.int i) = some d := by
  have h1 : i.toNat < ds.length := (List.getElem?_eq_some_iff.mp h).1
  show atI ds i = _
  rw [atI_natI h0 (by omega), h]
theorem idxD_ints {L : List Int} {i : Int} (h0 : 0 ≤ i) (h : i < L.length) : idxD (Ints L) (.int i) = some (.int (L.getD i.toNat 0)) := by
  refine idxD_nat h0 ?_
  rw [List.getElem?_map, List.getD_eq_getElem?_getD, List.getElem?_eq_getElem (by omega)]
  rfl
theorem cutD_drop {α : Type} (xs : List α) (k : Nat) : cutD xs (some (k : Int)) none = xs.drop k := by
  unfold cutD
  rw [HT.sIx_nat, HT.sIx_none]
  rcases Nat.le_total k xs.length with h | h
  · rw [Nat.min_eq_left h]
    exact List.take_of_length_le (by rw [List.length_drop]; omega)
  · rw [Nat.min_eq_right h, Nat.sub_self]
    rw [List.drop_eq_nil_of_le h]; rfl
theorem cutD_take {α : Type} (xs : List α) (k : Nat) : cutD xs none (some (k : Int)) = xs.take k := by
  unfold cutD
  rw [HT.sIx_nat, HT.sIx_none]
  simp only [List.drop_zero, Nat.sub_zero]
  rcases Nat.le_total k xs.length with h | h
  · rw [Nat.min_eq_left h]
  · rw [Nat.min_eq_right h, List.take_of_length_le (Nat.le_refl _), List.take_of_length_le h]
theorem zipD_map {α β : Type} (f : α → D) (g : β → D) : ∀ (xs : List α) (ys : List β), zipD (xs.map f) (ys.map g) = (xs.zip ys).map fun p => .tup [f p.1, g p.2]
  | [], _ => by cases ‹List β› <;> rfl
  | _ :: _, [] => rfl
  | x :: xs, y :: ys => by
    show D.tup [f x, g y] :: zipD (xs.map f) (ys.map g) = _
    rw [zipD_map f g xs ys]; rfl
theorem enumFrom_map {α : Type} (f : α → D) : ∀ (xs : List α) (k : Nat), enumFrom k (xs.map f) = (xs.zipIdx k).map fun p => .tup [.int (p.2 : Nat), f p.1]
  | [], _ => rfl
  | x :: xs, k => by
    show D.tup [.int (k : Nat), f x] :: enumFrom (k + 1) (xs.map f) = _
    rw [enumFrom_map f xs (k + 1)]; rfl
theorem lt_ints (a b : List Int) : (Ints a).lt (Ints b) = decide (a < b) := by
  have := PySem.W.dataLt_ints a b
  unfold D.lt
  show PySem.W.dataLt (.list (D.pys (a.map D.int))) (.list (D.pys (b.map D.int))) = _
  rw [PySem.W.dataLt_list, pys_map, pys_map, List.map_map, List.map_map]
  exact this
theorem alike_ints : ∀ a b : List Int, (Ints a).alike (Ints b) = true
  | [], b => by cases b <;> rfl
  | _ :: _, [] => rfl
  | x :: a, y :: b => by
    have := alike_ints a b
    unfold D.alike at this ⊢
    show PySem.W.alikeAll (D.pys (.int x :: a.map D.int)) (D.pys (.int y :: b.map D.int)) = true
    have this : PySem.W.alikeAll (D.pys (a.map D.int)) (D.pys (b.map D.int)) = true := by simpa [D.py, PySem.W.alike] using this
    simp [D.pys, PySem.W.alikeAll, this, D.py, PySem.W.alike]
theorem moreOf_is (x : D) : ∀ (ds : List D) (d : D), x ∈ d :: ds → (∀ y ∈ d :: ds, y = x ∨ (y.lt x = true ∧ x.lt y = false)) → (x.lt x = false) → moreOf d ds = x
  | [], d, h, _, _ => (List.mem_singleton.mp h).symm
  | e :: ds, d, h, hy, hx => by
    show moreOf (if d.lt e = true then e else d) ds = x
    have go : ∀ z, z ∈ [d, e] → (x = z ∨ x ∈ ds) → moreOf z ds = x := fun z hz h1 => moreOf_is x ds z (List.mem_cons.mpr h1) (fun y h2 => by
      rcases List.mem_cons.mp h2 with rfl | h2
      · exact hy y (by rcases List.mem_cons.mp hz with rfl | hz; exact List.mem_cons_self; rw [List.mem_singleton.mp hz]; exact List.mem_cons_of_mem _ List.mem_cons_self)
      · exact hy y (List.mem_cons_of_mem _ (List.mem_cons_of_mem _ h2))) hx
    by_cases hl : d.lt e = true
    · rw [if_pos hl]
      refine go e (by simp) ?_
      rcases List.mem_cons.mp h with rfl | h
      · rcases hy e (by simp) with q | q
        · exact .inl q.symm
        · rw [q.2] at hl; cases hl
      · exact List.mem_cons.mp h
    · rw [if_neg hl]
      refine go d (by simp) ?_
      rcases List.mem_cons.mp h with rfl | h
      · exact .inl rfl
      · rcases List.mem_cons.mp h with rfl | h
        · rcases hy d (by simp) with q | q
          · exact .inl q.symm
          · exact absurd q.1 hl
        · exact .inr h
theorem le'_is : ∀ (r : List Int) (m x : Int), x ∈ m :: r → (∀ y ∈ m :: r, x ≤ y) → le' m r = x
  | [], m, x, h, _ => (List.mem_singleton.mp h).symm
  | n :: r, m, x, h, hy => by
    show le' (if n < m then n else m) r = x
    have h1 := hy m (by simp)
    have h2 := hy n (by simp)
    by_cases hl : n < m
    · rw [if_pos hl]
      refine le'_is r n x ?_ fun y h3 => hy y (List.mem_cons_of_mem _ h3)
      rcases List.mem_cons.mp h with rfl | h
      · omega
      · exact h
    · rw [if_neg hl]
      refine le'_is r m x ?_ fun y h3 => by
        rcases List.mem_cons.mp h3 with rfl | h3
        · exact h1
        · exact hy y (List.mem_cons_of_mem _ (List.mem_cons_of_mem _ h3))
      rcases List.mem_cons.mp h with rfl | h
      · exact List.mem_cons_self
      · rcases List.mem_cons.mp h with rfl | h
        · have : x = m := by omega
          rw [this]; exact List.mem_cons_self
        · exact List.mem_cons_of_mem _ h
theorem sumD_ints (L : List Int) : sumD [Ints L] = some (.int L.sum) := by
  show (asInts (L.map D.int)).map _ = _
  rw [asInts_map]; rfl
theorem allD_bls (L : List Bool) : allD [.lst (L.map D.bl)] = some (.bl (L.all id)) := by
  show (asBls (L.map D.bl)).map _ = _
  rw [asBls_map]; rfl
theorem anyD_bls (L : List Bool) : anyD [.lst (L.map D.bl)] = some (.bl (L.any id)) := by
  show (asBls (L.map D.bl)).map _ = _
  rw [asBls_map]; rfl
theorem any_ints (i : Int) (L : List Int) : ((L.map D.int).any fun z => z.eqv (.int i)) = L.contains i := by
  rw [List.any_map, Bool.eq_iff_iff, List.any_eq_true, List.contains_iff_mem]
  constructor
  · rintro ⟨x, h1, h2⟩
    have h2 : x = i := by simpa [D.eqv, D.py, PyData.eqv] using h2
    exact h2 ▸ h1
  · intro h
    exact ⟨i, h, by simp [D.eqv, D.py, PyData.eqv]⟩
theorem inD_ints (i : Int) (L : List Int) : inD (.int i) (Ints L) = some (.bl (L.contains i)) := by
  show (if ((D.int i).sh 60 && (Ints L).sh 60) = true then some (D.bl ((L.map D.int).any fun z => z.eqv (.int i))) else none) = _
  rw [sh_ints, any_ints]; rfl
theorem notInD_ints (i : Int) (L : List Int) : notInD (.int i) (Ints L) = some (.bl (!L.contains i)) := by
  show (if ((D.int i).sh 60 && (Ints L).sh 60) = true then some (D.bl (!(L.map D.int).any fun z => z.eqv (.int i))) else none) = _
  rw [sh_ints, any_ints]; rfl
theorem Drawn.at {n : Nat} {L : List Int} (h : Drawn n L) {i : Nat} (hi : i < n) : ∃ x, idxD (Ints L) (.int (i : Int)) = some (.int x) ∧ 0 ≤ x ∧ x < 1009 := by
  have hl := h.len
  refine ⟨L[i]'(by omega), ?_, h.rng _ (List.getElem_mem _)⟩
  refine idxD_nat (by omega) ?_
  rw [List.getElem?_map, Int.toNat_natCast, List.getElem?_eq_getElem (by omega)]
  rfl
end PD
namespace K55
open PySem PySem.Spec PyProof.Rows L2 PD
def topS (i : Nat) : Stmt := PySem.Challenge.pw_paintsmixed_k55_best_fillings.main.body.getD i (.Pass ⟨0, 0, 0, 0⟩)
abbrev K_GREATEST_AMOUNT : D := (.int 5000)
abbrev K_GREATEST_SIZE : D := (.int 200)
abbrev K_MOST_SIZES : D := (.int 8)
structure Txt (G : Gb) : Prop where
  m_all : G.mg "all" = none
  m_bool : G.mg "bool" = none
  m_enumerate : G.mg "enumerate" = none
  m_int : G.mg "int" = none
  m_isinstance : G.mg "isinstance" = none
  m_len : G.mg "len" = none
  m_list : G.mg "list" = none
  m_max : G.mg "max" = none
  m_min : G.mg "min" = none
  m_range : G.mg "range" = none
  m_sorted : G.mg "sorted" = none
  m_sum : G.mg "sum" = none
  m_zip : G.mg "zip" = none
  k_GREATEST_AMOUNT : Konst G "GREATEST_AMOUNT" K_GREATEST_AMOUNT
  k_GREATEST_SIZE : Konst G "GREATEST_SIZE" K_GREATEST_SIZE
  k_MOST_SIZES : Konst G "MOST_SIZES" K_MOST_SIZES
noncomputable section
variable {G : Gb} {P : Program} {w : World} {base : Heap}
def F_is_whole : FF := runF 1 (sRet (eAnd (eIsi "int" (eV 0)) (eNot (eIsi "bool" (eV 0)))))
theorem sc_is_whole : FnScope ["value"] ["value"] (defScope (topS 5)) := ⟨rfl, rfl, rfl, by decide +kernel, rfl, by decide +kernel, by decide +kernel⟩
theorem ok_is_whole {f : Addr} {fd : FuncData} (T : Txt G) (F : Fun G.K "is_whole" "is_whole" (topS 5) f fd) (hm : G.mg "is_whole" = some (.ref f))  : Dfn G P w base "is_whole" F_is_whole false 1 2 := fn_def (ps := ["value"]) F hm rfl (F.binds fun _ _ _ _ _ _ us hl => match us, hl with | [_], _ => rfl) sc_is_whole rfl fun cdv A outer s H E c =>
  (pss_one' (psd_ret (pd_and (c.isi "int" T.m_isinstance T.m_int (pd_v 0)) (pd_one (pd_not (c.isi "bool" T.m_isinstance T.m_bool (pd_v 0)))))))
def F_is_size : FF := runF 1 (sRet (eAnd (eFn F_is_whole (aCons (eV 0) aNil)) (eChain leD leD (eC (.int 1)) (eV 0) (eC K_GREATEST_SIZE))))
theorem sc_is_size : FnScope ["value"] ["value"] (defScope (topS 9)) := ⟨rfl, rfl, rfl, by decide +kernel, rfl, by decide +kernel, by decide +kernel⟩
theorem ok_is_size {f : Addr} {fd : FuncData} (T : Txt G) (F : Fun G.K "is_size" "is_size" (topS 9) f fd) (hm : G.mg "is_size" = some (.ref f)) (d_is_whole : Dfn G P w base "is_whole" F_is_whole false 1 2) : Dfn G P w base "is_size" F_is_size false 1 3 := fn_def (ps := ["value"]) F hm rfl (F.binds fun _ _ _ _ _ _ us hl => match us, hl with | [_], _ => rfl) sc_is_size rfl fun cdv A outer s H E c =>
  (pss_one' (psd_ret (pd_and (c.fn d_is_whole (by decide) (pad_cons (pd_v 0) pad_nil)) (pd_one (pd_chain op2_cmpI op2_cmpI c.rle c.rle pd_int (pd_v 0) (c.glob T.k_GREATEST_SIZE))))))
def F_are_sizes : FF := runF 4 (sSeq (sIf (tOrD (tNotD (tE (eIsi "list" (eV 0)))) (tNotD (tE (eChain leD leD (eC (.int 1)) (eCall lenD (aCons (eV 0) aNil)) (eC K_MOST_SIZES))))) (sRet (eC (.bl false))) sNil)
  (sSeq (sIf (tNotD (tE (eCall allD (aCons (eComp (itSeq (eV 0)) [] [1] (.nm 1) tYesD (eFn F_is_size (aCons (eV 1) aNil))) aNil)))) (sRet (eC (.bl false))) sNil)
  (sRet (eCall allD (aCons (eComp (itZip (aCons (eV 0) (aCons (eSl (eV 0) (oSome (eC (.int 1))) oNone) aNil))) [] [2, 3] (.tp [2, 3]) tYesD (eBin ltD (eV 2) (eV 3))) aNil)))))
theorem sc_are_sizes : FnScope ["value", "size", "before", "after"] ["value"] (defScope (topS 10)) := ⟨rfl, rfl, rfl, by decide +kernel, rfl, by decide +kernel, by decide +kernel⟩
theorem ok_are_sizes {f : Addr} {fd : FuncData} (T : Txt G) (F : Fun G.K "are_sizes" "are_sizes" (topS 10) f fd) (hm : G.mg "are_sizes" = some (.ref f)) (d_is_size : Dfn G P w base "is_size" F_is_size false 1 3) : Dfn G P w base "are_sizes" F_are_sizes false 1 4 := fn_def (ps := ["value"]) F hm rfl (F.binds fun _ _ _ _ _ _ us hl => match us, hl with | [_], _ => rfl) sc_are_sizes rfl fun cdv A outer s H E c =>
  (pss_cons' (psd_if (PWD.pt (pwd_or (ptd_not (tval (c.isi "list" T.m_isinstance T.m_list (pd_v 0)))) (pwd_or1 (ptd_not (ptd_chain op2_cmpI op2_cmpI c.rle c.rle pd_int (c.len T.m_len (pad_cons (pd_v 0) pad_nil)) (c.glob T.k_MOST_SIZES)))))) (pss_one' (psd_ret pd_bl)) pss_nil')
  (pss_cons' (psd_if (ptd_not (tval (c.all T.m_all (pad_cons (c.comp [("size", 1)] (pid_seq c.g (pd_v 0)) (pgd_name (c.blk.nm 1)) pts_yes (c.blk.fn d_is_size (by decide) (pad_cons (pd_v 1) pad_nil))) pad_nil)))) (pss_one' (psd_ret pd_bl)) pss_nil')
  (pss_one' (psd_ret (c.all T.m_all (pad_cons (c.comp [("before", 2), ("after", 3)] (c.zip T.m_zip (pad_cons (pd_v 0) (pad_cons (pd_sl c.g (pd_v 0) (pod_some pd_int) pod_none) pad_nil))) (pgd_tup c.blk.g (pgsd_cons (c.blk.nm 2) (pgsd_cons (c.blk.nm 3) pgsd_nil))) pts_yes (c.blk.lt (pd_v 2) (pd_v 3))) pad_nil))))))
def F_check_sizes : FF := runF 1 (sIf (tNotD (tE (eFn F_are_sizes (aCons (eV 0) aNil)))) sNo sNil)
theorem sc_check_sizes : FnScope ["sizes"] ["sizes"] (defScope (topS 11)) := ⟨rfl, rfl, rfl, by decide +kernel, rfl, by decide +kernel, by decide +kernel⟩
theorem ok_check_sizes {f : Addr} {fd : FuncData} (T : Txt G) (F : Fun G.K "check_sizes" "check_sizes" (topS 11) f fd) (hm : G.mg "check_sizes" = some (.ref f)) (d_are_sizes : Dfn G P w base "are_sizes" F_are_sizes false 1 4) : Dfn G P w base "check_sizes" F_check_sizes false 1 5 := fn_def (ps := ["sizes"]) F hm rfl (F.binds fun _ _ _ _ _ _ us hl => match us, hl with | [_], _ => rfl) sc_check_sizes rfl fun cdv A outer s H E c =>
  (pss_one' (psd_if (ptd_not (tval (c.fn d_are_sizes (by decide) (pad_cons (pd_v 0) pad_nil)))) (pss_one' psd_never) pss_nil'))
def F_check_amount : FF := runF 2 (sSeq (sExp (eFn F_check_sizes (aCons (eV 0) aNil)))
  (sIf (tE (eBin gtD (eV 1) (eC K_GREATEST_AMOUNT))) sNo sNil))
theorem sc_check_amount : FnScope ["sizes", "amount"] ["sizes", "amount"] (defScope (topS 14)) := ⟨rfl, rfl, rfl, by decide +kernel, rfl, by decide +kernel, by decide +kernel⟩
theorem ok_check_amount {f : Addr} {fd : FuncData} (T : Txt G) (F : Fun G.K "check_amount" "check_amount" (topS 14) f fd) (hm : G.mg "check_amount" = some (.ref f)) (d_check_sizes : Dfn G P w base "check_sizes" F_check_sizes false 1 5) : Dfn G P w base "check_amount" F_check_amount false 2 6 := fn_def (ps := ["sizes", "amount"]) F hm rfl (F.binds fun _ _ _ _ _ _ us hl => match us, hl with | [_, _], _ => rfl) sc_check_amount rfl fun cdv A outer s H E c =>
  (pss_cons' (psd_exp (c.fn d_check_sizes (by decide) (pad_cons (pd_v 0) pad_nil)))
  (pss_one' (psd_if (c.tgt (pd_v 1) (c.glob T.k_GREATEST_AMOUNT)) (pss_one' psd_never) pss_nil')))
def F_least_before : FF := runF 6 (sSeq (sSh 3 [] (eComp (itSeq (eV 1)) [] [4] (.nm 4) (tE (eBin leD (eV 4) (eV 2))) (eBin idxD (eV 0) (eBin subD (eV 2) (eV 4)))))
  (sRet (eCall minDf (aCons (eComp (itSeq (eV 3)) [] [5] (.nm 5) (tE (eBin notND (eV 5) (eC .non))) (eV 5)) aNil))))
theorem sc_least_before : FnScope ["found", "sizes", "amount", "numbers", "size", "number"] ["found", "sizes", "amount"] (defScope (topS 15)) := ⟨rfl, rfl, rfl, by decide +kernel, rfl, by decide +kernel, by decide +kernel⟩
theorem ok_least_before {f : Addr} {fd : FuncData} (T : Txt G) (F : Fun G.K "least_before" "least_before" (topS 15) f fd) (hm : G.mg "least_before" = some (.ref f))  : Dfn G P w base "least_before" F_least_before false 3 2 := fn_def (ps := ["found", "sizes", "amount"]) F hm rfl (F.binds fun _ _ _ _ _ _ us hl => match us, hl with | [_, _, _], _ => rfl) sc_least_before rfl fun cdv A outer s H E c =>
  (pss_cons' (c.compSh [("size", 4)] (pid_seq c.g (pd_v 1)) (pgd_name (c.blk.nm 4)) (pts_if (c.blk.tle (pd_v 4) (pd_v 2))) (c.blk.ix (pd_v 0) (c.blk.sub (pd_v 2) (pd_v 4))))
  (pss_one' (psd_ret (c.minDf T.m_min (pad_cons (c.comp [("number", 5)] (pid_seq c.g (pd_v 3)) (pgd_name (c.blk.nm 5)) (pts_if (c.blk.tnotN (pd_v 5) pd_non)) (pd_v 5)) pad_nil)))))
def F_table_of : FF := runF 5 (sSeq (sOw 2 [] (eLst (aCons (eC (.int 0)) aNil)))
  (sSeq (sFor (itRange2 (aCons (eC (.int 1)) (aCons (eBin addD (eV 1) (eC (.int 1))) aNil))) [] (.nm 3) (sSeq (sSh 4 [] (eFnK false F_least_before (aCons (eO 2) (aCons (eV 0) (aCons (eV 3) aNil)))))
  (sMut 2 [] D.isL appD (eIf (tE (eBin isND (eV 4) (eC .non))) (eC .non) (eBin addD (eV 4) (eC (.int 1)))))))
  (sRet (eO 2))))
theorem sc_table_of : FnScope ["sizes", "amount", "found", "reached", "before"] ["sizes", "amount"] (defScope (topS 16)) := ⟨rfl, rfl, rfl, by decide +kernel, rfl, by decide +kernel, by decide +kernel⟩
theorem ok_table_of {f : Addr} {fd : FuncData} (T : Txt G) (F : Fun G.K "table_of" "table_of" (topS 16) f fd) (hm : G.mg "table_of" = some (.ref f)) (d_least_before : Dfn G P w base "least_before" F_least_before false 3 2) : Dfn G P w base "table_of" F_table_of false 2 3 := fn_def (ps := ["sizes", "amount"]) F hm rfl (F.binds fun _ _ _ _ _ _ us hl => match us, hl with | [_, _], _ => rfl) sc_table_of rfl fun cdv A outer s H E c =>
  (pss_cons' (psd_ow (c.nm 2) (pd_lst (pad_cons pd_int pad_nil)))
  (pss_cons' (c.for (c.range2 T.m_range (pad_cons pd_int (pad_cons (c.add (pd_v 1) pd_int) pad_nil))) (pgd_name (c.nm 3)) (pss_cons' (psd_sh (c.nm 4) (c.fnK d_least_before (by decide) (pad_cons (pd_o 2) (pad_cons (pd_v 0) (pad_cons (pd_v 3) pad_nil)))))
  (pss_one' (c.app 2 (pd_if (c.tisN (pd_v 4) pd_non) pd_non (c.add (pd_v 4) pd_int))))))
  (pss_one' (psd_ret (pd_o 2)))))
def F_most_tins : FF := runF 5 (sSeq (sSh 4 [] (eCall min2D (aCons (eV 3) (aCons (eBin fdivD (eV 2) (eV 0)) aNil))))
  (sSeq (sWhile (tE (eBin neD (eBin idxD (eV 1) (eBin subD (eV 2) (eBin mulD (eV 4) (eV 0)))) (eBin subD (eV 3) (eV 4)))) (sAug 4 (fun i j => i - j) (eC (.int 1))))
  (sRet (eV 4))))
theorem sc_most_tins : FnScope ["size", "others", "amount", "due", "number"] ["size", "others", "amount", "due"] (defScope (topS 17)) := ⟨rfl, rfl, rfl, by decide +kernel, rfl, by decide +kernel, by decide +kernel⟩
theorem ok_most_tins {f : Addr} {fd : FuncData} (T : Txt G) (F : Fun G.K "most_tins" "most_tins" (topS 17) f fd) (hm : G.mg "most_tins" = some (.ref f))  : Dfn G P w base "most_tins" F_most_tins false 4 2 := fn_def (ps := ["size", "others", "amount", "due"]) F hm rfl (F.binds fun _ _ _ _ _ _ us hl => match us, hl with | [_, _, _, _], _ => rfl) sc_most_tins rfl fun cdv A outer s H E c =>
  (pss_cons' (psd_sh (c.nm 4) (c.min2 T.m_min (pad_cons (pd_v 3) (pad_cons (c.fdiv (pd_v 2) (pd_v 0)) pad_nil))))
  (pss_cons' (c.while (c.tne (c.ix (pd_v 1) (c.sub (pd_v 2) (c.mul (pd_v 4) (pd_v 0)))) (c.sub (pd_v 3) (pd_v 4))) (pss_one' (psd_aug (c.nm 4) pd_int (fun _ => ip_sub))))
  (pss_one' (psd_ret (pd_v 4)))))
def F_no_sizes_table : FF := runF 1 (sRet (eBin addD (eLst (aCons (eC (.int 0)) aNil)) (eBin mulD (eLst (aCons (eC .non) aNil)) (eV 0))))
theorem sc_no_sizes_table : FnScope ["amount"] ["amount"] (defScope (topS 18)) := ⟨rfl, rfl, rfl, by decide +kernel, rfl, by decide +kernel, by decide +kernel⟩
theorem ok_no_sizes_table {f : Addr} {fd : FuncData} (T : Txt G) (F : Fun G.K "no_sizes_table" "no_sizes_table" (topS 18) f fd) (hm : G.mg "no_sizes_table" = some (.ref f))  : Dfn G P w base "no_sizes_table" F_no_sizes_table false 1 2 := fn_def (ps := ["amount"]) F hm rfl (F.binds fun _ _ _ _ _ _ us hl => match us, hl with | [_], _ => rfl) sc_no_sizes_table rfl fun cdv A outer s H E c =>
  (pss_one' (psd_ret (c.add (pd_lst (pad_cons pd_int pad_nil)) (c.mul (pd_lst (pad_cons pd_non pad_nil)) (pd_v 0)))))
def F_best_filling : FF := runF 10 (sSeq (sExp (eFn F_check_amount (aCons (eV 0) (aCons (eV 1) aNil))))
  (sSeq (sSh 2 [] (eBin idxD (eFn F_table_of (aCons (eV 0) (aCons (eV 1) aNil))) (eV 1)))
  (sSeq (sIf (tE (eBin isND (eV 2) (eC .non))) (sRet (eC .non)) sNil)
  (sSeq (sOw 3 [] (eLst aNil))
  (sSeq (sSh 4 [] (eV 1))
  (sSeq (sFor (itEnum (aCons (eV 0) aNil)) [] (.tp [5, 6]) (sSeq (sSh 7 [] (eSl (eV 0) (oSome (eBin addD (eV 5) (eC (.int 1)))) oNone))
  (sSeq (sSh 8 [] (eIf (tTru (eV 7)) (eFn F_table_of (aCons (eV 7) (aCons (eV 4) aNil))) (eFn F_no_sizes_table (aCons (eV 4) aNil))))
  (sSeq (sSh 9 [] (eFn F_most_tins (aCons (eV 6) (aCons (eV 8) (aCons (eV 4) (aCons (eV 2) aNil))))))
  (sSeq (sMut 3 [] D.isL appD (eV 9))
  (sSeq (sAug 4 (fun i j => i - j) (eBin mulD (eV 9) (eV 6)))
  (sAug 2 (fun i j => i - j) (eV 9))))))))
  (sRet (eO 3))))))))
theorem sc_best_filling : FnScope ["sizes", "amount", "due", "numbers", "left", "index", "size", "greater", "others", "number"] ["sizes", "amount"] (defScope (topS 19)) := ⟨rfl, rfl, rfl, by decide +kernel, rfl, by decide +kernel, by decide +kernel⟩
theorem ok_best_filling {f : Addr} {fd : FuncData} (T : Txt G) (F : Fun G.K "best_filling" "best_filling" (topS 19) f fd) (hm : G.mg "best_filling" = some (.ref f)) (d_check_amount : Dfn G P w base "check_amount" F_check_amount false 2 6) (d_table_of : Dfn G P w base "table_of" F_table_of false 2 3) (d_no_sizes_table : Dfn G P w base "no_sizes_table" F_no_sizes_table false 1 2) (d_most_tins : Dfn G P w base "most_tins" F_most_tins false 4 2) : Dfn G P w base "best_filling" F_best_filling false 2 7 := fn_def (ps := ["sizes", "amount"]) F hm rfl (F.binds fun _ _ _ _ _ _ us hl => match us, hl with | [_, _], _ => rfl) sc_best_filling rfl fun cdv A outer s H E c =>
  (pss_cons' (psd_exp (c.fn d_check_amount (by decide) (pad_cons (pd_v 0) (pad_cons (pd_v 1) pad_nil))))
  (pss_cons' (psd_sh (c.nm 2) (c.ix (c.fn d_table_of (by decide) (pad_cons (pd_v 0) (pad_cons (pd_v 1) pad_nil))) (pd_v 1)))
  (pss_cons' (psd_if (c.tisN (pd_v 2) pd_non) (pss_one' (psd_ret pd_non)) pss_nil')
  (pss_cons' (psd_ow (c.nm 3) (pd_lst pad_nil))
  (pss_cons' (psd_sh (c.nm 4) (pd_v 1))
  (pss_cons' (c.for (c.enum T.m_enumerate (pad_cons (pd_v 0) pad_nil)) (pgd_tup c.g (pgsd_cons (c.nm 5) (pgsd_cons (c.nm 6) pgsd_nil))) (pss_cons' (psd_sh (c.nm 7) (pd_sl c.g (pd_v 0) (pod_some (c.add (pd_v 5) pd_int)) pod_none))
  (pss_cons' (psd_sh (c.nm 8) (pd_if (c.tru (pd_v 7)) (c.fn d_table_of (by decide) (pad_cons (pd_v 7) (pad_cons (pd_v 4) pad_nil))) (c.fn d_no_sizes_table (by decide) (pad_cons (pd_v 4) pad_nil))))
  (pss_cons' (psd_sh (c.nm 9) (c.fn d_most_tins (by decide) (pad_cons (pd_v 6) (pad_cons (pd_v 8) (pad_cons (pd_v 4) (pad_cons (pd_v 2) pad_nil))))))
  (pss_cons' (c.app 3 (pd_v 9))
  (pss_cons' (psd_aug (c.nm 4) (c.mul (pd_v 9) (pd_v 6)) (fun _ => ip_sub))
  (pss_one' (psd_aug (c.nm 2) (pd_v 9) (fun _ => ip_sub)))))))))
  (pss_one' (psd_ret (pd_o 3)))))))))
def F_ways : FF := runF 5 (sSeq (sExp (eFn F_check_amount (aCons (eV 0) (aCons (eV 1) aNil))))
  (sSeq (sOw 2 [] (eBin addD (eLst (aCons (eC (.int 1)) aNil)) (eBin mulD (eLst (aCons (eC (.int 0)) aNil)) (eV 1))))
  (sSeq (sFor (itSeq (eV 0)) [] (.nm 3) (sFor (itRange2 (aCons (eV 3) (aCons (eBin addD (eV 1) (eC (.int 1))) aNil))) [] (.nm 4) (sAugIx 2 (fun i j => i + j) (eV 4) (eBin idxD (eO 2) (eBin subD (eV 4) (eV 3))))))
  (sRet (eBin idxD (eO 2) (eV 1))))))
theorem sc_ways : FnScope ["sizes", "amount", "found", "size", "reached"] ["sizes", "amount"] (defScope (topS 20)) := ⟨rfl, rfl, rfl, by decide +kernel, rfl, by decide +kernel, by decide +kernel⟩
theorem ok_ways {f : Addr} {fd : FuncData} (T : Txt G) (F : Fun G.K "ways" "ways" (topS 20) f fd) (hm : G.mg "ways" = some (.ref f)) (d_check_amount : Dfn G P w base "check_amount" F_check_amount false 2 6) : Dfn G P w base "ways" F_ways false 2 7 := fn_def (ps := ["sizes", "amount"]) F hm rfl (F.binds fun _ _ _ _ _ _ us hl => match us, hl with | [_, _], _ => rfl) sc_ways rfl fun cdv A outer s H E c =>
  (pss_cons' (psd_exp (c.fn d_check_amount (by decide) (pad_cons (pd_v 0) (pad_cons (pd_v 1) pad_nil))))
  (pss_cons' (psd_ow (c.nm 2) (c.add (pd_lst (pad_cons pd_int pad_nil)) (c.mul (pd_lst (pad_cons pd_int pad_nil)) (pd_v 1))))
  (pss_cons' (c.for (pid_seq c.g (pd_v 0)) (pgd_name (c.nm 3)) (pss_one' (c.for (c.range2 T.m_range (pad_cons (pd_v 3) (pad_cons (c.add (pd_v 1) pd_int) pad_nil))) (pgd_name (c.nm 4)) (pss_one' (psd_augIx c.g (i := 2) (c.ix (pd_o 2) (c.sub (pd_v 4) (pd_v 3))) (pd_v 4) (fun _ => ip_add))))))
  (pss_one' (psd_ret (c.ix (pd_o 2) (pd_v 1)))))))
def F__law_numbers : FF := runF 7 (sSeq (sSh 3 [] (eBin mulD (eC (.int 1000003)) (eBin addD (eV 1) (eC (.int 1)))))
  (sSeq (sIf (tE (eBin ltD (eV 1) (eCall lenD (aCons (eV 0) aNil)))) (sSh 3 [] (eCall intD (aCons (eBin idxD (eV 0) (eV 1)) aNil))) sNil)
  (sSeq (sIf (tE (eBin ltD (eV 3) (eC (.int 0)))) (sSh 3 [] (eBin subD (eC (.int 1)) (eBin mulD (eC (.int 2)) (eV 3)))) sNil)
  (sSeq (sOw 4 [] (eLst aNil))
  (sSeq (sFor (itRange1 (aCons (eV 2) aNil)) [] (.nm 5) (sIf (tE (eBin geD (eV 3) (eBin powD (eC (.int 10)) (eC (.int 18))))) (sSeq (sMut 4 [] D.isL appD (eBin modD (eV 3) (eC (.int 1009))))
  (sSh 3 [] (eBin fdivD (eV 3) (eC (.int 1009))))) (sSeq (sSh 6 [] (eBin modD (eBin addD (eBin addD (eBin mulD (eV 3) (eC (.int 48271))) (eBin mulD (eBin addD (eV 5) (eC (.int 1))) (eC (.int 69621)))) (eBin mulD (eV 1) (eC (.int 4001)))) (eC (.int 2147483647))))
  (sSeq (sSh 6 [] (eBin modD (eBin addD (eBin mulD (eV 6) (eV 6)) (eBin mulD (eC (.int 16807)) (eBin addD (eV 5) (eC (.int 3))))) (eC (.int 2147483629))))
  (sMut 4 [] D.isL appD (eBin modD (eBin fdivD (eV 6) (eC (.int 7))) (eC (.int 1009))))))))
  (sRet (eO 4)))))))
theorem sc__law_numbers : FnScope ["script", "at", "count", "cell", "numbers", "k", "mixed"] ["script", "at", "count"] (defScope (topS 22)) := ⟨rfl, rfl, rfl, by decide +kernel, rfl, by decide +kernel, by decide +kernel⟩
theorem ok__law_numbers {f : Addr} {fd : FuncData} (T : Txt G) (F : Fun G.K "_law_numbers" "_law_numbers" (topS 22) f fd) (hm : G.mg "_law_numbers" = some (.ref f))  : Dfn G P w base "_law_numbers" F__law_numbers false 3 2 := fn_def (ps := ["script", "at", "count"]) F hm rfl (F.binds fun _ _ _ _ _ _ us hl => match us, hl with | [_, _, _], _ => rfl) sc__law_numbers rfl fun cdv A outer s H E c =>
  (pss_cons' (psd_sh (c.nm 3) (c.mul pd_int (c.add (pd_v 1) pd_int)))
  (pss_cons' (psd_if (c.tlt (pd_v 1) (c.len T.m_len (pad_cons (pd_v 0) pad_nil))) (pss_one' (psd_sh (c.nm 3) (c.int T.m_int (pad_cons (c.ix (pd_v 0) (pd_v 1)) pad_nil)))) pss_nil')
  (pss_cons' (psd_if (c.tlt (pd_v 3) pd_int) (pss_one' (psd_sh (c.nm 3) (c.sub pd_int (c.mul pd_int (pd_v 3))))) pss_nil')
  (pss_cons' (psd_ow (c.nm 4) (pd_lst pad_nil))
  (pss_cons' (c.for (c.range1 T.m_range (pad_cons (pd_v 2) pad_nil)) (pgd_name (c.nm 5)) (pss_one' (psd_if (c.tge (pd_v 3) (c.pow pd_int pd_int)) (pss_cons' (c.app 4 (c.mod (pd_v 3) pd_int))
  (pss_one' (psd_sh (c.nm 3) (c.fdiv (pd_v 3) pd_int)))) (pss_cons' (psd_sh (c.nm 6) (c.mod (c.add (c.add (c.mul (pd_v 3) pd_int) (c.mul (c.add (pd_v 5) pd_int) pd_int)) (c.mul (pd_v 1) pd_int)) pd_int))
  (pss_cons' (psd_sh (c.nm 6) (c.mod (c.add (c.mul (pd_v 6) (pd_v 6)) (c.mul pd_int (c.add (pd_v 5) pd_int))) pd_int))
  (pss_one' (c.app 4 (c.mod (c.fdiv (pd_v 6) pd_int) pd_int))))))))
  (pss_one' (psd_ret (pd_o 4))))))))
def F__law_is_integer : FF := runF 1 (sRet (eAnd (eIsi "int" (eV 0)) (eNot (eIsi "bool" (eV 0)))))
theorem sc__law_is_integer : FnScope ["value"] ["value"] (defScope (topS 23)) := ⟨rfl, rfl, rfl, by decide +kernel, rfl, by decide +kernel, by decide +kernel⟩
theorem ok__law_is_integer {f : Addr} {fd : FuncData} (T : Txt G) (F : Fun G.K "_law_is_integer" "_law_is_integer" (topS 23) f fd) (hm : G.mg "_law_is_integer" = some (.ref f))  : Dfn G P w base "_law_is_integer" F__law_is_integer false 1 2 := fn_def (ps := ["value"]) F hm rfl (F.binds fun _ _ _ _ _ _ us hl => match us, hl with | [_], _ => rfl) sc__law_is_integer rfl fun cdv A outer s H E c =>
  (pss_one' (psd_ret (pd_and (c.isi "int" T.m_isinstance T.m_int (pd_v 0)) (pd_one (pd_not (c.isi "bool" T.m_isinstance T.m_bool (pd_v 0)))))))
def F__law_sizes : FF := runF 5 (sSeq (sOw 2 [] (eLst aNil))
  (sSeq (sFor (itRange1 (aCons (eBin idxD (eLst (aCons (eC (.int 1)) (aCons (eC (.int 2)) (aCons (eC (.int 2)) (aCons (eC (.int 3)) (aCons (eC (.int 3)) (aCons (eC (.int 4)) (aCons (eC (.int 5)) (aCons (eC (.int 8)) aNil))))))))) (eBin modD (eBin idxD (eV 0) (eC (.int 0))) (eC (.int 8)))) aNil)) [] (.nm 3) (sSeq (sSh 4 [] (eBin addD (eC (.int 1)) (eBin modD (eBin idxD (eV 0) (eBin addD (eC (.int 2)) (eV 3))) (eV 1))))
  (sSeq (sIf (tE (eBin eqD (eBin modD (eBin idxD (eV 0) (eC (.int 1))) (eC (.int 5))) (eC (.int 0)))) (sSh 4 [] (eCall min2D (aCons (eC (.int 200)) (aCons (eBin mulD (eC (.int 6)) (eBin addD (eC (.int 1)) (eBin fdivD (eV 4) (eC (.int 6))))) aNil)))) sNil)
  (sSeq (sIf (tE (eBin eqD (eBin modD (eBin idxD (eV 0) (eC (.int 1))) (eC (.int 5))) (eC (.int 1)))) (sSh 4 [] (eBin addD (eC (.int 1)) (eBin fdivD (eV 4) (eC (.int 4))))) sNil)
  (sIf (tE (eBin notInD (eV 4) (eO 2))) (sMut 2 [] D.isL appD (eV 4)) sNil)))))
  (sRet (eCall sortedU (aCons (eO 2) aNil)))))
theorem sc__law_sizes : FnScope ["numbers", "most", "sizes", "k", "size"] ["numbers", "most"] (defScope (topS 24)) := ⟨rfl, rfl, rfl, by decide +kernel, rfl, by decide +kernel, by decide +kernel⟩
theorem ok__law_sizes {f : Addr} {fd : FuncData} (T : Txt G) (F : Fun G.K "_law_sizes" "_law_sizes" (topS 24) f fd) (hm : G.mg "_law_sizes" = some (.ref f))  : Dfn G P w base "_law_sizes" F__law_sizes false 2 2 := fn_def (ps := ["numbers", "most"]) F hm rfl (F.binds fun _ _ _ _ _ _ us hl => match us, hl with | [_, _], _ => rfl) sc__law_sizes rfl fun cdv A outer s H E c =>
  (pss_cons' (psd_ow (c.nm 2) (pd_lst pad_nil))
  (pss_cons' (c.for (c.range1 T.m_range (pad_cons (c.ix (pd_lst (pad_cons pd_int (pad_cons pd_int (pad_cons pd_int (pad_cons pd_int (pad_cons pd_int (pad_cons pd_int (pad_cons pd_int (pad_cons pd_int pad_nil))))))))) (c.mod (c.ix (pd_v 0) pd_int) pd_int)) pad_nil)) (pgd_name (c.nm 3)) (pss_cons' (psd_sh (c.nm 4) (c.add pd_int (c.mod (c.ix (pd_v 0) (c.add pd_int (pd_v 3))) (pd_v 1))))
  (pss_cons' (psd_if (c.teq (c.mod (c.ix (pd_v 0) pd_int) pd_int) pd_int) (pss_one' (psd_sh (c.nm 4) (c.min2 T.m_min (pad_cons pd_int (pad_cons (c.mul pd_int (c.add pd_int (c.fdiv (pd_v 4) pd_int))) pad_nil))))) pss_nil')
  (pss_cons' (psd_if (c.teq (c.mod (c.ix (pd_v 0) pd_int) pd_int) pd_int) (pss_one' (psd_sh (c.nm 4) (c.add pd_int (c.fdiv (pd_v 4) pd_int)))) pss_nil')
  (pss_one' (psd_if (c.tnotin (pd_v 4) (pd_o 2)) (pss_one' (c.app 2 (pd_v 4))) pss_nil'))))))
  (pss_one' (psd_ret (c.sortedU T.m_sorted (pad_cons (pd_o 2) pad_nil))))))
def F__law_fillings : FF := runF 8 (sSeq (sSh 2 [] (eLst (aCons (eTup (aCons (eLst aNil) (aCons (eV 1) aNil))) aNil)))
  (sSeq (sFor (itSeq (eV 0)) [] (.nm 3) (sSeq (sOw 4 [] (eLst aNil))
  (sSeq (sFor (itSeq (eV 2)) [] (.tp [5, 6]) (sFor (itRange1 (aCons (eBin addD (eBin fdivD (eV 6) (eV 3)) (eC (.int 1))) aNil)) [] (.nm 7) (sMut 4 [] D.isL appD (eTup (aCons (eBin addD (eV 5) (eLst (aCons (eV 7) aNil))) (aCons (eBin subD (eV 6) (eBin mulD (eV 7) (eV 3))) aNil))))))
  (sSh 2 [4] (eO 4)))))
  (sRet (eComp (itSeq (eV 2)) [] [5, 6] (.tp [5, 6]) (tE (eBin eqD (eV 6) (eC (.int 0)))) (eV 5)))))
theorem sc__law_fillings : FnScope ["sizes", "amount", "found", "size", "longer", "numbers", "left", "number"] ["sizes", "amount"] (defScope (topS 25)) := ⟨rfl, rfl, rfl, by decide +kernel, rfl, by decide +kernel, by decide +kernel⟩
theorem ok__law_fillings {f : Addr} {fd : FuncData} (T : Txt G) (F : Fun G.K "_law_fillings" "_law_fillings" (topS 25) f fd) (hm : G.mg "_law_fillings" = some (.ref f))  : Dfn G P w base "_law_fillings" F__law_fillings false 2 2 := fn_def (ps := ["sizes", "amount"]) F hm rfl (F.binds fun _ _ _ _ _ _ us hl => match us, hl with | [_, _], _ => rfl) sc__law_fillings rfl fun cdv A outer s H E c =>
  (pss_cons' (psd_sh (c.nm 2) (pd_lst (pad_cons (pd_tup (pad_cons (pd_lst pad_nil) (pad_cons (pd_v 1) pad_nil))) pad_nil)))
  (pss_cons' (c.for (pid_seq c.g (pd_v 0)) (pgd_name (c.nm 3)) (pss_cons' (psd_ow (c.nm 4) (pd_lst pad_nil))
  (pss_cons' (c.for (pid_seq c.g (pd_v 2)) (pgd_tup c.g (pgsd_cons (c.nm 5) (pgsd_cons (c.nm 6) pgsd_nil))) (pss_one' (c.for (c.range1 T.m_range (pad_cons (c.add (c.fdiv (pd_v 6) (pd_v 3)) pd_int) pad_nil)) (pgd_name (c.nm 7)) (pss_one' (c.app 4 (pd_tup (pad_cons (c.add (pd_v 5) (pd_lst (pad_cons (pd_v 7) pad_nil))) (pad_cons (c.sub (pd_v 6) (c.mul (pd_v 7) (pd_v 3))) pad_nil))))))))
  (pss_one' (psd_sh (c.nm 2) (pd_o 4))))))
  (pss_one' (psd_ret (c.comp [("numbers", 5), ("left", 6)] (pid_seq c.g (pd_v 2)) (pgd_tup c.blk.g (pgsd_cons (c.blk.nm 5) (pgsd_cons (c.blk.nm 6) pgsd_nil))) (pts_if (c.blk.teq (pd_v 6) pd_int)) (pd_v 5))))))
def F__law_fewest : FF := runF 6 (sSeq (sOw 2 [] (eBin addD (eLst (aCons (eC (.int 0)) aNil)) (eBin mulD (eLst (aCons (eC .non) aNil)) (eV 1))))
  (sSeq (sFor (itRange2 (aCons (eC (.int 1)) (aCons (eBin addD (eV 1) (eC (.int 1))) aNil))) [] (.nm 3) (sSeq (sSh 4 [] (eComp (itSeq (eV 0)) [] [5] (.nm 5) (tAndD (tE (eBin leD (eV 5) (eV 3))) (tE (eBin notND (eBin idxD (eO 2) (eBin subD (eV 3) (eV 5))) (eC .non)))) (eBin idxD (eO 2) (eBin subD (eV 3) (eV 5)))))
  (sIf (tTru (eV 4)) (sSetIx 2 [] (eBin addD (eC (.int 1)) (eCall minU (aCons (eV 4) aNil))) (eV 3)) sNil)))
  (sRet (eO 2))))
theorem sc__law_fewest : FnScope ["sizes", "amount", "found", "reached", "before", "size"] ["sizes", "amount"] (defScope (topS 26)) := ⟨rfl, rfl, rfl, by decide +kernel, rfl, by decide +kernel, by decide +kernel⟩
theorem ok__law_fewest {f : Addr} {fd : FuncData} (T : Txt G) (F : Fun G.K "_law_fewest" "_law_fewest" (topS 26) f fd) (hm : G.mg "_law_fewest" = some (.ref f))  : Dfn G P w base "_law_fewest" F__law_fewest false 2 2 := fn_def (ps := ["sizes", "amount"]) F hm rfl (F.binds fun _ _ _ _ _ _ us hl => match us, hl with | [_, _], _ => rfl) sc__law_fewest rfl fun cdv A outer s H E c =>
  (pss_cons' (psd_ow (c.nm 2) (c.add (pd_lst (pad_cons pd_int pad_nil)) (c.mul (pd_lst (pad_cons pd_non pad_nil)) (pd_v 1))))
  (pss_cons' (c.for (c.range2 T.m_range (pad_cons pd_int (pad_cons (c.add (pd_v 1) pd_int) pad_nil))) (pgd_name (c.nm 3)) (pss_cons' (c.compSh [("size", 5)] (pid_seq c.g (pd_v 0)) (pgd_name (c.blk.nm 5)) (pts_if (PWD.pt (pwd_and (c.blk.tle (pd_v 5) (pd_v 3)) (pwd_and1 (c.blk.tnotN (c.blk.ix (pd_o 2) (c.blk.sub (pd_v 3) (pd_v 5))) pd_non))))) (c.blk.ix (pd_o 2) (c.blk.sub (pd_v 3) (pd_v 5))))
  (pss_one' (psd_if (c.tru (pd_v 4)) (pss_one' (psd_setIx (i := 2) (by decide) (c.add pd_int (c.minU T.m_min (pad_cons (pd_v 4) pad_nil))) (pd_v 3))) pss_nil'))))
  (pss_one' (psd_ret (pd_o 2)))))
def F__law_small_ones : FF := runF 10 (sSeq (sSh 2 [] (eFn F__law_fillings (aCons (eV 0) (aCons (eV 1) aNil))))
  (sSeq (sSh 3 [] (eCall listD (aCons (eV 0) aNil)))
  (sSeq (sSh 4 [] (eFn F_best_filling (aCons (eV 3) (aCons (eV 1) aNil))))
  (sSeq (sSh 5 [] (eFn F_ways (aCons (eV 3) (aCons (eV 1) aNil))))
  (sSeq (sIf (tOrD (tE (eBin neD (eV 3) (eV 0))) (tOrD (tNotD (tE (eFn F__law_is_integer (aCons (eV 5) aNil)))) (tE (eBin neD (eV 5) (eCall lenD (aCons (eV 2) aNil)))))) (sRet (eC (.bl false))) sNil)
  (sSeq (sIf (tNotD (tTru (eV 2))) (sRet (eBin isND (eV 4) (eC .non))) sNil)
  (sSeq (sSh 6 [] (eCall minU (aCons (eComp (itSeq (eV 2)) [] [7] (.nm 7) tYesD (eCall sumD (aCons (eV 7) aNil))) aNil)))
  (sSeq (sSh 8 [] (eCall maxU (aCons (eComp (itSeq (eV 2)) [] [7] (.nm 7) (tE (eBin eqD (eCall sumD (aCons (eV 7) aNil)) (eV 6))) (eV 7)) aNil)))
  (sRet (eAnd (eIsi "list" (eV 4)) (eAnd (eBin eqD (eV 4) (eV 8)) (eCall allD (aCons (eComp (itSeq (eV 4)) [] [9] (.nm 9) tYesD (eFn F__law_is_integer (aCons (eV 9) aNil))) aNil)))))))))))))
theorem sc__law_small_ones : FnScope ["sizes", "amount", "every", "kept", "told", "many", "least", "numbers", "due", "number"] ["sizes", "amount"] (defScope (topS 27)) := ⟨rfl, rfl, rfl, by decide +kernel, rfl, by decide +kernel, by decide +kernel⟩
theorem ok__law_small_ones {f : Addr} {fd : FuncData} (T : Txt G) (F : Fun G.K "_law_small_ones" "_law_small_ones" (topS 27) f fd) (hm : G.mg "_law_small_ones" = some (.ref f)) (d__law_fillings : Dfn G P w base "_law_fillings" F__law_fillings false 2 2) (d_best_filling : Dfn G P w base "best_filling" F_best_filling false 2 7) (d_ways : Dfn G P w base "ways" F_ways false 2 7) (d__law_is_integer : Dfn G P w base "_law_is_integer" F__law_is_integer false 1 2) : Dfn G P w base "_law_small_ones" F__law_small_ones false 2 8 := fn_def (ps := ["sizes", "amount"]) F hm rfl (F.binds fun _ _ _ _ _ _ us hl => match us, hl with | [_, _], _ => rfl) sc__law_small_ones rfl fun cdv A outer s H E c =>
  (pss_cons' (psd_sh (c.nm 2) (c.fn d__law_fillings (by decide) (pad_cons (pd_v 0) (pad_cons (pd_v 1) pad_nil))))
  (pss_cons' (psd_sh (c.nm 3) (c.list T.m_list (pad_cons (pd_v 0) pad_nil)))
  (pss_cons' (psd_sh (c.nm 4) (c.fn d_best_filling (by decide) (pad_cons (pd_v 3) (pad_cons (pd_v 1) pad_nil))))
  (pss_cons' (psd_sh (c.nm 5) (c.fn d_ways (by decide) (pad_cons (pd_v 3) (pad_cons (pd_v 1) pad_nil))))
  (pss_cons' (psd_if (PWD.pt (pwd_or (c.tne (pd_v 3) (pd_v 0)) (pwd_or (ptd_not (tval (c.fn d__law_is_integer (by decide) (pad_cons (pd_v 5) pad_nil)))) (pwd_or1 (c.tne (pd_v 5) (c.len T.m_len (pad_cons (pd_v 2) pad_nil))))))) (pss_one' (psd_ret pd_bl)) pss_nil')
  (pss_cons' (psd_if (ptd_not (c.tru (pd_v 2))) (pss_one' (psd_ret (c.isN (pd_v 4) pd_non))) pss_nil')
  (pss_cons' (psd_sh (c.nm 6) (c.minU T.m_min (pad_cons (c.comp [("numbers", 7)] (pid_seq c.g (pd_v 2)) (pgd_name (c.blk.nm 7)) pts_yes (c.blk.sum T.m_sum (pad_cons (pd_v 7) pad_nil))) pad_nil)))
  (pss_cons' (psd_sh (c.nm 8) (c.maxU T.m_max (pad_cons (c.comp [("numbers", 7)] (pid_seq c.g (pd_v 2)) (pgd_name (c.blk.nm 7)) (pts_if (c.blk.teq (c.blk.sum T.m_sum (pad_cons (pd_v 7) pad_nil)) (pd_v 6))) (pd_v 7)) pad_nil)))
  (pss_one' (psd_ret (pd_and (c.isi "list" T.m_isinstance T.m_list (pd_v 4)) (pd_and (c.eq (pd_v 4) (pd_v 8)) (pd_one (c.all T.m_all (pad_cons (c.comp [("number", 9)] (pid_seq c.g (pd_v 4)) (pgd_name (c.blk.nm 9)) pts_yes (c.blk.fn d__law_is_integer (by decide) (pad_cons (pd_v 9) pad_nil))) pad_nil)))))))))))))))
def F__law_large_ones : FF := runF 8 (sSeq (sSh 2 [] (eFn F_best_filling (aCons (eCall listD (aCons (eV 0) aNil)) (aCons (eV 1) aNil))))
  (sSeq (sSh 3 [] (eBin idxD (eFn F__law_fewest (aCons (eV 0) (aCons (eV 1) aNil))) (eV 1)))
  (sSeq (sIf (tE (eBin isND (eV 3) (eC .non))) (sRet (eBin isND (eV 2) (eC .non))) sNil)
  (sSeq (sIf (tOrD (tNotD (tE (eIsi "list" (eV 2)))) (tOrD (tE (eBin neD (eCall lenD (aCons (eV 2) aNil)) (eCall lenD (aCons (eV 0) aNil)))) (tNotD (tE (eCall allD (aCons (eComp (itSeq (eV 2)) [] [4] (.nm 4) tYesD (eAnd (eFn F__law_is_integer (aCons (eV 4) aNil)) (eBin geD (eV 4) (eC (.int 0))))) aNil)))))) (sRet (eC (.bl false))) sNil)
  (sSeq (sIf (tOrD (tE (eBin neD (eCall sumD (aCons (eV 2) aNil)) (eV 3))) (tE (eBin neD (eCall sumD (aCons (eComp (itRange1 (aCons (eCall lenD (aCons (eV 0) aNil)) aNil)) [] [5] (.nm 5) tYesD (eBin mulD (eBin idxD (eV 2) (eV 5)) (eBin idxD (eV 0) (eV 5)))) aNil)) (eV 1)))) (sRet (eC (.bl false))) sNil)
  (sSeq (sSh 6 [] (eV 1))
  (sSeq (sFor (itRange1 (aCons (eCall lenD (aCons (eV 0) aNil)) aNil)) [] (.nm 5) (sSeq (sSh 7 [] (eFn F__law_fewest (aCons (eSl (eV 0) (oSome (eBin addD (eV 5) (eC (.int 1)))) oNone) (aCons (eV 6) aNil))))
  (sSeq (sFor (itRange2 (aCons (eBin addD (eBin idxD (eV 2) (eV 5)) (eC (.int 1))) (aCons (eBin addD (eCall min2D (aCons (eV 3) (aCons (eBin fdivD (eV 6) (eBin idxD (eV 0) (eV 5))) aNil))) (eC (.int 1))) aNil))) [] (.nm 4) (sIf (tE (eBin eqD (eBin idxD (eV 7) (eBin subD (eV 6) (eBin mulD (eV 4) (eBin idxD (eV 0) (eV 5))))) (eBin subD (eV 3) (eV 4)))) (sRet (eC (.bl false))) sNil))
  (sSeq (sSh 6 [] (eBin subD (eV 6) (eBin mulD (eBin idxD (eV 2) (eV 5)) (eBin idxD (eV 0) (eV 5)))))
  (sSh 3 [] (eBin subD (eV 3) (eBin idxD (eV 2) (eV 5))))))))
  (sRet (eC (.bl true))))))))))
theorem sc__law_large_ones : FnScope ["sizes", "amount", "told", "due", "number", "k", "left", "others"] ["sizes", "amount"] (defScope (topS 28)) := ⟨rfl, rfl, rfl, by decide +kernel, rfl, by decide +kernel, by decide +kernel⟩
theorem ok__law_large_ones {f : Addr} {fd : FuncData} (T : Txt G) (F : Fun G.K "_law_large_ones" "_law_large_ones" (topS 28) f fd) (hm : G.mg "_law_large_ones" = some (.ref f)) (d_best_filling : Dfn G P w base "best_filling" F_best_filling false 2 7) (d__law_fewest : Dfn G P w base "_law_fewest" F__law_fewest false 2 2) (d__law_is_integer : Dfn G P w base "_law_is_integer" F__law_is_integer false 1 2) : Dfn G P w base "_law_large_ones" F__law_large_ones false 2 8 := fn_def (ps := ["sizes", "amount"]) F hm rfl (F.binds fun _ _ _ _ _ _ us hl => match us, hl with | [_, _], _ => rfl) sc__law_large_ones rfl fun cdv A outer s H E c =>
  (pss_cons' (psd_sh (c.nm 2) (c.fn d_best_filling (by decide) (pad_cons (c.list T.m_list (pad_cons (pd_v 0) pad_nil)) (pad_cons (pd_v 1) pad_nil))))
  (pss_cons' (psd_sh (c.nm 3) (c.ix (c.fn d__law_fewest (by decide) (pad_cons (pd_v 0) (pad_cons (pd_v 1) pad_nil))) (pd_v 1)))
  (pss_cons' (psd_if (c.tisN (pd_v 3) pd_non) (pss_one' (psd_ret (c.isN (pd_v 2) pd_non))) pss_nil')
  (pss_cons' (psd_if (PWD.pt (pwd_or (ptd_not (tval (c.isi "list" T.m_isinstance T.m_list (pd_v 2)))) (pwd_or (c.tne (c.len T.m_len (pad_cons (pd_v 2) pad_nil)) (c.len T.m_len (pad_cons (pd_v 0) pad_nil))) (pwd_or1 (ptd_not (tval (c.all T.m_all (pad_cons (c.comp [("number", 4)] (pid_seq c.g (pd_v 2)) (pgd_name (c.blk.nm 4)) pts_yes (pd_and (c.blk.fn d__law_is_integer (by decide) (pad_cons (pd_v 4) pad_nil)) (pd_one (c.blk.ge (pd_v 4) pd_int)))) pad_nil)))))))) (pss_one' (psd_ret pd_bl)) pss_nil')
  (pss_cons' (psd_if (PWD.pt (pwd_or (c.tne (c.sum T.m_sum (pad_cons (pd_v 2) pad_nil)) (pd_v 3)) (pwd_or1 (c.tne (c.sum T.m_sum (pad_cons (c.comp [("k", 5)] (c.range1 T.m_range (pad_cons (c.len T.m_len (pad_cons (pd_v 0) pad_nil)) pad_nil)) (pgd_name (c.blk.nm 5)) pts_yes (c.blk.mul (c.blk.ix (pd_v 2) (pd_v 5)) (c.blk.ix (pd_v 0) (pd_v 5)))) pad_nil)) (pd_v 1))))) (pss_one' (psd_ret pd_bl)) pss_nil')
  (pss_cons' (psd_sh (c.nm 6) (pd_v 1))
  (pss_cons' (c.for (c.range1 T.m_range (pad_cons (c.len T.m_len (pad_cons (pd_v 0) pad_nil)) pad_nil)) (pgd_name (c.nm 5)) (pss_cons' (psd_sh (c.nm 7) (c.fn d__law_fewest (by decide) (pad_cons (pd_sl c.g (pd_v 0) (pod_some (c.add (pd_v 5) pd_int)) pod_none) (pad_cons (pd_v 6) pad_nil))))
  (pss_cons' (c.for (c.range2 T.m_range (pad_cons (c.add (c.ix (pd_v 2) (pd_v 5)) pd_int) (pad_cons (c.add (c.min2 T.m_min (pad_cons (pd_v 3) (pad_cons (c.fdiv (pd_v 6) (c.ix (pd_v 0) (pd_v 5))) pad_nil))) pd_int) pad_nil))) (pgd_name (c.nm 4)) (pss_one' (psd_if (c.teq (c.ix (pd_v 7) (c.sub (pd_v 6) (c.mul (pd_v 4) (c.ix (pd_v 0) (pd_v 5))))) (c.sub (pd_v 3) (pd_v 4))) (pss_one' (psd_ret pd_bl)) pss_nil')))
  (pss_cons' (psd_sh (c.nm 6) (c.sub (pd_v 6) (c.mul (c.ix (pd_v 2) (pd_v 5)) (c.ix (pd_v 0) (pd_v 5)))))
  (pss_one' (psd_sh (c.nm 3) (c.sub (pd_v 3) (c.ix (pd_v 2) (pd_v 5)))))))))
  (pss_one' (psd_ret pd_bl)))))))))
def F_law : FF := runF 5 (sSeq (sSh 1 [] (eFn F__law_numbers (aCons (eV 0) (aCons (eC (.int 0)) (aCons (eC (.int 16)) aNil)))))
  (sSeq (sSh 2 [] (eSl (eFn F__law_sizes (aCons (eV 1) (aCons (eC (.int 12)) aNil))) oNone (oSome (eC (.int 4)))))
  (sSeq (sFor (itSeq (eLst (aCons (eBin modD (eBin idxD (eV 1) (eC (.int 11))) (eC (.int 25))) (aCons (eBin modD (eBin idxD (eV 1) (eC (.int 12))) (eC (.int 25))) (aCons (eBin mulD (eBin idxD (eV 2) (eC (.int 0))) (eBin modD (eBin idxD (eV 1) (eC (.int 13))) (eC (.int 3)))) (aCons (eC (.int 0)) aNil)))))) [] (.nm 3) (sIf (tNotD (tE (eFn F__law_small_ones (aCons (eV 2) (aCons (eV 3) aNil))))) (sRet (eC (.bl false))) sNil))
  (sSeq (sSh 4 [] (eFn F__law_numbers (aCons (eV 0) (aCons (eC (.int 1)) (aCons (eC (.int 16)) aNil)))))
  (sSeq (sSh 2 [] (eFn F__law_sizes (aCons (eV 4) (aCons (eBin idxD (eLst (aCons (eC (.int 40)) (aCons (eC (.int 200)) aNil))) (eBin modD (eBin idxD (eV 4) (eC (.int 11))) (eC (.int 2)))) aNil))))
  (sSeq (sSh 3 [] (eBin modD (eBin idxD (eV 4) (eC (.int 12))) (eC (.int 200))))
  (sSeq (sIf (tE (eBin eqD (eBin modD (eBin idxD (eV 4) (eC (.int 13))) (eC (.int 6))) (eC (.int 0)))) (sSh 3 [] (eBin modD (eBin idxD (eV 4) (eC (.int 12))) (eC (.int 401)))) sNil)
  (sRet (eAnd (eFn F__law_large_ones (aCons (eV 2) (aCons (eV 3) aNil))) (eBin eqD (eFn F_best_filling (aCons (eCall listD (aCons (eV 2) aNil)) (aCons (eC (.int 0)) aNil))) (eBin mulD (eLst (aCons (eC (.int 0)) aNil)) (eCall lenD (aCons (eV 2) aNil)))))))))))))
theorem sc_law : FnScope ["script", "numbers", "sizes", "amount", "others"] ["script"] (defScope (topS 29)) := ⟨rfl, rfl, rfl, by decide +kernel, rfl, by decide +kernel, by decide +kernel⟩
theorem ok_law {f : Addr} {fd : FuncData} (T : Txt G) (F : Fun G.K "law" "law" (topS 29) f fd) (d__law_numbers : Dfn G P w base "_law_numbers" F__law_numbers false 3 2) (d__law_sizes : Dfn G P w base "_law_sizes" F__law_sizes false 2 2) (d__law_small_ones : Dfn G P w base "_law_small_ones" F__law_small_ones false 2 8) (d__law_large_ones : Dfn G P w base "_law_large_ones" F__law_large_ones false 2 8) (d_best_filling : Dfn G P w base "best_filling" F_best_filling false 2 7) : FnF P w G.K G.mg base G 9 f fd ["script"] F_law false := law_def F sc_law rfl fun cdv A outer s H E c =>
  (pss_cons' (psd_sh (c.nm 1) (c.fn d__law_numbers (by decide) (pad_cons (pd_v 0) (pad_cons pd_int (pad_cons pd_int pad_nil)))))
  (pss_cons' (psd_sh (c.nm 2) (pd_sl c.g (c.fn d__law_sizes (by decide) (pad_cons (pd_v 1) (pad_cons pd_int pad_nil))) pod_none (pod_some pd_int)))
  (pss_cons' (c.for (pid_seq c.g (pd_lst (pad_cons (c.mod (c.ix (pd_v 1) pd_int) pd_int) (pad_cons (c.mod (c.ix (pd_v 1) pd_int) pd_int) (pad_cons (c.mul (c.ix (pd_v 2) pd_int) (c.mod (c.ix (pd_v 1) pd_int) pd_int)) (pad_cons pd_int pad_nil)))))) (pgd_name (c.nm 3)) (pss_one' (psd_if (ptd_not (tval (c.fn d__law_small_ones (by decide) (pad_cons (pd_v 2) (pad_cons (pd_v 3) pad_nil))))) (pss_one' (psd_ret pd_bl)) pss_nil')))
  (pss_cons' (psd_sh (c.nm 4) (c.fn d__law_numbers (by decide) (pad_cons (pd_v 0) (pad_cons pd_int (pad_cons pd_int pad_nil)))))
  (pss_cons' (psd_sh (c.nm 2) (c.fn d__law_sizes (by decide) (pad_cons (pd_v 4) (pad_cons (c.ix (pd_lst (pad_cons pd_int (pad_cons pd_int pad_nil))) (c.mod (c.ix (pd_v 4) pd_int) pd_int)) pad_nil))))
  (pss_cons' (psd_sh (c.nm 3) (c.mod (c.ix (pd_v 4) pd_int) pd_int))
  (pss_cons' (psd_if (c.teq (c.mod (c.ix (pd_v 4) pd_int) pd_int) pd_int) (pss_one' (psd_sh (c.nm 3) (c.mod (c.ix (pd_v 4) pd_int) pd_int))) pss_nil')
  (pss_one' (psd_ret (pd_and (c.fn d__law_large_ones (by decide) (pad_cons (pd_v 2) (pad_cons (pd_v 3) pad_nil))) (pd_one (c.eq (c.fn d_best_filling (by decide) (pad_cons (c.list T.m_list (pad_cons (pd_v 2) pad_nil)) (pad_cons pd_int pad_nil))) (c.mul (pd_lst (pad_cons pd_int pad_nil)) (c.len T.m_len (pad_cons (pd_v 2) pad_nil)))))))))))))))
end
end K55
namespace K55
open PySem PySem.Spec PyProof.Rows L2 PD
def dot : List Nat → List Nat → Nat
  | n :: v, s :: S => n * s + dot v S
  | _, _ => 0
def Fil (S : List Nat) (r m : Nat) : Prop := ∃ v : List Nat, v.length = S.length ∧ dot v S = r ∧ v.sum = m
def IsMin (P : Nat → Prop) : Option Nat → Prop
  | none => ∀ m, ¬ P m
  | some m => P m ∧ ∀ k, P k → m ≤ k
theorem IsMin.uniq {P : Nat → Prop} : ∀ {a b : Option Nat}, IsMin P a → IsMin P b → a = b
  | none, none, _, _ => rfl
  | none, some b, h, k => absurd k.1 (h b)
  | some a, none, h, k => absurd h.1 (k a)
  | some a, some b, h, k => by
    have := h.2 b k.1
    have := k.2 a h.1
    congr 1; omega
theorem fil_cons {s : Nat} {S : List Nat} {r m : Nat} : Fil (s :: S) r m ↔ ∃ n, n * s ≤ r ∧ n ≤ m ∧ Fil S (r - n * s) (m - n) := by
  constructor
  · rintro ⟨v, h1, h2, h3⟩
    cases v with
    | nil => cases h1
    | cons n v =>
      simp only [dot] at h2
      simp only [List.sum_cons] at h3
      exact ⟨n, by omega, by omega, v, by simpa using h1, by omega, by omega⟩
  · rintro ⟨n, h1, h2, v, h3, h4, h5⟩
    exact ⟨n :: v, by simp [h3], by simp only [dot]; omega, by simp only [List.sum_cons]; omega⟩
theorem fil_nil {r m : Nat} : Fil [] r m ↔ r = 0 ∧ m = 0 := by
  constructor
  · rintro ⟨v, h1, h2, h3⟩
    cases v with
    | nil => exact ⟨h2.symm, h3.symm⟩
    | cons n v => cases h1
  · rintro ⟨rfl, rfl⟩
    exact ⟨[], rfl, rfl, rfl⟩
theorem fil_zero : ∀ S : List Nat, Fil S 0 0
  | [] => fil_nil.mpr ⟨rfl, rfl⟩
  | s :: S => fil_cons.mpr ⟨0, by omega, by omega, by simpa using fil_zero S⟩
theorem fil_add : ∀ {S : List Nat} {s r m : Nat}, s ∈ S → Fil S r m → Fil S (r + s) (m + 1)
  | t :: S, s, r, m, h, f => by
    obtain ⟨n, h1, h2, f⟩ := fil_cons.mp f
    rcases List.mem_cons.mp h with rfl | h
    · refine fil_cons.mpr ⟨n + 1, ?_, by omega, ?_⟩
      · rw [Nat.add_mul]; omega
      · rw [show r + s - (n + 1) * s = r - n * s by rw [Nat.add_mul]; omega, show m + 1 - (n + 1) = m - n by omega]
        exact f
    · refine fil_cons.mpr ⟨n, by omega, by omega, ?_⟩
      have := fil_add h f
      rw [show r + s - n * t = r - n * t + s by omega, show m + 1 - n = m - n + 1 by omega]
      exact this
theorem fil_sub : ∀ {S : List Nat} {r m : Nat}, Fil S r m → 0 < r → ∃ s ∈ S, ∃ k, s ≤ r ∧ m = k + 1 ∧ Fil S (r - s) k
  | [], r, m, f, h => by
    have := (fil_nil.mp f).1
    omega
  | t :: S, r, m, f, h => by
    obtain ⟨n, h1, h2, f⟩ := fil_cons.mp f
    by_cases hn : n = 0
    · subst hn
      obtain ⟨s, hs, k, h3, h4, f⟩ := fil_sub f (by omega)
      refine ⟨s, List.mem_cons_of_mem _ hs, k, by omega, by omega, fil_cons.mpr ⟨0, by omega, by omega, ?_⟩⟩
      rw [show r - s - 0 * t = r - 0 * t - s by omega]
      exact f
    · obtain ⟨n, rfl⟩ : ∃ k, n = k + 1 := ⟨n - 1, by omega⟩
      rw [Nat.add_mul] at h1 f
      refine ⟨t, List.mem_cons_self, m - 1, by omega, by omega, fil_cons.mpr ⟨n, by omega, by omega, ?_⟩⟩
      rw [show r - t - n * t = r - (n * t + 1 * t) by omega, show m - 1 - n = m - (n + 1) by omega]
      exact f
theorem fil_none {S : List Nat} (hS : ∀ s ∈ S, 0 < s) : ∀ {m : Nat}, Fil S 0 m → m = 0 := by
  induction S with
  | nil => exact fun f => (fil_nil.mp f).2
  | cons s S ih =>
    intro m f
    obtain ⟨n, h1, h2, f⟩ := fil_cons.mp f
    have hs := hS s List.mem_cons_self
    have hn : n = 0 := by
      rcases Nat.eq_zero_or_pos n with h | h
      · exact h
      · have := Nat.mul_pos h hs; omega
    subst hn
    have := ih (fun t ht => hS t (List.mem_cons_of_mem _ ht)) (m := m) (by simpa using f)
    exact this
structure Table (S : List Nat) (n : Nat) (T : List (Option Nat)) : Prop where
  len : T.length = n + 1
  at_ : ∀ r o, T[r]? = some o → IsMin (Fil S r) o
theorem Table.zero {S : List Nat} (hS : ∀ s ∈ S, 0 < s) : Table S 0 [some 0] := ⟨rfl, fun r o h => by
  cases r with
  | zero => cases h; exact ⟨fil_zero S, fun _ _ => Nat.zero_le _⟩
  | succ r => cases h⟩
theorem Table.snoc {S : List Nat} {n : Nat} {T : List (Option Nat)} (h : Table S n T) {o : Option Nat} (ho : IsMin (Fil S (n + 1)) o) : Table S (n + 1) (T ++ [o]) := ⟨by rw [List.length_append, h.len]; rfl, fun r x hx => by
  rw [List.getElem?_append] at hx
  split at hx
  · exact h.at_ r x hx
  · rename_i hr
    have hr2 := h.len
    have : r = n + 1 := by
      have := (List.getElem?_eq_some_iff.mp hx).1
      simp at this; omega
    subst this
    rw [h.len, Nat.sub_self] at hx
    cases hx; exact ho⟩
theorem Table.get {S : List Nat} {n : Nat} {T : List (Option Nat)} (h : Table S n T) {r : Nat} (hr : r ≤ n) : ∃ o, T[r]? = some o ∧ IsMin (Fil S r) o := by
  have := h.len
  exact ⟨T[r]'(by omega), List.getElem?_eq_getElem _, h.at_ r _ (List.getElem?_eq_getElem (by omega))⟩
theorem isMin_step {S : List Nat} {r : Nat} {o : Option Nat} (hr : 0 < r) (h : IsMin (fun k => ∃ s ∈ S, s ≤ r ∧ IsMin (Fil S (r - s)) (some k)) o) : IsMin (Fil S r) (o.map (· + 1)) := by
  have key : ∀ m, Fil S r m → ∃ k, k + 1 ≤ m ∧ ∃ s ∈ S, s ≤ r ∧ IsMin (Fil S (r - s)) (some k) := by
    intro m f
    obtain ⟨s, hs, k, h1, h2, f⟩ := fil_sub f hr
    have : ∃ k', k' ≤ k ∧ IsMin (Fil S (r - s)) (some k') := by
      clear h2
      induction k using Nat.strongRecOn with
      | ind k ih =>
        by_cases hx : ∃ j, j < k ∧ Fil S (r - s) j
        · obtain ⟨j, hj, fj⟩ := hx
          obtain ⟨k', h3, h4⟩ := ih j hj fj
          exact ⟨k', by omega, h4⟩
        · refine ⟨k, Nat.le_refl _, f, fun j fj => ?_⟩
          rcases Nat.lt_or_ge j k with h | h
          · exact absurd ⟨j, h, fj⟩ hx
          · exact h
    obtain ⟨k', h3, h4⟩ := this
    exact ⟨k', by omega, s, hs, h1, h4⟩
  cases o with
  | none =>
    intro m f
    obtain ⟨k, _, s, hs, h1, h2⟩ := key m f
    exact h k ⟨s, hs, h1, h2⟩
  | some k =>
    obtain ⟨⟨s, hs, h1, h2⟩, h3⟩ := h
    refine ⟨?_, fun m f => ?_⟩
    · have := fil_add hs h2.1
      rw [Nat.sub_add_cancel h1] at this
      exact this
    · obtain ⟨k', h4, s', hs', h5, h6⟩ := key m f
      have := h3 k' ⟨s', hs', h5, h6⟩
      show k + 1 ≤ m
      omega
def Best : List Nat → Nat → Nat → List Nat → Prop
  | [], r, m, v => r = 0 ∧ m = 0 ∧ v = []
  | s :: G, r, m, v => ∃ n w, v = n :: w ∧ n * s ≤ r ∧ n ≤ m ∧ IsMin (Fil G (r - n * s)) (some (m - n)) ∧
    (∀ k, n < k → k ≤ m → k * s ≤ r → ¬ IsMin (Fil G (r - k * s)) (some (m - k))) ∧ Best G (r - n * s) (m - n) w
theorem Best.spec : ∀ {S : List Nat} {r m : Nat} {v : List Nat}, Best S r m v → v.length = S.length ∧ dot v S = r ∧ v.sum = m
  | [], _, _, _, ⟨h1, h2, h3⟩ => by subst h1 h2 h3; exact ⟨rfl, rfl, rfl⟩
  | s :: G, r, m, _, ⟨n, w, rfl, h1, h2, h3, h4, h5⟩ => by
    obtain ⟨q1, q2, q3⟩ := Best.spec h5
    exact ⟨by simp [q1], by simp only [dot]; omega, by simp only [List.sum_cons]; omega⟩
theorem Best.last : ∀ {S : List Nat} {r m : Nat} {v : List Nat}, Best S r m v → IsMin (Fil S r) (some m) → ∀ w : List Nat, w.length = S.length → dot w S = r → w.sum = m → w = v ∨ w < v
  | [], _, _, _, ⟨_, _, h⟩, _, w, hw, _, _ => by
    subst h
    cases w with
    | nil => exact .inl rfl
    | cons _ _ => cases hw
  | s :: G, r, m, _, ⟨n, v, rfl, h1, h2, h3, h4, h5⟩, hm, w, hw, hd, hs => by
    cases w with
    | nil => cases hw
    | cons k w =>
      simp only [dot] at hd
      simp only [List.sum_cons] at hs
      simp only [List.length_cons, Nat.add_right_cancel_iff] at hw
      have hk : IsMin (Fil G (r - k * s)) (some (m - k)) := by
        refine ⟨⟨w, hw, by omega, by omega⟩, fun j f => ?_⟩
        have := hm.2 (k + j) (fil_cons.mpr ⟨k, by omega, by omega, by rw [show k + j - k = j by omega]; exact f⟩)
        omega
      have hle : k ≤ n := by
        rcases Nat.lt_or_ge n k with h | h
        · exact absurd hk (h4 k h (by omega) (by omega))
        · exact h
      rcases Nat.lt_or_ge k n with h | h
      · exact .inr (List.Lex.rel h)
      · obtain rfl : k = n := by omega
        rcases Best.last h5 h3 w hw (by omega) (by omega) with rfl | h
        · exact .inl rfl
        · exact .inr (List.Lex.cons h)
end K55
namespace K55
open PySem PySem.Spec PyProof.Rows L2 PD
abbrev Nats (S : List Nat) : D := .lst (S.map fun s : Nat => .int s)
def oD : Option Nat → D
  | none => .non
  | some i => .int i
abbrev Tab (T : List (Option Nat)) : D := .lst (T.map oD)
structure Good (S : List Nat) : Prop where
  ne : S ≠ []
  len : S.length ≤ 8
  rng : ∀ s ∈ S, 1 ≤ s ∧ s ≤ 200
  asc : S.Pairwise (· < ·)
theorem is_whole_int (i : Int) : F_is_whole [.int i] = .ok (.bl true) := rfl
theorem is_integer_int (i : Int) : F__law_is_integer [.int i] = .ok (.bl true) := rfl
theorem is_size_int (i : Int) : F_is_size [.int i] = .ok (.bl (decide (1 ≤ i) && decide (i ≤ 200))) := by
  unfold F_is_size
  simp -implicitDefEqProofs only [runF_e, sSeq_e, thn_nx, thn_rt, thn_ex, thn_ct, thn_bk, toR_rt, toR_nx, toR_ex, st_ok, st_ex, st_bind, bind_bind, RQ_ok, OQ_nx, OQ_ct, OQ_bk, OQ_rt, NQ_nx, sNil, sRet_e, sRetO_q, retK_ow, retK_sh, sRetN, sExp_e, sIf_e, sSh_e, sOw_e, sMut_q, mutK_ow, mutK2_some, sSetIx_q, setK_ow, setK2_some, sAug_q, augK_sh, augK2_int, sAugIx_q, agxK_ow, agxK0_int, agxK1_some, agxK2_int, agxK3_some, sTup_q, tupK_some, sFor_e, sNo, sBk, sCt, eV_q, eO_q, slV_sh, slO_sh, slO_ow, eC, eBin, ofO_some, asB_bl, tE, tNotD, tAndD, tOrD, eAnd, eOr, eNot, eIf, eChain, tTru, truD, aNil, aCons, eTup, eLst, oNone, oSome, asI, eSl, sliceD, eCall, eFn, eFnK, eComp, okOwn_q, slOk_sh, slOk_no, slOk_none, wipeD, noX, tYesD, itSeq_q, seqK_lst, seqK_tup, seqK_scr, itRange1_q, rng1K_e, itRange2_q, rng2K_e, itEnum_q, enmK_e, itZip_q, zipK_e, bindP, binds, eNeg, eIsi, addD, subD, mulD, fdivD, modD, powD, iop, cmpI, isND, notND, D.isN, idxD, lenD, listD, tupleD, appD_lst, setD_lst, mutK2_ite, D.isL, max2D, min2D, absD, PD.intD, D.ty, frz_cons, frz1_q, frzS_ow, frzS_sh, frzS_no, frzD_lst, frzD_int, frzD_nil, frzK_nil, frz_nil, mkSl_lst, D.isMut, R.bind_ok, R.bind_no, dec_true, decide_eq_true_eq, decide_eq_false_iff_not, Bool.not_eq_true', Bool.decide_eq_true, Bool.not_eq_eq_eq_not, List.map_cons, List.map_nil, List.length_cons, List.length_nil, List.replicate_succ, List.replicate_zero, List.cons_append, List.nil_append, List.append_nil, List.getElem?_cons_zero, List.getElem?_cons_succ, List.set_cons_zero, List.set_cons_succ, List.all_cons, List.all_nil, Bool.and_true, Bool.true_and, Bool.and_self, Bool.not_true, Bool.not_false, Bool.false_eq_true, Bool.true_eq_false, if_true, if_false, ite_true, ite_false, reduceIte, Nat.add_sub_cancel, Nat.reduceSub, Nat.reduceAdd, Nat.sub_self, Nat.zero_add, Int.reduceLT, Int.reduceLE, Int.reduceEq, Int.reduceAdd, Int.reduceSub, Int.reduceMul, Int.reduceNeg, Int.reduceMod, Int.reduceDiv, Nat.zero_le, isiD_lst, isiD_int_int, isiD_int_bool, isiD_bl_bool, isiD_tup, decide_true, decide_false, is_whole_int]
  by_cases h : 1 ≤ i
  · rw [if_pos h, decide_eq_true h]; simp -implicitDefEqProofs only [runF_e, sSeq_e, thn_nx, thn_rt, thn_ex, thn_ct, thn_bk, toR_rt, toR_nx, toR_ex, st_ok, st_ex, st_bind, bind_bind, RQ_ok, OQ_nx, OQ_ct, OQ_bk, OQ_rt, NQ_nx, sNil, sRet_e, sRetO_q, retK_ow, retK_sh, sRetN, sExp_e, sIf_e, sSh_e, sOw_e, sMut_q, mutK_ow, mutK2_some, sSetIx_q, setK_ow, setK2_some, sAug_q, augK_sh, augK2_int, sAugIx_q, agxK_ow, agxK0_int, agxK1_some, agxK2_int, agxK3_some, sTup_q, tupK_some, sFor_e, sNo, sBk, sCt, eV_q, eO_q, slV_sh, slO_sh, slO_ow, eC, eBin, ofO_some, asB_bl, tE, tNotD, tAndD, tOrD, eAnd, eOr, eNot, eIf, eChain, tTru, truD, aNil, aCons, eTup, eLst, oNone, oSome, asI, eSl, sliceD, eCall, eFn, eFnK, eComp, okOwn_q, slOk_sh, slOk_no, slOk_none, wipeD, noX, tYesD, itSeq_q, seqK_lst, seqK_tup, seqK_scr, itRange1_q, rng1K_e, itRange2_q, rng2K_e, itEnum_q, enmK_e, itZip_q, zipK_e, bindP, binds, eNeg, eIsi, addD, subD, mulD, fdivD, modD, powD, iop, cmpI, isND, notND, D.isN, idxD, lenD, listD, tupleD, appD_lst, setD_lst, mutK2_ite, D.isL, max2D, min2D, absD, PD.intD, D.ty, frz_cons, frz1_q, frzS_ow, frzS_sh, frzS_no, frzD_lst, frzD_int, frzD_nil, frzK_nil, frz_nil, mkSl_lst, D.isMut, R.bind_ok, R.bind_no, dec_true, decide_eq_true_eq, decide_eq_false_iff_not, Bool.not_eq_true', Bool.decide_eq_true, Bool.not_eq_eq_eq_not, List.map_cons, List.map_nil, List.length_cons, List.length_nil, List.replicate_succ, List.replicate_zero, List.cons_append, List.nil_append, List.append_nil, List.getElem?_cons_zero, List.getElem?_cons_succ, List.set_cons_zero, List.set_cons_succ, List.all_cons, List.all_nil, Bool.and_true, Bool.true_and, Bool.and_self, Bool.not_true, Bool.not_false, Bool.false_eq_true, Bool.true_eq_false, if_true, if_false, ite_true, ite_false, reduceIte, Nat.add_sub_cancel, Nat.reduceSub, Nat.reduceAdd, Nat.sub_self, Nat.zero_add, Int.reduceLT, Int.reduceLE, Int.reduceEq, Int.reduceAdd, Int.reduceSub, Int.reduceMul, Int.reduceNeg, Int.reduceMod, Int.reduceDiv, Nat.zero_le, isiD_lst, isiD_int_int, isiD_int_bool, isiD_bl_bool, isiD_tup, decide_true, decide_false]
  · rw [if_neg h, decide_eq_false h]; simp -implicitDefEqProofs only [runF_e, sSeq_e, thn_nx, thn_rt, thn_ex, thn_ct, thn_bk, toR_rt, toR_nx, toR_ex, st_ok, st_ex, st_bind, bind_bind, RQ_ok, OQ_nx, OQ_ct, OQ_bk, OQ_rt, NQ_nx, sNil, sRet_e, sRetO_q, retK_ow, retK_sh, sRetN, sExp_e, sIf_e, sSh_e, sOw_e, sMut_q, mutK_ow, mutK2_some, sSetIx_q, setK_ow, setK2_some, sAug_q, augK_sh, augK2_int, sAugIx_q, agxK_ow, agxK0_int, agxK1_some, agxK2_int, agxK3_some, sTup_q, tupK_some, sFor_e, sNo, sBk, sCt, eV_q, eO_q, slV_sh, slO_sh, slO_ow, eC, eBin, ofO_some, asB_bl, tE, tNotD, tAndD, tOrD, eAnd, eOr, eNot, eIf, eChain, tTru, truD, aNil, aCons, eTup, eLst, oNone, oSome, asI, eSl, sliceD, eCall, eFn, eFnK, eComp, okOwn_q, slOk_sh, slOk_no, slOk_none, wipeD, noX, tYesD, itSeq_q, seqK_lst, seqK_tup, seqK_scr, itRange1_q, rng1K_e, itRange2_q, rng2K_e, itEnum_q, enmK_e, itZip_q, zipK_e, bindP, binds, eNeg, eIsi, addD, subD, mulD, fdivD, modD, powD, iop, cmpI, isND, notND, D.isN, idxD, lenD, listD, tupleD, appD_lst, setD_lst, mutK2_ite, D.isL, max2D, min2D, absD, PD.intD, D.ty, frz_cons, frz1_q, frzS_ow, frzS_sh, frzS_no, frzD_lst, frzD_int, frzD_nil, frzK_nil, frz_nil, mkSl_lst, D.isMut, R.bind_ok, R.bind_no, dec_true, decide_eq_true_eq, decide_eq_false_iff_not, Bool.not_eq_true', Bool.decide_eq_true, Bool.not_eq_eq_eq_not, List.map_cons, List.map_nil, List.length_cons, List.length_nil, List.replicate_succ, List.replicate_zero, List.cons_append, List.nil_append, List.append_nil, List.getElem?_cons_zero, List.getElem?_cons_succ, List.set_cons_zero, List.set_cons_succ, List.all_cons, List.all_nil, Bool.and_true, Bool.true_and, Bool.and_self, Bool.not_true, Bool.not_false, Bool.false_eq_true, Bool.true_eq_false, if_true, if_false, ite_true, ite_false, reduceIte, Nat.add_sub_cancel, Nat.reduceSub, Nat.reduceAdd, Nat.sub_self, Nat.zero_add, Int.reduceLT, Int.reduceLE, Int.reduceEq, Int.reduceAdd, Int.reduceSub, Int.reduceMul, Int.reduceNeg, Int.reduceMod, Int.reduceDiv, Nat.zero_le, isiD_lst, isiD_int_int, isiD_int_bool, isiD_bl_bool, isiD_tup, decide_true, decide_false, Bool.false_and]
theorem are_sizes_ok {S : List Nat} (g : Good S) : F_are_sizes [Nats S] = .ok (.bl true) := by
  have hl := g.len
  have h0 : 0 < S.length := List.length_pos_iff.mpr g.ne
  unfold F_are_sizes
  simp -implicitDefEqProofs only [runF_e, sSeq_e, thn_nx, thn_rt, thn_ex, thn_ct, thn_bk, toR_rt, toR_nx, toR_ex, st_ok, st_ex, st_bind, bind_bind, RQ_ok, OQ_nx, OQ_ct, OQ_bk, OQ_rt, NQ_nx, sNil, sRet_e, sRetO_q, retK_ow, retK_sh, sRetN, sExp_e, sIf_e, sSh_e, sOw_e, sMut_q, mutK_ow, mutK2_some, sSetIx_q, setK_ow, setK2_some, sAug_q, augK_sh, augK2_int, sAugIx_q, agxK_ow, agxK0_int, agxK1_some, agxK2_int, agxK3_some, sTup_q, tupK_some, sFor_e, sNo, sBk, sCt, eV_q, eO_q, slV_sh, slO_sh, slO_ow, eC, eBin, ofO_some, asB_bl, tE, tNotD, tAndD, tOrD, eAnd, eOr, eNot, eIf, eChain, tTru, truD, aNil, aCons, eTup, eLst, oNone, oSome, asI, eSl, sliceD, eCall, eFn, eFnK, eComp, okOwn_q, slOk_sh, slOk_no, slOk_none, wipeD, noX, tYesD, itSeq_q, seqK_lst, seqK_tup, seqK_scr, itRange1_q, rng1K_e, itRange2_q, rng2K_e, itEnum_q, enmK_e, itZip_q, zipK_e, bindP, binds, eNeg, eIsi, addD, subD, mulD, fdivD, modD, powD, iop, cmpI, isND, notND, D.isN, idxD, lenD, listD, tupleD, appD_lst, setD_lst, mutK2_ite, D.isL, max2D, min2D, absD, PD.intD, D.ty, frz_cons, frz1_q, frzS_ow, frzS_sh, frzS_no, frzD_lst, frzD_int, frzD_nil, frzK_nil, frz_nil, mkSl_lst, D.isMut, R.bind_ok, R.bind_no, dec_true, decide_eq_true_eq, decide_eq_false_iff_not, Bool.not_eq_true', Bool.decide_eq_true, Bool.not_eq_eq_eq_not, List.map_cons, List.map_nil, List.length_cons, List.length_nil, List.replicate_succ, List.replicate_zero, List.cons_append, List.nil_append, List.append_nil, List.getElem?_cons_zero, List.getElem?_cons_succ, List.set_cons_zero, List.set_cons_succ, List.all_cons, List.all_nil, Bool.and_true, Bool.true_and, Bool.and_self, Bool.not_true, Bool.not_false, Bool.false_eq_true, Bool.true_eq_false, if_true, if_false, ite_true, ite_false, reduceIte, Nat.add_sub_cancel, Nat.reduceSub, Nat.reduceAdd, Nat.sub_self, Nat.zero_add, Int.reduceLT, Int.reduceLE, Int.reduceEq, Int.reduceAdd, Int.reduceSub, Int.reduceMul, Int.reduceNeg, Int.reduceMod, Int.reduceDiv, Nat.zero_le, isiD_lst, isiD_int_int, isiD_int_bool, isiD_bl_bool, isiD_tup, decide_true, decide_false, show isiB "list" "list" = true from rfl, List.length_map, show (1 : Int) ≤ S.length by omega, show (S.length : Int) ≤ 8 by omega]
  rw [compD_all (fun s : Nat => D.int s) (fun s => D.bl (decide (1 ≤ (s : Int)) && decide ((s : Int) ≤ 200))) S fun x hx => ⟨_, rfl, by simp -implicitDefEqProofs only [runF_e, sSeq_e, thn_nx, thn_rt, thn_ex, thn_ct, thn_bk, toR_rt, toR_nx, toR_ex, st_ok, st_ex, st_bind, bind_bind, RQ_ok, OQ_nx, OQ_ct, OQ_bk, OQ_rt, NQ_nx, sNil, sRet_e, sRetO_q, retK_ow, retK_sh, sRetN, sExp_e, sIf_e, sSh_e, sOw_e, sMut_q, mutK_ow, mutK2_some, sSetIx_q, setK_ow, setK2_some, sAug_q, augK_sh, augK2_int, sAugIx_q, agxK_ow, agxK0_int, agxK1_some, agxK2_int, agxK3_some, sTup_q, tupK_some, sFor_e, sNo, sBk, sCt, eV_q, eO_q, slV_sh, slO_sh, slO_ow, eC, eBin, ofO_some, asB_bl, tE, tNotD, tAndD, tOrD, eAnd, eOr, eNot, eIf, eChain, tTru, truD, aNil, aCons, eTup, eLst, oNone, oSome, asI, eSl, sliceD, eCall, eFn, eFnK, eComp, okOwn_q, slOk_sh, slOk_no, slOk_none, wipeD, noX, tYesD, itSeq_q, seqK_lst, seqK_tup, seqK_scr, itRange1_q, rng1K_e, itRange2_q, rng2K_e, itEnum_q, enmK_e, itZip_q, zipK_e, bindP, binds, eNeg, eIsi, addD, subD, mulD, fdivD, modD, powD, iop, cmpI, isND, notND, D.isN, idxD, lenD, listD, tupleD, appD_lst, setD_lst, mutK2_ite, D.isL, max2D, min2D, absD, PD.intD, D.ty, frz_cons, frz1_q, frzS_ow, frzS_sh, frzS_no, frzD_lst, frzD_int, frzD_nil, frzK_nil, frz_nil, mkSl_lst, D.isMut, R.bind_ok, R.bind_no, dec_true, decide_eq_true_eq, decide_eq_false_iff_not, Bool.not_eq_true', Bool.decide_eq_true, Bool.not_eq_eq_eq_not, List.map_cons, List.map_nil, List.length_cons, List.length_nil, List.replicate_succ, List.replicate_zero, List.cons_append, List.nil_append, List.append_nil, List.getElem?_cons_zero, List.getElem?_cons_succ, List.set_cons_zero, List.set_cons_succ, List.all_cons, List.all_nil, Bool.and_true, Bool.true_and, Bool.and_self, Bool.not_true, Bool.not_false, Bool.false_eq_true, Bool.true_eq_false, if_true, if_false, ite_true, ite_false, reduceIte, Nat.add_sub_cancel, Nat.reduceSub, Nat.reduceAdd, Nat.sub_self, Nat.zero_add, Int.reduceLT, Int.reduceLE, Int.reduceEq, Int.reduceAdd, Int.reduceSub, Int.reduceMul, Int.reduceNeg, Int.reduceMod, Int.reduceDiv, Nat.zero_le, isiD_lst, isiD_int_int, isiD_int_bool, isiD_bl_bool, isiD_tup, decide_true, decide_false, is_size_int]⟩]
  simp -implicitDefEqProofs only [runF_e, sSeq_e, thn_nx, thn_rt, thn_ex, thn_ct, thn_bk, toR_rt, toR_nx, toR_ex, st_ok, st_ex, st_bind, bind_bind, RQ_ok, OQ_nx, OQ_ct, OQ_bk, OQ_rt, NQ_nx, sNil, sRet_e, sRetO_q, retK_ow, retK_sh, sRetN, sExp_e, sIf_e, sSh_e, sOw_e, sMut_q, mutK_ow, mutK2_some, sSetIx_q, setK_ow, setK2_some, sAug_q, augK_sh, augK2_int, sAugIx_q, agxK_ow, agxK0_int, agxK1_some, agxK2_int, agxK3_some, sTup_q, tupK_some, sFor_e, sNo, sBk, sCt, eV_q, eO_q, slV_sh, slO_sh, slO_ow, eC, eBin, ofO_some, asB_bl, tE, tNotD, tAndD, tOrD, eAnd, eOr, eNot, eIf, eChain, tTru, truD, aNil, aCons, eTup, eLst, oNone, oSome, asI, eSl, sliceD, eCall, eFn, eFnK, eComp, okOwn_q, slOk_sh, slOk_no, slOk_none, wipeD, noX, tYesD, itSeq_q, seqK_lst, seqK_tup, seqK_scr, itRange1_q, rng1K_e, itRange2_q, rng2K_e, itEnum_q, enmK_e, itZip_q, zipK_e, bindP, binds, eNeg, eIsi, addD, subD, mulD, fdivD, modD, powD, iop, cmpI, isND, notND, D.isN, idxD, lenD, listD, tupleD, appD_lst, setD_lst, mutK2_ite, D.isL, max2D, min2D, absD, PD.intD, D.ty, frz_cons, frz1_q, frzS_ow, frzS_sh, frzS_no, frzD_lst, frzD_int, frzD_nil, frzK_nil, frz_nil, mkSl_lst, D.isMut, R.bind_ok, R.bind_no, dec_true, decide_eq_true_eq, decide_eq_false_iff_not, Bool.not_eq_true', Bool.decide_eq_true, Bool.not_eq_eq_eq_not, List.map_cons, List.map_nil, List.length_cons, List.length_nil, List.replicate_succ, List.replicate_zero, List.cons_append, List.nil_append, List.append_nil, List.getElem?_cons_zero, List.getElem?_cons_succ, List.set_cons_zero, List.set_cons_succ, List.all_cons, List.all_nil, Bool.and_true, Bool.true_and, Bool.and_self, Bool.not_true, Bool.not_false, Bool.false_eq_true, Bool.true_eq_false, if_true, if_false, ite_true, ite_false, reduceIte, Nat.add_sub_cancel, Nat.reduceSub, Nat.reduceAdd, Nat.sub_self, Nat.zero_add, Int.reduceLT, Int.reduceLE, Int.reduceEq, Int.reduceAdd, Int.reduceSub, Int.reduceMul, Int.reduceNeg, Int.reduceMod, Int.reduceDiv, Nat.zero_le, isiD_lst, isiD_int_int, isiD_int_bool, isiD_bl_bool, isiD_tup, decide_true, decide_false, List.length_map]
  rw [if_pos (by rw [szL]; omega)]
  rw [show (S.map fun s : Nat => D.bl (decide (1 ≤ (s : Int)) && decide ((s : Int) ≤ 200))) = (S.map fun s : Nat => (decide (1 ≤ (s : Int)) && decide ((s : Int) ≤ 200))).map D.bl by rw [List.map_map]; rfl]
  simp -implicitDefEqProofs only [runF_e, sSeq_e, thn_nx, thn_rt, thn_ex, thn_ct, thn_bk, toR_rt, toR_nx, toR_ex, st_ok, st_ex, st_bind, bind_bind, RQ_ok, OQ_nx, OQ_ct, OQ_bk, OQ_rt, NQ_nx, sNil, sRet_e, sRetO_q, retK_ow, retK_sh, sRetN, sExp_e, sIf_e, sSh_e, sOw_e, sMut_q, mutK_ow, mutK2_some, sSetIx_q, setK_ow, setK2_some, sAug_q, augK_sh, augK2_int, sAugIx_q, agxK_ow, agxK0_int, agxK1_some, agxK2_int, agxK3_some, sTup_q, tupK_some, sFor_e, sNo, sBk, sCt, eV_q, eO_q, slV_sh, slO_sh, slO_ow, eC, eBin, ofO_some, asB_bl, tE, tNotD, tAndD, tOrD, eAnd, eOr, eNot, eIf, eChain, tTru, truD, aNil, aCons, eTup, eLst, oNone, oSome, asI, eSl, sliceD, eCall, eFn, eFnK, eComp, okOwn_q, slOk_sh, slOk_no, slOk_none, wipeD, noX, tYesD, itSeq_q, seqK_lst, seqK_tup, seqK_scr, itRange1_q, rng1K_e, itRange2_q, rng2K_e, itEnum_q, enmK_e, itZip_q, zipK_e, bindP, binds, eNeg, eIsi, addD, subD, mulD, fdivD, modD, powD, iop, cmpI, isND, notND, D.isN, idxD, lenD, listD, tupleD, appD_lst, setD_lst, mutK2_ite, D.isL, max2D, min2D, absD, PD.intD, D.ty, frz_cons, frz1_q, frzS_ow, frzS_sh, frzS_no, frzD_lst, frzD_int, frzD_nil, frzK_nil, frz_nil, mkSl_lst, D.isMut, R.bind_ok, R.bind_no, dec_true, decide_eq_true_eq, decide_eq_false_iff_not, Bool.not_eq_true', Bool.decide_eq_true, Bool.not_eq_eq_eq_not, List.map_cons, List.map_nil, List.length_cons, List.length_nil, List.replicate_succ, List.replicate_zero, List.cons_append, List.nil_append, List.append_nil, List.getElem?_cons_zero, List.getElem?_cons_succ, List.set_cons_zero, List.set_cons_succ, List.all_cons, List.all_nil, Bool.and_true, Bool.true_and, Bool.and_self, Bool.not_true, Bool.not_false, Bool.false_eq_true, Bool.true_eq_false, if_true, if_false, ite_true, ite_false, reduceIte, Nat.add_sub_cancel, Nat.reduceSub, Nat.reduceAdd, Nat.sub_self, Nat.zero_add, Int.reduceLT, Int.reduceLE, Int.reduceEq, Int.reduceAdd, Int.reduceSub, Int.reduceMul, Int.reduceNeg, Int.reduceMod, Int.reduceDiv, Nat.zero_le, isiD_lst, isiD_int_int, isiD_int_bool, isiD_bl_bool, isiD_tup, decide_true, decide_false, allD_bls]
  rw [if_neg (by
    rw [Bool.not_eq_false, List.all_eq_true]
    intro b hb
    obtain ⟨s, hs, rfl⟩ := List.mem_map.mp hb
    have := g.rng s hs
    simp; omega)]
  simp -implicitDefEqProofs only [runF_e, sSeq_e, thn_nx, thn_rt, thn_ex, thn_ct, thn_bk, toR_rt, toR_nx, toR_ex, st_ok, st_ex, st_bind, bind_bind, RQ_ok, OQ_nx, OQ_ct, OQ_bk, OQ_rt, NQ_nx, sNil, sRet_e, sRetO_q, retK_ow, retK_sh, sRetN, sExp_e, sIf_e, sSh_e, sOw_e, sMut_q, mutK_ow, mutK2_some, sSetIx_q, setK_ow, setK2_some, sAug_q, augK_sh, augK2_int, sAugIx_q, agxK_ow, agxK0_int, agxK1_some, agxK2_int, agxK3_some, sTup_q, tupK_some, sFor_e, sNo, sBk, sCt, eV_q, eO_q, slV_sh, slO_sh, slO_ow, eC, eBin, ofO_some, asB_bl, tE, tNotD, tAndD, tOrD, eAnd, eOr, eNot, eIf, eChain, tTru, truD, aNil, aCons, eTup, eLst, oNone, oSome, asI, eSl, sliceD, eCall, eFn, eFnK, eComp, okOwn_q, slOk_sh, slOk_no, slOk_none, wipeD, noX, tYesD, itSeq_q, seqK_lst, seqK_tup, seqK_scr, itRange1_q, rng1K_e, itRange2_q, rng2K_e, itEnum_q, enmK_e, itZip_q, zipK_e, bindP, binds, eNeg, eIsi, addD, subD, mulD, fdivD, modD, powD, iop, cmpI, isND, notND, D.isN, idxD, lenD, listD, tupleD, appD_lst, setD_lst, mutK2_ite, D.isL, max2D, min2D, absD, PD.intD, D.ty, frz_cons, frz1_q, frzS_ow, frzS_sh, frzS_no, frzD_lst, frzD_int, frzD_nil, frzK_nil, frz_nil, mkSl_lst, D.isMut, R.bind_ok, R.bind_no, dec_true, decide_eq_true_eq, decide_eq_false_iff_not, Bool.not_eq_true', Bool.decide_eq_true, Bool.not_eq_eq_eq_not, List.map_cons, List.map_nil, List.length_cons, List.length_nil, List.replicate_succ, List.replicate_zero, List.cons_append, List.nil_append, List.append_nil, List.getElem?_cons_zero, List.getElem?_cons_succ, List.set_cons_zero, List.set_cons_succ, List.all_cons, List.all_nil, Bool.and_true, Bool.true_and, Bool.and_self, Bool.not_true, Bool.not_false, Bool.false_eq_true, Bool.true_eq_false, if_true, if_false, ite_true, ite_false, reduceIte, Nat.add_sub_cancel, Nat.reduceSub, Nat.reduceAdd, Nat.sub_self, Nat.zero_add, Int.reduceLT, Int.reduceLE, Int.reduceEq, Int.reduceAdd, Int.reduceSub, Int.reduceMul, Int.reduceNeg, Int.reduceMod, Int.reduceDiv, Nat.zero_le, isiD_lst, isiD_int_int, isiD_int_bool, isiD_bl_bool, isiD_tup, decide_true, decide_false]
  rw [show cutD (S.map fun s : Nat => D.int s) (some 1) none = (S.drop 1).map fun s : Nat => D.int s by rw [List.map_drop]; exact cutD_drop _ 1]
  rw [zipD_map]
  rw [compD_all (fun p : Nat × Nat => D.tup [D.int p.1, D.int p.2]) (fun p => D.bl (decide ((p.1 : Int) < p.2))) (S.zip (S.drop 1)) fun x hx => ⟨_, rfl, by simp -implicitDefEqProofs only [runF_e, sSeq_e, thn_nx, thn_rt, thn_ex, thn_ct, thn_bk, toR_rt, toR_nx, toR_ex, st_ok, st_ex, st_bind, bind_bind, RQ_ok, OQ_nx, OQ_ct, OQ_bk, OQ_rt, NQ_nx, sNil, sRet_e, sRetO_q, retK_ow, retK_sh, sRetN, sExp_e, sIf_e, sSh_e, sOw_e, sMut_q, mutK_ow, mutK2_some, sSetIx_q, setK_ow, setK2_some, sAug_q, augK_sh, augK2_int, sAugIx_q, agxK_ow, agxK0_int, agxK1_some, agxK2_int, agxK3_some, sTup_q, tupK_some, sFor_e, sNo, sBk, sCt, eV_q, eO_q, slV_sh, slO_sh, slO_ow, eC, eBin, ofO_some, asB_bl, tE, tNotD, tAndD, tOrD, eAnd, eOr, eNot, eIf, eChain, tTru, truD, aNil, aCons, eTup, eLst, oNone, oSome, asI, eSl, sliceD, eCall, eFn, eFnK, eComp, okOwn_q, slOk_sh, slOk_no, slOk_none, wipeD, noX, tYesD, itSeq_q, seqK_lst, seqK_tup, seqK_scr, itRange1_q, rng1K_e, itRange2_q, rng2K_e, itEnum_q, enmK_e, itZip_q, zipK_e, bindP, binds, eNeg, eIsi, addD, subD, mulD, fdivD, modD, powD, iop, cmpI, isND, notND, D.isN, idxD, lenD, listD, tupleD, appD_lst, setD_lst, mutK2_ite, D.isL, max2D, min2D, absD, PD.intD, D.ty, frz_cons, frz1_q, frzS_ow, frzS_sh, frzS_no, frzD_lst, frzD_int, frzD_nil, frzK_nil, frz_nil, mkSl_lst, D.isMut, R.bind_ok, R.bind_no, dec_true, decide_eq_true_eq, decide_eq_false_iff_not, Bool.not_eq_true', Bool.decide_eq_true, Bool.not_eq_eq_eq_not, List.map_cons, List.map_nil, List.length_cons, List.length_nil, List.replicate_succ, List.replicate_zero, List.cons_append, List.nil_append, List.append_nil, List.getElem?_cons_zero, List.getElem?_cons_succ, List.set_cons_zero, List.set_cons_succ, List.all_cons, List.all_nil, Bool.and_true, Bool.true_and, Bool.and_self, Bool.not_true, Bool.not_false, Bool.false_eq_true, Bool.true_eq_false, if_true, if_false, ite_true, ite_false, reduceIte, Nat.add_sub_cancel, Nat.reduceSub, Nat.reduceAdd, Nat.sub_self, Nat.zero_add, Int.reduceLT, Int.reduceLE, Int.reduceEq, Int.reduceAdd, Int.reduceSub, Int.reduceMul, Int.reduceNeg, Int.reduceMod, Int.reduceDiv, Nat.zero_le, isiD_lst, isiD_int_int, isiD_int_bool, isiD_bl_bool, isiD_tup, decide_true, decide_false]⟩]
  simp -implicitDefEqProofs only [runF_e, sSeq_e, thn_nx, thn_rt, thn_ex, thn_ct, thn_bk, toR_rt, toR_nx, toR_ex, st_ok, st_ex, st_bind, bind_bind, RQ_ok, OQ_nx, OQ_ct, OQ_bk, OQ_rt, NQ_nx, sNil, sRet_e, sRetO_q, retK_ow, retK_sh, sRetN, sExp_e, sIf_e, sSh_e, sOw_e, sMut_q, mutK_ow, mutK2_some, sSetIx_q, setK_ow, setK2_some, sAug_q, augK_sh, augK2_int, sAugIx_q, agxK_ow, agxK0_int, agxK1_some, agxK2_int, agxK3_some, sTup_q, tupK_some, sFor_e, sNo, sBk, sCt, eV_q, eO_q, slV_sh, slO_sh, slO_ow, eC, eBin, ofO_some, asB_bl, tE, tNotD, tAndD, tOrD, eAnd, eOr, eNot, eIf, eChain, tTru, truD, aNil, aCons, eTup, eLst, oNone, oSome, asI, eSl, sliceD, eCall, eFn, eFnK, eComp, okOwn_q, slOk_sh, slOk_no, slOk_none, wipeD, noX, tYesD, itSeq_q, seqK_lst, seqK_tup, seqK_scr, itRange1_q, rng1K_e, itRange2_q, rng2K_e, itEnum_q, enmK_e, itZip_q, zipK_e, bindP, binds, eNeg, eIsi, addD, subD, mulD, fdivD, modD, powD, iop, cmpI, isND, notND, D.isN, idxD, lenD, listD, tupleD, appD_lst, setD_lst, mutK2_ite, D.isL, max2D, min2D, absD, PD.intD, D.ty, frz_cons, frz1_q, frzS_ow, frzS_sh, frzS_no, frzD_lst, frzD_int, frzD_nil, frzK_nil, frz_nil, mkSl_lst, D.isMut, R.bind_ok, R.bind_no, dec_true, decide_eq_true_eq, decide_eq_false_iff_not, Bool.not_eq_true', Bool.decide_eq_true, Bool.not_eq_eq_eq_not, List.map_cons, List.map_nil, List.length_cons, List.length_nil, List.replicate_succ, List.replicate_zero, List.cons_append, List.nil_append, List.append_nil, List.getElem?_cons_zero, List.getElem?_cons_succ, List.set_cons_zero, List.set_cons_succ, List.all_cons, List.all_nil, Bool.and_true, Bool.true_and, Bool.and_self, Bool.not_true, Bool.not_false, Bool.false_eq_true, Bool.true_eq_false, if_true, if_false, ite_true, ite_false, reduceIte, Nat.add_sub_cancel, Nat.reduceSub, Nat.reduceAdd, Nat.sub_self, Nat.zero_add, Int.reduceLT, Int.reduceLE, Int.reduceEq, Int.reduceAdd, Int.reduceSub, Int.reduceMul, Int.reduceNeg, Int.reduceMod, Int.reduceDiv, Nat.zero_le, isiD_lst, isiD_int_int, isiD_int_bool, isiD_bl_bool, isiD_tup, decide_true, decide_false, List.length_map]
  rw [if_pos (by rw [szL, List.length_zip]; omega)]
  rw [show ((S.zip (S.drop 1)).map fun p : Nat × Nat => D.bl (decide ((p.1 : Int) < p.2))) = ((S.zip (S.drop 1)).map fun p : Nat × Nat => (decide ((p.1 : Int) < p.2))).map D.bl by rw [List.map_map]; rfl]
  simp -implicitDefEqProofs only [runF_e, sSeq_e, thn_nx, thn_rt, thn_ex, thn_ct, thn_bk, toR_rt, toR_nx, toR_ex, st_ok, st_ex, st_bind, bind_bind, RQ_ok, OQ_nx, OQ_ct, OQ_bk, OQ_rt, NQ_nx, sNil, sRet_e, sRetO_q, retK_ow, retK_sh, sRetN, sExp_e, sIf_e, sSh_e, sOw_e, sMut_q, mutK_ow, mutK2_some, sSetIx_q, setK_ow, setK2_some, sAug_q, augK_sh, augK2_int, sAugIx_q, agxK_ow, agxK0_int, agxK1_some, agxK2_int, agxK3_some, sTup_q, tupK_some, sFor_e, sNo, sBk, sCt, eV_q, eO_q, slV_sh, slO_sh, slO_ow, eC, eBin, ofO_some, asB_bl, tE, tNotD, tAndD, tOrD, eAnd, eOr, eNot, eIf, eChain, tTru, truD, aNil, aCons, eTup, eLst, oNone, oSome, asI, eSl, sliceD, eCall, eFn, eFnK, eComp, okOwn_q, slOk_sh, slOk_no, slOk_none, wipeD, noX, tYesD, itSeq_q, seqK_lst, seqK_tup, seqK_scr, itRange1_q, rng1K_e, itRange2_q, rng2K_e, itEnum_q, enmK_e, itZip_q, zipK_e, bindP, binds, eNeg, eIsi, addD, subD, mulD, fdivD, modD, powD, iop, cmpI, isND, notND, D.isN, idxD, lenD, listD, tupleD, appD_lst, setD_lst, mutK2_ite, D.isL, max2D, min2D, absD, PD.intD, D.ty, frz_cons, frz1_q, frzS_ow, frzS_sh, frzS_no, frzD_lst, frzD_int, frzD_nil, frzK_nil, frz_nil, mkSl_lst, D.isMut, R.bind_ok, R.bind_no, dec_true, decide_eq_true_eq, decide_eq_false_iff_not, Bool.not_eq_true', Bool.decide_eq_true, Bool.not_eq_eq_eq_not, List.map_cons, List.map_nil, List.length_cons, List.length_nil, List.replicate_succ, List.replicate_zero, List.cons_append, List.nil_append, List.append_nil, List.getElem?_cons_zero, List.getElem?_cons_succ, List.set_cons_zero, List.set_cons_succ, List.all_cons, List.all_nil, Bool.and_true, Bool.true_and, Bool.and_self, Bool.not_true, Bool.not_false, Bool.false_eq_true, Bool.true_eq_false, if_true, if_false, ite_true, ite_false, reduceIte, Nat.add_sub_cancel, Nat.reduceSub, Nat.reduceAdd, Nat.sub_self, Nat.zero_add, Int.reduceLT, Int.reduceLE, Int.reduceEq, Int.reduceAdd, Int.reduceSub, Int.reduceMul, Int.reduceNeg, Int.reduceMod, Int.reduceDiv, Nat.zero_le, isiD_lst, isiD_int_int, isiD_int_bool, isiD_bl_bool, isiD_tup, decide_true, decide_false, allD_bls]
  congr 2
  rw [List.all_eq_true]
  intro b hb
  obtain ⟨p, hp, rfl⟩ := List.mem_map.mp hb
  obtain ⟨i, hi⟩ := List.mem_iff_getElem?.mp hp
  rw [List.getElem?_zip_eq_some, List.getElem?_drop] at hi
  have h1 := (List.getElem?_eq_some_iff.mp hi.1)
  have h2 := (List.getElem?_eq_some_iff.mp hi.2)
  have := List.pairwise_iff_getElem.mp g.asc i (1 + i) h1.1 h2.1 (by omega)
  rw [h1.2, h2.2] at this
  simp; omega
theorem check_sizes_ok {S : List Nat} (g : Good S) : F_check_sizes [Nats S] = .ok .non := by
  unfold F_check_sizes
  simp -implicitDefEqProofs only [runF_e, sSeq_e, thn_nx, thn_rt, thn_ex, thn_ct, thn_bk, toR_rt, toR_nx, toR_ex, st_ok, st_ex, st_bind, bind_bind, RQ_ok, OQ_nx, OQ_ct, OQ_bk, OQ_rt, NQ_nx, sNil, sRet_e, sRetO_q, retK_ow, retK_sh, sRetN, sExp_e, sIf_e, sSh_e, sOw_e, sMut_q, mutK_ow, mutK2_some, sSetIx_q, setK_ow, setK2_some, sAug_q, augK_sh, augK2_int, sAugIx_q, agxK_ow, agxK0_int, agxK1_some, agxK2_int, agxK3_some, sTup_q, tupK_some, sFor_e, sNo, sBk, sCt, eV_q, eO_q, slV_sh, slO_sh, slO_ow, eC, eBin, ofO_some, asB_bl, tE, tNotD, tAndD, tOrD, eAnd, eOr, eNot, eIf, eChain, tTru, truD, aNil, aCons, eTup, eLst, oNone, oSome, asI, eSl, sliceD, eCall, eFn, eFnK, eComp, okOwn_q, slOk_sh, slOk_no, slOk_none, wipeD, noX, tYesD, itSeq_q, seqK_lst, seqK_tup, seqK_scr, itRange1_q, rng1K_e, itRange2_q, rng2K_e, itEnum_q, enmK_e, itZip_q, zipK_e, bindP, binds, eNeg, eIsi, addD, subD, mulD, fdivD, modD, powD, iop, cmpI, isND, notND, D.isN, idxD, lenD, listD, tupleD, appD_lst, setD_lst, mutK2_ite, D.isL, max2D, min2D, absD, PD.intD, D.ty, frz_cons, frz1_q, frzS_ow, frzS_sh, frzS_no, frzD_lst, frzD_int, frzD_nil, frzK_nil, frz_nil, mkSl_lst, D.isMut, R.bind_ok, R.bind_no, dec_true, decide_eq_true_eq, decide_eq_false_iff_not, Bool.not_eq_true', Bool.decide_eq_true, Bool.not_eq_eq_eq_not, List.map_cons, List.map_nil, List.length_cons, List.length_nil, List.replicate_succ, List.replicate_zero, List.cons_append, List.nil_append, List.append_nil, List.getElem?_cons_zero, List.getElem?_cons_succ, List.set_cons_zero, List.set_cons_succ, List.all_cons, List.all_nil, Bool.and_true, Bool.true_and, Bool.and_self, Bool.not_true, Bool.not_false, Bool.false_eq_true, Bool.true_eq_false, if_true, if_false, ite_true, ite_false, reduceIte, Nat.add_sub_cancel, Nat.reduceSub, Nat.reduceAdd, Nat.sub_self, Nat.zero_add, Int.reduceLT, Int.reduceLE, Int.reduceEq, Int.reduceAdd, Int.reduceSub, Int.reduceMul, Int.reduceNeg, Int.reduceMod, Int.reduceDiv, Nat.zero_le, isiD_lst, isiD_int_int, isiD_int_bool, isiD_bl_bool, isiD_tup, decide_true, decide_false, are_sizes_ok g]
theorem check_amount_ok {S : List Nat} (g : Good S) {a : Nat} (ha : a ≤ 5000) : F_check_amount [Nats S, .int a] = .ok .non := by
  unfold F_check_amount
  simp -implicitDefEqProofs only [runF_e, sSeq_e, thn_nx, thn_rt, thn_ex, thn_ct, thn_bk, toR_rt, toR_nx, toR_ex, st_ok, st_ex, st_bind, bind_bind, RQ_ok, OQ_nx, OQ_ct, OQ_bk, OQ_rt, NQ_nx, sNil, sRet_e, sRetO_q, retK_ow, retK_sh, sRetN, sExp_e, sIf_e, sSh_e, sOw_e, sMut_q, mutK_ow, mutK2_some, sSetIx_q, setK_ow, setK2_some, sAug_q, augK_sh, augK2_int, sAugIx_q, agxK_ow, agxK0_int, agxK1_some, agxK2_int, agxK3_some, sTup_q, tupK_some, sFor_e, sNo, sBk, sCt, eV_q, eO_q, slV_sh, slO_sh, slO_ow, eC, eBin, ofO_some, asB_bl, tE, tNotD, tAndD, tOrD, eAnd, eOr, eNot, eIf, eChain, tTru, truD, aNil, aCons, eTup, eLst, oNone, oSome, asI, eSl, sliceD, eCall, eFn, eFnK, eComp, okOwn_q, slOk_sh, slOk_no, slOk_none, wipeD, noX, tYesD, itSeq_q, seqK_lst, seqK_tup, seqK_scr, itRange1_q, rng1K_e, itRange2_q, rng2K_e, itEnum_q, enmK_e, itZip_q, zipK_e, bindP, binds, eNeg, eIsi, addD, subD, mulD, fdivD, modD, powD, iop, cmpI, isND, notND, D.isN, idxD, lenD, listD, tupleD, appD_lst, setD_lst, mutK2_ite, D.isL, max2D, min2D, absD, PD.intD, D.ty, frz_cons, frz1_q, frzS_ow, frzS_sh, frzS_no, frzD_lst, frzD_int, frzD_nil, frzK_nil, frz_nil, mkSl_lst, D.isMut, R.bind_ok, R.bind_no, dec_true, decide_eq_true_eq, decide_eq_false_iff_not, Bool.not_eq_true', Bool.decide_eq_true, Bool.not_eq_eq_eq_not, List.map_cons, List.map_nil, List.length_cons, List.length_nil, List.replicate_succ, List.replicate_zero, List.cons_append, List.nil_append, List.append_nil, List.getElem?_cons_zero, List.getElem?_cons_succ, List.set_cons_zero, List.set_cons_succ, List.all_cons, List.all_nil, Bool.and_true, Bool.true_and, Bool.and_self, Bool.not_true, Bool.not_false, Bool.false_eq_true, Bool.true_eq_false, if_true, if_false, ite_true, ite_false, reduceIte, Nat.add_sub_cancel, Nat.reduceSub, Nat.reduceAdd, Nat.sub_self, Nat.zero_add, Int.reduceLT, Int.reduceLE, Int.reduceEq, Int.reduceAdd, Int.reduceSub, Int.reduceMul, Int.reduceNeg, Int.reduceMod, Int.reduceDiv, Nat.zero_le, isiD_lst, isiD_int_int, isiD_int_bool, isiD_bl_bool, isiD_tup, decide_true, decide_false, check_sizes_ok g]
  rw [if_neg (by omega)]
  simp -implicitDefEqProofs only [runF_e, sSeq_e, thn_nx, thn_rt, thn_ex, thn_ct, thn_bk, toR_rt, toR_nx, toR_ex, st_ok, st_ex, st_bind, bind_bind, RQ_ok, OQ_nx, OQ_ct, OQ_bk, OQ_rt, NQ_nx, sNil, sRet_e, sRetO_q, retK_ow, retK_sh, sRetN, sExp_e, sIf_e, sSh_e, sOw_e, sMut_q, mutK_ow, mutK2_some, sSetIx_q, setK_ow, setK2_some, sAug_q, augK_sh, augK2_int, sAugIx_q, agxK_ow, agxK0_int, agxK1_some, agxK2_int, agxK3_some, sTup_q, tupK_some, sFor_e, sNo, sBk, sCt, eV_q, eO_q, slV_sh, slO_sh, slO_ow, eC, eBin, ofO_some, asB_bl, tE, tNotD, tAndD, tOrD, eAnd, eOr, eNot, eIf, eChain, tTru, truD, aNil, aCons, eTup, eLst, oNone, oSome, asI, eSl, sliceD, eCall, eFn, eFnK, eComp, okOwn_q, slOk_sh, slOk_no, slOk_none, wipeD, noX, tYesD, itSeq_q, seqK_lst, seqK_tup, seqK_scr, itRange1_q, rng1K_e, itRange2_q, rng2K_e, itEnum_q, enmK_e, itZip_q, zipK_e, bindP, binds, eNeg, eIsi, addD, subD, mulD, fdivD, modD, powD, iop, cmpI, isND, notND, D.isN, idxD, lenD, listD, tupleD, appD_lst, setD_lst, mutK2_ite, D.isL, max2D, min2D, absD, PD.intD, D.ty, frz_cons, frz1_q, frzS_ow, frzS_sh, frzS_no, frzD_lst, frzD_int, frzD_nil, frzK_nil, frz_nil, mkSl_lst, D.isMut, R.bind_ok, R.bind_no, dec_true, decide_eq_true_eq, decide_eq_false_iff_not, Bool.not_eq_true', Bool.decide_eq_true, Bool.not_eq_eq_eq_not, List.map_cons, List.map_nil, List.length_cons, List.length_nil, List.replicate_succ, List.replicate_zero, List.cons_append, List.nil_append, List.append_nil, List.getElem?_cons_zero, List.getElem?_cons_succ, List.set_cons_zero, List.set_cons_succ, List.all_cons, List.all_nil, Bool.and_true, Bool.true_and, Bool.and_self, Bool.not_true, Bool.not_false, Bool.false_eq_true, Bool.true_eq_false, if_true, if_false, ite_true, ite_false, reduceIte, Nat.add_sub_cancel, Nat.reduceSub, Nat.reduceAdd, Nat.sub_self, Nat.zero_add, Int.reduceLT, Int.reduceLE, Int.reduceEq, Int.reduceAdd, Int.reduceSub, Int.reduceMul, Int.reduceNeg, Int.reduceMod, Int.reduceDiv, Nat.zero_le, isiD_lst, isiD_int_int, isiD_int_bool, isiD_bl_bool, isiD_tup, decide_true, decide_false]
theorem minDf_o (L : List (Option Nat)) : RQ (ofO (minDf [.lst ((L.filter (·.isSome)).map oD)])) fun d => ∃ o, d = oD o ∧ IsMin (fun k => some k ∈ L) o := by
  cases e : L.filter (·.isSome) with
  | nil =>
    refine ⟨.non, rfl, none, rfl, fun k hk => ?_⟩
    have : some k ∈ L.filter (·.isSome) := List.mem_filter.mpr ⟨hk, rfl⟩
    rw [e] at this; cases this
  | cons x r =>
    have hsome : ∀ y ∈ x :: r, ∃ k : Nat, y = some k ∧ some k ∈ L := fun y hy => by
      rw [← e, List.mem_filter] at hy
      cases y with
      | none => cases hy.2
      | some k => exact ⟨k, rfl, hy.1⟩
    have hall : ∀ d ∈ (x :: r).map oD, ∃ k : Nat, d = .int k ∧ some k ∈ L := fun d hd => by
      obtain ⟨y, hy, rfl⟩ := List.mem_map.mp hd
      obtain ⟨k, rfl, hk⟩ := hsome y hy
      exact ⟨k, rfl, hk⟩
    have halk : alk ((x :: r).map oD) = true := by
      unfold alk
      rw [Bool.and_eq_true, shs_all, List.all_eq_true]
      refine ⟨fun d hd => ?_, fun d hd => ?_⟩
      · obtain ⟨k, rfl, _⟩ := hall d hd; rfl
      · rw [Bool.and_eq_true, List.all_eq_true]
        obtain ⟨k, rfl, _⟩ := hall d hd
        refine ⟨rfl, fun d' hd' => ?_⟩
        obtain ⟨k', rfl, _⟩ := hall d' hd'; rfl
    have key : ∀ (ds : List D) (d : D), (∀ z ∈ d :: ds, ∃ k : Nat, z = .int k ∧ some k ∈ L) → ∃ k : Nat, lessOf d ds = .int k ∧ some k ∈ L ∧ ∀ z ∈ d :: ds, ∀ j : Nat, z = .int j → k ≤ j := by
      intro ds
      induction ds with
      | nil =>
        intro d h
        obtain ⟨k, rfl, hk⟩ := h d (by simp)
        exact ⟨k, rfl, hk, fun z hz j hj => by rw [List.mem_singleton.mp hz] at hj; injection hj with hj; omega⟩
      | cons e ds ih =>
        intro d h
        obtain ⟨k, rfl, hk⟩ := h d (by simp)
        obtain ⟨k2, rfl, hk2⟩ := h e (by simp)
        show ∃ m : Nat, lessOf (if D.lt (.int k2) (.int k) = true then .int k2 else .int k) ds = .int m ∧ _
        have hlt : D.lt (.int (k2 : Int)) (.int k) = decide ((k2 : Int) < k) := PySem.W.dataLt_int _ _
        rw [hlt]
        by_cases hx : (k2 : Int) < k
        · rw [if_pos (decide_eq_true hx)]
          obtain ⟨m, h1, h2, h3⟩ := ih (.int k2) fun z hz => h z (List.mem_cons_of_mem _ hz)
          refine ⟨m, h1, h2, fun z hz j hj => ?_⟩
          rcases List.mem_cons.mp hz with rfl | hz
          · injection hj with hj
            have := h3 _ List.mem_cons_self k2 rfl
            omega
          · exact h3 z hz j hj
        · rw [if_neg (by simpa using hx)]
          obtain ⟨m, h1, h2, h3⟩ := ih (.int k) fun z hz => h z (by
            rcases List.mem_cons.mp hz with rfl | hz
            · exact List.mem_cons_self
            · exact List.mem_cons_of_mem _ (List.mem_cons_of_mem _ hz))
          refine ⟨m, h1, h2, fun z hz j hj => ?_⟩
          rcases List.mem_cons.mp hz with rfl | hz
          · exact h3 _ List.mem_cons_self j hj
          · rcases List.mem_cons.mp hz with rfl | hz
            · injection hj with hj
              have := h3 _ List.mem_cons_self k rfl
              omega
            · exact h3 z (List.mem_cons_of_mem _ hz) j hj
    obtain ⟨k, h1, h2, h3⟩ := key (r.map oD) (oD x) hall
    refine ⟨.int k, ?_, some k, rfl, h2, fun j hj => ?_⟩
    · show ofO (if alk ((x :: r).map oD) = true then some (lessOf (oD x) (r.map oD)) else none) = _
      rw [if_pos halk, h1]; rfl
    · have : some j ∈ x :: r := by rw [← e]; exact List.mem_filter.mpr ⟨hj, rfl⟩
      exact h3 (.int j) (List.mem_map.mpr ⟨some j, this, rfl⟩) j rfl
theorem least_before_ok {S : List Nat} (hS : ∀ s ∈ S, 0 < s) (hl : S.length ≤ 8) {n : Nat} {T : List (Option Nat)} (h : Table S n T) : RQ (F_least_before [Tab T, Nats S, .int ((n + 1 : Nat) : Int)]) fun d => ∃ o, d = oD o ∧ IsMin (fun k => ∃ s ∈ S, s ≤ n + 1 ∧ IsMin (Fil S (n + 1 - s)) (some k)) o := by
  unfold F_least_before
  simp -implicitDefEqProofs only [runF_e, sSeq_e, thn_nx, thn_rt, thn_ex, thn_ct, thn_bk, toR_rt, toR_nx, toR_ex, st_ok, st_ex, st_bind, bind_bind, RQ_ok, OQ_nx, OQ_ct, OQ_bk, OQ_rt, NQ_nx, sNil, sRet_e, sRetO_q, retK_ow, retK_sh, sRetN, sExp_e, sIf_e, sSh_e, sOw_e, sMut_q, mutK_ow, mutK2_some, sSetIx_q, setK_ow, setK2_some, sAug_q, augK_sh, augK2_int, sAugIx_q, agxK_ow, agxK0_int, agxK1_some, agxK2_int, agxK3_some, sTup_q, tupK_some, sFor_e, sNo, sBk, sCt, eV_q, eO_q, slV_sh, slO_sh, slO_ow, eC, eBin, ofO_some, asB_bl, tE, tNotD, tAndD, tOrD, eAnd, eOr, eNot, eIf, eChain, tTru, truD, aNil, aCons, eTup, eLst, oNone, oSome, asI, eSl, sliceD, eCall, eFn, eFnK, eComp, okOwn_q, slOk_sh, slOk_no, slOk_none, wipeD, noX, tYesD, itSeq_q, seqK_lst, seqK_tup, seqK_scr, itRange1_q, rng1K_e, itRange2_q, rng2K_e, itEnum_q, enmK_e, itZip_q, zipK_e, bindP, binds, eNeg, eIsi, addD, subD, mulD, fdivD, modD, powD, iop, cmpI, isND, notND, D.isN, idxD, lenD, listD, tupleD, appD_lst, setD_lst, mutK2_ite, D.isL, max2D, min2D, absD, PD.intD, D.ty, frz_cons, frz1_q, frzS_ow, frzS_sh, frzS_no, frzD_lst, frzD_int, frzD_nil, frzK_nil, frz_nil, mkSl_lst, D.isMut, R.bind_ok, R.bind_no, dec_true, decide_eq_true_eq, decide_eq_false_iff_not, Bool.not_eq_true', Bool.decide_eq_true, Bool.not_eq_eq_eq_not, List.map_cons, List.map_nil, List.length_cons, List.length_nil, List.replicate_succ, List.replicate_zero, List.cons_append, List.nil_append, List.append_nil, List.getElem?_cons_zero, List.getElem?_cons_succ, List.set_cons_zero, List.set_cons_succ, List.all_cons, List.all_nil, Bool.and_true, Bool.true_and, Bool.and_self, Bool.not_true, Bool.not_false, Bool.false_eq_true, Bool.true_eq_false, if_true, if_false, ite_true, ite_false, reduceIte, Nat.add_sub_cancel, Nat.reduceSub, Nat.reduceAdd, Nat.sub_self, Nat.zero_add, Int.reduceLT, Int.reduceLE, Int.reduceEq, Int.reduceAdd, Int.reduceSub, Int.reduceMul, Int.reduceNeg, Int.reduceMod, Int.reduceDiv, Nat.zero_le, isiD_lst, isiD_int_int, isiD_int_bool, isiD_bl_bool, isiD_tup, decide_true, decide_false]
  rw [compD_map (fun s : Nat => D.int s) (fun s => decide (s ≤ n + 1)) (fun s => oD (T.getD (n + 1 - s) none)) S fun x hx => ⟨_, rfl, by simp -implicitDefEqProofs only [runF_e, sSeq_e, thn_nx, thn_rt, thn_ex, thn_ct, thn_bk, toR_rt, toR_nx, toR_ex, st_ok, st_ex, st_bind, bind_bind, RQ_ok, OQ_nx, OQ_ct, OQ_bk, OQ_rt, NQ_nx, sNil, sRet_e, sRetO_q, retK_ow, retK_sh, sRetN, sExp_e, sIf_e, sSh_e, sOw_e, sMut_q, mutK_ow, mutK2_some, sSetIx_q, setK_ow, setK2_some, sAug_q, augK_sh, augK2_int, sAugIx_q, agxK_ow, agxK0_int, agxK1_some, agxK2_int, agxK3_some, sTup_q, tupK_some, sFor_e, sNo, sBk, sCt, eV_q, eO_q, slV_sh, slO_sh, slO_ow, eC, eBin, ofO_some, asB_bl, tE, tNotD, tAndD, tOrD, eAnd, eOr, eNot, eIf, eChain, tTru, truD, aNil, aCons, eTup, eLst, oNone, oSome, asI, eSl, sliceD, eCall, eFn, eFnK, eComp, okOwn_q, slOk_sh, slOk_no, slOk_none, wipeD, noX, tYesD, itSeq_q, seqK_lst, seqK_tup, seqK_scr, itRange1_q, rng1K_e, itRange2_q, rng2K_e, itEnum_q, enmK_e, itZip_q, zipK_e, bindP, binds, eNeg, eIsi, addD, subD, mulD, fdivD, modD, powD, iop, cmpI, isND, notND, D.isN, idxD, lenD, listD, tupleD, appD_lst, setD_lst, mutK2_ite, D.isL, max2D, min2D, absD, PD.intD, D.ty, frz_cons, frz1_q, frzS_ow, frzS_sh, frzS_no, frzD_lst, frzD_int, frzD_nil, frzK_nil, frz_nil, mkSl_lst, D.isMut, R.bind_ok, R.bind_no, dec_true, decide_eq_true_eq, decide_eq_false_iff_not, Bool.not_eq_true', Bool.decide_eq_true, Bool.not_eq_eq_eq_not, List.map_cons, List.map_nil, List.length_cons, List.length_nil, List.replicate_succ, List.replicate_zero, List.cons_append, List.nil_append, List.append_nil, List.getElem?_cons_zero, List.getElem?_cons_succ, List.set_cons_zero, List.set_cons_succ, List.all_cons, List.all_nil, Bool.and_true, Bool.true_and, Bool.and_self, Bool.not_true, Bool.not_false, Bool.false_eq_true, Bool.true_eq_false, if_true, if_false, ite_true, ite_false, reduceIte, Nat.add_sub_cancel, Nat.reduceSub, Nat.reduceAdd, Nat.sub_self, Nat.zero_add, Int.reduceLT, Int.reduceLE, Int.reduceEq, Int.reduceAdd, Int.reduceSub, Int.reduceMul, Int.reduceNeg, Int.reduceMod, Int.reduceDiv, Nat.zero_le, isiD_lst, isiD_int_int, isiD_int_bool, isiD_bl_bool, isiD_tup, decide_true, decide_false]; simp; omega, fun hc => by
    have hc : x ≤ n + 1 := by simpa using hc
    have h0 := hS x hx
    have hlen := h.len
    simp -implicitDefEqProofs only [runF_e, sSeq_e, thn_nx, thn_rt, thn_ex, thn_ct, thn_bk, toR_rt, toR_nx, toR_ex, st_ok, st_ex, st_bind, bind_bind, RQ_ok, OQ_nx, OQ_ct, OQ_bk, OQ_rt, NQ_nx, sNil, sRet_e, sRetO_q, retK_ow, retK_sh, sRetN, sExp_e, sIf_e, sSh_e, sOw_e, sMut_q, mutK_ow, mutK2_some, sSetIx_q, setK_ow, setK2_some, sAug_q, augK_sh, augK2_int, sAugIx_q, agxK_ow, agxK0_int, agxK1_some, agxK2_int, agxK3_some, sTup_q, tupK_some, sFor_e, sNo, sBk, sCt, eV_q, eO_q, slV_sh, slO_sh, slO_ow, eC, eBin, ofO_some, asB_bl, tE, tNotD, tAndD, tOrD, eAnd, eOr, eNot, eIf, eChain, tTru, truD, aNil, aCons, eTup, eLst, oNone, oSome, asI, eSl, sliceD, eCall, eFn, eFnK, eComp, okOwn_q, slOk_sh, slOk_no, slOk_none, wipeD, noX, tYesD, itSeq_q, seqK_lst, seqK_tup, seqK_scr, itRange1_q, rng1K_e, itRange2_q, rng2K_e, itEnum_q, enmK_e, itZip_q, zipK_e, bindP, binds, eNeg, eIsi, addD, subD, mulD, fdivD, modD, powD, iop, cmpI, isND, notND, D.isN, idxD, lenD, listD, tupleD, appD_lst, setD_lst, mutK2_ite, D.isL, max2D, min2D, absD, PD.intD, D.ty, frz_cons, frz1_q, frzS_ow, frzS_sh, frzS_no, frzD_lst, frzD_int, frzD_nil, frzK_nil, frz_nil, mkSl_lst, D.isMut, R.bind_ok, R.bind_no, dec_true, decide_eq_true_eq, decide_eq_false_iff_not, Bool.not_eq_true', Bool.decide_eq_true, Bool.not_eq_eq_eq_not, List.map_cons, List.map_nil, List.length_cons, List.length_nil, List.replicate_succ, List.replicate_zero, List.cons_append, List.nil_append, List.append_nil, List.getElem?_cons_zero, List.getElem?_cons_succ, List.set_cons_zero, List.set_cons_succ, List.all_cons, List.all_nil, Bool.and_true, Bool.true_and, Bool.and_self, Bool.not_true, Bool.not_false, Bool.false_eq_true, Bool.true_eq_false, if_true, if_false, ite_true, ite_false, reduceIte, Nat.add_sub_cancel, Nat.reduceSub, Nat.reduceAdd, Nat.sub_self, Nat.zero_add, Int.reduceLT, Int.reduceLE, Int.reduceEq, Int.reduceAdd, Int.reduceSub, Int.reduceMul, Int.reduceNeg, Int.reduceMod, Int.reduceDiv, Nat.zero_le, isiD_lst, isiD_int_int, isiD_int_bool, isiD_bl_bool, isiD_tup, decide_true, decide_false]
    rw [show (((n + 1 : Nat) : Int) - (x : Int)) = ((n + 1 - x : Nat) : Int) by omega]
    rw [show atI (T.map oD) ((n + 1 - x : Nat) : Int) = some (oD (T.getD (n + 1 - x) none)) by
      rw [atI_natI (by omega) (by rw [List.length_map]; omega), List.getElem?_map, List.getD_eq_getElem?_getD, Int.toNat_natCast, List.getElem?_eq_getElem (by omega)]; rfl]
    simp -implicitDefEqProofs only [runF_e, sSeq_e, thn_nx, thn_rt, thn_ex, thn_ct, thn_bk, toR_rt, toR_nx, toR_ex, st_ok, st_ex, st_bind, bind_bind, RQ_ok, OQ_nx, OQ_ct, OQ_bk, OQ_rt, NQ_nx, sNil, sRet_e, sRetO_q, retK_ow, retK_sh, sRetN, sExp_e, sIf_e, sSh_e, sOw_e, sMut_q, mutK_ow, mutK2_some, sSetIx_q, setK_ow, setK2_some, sAug_q, augK_sh, augK2_int, sAugIx_q, agxK_ow, agxK0_int, agxK1_some, agxK2_int, agxK3_some, sTup_q, tupK_some, sFor_e, sNo, sBk, sCt, eV_q, eO_q, slV_sh, slO_sh, slO_ow, eC, eBin, ofO_some, asB_bl, tE, tNotD, tAndD, tOrD, eAnd, eOr, eNot, eIf, eChain, tTru, truD, aNil, aCons, eTup, eLst, oNone, oSome, asI, eSl, sliceD, eCall, eFn, eFnK, eComp, okOwn_q, slOk_sh, slOk_no, slOk_none, wipeD, noX, tYesD, itSeq_q, seqK_lst, seqK_tup, seqK_scr, itRange1_q, rng1K_e, itRange2_q, rng2K_e, itEnum_q, enmK_e, itZip_q, zipK_e, bindP, binds, eNeg, eIsi, addD, subD, mulD, fdivD, modD, powD, iop, cmpI, isND, notND, D.isN, idxD, lenD, listD, tupleD, appD_lst, setD_lst, mutK2_ite, D.isL, max2D, min2D, absD, PD.intD, D.ty, frz_cons, frz1_q, frzS_ow, frzS_sh, frzS_no, frzD_lst, frzD_int, frzD_nil, frzK_nil, frz_nil, mkSl_lst, D.isMut, R.bind_ok, R.bind_no, dec_true, decide_eq_true_eq, decide_eq_false_iff_not, Bool.not_eq_true', Bool.decide_eq_true, Bool.not_eq_eq_eq_not, List.map_cons, List.map_nil, List.length_cons, List.length_nil, List.replicate_succ, List.replicate_zero, List.cons_append, List.nil_append, List.append_nil, List.getElem?_cons_zero, List.getElem?_cons_succ, List.set_cons_zero, List.set_cons_succ, List.all_cons, List.all_nil, Bool.and_true, Bool.true_and, Bool.and_self, Bool.not_true, Bool.not_false, Bool.false_eq_true, Bool.true_eq_false, if_true, if_false, ite_true, ite_false, reduceIte, Nat.add_sub_cancel, Nat.reduceSub, Nat.reduceAdd, Nat.sub_self, Nat.zero_add, Int.reduceLT, Int.reduceLE, Int.reduceEq, Int.reduceAdd, Int.reduceSub, Int.reduceMul, Int.reduceNeg, Int.reduceMod, Int.reduceDiv, Nat.zero_le, isiD_lst, isiD_int_int, isiD_int_bool, isiD_bl_bool, isiD_tup, decide_true, decide_false]⟩]
  have hfl : (S.filter fun s => decide (s ≤ n + 1)).length ≤ 8 := Nat.le_trans (List.length_filter_le _ _) hl
  simp -implicitDefEqProofs only [runF_e, sSeq_e, thn_nx, thn_rt, thn_ex, thn_ct, thn_bk, toR_rt, toR_nx, toR_ex, st_ok, st_ex, st_bind, bind_bind, RQ_ok, OQ_nx, OQ_ct, OQ_bk, OQ_rt, NQ_nx, sNil, sRet_e, sRetO_q, retK_ow, retK_sh, sRetN, sExp_e, sIf_e, sSh_e, sOw_e, sMut_q, mutK_ow, mutK2_some, sSetIx_q, setK_ow, setK2_some, sAug_q, augK_sh, augK2_int, sAugIx_q, agxK_ow, agxK0_int, agxK1_some, agxK2_int, agxK3_some, sTup_q, tupK_some, sFor_e, sNo, sBk, sCt, eV_q, eO_q, slV_sh, slO_sh, slO_ow, eC, eBin, ofO_some, asB_bl, tE, tNotD, tAndD, tOrD, eAnd, eOr, eNot, eIf, eChain, tTru, truD, aNil, aCons, eTup, eLst, oNone, oSome, asI, eSl, sliceD, eCall, eFn, eFnK, eComp, okOwn_q, slOk_sh, slOk_no, slOk_none, wipeD, noX, tYesD, itSeq_q, seqK_lst, seqK_tup, seqK_scr, itRange1_q, rng1K_e, itRange2_q, rng2K_e, itEnum_q, enmK_e, itZip_q, zipK_e, bindP, binds, eNeg, eIsi, addD, subD, mulD, fdivD, modD, powD, iop, cmpI, isND, notND, D.isN, idxD, lenD, listD, tupleD, appD_lst, setD_lst, mutK2_ite, D.isL, max2D, min2D, absD, PD.intD, D.ty, frz_cons, frz1_q, frzS_ow, frzS_sh, frzS_no, frzD_lst, frzD_int, frzD_nil, frzK_nil, frz_nil, mkSl_lst, D.isMut, R.bind_ok, R.bind_no, dec_true, decide_eq_true_eq, decide_eq_false_iff_not, Bool.not_eq_true', Bool.decide_eq_true, Bool.not_eq_eq_eq_not, List.map_cons, List.map_nil, List.length_cons, List.length_nil, List.replicate_succ, List.replicate_zero, List.cons_append, List.nil_append, List.append_nil, List.getElem?_cons_zero, List.getElem?_cons_succ, List.set_cons_zero, List.set_cons_succ, List.all_cons, List.all_nil, Bool.and_true, Bool.true_and, Bool.and_self, Bool.not_true, Bool.not_false, Bool.false_eq_true, Bool.true_eq_false, if_true, if_false, ite_true, ite_false, reduceIte, Nat.add_sub_cancel, Nat.reduceSub, Nat.reduceAdd, Nat.sub_self, Nat.zero_add, Int.reduceLT, Int.reduceLE, Int.reduceEq, Int.reduceAdd, Int.reduceSub, Int.reduceMul, Int.reduceNeg, Int.reduceMod, Int.reduceDiv, Nat.zero_le, isiD_lst, isiD_int_int, isiD_int_bool, isiD_bl_bool, isiD_tup, decide_true, decide_false, List.length_map]
  rw [if_pos (by rw [szL]; omega)]
  simp -implicitDefEqProofs only [runF_e, sSeq_e, thn_nx, thn_rt, thn_ex, thn_ct, thn_bk, toR_rt, toR_nx, toR_ex, st_ok, st_ex, st_bind, bind_bind, RQ_ok, OQ_nx, OQ_ct, OQ_bk, OQ_rt, NQ_nx, sNil, sRet_e, sRetO_q, retK_ow, retK_sh, sRetN, sExp_e, sIf_e, sSh_e, sOw_e, sMut_q, mutK_ow, mutK2_some, sSetIx_q, setK_ow, setK2_some, sAug_q, augK_sh, augK2_int, sAugIx_q, agxK_ow, agxK0_int, agxK1_some, agxK2_int, agxK3_some, sTup_q, tupK_some, sFor_e, sNo, sBk, sCt, eV_q, eO_q, slV_sh, slO_sh, slO_ow, eC, eBin, ofO_some, asB_bl, tE, tNotD, tAndD, tOrD, eAnd, eOr, eNot, eIf, eChain, tTru, truD, aNil, aCons, eTup, eLst, oNone, oSome, asI, eSl, sliceD, eCall, eFn, eFnK, eComp, okOwn_q, slOk_sh, slOk_no, slOk_none, wipeD, noX, tYesD, itSeq_q, seqK_lst, seqK_tup, seqK_scr, itRange1_q, rng1K_e, itRange2_q, rng2K_e, itEnum_q, enmK_e, itZip_q, zipK_e, bindP, binds, eNeg, eIsi, addD, subD, mulD, fdivD, modD, powD, iop, cmpI, isND, notND, D.isN, idxD, lenD, listD, tupleD, appD_lst, setD_lst, mutK2_ite, D.isL, max2D, min2D, absD, PD.intD, D.ty, frz_cons, frz1_q, frzS_ow, frzS_sh, frzS_no, frzD_lst, frzD_int, frzD_nil, frzK_nil, frz_nil, mkSl_lst, D.isMut, R.bind_ok, R.bind_no, dec_true, decide_eq_true_eq, decide_eq_false_iff_not, Bool.not_eq_true', Bool.decide_eq_true, Bool.not_eq_eq_eq_not, List.map_cons, List.map_nil, List.length_cons, List.length_nil, List.replicate_succ, List.replicate_zero, List.cons_append, List.nil_append, List.append_nil, List.getElem?_cons_zero, List.getElem?_cons_succ, List.set_cons_zero, List.set_cons_succ, List.all_cons, List.all_nil, Bool.and_true, Bool.true_and, Bool.and_self, Bool.not_true, Bool.not_false, Bool.false_eq_true, Bool.true_eq_false, if_true, if_false, ite_true, ite_false, reduceIte, Nat.add_sub_cancel, Nat.reduceSub, Nat.reduceAdd, Nat.sub_self, Nat.zero_add, Int.reduceLT, Int.reduceLE, Int.reduceEq, Int.reduceAdd, Int.reduceSub, Int.reduceMul, Int.reduceNeg, Int.reduceMod, Int.reduceDiv, Nat.zero_le, isiD_lst, isiD_int_int, isiD_int_bool, isiD_bl_bool, isiD_tup, decide_true, decide_false]
  rw [show ((S.filter fun s => decide (s ≤ n + 1)).map fun s => oD (T.getD (n + 1 - s) none)) = ((S.filter fun s => decide (s ≤ n + 1)).map fun s => T.getD (n + 1 - s) none).map oD by rw [List.map_map]; rfl]
  generalize hL : ((S.filter fun s => decide (s ≤ n + 1)).map fun s => T.getD (n + 1 - s) none) = L
  have hLl : L.length ≤ 8 := by rw [← hL, List.length_map]; exact hfl
  rw [compD_map oD (fun o => o.isSome) oD L fun x hx => ⟨_, rfl, by cases x <;> simp -implicitDefEqProofs only [runF_e, sSeq_e, thn_nx, thn_rt, thn_ex, thn_ct, thn_bk, toR_rt, toR_nx, toR_ex, st_ok, st_ex, st_bind, bind_bind, RQ_ok, OQ_nx, OQ_ct, OQ_bk, OQ_rt, NQ_nx, sNil, sRet_e, sRetO_q, retK_ow, retK_sh, sRetN, sExp_e, sIf_e, sSh_e, sOw_e, sMut_q, mutK_ow, mutK2_some, sSetIx_q, setK_ow, setK2_some, sAug_q, augK_sh, augK2_int, sAugIx_q, agxK_ow, agxK0_int, agxK1_some, agxK2_int, agxK3_some, sTup_q, tupK_some, sFor_e, sNo, sBk, sCt, eV_q, eO_q, slV_sh, slO_sh, slO_ow, eC, eBin, ofO_some, asB_bl, tE, tNotD, tAndD, tOrD, eAnd, eOr, eNot, eIf, eChain, tTru, truD, aNil, aCons, eTup, eLst, oNone, oSome, asI, eSl, sliceD, eCall, eFn, eFnK, eComp, okOwn_q, slOk_sh, slOk_no, slOk_none, wipeD, noX, tYesD, itSeq_q, seqK_lst, seqK_tup, seqK_scr, itRange1_q, rng1K_e, itRange2_q, rng2K_e, itEnum_q, enmK_e, itZip_q, zipK_e, bindP, binds, eNeg, eIsi, addD, subD, mulD, fdivD, modD, powD, iop, cmpI, isND, notND, D.isN, idxD, lenD, listD, tupleD, appD_lst, setD_lst, mutK2_ite, D.isL, max2D, min2D, absD, PD.intD, D.ty, frz_cons, frz1_q, frzS_ow, frzS_sh, frzS_no, frzD_lst, frzD_int, frzD_nil, frzK_nil, frz_nil, mkSl_lst, D.isMut, R.bind_ok, R.bind_no, dec_true, decide_eq_true_eq, decide_eq_false_iff_not, Bool.not_eq_true', Bool.decide_eq_true, Bool.not_eq_eq_eq_not, List.map_cons, List.map_nil, List.length_cons, List.length_nil, List.replicate_succ, List.replicate_zero, List.cons_append, List.nil_append, List.append_nil, List.getElem?_cons_zero, List.getElem?_cons_succ, List.set_cons_zero, List.set_cons_succ, List.all_cons, List.all_nil, Bool.and_true, Bool.true_and, Bool.and_self, Bool.not_true, Bool.not_false, Bool.false_eq_true, Bool.true_eq_false, if_true, if_false, ite_true, ite_false, reduceIte, Nat.add_sub_cancel, Nat.reduceSub, Nat.reduceAdd, Nat.sub_self, Nat.zero_add, Int.reduceLT, Int.reduceLE, Int.reduceEq, Int.reduceAdd, Int.reduceSub, Int.reduceMul, Int.reduceNeg, Int.reduceMod, Int.reduceDiv, Nat.zero_le, isiD_lst, isiD_int_int, isiD_int_bool, isiD_bl_bool, isiD_tup, decide_true, decide_false, oD] <;> rfl, fun _ => by simp -implicitDefEqProofs only [runF_e, sSeq_e, thn_nx, thn_rt, thn_ex, thn_ct, thn_bk, toR_rt, toR_nx, toR_ex, st_ok, st_ex, st_bind, bind_bind, RQ_ok, OQ_nx, OQ_ct, OQ_bk, OQ_rt, NQ_nx, sNil, sRet_e, sRetO_q, retK_ow, retK_sh, sRetN, sExp_e, sIf_e, sSh_e, sOw_e, sMut_q, mutK_ow, mutK2_some, sSetIx_q, setK_ow, setK2_some, sAug_q, augK_sh, augK2_int, sAugIx_q, agxK_ow, agxK0_int, agxK1_some, agxK2_int, agxK3_some, sTup_q, tupK_some, sFor_e, sNo, sBk, sCt, eV_q, eO_q, slV_sh, slO_sh, slO_ow, eC, eBin, ofO_some, asB_bl, tE, tNotD, tAndD, tOrD, eAnd, eOr, eNot, eIf, eChain, tTru, truD, aNil, aCons, eTup, eLst, oNone, oSome, asI, eSl, sliceD, eCall, eFn, eFnK, eComp, okOwn_q, slOk_sh, slOk_no, slOk_none, wipeD, noX, tYesD, itSeq_q, seqK_lst, seqK_tup, seqK_scr, itRange1_q, rng1K_e, itRange2_q, rng2K_e, itEnum_q, enmK_e, itZip_q, zipK_e, bindP, binds, eNeg, eIsi, addD, subD, mulD, fdivD, modD, powD, iop, cmpI, isND, notND, D.isN, idxD, lenD, listD, tupleD, appD_lst, setD_lst, mutK2_ite, D.isL, max2D, min2D, absD, PD.intD, D.ty, frz_cons, frz1_q, frzS_ow, frzS_sh, frzS_no, frzD_lst, frzD_int, frzD_nil, frzK_nil, frz_nil, mkSl_lst, D.isMut, R.bind_ok, R.bind_no, dec_true, decide_eq_true_eq, decide_eq_false_iff_not, Bool.not_eq_true', Bool.decide_eq_true, Bool.not_eq_eq_eq_not, List.map_cons, List.map_nil, List.length_cons, List.length_nil, List.replicate_succ, List.replicate_zero, List.cons_append, List.nil_append, List.append_nil, List.getElem?_cons_zero, List.getElem?_cons_succ, List.set_cons_zero, List.set_cons_succ, List.all_cons, List.all_nil, Bool.and_true, Bool.true_and, Bool.and_self, Bool.not_true, Bool.not_false, Bool.false_eq_true, Bool.true_eq_false, if_true, if_false, ite_true, ite_false, reduceIte, Nat.add_sub_cancel, Nat.reduceSub, Nat.reduceAdd, Nat.sub_self, Nat.zero_add, Int.reduceLT, Int.reduceLE, Int.reduceEq, Int.reduceAdd, Int.reduceSub, Int.reduceMul, Int.reduceNeg, Int.reduceMod, Int.reduceDiv, Nat.zero_le, isiD_lst, isiD_int_int, isiD_int_bool, isiD_bl_bool, isiD_tup, decide_true, decide_false]⟩]
  have : (L.filter fun o => o.isSome).length ≤ 8 := Nat.le_trans (List.length_filter_le _ _) hLl
  simp -implicitDefEqProofs only [runF_e, sSeq_e, thn_nx, thn_rt, thn_ex, thn_ct, thn_bk, toR_rt, toR_nx, toR_ex, st_ok, st_ex, st_bind, bind_bind, RQ_ok, OQ_nx, OQ_ct, OQ_bk, OQ_rt, NQ_nx, sNil, sRet_e, sRetO_q, retK_ow, retK_sh, sRetN, sExp_e, sIf_e, sSh_e, sOw_e, sMut_q, mutK_ow, mutK2_some, sSetIx_q, setK_ow, setK2_some, sAug_q, augK_sh, augK2_int, sAugIx_q, agxK_ow, agxK0_int, agxK1_some, agxK2_int, agxK3_some, sTup_q, tupK_some, sFor_e, sNo, sBk, sCt, eV_q, eO_q, slV_sh, slO_sh, slO_ow, eC, eBin, ofO_some, asB_bl, tE, tNotD, tAndD, tOrD, eAnd, eOr, eNot, eIf, eChain, tTru, truD, aNil, aCons, eTup, eLst, oNone, oSome, asI, eSl, sliceD, eCall, eFn, eFnK, eComp, okOwn_q, slOk_sh, slOk_no, slOk_none, wipeD, noX, tYesD, itSeq_q, seqK_lst, seqK_tup, seqK_scr, itRange1_q, rng1K_e, itRange2_q, rng2K_e, itEnum_q, enmK_e, itZip_q, zipK_e, bindP, binds, eNeg, eIsi, addD, subD, mulD, fdivD, modD, powD, iop, cmpI, isND, notND, D.isN, idxD, lenD, listD, tupleD, appD_lst, setD_lst, mutK2_ite, D.isL, max2D, min2D, absD, PD.intD, D.ty, frz_cons, frz1_q, frzS_ow, frzS_sh, frzS_no, frzD_lst, frzD_int, frzD_nil, frzK_nil, frz_nil, mkSl_lst, D.isMut, R.bind_ok, R.bind_no, dec_true, decide_eq_true_eq, decide_eq_false_iff_not, Bool.not_eq_true', Bool.decide_eq_true, Bool.not_eq_eq_eq_not, List.map_cons, List.map_nil, List.length_cons, List.length_nil, List.replicate_succ, List.replicate_zero, List.cons_append, List.nil_append, List.append_nil, List.getElem?_cons_zero, List.getElem?_cons_succ, List.set_cons_zero, List.set_cons_succ, List.all_cons, List.all_nil, Bool.and_true, Bool.true_and, Bool.and_self, Bool.not_true, Bool.not_false, Bool.false_eq_true, Bool.true_eq_false, if_true, if_false, ite_true, ite_false, reduceIte, Nat.add_sub_cancel, Nat.reduceSub, Nat.reduceAdd, Nat.sub_self, Nat.zero_add, Int.reduceLT, Int.reduceLE, Int.reduceEq, Int.reduceAdd, Int.reduceSub, Int.reduceMul, Int.reduceNeg, Int.reduceMod, Int.reduceDiv, Nat.zero_le, isiD_lst, isiD_int_int, isiD_int_bool, isiD_bl_bool, isiD_tup, decide_true, decide_false, List.length_map]
  rw [if_pos (by rw [szL]; omega)]
  simp -implicitDefEqProofs only [runF_e, sSeq_e, thn_nx, thn_rt, thn_ex, thn_ct, thn_bk, toR_rt, toR_nx, toR_ex, st_ok, st_ex, st_bind, bind_bind, RQ_ok, OQ_nx, OQ_ct, OQ_bk, OQ_rt, NQ_nx, sNil, sRet_e, sRetO_q, retK_ow, retK_sh, sRetN, sExp_e, sIf_e, sSh_e, sOw_e, sMut_q, mutK_ow, mutK2_some, sSetIx_q, setK_ow, setK2_some, sAug_q, augK_sh, augK2_int, sAugIx_q, agxK_ow, agxK0_int, agxK1_some, agxK2_int, agxK3_some, sTup_q, tupK_some, sFor_e, sNo, sBk, sCt, eV_q, eO_q, slV_sh, slO_sh, slO_ow, eC, eBin, ofO_some, asB_bl, tE, tNotD, tAndD, tOrD, eAnd, eOr, eNot, eIf, eChain, tTru, truD, aNil, aCons, eTup, eLst, oNone, oSome, asI, eSl, sliceD, eCall, eFn, eFnK, eComp, okOwn_q, slOk_sh, slOk_no, slOk_none, wipeD, noX, tYesD, itSeq_q, seqK_lst, seqK_tup, seqK_scr, itRange1_q, rng1K_e, itRange2_q, rng2K_e, itEnum_q, enmK_e, itZip_q, zipK_e, bindP, binds, eNeg, eIsi, addD, subD, mulD, fdivD, modD, powD, iop, cmpI, isND, notND, D.isN, idxD, lenD, listD, tupleD, appD_lst, setD_lst, mutK2_ite, D.isL, max2D, min2D, absD, PD.intD, D.ty, frz_cons, frz1_q, frzS_ow, frzS_sh, frzS_no, frzD_lst, frzD_int, frzD_nil, frzK_nil, frz_nil, mkSl_lst, D.isMut, R.bind_ok, R.bind_no, dec_true, decide_eq_true_eq, decide_eq_false_iff_not, Bool.not_eq_true', Bool.decide_eq_true, Bool.not_eq_eq_eq_not, List.map_cons, List.map_nil, List.length_cons, List.length_nil, List.replicate_succ, List.replicate_zero, List.cons_append, List.nil_append, List.append_nil, List.getElem?_cons_zero, List.getElem?_cons_succ, List.set_cons_zero, List.set_cons_succ, List.all_cons, List.all_nil, Bool.and_true, Bool.true_and, Bool.and_self, Bool.not_true, Bool.not_false, Bool.false_eq_true, Bool.true_eq_false, if_true, if_false, ite_true, ite_false, reduceIte, Nat.add_sub_cancel, Nat.reduceSub, Nat.reduceAdd, Nat.sub_self, Nat.zero_add, Int.reduceLT, Int.reduceLE, Int.reduceEq, Int.reduceAdd, Int.reduceSub, Int.reduceMul, Int.reduceNeg, Int.reduceMod, Int.reduceDiv, Nat.zero_le, isiD_lst, isiD_int_int, isiD_int_bool, isiD_bl_bool, isiD_tup, decide_true, decide_false]
  obtain ⟨d, h1, o, rfl, h2⟩ := minDf_o L
  rw [h1]
  simp -implicitDefEqProofs only [runF_e, sSeq_e, thn_nx, thn_rt, thn_ex, thn_ct, thn_bk, toR_rt, toR_nx, toR_ex, st_ok, st_ex, st_bind, bind_bind, RQ_ok, OQ_nx, OQ_ct, OQ_bk, OQ_rt, NQ_nx, sNil, sRet_e, sRetO_q, retK_ow, retK_sh, sRetN, sExp_e, sIf_e, sSh_e, sOw_e, sMut_q, mutK_ow, mutK2_some, sSetIx_q, setK_ow, setK2_some, sAug_q, augK_sh, augK2_int, sAugIx_q, agxK_ow, agxK0_int, agxK1_some, agxK2_int, agxK3_some, sTup_q, tupK_some, sFor_e, sNo, sBk, sCt, eV_q, eO_q, slV_sh, slO_sh, slO_ow, eC, eBin, ofO_some, asB_bl, tE, tNotD, tAndD, tOrD, eAnd, eOr, eNot, eIf, eChain, tTru, truD, aNil, aCons, eTup, eLst, oNone, oSome, asI, eSl, sliceD, eCall, eFn, eFnK, eComp, okOwn_q, slOk_sh, slOk_no, slOk_none, wipeD, noX, tYesD, itSeq_q, seqK_lst, seqK_tup, seqK_scr, itRange1_q, rng1K_e, itRange2_q, rng2K_e, itEnum_q, enmK_e, itZip_q, zipK_e, bindP, binds, eNeg, eIsi, addD, subD, mulD, fdivD, modD, powD, iop, cmpI, isND, notND, D.isN, idxD, lenD, listD, tupleD, appD_lst, setD_lst, mutK2_ite, D.isL, max2D, min2D, absD, PD.intD, D.ty, frz_cons, frz1_q, frzS_ow, frzS_sh, frzS_no, frzD_lst, frzD_int, frzD_nil, frzK_nil, frz_nil, mkSl_lst, D.isMut, R.bind_ok, R.bind_no, dec_true, decide_eq_true_eq, decide_eq_false_iff_not, Bool.not_eq_true', Bool.decide_eq_true, Bool.not_eq_eq_eq_not, List.map_cons, List.map_nil, List.length_cons, List.length_nil, List.replicate_succ, List.replicate_zero, List.cons_append, List.nil_append, List.append_nil, List.getElem?_cons_zero, List.getElem?_cons_succ, List.set_cons_zero, List.set_cons_succ, List.all_cons, List.all_nil, Bool.and_true, Bool.true_and, Bool.and_self, Bool.not_true, Bool.not_false, Bool.false_eq_true, Bool.true_eq_false, if_true, if_false, ite_true, ite_false, reduceIte, Nat.add_sub_cancel, Nat.reduceSub, Nat.reduceAdd, Nat.sub_self, Nat.zero_add, Int.reduceLT, Int.reduceLE, Int.reduceEq, Int.reduceAdd, Int.reduceSub, Int.reduceMul, Int.reduceNeg, Int.reduceMod, Int.reduceDiv, Nat.zero_le, isiD_lst, isiD_int_int, isiD_int_bool, isiD_bl_bool, isiD_tup, decide_true, decide_false]
  refine ⟨o, rfl, ?_⟩
  have e : (fun k => some k ∈ L) = fun k => ∃ s ∈ S, s ≤ n + 1 ∧ IsMin (Fil S (n + 1 - s)) (some k) := by
    funext k
    rw [← hL, List.mem_map]
    apply propext
    constructor
    · rintro ⟨s, hs, e⟩
      rw [List.mem_filter] at hs
      have hs2 : s ≤ n + 1 := by simpa using hs.2
      have h0 := hS s hs.1
      obtain ⟨o, h3, h4⟩ := h.get (r := n + 1 - s) (by omega)
      rw [List.getD_eq_getElem?_getD, h3] at e
      have e : o = some k := e
      subst e
      exact ⟨s, hs.1, hs2, h4⟩
    · rintro ⟨s, hs, hs2, hm⟩
      have h0 := hS s hs
      obtain ⟨o, h3, h4⟩ := h.get (r := n + 1 - s) (by omega)
      have := h4.uniq hm
      subst this
      exact ⟨s, List.mem_filter.mpr ⟨hs, by simpa using hs2⟩, by rw [List.getD_eq_getElem?_getD, h3]; rfl⟩
  rw [← e]
  exact h2
end K55
namespace K55
open PySem PySem.Spec PyProof.Rows L2 PD
theorem eqD_non_oD_isN (o : Option Nat) : (oD o).isN = o.isNone := by cases o <;> rfl
theorem Tab_snoc (T : List (Option Nat)) (o : Option Nat) : D.lst (T.map oD ++ [oD o]) = Tab (T ++ [o]) := by unfold Tab; rw [List.map_append]; rfl
theorem Table.lt {S : List Nat} {n : Nat} {T : List (Option Nat)} (h : Table S n T) (hn : n ≤ 5000) : (T.map oD).length < sizeLine := by rw [List.length_map, h.len, szL]; omega
theorem table_of_ok {S : List Nat} (hS : ∀ s ∈ S, 0 < s) (hl : S.length ≤ 8) {a : Nat} (ha : a ≤ 5000) : RQ (F_table_of [Nats S, .int a]) fun d => ∃ T, d = Tab T ∧ Table S a T := by
  unfold F_table_of
  simp -implicitDefEqProofs only [runF_e, sSeq_e, thn_nx, thn_rt, thn_ex, thn_ct, thn_bk, toR_rt, toR_nx, toR_ex, st_ok, st_ex, st_bind, bind_bind, RQ_ok, OQ_nx, OQ_ct, OQ_bk, OQ_rt, NQ_nx, sNil, sRet_e, sRetO_q, retK_ow, retK_sh, sRetN, sExp_e, sIf_e, sSh_e, sOw_e, sMut_q, mutK_ow, mutK2_some, sSetIx_q, setK_ow, setK2_some, sAug_q, augK_sh, augK2_int, sAugIx_q, agxK_ow, agxK0_int, agxK1_some, agxK2_int, agxK3_some, sTup_q, tupK_some, sFor_e, sNo, sBk, sCt, eV_q, eO_q, slV_sh, slO_sh, slO_ow, eC, eBin, ofO_some, asB_bl, tE, tNotD, tAndD, tOrD, eAnd, eOr, eNot, eIf, eChain, tTru, truD, aNil, aCons, eTup, eLst, oNone, oSome, asI, eSl, sliceD, eCall, eFn, eFnK, eComp, okOwn_q, slOk_sh, slOk_no, slOk_none, wipeD, noX, tYesD, itSeq_q, seqK_lst, seqK_tup, seqK_scr, itRange1_q, rng1K_e, itRange2_q, rng2K_e, itEnum_q, enmK_e, itZip_q, zipK_e, bindP, binds, eNeg, eIsi, addD, subD, mulD, fdivD, modD, powD, iop, cmpI, isND, notND, D.isN, idxD, lenD, listD, tupleD, appD_lst, setD_lst, mutK2_ite, D.isL, max2D, min2D, absD, PD.intD, D.ty, frz_cons, frz1_q, frzS_ow, frzS_sh, frzS_no, frzD_lst, frzD_int, frzD_nil, frzK_nil, frz_nil, mkSl_lst, D.isMut, R.bind_ok, R.bind_no, dec_true, decide_eq_true_eq, decide_eq_false_iff_not, Bool.not_eq_true', Bool.decide_eq_true, Bool.not_eq_eq_eq_not, List.map_cons, List.map_nil, List.length_cons, List.length_nil, List.replicate_succ, List.replicate_zero, List.cons_append, List.nil_append, List.append_nil, List.getElem?_cons_zero, List.getElem?_cons_succ, List.set_cons_zero, List.set_cons_succ, List.all_cons, List.all_nil, Bool.and_true, Bool.true_and, Bool.and_self, Bool.not_true, Bool.not_false, Bool.false_eq_true, Bool.true_eq_false, if_true, if_false, ite_true, ite_false, reduceIte, Nat.add_sub_cancel, Nat.reduceSub, Nat.reduceAdd, Nat.sub_self, Nat.zero_add, Int.reduceLT, Int.reduceLE, Int.reduceEq, Int.reduceAdd, Int.reduceSub, Int.reduceMul, Int.reduceNeg, Int.reduceMod, Int.reduceDiv, Nat.zero_le, isiD_lst, isiD_int_int, isiD_int_bool, isiD_bl_bool, isiD_tup, decide_true, decide_false, show (1 : Nat) ≤ sizeLine by rw [szL]; decide, show small62 1 = true from rfl, show small62 ((a : Int) + 1) = true from small62_of (by omega) (by omega), Bool.and_self]
  rw [rangeD_eq]
  refine forQ (C := fun o => RQ (o.thn _).toR _) (fun i ρ => ∃ (x3 x4 : Sl) (T : List (Option Nat)), ρ = [.sh (Nats S), .sh (.int a), .ow (Tab T), x3, x4] ∧ Table S i T) ⟨.no, .no, [some 0], rfl, Table.zero hS⟩ ?_ ?_
  · rintro i x ρ hx ⟨x3, x4, T, rfl, hT⟩
    refine ⟨_, rfl, ?_⟩
    have hi : i < a := by
      have := (List.getElem?_eq_some_iff.mp hx).1
      simp at this; omega
    have hx : x = ((i + 1 : Nat) : Int) := by
      rw [List.getElem?_map, List.getElem?_range (by omega)] at hx
      have := Option.some.inj hx
      simp only at this
      omega
    subst hx
    simp -implicitDefEqProofs only [runF_e, sSeq_e, thn_nx, thn_rt, thn_ex, thn_ct, thn_bk, toR_rt, toR_nx, toR_ex, st_ok, st_ex, st_bind, bind_bind, RQ_ok, OQ_nx, OQ_ct, OQ_bk, OQ_rt, NQ_nx, sNil, sRet_e, sRetO_q, retK_ow, retK_sh, sRetN, sExp_e, sIf_e, sSh_e, sOw_e, sMut_q, mutK_ow, mutK2_some, sSetIx_q, setK_ow, setK2_some, sAug_q, augK_sh, augK2_int, sAugIx_q, agxK_ow, agxK0_int, agxK1_some, agxK2_int, agxK3_some, sTup_q, tupK_some, sFor_e, sNo, sBk, sCt, eV_q, eO_q, slV_sh, slO_sh, slO_ow, eC, eBin, ofO_some, asB_bl, tE, tNotD, tAndD, tOrD, eAnd, eOr, eNot, eIf, eChain, tTru, truD, aNil, aCons, eTup, eLst, oNone, oSome, asI, eSl, sliceD, eCall, eFn, eFnK, eComp, okOwn_q, slOk_sh, slOk_no, slOk_none, wipeD, noX, tYesD, itSeq_q, seqK_lst, seqK_tup, seqK_scr, itRange1_q, rng1K_e, itRange2_q, rng2K_e, itEnum_q, enmK_e, itZip_q, zipK_e, bindP, binds, eNeg, eIsi, addD, subD, mulD, fdivD, modD, powD, iop, cmpI, isND, notND, D.isN, idxD, lenD, listD, tupleD, appD_lst, setD_lst, mutK2_ite, D.isL, max2D, min2D, absD, PD.intD, D.ty, frz_cons, frz1_q, frzS_ow, frzS_sh, frzS_no, frzD_lst, frzD_int, frzD_nil, frzK_nil, frz_nil, mkSl_lst, D.isMut, R.bind_ok, R.bind_no, dec_true, decide_eq_true_eq, decide_eq_false_iff_not, Bool.not_eq_true', Bool.decide_eq_true, Bool.not_eq_eq_eq_not, List.map_cons, List.map_nil, List.length_cons, List.length_nil, List.replicate_succ, List.replicate_zero, List.cons_append, List.nil_append, List.append_nil, List.getElem?_cons_zero, List.getElem?_cons_succ, List.set_cons_zero, List.set_cons_succ, List.all_cons, List.all_nil, Bool.and_true, Bool.true_and, Bool.and_self, Bool.not_true, Bool.not_false, Bool.false_eq_true, Bool.true_eq_false, if_true, if_false, ite_true, ite_false, reduceIte, Nat.add_sub_cancel, Nat.reduceSub, Nat.reduceAdd, Nat.sub_self, Nat.zero_add, Int.reduceLT, Int.reduceLE, Int.reduceEq, Int.reduceAdd, Int.reduceSub, Int.reduceMul, Int.reduceNeg, Int.reduceMod, Int.reduceDiv, Nat.zero_le, isiD_lst, isiD_int_int, isiD_int_bool, isiD_bl_bool, isiD_tup, decide_true, decide_false]
    obtain ⟨d, h1, o, rfl, h2⟩ := least_before_ok hS hl hT
    rw [h1]
    simp -implicitDefEqProofs only [runF_e, sSeq_e, thn_nx, thn_rt, thn_ex, thn_ct, thn_bk, toR_rt, toR_nx, toR_ex, st_ok, st_ex, st_bind, bind_bind, RQ_ok, OQ_nx, OQ_ct, OQ_bk, OQ_rt, NQ_nx, sNil, sRet_e, sRetO_q, retK_ow, retK_sh, sRetN, sExp_e, sIf_e, sSh_e, sOw_e, sMut_q, mutK_ow, mutK2_some, sSetIx_q, setK_ow, setK2_some, sAug_q, augK_sh, augK2_int, sAugIx_q, agxK_ow, agxK0_int, agxK1_some, agxK2_int, agxK3_some, sTup_q, tupK_some, sFor_e, sNo, sBk, sCt, eV_q, eO_q, slV_sh, slO_sh, slO_ow, eC, eBin, ofO_some, asB_bl, tE, tNotD, tAndD, tOrD, eAnd, eOr, eNot, eIf, eChain, tTru, truD, aNil, aCons, eTup, eLst, oNone, oSome, asI, eSl, sliceD, eCall, eFn, eFnK, eComp, okOwn_q, slOk_sh, slOk_no, slOk_none, wipeD, noX, tYesD, itSeq_q, seqK_lst, seqK_tup, seqK_scr, itRange1_q, rng1K_e, itRange2_q, rng2K_e, itEnum_q, enmK_e, itZip_q, zipK_e, bindP, binds, eNeg, eIsi, addD, subD, mulD, fdivD, modD, powD, iop, cmpI, isND, notND, D.isN, idxD, lenD, listD, tupleD, appD_lst, setD_lst, mutK2_ite, D.isL, max2D, min2D, absD, PD.intD, D.ty, frz_cons, frz1_q, frzS_ow, frzS_sh, frzS_no, frzD_lst, frzD_int, frzD_nil, frzK_nil, frz_nil, mkSl_lst, D.isMut, R.bind_ok, R.bind_no, dec_true, decide_eq_true_eq, decide_eq_false_iff_not, Bool.not_eq_true', Bool.decide_eq_true, Bool.not_eq_eq_eq_not, List.map_cons, List.map_nil, List.length_cons, List.length_nil, List.replicate_succ, List.replicate_zero, List.cons_append, List.nil_append, List.append_nil, List.getElem?_cons_zero, List.getElem?_cons_succ, List.set_cons_zero, List.set_cons_succ, List.all_cons, List.all_nil, Bool.and_true, Bool.true_and, Bool.and_self, Bool.not_true, Bool.not_false, Bool.false_eq_true, Bool.true_eq_false, if_true, if_false, ite_true, ite_false, reduceIte, Nat.add_sub_cancel, Nat.reduceSub, Nat.reduceAdd, Nat.sub_self, Nat.zero_add, Int.reduceLT, Int.reduceLE, Int.reduceEq, Int.reduceAdd, Int.reduceSub, Int.reduceMul, Int.reduceNeg, Int.reduceMod, Int.reduceDiv, Nat.zero_le, isiD_lst, isiD_int_int, isiD_int_bool, isiD_bl_bool, isiD_tup, decide_true, decide_false]
    rw [show chk false (oD o) = true by cases o <;> rfl]
    simp -implicitDefEqProofs only [runF_e, sSeq_e, thn_nx, thn_rt, thn_ex, thn_ct, thn_bk, toR_rt, toR_nx, toR_ex, st_ok, st_ex, st_bind, bind_bind, RQ_ok, OQ_nx, OQ_ct, OQ_bk, OQ_rt, NQ_nx, sNil, sRet_e, sRetO_q, retK_ow, retK_sh, sRetN, sExp_e, sIf_e, sSh_e, sOw_e, sMut_q, mutK_ow, mutK2_some, sSetIx_q, setK_ow, setK2_some, sAug_q, augK_sh, augK2_int, sAugIx_q, agxK_ow, agxK0_int, agxK1_some, agxK2_int, agxK3_some, sTup_q, tupK_some, sFor_e, sNo, sBk, sCt, eV_q, eO_q, slV_sh, slO_sh, slO_ow, eC, eBin, ofO_some, asB_bl, tE, tNotD, tAndD, tOrD, eAnd, eOr, eNot, eIf, eChain, tTru, truD, aNil, aCons, eTup, eLst, oNone, oSome, asI, eSl, sliceD, eCall, eFn, eFnK, eComp, okOwn_q, slOk_sh, slOk_no, slOk_none, wipeD, noX, tYesD, itSeq_q, seqK_lst, seqK_tup, seqK_scr, itRange1_q, rng1K_e, itRange2_q, rng2K_e, itEnum_q, enmK_e, itZip_q, zipK_e, bindP, binds, eNeg, eIsi, addD, subD, mulD, fdivD, modD, powD, iop, cmpI, isND, notND, D.isN, idxD, lenD, listD, tupleD, appD_lst, setD_lst, mutK2_ite, D.isL, max2D, min2D, absD, PD.intD, D.ty, frz_cons, frz1_q, frzS_ow, frzS_sh, frzS_no, frzD_lst, frzD_int, frzD_nil, frzK_nil, frz_nil, mkSl_lst, D.isMut, R.bind_ok, R.bind_no, dec_true, decide_eq_true_eq, decide_eq_false_iff_not, Bool.not_eq_true', Bool.decide_eq_true, Bool.not_eq_eq_eq_not, List.map_cons, List.map_nil, List.length_cons, List.length_nil, List.replicate_succ, List.replicate_zero, List.cons_append, List.nil_append, List.append_nil, List.getElem?_cons_zero, List.getElem?_cons_succ, List.set_cons_zero, List.set_cons_succ, List.all_cons, List.all_nil, Bool.and_true, Bool.true_and, Bool.and_self, Bool.not_true, Bool.not_false, Bool.false_eq_true, Bool.true_eq_false, if_true, if_false, ite_true, ite_false, reduceIte, Nat.add_sub_cancel, Nat.reduceSub, Nat.reduceAdd, Nat.sub_self, Nat.zero_add, Int.reduceLT, Int.reduceLE, Int.reduceEq, Int.reduceAdd, Int.reduceSub, Int.reduceMul, Int.reduceNeg, Int.reduceMod, Int.reduceDiv, Nat.zero_le, isiD_lst, isiD_int_int, isiD_int_bool, isiD_bl_bool, isiD_tup, decide_true, decide_false]
    have hm := isMin_step (by omega) h2
    have hlt := hT.lt (by omega)
    cases o with
    | none =>
      simp -implicitDefEqProofs only [runF_e, sSeq_e, thn_nx, thn_rt, thn_ex, thn_ct, thn_bk, toR_rt, toR_nx, toR_ex, st_ok, st_ex, st_bind, bind_bind, RQ_ok, OQ_nx, OQ_ct, OQ_bk, OQ_rt, NQ_nx, sNil, sRet_e, sRetO_q, retK_ow, retK_sh, sRetN, sExp_e, sIf_e, sSh_e, sOw_e, sMut_q, mutK_ow, mutK2_some, sSetIx_q, setK_ow, setK2_some, sAug_q, augK_sh, augK2_int, sAugIx_q, agxK_ow, agxK0_int, agxK1_some, agxK2_int, agxK3_some, sTup_q, tupK_some, sFor_e, sNo, sBk, sCt, eV_q, eO_q, slV_sh, slO_sh, slO_ow, eC, eBin, ofO_some, asB_bl, tE, tNotD, tAndD, tOrD, eAnd, eOr, eNot, eIf, eChain, tTru, truD, aNil, aCons, eTup, eLst, oNone, oSome, asI, eSl, sliceD, eCall, eFn, eFnK, eComp, okOwn_q, slOk_sh, slOk_no, slOk_none, wipeD, noX, tYesD, itSeq_q, seqK_lst, seqK_tup, seqK_scr, itRange1_q, rng1K_e, itRange2_q, rng2K_e, itEnum_q, enmK_e, itZip_q, zipK_e, bindP, binds, eNeg, eIsi, addD, subD, mulD, fdivD, modD, powD, iop, cmpI, isND, notND, D.isN, idxD, lenD, listD, tupleD, appD_lst, setD_lst, mutK2_ite, D.isL, max2D, min2D, absD, PD.intD, D.ty, frz_cons, frz1_q, frzS_ow, frzS_sh, frzS_no, frzD_lst, frzD_int, frzD_nil, frzK_nil, frz_nil, mkSl_lst, D.isMut, R.bind_ok, R.bind_no, dec_true, decide_eq_true_eq, decide_eq_false_iff_not, Bool.not_eq_true', Bool.decide_eq_true, Bool.not_eq_eq_eq_not, List.map_cons, List.map_nil, List.length_cons, List.length_nil, List.replicate_succ, List.replicate_zero, List.cons_append, List.nil_append, List.append_nil, List.getElem?_cons_zero, List.getElem?_cons_succ, List.set_cons_zero, List.set_cons_succ, List.all_cons, List.all_nil, Bool.and_true, Bool.true_and, Bool.and_self, Bool.not_true, Bool.not_false, Bool.false_eq_true, Bool.true_eq_false, if_true, if_false, ite_true, ite_false, reduceIte, Nat.add_sub_cancel, Nat.reduceSub, Nat.reduceAdd, Nat.sub_self, Nat.zero_add, Int.reduceLT, Int.reduceLE, Int.reduceEq, Int.reduceAdd, Int.reduceSub, Int.reduceMul, Int.reduceNeg, Int.reduceMod, Int.reduceDiv, Nat.zero_le, isiD_lst, isiD_int_int, isiD_int_bool, isiD_bl_bool, isiD_tup, decide_true, decide_false, oD, hlt]
      exact ⟨_, _, T ++ [none], by rw [← Tab_snoc]; rfl, hT.snoc hm⟩
    | some m =>
      simp -implicitDefEqProofs only [runF_e, sSeq_e, thn_nx, thn_rt, thn_ex, thn_ct, thn_bk, toR_rt, toR_nx, toR_ex, st_ok, st_ex, st_bind, bind_bind, RQ_ok, OQ_nx, OQ_ct, OQ_bk, OQ_rt, NQ_nx, sNil, sRet_e, sRetO_q, retK_ow, retK_sh, sRetN, sExp_e, sIf_e, sSh_e, sOw_e, sMut_q, mutK_ow, mutK2_some, sSetIx_q, setK_ow, setK2_some, sAug_q, augK_sh, augK2_int, sAugIx_q, agxK_ow, agxK0_int, agxK1_some, agxK2_int, agxK3_some, sTup_q, tupK_some, sFor_e, sNo, sBk, sCt, eV_q, eO_q, slV_sh, slO_sh, slO_ow, eC, eBin, ofO_some, asB_bl, tE, tNotD, tAndD, tOrD, eAnd, eOr, eNot, eIf, eChain, tTru, truD, aNil, aCons, eTup, eLst, oNone, oSome, asI, eSl, sliceD, eCall, eFn, eFnK, eComp, okOwn_q, slOk_sh, slOk_no, slOk_none, wipeD, noX, tYesD, itSeq_q, seqK_lst, seqK_tup, seqK_scr, itRange1_q, rng1K_e, itRange2_q, rng2K_e, itEnum_q, enmK_e, itZip_q, zipK_e, bindP, binds, eNeg, eIsi, addD, subD, mulD, fdivD, modD, powD, iop, cmpI, isND, notND, D.isN, idxD, lenD, listD, tupleD, appD_lst, setD_lst, mutK2_ite, D.isL, max2D, min2D, absD, PD.intD, D.ty, frz_cons, frz1_q, frzS_ow, frzS_sh, frzS_no, frzD_lst, frzD_int, frzD_nil, frzK_nil, frz_nil, mkSl_lst, D.isMut, R.bind_ok, R.bind_no, dec_true, decide_eq_true_eq, decide_eq_false_iff_not, Bool.not_eq_true', Bool.decide_eq_true, Bool.not_eq_eq_eq_not, List.map_cons, List.map_nil, List.length_cons, List.length_nil, List.replicate_succ, List.replicate_zero, List.cons_append, List.nil_append, List.append_nil, List.getElem?_cons_zero, List.getElem?_cons_succ, List.set_cons_zero, List.set_cons_succ, List.all_cons, List.all_nil, Bool.and_true, Bool.true_and, Bool.and_self, Bool.not_true, Bool.not_false, Bool.false_eq_true, Bool.true_eq_false, if_true, if_false, ite_true, ite_false, reduceIte, Nat.add_sub_cancel, Nat.reduceSub, Nat.reduceAdd, Nat.sub_self, Nat.zero_add, Int.reduceLT, Int.reduceLE, Int.reduceEq, Int.reduceAdd, Int.reduceSub, Int.reduceMul, Int.reduceNeg, Int.reduceMod, Int.reduceDiv, Nat.zero_le, isiD_lst, isiD_int_int, isiD_int_bool, isiD_bl_bool, isiD_tup, decide_true, decide_false, oD, hlt]
      exact ⟨_, _, T ++ [some (m + 1)], by rw [← Tab_snoc]; rfl, hT.snoc hm⟩
  · rintro ρ ⟨x3, x4, T, rfl, hT⟩
    simp -implicitDefEqProofs only [runF_e, sSeq_e, thn_nx, thn_rt, thn_ex, thn_ct, thn_bk, toR_rt, toR_nx, toR_ex, st_ok, st_ex, st_bind, bind_bind, RQ_ok, OQ_nx, OQ_ct, OQ_bk, OQ_rt, NQ_nx, sNil, sRet_e, sRetO_q, retK_ow, retK_sh, sRetN, sExp_e, sIf_e, sSh_e, sOw_e, sMut_q, mutK_ow, mutK2_some, sSetIx_q, setK_ow, setK2_some, sAug_q, augK_sh, augK2_int, sAugIx_q, agxK_ow, agxK0_int, agxK1_some, agxK2_int, agxK3_some, sTup_q, tupK_some, sFor_e, sNo, sBk, sCt, eV_q, eO_q, slV_sh, slO_sh, slO_ow, eC, eBin, ofO_some, asB_bl, tE, tNotD, tAndD, tOrD, eAnd, eOr, eNot, eIf, eChain, tTru, truD, aNil, aCons, eTup, eLst, oNone, oSome, asI, eSl, sliceD, eCall, eFn, eFnK, eComp, okOwn_q, slOk_sh, slOk_no, slOk_none, wipeD, noX, tYesD, itSeq_q, seqK_lst, seqK_tup, seqK_scr, itRange1_q, rng1K_e, itRange2_q, rng2K_e, itEnum_q, enmK_e, itZip_q, zipK_e, bindP, binds, eNeg, eIsi, addD, subD, mulD, fdivD, modD, powD, iop, cmpI, isND, notND, D.isN, idxD, lenD, listD, tupleD, appD_lst, setD_lst, mutK2_ite, D.isL, max2D, min2D, absD, PD.intD, D.ty, frz_cons, frz1_q, frzS_ow, frzS_sh, frzS_no, frzD_lst, frzD_int, frzD_nil, frzK_nil, frz_nil, mkSl_lst, D.isMut, R.bind_ok, R.bind_no, dec_true, decide_eq_true_eq, decide_eq_false_iff_not, Bool.not_eq_true', Bool.decide_eq_true, Bool.not_eq_eq_eq_not, List.map_cons, List.map_nil, List.length_cons, List.length_nil, List.replicate_succ, List.replicate_zero, List.cons_append, List.nil_append, List.append_nil, List.getElem?_cons_zero, List.getElem?_cons_succ, List.set_cons_zero, List.set_cons_succ, List.all_cons, List.all_nil, Bool.and_true, Bool.true_and, Bool.and_self, Bool.not_true, Bool.not_false, Bool.false_eq_true, Bool.true_eq_false, if_true, if_false, ite_true, ite_false, reduceIte, Nat.add_sub_cancel, Nat.reduceSub, Nat.reduceAdd, Nat.sub_self, Nat.zero_add, Int.reduceLT, Int.reduceLE, Int.reduceEq, Int.reduceAdd, Int.reduceSub, Int.reduceMul, Int.reduceNeg, Int.reduceMod, Int.reduceDiv, Nat.zero_le, isiD_lst, isiD_int_int, isiD_int_bool, isiD_bl_bool, isiD_tup, decide_true, decide_false]
    refine ⟨T, rfl, ?_⟩
    rw [List.length_map, List.length_range] at hT
    rw [show ((a : Int) + 1 - 1).toNat = a by omega] at hT
    exact hT
theorem no_sizes_ok {a : Nat} (ha : a ≤ 5000) : RQ (F_no_sizes_table [.int a]) fun d => ∃ T, d = Tab T ∧ Table [] a T := by
  unfold F_no_sizes_table
  simp -implicitDefEqProofs only [runF_e, sSeq_e, thn_nx, thn_rt, thn_ex, thn_ct, thn_bk, toR_rt, toR_nx, toR_ex, st_ok, st_ex, st_bind, bind_bind, RQ_ok, OQ_nx, OQ_ct, OQ_bk, OQ_rt, NQ_nx, sNil, sRet_e, sRetO_q, retK_ow, retK_sh, sRetN, sExp_e, sIf_e, sSh_e, sOw_e, sMut_q, mutK_ow, mutK2_some, sSetIx_q, setK_ow, setK2_some, sAug_q, augK_sh, augK2_int, sAugIx_q, agxK_ow, agxK0_int, agxK1_some, agxK2_int, agxK3_some, sTup_q, tupK_some, sFor_e, sNo, sBk, sCt, eV_q, eO_q, slV_sh, slO_sh, slO_ow, eC, eBin, ofO_some, asB_bl, tE, tNotD, tAndD, tOrD, eAnd, eOr, eNot, eIf, eChain, tTru, truD, aNil, aCons, eTup, eLst, oNone, oSome, asI, eSl, sliceD, eCall, eFn, eFnK, eComp, okOwn_q, slOk_sh, slOk_no, slOk_none, wipeD, noX, tYesD, itSeq_q, seqK_lst, seqK_tup, seqK_scr, itRange1_q, rng1K_e, itRange2_q, rng2K_e, itEnum_q, enmK_e, itZip_q, zipK_e, bindP, binds, eNeg, eIsi, addD, subD, mulD, fdivD, modD, powD, iop, cmpI, isND, notND, D.isN, idxD, lenD, listD, tupleD, appD_lst, setD_lst, mutK2_ite, D.isL, max2D, min2D, absD, PD.intD, D.ty, frz_cons, frz1_q, frzS_ow, frzS_sh, frzS_no, frzD_lst, frzD_int, frzD_nil, frzK_nil, frz_nil, mkSl_lst, D.isMut, R.bind_ok, R.bind_no, dec_true, decide_eq_true_eq, decide_eq_false_iff_not, Bool.not_eq_true', Bool.decide_eq_true, Bool.not_eq_eq_eq_not, List.map_cons, List.map_nil, List.length_cons, List.length_nil, List.replicate_succ, List.replicate_zero, List.cons_append, List.nil_append, List.append_nil, List.getElem?_cons_zero, List.getElem?_cons_succ, List.set_cons_zero, List.set_cons_succ, List.all_cons, List.all_nil, Bool.and_true, Bool.true_and, Bool.and_self, Bool.not_true, Bool.not_false, Bool.false_eq_true, Bool.true_eq_false, if_true, if_false, ite_true, ite_false, reduceIte, Nat.add_sub_cancel, Nat.reduceSub, Nat.reduceAdd, Nat.sub_self, Nat.zero_add, Int.reduceLT, Int.reduceLE, Int.reduceEq, Int.reduceAdd, Int.reduceSub, Int.reduceMul, Int.reduceNeg, Int.reduceMod, Int.reduceDiv, Nat.zero_le, isiD_lst, isiD_int_int, isiD_int_bool, isiD_bl_bool, isiD_tup, decide_true, decide_false, show (1 : Nat) ≤ sizeLine by rw [szL]; decide]
  rw [if_pos ⟨by omega, by omega, by rw [szL]; omega⟩]
  simp -implicitDefEqProofs only [runF_e, sSeq_e, thn_nx, thn_rt, thn_ex, thn_ct, thn_bk, toR_rt, toR_nx, toR_ex, st_ok, st_ex, st_bind, bind_bind, RQ_ok, OQ_nx, OQ_ct, OQ_bk, OQ_rt, NQ_nx, sNil, sRet_e, sRetO_q, retK_ow, retK_sh, sRetN, sExp_e, sIf_e, sSh_e, sOw_e, sMut_q, mutK_ow, mutK2_some, sSetIx_q, setK_ow, setK2_some, sAug_q, augK_sh, augK2_int, sAugIx_q, agxK_ow, agxK0_int, agxK1_some, agxK2_int, agxK3_some, sTup_q, tupK_some, sFor_e, sNo, sBk, sCt, eV_q, eO_q, slV_sh, slO_sh, slO_ow, eC, eBin, ofO_some, asB_bl, tE, tNotD, tAndD, tOrD, eAnd, eOr, eNot, eIf, eChain, tTru, truD, aNil, aCons, eTup, eLst, oNone, oSome, asI, eSl, sliceD, eCall, eFn, eFnK, eComp, okOwn_q, slOk_sh, slOk_no, slOk_none, wipeD, noX, tYesD, itSeq_q, seqK_lst, seqK_tup, seqK_scr, itRange1_q, rng1K_e, itRange2_q, rng2K_e, itEnum_q, enmK_e, itZip_q, zipK_e, bindP, binds, eNeg, eIsi, addD, subD, mulD, fdivD, modD, powD, iop, cmpI, isND, notND, D.isN, idxD, lenD, listD, tupleD, appD_lst, setD_lst, mutK2_ite, D.isL, max2D, min2D, absD, PD.intD, D.ty, frz_cons, frz1_q, frzS_ow, frzS_sh, frzS_no, frzD_lst, frzD_int, frzD_nil, frzK_nil, frz_nil, mkSl_lst, D.isMut, R.bind_ok, R.bind_no, dec_true, decide_eq_true_eq, decide_eq_false_iff_not, Bool.not_eq_true', Bool.decide_eq_true, Bool.not_eq_eq_eq_not, List.map_cons, List.map_nil, List.length_cons, List.length_nil, List.replicate_succ, List.replicate_zero, List.cons_append, List.nil_append, List.append_nil, List.getElem?_cons_zero, List.getElem?_cons_succ, List.set_cons_zero, List.set_cons_succ, List.all_cons, List.all_nil, Bool.and_true, Bool.true_and, Bool.and_self, Bool.not_true, Bool.not_false, Bool.false_eq_true, Bool.true_eq_false, if_true, if_false, ite_true, ite_false, reduceIte, Nat.add_sub_cancel, Nat.reduceSub, Nat.reduceAdd, Nat.sub_self, Nat.zero_add, Int.reduceLT, Int.reduceLE, Int.reduceEq, Int.reduceAdd, Int.reduceSub, Int.reduceMul, Int.reduceNeg, Int.reduceMod, Int.reduceDiv, Nat.zero_le, isiD_lst, isiD_int_int, isiD_int_bool, isiD_bl_bool, isiD_tup, decide_true, decide_false]
  have e : (List.replicate (a : Int).toNat ([D.non] : List D)).flatten = (List.replicate a (none : Option Nat)).map oD := by
    rw [Int.toNat_natCast]
    induction a with
    | zero => rfl
    | succ n ih => rw [List.replicate_succ, List.replicate_succ, List.flatten_cons, ih (by omega)]; rfl
  rw [e, List.length_map, List.length_replicate, if_pos (by rw [szL]; omega)]
  simp -implicitDefEqProofs only [runF_e, sSeq_e, thn_nx, thn_rt, thn_ex, thn_ct, thn_bk, toR_rt, toR_nx, toR_ex, st_ok, st_ex, st_bind, bind_bind, RQ_ok, OQ_nx, OQ_ct, OQ_bk, OQ_rt, NQ_nx, sNil, sRet_e, sRetO_q, retK_ow, retK_sh, sRetN, sExp_e, sIf_e, sSh_e, sOw_e, sMut_q, mutK_ow, mutK2_some, sSetIx_q, setK_ow, setK2_some, sAug_q, augK_sh, augK2_int, sAugIx_q, agxK_ow, agxK0_int, agxK1_some, agxK2_int, agxK3_some, sTup_q, tupK_some, sFor_e, sNo, sBk, sCt, eV_q, eO_q, slV_sh, slO_sh, slO_ow, eC, eBin, ofO_some, asB_bl, tE, tNotD, tAndD, tOrD, eAnd, eOr, eNot, eIf, eChain, tTru, truD, aNil, aCons, eTup, eLst, oNone, oSome, asI, eSl, sliceD, eCall, eFn, eFnK, eComp, okOwn_q, slOk_sh, slOk_no, slOk_none, wipeD, noX, tYesD, itSeq_q, seqK_lst, seqK_tup, seqK_scr, itRange1_q, rng1K_e, itRange2_q, rng2K_e, itEnum_q, enmK_e, itZip_q, zipK_e, bindP, binds, eNeg, eIsi, addD, subD, mulD, fdivD, modD, powD, iop, cmpI, isND, notND, D.isN, idxD, lenD, listD, tupleD, appD_lst, setD_lst, mutK2_ite, D.isL, max2D, min2D, absD, PD.intD, D.ty, frz_cons, frz1_q, frzS_ow, frzS_sh, frzS_no, frzD_lst, frzD_int, frzD_nil, frzK_nil, frz_nil, mkSl_lst, D.isMut, R.bind_ok, R.bind_no, dec_true, decide_eq_true_eq, decide_eq_false_iff_not, Bool.not_eq_true', Bool.decide_eq_true, Bool.not_eq_eq_eq_not, List.map_cons, List.map_nil, List.length_cons, List.length_nil, List.replicate_succ, List.replicate_zero, List.cons_append, List.nil_append, List.append_nil, List.getElem?_cons_zero, List.getElem?_cons_succ, List.set_cons_zero, List.set_cons_succ, List.all_cons, List.all_nil, Bool.and_true, Bool.true_and, Bool.and_self, Bool.not_true, Bool.not_false, Bool.false_eq_true, Bool.true_eq_false, if_true, if_false, ite_true, ite_false, reduceIte, Nat.add_sub_cancel, Nat.reduceSub, Nat.reduceAdd, Nat.sub_self, Nat.zero_add, Int.reduceLT, Int.reduceLE, Int.reduceEq, Int.reduceAdd, Int.reduceSub, Int.reduceMul, Int.reduceNeg, Int.reduceMod, Int.reduceDiv, Nat.zero_le, isiD_lst, isiD_int_int, isiD_int_bool, isiD_bl_bool, isiD_tup, decide_true, decide_false]
  refine ⟨some 0 :: List.replicate a none, rfl, by simp, fun r o h => ?_⟩
  cases r with
  | zero => cases h; exact ⟨fil_nil.mpr ⟨rfl, rfl⟩, fun _ _ => Nat.zero_le _⟩
  | succ r =>
    rw [List.getElem?_cons_succ] at h
    have := List.mem_of_getElem? h
    rw [List.eq_of_mem_replicate this]
    intro m f
    have := (fil_nil.mp f).1
    omega
def oNe (o : Option Nat) (j : Int) : Bool := match o with | none => true | some k => !decide ((k : Int) = j)
theorem neD_oD (o : Option Nat) (j : Int) : neD (oD o) (.int j) = some (.bl (oNe o j)) := by
  cases o with
  | none => rfl
  | some k => exact neD_int _ _
theorem most_tins_ok {s left due : Nat} {G : List Nat} {T : List (Option Nat)} (hT : Table G left T) (hs : 0 < s) (hl : left ≤ 5000) (hs2 : s ≤ 200) (hd : due ≤ 5000) (hm : IsMin (Fil (s :: G) left) (some due)) :
    RQ (F_most_tins [.int s, Tab T, .int left, .int due]) fun d => ∃ n : Nat, d = .int n ∧ n * s ≤ left ∧ n ≤ due ∧ IsMin (Fil G (left - n * s)) (some (due - n)) ∧ ∀ k, n < k → k ≤ due → k * s ≤ left → ¬ IsMin (Fil G (left - k * s)) (some (due - k)) := by
  unfold F_most_tins
  simp -implicitDefEqProofs only [runF_e, sSeq_e, thn_nx, thn_rt, thn_ex, thn_ct, thn_bk, toR_rt, toR_nx, toR_ex, st_ok, st_ex, st_bind, bind_bind, RQ_ok, OQ_nx, OQ_ct, OQ_bk, OQ_rt, NQ_nx, sNil, sRet_e, sRetO_q, retK_ow, retK_sh, sRetN, sExp_e, sIf_e, sSh_e, sOw_e, sMut_q, mutK_ow, mutK2_some, sSetIx_q, setK_ow, setK2_some, sAug_q, augK_sh, augK2_int, sAugIx_q, agxK_ow, agxK0_int, agxK1_some, agxK2_int, agxK3_some, sTup_q, tupK_some, sFor_e, sNo, sBk, sCt, eV_q, eO_q, slV_sh, slO_sh, slO_ow, eC, eBin, ofO_some, asB_bl, tE, tNotD, tAndD, tOrD, eAnd, eOr, eNot, eIf, eChain, tTru, truD, aNil, aCons, eTup, eLst, oNone, oSome, asI, eSl, sliceD, eCall, eFn, eFnK, eComp, okOwn_q, slOk_sh, slOk_no, slOk_none, wipeD, noX, tYesD, itSeq_q, seqK_lst, seqK_tup, seqK_scr, itRange1_q, rng1K_e, itRange2_q, rng2K_e, itEnum_q, enmK_e, itZip_q, zipK_e, bindP, binds, eNeg, eIsi, addD, subD, mulD, fdivD, modD, powD, iop, cmpI, isND, notND, D.isN, idxD, lenD, listD, tupleD, appD_lst, setD_lst, mutK2_ite, D.isL, max2D, min2D, absD, PD.intD, D.ty, frz_cons, frz1_q, frzS_ow, frzS_sh, frzS_no, frzD_lst, frzD_int, frzD_nil, frzK_nil, frz_nil, mkSl_lst, D.isMut, R.bind_ok, R.bind_no, dec_true, decide_eq_true_eq, decide_eq_false_iff_not, Bool.not_eq_true', Bool.decide_eq_true, Bool.not_eq_eq_eq_not, List.map_cons, List.map_nil, List.length_cons, List.length_nil, List.replicate_succ, List.replicate_zero, List.cons_append, List.nil_append, List.append_nil, List.getElem?_cons_zero, List.getElem?_cons_succ, List.set_cons_zero, List.set_cons_succ, List.all_cons, List.all_nil, Bool.and_true, Bool.true_and, Bool.and_self, Bool.not_true, Bool.not_false, Bool.false_eq_true, Bool.true_eq_false, if_true, if_false, ite_true, ite_false, reduceIte, Nat.add_sub_cancel, Nat.reduceSub, Nat.reduceAdd, Nat.sub_self, Nat.zero_add, Int.reduceLT, Int.reduceLE, Int.reduceEq, Int.reduceAdd, Int.reduceSub, Int.reduceMul, Int.reduceNeg, Int.reduceMod, Int.reduceDiv, Nat.zero_le, isiD_lst, isiD_int_int, isiD_int_bool, isiD_bl_bool, isiD_tup, decide_true, decide_false, show fdivOk left s = true from fdivOk_of (by omega) (by omega)]
  obtain ⟨n0, e1, e2, e3⟩ := fil_cons.mp hm.1
  have hn0 : IsMin (Fil G (left - n0 * s)) (some (due - n0)) := ⟨e3, fun j f => by
    have := hm.2 (n0 + j) (fil_cons.mpr ⟨n0, e1, by omega, by rw [show n0 + j - n0 = j by omega]; exact f⟩)
    omega⟩
  have hq : n0 ≤ left / s := (Nat.le_div_iff_mul_le hs).mpr e1
  obtain ⟨N, hN, hN1, hN2, hN3⟩ : ∃ N : Nat, (if (left : Int) / s < due then (left : Int) / s else (due : Int)) = (N : Int) ∧ N ≤ due ∧ N ≤ left / s ∧ n0 ≤ N := by
    have hc : (left : Int) / s = ((left / s : Nat) : Int) := by simp
    rw [hc]
    by_cases h : ((left / s : Nat) : Int) < due
    · rw [if_pos h]; exact ⟨left / s, rfl, by omega, Nat.le_refl _, hq⟩
    · rw [if_neg h]; exact ⟨due, rfl, Nat.le_refl _, by omega, by omega⟩
  rw [hN]
  have key : ∀ N : Nat, N ≤ due → N ≤ left / s → n0 ≤ N → (∀ k, N < k → k ≤ due → k * s ≤ left → ¬ IsMin (Fil G (left - k * s)) (some (due - k))) →
      ∃ n : Nat, sWhile (tE (eBin neD (eBin idxD (eV 1) (eBin subD (eV 2) (eBin mulD (eV 4) (eV 0)))) (eBin subD (eV 3) (eV 4)))) (sAug 4 (fun i j => i - j) (eC (.int 1))) [.sh (.int s), .sh (Tab T), .sh (.int left), .sh (.int due), .sh (.int N)] = .nx [.sh (.int s), .sh (Tab T), .sh (.int left), .sh (.int due), .sh (.int n)] ∧ n * s ≤ left ∧ n ≤ due ∧ IsMin (Fil G (left - n * s)) (some (due - n)) ∧ ∀ k, n < k → k ≤ due → k * s ≤ left → ¬ IsMin (Fil G (left - k * s)) (some (due - k)) := by
    intro N
    induction N with
    | zero =>
      intro h1 h2 h3 h4
      have e0 : n0 = 0 := by omega
      subst e0
      refine ⟨0, ?_, by omega, by omega, hn0, h4⟩
      rw [sWhile_eq]
      obtain ⟨o, ho, hom⟩ := hT.get (r := left) (Nat.le_refl _)
      have := hom.uniq (by simpa using hn0)
      subst this
      simp -implicitDefEqProofs only [runF_e, sSeq_e, thn_nx, thn_rt, thn_ex, thn_ct, thn_bk, toR_rt, toR_nx, toR_ex, st_ok, st_ex, st_bind, bind_bind, RQ_ok, OQ_nx, OQ_ct, OQ_bk, OQ_rt, NQ_nx, sNil, sRet_e, sRetO_q, retK_ow, retK_sh, sRetN, sExp_e, sIf_e, sSh_e, sOw_e, sMut_q, mutK_ow, mutK2_some, sSetIx_q, setK_ow, setK2_some, sAug_q, augK_sh, augK2_int, sAugIx_q, agxK_ow, agxK0_int, agxK1_some, agxK2_int, agxK3_some, sTup_q, tupK_some, sFor_e, sNo, sBk, sCt, eV_q, eO_q, slV_sh, slO_sh, slO_ow, eC, eBin, ofO_some, asB_bl, tE, tNotD, tAndD, tOrD, eAnd, eOr, eNot, eIf, eChain, tTru, truD, aNil, aCons, eTup, eLst, oNone, oSome, asI, eSl, sliceD, eCall, eFn, eFnK, eComp, okOwn_q, slOk_sh, slOk_no, slOk_none, wipeD, noX, tYesD, itSeq_q, seqK_lst, seqK_tup, seqK_scr, itRange1_q, rng1K_e, itRange2_q, rng2K_e, itEnum_q, enmK_e, itZip_q, zipK_e, bindP, binds, eNeg, eIsi, addD, subD, mulD, fdivD, modD, powD, iop, cmpI, isND, notND, D.isN, idxD, lenD, listD, tupleD, appD_lst, setD_lst, mutK2_ite, D.isL, max2D, min2D, absD, PD.intD, D.ty, frz_cons, frz1_q, frzS_ow, frzS_sh, frzS_no, frzD_lst, frzD_int, frzD_nil, frzK_nil, frz_nil, mkSl_lst, D.isMut, R.bind_ok, R.bind_no, dec_true, decide_eq_true_eq, decide_eq_false_iff_not, Bool.not_eq_true', Bool.decide_eq_true, Bool.not_eq_eq_eq_not, List.map_cons, List.map_nil, List.length_cons, List.length_nil, List.replicate_succ, List.replicate_zero, List.cons_append, List.nil_append, List.append_nil, List.getElem?_cons_zero, List.getElem?_cons_succ, List.set_cons_zero, List.set_cons_succ, List.all_cons, List.all_nil, Bool.and_true, Bool.true_and, Bool.and_self, Bool.not_true, Bool.not_false, Bool.false_eq_true, Bool.true_eq_false, if_true, if_false, ite_true, ite_false, reduceIte, Nat.add_sub_cancel, Nat.reduceSub, Nat.reduceAdd, Nat.sub_self, Nat.zero_add, Int.reduceLT, Int.reduceLE, Int.reduceEq, Int.reduceAdd, Int.reduceSub, Int.reduceMul, Int.reduceNeg, Int.reduceMod, Int.reduceDiv, Nat.zero_le, isiD_lst, isiD_int_int, isiD_int_bool, isiD_bl_bool, isiD_tup, decide_true, decide_false, show mulOk ((0 : Nat) : Int) s = true from mulOk_l (by omega) (by omega)]
      rw [show ((left : Int) - ((0 : Nat) : Int) * (s : Int)) = ((left : Nat) : Int) by simp, show atI (T.map oD) ((left : Nat) : Int) = some (oD (some due)) by
        rw [atI_natI (by omega) (by rw [List.length_map, hT.len]; omega), List.getElem?_map, Int.toNat_natCast, ho]; rfl]
      simp -implicitDefEqProofs only [runF_e, sSeq_e, thn_nx, thn_rt, thn_ex, thn_ct, thn_bk, toR_rt, toR_nx, toR_ex, st_ok, st_ex, st_bind, bind_bind, RQ_ok, OQ_nx, OQ_ct, OQ_bk, OQ_rt, NQ_nx, sNil, sRet_e, sRetO_q, retK_ow, retK_sh, sRetN, sExp_e, sIf_e, sSh_e, sOw_e, sMut_q, mutK_ow, mutK2_some, sSetIx_q, setK_ow, setK2_some, sAug_q, augK_sh, augK2_int, sAugIx_q, agxK_ow, agxK0_int, agxK1_some, agxK2_int, agxK3_some, sTup_q, tupK_some, sFor_e, sNo, sBk, sCt, eV_q, eO_q, slV_sh, slO_sh, slO_ow, eC, eBin, ofO_some, asB_bl, tE, tNotD, tAndD, tOrD, eAnd, eOr, eNot, eIf, eChain, tTru, truD, aNil, aCons, eTup, eLst, oNone, oSome, asI, eSl, sliceD, eCall, eFn, eFnK, eComp, okOwn_q, slOk_sh, slOk_no, slOk_none, wipeD, noX, tYesD, itSeq_q, seqK_lst, seqK_tup, seqK_scr, itRange1_q, rng1K_e, itRange2_q, rng2K_e, itEnum_q, enmK_e, itZip_q, zipK_e, bindP, binds, eNeg, eIsi, addD, subD, mulD, fdivD, modD, powD, iop, cmpI, isND, notND, D.isN, idxD, lenD, listD, tupleD, appD_lst, setD_lst, mutK2_ite, D.isL, max2D, min2D, absD, PD.intD, D.ty, frz_cons, frz1_q, frzS_ow, frzS_sh, frzS_no, frzD_lst, frzD_int, frzD_nil, frzK_nil, frz_nil, mkSl_lst, D.isMut, R.bind_ok, R.bind_no, dec_true, decide_eq_true_eq, decide_eq_false_iff_not, Bool.not_eq_true', Bool.decide_eq_true, Bool.not_eq_eq_eq_not, List.map_cons, List.map_nil, List.length_cons, List.length_nil, List.replicate_succ, List.replicate_zero, List.cons_append, List.nil_append, List.append_nil, List.getElem?_cons_zero, List.getElem?_cons_succ, List.set_cons_zero, List.set_cons_succ, List.all_cons, List.all_nil, Bool.and_true, Bool.true_and, Bool.and_self, Bool.not_true, Bool.not_false, Bool.false_eq_true, Bool.true_eq_false, if_true, if_false, ite_true, ite_false, reduceIte, Nat.add_sub_cancel, Nat.reduceSub, Nat.reduceAdd, Nat.sub_self, Nat.zero_add, Int.reduceLT, Int.reduceLE, Int.reduceEq, Int.reduceAdd, Int.reduceSub, Int.reduceMul, Int.reduceNeg, Int.reduceMod, Int.reduceDiv, Nat.zero_le, isiD_lst, isiD_int_int, isiD_int_bool, isiD_bl_bool, isiD_tup, decide_true, decide_false, neD_oD]
      simp [oNe]
    | succ N ih =>
      intro h1 h2 h3 h4
      have hle : (N + 1) * s ≤ left := (Nat.le_div_iff_mul_le hs).mp h2
      obtain ⟨o, ho, hom⟩ := hT.get (r := left - (N + 1) * s) (by omega)
      have hstep : tE (eBin neD (eBin idxD (eV 1) (eBin subD (eV 2) (eBin mulD (eV 4) (eV 0)))) (eBin subD (eV 3) (eV 4))) [.sh (.int s), .sh (Tab T), .sh (.int left), .sh (.int due), .sh (.int ((N + 1 : Nat) : Int))] = .ok (oNe o ((due : Int) - ((N + 1 : Nat) : Int))) := by
        simp -implicitDefEqProofs only [runF_e, sSeq_e, thn_nx, thn_rt, thn_ex, thn_ct, thn_bk, toR_rt, toR_nx, toR_ex, st_ok, st_ex, st_bind, bind_bind, RQ_ok, OQ_nx, OQ_ct, OQ_bk, OQ_rt, NQ_nx, sNil, sRet_e, sRetO_q, retK_ow, retK_sh, sRetN, sExp_e, sIf_e, sSh_e, sOw_e, sMut_q, mutK_ow, mutK2_some, sSetIx_q, setK_ow, setK2_some, sAug_q, augK_sh, augK2_int, sAugIx_q, agxK_ow, agxK0_int, agxK1_some, agxK2_int, agxK3_some, sTup_q, tupK_some, sFor_e, sNo, sBk, sCt, eV_q, eO_q, slV_sh, slO_sh, slO_ow, eC, eBin, ofO_some, asB_bl, tE, tNotD, tAndD, tOrD, eAnd, eOr, eNot, eIf, eChain, tTru, truD, aNil, aCons, eTup, eLst, oNone, oSome, asI, eSl, sliceD, eCall, eFn, eFnK, eComp, okOwn_q, slOk_sh, slOk_no, slOk_none, wipeD, noX, tYesD, itSeq_q, seqK_lst, seqK_tup, seqK_scr, itRange1_q, rng1K_e, itRange2_q, rng2K_e, itEnum_q, enmK_e, itZip_q, zipK_e, bindP, binds, eNeg, eIsi, addD, subD, mulD, fdivD, modD, powD, iop, cmpI, isND, notND, D.isN, idxD, lenD, listD, tupleD, appD_lst, setD_lst, mutK2_ite, D.isL, max2D, min2D, absD, PD.intD, D.ty, frz_cons, frz1_q, frzS_ow, frzS_sh, frzS_no, frzD_lst, frzD_int, frzD_nil, frzK_nil, frz_nil, mkSl_lst, D.isMut, R.bind_ok, R.bind_no, dec_true, decide_eq_true_eq, decide_eq_false_iff_not, Bool.not_eq_true', Bool.decide_eq_true, Bool.not_eq_eq_eq_not, List.map_cons, List.map_nil, List.length_cons, List.length_nil, List.replicate_succ, List.replicate_zero, List.cons_append, List.nil_append, List.append_nil, List.getElem?_cons_zero, List.getElem?_cons_succ, List.set_cons_zero, List.set_cons_succ, List.all_cons, List.all_nil, Bool.and_true, Bool.true_and, Bool.and_self, Bool.not_true, Bool.not_false, Bool.false_eq_true, Bool.true_eq_false, if_true, if_false, ite_true, ite_false, reduceIte, Nat.add_sub_cancel, Nat.reduceSub, Nat.reduceAdd, Nat.sub_self, Nat.zero_add, Int.reduceLT, Int.reduceLE, Int.reduceEq, Int.reduceAdd, Int.reduceSub, Int.reduceMul, Int.reduceNeg, Int.reduceMod, Int.reduceDiv, Nat.zero_le, isiD_lst, isiD_int_int, isiD_int_bool, isiD_bl_bool, isiD_tup, decide_true, decide_false, show mulOk ((N + 1 : Nat) : Int) s = true from mulOk_r (by omega) (by omega)]
        rw [show ((left : Int) - ((N + 1 : Nat) : Int) * (s : Int)) = ((left - (N + 1) * s : Nat) : Int) by rw [Int.ofNat_sub hle]; simp, show atI (T.map oD) ((left - (N + 1) * s : Nat) : Int) = some (oD o) by
          rw [atI_natI (by omega) (by rw [List.length_map, hT.len]; omega), List.getElem?_map, Int.toNat_natCast, ho]; rfl]
        simp -implicitDefEqProofs only [runF_e, sSeq_e, thn_nx, thn_rt, thn_ex, thn_ct, thn_bk, toR_rt, toR_nx, toR_ex, st_ok, st_ex, st_bind, bind_bind, RQ_ok, OQ_nx, OQ_ct, OQ_bk, OQ_rt, NQ_nx, sNil, sRet_e, sRetO_q, retK_ow, retK_sh, sRetN, sExp_e, sIf_e, sSh_e, sOw_e, sMut_q, mutK_ow, mutK2_some, sSetIx_q, setK_ow, setK2_some, sAug_q, augK_sh, augK2_int, sAugIx_q, agxK_ow, agxK0_int, agxK1_some, agxK2_int, agxK3_some, sTup_q, tupK_some, sFor_e, sNo, sBk, sCt, eV_q, eO_q, slV_sh, slO_sh, slO_ow, eC, eBin, ofO_some, asB_bl, tE, tNotD, tAndD, tOrD, eAnd, eOr, eNot, eIf, eChain, tTru, truD, aNil, aCons, eTup, eLst, oNone, oSome, asI, eSl, sliceD, eCall, eFn, eFnK, eComp, okOwn_q, slOk_sh, slOk_no, slOk_none, wipeD, noX, tYesD, itSeq_q, seqK_lst, seqK_tup, seqK_scr, itRange1_q, rng1K_e, itRange2_q, rng2K_e, itEnum_q, enmK_e, itZip_q, zipK_e, bindP, binds, eNeg, eIsi, addD, subD, mulD, fdivD, modD, powD, iop, cmpI, isND, notND, D.isN, idxD, lenD, listD, tupleD, appD_lst, setD_lst, mutK2_ite, D.isL, max2D, min2D, absD, PD.intD, D.ty, frz_cons, frz1_q, frzS_ow, frzS_sh, frzS_no, frzD_lst, frzD_int, frzD_nil, frzK_nil, frz_nil, mkSl_lst, D.isMut, R.bind_ok, R.bind_no, dec_true, decide_eq_true_eq, decide_eq_false_iff_not, Bool.not_eq_true', Bool.decide_eq_true, Bool.not_eq_eq_eq_not, List.map_cons, List.map_nil, List.length_cons, List.length_nil, List.replicate_succ, List.replicate_zero, List.cons_append, List.nil_append, List.append_nil, List.getElem?_cons_zero, List.getElem?_cons_succ, List.set_cons_zero, List.set_cons_succ, List.all_cons, List.all_nil, Bool.and_true, Bool.true_and, Bool.and_self, Bool.not_true, Bool.not_false, Bool.false_eq_true, Bool.true_eq_false, if_true, if_false, ite_true, ite_false, reduceIte, Nat.add_sub_cancel, Nat.reduceSub, Nat.reduceAdd, Nat.sub_self, Nat.zero_add, Int.reduceLT, Int.reduceLE, Int.reduceEq, Int.reduceAdd, Int.reduceSub, Int.reduceMul, Int.reduceNeg, Int.reduceMod, Int.reduceDiv, Nat.zero_le, isiD_lst, isiD_int_int, isiD_int_bool, isiD_bl_bool, isiD_tup, decide_true, decide_false, neD_oD]
      rw [sWhile_eq, hstep]
      by_cases hx : o = some (due - (N + 1))
      · subst hx
        refine ⟨N + 1, ?_, hle, h1, hom, h4⟩
        rw [show oNe (some (due - (N + 1))) ((due : Int) - ((N + 1 : Nat) : Int)) = false by
          show (!decide (((due - (N + 1) : Nat) : Int) = (due : Int) - ((N + 1 : Nat) : Int))) = false
          rw [decide_eq_true (by omega)]; rfl]
      · have hb : oNe o ((due : Int) - ((N + 1 : Nat) : Int)) = true := by
          cases o with
          | none => rfl
          | some k =>
            have : (k : Int) ≠ (due : Int) - ((N + 1 : Nat) : Int) := fun e => hx (by rw [show k = due - (N + 1) by omega])
            show (!decide ((k : Int) = (due : Int) - ((N + 1 : Nat) : Int))) = true
            rw [decide_eq_false this]; rfl
        rw [hb]
        simp only
        simp -implicitDefEqProofs only [runF_e, sSeq_e, thn_nx, thn_rt, thn_ex, thn_ct, thn_bk, toR_rt, toR_nx, toR_ex, st_ok, st_ex, st_bind, bind_bind, RQ_ok, OQ_nx, OQ_ct, OQ_bk, OQ_rt, NQ_nx, sNil, sRet_e, sRetO_q, retK_ow, retK_sh, sRetN, sExp_e, sIf_e, sSh_e, sOw_e, sMut_q, mutK_ow, mutK2_some, sSetIx_q, setK_ow, setK2_some, sAug_q, augK_sh, augK2_int, sAugIx_q, agxK_ow, agxK0_int, agxK1_some, agxK2_int, agxK3_some, sTup_q, tupK_some, sFor_e, sNo, sBk, sCt, eV_q, eO_q, slV_sh, slO_sh, slO_ow, eC, eBin, ofO_some, asB_bl, tE, tNotD, tAndD, tOrD, eAnd, eOr, eNot, eIf, eChain, tTru, truD, aNil, aCons, eTup, eLst, oNone, oSome, asI, eSl, sliceD, eCall, eFn, eFnK, eComp, okOwn_q, slOk_sh, slOk_no, slOk_none, wipeD, noX, tYesD, itSeq_q, seqK_lst, seqK_tup, seqK_scr, itRange1_q, rng1K_e, itRange2_q, rng2K_e, itEnum_q, enmK_e, itZip_q, zipK_e, bindP, binds, eNeg, eIsi, addD, subD, mulD, fdivD, modD, powD, iop, cmpI, isND, notND, D.isN, idxD, lenD, listD, tupleD, appD_lst, setD_lst, mutK2_ite, D.isL, max2D, min2D, absD, PD.intD, D.ty, frz_cons, frz1_q, frzS_ow, frzS_sh, frzS_no, frzD_lst, frzD_int, frzD_nil, frzK_nil, frz_nil, mkSl_lst, D.isMut, R.bind_ok, R.bind_no, dec_true, decide_eq_true_eq, decide_eq_false_iff_not, Bool.not_eq_true', Bool.decide_eq_true, Bool.not_eq_eq_eq_not, List.map_cons, List.map_nil, List.length_cons, List.length_nil, List.replicate_succ, List.replicate_zero, List.cons_append, List.nil_append, List.append_nil, List.getElem?_cons_zero, List.getElem?_cons_succ, List.set_cons_zero, List.set_cons_succ, List.all_cons, List.all_nil, Bool.and_true, Bool.true_and, Bool.and_self, Bool.not_true, Bool.not_false, Bool.false_eq_true, Bool.true_eq_false, if_true, if_false, ite_true, ite_false, reduceIte, Nat.add_sub_cancel, Nat.reduceSub, Nat.reduceAdd, Nat.sub_self, Nat.zero_add, Int.reduceLT, Int.reduceLE, Int.reduceEq, Int.reduceAdd, Int.reduceSub, Int.reduceMul, Int.reduceNeg, Int.reduceMod, Int.reduceDiv, Nat.zero_le, isiD_lst, isiD_int_int, isiD_int_bool, isiD_bl_bool, isiD_tup, decide_true, decide_false]
        rw [show (((N + 1 : Nat) : Int) - 1) = (N : Int) by omega]
        have hne : n0 ≠ N + 1 := by
          rintro rfl
          exact hx (hom.uniq hn0)
        exact ih (by omega) (by omega) (by omega) fun k hk hk1 hk2 hk3 => by
          rcases Nat.lt_or_ge (N + 1) k with h | h
          · exact h4 k h hk1 hk2 hk3
          · obtain rfl : k = N + 1 := by omega
            exact hx (hom.uniq hk3)
  obtain ⟨n, h1, h2⟩ := key N hN1 hN2 hN3 fun k hk hk1 hk2 hk3 => by
    have hkq : k ≤ left / s := (Nat.le_div_iff_mul_le hs).mpr hk2
    have hc : (left : Int) / s = ((left / s : Nat) : Int) := by simp
    rw [hc] at hN
    split at hN <;> omega
  rw [h1]
  simp -implicitDefEqProofs only [runF_e, sSeq_e, thn_nx, thn_rt, thn_ex, thn_ct, thn_bk, toR_rt, toR_nx, toR_ex, st_ok, st_ex, st_bind, bind_bind, RQ_ok, OQ_nx, OQ_ct, OQ_bk, OQ_rt, NQ_nx, sNil, sRet_e, sRetO_q, retK_ow, retK_sh, sRetN, sExp_e, sIf_e, sSh_e, sOw_e, sMut_q, mutK_ow, mutK2_some, sSetIx_q, setK_ow, setK2_some, sAug_q, augK_sh, augK2_int, sAugIx_q, agxK_ow, agxK0_int, agxK1_some, agxK2_int, agxK3_some, sTup_q, tupK_some, sFor_e, sNo, sBk, sCt, eV_q, eO_q, slV_sh, slO_sh, slO_ow, eC, eBin, ofO_some, asB_bl, tE, tNotD, tAndD, tOrD, eAnd, eOr, eNot, eIf, eChain, tTru, truD, aNil, aCons, eTup, eLst, oNone, oSome, asI, eSl, sliceD, eCall, eFn, eFnK, eComp, okOwn_q, slOk_sh, slOk_no, slOk_none, wipeD, noX, tYesD, itSeq_q, seqK_lst, seqK_tup, seqK_scr, itRange1_q, rng1K_e, itRange2_q, rng2K_e, itEnum_q, enmK_e, itZip_q, zipK_e, bindP, binds, eNeg, eIsi, addD, subD, mulD, fdivD, modD, powD, iop, cmpI, isND, notND, D.isN, idxD, lenD, listD, tupleD, appD_lst, setD_lst, mutK2_ite, D.isL, max2D, min2D, absD, PD.intD, D.ty, frz_cons, frz1_q, frzS_ow, frzS_sh, frzS_no, frzD_lst, frzD_int, frzD_nil, frzK_nil, frz_nil, mkSl_lst, D.isMut, R.bind_ok, R.bind_no, dec_true, decide_eq_true_eq, decide_eq_false_iff_not, Bool.not_eq_true', Bool.decide_eq_true, Bool.not_eq_eq_eq_not, List.map_cons, List.map_nil, List.length_cons, List.length_nil, List.replicate_succ, List.replicate_zero, List.cons_append, List.nil_append, List.append_nil, List.getElem?_cons_zero, List.getElem?_cons_succ, List.set_cons_zero, List.set_cons_succ, List.all_cons, List.all_nil, Bool.and_true, Bool.true_and, Bool.and_self, Bool.not_true, Bool.not_false, Bool.false_eq_true, Bool.true_eq_false, if_true, if_false, ite_true, ite_false, reduceIte, Nat.add_sub_cancel, Nat.reduceSub, Nat.reduceAdd, Nat.sub_self, Nat.zero_add, Int.reduceLT, Int.reduceLE, Int.reduceEq, Int.reduceAdd, Int.reduceSub, Int.reduceMul, Int.reduceNeg, Int.reduceMod, Int.reduceDiv, Nat.zero_le, isiD_lst, isiD_int_int, isiD_int_bool, isiD_bl_bool, isiD_tup, decide_true, decide_false]
  exact ⟨n, rfl, h2⟩
end K55
namespace K55
open PySem PySem.Spec PyProof.Rows L2 PD
theorem Nats_snoc (L : List Nat) (y : Nat) : D.lst ((L.map fun s : Nat => D.int s) ++ [D.int y]) = Nats (L ++ [y]) := by unfold Nats; rw [List.map_append]; rfl
theorem bound_fil {S : List Nat} (hS : ∀ s ∈ S, 0 < s) : ∀ {r m : Nat}, Fil S r m → m ≤ r := by
  induction S with
  | nil => exact fun f => by have := fil_nil.mp f; omega
  | cons s S ih =>
    intro r m f
    obtain ⟨n, h1, h2, f⟩ := fil_cons.mp f
    have h3 := ih (fun t ht => hS t (List.mem_cons_of_mem _ ht)) f
    have hs := hS s List.mem_cons_self
    have : n ≤ n * s := Nat.le_mul_of_pos_right n hs
    omega
theorem best_filling_ok {S : List Nat} (g : Good S) {a : Nat} (ha : a ≤ 5000) : RQ (F_best_filling [Nats S, .int a]) fun d => (d = .non ∧ IsMin (Fil S a) none) ∨ ∃ m v, IsMin (Fil S a) (some m) ∧ d = Nats v ∧ Best S a m v := by
  have hS : ∀ s ∈ S, 0 < s := fun s hs => (g.rng s hs).1
  unfold F_best_filling
  simp -implicitDefEqProofs only [runF_e, sSeq_e, thn_nx, thn_rt, thn_ex, thn_ct, thn_bk, toR_rt, toR_nx, toR_ex, st_ok, st_ex, st_bind, bind_bind, RQ_ok, OQ_nx, OQ_ct, OQ_bk, OQ_rt, NQ_nx, sNil, sRet_e, sRetO_q, retK_ow, retK_sh, sRetN, sExp_e, sIf_e, sSh_e, sOw_e, sMut_q, mutK_ow, mutK2_some, sSetIx_q, setK_ow, setK2_some, sAug_q, augK_sh, augK2_int, sAugIx_q, agxK_ow, agxK0_int, agxK1_some, agxK2_int, agxK3_some, sTup_q, tupK_some, sFor_e, sNo, sBk, sCt, eV_q, eO_q, slV_sh, slO_sh, slO_ow, eC, eBin, ofO_some, asB_bl, tE, tNotD, tAndD, tOrD, eAnd, eOr, eNot, eIf, eChain, tTru, truD, aNil, aCons, eTup, eLst, oNone, oSome, asI, eSl, sliceD, eCall, eFn, eFnK, eComp, okOwn_q, slOk_sh, slOk_no, slOk_none, wipeD, noX, tYesD, itSeq_q, seqK_lst, seqK_tup, seqK_scr, itRange1_q, rng1K_e, itRange2_q, rng2K_e, itEnum_q, enmK_e, itZip_q, zipK_e, bindP, binds, eNeg, eIsi, addD, subD, mulD, fdivD, modD, powD, iop, cmpI, isND, notND, D.isN, idxD, lenD, listD, tupleD, appD_lst, setD_lst, mutK2_ite, D.isL, max2D, min2D, absD, PD.intD, D.ty, frz_cons, frz1_q, frzS_ow, frzS_sh, frzS_no, frzD_lst, frzD_int, frzD_nil, frzK_nil, frz_nil, mkSl_lst, D.isMut, R.bind_ok, R.bind_no, dec_true, decide_eq_true_eq, decide_eq_false_iff_not, Bool.not_eq_true', Bool.decide_eq_true, Bool.not_eq_eq_eq_not, List.map_cons, List.map_nil, List.length_cons, List.length_nil, List.replicate_succ, List.replicate_zero, List.cons_append, List.nil_append, List.append_nil, List.getElem?_cons_zero, List.getElem?_cons_succ, List.set_cons_zero, List.set_cons_succ, List.all_cons, List.all_nil, Bool.and_true, Bool.true_and, Bool.and_self, Bool.not_true, Bool.not_false, Bool.false_eq_true, Bool.true_eq_false, if_true, if_false, ite_true, ite_false, reduceIte, Nat.add_sub_cancel, Nat.reduceSub, Nat.reduceAdd, Nat.sub_self, Nat.zero_add, Int.reduceLT, Int.reduceLE, Int.reduceEq, Int.reduceAdd, Int.reduceSub, Int.reduceMul, Int.reduceNeg, Int.reduceMod, Int.reduceDiv, Nat.zero_le, isiD_lst, isiD_int_int, isiD_int_bool, isiD_bl_bool, isiD_tup, decide_true, decide_false, check_amount_ok g ha]
  obtain ⟨d, h1, T, rfl, hT⟩ := table_of_ok hS g.len ha
  rw [h1]
  simp -implicitDefEqProofs only [runF_e, sSeq_e, thn_nx, thn_rt, thn_ex, thn_ct, thn_bk, toR_rt, toR_nx, toR_ex, st_ok, st_ex, st_bind, bind_bind, RQ_ok, OQ_nx, OQ_ct, OQ_bk, OQ_rt, NQ_nx, sNil, sRet_e, sRetO_q, retK_ow, retK_sh, sRetN, sExp_e, sIf_e, sSh_e, sOw_e, sMut_q, mutK_ow, mutK2_some, sSetIx_q, setK_ow, setK2_some, sAug_q, augK_sh, augK2_int, sAugIx_q, agxK_ow, agxK0_int, agxK1_some, agxK2_int, agxK3_some, sTup_q, tupK_some, sFor_e, sNo, sBk, sCt, eV_q, eO_q, slV_sh, slO_sh, slO_ow, eC, eBin, ofO_some, asB_bl, tE, tNotD, tAndD, tOrD, eAnd, eOr, eNot, eIf, eChain, tTru, truD, aNil, aCons, eTup, eLst, oNone, oSome, asI, eSl, sliceD, eCall, eFn, eFnK, eComp, okOwn_q, slOk_sh, slOk_no, slOk_none, wipeD, noX, tYesD, itSeq_q, seqK_lst, seqK_tup, seqK_scr, itRange1_q, rng1K_e, itRange2_q, rng2K_e, itEnum_q, enmK_e, itZip_q, zipK_e, bindP, binds, eNeg, eIsi, addD, subD, mulD, fdivD, modD, powD, iop, cmpI, isND, notND, D.isN, idxD, lenD, listD, tupleD, appD_lst, setD_lst, mutK2_ite, D.isL, max2D, min2D, absD, PD.intD, D.ty, frz_cons, frz1_q, frzS_ow, frzS_sh, frzS_no, frzD_lst, frzD_int, frzD_nil, frzK_nil, frz_nil, mkSl_lst, D.isMut, R.bind_ok, R.bind_no, dec_true, decide_eq_true_eq, decide_eq_false_iff_not, Bool.not_eq_true', Bool.decide_eq_true, Bool.not_eq_eq_eq_not, List.map_cons, List.map_nil, List.length_cons, List.length_nil, List.replicate_succ, List.replicate_zero, List.cons_append, List.nil_append, List.append_nil, List.getElem?_cons_zero, List.getElem?_cons_succ, List.set_cons_zero, List.set_cons_succ, List.all_cons, List.all_nil, Bool.and_true, Bool.true_and, Bool.and_self, Bool.not_true, Bool.not_false, Bool.false_eq_true, Bool.true_eq_false, if_true, if_false, ite_true, ite_false, reduceIte, Nat.add_sub_cancel, Nat.reduceSub, Nat.reduceAdd, Nat.sub_self, Nat.zero_add, Int.reduceLT, Int.reduceLE, Int.reduceEq, Int.reduceAdd, Int.reduceSub, Int.reduceMul, Int.reduceNeg, Int.reduceMod, Int.reduceDiv, Nat.zero_le, isiD_lst, isiD_int_int, isiD_int_bool, isiD_bl_bool, isiD_tup, decide_true, decide_false]
  obtain ⟨o, ho, hm⟩ := hT.get (Nat.le_refl a)
  rw [show atI (T.map oD) (a : Int) = some (oD o) by rw [atI_natI (by omega) (by rw [List.length_map, hT.len]; omega), List.getElem?_map, Int.toNat_natCast, ho]; rfl]
  simp -implicitDefEqProofs only [runF_e, sSeq_e, thn_nx, thn_rt, thn_ex, thn_ct, thn_bk, toR_rt, toR_nx, toR_ex, st_ok, st_ex, st_bind, bind_bind, RQ_ok, OQ_nx, OQ_ct, OQ_bk, OQ_rt, NQ_nx, sNil, sRet_e, sRetO_q, retK_ow, retK_sh, sRetN, sExp_e, sIf_e, sSh_e, sOw_e, sMut_q, mutK_ow, mutK2_some, sSetIx_q, setK_ow, setK2_some, sAug_q, augK_sh, augK2_int, sAugIx_q, agxK_ow, agxK0_int, agxK1_some, agxK2_int, agxK3_some, sTup_q, tupK_some, sFor_e, sNo, sBk, sCt, eV_q, eO_q, slV_sh, slO_sh, slO_ow, eC, eBin, ofO_some, asB_bl, tE, tNotD, tAndD, tOrD, eAnd, eOr, eNot, eIf, eChain, tTru, truD, aNil, aCons, eTup, eLst, oNone, oSome, asI, eSl, sliceD, eCall, eFn, eFnK, eComp, okOwn_q, slOk_sh, slOk_no, slOk_none, wipeD, noX, tYesD, itSeq_q, seqK_lst, seqK_tup, seqK_scr, itRange1_q, rng1K_e, itRange2_q, rng2K_e, itEnum_q, enmK_e, itZip_q, zipK_e, bindP, binds, eNeg, eIsi, addD, subD, mulD, fdivD, modD, powD, iop, cmpI, isND, notND, D.isN, idxD, lenD, listD, tupleD, appD_lst, setD_lst, mutK2_ite, D.isL, max2D, min2D, absD, PD.intD, D.ty, frz_cons, frz1_q, frzS_ow, frzS_sh, frzS_no, frzD_lst, frzD_int, frzD_nil, frzK_nil, frz_nil, mkSl_lst, D.isMut, R.bind_ok, R.bind_no, dec_true, decide_eq_true_eq, decide_eq_false_iff_not, Bool.not_eq_true', Bool.decide_eq_true, Bool.not_eq_eq_eq_not, List.map_cons, List.map_nil, List.length_cons, List.length_nil, List.replicate_succ, List.replicate_zero, List.cons_append, List.nil_append, List.append_nil, List.getElem?_cons_zero, List.getElem?_cons_succ, List.set_cons_zero, List.set_cons_succ, List.all_cons, List.all_nil, Bool.and_true, Bool.true_and, Bool.and_self, Bool.not_true, Bool.not_false, Bool.false_eq_true, Bool.true_eq_false, if_true, if_false, ite_true, ite_false, reduceIte, Nat.add_sub_cancel, Nat.reduceSub, Nat.reduceAdd, Nat.sub_self, Nat.zero_add, Int.reduceLT, Int.reduceLE, Int.reduceEq, Int.reduceAdd, Int.reduceSub, Int.reduceMul, Int.reduceNeg, Int.reduceMod, Int.reduceDiv, Nat.zero_le, isiD_lst, isiD_int_int, isiD_int_bool, isiD_bl_bool, isiD_tup, decide_true, decide_false]
  cases o with
  | none =>
    simp -implicitDefEqProofs only [runF_e, sSeq_e, thn_nx, thn_rt, thn_ex, thn_ct, thn_bk, toR_rt, toR_nx, toR_ex, st_ok, st_ex, st_bind, bind_bind, RQ_ok, OQ_nx, OQ_ct, OQ_bk, OQ_rt, NQ_nx, sNil, sRet_e, sRetO_q, retK_ow, retK_sh, sRetN, sExp_e, sIf_e, sSh_e, sOw_e, sMut_q, mutK_ow, mutK2_some, sSetIx_q, setK_ow, setK2_some, sAug_q, augK_sh, augK2_int, sAugIx_q, agxK_ow, agxK0_int, agxK1_some, agxK2_int, agxK3_some, sTup_q, tupK_some, sFor_e, sNo, sBk, sCt, eV_q, eO_q, slV_sh, slO_sh, slO_ow, eC, eBin, ofO_some, asB_bl, tE, tNotD, tAndD, tOrD, eAnd, eOr, eNot, eIf, eChain, tTru, truD, aNil, aCons, eTup, eLst, oNone, oSome, asI, eSl, sliceD, eCall, eFn, eFnK, eComp, okOwn_q, slOk_sh, slOk_no, slOk_none, wipeD, noX, tYesD, itSeq_q, seqK_lst, seqK_tup, seqK_scr, itRange1_q, rng1K_e, itRange2_q, rng2K_e, itEnum_q, enmK_e, itZip_q, zipK_e, bindP, binds, eNeg, eIsi, addD, subD, mulD, fdivD, modD, powD, iop, cmpI, isND, notND, D.isN, idxD, lenD, listD, tupleD, appD_lst, setD_lst, mutK2_ite, D.isL, max2D, min2D, absD, PD.intD, D.ty, frz_cons, frz1_q, frzS_ow, frzS_sh, frzS_no, frzD_lst, frzD_int, frzD_nil, frzK_nil, frz_nil, mkSl_lst, D.isMut, R.bind_ok, R.bind_no, dec_true, decide_eq_true_eq, decide_eq_false_iff_not, Bool.not_eq_true', Bool.decide_eq_true, Bool.not_eq_eq_eq_not, List.map_cons, List.map_nil, List.length_cons, List.length_nil, List.replicate_succ, List.replicate_zero, List.cons_append, List.nil_append, List.append_nil, List.getElem?_cons_zero, List.getElem?_cons_succ, List.set_cons_zero, List.set_cons_succ, List.all_cons, List.all_nil, Bool.and_true, Bool.true_and, Bool.and_self, Bool.not_true, Bool.not_false, Bool.false_eq_true, Bool.true_eq_false, if_true, if_false, ite_true, ite_false, reduceIte, Nat.add_sub_cancel, Nat.reduceSub, Nat.reduceAdd, Nat.sub_self, Nat.zero_add, Int.reduceLT, Int.reduceLE, Int.reduceEq, Int.reduceAdd, Int.reduceSub, Int.reduceMul, Int.reduceNeg, Int.reduceMod, Int.reduceDiv, Nat.zero_le, isiD_lst, isiD_int_int, isiD_int_bool, isiD_bl_bool, isiD_tup, decide_true, decide_false, oD]
    exact .inl ⟨trivial, hm⟩
  | some m =>
    have hma := bound_fil hS hm.1
    simp -implicitDefEqProofs only [runF_e, sSeq_e, thn_nx, thn_rt, thn_ex, thn_ct, thn_bk, toR_rt, toR_nx, toR_ex, st_ok, st_ex, st_bind, bind_bind, RQ_ok, OQ_nx, OQ_ct, OQ_bk, OQ_rt, NQ_nx, sNil, sRet_e, sRetO_q, retK_ow, retK_sh, sRetN, sExp_e, sIf_e, sSh_e, sOw_e, sMut_q, mutK_ow, mutK2_some, sSetIx_q, setK_ow, setK2_some, sAug_q, augK_sh, augK2_int, sAugIx_q, agxK_ow, agxK0_int, agxK1_some, agxK2_int, agxK3_some, sTup_q, tupK_some, sFor_e, sNo, sBk, sCt, eV_q, eO_q, slV_sh, slO_sh, slO_ow, eC, eBin, ofO_some, asB_bl, tE, tNotD, tAndD, tOrD, eAnd, eOr, eNot, eIf, eChain, tTru, truD, aNil, aCons, eTup, eLst, oNone, oSome, asI, eSl, sliceD, eCall, eFn, eFnK, eComp, okOwn_q, slOk_sh, slOk_no, slOk_none, wipeD, noX, tYesD, itSeq_q, seqK_lst, seqK_tup, seqK_scr, itRange1_q, rng1K_e, itRange2_q, rng2K_e, itEnum_q, enmK_e, itZip_q, zipK_e, bindP, binds, eNeg, eIsi, addD, subD, mulD, fdivD, modD, powD, iop, cmpI, isND, notND, D.isN, idxD, lenD, listD, tupleD, appD_lst, setD_lst, mutK2_ite, D.isL, max2D, min2D, absD, PD.intD, D.ty, frz_cons, frz1_q, frzS_ow, frzS_sh, frzS_no, frzD_lst, frzD_int, frzD_nil, frzK_nil, frz_nil, mkSl_lst, D.isMut, R.bind_ok, R.bind_no, dec_true, decide_eq_true_eq, decide_eq_false_iff_not, Bool.not_eq_true', Bool.decide_eq_true, Bool.not_eq_eq_eq_not, List.map_cons, List.map_nil, List.length_cons, List.length_nil, List.replicate_succ, List.replicate_zero, List.cons_append, List.nil_append, List.append_nil, List.getElem?_cons_zero, List.getElem?_cons_succ, List.set_cons_zero, List.set_cons_succ, List.all_cons, List.all_nil, Bool.and_true, Bool.true_and, Bool.and_self, Bool.not_true, Bool.not_false, Bool.false_eq_true, Bool.true_eq_false, if_true, if_false, ite_true, ite_false, reduceIte, Nat.add_sub_cancel, Nat.reduceSub, Nat.reduceAdd, Nat.sub_self, Nat.zero_add, Int.reduceLT, Int.reduceLE, Int.reduceEq, Int.reduceAdd, Int.reduceSub, Int.reduceMul, Int.reduceNeg, Int.reduceMod, Int.reduceDiv, Nat.zero_le, isiD_lst, isiD_int_int, isiD_int_bool, isiD_bl_bool, isiD_tup, decide_true, decide_false, oD]
    rw [enumFrom_map]
    refine forQ (C := fun o => RQ (o.thn _).toR _) (fun i ρ => ∃ (x5 x6 x7 x8 x9 : Sl) (v : List Nat) (r k : Nat), ρ = [.sh (Nats S), .sh (.int a), .sh (.int k), .ow (Nats v), .sh (.int r), x5, x6, x7, x8, x9] ∧ v.length = i ∧ r ≤ a ∧ k ≤ m ∧ IsMin (Fil (S.drop i) r) (some k) ∧ ∀ w, Best (S.drop i) r k w → Best S a m (v ++ w)) ⟨.no, .no, .no, .no, .no, [], a, m, rfl, rfl, Nat.le_refl _, Nat.le_refl _, hm, fun w h => h⟩ ?_ ?_
    · rintro i ⟨s, j⟩ ρ hx ⟨x5, x6, x7, x8, x9, v, r, k, rfl, hv, hr, hk, hm2, hw⟩
      rw [List.getElem?_zipIdx] at hx
      obtain ⟨s', hs', e⟩ := Option.map_eq_some_iff.mp hx
      injection e with e1 e2
      subst e1 e2
      have hi := (List.getElem?_eq_some_iff.mp hs').1
      have hmem := List.mem_of_getElem? hs'
      have hdrop : S.drop i = s' :: S.drop (i + 1) := by
        rw [List.drop_eq_getElem_cons hi, (List.getElem?_eq_some_iff.mp hs').2]
      refine ⟨_, rfl, ?_⟩
      have hG : ∀ t ∈ S.drop (i + 1), 0 < t := fun t ht => hS t (List.mem_of_mem_drop ht)
      have hGl : (S.drop (i + 1)).length ≤ 8 := by rw [List.length_drop]; have := g.len; omega
      simp -implicitDefEqProofs only [runF_e, sSeq_e, thn_nx, thn_rt, thn_ex, thn_ct, thn_bk, toR_rt, toR_nx, toR_ex, st_ok, st_ex, st_bind, bind_bind, RQ_ok, OQ_nx, OQ_ct, OQ_bk, OQ_rt, NQ_nx, sNil, sRet_e, sRetO_q, retK_ow, retK_sh, sRetN, sExp_e, sIf_e, sSh_e, sOw_e, sMut_q, mutK_ow, mutK2_some, sSetIx_q, setK_ow, setK2_some, sAug_q, augK_sh, augK2_int, sAugIx_q, agxK_ow, agxK0_int, agxK1_some, agxK2_int, agxK3_some, sTup_q, tupK_some, sFor_e, sNo, sBk, sCt, eV_q, eO_q, slV_sh, slO_sh, slO_ow, eC, eBin, ofO_some, asB_bl, tE, tNotD, tAndD, tOrD, eAnd, eOr, eNot, eIf, eChain, tTru, truD, aNil, aCons, eTup, eLst, oNone, oSome, asI, eSl, sliceD, eCall, eFn, eFnK, eComp, okOwn_q, slOk_sh, slOk_no, slOk_none, wipeD, noX, tYesD, itSeq_q, seqK_lst, seqK_tup, seqK_scr, itRange1_q, rng1K_e, itRange2_q, rng2K_e, itEnum_q, enmK_e, itZip_q, zipK_e, bindP, binds, eNeg, eIsi, addD, subD, mulD, fdivD, modD, powD, iop, cmpI, isND, notND, D.isN, idxD, lenD, listD, tupleD, appD_lst, setD_lst, mutK2_ite, D.isL, max2D, min2D, absD, PD.intD, D.ty, frz_cons, frz1_q, frzS_ow, frzS_sh, frzS_no, frzD_lst, frzD_int, frzD_nil, frzK_nil, frz_nil, mkSl_lst, D.isMut, R.bind_ok, R.bind_no, dec_true, decide_eq_true_eq, decide_eq_false_iff_not, Bool.not_eq_true', Bool.decide_eq_true, Bool.not_eq_eq_eq_not, List.map_cons, List.map_nil, List.length_cons, List.length_nil, List.replicate_succ, List.replicate_zero, List.cons_append, List.nil_append, List.append_nil, List.getElem?_cons_zero, List.getElem?_cons_succ, List.set_cons_zero, List.set_cons_succ, List.all_cons, List.all_nil, Bool.and_true, Bool.true_and, Bool.and_self, Bool.not_true, Bool.not_false, Bool.false_eq_true, Bool.true_eq_false, if_true, if_false, ite_true, ite_false, reduceIte, Nat.add_sub_cancel, Nat.reduceSub, Nat.reduceAdd, Nat.sub_self, Nat.zero_add, Int.reduceLT, Int.reduceLE, Int.reduceEq, Int.reduceAdd, Int.reduceSub, Int.reduceMul, Int.reduceNeg, Int.reduceMod, Int.reduceDiv, Nat.zero_le, isiD_lst, isiD_int_int, isiD_int_bool, isiD_bl_bool, isiD_tup, decide_true, decide_false]
      rw [show cutD (S.map fun s : Nat => D.int s) (some ((i : Int) + 1)) none = (S.drop (i + 1)).map fun s : Nat => D.int s by
        rw [show ((i : Int) + 1) = ((i + 1 : Nat) : Int) by omega, cutD_drop, List.map_drop]]
      have hT2 : RQ (if (List.map (fun s : Nat => D.int s) (S.drop (i + 1))).isEmpty = false then F_table_of [D.lst ((S.drop (i + 1)).map fun s : Nat => D.int s), .int r] else F_no_sizes_table [.int r]) fun d => ∃ T, d = Tab T ∧ Table (S.drop (i + 1)) r T := by
        by_cases he : S.drop (i + 1) = []
        · rw [he, if_neg (by simp)]
          exact no_sizes_ok (by omega)
        · rw [if_pos (by simpa using he)]
          exact table_of_ok hG hGl (by omega)
      obtain ⟨d, h2, T2, rfl, hT2⟩ := hT2
      rw [h2]
      simp -implicitDefEqProofs only [runF_e, sSeq_e, thn_nx, thn_rt, thn_ex, thn_ct, thn_bk, toR_rt, toR_nx, toR_ex, st_ok, st_ex, st_bind, bind_bind, RQ_ok, OQ_nx, OQ_ct, OQ_bk, OQ_rt, NQ_nx, sNil, sRet_e, sRetO_q, retK_ow, retK_sh, sRetN, sExp_e, sIf_e, sSh_e, sOw_e, sMut_q, mutK_ow, mutK2_some, sSetIx_q, setK_ow, setK2_some, sAug_q, augK_sh, augK2_int, sAugIx_q, agxK_ow, agxK0_int, agxK1_some, agxK2_int, agxK3_some, sTup_q, tupK_some, sFor_e, sNo, sBk, sCt, eV_q, eO_q, slV_sh, slO_sh, slO_ow, eC, eBin, ofO_some, asB_bl, tE, tNotD, tAndD, tOrD, eAnd, eOr, eNot, eIf, eChain, tTru, truD, aNil, aCons, eTup, eLst, oNone, oSome, asI, eSl, sliceD, eCall, eFn, eFnK, eComp, okOwn_q, slOk_sh, slOk_no, slOk_none, wipeD, noX, tYesD, itSeq_q, seqK_lst, seqK_tup, seqK_scr, itRange1_q, rng1K_e, itRange2_q, rng2K_e, itEnum_q, enmK_e, itZip_q, zipK_e, bindP, binds, eNeg, eIsi, addD, subD, mulD, fdivD, modD, powD, iop, cmpI, isND, notND, D.isN, idxD, lenD, listD, tupleD, appD_lst, setD_lst, mutK2_ite, D.isL, max2D, min2D, absD, PD.intD, D.ty, frz_cons, frz1_q, frzS_ow, frzS_sh, frzS_no, frzD_lst, frzD_int, frzD_nil, frzK_nil, frz_nil, mkSl_lst, D.isMut, R.bind_ok, R.bind_no, dec_true, decide_eq_true_eq, decide_eq_false_iff_not, Bool.not_eq_true', Bool.decide_eq_true, Bool.not_eq_eq_eq_not, List.map_cons, List.map_nil, List.length_cons, List.length_nil, List.replicate_succ, List.replicate_zero, List.cons_append, List.nil_append, List.append_nil, List.getElem?_cons_zero, List.getElem?_cons_succ, List.set_cons_zero, List.set_cons_succ, List.all_cons, List.all_nil, Bool.and_true, Bool.true_and, Bool.and_self, Bool.not_true, Bool.not_false, Bool.false_eq_true, Bool.true_eq_false, if_true, if_false, ite_true, ite_false, reduceIte, Nat.add_sub_cancel, Nat.reduceSub, Nat.reduceAdd, Nat.sub_self, Nat.zero_add, Int.reduceLT, Int.reduceLE, Int.reduceEq, Int.reduceAdd, Int.reduceSub, Int.reduceMul, Int.reduceNeg, Int.reduceMod, Int.reduceDiv, Nat.zero_le, isiD_lst, isiD_int_int, isiD_int_bool, isiD_bl_bool, isiD_tup, decide_true, decide_false]
      rw [hdrop] at hm2 hw
      obtain ⟨d, h3, n, rfl, q1, q2, q3, q4⟩ := most_tins_ok hT2 (hS s' hmem) (by omega) (g.rng s' hmem).2 (by omega) hm2
      rw [h3]
      simp -implicitDefEqProofs only [runF_e, sSeq_e, thn_nx, thn_rt, thn_ex, thn_ct, thn_bk, toR_rt, toR_nx, toR_ex, st_ok, st_ex, st_bind, bind_bind, RQ_ok, OQ_nx, OQ_ct, OQ_bk, OQ_rt, NQ_nx, sNil, sRet_e, sRetO_q, retK_ow, retK_sh, sRetN, sExp_e, sIf_e, sSh_e, sOw_e, sMut_q, mutK_ow, mutK2_some, sSetIx_q, setK_ow, setK2_some, sAug_q, augK_sh, augK2_int, sAugIx_q, agxK_ow, agxK0_int, agxK1_some, agxK2_int, agxK3_some, sTup_q, tupK_some, sFor_e, sNo, sBk, sCt, eV_q, eO_q, slV_sh, slO_sh, slO_ow, eC, eBin, ofO_some, asB_bl, tE, tNotD, tAndD, tOrD, eAnd, eOr, eNot, eIf, eChain, tTru, truD, aNil, aCons, eTup, eLst, oNone, oSome, asI, eSl, sliceD, eCall, eFn, eFnK, eComp, okOwn_q, slOk_sh, slOk_no, slOk_none, wipeD, noX, tYesD, itSeq_q, seqK_lst, seqK_tup, seqK_scr, itRange1_q, rng1K_e, itRange2_q, rng2K_e, itEnum_q, enmK_e, itZip_q, zipK_e, bindP, binds, eNeg, eIsi, addD, subD, mulD, fdivD, modD, powD, iop, cmpI, isND, notND, D.isN, idxD, lenD, listD, tupleD, appD_lst, setD_lst, mutK2_ite, D.isL, max2D, min2D, absD, PD.intD, D.ty, frz_cons, frz1_q, frzS_ow, frzS_sh, frzS_no, frzD_lst, frzD_int, frzD_nil, frzK_nil, frz_nil, mkSl_lst, D.isMut, R.bind_ok, R.bind_no, dec_true, decide_eq_true_eq, decide_eq_false_iff_not, Bool.not_eq_true', Bool.decide_eq_true, Bool.not_eq_eq_eq_not, List.map_cons, List.map_nil, List.length_cons, List.length_nil, List.replicate_succ, List.replicate_zero, List.cons_append, List.nil_append, List.append_nil, List.getElem?_cons_zero, List.getElem?_cons_succ, List.set_cons_zero, List.set_cons_succ, List.all_cons, List.all_nil, Bool.and_true, Bool.true_and, Bool.and_self, Bool.not_true, Bool.not_false, Bool.false_eq_true, Bool.true_eq_false, if_true, if_false, ite_true, ite_false, reduceIte, Nat.add_sub_cancel, Nat.reduceSub, Nat.reduceAdd, Nat.sub_self, Nat.zero_add, Int.reduceLT, Int.reduceLE, Int.reduceEq, Int.reduceAdd, Int.reduceSub, Int.reduceMul, Int.reduceNeg, Int.reduceMod, Int.reduceDiv, Nat.zero_le, isiD_lst, isiD_int_int, isiD_int_bool, isiD_bl_bool, isiD_tup, decide_true, decide_false, show (v.map fun s : Nat => D.int s).length < sizeLine by rw [List.length_map, hv, szL]; have := g.len; omega, show mulOk (n : Int) s' = true from mulOk_r (by omega) (by have := (g.rng s' hmem).2; omega)]
      rw [show ((r : Int) - (n : Int) * (s' : Int)) = ((r - n * s' : Nat) : Int) by rw [Int.ofNat_sub q1]; simp, show ((k : Int) - (n : Int)) = ((k - n : Nat) : Int) by omega]
      refine ⟨_, _, _, _, _, v ++ [n], r - n * s', k - n, by rw [Nats_snoc], by rw [List.length_append, hv]; rfl, by omega, by omega, q3, fun w hb => ?_⟩
      rw [List.append_assoc]
      exact hw _ ⟨n, w, rfl, q1, q2, q3, q4, hb⟩
    · rintro ρ ⟨x5, x6, x7, x8, x9, v, r, k, rfl, hv, hr, hk, hm2, hw⟩
      rw [List.length_zipIdx, List.drop_length] at hm2 hw
      simp -implicitDefEqProofs only [runF_e, sSeq_e, thn_nx, thn_rt, thn_ex, thn_ct, thn_bk, toR_rt, toR_nx, toR_ex, st_ok, st_ex, st_bind, bind_bind, RQ_ok, OQ_nx, OQ_ct, OQ_bk, OQ_rt, NQ_nx, sNil, sRet_e, sRetO_q, retK_ow, retK_sh, sRetN, sExp_e, sIf_e, sSh_e, sOw_e, sMut_q, mutK_ow, mutK2_some, sSetIx_q, setK_ow, setK2_some, sAug_q, augK_sh, augK2_int, sAugIx_q, agxK_ow, agxK0_int, agxK1_some, agxK2_int, agxK3_some, sTup_q, tupK_some, sFor_e, sNo, sBk, sCt, eV_q, eO_q, slV_sh, slO_sh, slO_ow, eC, eBin, ofO_some, asB_bl, tE, tNotD, tAndD, tOrD, eAnd, eOr, eNot, eIf, eChain, tTru, truD, aNil, aCons, eTup, eLst, oNone, oSome, asI, eSl, sliceD, eCall, eFn, eFnK, eComp, okOwn_q, slOk_sh, slOk_no, slOk_none, wipeD, noX, tYesD, itSeq_q, seqK_lst, seqK_tup, seqK_scr, itRange1_q, rng1K_e, itRange2_q, rng2K_e, itEnum_q, enmK_e, itZip_q, zipK_e, bindP, binds, eNeg, eIsi, addD, subD, mulD, fdivD, modD, powD, iop, cmpI, isND, notND, D.isN, idxD, lenD, listD, tupleD, appD_lst, setD_lst, mutK2_ite, D.isL, max2D, min2D, absD, PD.intD, D.ty, frz_cons, frz1_q, frzS_ow, frzS_sh, frzS_no, frzD_lst, frzD_int, frzD_nil, frzK_nil, frz_nil, mkSl_lst, D.isMut, R.bind_ok, R.bind_no, dec_true, decide_eq_true_eq, decide_eq_false_iff_not, Bool.not_eq_true', Bool.decide_eq_true, Bool.not_eq_eq_eq_not, List.map_cons, List.map_nil, List.length_cons, List.length_nil, List.replicate_succ, List.replicate_zero, List.cons_append, List.nil_append, List.append_nil, List.getElem?_cons_zero, List.getElem?_cons_succ, List.set_cons_zero, List.set_cons_succ, List.all_cons, List.all_nil, Bool.and_true, Bool.true_and, Bool.and_self, Bool.not_true, Bool.not_false, Bool.false_eq_true, Bool.true_eq_false, if_true, if_false, ite_true, ite_false, reduceIte, Nat.add_sub_cancel, Nat.reduceSub, Nat.reduceAdd, Nat.sub_self, Nat.zero_add, Int.reduceLT, Int.reduceLE, Int.reduceEq, Int.reduceAdd, Int.reduceSub, Int.reduceMul, Int.reduceNeg, Int.reduceMod, Int.reduceDiv, Nat.zero_le, isiD_lst, isiD_int_int, isiD_int_bool, isiD_bl_bool, isiD_tup, decide_true, decide_false]
      have e := fil_nil.mp hm2.1
      exact .inr ⟨m, v, hm, rfl, by simpa using hw [] ⟨e.1, e.2, rfl⟩⟩
end K55
namespace K55
open PySem PySem.Spec PyProof.Rows L2 PD
theorem Nats_of {L : List Int} (h : ∀ x ∈ L, 0 ≤ x) : Ints L = Nats (L.map Int.toNat) := by
  unfold Ints Nats
  rw [List.map_map]
  congr 1
  refine List.map_congr_left fun x hx => ?_
  have := h x hx
  show D.int x = D.int ((x.toNat : Nat) : Int)
  rw [Int.toNat_of_nonneg this]
theorem law_sizes_ok {L : List Int} (hL : Drawn 16 L) {most B : Nat} (h1 : 1 ≤ most) (h2 : most ≤ B) (h3 : B ≤ 200) (h4 : B = 200 ∨ 6 * (1 + most / 6) ≤ B) : RQ (F__law_sizes [Ints L, .int most]) fun d => ∃ S, d = Nats S ∧ Good S ∧ ∀ s ∈ S, s ≤ B := by
  unfold F__law_sizes
  obtain ⟨x0, e0, b0, c0⟩ := hL.at (i := 0) (by decide)
  obtain ⟨x1, e1, b1, c1⟩ := hL.at (i := 1) (by decide)
  have e0 : atI (L.map D.int) 0 = some (.int x0) := e0
  have e1 : atI (L.map D.int) 1 = some (.int x1) := e1
  simp -implicitDefEqProofs only [runF_e, sSeq_e, thn_nx, thn_rt, thn_ex, thn_ct, thn_bk, toR_rt, toR_nx, toR_ex, st_ok, st_ex, st_bind, bind_bind, RQ_ok, OQ_nx, OQ_ct, OQ_bk, OQ_rt, NQ_nx, sNil, sRet_e, sRetO_q, retK_ow, retK_sh, sRetN, sExp_e, sIf_e, sSh_e, sOw_e, sMut_q, mutK_ow, mutK2_some, sSetIx_q, setK_ow, setK2_some, sAug_q, augK_sh, augK2_int, sAugIx_q, agxK_ow, agxK0_int, agxK1_some, agxK2_int, agxK3_some, sTup_q, tupK_some, sFor_e, sNo, sBk, sCt, eV_q, eO_q, slV_sh, slO_sh, slO_ow, eC, eBin, ofO_some, asB_bl, tE, tNotD, tAndD, tOrD, eAnd, eOr, eNot, eIf, eChain, tTru, truD, aNil, aCons, eTup, eLst, oNone, oSome, asI, eSl, sliceD, eCall, eFn, eFnK, eComp, okOwn_q, slOk_sh, slOk_no, slOk_none, wipeD, noX, tYesD, itSeq_q, seqK_lst, seqK_tup, seqK_scr, itRange1_q, rng1K_e, itRange2_q, rng2K_e, itEnum_q, enmK_e, itZip_q, zipK_e, bindP, binds, eNeg, eIsi, addD, subD, mulD, fdivD, modD, powD, iop, cmpI, isND, notND, D.isN, idxD, lenD, listD, tupleD, appD_lst, setD_lst, mutK2_ite, D.isL, max2D, min2D, absD, PD.intD, D.ty, frz_cons, frz1_q, frzS_ow, frzS_sh, frzS_no, frzD_lst, frzD_int, frzD_nil, frzK_nil, frz_nil, mkSl_lst, D.isMut, R.bind_ok, R.bind_no, dec_true, decide_eq_true_eq, decide_eq_false_iff_not, Bool.not_eq_true', Bool.decide_eq_true, Bool.not_eq_eq_eq_not, List.map_cons, List.map_nil, List.length_cons, List.length_nil, List.replicate_succ, List.replicate_zero, List.cons_append, List.nil_append, List.append_nil, List.getElem?_cons_zero, List.getElem?_cons_succ, List.set_cons_zero, List.set_cons_succ, List.all_cons, List.all_nil, Bool.and_true, Bool.true_and, Bool.and_self, Bool.not_true, Bool.not_false, Bool.false_eq_true, Bool.true_eq_false, if_true, if_false, ite_true, ite_false, reduceIte, Nat.add_sub_cancel, Nat.reduceSub, Nat.reduceAdd, Nat.sub_self, Nat.zero_add, Int.reduceLT, Int.reduceLE, Int.reduceEq, Int.reduceAdd, Int.reduceSub, Int.reduceMul, Int.reduceNeg, Int.reduceMod, Int.reduceDiv, Nat.zero_le, isiD_lst, isiD_int_int, isiD_int_bool, isiD_bl_bool, isiD_tup, decide_true, decide_false, e0, show (8 : Nat) ≤ sizeLine by rw [szL]; decide]
  have hm : ∃ m : Nat, atI [D.int 1, D.int 2, D.int 2, D.int 3, D.int 3, D.int 4, D.int 5, D.int 8] (x0 % 8) = some (.int m) ∧ 1 ≤ m ∧ m ≤ 8 := by
    obtain ⟨j, hj, hj8⟩ : ∃ j : Nat, x0 % 8 = (j : Int) ∧ j < 8 := ⟨(x0 % 8).toNat, by omega, by omega⟩
    rw [hj, atI_natI (by omega) (by simp only [List.length_cons, List.length_nil]; omega)]
    have : j = 0 ∨ j = 1 ∨ j = 2 ∨ j = 3 ∨ j = 4 ∨ j = 5 ∨ j = 6 ∨ j = 7 := by omega
    rcases this with rfl | rfl | rfl | rfl | rfl | rfl | rfl | rfl
    · exact ⟨1, rfl, by decide, by decide⟩
    · exact ⟨2, rfl, by decide, by decide⟩
    · exact ⟨2, rfl, by decide, by decide⟩
    · exact ⟨3, rfl, by decide, by decide⟩
    · exact ⟨3, rfl, by decide, by decide⟩
    · exact ⟨4, rfl, by decide, by decide⟩
    · exact ⟨5, rfl, by decide, by decide⟩
    · exact ⟨8, rfl, by decide, by decide⟩
  obtain ⟨m, hm, hm1, hm8⟩ := hm
  simp -implicitDefEqProofs only [runF_e, sSeq_e, thn_nx, thn_rt, thn_ex, thn_ct, thn_bk, toR_rt, toR_nx, toR_ex, st_ok, st_ex, st_bind, bind_bind, RQ_ok, OQ_nx, OQ_ct, OQ_bk, OQ_rt, NQ_nx, sNil, sRet_e, sRetO_q, retK_ow, retK_sh, sRetN, sExp_e, sIf_e, sSh_e, sOw_e, sMut_q, mutK_ow, mutK2_some, sSetIx_q, setK_ow, setK2_some, sAug_q, augK_sh, augK2_int, sAugIx_q, agxK_ow, agxK0_int, agxK1_some, agxK2_int, agxK3_some, sTup_q, tupK_some, sFor_e, sNo, sBk, sCt, eV_q, eO_q, slV_sh, slO_sh, slO_ow, eC, eBin, ofO_some, asB_bl, tE, tNotD, tAndD, tOrD, eAnd, eOr, eNot, eIf, eChain, tTru, truD, aNil, aCons, eTup, eLst, oNone, oSome, asI, eSl, sliceD, eCall, eFn, eFnK, eComp, okOwn_q, slOk_sh, slOk_no, slOk_none, wipeD, noX, tYesD, itSeq_q, seqK_lst, seqK_tup, seqK_scr, itRange1_q, rng1K_e, itRange2_q, rng2K_e, itEnum_q, enmK_e, itZip_q, zipK_e, bindP, binds, eNeg, eIsi, addD, subD, mulD, fdivD, modD, powD, iop, cmpI, isND, notND, D.isN, idxD, lenD, listD, tupleD, appD_lst, setD_lst, mutK2_ite, D.isL, max2D, min2D, absD, PD.intD, D.ty, frz_cons, frz1_q, frzS_ow, frzS_sh, frzS_no, frzD_lst, frzD_int, frzD_nil, frzK_nil, frz_nil, mkSl_lst, D.isMut, R.bind_ok, R.bind_no, dec_true, decide_eq_true_eq, decide_eq_false_iff_not, Bool.not_eq_true', Bool.decide_eq_true, Bool.not_eq_eq_eq_not, List.map_cons, List.map_nil, List.length_cons, List.length_nil, List.replicate_succ, List.replicate_zero, List.cons_append, List.nil_append, List.append_nil, List.getElem?_cons_zero, List.getElem?_cons_succ, List.set_cons_zero, List.set_cons_succ, List.all_cons, List.all_nil, Bool.and_true, Bool.true_and, Bool.and_self, Bool.not_true, Bool.not_false, Bool.false_eq_true, Bool.true_eq_false, if_true, if_false, ite_true, ite_false, reduceIte, Nat.add_sub_cancel, Nat.reduceSub, Nat.reduceAdd, Nat.sub_self, Nat.zero_add, Int.reduceLT, Int.reduceLE, Int.reduceEq, Int.reduceAdd, Int.reduceSub, Int.reduceMul, Int.reduceNeg, Int.reduceMod, Int.reduceDiv, Nat.zero_le, isiD_lst, isiD_int_int, isiD_int_bool, isiD_bl_bool, isiD_tup, decide_true, decide_false, hm, show small62 (m : Int) = true from small62_of (by omega) (by omega)]
  rw [rangeD_eq]
  refine forQ (C := fun o => RQ (o.thn _).toR _) (fun i ρ => ∃ (x3 x4 : Sl) (M : List Int), ρ = [.sh (Ints L), .sh (.int most), .ow (Ints M), x3, x4] ∧ M.length ≤ i ∧ (0 < i → M ≠ []) ∧ M.Nodup ∧ ∀ x ∈ M, 1 ≤ x ∧ x ≤ B) ⟨.no, .no, [], rfl, Nat.le_refl _, fun z => absurd z (Nat.lt_irrefl _), List.nodup_nil, fun _ z => nomatch z⟩ ?_ ?_
  · rintro i x ρ hx ⟨x3, x4, M, rfl, hM1, hM2, hM3, hM4⟩
    refine ⟨_, rfl, ?_⟩
    have hi : i < m := by
      have := (List.getElem?_eq_some_iff.mp hx).1
      simpa using this
    have hx : x = (i : Int) := by
      rw [List.getElem?_map, List.getElem?_range (by omega)] at hx
      have := Option.some.inj hx
      simp only at this
      omega
    subst hx
    obtain ⟨y, e2, b2, c2⟩ := hL.at (i := 2 + i) (by omega)
    have e2 : atI (L.map D.int) (2 + (i : Int)) = some (.int y) := by rw [show (2 + (i : Int)) = ((2 + i : Nat) : Int) by omega]; exact e2
    simp -implicitDefEqProofs only [runF_e, sSeq_e, thn_nx, thn_rt, thn_ex, thn_ct, thn_bk, toR_rt, toR_nx, toR_ex, st_ok, st_ex, st_bind, bind_bind, RQ_ok, OQ_nx, OQ_ct, OQ_bk, OQ_rt, NQ_nx, sNil, sRet_e, sRetO_q, retK_ow, retK_sh, sRetN, sExp_e, sIf_e, sSh_e, sOw_e, sMut_q, mutK_ow, mutK2_some, sSetIx_q, setK_ow, setK2_some, sAug_q, augK_sh, augK2_int, sAugIx_q, agxK_ow, agxK0_int, agxK1_some, agxK2_int, agxK3_some, sTup_q, tupK_some, sFor_e, sNo, sBk, sCt, eV_q, eO_q, slV_sh, slO_sh, slO_ow, eC, eBin, ofO_some, asB_bl, tE, tNotD, tAndD, tOrD, eAnd, eOr, eNot, eIf, eChain, tTru, truD, aNil, aCons, eTup, eLst, oNone, oSome, asI, eSl, sliceD, eCall, eFn, eFnK, eComp, okOwn_q, slOk_sh, slOk_no, slOk_none, wipeD, noX, tYesD, itSeq_q, seqK_lst, seqK_tup, seqK_scr, itRange1_q, rng1K_e, itRange2_q, rng2K_e, itEnum_q, enmK_e, itZip_q, zipK_e, bindP, binds, eNeg, eIsi, addD, subD, mulD, fdivD, modD, powD, iop, cmpI, isND, notND, D.isN, idxD, lenD, listD, tupleD, appD_lst, setD_lst, mutK2_ite, D.isL, max2D, min2D, absD, PD.intD, D.ty, frz_cons, frz1_q, frzS_ow, frzS_sh, frzS_no, frzD_lst, frzD_int, frzD_nil, frzK_nil, frz_nil, mkSl_lst, D.isMut, R.bind_ok, R.bind_no, dec_true, decide_eq_true_eq, decide_eq_false_iff_not, Bool.not_eq_true', Bool.decide_eq_true, Bool.not_eq_eq_eq_not, List.map_cons, List.map_nil, List.length_cons, List.length_nil, List.replicate_succ, List.replicate_zero, List.cons_append, List.nil_append, List.append_nil, List.getElem?_cons_zero, List.getElem?_cons_succ, List.set_cons_zero, List.set_cons_succ, List.all_cons, List.all_nil, Bool.and_true, Bool.true_and, Bool.and_self, Bool.not_true, Bool.not_false, Bool.false_eq_true, Bool.true_eq_false, if_true, if_false, ite_true, ite_false, reduceIte, Nat.add_sub_cancel, Nat.reduceSub, Nat.reduceAdd, Nat.sub_self, Nat.zero_add, Int.reduceLT, Int.reduceLE, Int.reduceEq, Int.reduceAdd, Int.reduceSub, Int.reduceMul, Int.reduceNeg, Int.reduceMod, Int.reduceDiv, Nat.zero_le, isiD_lst, isiD_int_int, isiD_int_bool, isiD_bl_bool, isiD_tup, decide_true, decide_false, e2, e1, show (0 : Int) < most by omega, eqD_int]
    have hr : 0 ≤ y % (most : Int) ∧ y % (most : Int) < most := ⟨Int.emod_nonneg _ (by omega), Int.emod_lt_of_pos _ (by omega)⟩
    revert hr
    generalize y % (most : Int) = z
    intro hr
    refine cutB (fun ρ => ∃ s : Int, ρ = [.sh (Ints L), .sh (.int most), .ow (Ints M), .sh (.int i), .sh (.int s)] ∧ 1 ≤ s ∧ s ≤ B) ?_ ?_
    · by_cases hq : x1 % 5 = 0
      · rw [if_pos hq]
        have hd : (1 + z) / 6 ≤ ((most / 6 : Nat) : Int) := by omega
        simp -implicitDefEqProofs only [runF_e, sSeq_e, thn_nx, thn_rt, thn_ex, thn_ct, thn_bk, toR_rt, toR_nx, toR_ex, st_ok, st_ex, st_bind, bind_bind, RQ_ok, OQ_nx, OQ_ct, OQ_bk, OQ_rt, NQ_nx, sNil, sRet_e, sRetO_q, retK_ow, retK_sh, sRetN, sExp_e, sIf_e, sSh_e, sOw_e, sMut_q, mutK_ow, mutK2_some, sSetIx_q, setK_ow, setK2_some, sAug_q, augK_sh, augK2_int, sAugIx_q, agxK_ow, agxK0_int, agxK1_some, agxK2_int, agxK3_some, sTup_q, tupK_some, sFor_e, sNo, sBk, sCt, eV_q, eO_q, slV_sh, slO_sh, slO_ow, eC, eBin, ofO_some, asB_bl, tE, tNotD, tAndD, tOrD, eAnd, eOr, eNot, eIf, eChain, tTru, truD, aNil, aCons, eTup, eLst, oNone, oSome, asI, eSl, sliceD, eCall, eFn, eFnK, eComp, okOwn_q, slOk_sh, slOk_no, slOk_none, wipeD, noX, tYesD, itSeq_q, seqK_lst, seqK_tup, seqK_scr, itRange1_q, rng1K_e, itRange2_q, rng2K_e, itEnum_q, enmK_e, itZip_q, zipK_e, bindP, binds, eNeg, eIsi, addD, subD, mulD, fdivD, modD, powD, iop, cmpI, isND, notND, D.isN, idxD, lenD, listD, tupleD, appD_lst, setD_lst, mutK2_ite, D.isL, max2D, min2D, absD, PD.intD, D.ty, frz_cons, frz1_q, frzS_ow, frzS_sh, frzS_no, frzD_lst, frzD_int, frzD_nil, frzK_nil, frz_nil, mkSl_lst, D.isMut, R.bind_ok, R.bind_no, dec_true, decide_eq_true_eq, decide_eq_false_iff_not, Bool.not_eq_true', Bool.decide_eq_true, Bool.not_eq_eq_eq_not, List.map_cons, List.map_nil, List.length_cons, List.length_nil, List.replicate_succ, List.replicate_zero, List.cons_append, List.nil_append, List.append_nil, List.getElem?_cons_zero, List.getElem?_cons_succ, List.set_cons_zero, List.set_cons_succ, List.all_cons, List.all_nil, Bool.and_true, Bool.true_and, Bool.and_self, Bool.not_true, Bool.not_false, Bool.false_eq_true, Bool.true_eq_false, if_true, if_false, ite_true, ite_false, reduceIte, Nat.add_sub_cancel, Nat.reduceSub, Nat.reduceAdd, Nat.sub_self, Nat.zero_add, Int.reduceLT, Int.reduceLE, Int.reduceEq, Int.reduceAdd, Int.reduceSub, Int.reduceMul, Int.reduceNeg, Int.reduceMod, Int.reduceDiv, Nat.zero_le, isiD_lst, isiD_int_int, isiD_int_bool, isiD_bl_bool, isiD_tup, decide_true, decide_false, show fdivOk (1 + z) 6 = true from fdivOk_of (by decide) (by decide), show mulOk 6 (1 + (1 + z) / 6) = true from mulOk_l (by decide) (by decide)]
        refine ⟨_, rfl, ?_, ?_⟩
        · split <;> omega
        · split <;> omega
      · rw [if_neg hq]
        simp -implicitDefEqProofs only [runF_e, sSeq_e, thn_nx, thn_rt, thn_ex, thn_ct, thn_bk, toR_rt, toR_nx, toR_ex, st_ok, st_ex, st_bind, bind_bind, RQ_ok, OQ_nx, OQ_ct, OQ_bk, OQ_rt, NQ_nx, sNil, sRet_e, sRetO_q, retK_ow, retK_sh, sRetN, sExp_e, sIf_e, sSh_e, sOw_e, sMut_q, mutK_ow, mutK2_some, sSetIx_q, setK_ow, setK2_some, sAug_q, augK_sh, augK2_int, sAugIx_q, agxK_ow, agxK0_int, agxK1_some, agxK2_int, agxK3_some, sTup_q, tupK_some, sFor_e, sNo, sBk, sCt, eV_q, eO_q, slV_sh, slO_sh, slO_ow, eC, eBin, ofO_some, asB_bl, tE, tNotD, tAndD, tOrD, eAnd, eOr, eNot, eIf, eChain, tTru, truD, aNil, aCons, eTup, eLst, oNone, oSome, asI, eSl, sliceD, eCall, eFn, eFnK, eComp, okOwn_q, slOk_sh, slOk_no, slOk_none, wipeD, noX, tYesD, itSeq_q, seqK_lst, seqK_tup, seqK_scr, itRange1_q, rng1K_e, itRange2_q, rng2K_e, itEnum_q, enmK_e, itZip_q, zipK_e, bindP, binds, eNeg, eIsi, addD, subD, mulD, fdivD, modD, powD, iop, cmpI, isND, notND, D.isN, idxD, lenD, listD, tupleD, appD_lst, setD_lst, mutK2_ite, D.isL, max2D, min2D, absD, PD.intD, D.ty, frz_cons, frz1_q, frzS_ow, frzS_sh, frzS_no, frzD_lst, frzD_int, frzD_nil, frzK_nil, frz_nil, mkSl_lst, D.isMut, R.bind_ok, R.bind_no, dec_true, decide_eq_true_eq, decide_eq_false_iff_not, Bool.not_eq_true', Bool.decide_eq_true, Bool.not_eq_eq_eq_not, List.map_cons, List.map_nil, List.length_cons, List.length_nil, List.replicate_succ, List.replicate_zero, List.cons_append, List.nil_append, List.append_nil, List.getElem?_cons_zero, List.getElem?_cons_succ, List.set_cons_zero, List.set_cons_succ, List.all_cons, List.all_nil, Bool.and_true, Bool.true_and, Bool.and_self, Bool.not_true, Bool.not_false, Bool.false_eq_true, Bool.true_eq_false, if_true, if_false, ite_true, ite_false, reduceIte, Nat.add_sub_cancel, Nat.reduceSub, Nat.reduceAdd, Nat.sub_self, Nat.zero_add, Int.reduceLT, Int.reduceLE, Int.reduceEq, Int.reduceAdd, Int.reduceSub, Int.reduceMul, Int.reduceNeg, Int.reduceMod, Int.reduceDiv, Nat.zero_le, isiD_lst, isiD_int_int, isiD_int_bool, isiD_bl_bool, isiD_tup, decide_true, decide_false]
        exact ⟨_, rfl, by omega, by omega⟩
    · rintro ρ ⟨s, rfl, hs1, hs2⟩
      simp -implicitDefEqProofs only [runF_e, sSeq_e, thn_nx, thn_rt, thn_ex, thn_ct, thn_bk, toR_rt, toR_nx, toR_ex, st_ok, st_ex, st_bind, bind_bind, RQ_ok, OQ_nx, OQ_ct, OQ_bk, OQ_rt, NQ_nx, sNil, sRet_e, sRetO_q, retK_ow, retK_sh, sRetN, sExp_e, sIf_e, sSh_e, sOw_e, sMut_q, mutK_ow, mutK2_some, sSetIx_q, setK_ow, setK2_some, sAug_q, augK_sh, augK2_int, sAugIx_q, agxK_ow, agxK0_int, agxK1_some, agxK2_int, agxK3_some, sTup_q, tupK_some, sFor_e, sNo, sBk, sCt, eV_q, eO_q, slV_sh, slO_sh, slO_ow, eC, eBin, ofO_some, asB_bl, tE, tNotD, tAndD, tOrD, eAnd, eOr, eNot, eIf, eChain, tTru, truD, aNil, aCons, eTup, eLst, oNone, oSome, asI, eSl, sliceD, eCall, eFn, eFnK, eComp, okOwn_q, slOk_sh, slOk_no, slOk_none, wipeD, noX, tYesD, itSeq_q, seqK_lst, seqK_tup, seqK_scr, itRange1_q, rng1K_e, itRange2_q, rng2K_e, itEnum_q, enmK_e, itZip_q, zipK_e, bindP, binds, eNeg, eIsi, addD, subD, mulD, fdivD, modD, powD, iop, cmpI, isND, notND, D.isN, idxD, lenD, listD, tupleD, appD_lst, setD_lst, mutK2_ite, D.isL, max2D, min2D, absD, PD.intD, D.ty, frz_cons, frz1_q, frzS_ow, frzS_sh, frzS_no, frzD_lst, frzD_int, frzD_nil, frzK_nil, frz_nil, mkSl_lst, D.isMut, R.bind_ok, R.bind_no, dec_true, decide_eq_true_eq, decide_eq_false_iff_not, Bool.not_eq_true', Bool.decide_eq_true, Bool.not_eq_eq_eq_not, List.map_cons, List.map_nil, List.length_cons, List.length_nil, List.replicate_succ, List.replicate_zero, List.cons_append, List.nil_append, List.append_nil, List.getElem?_cons_zero, List.getElem?_cons_succ, List.set_cons_zero, List.set_cons_succ, List.all_cons, List.all_nil, Bool.and_true, Bool.true_and, Bool.and_self, Bool.not_true, Bool.not_false, Bool.false_eq_true, Bool.true_eq_false, if_true, if_false, ite_true, ite_false, reduceIte, Nat.add_sub_cancel, Nat.reduceSub, Nat.reduceAdd, Nat.sub_self, Nat.zero_add, Int.reduceLT, Int.reduceLE, Int.reduceEq, Int.reduceAdd, Int.reduceSub, Int.reduceMul, Int.reduceNeg, Int.reduceMod, Int.reduceDiv, Nat.zero_le, isiD_lst, isiD_int_int, isiD_int_bool, isiD_bl_bool, isiD_tup, decide_true, decide_false, e1, eqD_int]
      refine cutB (fun ρ => ∃ s : Int, ρ = [.sh (Ints L), .sh (.int most), .ow (Ints M), .sh (.int i), .sh (.int s)] ∧ 1 ≤ s ∧ s ≤ B) ?_ ?_
      · by_cases hq : x1 % 5 = 1
        · rw [if_pos hq]
          simp -implicitDefEqProofs only [runF_e, sSeq_e, thn_nx, thn_rt, thn_ex, thn_ct, thn_bk, toR_rt, toR_nx, toR_ex, st_ok, st_ex, st_bind, bind_bind, RQ_ok, OQ_nx, OQ_ct, OQ_bk, OQ_rt, NQ_nx, sNil, sRet_e, sRetO_q, retK_ow, retK_sh, sRetN, sExp_e, sIf_e, sSh_e, sOw_e, sMut_q, mutK_ow, mutK2_some, sSetIx_q, setK_ow, setK2_some, sAug_q, augK_sh, augK2_int, sAugIx_q, agxK_ow, agxK0_int, agxK1_some, agxK2_int, agxK3_some, sTup_q, tupK_some, sFor_e, sNo, sBk, sCt, eV_q, eO_q, slV_sh, slO_sh, slO_ow, eC, eBin, ofO_some, asB_bl, tE, tNotD, tAndD, tOrD, eAnd, eOr, eNot, eIf, eChain, tTru, truD, aNil, aCons, eTup, eLst, oNone, oSome, asI, eSl, sliceD, eCall, eFn, eFnK, eComp, okOwn_q, slOk_sh, slOk_no, slOk_none, wipeD, noX, tYesD, itSeq_q, seqK_lst, seqK_tup, seqK_scr, itRange1_q, rng1K_e, itRange2_q, rng2K_e, itEnum_q, enmK_e, itZip_q, zipK_e, bindP, binds, eNeg, eIsi, addD, subD, mulD, fdivD, modD, powD, iop, cmpI, isND, notND, D.isN, idxD, lenD, listD, tupleD, appD_lst, setD_lst, mutK2_ite, D.isL, max2D, min2D, absD, PD.intD, D.ty, frz_cons, frz1_q, frzS_ow, frzS_sh, frzS_no, frzD_lst, frzD_int, frzD_nil, frzK_nil, frz_nil, mkSl_lst, D.isMut, R.bind_ok, R.bind_no, dec_true, decide_eq_true_eq, decide_eq_false_iff_not, Bool.not_eq_true', Bool.decide_eq_true, Bool.not_eq_eq_eq_not, List.map_cons, List.map_nil, List.length_cons, List.length_nil, List.replicate_succ, List.replicate_zero, List.cons_append, List.nil_append, List.append_nil, List.getElem?_cons_zero, List.getElem?_cons_succ, List.set_cons_zero, List.set_cons_succ, List.all_cons, List.all_nil, Bool.and_true, Bool.true_and, Bool.and_self, Bool.not_true, Bool.not_false, Bool.false_eq_true, Bool.true_eq_false, if_true, if_false, ite_true, ite_false, reduceIte, Nat.add_sub_cancel, Nat.reduceSub, Nat.reduceAdd, Nat.sub_self, Nat.zero_add, Int.reduceLT, Int.reduceLE, Int.reduceEq, Int.reduceAdd, Int.reduceSub, Int.reduceMul, Int.reduceNeg, Int.reduceMod, Int.reduceDiv, Nat.zero_le, isiD_lst, isiD_int_int, isiD_int_bool, isiD_bl_bool, isiD_tup, decide_true, decide_false, show fdivOk s 4 = true from fdivOk_of (by decide) (by decide)]
          exact ⟨_, rfl, by omega, by omega⟩
        · rw [if_neg hq]
          simp -implicitDefEqProofs only [runF_e, sSeq_e, thn_nx, thn_rt, thn_ex, thn_ct, thn_bk, toR_rt, toR_nx, toR_ex, st_ok, st_ex, st_bind, bind_bind, RQ_ok, OQ_nx, OQ_ct, OQ_bk, OQ_rt, NQ_nx, sNil, sRet_e, sRetO_q, retK_ow, retK_sh, sRetN, sExp_e, sIf_e, sSh_e, sOw_e, sMut_q, mutK_ow, mutK2_some, sSetIx_q, setK_ow, setK2_some, sAug_q, augK_sh, augK2_int, sAugIx_q, agxK_ow, agxK0_int, agxK1_some, agxK2_int, agxK3_some, sTup_q, tupK_some, sFor_e, sNo, sBk, sCt, eV_q, eO_q, slV_sh, slO_sh, slO_ow, eC, eBin, ofO_some, asB_bl, tE, tNotD, tAndD, tOrD, eAnd, eOr, eNot, eIf, eChain, tTru, truD, aNil, aCons, eTup, eLst, oNone, oSome, asI, eSl, sliceD, eCall, eFn, eFnK, eComp, okOwn_q, slOk_sh, slOk_no, slOk_none, wipeD, noX, tYesD, itSeq_q, seqK_lst, seqK_tup, seqK_scr, itRange1_q, rng1K_e, itRange2_q, rng2K_e, itEnum_q, enmK_e, itZip_q, zipK_e, bindP, binds, eNeg, eIsi, addD, subD, mulD, fdivD, modD, powD, iop, cmpI, isND, notND, D.isN, idxD, lenD, listD, tupleD, appD_lst, setD_lst, mutK2_ite, D.isL, max2D, min2D, absD, PD.intD, D.ty, frz_cons, frz1_q, frzS_ow, frzS_sh, frzS_no, frzD_lst, frzD_int, frzD_nil, frzK_nil, frz_nil, mkSl_lst, D.isMut, R.bind_ok, R.bind_no, dec_true, decide_eq_true_eq, decide_eq_false_iff_not, Bool.not_eq_true', Bool.decide_eq_true, Bool.not_eq_eq_eq_not, List.map_cons, List.map_nil, List.length_cons, List.length_nil, List.replicate_succ, List.replicate_zero, List.cons_append, List.nil_append, List.append_nil, List.getElem?_cons_zero, List.getElem?_cons_succ, List.set_cons_zero, List.set_cons_succ, List.all_cons, List.all_nil, Bool.and_true, Bool.true_and, Bool.and_self, Bool.not_true, Bool.not_false, Bool.false_eq_true, Bool.true_eq_false, if_true, if_false, ite_true, ite_false, reduceIte, Nat.add_sub_cancel, Nat.reduceSub, Nat.reduceAdd, Nat.sub_self, Nat.zero_add, Int.reduceLT, Int.reduceLE, Int.reduceEq, Int.reduceAdd, Int.reduceSub, Int.reduceMul, Int.reduceNeg, Int.reduceMod, Int.reduceDiv, Nat.zero_le, isiD_lst, isiD_int_int, isiD_int_bool, isiD_bl_bool, isiD_tup, decide_true, decide_false]
          exact ⟨_, rfl, by omega, by omega⟩
      · rintro ρ ⟨s, rfl, hs1, hs2⟩
        simp -implicitDefEqProofs only [runF_e, sSeq_e, thn_nx, thn_rt, thn_ex, thn_ct, thn_bk, toR_rt, toR_nx, toR_ex, st_ok, st_ex, st_bind, bind_bind, RQ_ok, OQ_nx, OQ_ct, OQ_bk, OQ_rt, NQ_nx, sNil, sRet_e, sRetO_q, retK_ow, retK_sh, sRetN, sExp_e, sIf_e, sSh_e, sOw_e, sMut_q, mutK_ow, mutK2_some, sSetIx_q, setK_ow, setK2_some, sAug_q, augK_sh, augK2_int, sAugIx_q, agxK_ow, agxK0_int, agxK1_some, agxK2_int, agxK3_some, sTup_q, tupK_some, sFor_e, sNo, sBk, sCt, eV_q, eO_q, slV_sh, slO_sh, slO_ow, eC, eBin, ofO_some, asB_bl, tE, tNotD, tAndD, tOrD, eAnd, eOr, eNot, eIf, eChain, tTru, truD, aNil, aCons, eTup, eLst, oNone, oSome, asI, eSl, sliceD, eCall, eFn, eFnK, eComp, okOwn_q, slOk_sh, slOk_no, slOk_none, wipeD, noX, tYesD, itSeq_q, seqK_lst, seqK_tup, seqK_scr, itRange1_q, rng1K_e, itRange2_q, rng2K_e, itEnum_q, enmK_e, itZip_q, zipK_e, bindP, binds, eNeg, eIsi, addD, subD, mulD, fdivD, modD, powD, iop, cmpI, isND, notND, D.isN, idxD, lenD, listD, tupleD, appD_lst, setD_lst, mutK2_ite, D.isL, max2D, min2D, absD, PD.intD, D.ty, frz_cons, frz1_q, frzS_ow, frzS_sh, frzS_no, frzD_lst, frzD_int, frzD_nil, frzK_nil, frz_nil, mkSl_lst, D.isMut, R.bind_ok, R.bind_no, dec_true, decide_eq_true_eq, decide_eq_false_iff_not, Bool.not_eq_true', Bool.decide_eq_true, Bool.not_eq_eq_eq_not, List.map_cons, List.map_nil, List.length_cons, List.length_nil, List.replicate_succ, List.replicate_zero, List.cons_append, List.nil_append, List.append_nil, List.getElem?_cons_zero, List.getElem?_cons_succ, List.set_cons_zero, List.set_cons_succ, List.all_cons, List.all_nil, Bool.and_true, Bool.true_and, Bool.and_self, Bool.not_true, Bool.not_false, Bool.false_eq_true, Bool.true_eq_false, if_true, if_false, ite_true, ite_false, reduceIte, Nat.add_sub_cancel, Nat.reduceSub, Nat.reduceAdd, Nat.sub_self, Nat.zero_add, Int.reduceLT, Int.reduceLE, Int.reduceEq, Int.reduceAdd, Int.reduceSub, Int.reduceMul, Int.reduceNeg, Int.reduceMod, Int.reduceDiv, Nat.zero_le, isiD_lst, isiD_int_int, isiD_int_bool, isiD_bl_bool, isiD_tup, decide_true, decide_false]
        rw [notInD_ints]
        simp -implicitDefEqProofs only [runF_e, sSeq_e, thn_nx, thn_rt, thn_ex, thn_ct, thn_bk, toR_rt, toR_nx, toR_ex, st_ok, st_ex, st_bind, bind_bind, RQ_ok, OQ_nx, OQ_ct, OQ_bk, OQ_rt, NQ_nx, sNil, sRet_e, sRetO_q, retK_ow, retK_sh, sRetN, sExp_e, sIf_e, sSh_e, sOw_e, sMut_q, mutK_ow, mutK2_some, sSetIx_q, setK_ow, setK2_some, sAug_q, augK_sh, augK2_int, sAugIx_q, agxK_ow, agxK0_int, agxK1_some, agxK2_int, agxK3_some, sTup_q, tupK_some, sFor_e, sNo, sBk, sCt, eV_q, eO_q, slV_sh, slO_sh, slO_ow, eC, eBin, ofO_some, asB_bl, tE, tNotD, tAndD, tOrD, eAnd, eOr, eNot, eIf, eChain, tTru, truD, aNil, aCons, eTup, eLst, oNone, oSome, asI, eSl, sliceD, eCall, eFn, eFnK, eComp, okOwn_q, slOk_sh, slOk_no, slOk_none, wipeD, noX, tYesD, itSeq_q, seqK_lst, seqK_tup, seqK_scr, itRange1_q, rng1K_e, itRange2_q, rng2K_e, itEnum_q, enmK_e, itZip_q, zipK_e, bindP, binds, eNeg, eIsi, addD, subD, mulD, fdivD, modD, powD, iop, cmpI, isND, notND, D.isN, idxD, lenD, listD, tupleD, appD_lst, setD_lst, mutK2_ite, D.isL, max2D, min2D, absD, PD.intD, D.ty, frz_cons, frz1_q, frzS_ow, frzS_sh, frzS_no, frzD_lst, frzD_int, frzD_nil, frzK_nil, frz_nil, mkSl_lst, D.isMut, R.bind_ok, R.bind_no, dec_true, decide_eq_true_eq, decide_eq_false_iff_not, Bool.not_eq_true', Bool.decide_eq_true, Bool.not_eq_eq_eq_not, List.map_cons, List.map_nil, List.length_cons, List.length_nil, List.replicate_succ, List.replicate_zero, List.cons_append, List.nil_append, List.append_nil, List.getElem?_cons_zero, List.getElem?_cons_succ, List.set_cons_zero, List.set_cons_succ, List.all_cons, List.all_nil, Bool.and_true, Bool.true_and, Bool.and_self, Bool.not_true, Bool.not_false, Bool.false_eq_true, Bool.true_eq_false, if_true, if_false, ite_true, ite_false, reduceIte, Nat.add_sub_cancel, Nat.reduceSub, Nat.reduceAdd, Nat.sub_self, Nat.zero_add, Int.reduceLT, Int.reduceLE, Int.reduceEq, Int.reduceAdd, Int.reduceSub, Int.reduceMul, Int.reduceNeg, Int.reduceMod, Int.reduceDiv, Nat.zero_le, isiD_lst, isiD_int_int, isiD_int_bool, isiD_bl_bool, isiD_tup, decide_true, decide_false]
        by_cases hq : s ∈ M
        · rw [if_neg (by simpa using hq)]
          simp -implicitDefEqProofs only [runF_e, sSeq_e, thn_nx, thn_rt, thn_ex, thn_ct, thn_bk, toR_rt, toR_nx, toR_ex, st_ok, st_ex, st_bind, bind_bind, RQ_ok, OQ_nx, OQ_ct, OQ_bk, OQ_rt, NQ_nx, sNil, sRet_e, sRetO_q, retK_ow, retK_sh, sRetN, sExp_e, sIf_e, sSh_e, sOw_e, sMut_q, mutK_ow, mutK2_some, sSetIx_q, setK_ow, setK2_some, sAug_q, augK_sh, augK2_int, sAugIx_q, agxK_ow, agxK0_int, agxK1_some, agxK2_int, agxK3_some, sTup_q, tupK_some, sFor_e, sNo, sBk, sCt, eV_q, eO_q, slV_sh, slO_sh, slO_ow, eC, eBin, ofO_some, asB_bl, tE, tNotD, tAndD, tOrD, eAnd, eOr, eNot, eIf, eChain, tTru, truD, aNil, aCons, eTup, eLst, oNone, oSome, asI, eSl, sliceD, eCall, eFn, eFnK, eComp, okOwn_q, slOk_sh, slOk_no, slOk_none, wipeD, noX, tYesD, itSeq_q, seqK_lst, seqK_tup, seqK_scr, itRange1_q, rng1K_e, itRange2_q, rng2K_e, itEnum_q, enmK_e, itZip_q, zipK_e, bindP, binds, eNeg, eIsi, addD, subD, mulD, fdivD, modD, powD, iop, cmpI, isND, notND, D.isN, idxD, lenD, listD, tupleD, appD_lst, setD_lst, mutK2_ite, D.isL, max2D, min2D, absD, PD.intD, D.ty, frz_cons, frz1_q, frzS_ow, frzS_sh, frzS_no, frzD_lst, frzD_int, frzD_nil, frzK_nil, frz_nil, mkSl_lst, D.isMut, R.bind_ok, R.bind_no, dec_true, decide_eq_true_eq, decide_eq_false_iff_not, Bool.not_eq_true', Bool.decide_eq_true, Bool.not_eq_eq_eq_not, List.map_cons, List.map_nil, List.length_cons, List.length_nil, List.replicate_succ, List.replicate_zero, List.cons_append, List.nil_append, List.append_nil, List.getElem?_cons_zero, List.getElem?_cons_succ, List.set_cons_zero, List.set_cons_succ, List.all_cons, List.all_nil, Bool.and_true, Bool.true_and, Bool.and_self, Bool.not_true, Bool.not_false, Bool.false_eq_true, Bool.true_eq_false, if_true, if_false, ite_true, ite_false, reduceIte, Nat.add_sub_cancel, Nat.reduceSub, Nat.reduceAdd, Nat.sub_self, Nat.zero_add, Int.reduceLT, Int.reduceLE, Int.reduceEq, Int.reduceAdd, Int.reduceSub, Int.reduceMul, Int.reduceNeg, Int.reduceMod, Int.reduceDiv, Nat.zero_le, isiD_lst, isiD_int_int, isiD_int_bool, isiD_bl_bool, isiD_tup, decide_true, decide_false]
          exact ⟨_, _, M, rfl, by omega, fun _ e => (by rw [e] at hq; cases hq), hM3, hM4⟩
        · rw [if_pos (by simpa using hq)]
          simp -implicitDefEqProofs only [runF_e, sSeq_e, thn_nx, thn_rt, thn_ex, thn_ct, thn_bk, toR_rt, toR_nx, toR_ex, st_ok, st_ex, st_bind, bind_bind, RQ_ok, OQ_nx, OQ_ct, OQ_bk, OQ_rt, NQ_nx, sNil, sRet_e, sRetO_q, retK_ow, retK_sh, sRetN, sExp_e, sIf_e, sSh_e, sOw_e, sMut_q, mutK_ow, mutK2_some, sSetIx_q, setK_ow, setK2_some, sAug_q, augK_sh, augK2_int, sAugIx_q, agxK_ow, agxK0_int, agxK1_some, agxK2_int, agxK3_some, sTup_q, tupK_some, sFor_e, sNo, sBk, sCt, eV_q, eO_q, slV_sh, slO_sh, slO_ow, eC, eBin, ofO_some, asB_bl, tE, tNotD, tAndD, tOrD, eAnd, eOr, eNot, eIf, eChain, tTru, truD, aNil, aCons, eTup, eLst, oNone, oSome, asI, eSl, sliceD, eCall, eFn, eFnK, eComp, okOwn_q, slOk_sh, slOk_no, slOk_none, wipeD, noX, tYesD, itSeq_q, seqK_lst, seqK_tup, seqK_scr, itRange1_q, rng1K_e, itRange2_q, rng2K_e, itEnum_q, enmK_e, itZip_q, zipK_e, bindP, binds, eNeg, eIsi, addD, subD, mulD, fdivD, modD, powD, iop, cmpI, isND, notND, D.isN, idxD, lenD, listD, tupleD, appD_lst, setD_lst, mutK2_ite, D.isL, max2D, min2D, absD, PD.intD, D.ty, frz_cons, frz1_q, frzS_ow, frzS_sh, frzS_no, frzD_lst, frzD_int, frzD_nil, frzK_nil, frz_nil, mkSl_lst, D.isMut, R.bind_ok, R.bind_no, dec_true, decide_eq_true_eq, decide_eq_false_iff_not, Bool.not_eq_true', Bool.decide_eq_true, Bool.not_eq_eq_eq_not, List.map_cons, List.map_nil, List.length_cons, List.length_nil, List.replicate_succ, List.replicate_zero, List.cons_append, List.nil_append, List.append_nil, List.getElem?_cons_zero, List.getElem?_cons_succ, List.set_cons_zero, List.set_cons_succ, List.all_cons, List.all_nil, Bool.and_true, Bool.true_and, Bool.and_self, Bool.not_true, Bool.not_false, Bool.false_eq_true, Bool.true_eq_false, if_true, if_false, ite_true, ite_false, reduceIte, Nat.add_sub_cancel, Nat.reduceSub, Nat.reduceAdd, Nat.sub_self, Nat.zero_add, Int.reduceLT, Int.reduceLE, Int.reduceEq, Int.reduceAdd, Int.reduceSub, Int.reduceMul, Int.reduceNeg, Int.reduceMod, Int.reduceDiv, Nat.zero_le, isiD_lst, isiD_int_int, isiD_int_bool, isiD_bl_bool, isiD_tup, decide_true, decide_false, show (M.map D.int).length < sizeLine by rw [List.length_map, szL]; omega]
          refine ⟨_, _, M ++ [s], by rw [Ints_snoc], by rw [List.length_append]; simp; omega, fun _ => by simp, ?_, fun x hx => ?_⟩
          · rw [List.nodup_append]
            exact ⟨hM3, by simp, fun a ha b hb => by rw [List.mem_singleton.mp hb]; rintro rfl; exact hq ha⟩
          · rcases List.mem_append.mp hx with hx | hx
            · exact hM4 x hx
            · rw [List.mem_singleton.mp hx]; exact ⟨hs1, hs2⟩
  · rintro ρ ⟨x3, x4, M, rfl, hM1, hM2, hM3, hM4⟩
    rw [List.length_map, List.length_range] at hM1 hM2
    simp -implicitDefEqProofs only [runF_e, sSeq_e, thn_nx, thn_rt, thn_ex, thn_ct, thn_bk, toR_rt, toR_nx, toR_ex, st_ok, st_ex, st_bind, bind_bind, RQ_ok, OQ_nx, OQ_ct, OQ_bk, OQ_rt, NQ_nx, sNil, sRet_e, sRetO_q, retK_ow, retK_sh, sRetN, sExp_e, sIf_e, sSh_e, sOw_e, sMut_q, mutK_ow, mutK2_some, sSetIx_q, setK_ow, setK2_some, sAug_q, augK_sh, augK2_int, sAugIx_q, agxK_ow, agxK0_int, agxK1_some, agxK2_int, agxK3_some, sTup_q, tupK_some, sFor_e, sNo, sBk, sCt, eV_q, eO_q, slV_sh, slO_sh, slO_ow, eC, eBin, ofO_some, asB_bl, tE, tNotD, tAndD, tOrD, eAnd, eOr, eNot, eIf, eChain, tTru, truD, aNil, aCons, eTup, eLst, oNone, oSome, asI, eSl, sliceD, eCall, eFn, eFnK, eComp, okOwn_q, slOk_sh, slOk_no, slOk_none, wipeD, noX, tYesD, itSeq_q, seqK_lst, seqK_tup, seqK_scr, itRange1_q, rng1K_e, itRange2_q, rng2K_e, itEnum_q, enmK_e, itZip_q, zipK_e, bindP, binds, eNeg, eIsi, addD, subD, mulD, fdivD, modD, powD, iop, cmpI, isND, notND, D.isN, idxD, lenD, listD, tupleD, appD_lst, setD_lst, mutK2_ite, D.isL, max2D, min2D, absD, PD.intD, D.ty, frz_cons, frz1_q, frzS_ow, frzS_sh, frzS_no, frzD_lst, frzD_int, frzD_nil, frzK_nil, frz_nil, mkSl_lst, D.isMut, R.bind_ok, R.bind_no, dec_true, decide_eq_true_eq, decide_eq_false_iff_not, Bool.not_eq_true', Bool.decide_eq_true, Bool.not_eq_eq_eq_not, List.map_cons, List.map_nil, List.length_cons, List.length_nil, List.replicate_succ, List.replicate_zero, List.cons_append, List.nil_append, List.append_nil, List.getElem?_cons_zero, List.getElem?_cons_succ, List.set_cons_zero, List.set_cons_succ, List.all_cons, List.all_nil, Bool.and_true, Bool.true_and, Bool.and_self, Bool.not_true, Bool.not_false, Bool.false_eq_true, Bool.true_eq_false, if_true, if_false, ite_true, ite_false, reduceIte, Nat.add_sub_cancel, Nat.reduceSub, Nat.reduceAdd, Nat.sub_self, Nat.zero_add, Int.reduceLT, Int.reduceLE, Int.reduceEq, Int.reduceAdd, Int.reduceSub, Int.reduceMul, Int.reduceNeg, Int.reduceMod, Int.reduceDiv, Nat.zero_le, isiD_lst, isiD_int_int, isiD_int_bool, isiD_bl_bool, isiD_tup, decide_true, decide_false]
    rw [show sortedU [D.lst (M.map D.int)] = some (Ints (sortI M)) by
      show (match asInts (M.map D.int) with | some ns => some (D.lst ((sortI ns).map D.int)) | none => _) = _
      rw [asInts_map]]
    simp -implicitDefEqProofs only [runF_e, sSeq_e, thn_nx, thn_rt, thn_ex, thn_ct, thn_bk, toR_rt, toR_nx, toR_ex, st_ok, st_ex, st_bind, bind_bind, RQ_ok, OQ_nx, OQ_ct, OQ_bk, OQ_rt, NQ_nx, sNil, sRet_e, sRetO_q, retK_ow, retK_sh, sRetN, sExp_e, sIf_e, sSh_e, sOw_e, sMut_q, mutK_ow, mutK2_some, sSetIx_q, setK_ow, setK2_some, sAug_q, augK_sh, augK2_int, sAugIx_q, agxK_ow, agxK0_int, agxK1_some, agxK2_int, agxK3_some, sTup_q, tupK_some, sFor_e, sNo, sBk, sCt, eV_q, eO_q, slV_sh, slO_sh, slO_ow, eC, eBin, ofO_some, asB_bl, tE, tNotD, tAndD, tOrD, eAnd, eOr, eNot, eIf, eChain, tTru, truD, aNil, aCons, eTup, eLst, oNone, oSome, asI, eSl, sliceD, eCall, eFn, eFnK, eComp, okOwn_q, slOk_sh, slOk_no, slOk_none, wipeD, noX, tYesD, itSeq_q, seqK_lst, seqK_tup, seqK_scr, itRange1_q, rng1K_e, itRange2_q, rng2K_e, itEnum_q, enmK_e, itZip_q, zipK_e, bindP, binds, eNeg, eIsi, addD, subD, mulD, fdivD, modD, powD, iop, cmpI, isND, notND, D.isN, idxD, lenD, listD, tupleD, appD_lst, setD_lst, mutK2_ite, D.isL, max2D, min2D, absD, PD.intD, D.ty, frz_cons, frz1_q, frzS_ow, frzS_sh, frzS_no, frzD_lst, frzD_int, frzD_nil, frzK_nil, frz_nil, mkSl_lst, D.isMut, R.bind_ok, R.bind_no, dec_true, decide_eq_true_eq, decide_eq_false_iff_not, Bool.not_eq_true', Bool.decide_eq_true, Bool.not_eq_eq_eq_not, List.map_cons, List.map_nil, List.length_cons, List.length_nil, List.replicate_succ, List.replicate_zero, List.cons_append, List.nil_append, List.append_nil, List.getElem?_cons_zero, List.getElem?_cons_succ, List.set_cons_zero, List.set_cons_succ, List.all_cons, List.all_nil, Bool.and_true, Bool.true_and, Bool.and_self, Bool.not_true, Bool.not_false, Bool.false_eq_true, Bool.true_eq_false, if_true, if_false, ite_true, ite_false, reduceIte, Nat.add_sub_cancel, Nat.reduceSub, Nat.reduceAdd, Nat.sub_self, Nat.zero_add, Int.reduceLT, Int.reduceLE, Int.reduceEq, Int.reduceAdd, Int.reduceSub, Int.reduceMul, Int.reduceNeg, Int.reduceMod, Int.reduceDiv, Nat.zero_le, isiD_lst, isiD_int_int, isiD_int_bool, isiD_bl_bool, isiD_tup, decide_true, decide_false]
    have hp := sortI_perm M
    have hmem : ∀ x, x ∈ sortI M ↔ x ∈ M := fun x => hp.mem_iff
    have hpos : ∀ x ∈ sortI M, 1 ≤ x ∧ x ≤ B := fun x hx => hM4 x ((hmem x).mp hx)
    have hasc : (sortI M).Pairwise (· < ·) := by
      have h1 := sortI_sorted M
      have h2 : (sortI M).Nodup := hp.nodup_iff.mpr hM3
      exact (h1.and h2).imp fun {a b} h => by
        have := h.1; have := h.2
        omega
    refine ⟨(sortI M).map Int.toNat, Nats_of fun x hx => by have := hpos x hx; omega, ⟨?_, ?_, ?_, ?_⟩, ?_⟩
    · intro e
      have e := List.map_eq_nil_iff.mp e
      have := hM2 (by omega)
      rw [e] at hp
      exact this hp.nil_eq.symm
    · rw [List.length_map, hp.length_eq]; omega
    · intro s hs
      obtain ⟨x, hx, rfl⟩ := List.mem_map.mp hs
      have := hpos x hx
      omega
    · rw [List.pairwise_map]
      exact hasc.imp_of_mem fun {a b} ha hb h => by
        have := hpos a ha; have := hpos b hb
        omega
    · intro s hs
      obtain ⟨x, hx, rfl⟩ := List.mem_map.mp hs
      have := hpos x hx
      omega
end K55
namespace K55
open PySem PySem.Spec PyProof.Rows L2 PD
theorem nons_oD (a : Nat) : (List.replicate (a : Int).toNat ([D.non] : List D)).flatten = (List.replicate a (none : Option Nat)).map oD := by
  rw [Int.toNat_natCast]
  induction a with
  | zero => rfl
  | succ n ih => rw [List.replicate_succ, List.replicate_succ, List.flatten_cons, ih]; rfl
theorem minU_o (L : List Nat) (h : L ≠ []) : ∃ k, minU [Nats L] = some (.int (k : Nat)) ∧ k ∈ L ∧ ∀ j ∈ L, k ≤ j := by
  cases L with
  | nil => exact absurd rfl h
  | cons n r =>
    have key : ∀ (r : List Nat) (n : Nat), ∃ k : Nat, le' (n : Int) (r.map fun s : Nat => (s : Int)) = (k : Int) ∧ k ∈ n :: r ∧ ∀ j ∈ n :: r, k ≤ j := by
      intro r
      induction r with
      | nil => exact fun n => ⟨n, rfl, by simp, by simp⟩
      | cons x r ih =>
        intro n
        show ∃ k : Nat, le' (if (x : Int) < n then (x : Int) else n) (r.map fun s : Nat => (s : Int)) = k ∧ _
        by_cases hx : (x : Int) < n
        · rw [if_pos hx]
          obtain ⟨k, e, h1, h2⟩ := ih x
          refine ⟨k, e, List.mem_cons_of_mem _ h1, fun j hj => ?_⟩
          rcases List.mem_cons.mp hj with rfl | hj
          · have := h2 x (by simp); omega
          · exact h2 j hj
        · rw [if_neg hx]
          obtain ⟨k, e, h1, h2⟩ := ih n
          refine ⟨k, e, ?_, fun j hj => ?_⟩
          · rcases List.mem_cons.mp h1 with rfl | h1
            · simp
            · exact List.mem_cons_of_mem _ (List.mem_cons_of_mem _ h1)
          · rcases List.mem_cons.mp hj with rfl | hj
            · exact h2 j (by simp)
            · rcases List.mem_cons.mp hj with rfl | hj
              · have := h2 n (by simp); omega
              · exact h2 j (List.mem_cons_of_mem _ hj)
    obtain ⟨k, e, h1, h2⟩ := key r n
    refine ⟨k, ?_, h1, h2⟩
    have : Nats (n :: r) = Ints ((n : Int) :: r.map fun s : Nat => (s : Int)) := by
      unfold Nats Ints
      rw [List.map_cons, List.map_cons, List.map_map]; rfl
    rw [this]
    show (match asInts (((n : Int) :: r.map fun s : Nat => (s : Int)).map D.int) with | some (n :: r) => some (D.int (le' n r)) | _ => _) = _
    rw [asInts_map]
    show some (D.int (le' (n : Int) (r.map fun s : Nat => (s : Int)))) = _
    rw [e]
structure Part (S : List Nat) (a i : Nat) (T : List (Option Nat)) : Prop where
  len : T.length = a + 1
  at_ : ∀ r o, r ≤ i → T[r]? = some o → IsMin (Fil S r) o
  rest : ∀ r o, i < r → T[r]? = some o → o = none
theorem Part.get {S : List Nat} {a i : Nat} {T : List (Option Nat)} (h : Part S a i T) {r : Nat} (hr : r ≤ i) (ha : i ≤ a) : ∃ o, T[r]? = some o ∧ IsMin (Fil S r) o := by
  have := h.len
  exact ⟨T[r]'(by omega), List.getElem?_eq_getElem _, h.at_ r _ hr (List.getElem?_eq_getElem (by omega))⟩
theorem law_fewest_ok {S : List Nat} (hS : ∀ s ∈ S, 0 < s) (hl : S.length ≤ 8) {a : Nat} (ha : a ≤ 5000) : RQ (F__law_fewest [Nats S, .int a]) fun d => ∃ T, d = Tab T ∧ Table S a T := by
  unfold F__law_fewest
  simp -implicitDefEqProofs only [runF_e, sSeq_e, thn_nx, thn_rt, thn_ex, thn_ct, thn_bk, toR_rt, toR_nx, toR_ex, st_ok, st_ex, st_bind, bind_bind, RQ_ok, OQ_nx, OQ_ct, OQ_bk, OQ_rt, NQ_nx, sNil, sRet_e, sRetO_q, retK_ow, retK_sh, sRetN, sExp_e, sIf_e, sSh_e, sOw_e, sMut_q, mutK_ow, mutK2_some, sSetIx_q, setK_ow, setK2_some, sAug_q, augK_sh, augK2_int, sAugIx_q, agxK_ow, agxK0_int, agxK1_some, agxK2_int, agxK3_some, sTup_q, tupK_some, sFor_e, sNo, sBk, sCt, eV_q, eO_q, slV_sh, slO_sh, slO_ow, eC, eBin, ofO_some, asB_bl, tE, tNotD, tAndD, tOrD, eAnd, eOr, eNot, eIf, eChain, tTru, truD, aNil, aCons, eTup, eLst, oNone, oSome, asI, eSl, sliceD, eCall, eFn, eFnK, eComp, okOwn_q, slOk_sh, slOk_no, slOk_none, wipeD, noX, tYesD, itSeq_q, seqK_lst, seqK_tup, seqK_scr, itRange1_q, rng1K_e, itRange2_q, rng2K_e, itEnum_q, enmK_e, itZip_q, zipK_e, bindP, binds, eNeg, eIsi, addD, subD, mulD, fdivD, modD, powD, iop, cmpI, isND, notND, D.isN, idxD, lenD, listD, tupleD, appD_lst, setD_lst, mutK2_ite, D.isL, max2D, min2D, absD, PD.intD, D.ty, frz_cons, frz1_q, frzS_ow, frzS_sh, frzS_no, frzD_lst, frzD_int, frzD_nil, frzK_nil, frz_nil, mkSl_lst, D.isMut, R.bind_ok, R.bind_no, dec_true, decide_eq_true_eq, decide_eq_false_iff_not, Bool.not_eq_true', Bool.decide_eq_true, Bool.not_eq_eq_eq_not, List.map_cons, List.map_nil, List.length_cons, List.length_nil, List.replicate_succ, List.replicate_zero, List.cons_append, List.nil_append, List.append_nil, List.getElem?_cons_zero, List.getElem?_cons_succ, List.set_cons_zero, List.set_cons_succ, List.all_cons, List.all_nil, Bool.and_true, Bool.true_and, Bool.and_self, Bool.not_true, Bool.not_false, Bool.false_eq_true, Bool.true_eq_false, if_true, if_false, ite_true, ite_false, reduceIte, Nat.add_sub_cancel, Nat.reduceSub, Nat.reduceAdd, Nat.sub_self, Nat.zero_add, Int.reduceLT, Int.reduceLE, Int.reduceEq, Int.reduceAdd, Int.reduceSub, Int.reduceMul, Int.reduceNeg, Int.reduceMod, Int.reduceDiv, Nat.zero_le, isiD_lst, isiD_int_int, isiD_int_bool, isiD_bl_bool, isiD_tup, decide_true, decide_false, show (1 : Nat) ≤ sizeLine by rw [szL]; decide]
  rw [if_pos ⟨by omega, by omega, by rw [szL]; omega⟩]
  simp -implicitDefEqProofs only [runF_e, sSeq_e, thn_nx, thn_rt, thn_ex, thn_ct, thn_bk, toR_rt, toR_nx, toR_ex, st_ok, st_ex, st_bind, bind_bind, RQ_ok, OQ_nx, OQ_ct, OQ_bk, OQ_rt, NQ_nx, sNil, sRet_e, sRetO_q, retK_ow, retK_sh, sRetN, sExp_e, sIf_e, sSh_e, sOw_e, sMut_q, mutK_ow, mutK2_some, sSetIx_q, setK_ow, setK2_some, sAug_q, augK_sh, augK2_int, sAugIx_q, agxK_ow, agxK0_int, agxK1_some, agxK2_int, agxK3_some, sTup_q, tupK_some, sFor_e, sNo, sBk, sCt, eV_q, eO_q, slV_sh, slO_sh, slO_ow, eC, eBin, ofO_some, asB_bl, tE, tNotD, tAndD, tOrD, eAnd, eOr, eNot, eIf, eChain, tTru, truD, aNil, aCons, eTup, eLst, oNone, oSome, asI, eSl, sliceD, eCall, eFn, eFnK, eComp, okOwn_q, slOk_sh, slOk_no, slOk_none, wipeD, noX, tYesD, itSeq_q, seqK_lst, seqK_tup, seqK_scr, itRange1_q, rng1K_e, itRange2_q, rng2K_e, itEnum_q, enmK_e, itZip_q, zipK_e, bindP, binds, eNeg, eIsi, addD, subD, mulD, fdivD, modD, powD, iop, cmpI, isND, notND, D.isN, idxD, lenD, listD, tupleD, appD_lst, setD_lst, mutK2_ite, D.isL, max2D, min2D, absD, PD.intD, D.ty, frz_cons, frz1_q, frzS_ow, frzS_sh, frzS_no, frzD_lst, frzD_int, frzD_nil, frzK_nil, frz_nil, mkSl_lst, D.isMut, R.bind_ok, R.bind_no, dec_true, decide_eq_true_eq, decide_eq_false_iff_not, Bool.not_eq_true', Bool.decide_eq_true, Bool.not_eq_eq_eq_not, List.map_cons, List.map_nil, List.length_cons, List.length_nil, List.replicate_succ, List.replicate_zero, List.cons_append, List.nil_append, List.append_nil, List.getElem?_cons_zero, List.getElem?_cons_succ, List.set_cons_zero, List.set_cons_succ, List.all_cons, List.all_nil, Bool.and_true, Bool.true_and, Bool.and_self, Bool.not_true, Bool.not_false, Bool.false_eq_true, Bool.true_eq_false, if_true, if_false, ite_true, ite_false, reduceIte, Nat.add_sub_cancel, Nat.reduceSub, Nat.reduceAdd, Nat.sub_self, Nat.zero_add, Int.reduceLT, Int.reduceLE, Int.reduceEq, Int.reduceAdd, Int.reduceSub, Int.reduceMul, Int.reduceNeg, Int.reduceMod, Int.reduceDiv, Nat.zero_le, isiD_lst, isiD_int_int, isiD_int_bool, isiD_bl_bool, isiD_tup, decide_true, decide_false, nons_oD, List.length_map, List.length_replicate]
  rw [if_pos (by rw [szL]; omega)]
  simp -implicitDefEqProofs only [runF_e, sSeq_e, thn_nx, thn_rt, thn_ex, thn_ct, thn_bk, toR_rt, toR_nx, toR_ex, st_ok, st_ex, st_bind, bind_bind, RQ_ok, OQ_nx, OQ_ct, OQ_bk, OQ_rt, NQ_nx, sNil, sRet_e, sRetO_q, retK_ow, retK_sh, sRetN, sExp_e, sIf_e, sSh_e, sOw_e, sMut_q, mutK_ow, mutK2_some, sSetIx_q, setK_ow, setK2_some, sAug_q, augK_sh, augK2_int, sAugIx_q, agxK_ow, agxK0_int, agxK1_some, agxK2_int, agxK3_some, sTup_q, tupK_some, sFor_e, sNo, sBk, sCt, eV_q, eO_q, slV_sh, slO_sh, slO_ow, eC, eBin, ofO_some, asB_bl, tE, tNotD, tAndD, tOrD, eAnd, eOr, eNot, eIf, eChain, tTru, truD, aNil, aCons, eTup, eLst, oNone, oSome, asI, eSl, sliceD, eCall, eFn, eFnK, eComp, okOwn_q, slOk_sh, slOk_no, slOk_none, wipeD, noX, tYesD, itSeq_q, seqK_lst, seqK_tup, seqK_scr, itRange1_q, rng1K_e, itRange2_q, rng2K_e, itEnum_q, enmK_e, itZip_q, zipK_e, bindP, binds, eNeg, eIsi, addD, subD, mulD, fdivD, modD, powD, iop, cmpI, isND, notND, D.isN, idxD, lenD, listD, tupleD, appD_lst, setD_lst, mutK2_ite, D.isL, max2D, min2D, absD, PD.intD, D.ty, frz_cons, frz1_q, frzS_ow, frzS_sh, frzS_no, frzD_lst, frzD_int, frzD_nil, frzK_nil, frz_nil, mkSl_lst, D.isMut, R.bind_ok, R.bind_no, dec_true, decide_eq_true_eq, decide_eq_false_iff_not, Bool.not_eq_true', Bool.decide_eq_true, Bool.not_eq_eq_eq_not, List.map_cons, List.map_nil, List.length_cons, List.length_nil, List.replicate_succ, List.replicate_zero, List.cons_append, List.nil_append, List.append_nil, List.getElem?_cons_zero, List.getElem?_cons_succ, List.set_cons_zero, List.set_cons_succ, List.all_cons, List.all_nil, Bool.and_true, Bool.true_and, Bool.and_self, Bool.not_true, Bool.not_false, Bool.false_eq_true, Bool.true_eq_false, if_true, if_false, ite_true, ite_false, reduceIte, Nat.add_sub_cancel, Nat.reduceSub, Nat.reduceAdd, Nat.sub_self, Nat.zero_add, Int.reduceLT, Int.reduceLE, Int.reduceEq, Int.reduceAdd, Int.reduceSub, Int.reduceMul, Int.reduceNeg, Int.reduceMod, Int.reduceDiv, Nat.zero_le, isiD_lst, isiD_int_int, isiD_int_bool, isiD_bl_bool, isiD_tup, decide_true, decide_false, show small62 1 = true from rfl, show small62 ((a : Int) + 1) = true from small62_of (by omega) (by omega), Bool.and_self]
  rw [rangeD_eq]
  refine forQ (C := fun o => RQ (o.thn _).toR _) (fun i ρ => ∃ (x3 x4 x5 : Sl) (T : List (Option Nat)), ρ = [.sh (Nats S), .sh (.int a), .ow (Tab T), x3, x4, x5] ∧ Part S a i T ∧ slOk (some x5) = true) ⟨.no, .no, .no, some 0 :: List.replicate a none, rfl, ⟨by simp, fun r o hr h => ?_, fun r o hr h => ?_⟩, rfl⟩ ?_ ?_
  · obtain rfl : r = 0 := by omega
    cases h
    exact ⟨fil_zero S, fun _ _ => Nat.zero_le _⟩
  · obtain ⟨r, rfl⟩ : ∃ k, r = k + 1 := ⟨r - 1, by omega⟩
    rw [List.getElem?_cons_succ] at h
    exact List.eq_of_mem_replicate (List.mem_of_getElem? h)
  · rintro i x ρ hx ⟨x3, x4, x5, T, rfl, hT, hx5⟩
    refine ⟨_, rfl, ?_⟩
    have hi : i < a := by
      have := (List.getElem?_eq_some_iff.mp hx).1
      simp at this; omega
    have hx : x = ((i + 1 : Nat) : Int) := by
      rw [List.getElem?_map, List.getElem?_range (by omega)] at hx
      have := Option.some.inj hx
      simp only at this
      omega
    subst hx
    simp -implicitDefEqProofs only [runF_e, sSeq_e, thn_nx, thn_rt, thn_ex, thn_ct, thn_bk, toR_rt, toR_nx, toR_ex, st_ok, st_ex, st_bind, bind_bind, RQ_ok, OQ_nx, OQ_ct, OQ_bk, OQ_rt, NQ_nx, sNil, sRet_e, sRetO_q, retK_ow, retK_sh, sRetN, sExp_e, sIf_e, sSh_e, sOw_e, sMut_q, mutK_ow, mutK2_some, sSetIx_q, setK_ow, setK2_some, sAug_q, augK_sh, augK2_int, sAugIx_q, agxK_ow, agxK0_int, agxK1_some, agxK2_int, agxK3_some, sTup_q, tupK_some, sFor_e, sNo, sBk, sCt, eV_q, eO_q, slV_sh, slO_sh, slO_ow, eC, eBin, ofO_some, asB_bl, tE, tNotD, tAndD, tOrD, eAnd, eOr, eNot, eIf, eChain, tTru, truD, aNil, aCons, eTup, eLst, oNone, oSome, asI, eSl, sliceD, eCall, eFn, eFnK, eComp, okOwn_q, slOk_sh, slOk_no, slOk_none, wipeD, noX, tYesD, itSeq_q, seqK_lst, seqK_tup, seqK_scr, itRange1_q, rng1K_e, itRange2_q, rng2K_e, itEnum_q, enmK_e, itZip_q, zipK_e, bindP, binds, eNeg, eIsi, addD, subD, mulD, fdivD, modD, powD, iop, cmpI, isND, notND, D.isN, idxD, lenD, listD, tupleD, appD_lst, setD_lst, mutK2_ite, D.isL, max2D, min2D, absD, PD.intD, D.ty, frz_cons, frz1_q, frzS_ow, frzS_sh, frzS_no, frzD_lst, frzD_int, frzD_nil, frzK_nil, frz_nil, mkSl_lst, D.isMut, R.bind_ok, R.bind_no, dec_true, decide_eq_true_eq, decide_eq_false_iff_not, Bool.not_eq_true', Bool.decide_eq_true, Bool.not_eq_eq_eq_not, List.map_cons, List.map_nil, List.length_cons, List.length_nil, List.replicate_succ, List.replicate_zero, List.cons_append, List.nil_append, List.append_nil, List.getElem?_cons_zero, List.getElem?_cons_succ, List.set_cons_zero, List.set_cons_succ, List.all_cons, List.all_nil, Bool.and_true, Bool.true_and, Bool.and_self, Bool.not_true, Bool.not_false, Bool.false_eq_true, Bool.true_eq_false, if_true, if_false, ite_true, ite_false, reduceIte, Nat.add_sub_cancel, Nat.reduceSub, Nat.reduceAdd, Nat.sub_self, Nat.zero_add, Int.reduceLT, Int.reduceLE, Int.reduceEq, Int.reduceAdd, Int.reduceSub, Int.reduceMul, Int.reduceNeg, Int.reduceMod, Int.reduceDiv, Nat.zero_le, isiD_lst, isiD_int_int, isiD_int_bool, isiD_bl_bool, isiD_tup, decide_true, decide_false, hx5]
    have hat : ∀ s, s ≤ i + 1 → atI (T.map oD) (((i + 1 : Nat) : Int) - (s : Int)) = some (oD (T.getD (i + 1 - s) none)) := fun s hs => by
      have hlen := hT.len
      rw [show (((i + 1 : Nat) : Int) - (s : Int)) = ((i + 1 - s : Nat) : Int) by omega, atI_natI (by omega) (by rw [List.length_map]; omega), List.getElem?_map, List.getD_eq_getElem?_getD, Int.toNat_natCast, List.getElem?_eq_getElem (by omega)]; rfl
    rw [compD_map (fun s : Nat => D.int s) (fun s => decide (s ≤ i + 1) && (T.getD (i + 1 - s) none).isSome) (fun s => D.int (((T.getD (i + 1 - s) none).getD 0 : Nat) : Int)) S fun s hs => ⟨_, rfl, by
      simp -implicitDefEqProofs only [runF_e, sSeq_e, thn_nx, thn_rt, thn_ex, thn_ct, thn_bk, toR_rt, toR_nx, toR_ex, st_ok, st_ex, st_bind, bind_bind, RQ_ok, OQ_nx, OQ_ct, OQ_bk, OQ_rt, NQ_nx, sNil, sRet_e, sRetO_q, retK_ow, retK_sh, sRetN, sExp_e, sIf_e, sSh_e, sOw_e, sMut_q, mutK_ow, mutK2_some, sSetIx_q, setK_ow, setK2_some, sAug_q, augK_sh, augK2_int, sAugIx_q, agxK_ow, agxK0_int, agxK1_some, agxK2_int, agxK3_some, sTup_q, tupK_some, sFor_e, sNo, sBk, sCt, eV_q, eO_q, slV_sh, slO_sh, slO_ow, eC, eBin, ofO_some, asB_bl, tE, tNotD, tAndD, tOrD, eAnd, eOr, eNot, eIf, eChain, tTru, truD, aNil, aCons, eTup, eLst, oNone, oSome, asI, eSl, sliceD, eCall, eFn, eFnK, eComp, okOwn_q, slOk_sh, slOk_no, slOk_none, wipeD, noX, tYesD, itSeq_q, seqK_lst, seqK_tup, seqK_scr, itRange1_q, rng1K_e, itRange2_q, rng2K_e, itEnum_q, enmK_e, itZip_q, zipK_e, bindP, binds, eNeg, eIsi, addD, subD, mulD, fdivD, modD, powD, iop, cmpI, isND, notND, D.isN, idxD, lenD, listD, tupleD, appD_lst, setD_lst, mutK2_ite, D.isL, max2D, min2D, absD, PD.intD, D.ty, frz_cons, frz1_q, frzS_ow, frzS_sh, frzS_no, frzD_lst, frzD_int, frzD_nil, frzK_nil, frz_nil, mkSl_lst, D.isMut, R.bind_ok, R.bind_no, dec_true, decide_eq_true_eq, decide_eq_false_iff_not, Bool.not_eq_true', Bool.decide_eq_true, Bool.not_eq_eq_eq_not, List.map_cons, List.map_nil, List.length_cons, List.length_nil, List.replicate_succ, List.replicate_zero, List.cons_append, List.nil_append, List.append_nil, List.getElem?_cons_zero, List.getElem?_cons_succ, List.set_cons_zero, List.set_cons_succ, List.all_cons, List.all_nil, Bool.and_true, Bool.true_and, Bool.and_self, Bool.not_true, Bool.not_false, Bool.false_eq_true, Bool.true_eq_false, if_true, if_false, ite_true, ite_false, reduceIte, Nat.add_sub_cancel, Nat.reduceSub, Nat.reduceAdd, Nat.sub_self, Nat.zero_add, Int.reduceLT, Int.reduceLE, Int.reduceEq, Int.reduceAdd, Int.reduceSub, Int.reduceMul, Int.reduceNeg, Int.reduceMod, Int.reduceDiv, Nat.zero_le, isiD_lst, isiD_int_int, isiD_int_bool, isiD_bl_bool, isiD_tup, decide_true, decide_false]
      by_cases hc : s ≤ i + 1
      · rw [if_pos (by omega), hat s hc]
        simp -implicitDefEqProofs only [runF_e, sSeq_e, thn_nx, thn_rt, thn_ex, thn_ct, thn_bk, toR_rt, toR_nx, toR_ex, st_ok, st_ex, st_bind, bind_bind, RQ_ok, OQ_nx, OQ_ct, OQ_bk, OQ_rt, NQ_nx, sNil, sRet_e, sRetO_q, retK_ow, retK_sh, sRetN, sExp_e, sIf_e, sSh_e, sOw_e, sMut_q, mutK_ow, mutK2_some, sSetIx_q, setK_ow, setK2_some, sAug_q, augK_sh, augK2_int, sAugIx_q, agxK_ow, agxK0_int, agxK1_some, agxK2_int, agxK3_some, sTup_q, tupK_some, sFor_e, sNo, sBk, sCt, eV_q, eO_q, slV_sh, slO_sh, slO_ow, eC, eBin, ofO_some, asB_bl, tE, tNotD, tAndD, tOrD, eAnd, eOr, eNot, eIf, eChain, tTru, truD, aNil, aCons, eTup, eLst, oNone, oSome, asI, eSl, sliceD, eCall, eFn, eFnK, eComp, okOwn_q, slOk_sh, slOk_no, slOk_none, wipeD, noX, tYesD, itSeq_q, seqK_lst, seqK_tup, seqK_scr, itRange1_q, rng1K_e, itRange2_q, rng2K_e, itEnum_q, enmK_e, itZip_q, zipK_e, bindP, binds, eNeg, eIsi, addD, subD, mulD, fdivD, modD, powD, iop, cmpI, isND, notND, D.isN, idxD, lenD, listD, tupleD, appD_lst, setD_lst, mutK2_ite, D.isL, max2D, min2D, absD, PD.intD, D.ty, frz_cons, frz1_q, frzS_ow, frzS_sh, frzS_no, frzD_lst, frzD_int, frzD_nil, frzK_nil, frz_nil, mkSl_lst, D.isMut, R.bind_ok, R.bind_no, dec_true, decide_eq_true_eq, decide_eq_false_iff_not, Bool.not_eq_true', Bool.decide_eq_true, Bool.not_eq_eq_eq_not, List.map_cons, List.map_nil, List.length_cons, List.length_nil, List.replicate_succ, List.replicate_zero, List.cons_append, List.nil_append, List.append_nil, List.getElem?_cons_zero, List.getElem?_cons_succ, List.set_cons_zero, List.set_cons_succ, List.all_cons, List.all_nil, Bool.and_true, Bool.true_and, Bool.and_self, Bool.not_true, Bool.not_false, Bool.false_eq_true, Bool.true_eq_false, if_true, if_false, ite_true, ite_false, reduceIte, Nat.add_sub_cancel, Nat.reduceSub, Nat.reduceAdd, Nat.sub_self, Nat.zero_add, Int.reduceLT, Int.reduceLE, Int.reduceEq, Int.reduceAdd, Int.reduceSub, Int.reduceMul, Int.reduceNeg, Int.reduceMod, Int.reduceDiv, Nat.zero_le, isiD_lst, isiD_int_int, isiD_int_bool, isiD_bl_bool, isiD_tup, decide_true, decide_false]
        rw [decide_eq_true hc, Bool.true_and]
        cases T.getD (i + 1 - s) none <;> rfl
      · rw [if_neg (by omega), decide_eq_false hc]; rfl, fun hc => by
      rw [Bool.and_eq_true] at hc
      have hc1 : s ≤ i + 1 := by simpa using hc.1
      simp -implicitDefEqProofs only [runF_e, sSeq_e, thn_nx, thn_rt, thn_ex, thn_ct, thn_bk, toR_rt, toR_nx, toR_ex, st_ok, st_ex, st_bind, bind_bind, RQ_ok, OQ_nx, OQ_ct, OQ_bk, OQ_rt, NQ_nx, sNil, sRet_e, sRetO_q, retK_ow, retK_sh, sRetN, sExp_e, sIf_e, sSh_e, sOw_e, sMut_q, mutK_ow, mutK2_some, sSetIx_q, setK_ow, setK2_some, sAug_q, augK_sh, augK2_int, sAugIx_q, agxK_ow, agxK0_int, agxK1_some, agxK2_int, agxK3_some, sTup_q, tupK_some, sFor_e, sNo, sBk, sCt, eV_q, eO_q, slV_sh, slO_sh, slO_ow, eC, eBin, ofO_some, asB_bl, tE, tNotD, tAndD, tOrD, eAnd, eOr, eNot, eIf, eChain, tTru, truD, aNil, aCons, eTup, eLst, oNone, oSome, asI, eSl, sliceD, eCall, eFn, eFnK, eComp, okOwn_q, slOk_sh, slOk_no, slOk_none, wipeD, noX, tYesD, itSeq_q, seqK_lst, seqK_tup, seqK_scr, itRange1_q, rng1K_e, itRange2_q, rng2K_e, itEnum_q, enmK_e, itZip_q, zipK_e, bindP, binds, eNeg, eIsi, addD, subD, mulD, fdivD, modD, powD, iop, cmpI, isND, notND, D.isN, idxD, lenD, listD, tupleD, appD_lst, setD_lst, mutK2_ite, D.isL, max2D, min2D, absD, PD.intD, D.ty, frz_cons, frz1_q, frzS_ow, frzS_sh, frzS_no, frzD_lst, frzD_int, frzD_nil, frzK_nil, frz_nil, mkSl_lst, D.isMut, R.bind_ok, R.bind_no, dec_true, decide_eq_true_eq, decide_eq_false_iff_not, Bool.not_eq_true', Bool.decide_eq_true, Bool.not_eq_eq_eq_not, List.map_cons, List.map_nil, List.length_cons, List.length_nil, List.replicate_succ, List.replicate_zero, List.cons_append, List.nil_append, List.append_nil, List.getElem?_cons_zero, List.getElem?_cons_succ, List.set_cons_zero, List.set_cons_succ, List.all_cons, List.all_nil, Bool.and_true, Bool.true_and, Bool.and_self, Bool.not_true, Bool.not_false, Bool.false_eq_true, Bool.true_eq_false, if_true, if_false, ite_true, ite_false, reduceIte, Nat.add_sub_cancel, Nat.reduceSub, Nat.reduceAdd, Nat.sub_self, Nat.zero_add, Int.reduceLT, Int.reduceLE, Int.reduceEq, Int.reduceAdd, Int.reduceSub, Int.reduceMul, Int.reduceNeg, Int.reduceMod, Int.reduceDiv, Nat.zero_le, isiD_lst, isiD_int_int, isiD_int_bool, isiD_bl_bool, isiD_tup, decide_true, decide_false]
      rw [hat s hc1]
      simp -implicitDefEqProofs only [runF_e, sSeq_e, thn_nx, thn_rt, thn_ex, thn_ct, thn_bk, toR_rt, toR_nx, toR_ex, st_ok, st_ex, st_bind, bind_bind, RQ_ok, OQ_nx, OQ_ct, OQ_bk, OQ_rt, NQ_nx, sNil, sRet_e, sRetO_q, retK_ow, retK_sh, sRetN, sExp_e, sIf_e, sSh_e, sOw_e, sMut_q, mutK_ow, mutK2_some, sSetIx_q, setK_ow, setK2_some, sAug_q, augK_sh, augK2_int, sAugIx_q, agxK_ow, agxK0_int, agxK1_some, agxK2_int, agxK3_some, sTup_q, tupK_some, sFor_e, sNo, sBk, sCt, eV_q, eO_q, slV_sh, slO_sh, slO_ow, eC, eBin, ofO_some, asB_bl, tE, tNotD, tAndD, tOrD, eAnd, eOr, eNot, eIf, eChain, tTru, truD, aNil, aCons, eTup, eLst, oNone, oSome, asI, eSl, sliceD, eCall, eFn, eFnK, eComp, okOwn_q, slOk_sh, slOk_no, slOk_none, wipeD, noX, tYesD, itSeq_q, seqK_lst, seqK_tup, seqK_scr, itRange1_q, rng1K_e, itRange2_q, rng2K_e, itEnum_q, enmK_e, itZip_q, zipK_e, bindP, binds, eNeg, eIsi, addD, subD, mulD, fdivD, modD, powD, iop, cmpI, isND, notND, D.isN, idxD, lenD, listD, tupleD, appD_lst, setD_lst, mutK2_ite, D.isL, max2D, min2D, absD, PD.intD, D.ty, frz_cons, frz1_q, frzS_ow, frzS_sh, frzS_no, frzD_lst, frzD_int, frzD_nil, frzK_nil, frz_nil, mkSl_lst, D.isMut, R.bind_ok, R.bind_no, dec_true, decide_eq_true_eq, decide_eq_false_iff_not, Bool.not_eq_true', Bool.decide_eq_true, Bool.not_eq_eq_eq_not, List.map_cons, List.map_nil, List.length_cons, List.length_nil, List.replicate_succ, List.replicate_zero, List.cons_append, List.nil_append, List.append_nil, List.getElem?_cons_zero, List.getElem?_cons_succ, List.set_cons_zero, List.set_cons_succ, List.all_cons, List.all_nil, Bool.and_true, Bool.true_and, Bool.and_self, Bool.not_true, Bool.not_false, Bool.false_eq_true, Bool.true_eq_false, if_true, if_false, ite_true, ite_false, reduceIte, Nat.add_sub_cancel, Nat.reduceSub, Nat.reduceAdd, Nat.sub_self, Nat.zero_add, Int.reduceLT, Int.reduceLE, Int.reduceEq, Int.reduceAdd, Int.reduceSub, Int.reduceMul, Int.reduceNeg, Int.reduceMod, Int.reduceDiv, Nat.zero_le, isiD_lst, isiD_int_int, isiD_int_bool, isiD_bl_bool, isiD_tup, decide_true, decide_false]
      cases e : T.getD (i + 1 - s) none with
      | none => rw [e] at hc; cases hc.2
      | some k => rfl⟩]
    have hfl : (S.filter fun s => decide (s ≤ i + 1) && (T.getD (i + 1 - s) none).isSome).length ≤ 8 := Nat.le_trans (List.length_filter_le _ _) hl
    simp -implicitDefEqProofs only [runF_e, sSeq_e, thn_nx, thn_rt, thn_ex, thn_ct, thn_bk, toR_rt, toR_nx, toR_ex, st_ok, st_ex, st_bind, bind_bind, RQ_ok, OQ_nx, OQ_ct, OQ_bk, OQ_rt, NQ_nx, sNil, sRet_e, sRetO_q, retK_ow, retK_sh, sRetN, sExp_e, sIf_e, sSh_e, sOw_e, sMut_q, mutK_ow, mutK2_some, sSetIx_q, setK_ow, setK2_some, sAug_q, augK_sh, augK2_int, sAugIx_q, agxK_ow, agxK0_int, agxK1_some, agxK2_int, agxK3_some, sTup_q, tupK_some, sFor_e, sNo, sBk, sCt, eV_q, eO_q, slV_sh, slO_sh, slO_ow, eC, eBin, ofO_some, asB_bl, tE, tNotD, tAndD, tOrD, eAnd, eOr, eNot, eIf, eChain, tTru, truD, aNil, aCons, eTup, eLst, oNone, oSome, asI, eSl, sliceD, eCall, eFn, eFnK, eComp, okOwn_q, slOk_sh, slOk_no, slOk_none, wipeD, noX, tYesD, itSeq_q, seqK_lst, seqK_tup, seqK_scr, itRange1_q, rng1K_e, itRange2_q, rng2K_e, itEnum_q, enmK_e, itZip_q, zipK_e, bindP, binds, eNeg, eIsi, addD, subD, mulD, fdivD, modD, powD, iop, cmpI, isND, notND, D.isN, idxD, lenD, listD, tupleD, appD_lst, setD_lst, mutK2_ite, D.isL, max2D, min2D, absD, PD.intD, D.ty, frz_cons, frz1_q, frzS_ow, frzS_sh, frzS_no, frzD_lst, frzD_int, frzD_nil, frzK_nil, frz_nil, mkSl_lst, D.isMut, R.bind_ok, R.bind_no, dec_true, decide_eq_true_eq, decide_eq_false_iff_not, Bool.not_eq_true', Bool.decide_eq_true, Bool.not_eq_eq_eq_not, List.map_cons, List.map_nil, List.length_cons, List.length_nil, List.replicate_succ, List.replicate_zero, List.cons_append, List.nil_append, List.append_nil, List.getElem?_cons_zero, List.getElem?_cons_succ, List.set_cons_zero, List.set_cons_succ, List.all_cons, List.all_nil, Bool.and_true, Bool.true_and, Bool.and_self, Bool.not_true, Bool.not_false, Bool.false_eq_true, Bool.true_eq_false, if_true, if_false, ite_true, ite_false, reduceIte, Nat.add_sub_cancel, Nat.reduceSub, Nat.reduceAdd, Nat.sub_self, Nat.zero_add, Int.reduceLT, Int.reduceLE, Int.reduceEq, Int.reduceAdd, Int.reduceSub, Int.reduceMul, Int.reduceNeg, Int.reduceMod, Int.reduceDiv, Nat.zero_le, isiD_lst, isiD_int_int, isiD_int_bool, isiD_bl_bool, isiD_tup, decide_true, decide_false, List.length_map]
    rw [if_pos (by rw [szL]; omega)]
    simp -implicitDefEqProofs only [runF_e, sSeq_e, thn_nx, thn_rt, thn_ex, thn_ct, thn_bk, toR_rt, toR_nx, toR_ex, st_ok, st_ex, st_bind, bind_bind, RQ_ok, OQ_nx, OQ_ct, OQ_bk, OQ_rt, NQ_nx, sNil, sRet_e, sRetO_q, retK_ow, retK_sh, sRetN, sExp_e, sIf_e, sSh_e, sOw_e, sMut_q, mutK_ow, mutK2_some, sSetIx_q, setK_ow, setK2_some, sAug_q, augK_sh, augK2_int, sAugIx_q, agxK_ow, agxK0_int, agxK1_some, agxK2_int, agxK3_some, sTup_q, tupK_some, sFor_e, sNo, sBk, sCt, eV_q, eO_q, slV_sh, slO_sh, slO_ow, eC, eBin, ofO_some, asB_bl, tE, tNotD, tAndD, tOrD, eAnd, eOr, eNot, eIf, eChain, tTru, truD, aNil, aCons, eTup, eLst, oNone, oSome, asI, eSl, sliceD, eCall, eFn, eFnK, eComp, okOwn_q, slOk_sh, slOk_no, slOk_none, wipeD, noX, tYesD, itSeq_q, seqK_lst, seqK_tup, seqK_scr, itRange1_q, rng1K_e, itRange2_q, rng2K_e, itEnum_q, enmK_e, itZip_q, zipK_e, bindP, binds, eNeg, eIsi, addD, subD, mulD, fdivD, modD, powD, iop, cmpI, isND, notND, D.isN, idxD, lenD, listD, tupleD, appD_lst, setD_lst, mutK2_ite, D.isL, max2D, min2D, absD, PD.intD, D.ty, frz_cons, frz1_q, frzS_ow, frzS_sh, frzS_no, frzD_lst, frzD_int, frzD_nil, frzK_nil, frz_nil, mkSl_lst, D.isMut, R.bind_ok, R.bind_no, dec_true, decide_eq_true_eq, decide_eq_false_iff_not, Bool.not_eq_true', Bool.decide_eq_true, Bool.not_eq_eq_eq_not, List.map_cons, List.map_nil, List.length_cons, List.length_nil, List.replicate_succ, List.replicate_zero, List.cons_append, List.nil_append, List.append_nil, List.getElem?_cons_zero, List.getElem?_cons_succ, List.set_cons_zero, List.set_cons_succ, List.all_cons, List.all_nil, Bool.and_true, Bool.true_and, Bool.and_self, Bool.not_true, Bool.not_false, Bool.false_eq_true, Bool.true_eq_false, if_true, if_false, ite_true, ite_false, reduceIte, Nat.add_sub_cancel, Nat.reduceSub, Nat.reduceAdd, Nat.sub_self, Nat.zero_add, Int.reduceLT, Int.reduceLE, Int.reduceEq, Int.reduceAdd, Int.reduceSub, Int.reduceMul, Int.reduceNeg, Int.reduceMod, Int.reduceDiv, Nat.zero_le, isiD_lst, isiD_int_int, isiD_int_bool, isiD_bl_bool, isiD_tup, decide_true, decide_false]
    generalize hL : ((S.filter fun s => decide (s ≤ i + 1) && (T.getD (i + 1 - s) none).isSome).map fun s => (T.getD (i + 1 - s) none).getD 0) = L
    have hL2 : ((S.filter fun s => decide (s ≤ i + 1) && (T.getD (i + 1 - s) none).isSome).map fun s => D.int (((T.getD (i + 1 - s) none).getD 0 : Nat) : Int)) = L.map fun s : Nat => D.int s := by rw [← hL, List.map_map]; rfl
    rw [hL2]
    have hmem : ∀ k, k ∈ L ↔ ∃ s ∈ S, s ≤ i + 1 ∧ IsMin (Fil S (i + 1 - s)) (some k) := by
      intro k
      rw [← hL, List.mem_map]
      constructor
      · rintro ⟨s, hs, e⟩
        rw [List.mem_filter, Bool.and_eq_true] at hs
        have hs2 : s ≤ i + 1 := by simpa using hs.2.1
        have h0 := hS s hs.1
        obtain ⟨o, h3, h4⟩ := hT.get (r := i + 1 - s) (by omega) (by omega)
        rw [List.getD_eq_getElem?_getD, h3] at e hs
        cases o with
        | none => cases hs.2.2
        | some j =>
          have e : j = k := e
          subst e
          exact ⟨s, hs.1, hs2, h4⟩
      · rintro ⟨s, hs, hs2, hm⟩
        have h0 := hS s hs
        obtain ⟨o, h3, h4⟩ := hT.get (r := i + 1 - s) (by omega) (by omega)
        have := h4.uniq hm
        subst this
        refine ⟨s, List.mem_filter.mpr ⟨hs, ?_⟩, by rw [List.getD_eq_getElem?_getD, h3]; rfl⟩
        rw [List.getD_eq_getElem?_getD, h3, decide_eq_true hs2]; rfl
    by_cases he : L = []
    · subst he
      rw [List.map_nil]
      simp -implicitDefEqProofs only [runF_e, sSeq_e, thn_nx, thn_rt, thn_ex, thn_ct, thn_bk, toR_rt, toR_nx, toR_ex, st_ok, st_ex, st_bind, bind_bind, RQ_ok, OQ_nx, OQ_ct, OQ_bk, OQ_rt, NQ_nx, sNil, sRet_e, sRetO_q, retK_ow, retK_sh, sRetN, sExp_e, sIf_e, sSh_e, sOw_e, sMut_q, mutK_ow, mutK2_some, sSetIx_q, setK_ow, setK2_some, sAug_q, augK_sh, augK2_int, sAugIx_q, agxK_ow, agxK0_int, agxK1_some, agxK2_int, agxK3_some, sTup_q, tupK_some, sFor_e, sNo, sBk, sCt, eV_q, eO_q, slV_sh, slO_sh, slO_ow, eC, eBin, ofO_some, asB_bl, tE, tNotD, tAndD, tOrD, eAnd, eOr, eNot, eIf, eChain, tTru, truD, aNil, aCons, eTup, eLst, oNone, oSome, asI, eSl, sliceD, eCall, eFn, eFnK, eComp, okOwn_q, slOk_sh, slOk_no, slOk_none, wipeD, noX, tYesD, itSeq_q, seqK_lst, seqK_tup, seqK_scr, itRange1_q, rng1K_e, itRange2_q, rng2K_e, itEnum_q, enmK_e, itZip_q, zipK_e, bindP, binds, eNeg, eIsi, addD, subD, mulD, fdivD, modD, powD, iop, cmpI, isND, notND, D.isN, idxD, lenD, listD, tupleD, appD_lst, setD_lst, mutK2_ite, D.isL, max2D, min2D, absD, PD.intD, D.ty, frz_cons, frz1_q, frzS_ow, frzS_sh, frzS_no, frzD_lst, frzD_int, frzD_nil, frzK_nil, frz_nil, mkSl_lst, D.isMut, R.bind_ok, R.bind_no, dec_true, decide_eq_true_eq, decide_eq_false_iff_not, Bool.not_eq_true', Bool.decide_eq_true, Bool.not_eq_eq_eq_not, List.map_cons, List.map_nil, List.length_cons, List.length_nil, List.replicate_succ, List.replicate_zero, List.cons_append, List.nil_append, List.append_nil, List.getElem?_cons_zero, List.getElem?_cons_succ, List.set_cons_zero, List.set_cons_succ, List.all_cons, List.all_nil, Bool.and_true, Bool.true_and, Bool.and_self, Bool.not_true, Bool.not_false, Bool.false_eq_true, Bool.true_eq_false, if_true, if_false, ite_true, ite_false, reduceIte, Nat.add_sub_cancel, Nat.reduceSub, Nat.reduceAdd, Nat.sub_self, Nat.zero_add, Int.reduceLT, Int.reduceLE, Int.reduceEq, Int.reduceAdd, Int.reduceSub, Int.reduceMul, Int.reduceNeg, Int.reduceMod, Int.reduceDiv, Nat.zero_le, isiD_lst, isiD_int_int, isiD_int_bool, isiD_bl_bool, isiD_tup, decide_true, decide_false, List.isEmpty_nil]
      refine ⟨_, _, _, T, rfl, ⟨hT.len, fun r o hr h => ?_, fun r o hr h => hT.rest r o (by omega) h⟩, hx5⟩
      rcases Nat.lt_or_ge i r with h1 | h1
      · obtain rfl : r = i + 1 := by omega
        rw [hT.rest _ o (by omega) h]
        have := isMin_step (S := S) (r := i + 1) (o := none) (by omega) fun k hk => by
          have := (hmem k).mpr hk
          cases this
        exact this
      · exact hT.at_ r o h1 h
    · rw [if_pos (by cases L with | nil => exact absurd rfl he | cons _ _ => rfl)]
      obtain ⟨k, h1, h2, h3⟩ := minU_o L he
      have h1 : minU [D.lst (L.map fun s : Nat => D.int s)] = some (.int (k : Nat)) := h1
      simp -implicitDefEqProofs only [runF_e, sSeq_e, thn_nx, thn_rt, thn_ex, thn_ct, thn_bk, toR_rt, toR_nx, toR_ex, st_ok, st_ex, st_bind, bind_bind, RQ_ok, OQ_nx, OQ_ct, OQ_bk, OQ_rt, NQ_nx, sNil, sRet_e, sRetO_q, retK_ow, retK_sh, sRetN, sExp_e, sIf_e, sSh_e, sOw_e, sMut_q, mutK_ow, mutK2_some, sSetIx_q, setK_ow, setK2_some, sAug_q, augK_sh, augK2_int, sAugIx_q, agxK_ow, agxK0_int, agxK1_some, agxK2_int, agxK3_some, sTup_q, tupK_some, sFor_e, sNo, sBk, sCt, eV_q, eO_q, slV_sh, slO_sh, slO_ow, eC, eBin, ofO_some, asB_bl, tE, tNotD, tAndD, tOrD, eAnd, eOr, eNot, eIf, eChain, tTru, truD, aNil, aCons, eTup, eLst, oNone, oSome, asI, eSl, sliceD, eCall, eFn, eFnK, eComp, okOwn_q, slOk_sh, slOk_no, slOk_none, wipeD, noX, tYesD, itSeq_q, seqK_lst, seqK_tup, seqK_scr, itRange1_q, rng1K_e, itRange2_q, rng2K_e, itEnum_q, enmK_e, itZip_q, zipK_e, bindP, binds, eNeg, eIsi, addD, subD, mulD, fdivD, modD, powD, iop, cmpI, isND, notND, D.isN, idxD, lenD, listD, tupleD, appD_lst, setD_lst, mutK2_ite, D.isL, max2D, min2D, absD, PD.intD, D.ty, frz_cons, frz1_q, frzS_ow, frzS_sh, frzS_no, frzD_lst, frzD_int, frzD_nil, frzK_nil, frz_nil, mkSl_lst, D.isMut, R.bind_ok, R.bind_no, dec_true, decide_eq_true_eq, decide_eq_false_iff_not, Bool.not_eq_true', Bool.decide_eq_true, Bool.not_eq_eq_eq_not, List.map_cons, List.map_nil, List.length_cons, List.length_nil, List.replicate_succ, List.replicate_zero, List.cons_append, List.nil_append, List.append_nil, List.getElem?_cons_zero, List.getElem?_cons_succ, List.set_cons_zero, List.set_cons_succ, List.all_cons, List.all_nil, Bool.and_true, Bool.true_and, Bool.and_self, Bool.not_true, Bool.not_false, Bool.false_eq_true, Bool.true_eq_false, if_true, if_false, ite_true, ite_false, reduceIte, Nat.add_sub_cancel, Nat.reduceSub, Nat.reduceAdd, Nat.sub_self, Nat.zero_add, Int.reduceLT, Int.reduceLE, Int.reduceEq, Int.reduceAdd, Int.reduceSub, Int.reduceMul, Int.reduceNeg, Int.reduceMod, Int.reduceDiv, Nat.zero_le, isiD_lst, isiD_int_int, isiD_int_bool, isiD_bl_bool, isiD_tup, decide_true, decide_false, h1]
      rw [show ((i + 1 : Nat) : Int) = ((i + 1 : Nat) : Int) from rfl, ixN_nat (by rw [List.length_map, hT.len]; omega)]
      simp only [Option.map_some]
      simp -implicitDefEqProofs only [runF_e, sSeq_e, thn_nx, thn_rt, thn_ex, thn_ct, thn_bk, toR_rt, toR_nx, toR_ex, st_ok, st_ex, st_bind, bind_bind, RQ_ok, OQ_nx, OQ_ct, OQ_bk, OQ_rt, NQ_nx, sNil, sRet_e, sRetO_q, retK_ow, retK_sh, sRetN, sExp_e, sIf_e, sSh_e, sOw_e, sMut_q, mutK_ow, mutK2_some, sSetIx_q, setK_ow, setK2_some, sAug_q, augK_sh, augK2_int, sAugIx_q, agxK_ow, agxK0_int, agxK1_some, agxK2_int, agxK3_some, sTup_q, tupK_some, sFor_e, sNo, sBk, sCt, eV_q, eO_q, slV_sh, slO_sh, slO_ow, eC, eBin, ofO_some, asB_bl, tE, tNotD, tAndD, tOrD, eAnd, eOr, eNot, eIf, eChain, tTru, truD, aNil, aCons, eTup, eLst, oNone, oSome, asI, eSl, sliceD, eCall, eFn, eFnK, eComp, okOwn_q, slOk_sh, slOk_no, slOk_none, wipeD, noX, tYesD, itSeq_q, seqK_lst, seqK_tup, seqK_scr, itRange1_q, rng1K_e, itRange2_q, rng2K_e, itEnum_q, enmK_e, itZip_q, zipK_e, bindP, binds, eNeg, eIsi, addD, subD, mulD, fdivD, modD, powD, iop, cmpI, isND, notND, D.isN, idxD, lenD, listD, tupleD, appD_lst, setD_lst, mutK2_ite, D.isL, max2D, min2D, absD, PD.intD, D.ty, frz_cons, frz1_q, frzS_ow, frzS_sh, frzS_no, frzD_lst, frzD_int, frzD_nil, frzK_nil, frz_nil, mkSl_lst, D.isMut, R.bind_ok, R.bind_no, dec_true, decide_eq_true_eq, decide_eq_false_iff_not, Bool.not_eq_true', Bool.decide_eq_true, Bool.not_eq_eq_eq_not, List.map_cons, List.map_nil, List.length_cons, List.length_nil, List.replicate_succ, List.replicate_zero, List.cons_append, List.nil_append, List.append_nil, List.getElem?_cons_zero, List.getElem?_cons_succ, List.set_cons_zero, List.set_cons_succ, List.all_cons, List.all_nil, Bool.and_true, Bool.true_and, Bool.and_self, Bool.not_true, Bool.not_false, Bool.false_eq_true, Bool.true_eq_false, if_true, if_false, ite_true, ite_false, reduceIte, Nat.add_sub_cancel, Nat.reduceSub, Nat.reduceAdd, Nat.sub_self, Nat.zero_add, Int.reduceLT, Int.reduceLE, Int.reduceEq, Int.reduceAdd, Int.reduceSub, Int.reduceMul, Int.reduceNeg, Int.reduceMod, Int.reduceDiv, Nat.zero_le, isiD_lst, isiD_int_int, isiD_int_bool, isiD_bl_bool, isiD_tup, decide_true, decide_false]
      refine ⟨.sh (.int ((i + 1 : Nat) : Int)), .sh (.lst (L.map fun s : Nat => D.int s)), x5, T.set (i + 1) (some (k + 1)), ?_, ⟨by rw [List.length_set]; exact hT.len, fun r o hr h => ?_, fun r o hr h => ?_⟩, hx5⟩
      · rw [show (Tab (T.set (i + 1) (some (k + 1)))) = D.lst ((T.map oD).set (i + 1) (D.int (1 + (k : Int)))) by
          unfold Tab
          rw [List.map_set]
          show D.lst ((T.map oD).set (i + 1) (D.int ((k + 1 : Nat) : Int))) = _
          rw [show ((k + 1 : Nat) : Int) = 1 + (k : Int) by omega]]
      · rcases Nat.lt_or_ge i r with h1 | h1
        · obtain rfl : r = i + 1 := by omega
          rw [List.getElem?_set_self (by rw [hT.len]; omega)] at h
          cases h
          have := isMin_step (S := S) (r := i + 1) (o := some k) (by omega) ⟨(hmem k).mp h2, fun j hj => h3 j ((hmem j).mpr hj)⟩
          exact this
        · rw [List.getElem?_set_ne (by omega)] at h
          exact hT.at_ r o h1 h
      · rw [List.getElem?_set_ne (by omega)] at h
        exact hT.rest r o (by omega) h
  · rintro ρ ⟨x3, x4, x5, T, rfl, hT, hx5⟩
    simp -implicitDefEqProofs only [runF_e, sSeq_e, thn_nx, thn_rt, thn_ex, thn_ct, thn_bk, toR_rt, toR_nx, toR_ex, st_ok, st_ex, st_bind, bind_bind, RQ_ok, OQ_nx, OQ_ct, OQ_bk, OQ_rt, NQ_nx, sNil, sRet_e, sRetO_q, retK_ow, retK_sh, sRetN, sExp_e, sIf_e, sSh_e, sOw_e, sMut_q, mutK_ow, mutK2_some, sSetIx_q, setK_ow, setK2_some, sAug_q, augK_sh, augK2_int, sAugIx_q, agxK_ow, agxK0_int, agxK1_some, agxK2_int, agxK3_some, sTup_q, tupK_some, sFor_e, sNo, sBk, sCt, eV_q, eO_q, slV_sh, slO_sh, slO_ow, eC, eBin, ofO_some, asB_bl, tE, tNotD, tAndD, tOrD, eAnd, eOr, eNot, eIf, eChain, tTru, truD, aNil, aCons, eTup, eLst, oNone, oSome, asI, eSl, sliceD, eCall, eFn, eFnK, eComp, okOwn_q, slOk_sh, slOk_no, slOk_none, wipeD, noX, tYesD, itSeq_q, seqK_lst, seqK_tup, seqK_scr, itRange1_q, rng1K_e, itRange2_q, rng2K_e, itEnum_q, enmK_e, itZip_q, zipK_e, bindP, binds, eNeg, eIsi, addD, subD, mulD, fdivD, modD, powD, iop, cmpI, isND, notND, D.isN, idxD, lenD, listD, tupleD, appD_lst, setD_lst, mutK2_ite, D.isL, max2D, min2D, absD, PD.intD, D.ty, frz_cons, frz1_q, frzS_ow, frzS_sh, frzS_no, frzD_lst, frzD_int, frzD_nil, frzK_nil, frz_nil, mkSl_lst, D.isMut, R.bind_ok, R.bind_no, dec_true, decide_eq_true_eq, decide_eq_false_iff_not, Bool.not_eq_true', Bool.decide_eq_true, Bool.not_eq_eq_eq_not, List.map_cons, List.map_nil, List.length_cons, List.length_nil, List.replicate_succ, List.replicate_zero, List.cons_append, List.nil_append, List.append_nil, List.getElem?_cons_zero, List.getElem?_cons_succ, List.set_cons_zero, List.set_cons_succ, List.all_cons, List.all_nil, Bool.and_true, Bool.true_and, Bool.and_self, Bool.not_true, Bool.not_false, Bool.false_eq_true, Bool.true_eq_false, if_true, if_false, ite_true, ite_false, reduceIte, Nat.add_sub_cancel, Nat.reduceSub, Nat.reduceAdd, Nat.sub_self, Nat.zero_add, Int.reduceLT, Int.reduceLE, Int.reduceEq, Int.reduceAdd, Int.reduceSub, Int.reduceMul, Int.reduceNeg, Int.reduceMod, Int.reduceDiv, Nat.zero_le, isiD_lst, isiD_int_int, isiD_int_bool, isiD_bl_bool, isiD_tup, decide_true, decide_false]
    rw [List.length_map, List.length_range, show ((a : Int) + 1 - 1).toNat = a by omega] at hT
    exact ⟨T, rfl, hT.len, fun r o h => hT.at_ r o (by have := (List.getElem?_eq_some_iff.mp h).1; rw [hT.len] at this; omega) h⟩
end K55
namespace K55
open PySem PySem.Spec PyProof.Rows L2 PD
def up (s : Nat) (f : Nat → Nat) (r : Nat) : Nat := f r + if h : 0 < s ∧ s ≤ r then up s f (r - s) else 0
termination_by r
decreasing_by omega
def one0 (r : Nat) : Nat := if r = 0 then 1 else 0
def W (S : List Nat) : Nat → Nat := S.foldl (fun f s => up s f) one0
theorem W_snoc (S : List Nat) (s : Nat) : W (S ++ [s]) = up s (W S) := by
  unfold W
  rw [List.foldl_append]; rfl
theorem up_eq {s : Nat} (hs : 0 < s) (f : Nat → Nat) (r : Nat) : up s f r = f r + if s ≤ r then up s f (r - s) else 0 := by
  rw [up]
  by_cases h : s ≤ r
  · rw [dif_pos ⟨hs, h⟩, if_pos h]
  · rw [dif_neg (fun z => h z.2), if_neg h]
def stepE (s : Nat) (e : List Nat × Nat) : List (List Nat × Nat) := (List.range (e.2 / s + 1)).map fun n => (e.1 ++ [n], e.2 - n * s)
def lefts (s l x : Nat) : Nat := (List.range (l / s + 1)).countP fun n => decide (l - n * s = x)
theorem lefts_lt {s l x : Nat} (h : l < s) : lefts s l x = if l = x then 1 else 0 := by
  unfold lefts
  rw [Nat.div_eq_of_lt h]
  show List.countP _ [0] = _
  rw [List.countP_cons]
  simp
theorem lefts_ge {s l x : Nat} (hs : 0 < s) (h : s ≤ l) : lefts s l x = (if l = x then 1 else 0) + lefts s (l - s) x := by
  unfold lefts
  rw [show l / s = (l - s) / s + 1 by
    rw [Nat.div_eq_sub_div hs h]]
  rw [List.range_succ_eq_map, List.countP_cons, List.countP_map, Nat.add_comm]
  congr 1
  · simp
  · congr 1
    funext n
    show decide (l - (n + 1) * s = x) = decide (l - s - n * s = x)
    rw [show l - (n + 1) * s = l - s - n * s by rw [Nat.add_mul]; omega]
theorem lefts_up {s : Nat} (hs : 0 < s) : ∀ (l x : Nat), lefts s l x = (if l = x then 1 else 0) + lefts s l (x + s) := by
  intro l
  induction l using Nat.strongRecOn with
  | ind l ih =>
    intro x
    by_cases h : l < s
    · rw [lefts_lt h, lefts_lt h, if_neg (show l ≠ x + s by omega), Nat.add_zero]
    · have h : s ≤ l := by omega
      rw [lefts_ge hs h, ih (l - s) (by omega) x, lefts_ge hs h (x := x + s)]
      congr 2
      by_cases e : l - s = x
      · rw [if_pos e, if_pos (by omega)]
      · rw [if_neg e, if_neg (by omega)]
theorem lefts_more {s l x : Nat} (h : l < x) : lefts s l x = 0 := by
  unfold lefts
  rw [List.countP_eq_zero]
  intro n _
  have : l - n * s ≤ l := Nat.sub_le _ _
  simp; omega
def cl (F : List (List Nat × Nat)) (x : Nat) : Nat := F.countP fun e => decide (e.2 = x)
theorem cl_step (s : Nat) (F : List (List Nat × Nat)) (x : Nat) : cl (F.flatMap (stepE s)) x = (F.map fun e => lefts s e.2 x).sum := by
  unfold cl
  rw [List.countP_flatMap]
  congr 1
  refine List.map_congr_left fun e _ => ?_
  show List.countP _ (stepE s e) = _
  unfold stepE lefts
  rw [List.countP_map]
  rfl
theorem cl_up {s : Nat} (hs : 0 < s) (F : List (List Nat × Nat)) (x : Nat) : cl (F.flatMap (stepE s)) x = cl F x + cl (F.flatMap (stepE s)) (x + s) := by
  rw [cl_step, cl_step]
  unfold cl
  induction F with
  | nil => rfl
  | cons e F ih =>
    rw [List.map_cons, List.map_cons, List.sum_cons, List.sum_cons, List.countP_cons, ih, lefts_up hs]
    by_cases h : e.2 = x
    · rw [if_pos h, if_pos (by simpa using h)]; omega
    · rw [if_neg h, if_neg (by simpa using h)]; omega
theorem cl_none {s : Nat} {F : List (List Nat × Nat)} {a x : Nat} (hF : ∀ e ∈ F, e.2 ≤ a) (h : a < x) : cl (F.flatMap (stepE s)) x = 0 := by
  rw [cl_step]
  induction F with
  | nil => rfl
  | cons e F ih =>
    rw [List.map_cons, List.sum_cons, lefts_more (by have := hF e List.mem_cons_self; omega), ih fun e he => hF e (List.mem_cons_of_mem _ he)]
theorem dot_snoc : ∀ (v P : List Nat) (n s : Nat), v.length = P.length → dot (v ++ [n]) (P ++ [s]) = dot v P + n * s
  | [], [], n, s, _ => by simp [dot]
  | x :: v, p :: P, n, s, h => by
    have := dot_snoc v P n s (by simpa using h)
    show x * p + dot (v ++ [n]) (P ++ [s]) = x * p + dot v P + n * s
    rw [this, Nat.add_assoc]
structure Fills (P : List Nat) (a : Nat) (F : List (List Nat × Nat)) : Prop where
  mem : ∀ v l, (v, l) ∈ F ↔ v.length = P.length ∧ dot v P + l = a
  cnt : ∀ r, r ≤ a → cl F (a - r) = W P r
  len : F.length ≤ 37 ^ P.length
theorem Fills.le {P : List Nat} {a : Nat} {F : List (List Nat × Nat)} (h : Fills P a F) : ∀ e ∈ F, e.2 ≤ a := fun e he => by
  have := (h.mem e.1 e.2).mp he
  omega
theorem fills_zero (a : Nat) : Fills [] a [([], a)] := by
  refine ⟨fun v l => ?_, fun r hr => ?_, by simp⟩
  · constructor
    · intro h
      have := List.mem_singleton.mp h
      injection this with h1 h2
      subst h1 h2
      exact ⟨rfl, by simp [dot]⟩
    · rintro ⟨h1, h2⟩
      have : v = [] := List.length_eq_zero_iff.mp h1
      subst this
      simp only [dot, Nat.zero_add] at h2
      rw [h2]; simp
  · show List.countP _ [([], a)] = one0 r
    rw [List.countP_cons]
    unfold one0
    by_cases h : r = 0
    · subst h; simp
    · rw [if_neg h]
      simp; omega
theorem stepE_len {s : Nat} {e : List Nat × Nat} {a : Nat} (ha : a ≤ 36) (h : e.2 ≤ a) : (stepE s e).length ≤ 37 := by
  unfold stepE
  rw [List.length_map, List.length_range]
  have := Nat.div_le_self e.2 s
  omega
theorem flat_len {s a : Nat} (ha : a ≤ 36) : ∀ {F : List (List Nat × Nat)}, (∀ e ∈ F, e.2 ≤ a) → (F.flatMap (stepE s)).length ≤ 37 * F.length
  | [], _ => by simp
  | e :: F, h => by
    rw [List.flatMap_cons, List.length_append, List.length_cons]
    have := flat_len (s := s) ha (F := F) fun e he => h e (List.mem_cons_of_mem _ he)
    have := stepE_len (s := s) ha (h e List.mem_cons_self)
    omega
theorem fills_step {P : List Nat} {a s : Nat} {F : List (List Nat × Nat)} (h : Fills P a F) (hs : 0 < s) (ha : a ≤ 36) : Fills (P ++ [s]) a (F.flatMap (stepE s)) := by
  refine ⟨fun v l => ?_, ?_, ?_⟩
  · rw [List.mem_flatMap]
    constructor
    · rintro ⟨⟨v0, l0⟩, h1, h2⟩
      obtain ⟨h3, h4⟩ := (h.mem v0 l0).mp h1
      unfold stepE at h2
      obtain ⟨n, hn, e⟩ := List.mem_map.mp h2
      injection e with e1 e2
      have hn : n ≤ l0 / s := by
        have := List.mem_range.mp hn
        simp only at this
        omega
      have hn2 := (Nat.le_div_iff_mul_le hs).mp hn
      subst e1
      refine ⟨by simp [h3], ?_⟩
      rw [dot_snoc _ _ _ _ h3]
      simp only at e2 ⊢
      omega
    · rintro ⟨h1, h2⟩
      have hne : v ≠ [] := by rintro rfl; simp at h1
      obtain ⟨v0, n, rfl⟩ : ∃ v0 n, v = v0 ++ [n] := ⟨v.dropLast, v.getLast hne, (List.dropLast_concat_getLast hne).symm⟩
      have h3 : v0.length = P.length := by simpa using h1
      rw [dot_snoc _ _ _ _ h3] at h2
      refine ⟨(v0, l + n * s), (h.mem _ _).mpr ⟨h3, by omega⟩, ?_⟩
      unfold stepE
      refine List.mem_map.mpr ⟨n, List.mem_range.mpr ?_, by simp⟩
      have : n ≤ (l + n * s) / s := (Nat.le_div_iff_mul_le hs).mpr (by omega)
      simp only; omega
  · intro r
    induction r using Nat.strongRecOn with
    | ind r ih =>
      intro hr
      rw [W_snoc, up_eq hs, ← h.cnt r hr, cl_up hs]
      congr 1
      by_cases hx : s ≤ r
      · rw [if_pos hx, ← W_snoc, ← ih (r - s) (by omega) (by omega)]
        congr 1; omega
      · rw [if_neg hx]
        exact cl_none h.le (by omega)
  · rw [List.length_append, List.length_singleton, Nat.pow_succ]
    have h1 := flat_len (s := s) ha h.le
    have h2 := h.len
    calc (F.flatMap (stepE s)).length ≤ 37 * F.length := h1
      _ ≤ 37 * 37 ^ P.length := Nat.mul_le_mul_left _ h2
      _ = _ := Nat.mul_comm _ _
end K55
namespace K55
open PySem PySem.Spec PyProof.Rows L2 PD
def encE (e : List Nat × Nat) : D := .tup [Nats e.1, .int e.2]
abbrev Enc (F : List (List Nat × Nat)) : D := .lst (F.map encE)
theorem Enc_snoc (F : List (List Nat × Nat)) (e : List Nat × Nat) : D.lst (F.map encE ++ [encE e]) = Enc (F ++ [e]) := by unfold Enc; rw [List.map_append]; rfl
theorem pow37 {n : Nat} (h : n ≤ 4) : 37 ^ n ≤ 1874161 := by
  have : 37 ^ n ≤ 37 ^ 4 := Nat.pow_le_pow_right (by decide) h
  omega
theorem law_fillings_ok {S : List Nat} (hS : ∀ s ∈ S, 0 < s ∧ s ≤ 200) (hl : S.length ≤ 4) {a : Nat} (ha : a ≤ 36) :
    RQ (F__law_fillings [Nats S, .int a]) fun d => ∃ E : List (List Nat), d = .lst (E.map Nats) ∧ (∀ v, v ∈ E ↔ v.length = S.length ∧ dot v S = a) ∧ E.length = W S a ∧ E.length ≤ 1874161 := by
  unfold F__law_fillings
  simp -implicitDefEqProofs only [runF_e, sSeq_e, thn_nx, thn_rt, thn_ex, thn_ct, thn_bk, toR_rt, toR_nx, toR_ex, st_ok, st_ex, st_bind, bind_bind, RQ_ok, OQ_nx, OQ_ct, OQ_bk, OQ_rt, NQ_nx, sNil, sRet_e, sRetO_q, retK_ow, retK_sh, sRetN, sExp_e, sIf_e, sSh_e, sOw_e, sMut_q, mutK_ow, mutK2_some, sSetIx_q, setK_ow, setK2_some, sAug_q, augK_sh, augK2_int, sAugIx_q, agxK_ow, agxK0_int, agxK1_some, agxK2_int, agxK3_some, sTup_q, tupK_some, sFor_e, sNo, sBk, sCt, eV_q, eO_q, slV_sh, slO_sh, slO_ow, eC, eBin, ofO_some, asB_bl, tE, tNotD, tAndD, tOrD, eAnd, eOr, eNot, eIf, eChain, tTru, truD, aNil, aCons, eTup, eLst, oNone, oSome, asI, eSl, sliceD, eCall, eFn, eFnK, eComp, okOwn_q, slOk_sh, slOk_no, slOk_none, wipeD, noX, tYesD, itSeq_q, seqK_lst, seqK_tup, seqK_scr, itRange1_q, rng1K_e, itRange2_q, rng2K_e, itEnum_q, enmK_e, itZip_q, zipK_e, bindP, binds, eNeg, eIsi, addD, subD, mulD, fdivD, modD, powD, iop, cmpI, isND, notND, D.isN, idxD, lenD, listD, tupleD, appD_lst, setD_lst, mutK2_ite, D.isL, max2D, min2D, absD, PD.intD, D.ty, frz_cons, frz1_q, frzS_ow, frzS_sh, frzS_no, frzD_lst, frzD_int, frzD_nil, frzK_nil, frz_nil, mkSl_lst, D.isMut, R.bind_ok, R.bind_no, dec_true, decide_eq_true_eq, decide_eq_false_iff_not, Bool.not_eq_true', Bool.decide_eq_true, Bool.not_eq_eq_eq_not, List.map_cons, List.map_nil, List.length_cons, List.length_nil, List.replicate_succ, List.replicate_zero, List.cons_append, List.nil_append, List.append_nil, List.getElem?_cons_zero, List.getElem?_cons_succ, List.set_cons_zero, List.set_cons_succ, List.all_cons, List.all_nil, Bool.and_true, Bool.true_and, Bool.and_self, Bool.not_true, Bool.not_false, Bool.false_eq_true, Bool.true_eq_false, if_true, if_false, ite_true, ite_false, reduceIte, Nat.add_sub_cancel, Nat.reduceSub, Nat.reduceAdd, Nat.sub_self, Nat.zero_add, Int.reduceLT, Int.reduceLE, Int.reduceEq, Int.reduceAdd, Int.reduceSub, Int.reduceMul, Int.reduceNeg, Int.reduceMod, Int.reduceDiv, Nat.zero_le, isiD_lst, isiD_int_int, isiD_int_bool, isiD_bl_bool, isiD_tup, decide_true, decide_false, show (1 : Nat) ≤ sizeLine by rw [szL]; decide, show (2 : Nat) ≤ sizeLine by rw [szL]; decide]
  refine forQ (C := fun o => RQ (o.thn _).toR _) (fun i ρ => ∃ (x3 x4 x5 x6 x7 : Sl) (F : List (List Nat × Nat)), ρ = [.sh (Nats S), .sh (.int a), .sh (Enc F), x3, x4, x5, x6, x7] ∧ Fills (S.take i) a F ∧ slOk (some x5) = true ∧ slOk (some x6) = true) ⟨.no, .no, .no, .no, .no, [([], a)], rfl, fills_zero a, rfl, rfl⟩ ?_ ?_
  · rintro i s ρ hx ⟨x3, x4, x5, x6, x7, F, rfl, hF, ok5, ok6⟩
    refine ⟨_, rfl, ?_⟩
    have hi : i < S.length := (List.getElem?_eq_some_iff.mp hx).1
    have hs := hS s (List.mem_of_getElem? hx)
    have hlen : F.length * 37 ≤ 1874161 := by
      have h1 := hF.len
      rw [List.length_take, Nat.min_eq_left (by omega)] at h1
      have h2 := pow37 (n := i + 1) (by omega)
      rw [Nat.pow_succ] at h2
      have := Nat.mul_le_mul_right 37 h1
      omega
    have htake : S.take (i + 1) = S.take i ++ [s] := by rw [List.take_add_one, hx]; rfl
    simp -implicitDefEqProofs only [runF_e, sSeq_e, thn_nx, thn_rt, thn_ex, thn_ct, thn_bk, toR_rt, toR_nx, toR_ex, st_ok, st_ex, st_bind, bind_bind, RQ_ok, OQ_nx, OQ_ct, OQ_bk, OQ_rt, NQ_nx, sNil, sRet_e, sRetO_q, retK_ow, retK_sh, sRetN, sExp_e, sIf_e, sSh_e, sOw_e, sMut_q, mutK_ow, mutK2_some, sSetIx_q, setK_ow, setK2_some, sAug_q, augK_sh, augK2_int, sAugIx_q, agxK_ow, agxK0_int, agxK1_some, agxK2_int, agxK3_some, sTup_q, tupK_some, sFor_e, sNo, sBk, sCt, eV_q, eO_q, slV_sh, slO_sh, slO_ow, eC, eBin, ofO_some, asB_bl, tE, tNotD, tAndD, tOrD, eAnd, eOr, eNot, eIf, eChain, tTru, truD, aNil, aCons, eTup, eLst, oNone, oSome, asI, eSl, sliceD, eCall, eFn, eFnK, eComp, okOwn_q, slOk_sh, slOk_no, slOk_none, wipeD, noX, tYesD, itSeq_q, seqK_lst, seqK_tup, seqK_scr, itRange1_q, rng1K_e, itRange2_q, rng2K_e, itEnum_q, enmK_e, itZip_q, zipK_e, bindP, binds, eNeg, eIsi, addD, subD, mulD, fdivD, modD, powD, iop, cmpI, isND, notND, D.isN, idxD, lenD, listD, tupleD, appD_lst, setD_lst, mutK2_ite, D.isL, max2D, min2D, absD, PD.intD, D.ty, frz_cons, frz1_q, frzS_ow, frzS_sh, frzS_no, frzD_lst, frzD_int, frzD_nil, frzK_nil, frz_nil, mkSl_lst, D.isMut, R.bind_ok, R.bind_no, dec_true, decide_eq_true_eq, decide_eq_false_iff_not, Bool.not_eq_true', Bool.decide_eq_true, Bool.not_eq_eq_eq_not, List.map_cons, List.map_nil, List.length_cons, List.length_nil, List.replicate_succ, List.replicate_zero, List.cons_append, List.nil_append, List.append_nil, List.getElem?_cons_zero, List.getElem?_cons_succ, List.set_cons_zero, List.set_cons_succ, List.all_cons, List.all_nil, Bool.and_true, Bool.true_and, Bool.and_self, Bool.not_true, Bool.not_false, Bool.false_eq_true, Bool.true_eq_false, if_true, if_false, ite_true, ite_false, reduceIte, Nat.add_sub_cancel, Nat.reduceSub, Nat.reduceAdd, Nat.sub_self, Nat.zero_add, Int.reduceLT, Int.reduceLE, Int.reduceEq, Int.reduceAdd, Int.reduceSub, Int.reduceMul, Int.reduceNeg, Int.reduceMod, Int.reduceDiv, Nat.zero_le, isiD_lst, isiD_int_int, isiD_int_bool, isiD_bl_bool, isiD_tup, decide_true, decide_false]
    refine forQ (C := fun o => OQ (o.thn _) _ _ _) (fun j ρ => ∃ (x5 x6 x7 : Sl), ρ = [.sh (Nats S), .sh (.int a), .sh (Enc F), .sh (.int s), .ow (Enc ((F.take j).flatMap (stepE s))), x5, x6, x7] ∧ slOk (some x5) = true ∧ slOk (some x6) = true) ⟨x5, x6, x7, rfl, ok5, ok6⟩ ?_ ?_
    · rintro j ⟨v, l⟩ ρ hx2 ⟨x5, x6, x7, rfl, ok5, ok6⟩
      have hmem := List.mem_of_getElem? hx2
      have hle := hF.le _ hmem
      have hle : l ≤ a := hle
      have hvl := ((hF.mem v l).mp hmem).1
      rw [List.length_take] at hvl
      have hj : j < F.length := (List.getElem?_eq_some_iff.mp hx2).1
      refine ⟨_, rfl, ?_⟩
      have hq : (l : Int) / (s : Int) = ((l / s : Nat) : Int) := by simp
      have hql : l / s ≤ l := Nat.div_le_self _ _
      have hz : small62 (((l / s : Nat) : Int) + 1) = true := by
        generalize l / s = q at hql ⊢
        exact small62_of (by omega) (by omega)
      simp -implicitDefEqProofs only [runF_e, sSeq_e, thn_nx, thn_rt, thn_ex, thn_ct, thn_bk, toR_rt, toR_nx, toR_ex, st_ok, st_ex, st_bind, bind_bind, RQ_ok, OQ_nx, OQ_ct, OQ_bk, OQ_rt, NQ_nx, sNil, sRet_e, sRetO_q, retK_ow, retK_sh, sRetN, sExp_e, sIf_e, sSh_e, sOw_e, sMut_q, mutK_ow, mutK2_some, sSetIx_q, setK_ow, setK2_some, sAug_q, augK_sh, augK2_int, sAugIx_q, agxK_ow, agxK0_int, agxK1_some, agxK2_int, agxK3_some, sTup_q, tupK_some, sFor_e, sNo, sBk, sCt, eV_q, eO_q, slV_sh, slO_sh, slO_ow, eC, eBin, ofO_some, asB_bl, tE, tNotD, tAndD, tOrD, eAnd, eOr, eNot, eIf, eChain, tTru, truD, aNil, aCons, eTup, eLst, oNone, oSome, asI, eSl, sliceD, eCall, eFn, eFnK, eComp, okOwn_q, slOk_sh, slOk_no, slOk_none, wipeD, noX, tYesD, itSeq_q, seqK_lst, seqK_tup, seqK_scr, itRange1_q, rng1K_e, itRange2_q, rng2K_e, itEnum_q, enmK_e, itZip_q, zipK_e, bindP, binds, eNeg, eIsi, addD, subD, mulD, fdivD, modD, powD, iop, cmpI, isND, notND, D.isN, idxD, lenD, listD, tupleD, appD_lst, setD_lst, mutK2_ite, D.isL, max2D, min2D, absD, PD.intD, D.ty, frz_cons, frz1_q, frzS_ow, frzS_sh, frzS_no, frzD_lst, frzD_int, frzD_nil, frzK_nil, frz_nil, mkSl_lst, D.isMut, R.bind_ok, R.bind_no, dec_true, decide_eq_true_eq, decide_eq_false_iff_not, Bool.not_eq_true', Bool.decide_eq_true, Bool.not_eq_eq_eq_not, List.map_cons, List.map_nil, List.length_cons, List.length_nil, List.replicate_succ, List.replicate_zero, List.cons_append, List.nil_append, List.append_nil, List.getElem?_cons_zero, List.getElem?_cons_succ, List.set_cons_zero, List.set_cons_succ, List.all_cons, List.all_nil, Bool.and_true, Bool.true_and, Bool.and_self, Bool.not_true, Bool.not_false, Bool.false_eq_true, Bool.true_eq_false, if_true, if_false, ite_true, ite_false, reduceIte, Nat.add_sub_cancel, Nat.reduceSub, Nat.reduceAdd, Nat.sub_self, Nat.zero_add, Int.reduceLT, Int.reduceLE, Int.reduceEq, Int.reduceAdd, Int.reduceSub, Int.reduceMul, Int.reduceNeg, Int.reduceMod, Int.reduceDiv, Nat.zero_le, isiD_lst, isiD_int_int, isiD_int_bool, isiD_bl_bool, isiD_tup, decide_true, decide_false, show fdivOk l s = true from fdivOk_of (by omega) (by omega), hq, hz]
      rw [rangeD_eq]
      refine forQ (C := fun o => OQ o _ _ _) (fun n ρ => ∃ (x7 : Sl), ρ = [.sh (Nats S), .sh (.int a), .sh (Enc F), .sh (.int s), .ow (Enc ((F.take j).flatMap (stepE s) ++ (stepE s (v, l)).take n)), .sh (Nats v), .sh (.int l), x7]) ⟨x7, by rw [List.take_zero, List.append_nil]⟩ ?_ ?_
      · rintro n x ρ hx3 ⟨x7, rfl⟩
        refine ⟨_, rfl, ?_⟩
        have hn : n < l / s + 1 := by
          have := (List.getElem?_eq_some_iff.mp hx3).1
          simp at this; omega
        have hx : x = (n : Int) := by
          rw [List.getElem?_map, List.getElem?_range (by omega)] at hx3
          have := Option.some.inj hx3
          simp only at this
          omega
        subst hx
        have hns : n * s ≤ l := (Nat.le_div_iff_mul_le hs.1).mp (by omega)
        have hfl := flat_len (s := s) ha (F := F.take j) fun e he => hF.le e (List.mem_of_mem_take he)
        rw [List.length_take, Nat.min_eq_left (by omega)] at hfl
        have hsl := stepE_len (s := s) (e := (v, l)) ha hle
        have hget : (stepE s (v, l))[n]? = some (v ++ [n], l - n * s) := by
          unfold stepE
          rw [List.getElem?_map, List.getElem?_range (by simpa using hn)]; rfl
        simp -implicitDefEqProofs only [runF_e, sSeq_e, thn_nx, thn_rt, thn_ex, thn_ct, thn_bk, toR_rt, toR_nx, toR_ex, st_ok, st_ex, st_bind, bind_bind, RQ_ok, OQ_nx, OQ_ct, OQ_bk, OQ_rt, NQ_nx, sNil, sRet_e, sRetO_q, retK_ow, retK_sh, sRetN, sExp_e, sIf_e, sSh_e, sOw_e, sMut_q, mutK_ow, mutK2_some, sSetIx_q, setK_ow, setK2_some, sAug_q, augK_sh, augK2_int, sAugIx_q, agxK_ow, agxK0_int, agxK1_some, agxK2_int, agxK3_some, sTup_q, tupK_some, sFor_e, sNo, sBk, sCt, eV_q, eO_q, slV_sh, slO_sh, slO_ow, eC, eBin, ofO_some, asB_bl, tE, tNotD, tAndD, tOrD, eAnd, eOr, eNot, eIf, eChain, tTru, truD, aNil, aCons, eTup, eLst, oNone, oSome, asI, eSl, sliceD, eCall, eFn, eFnK, eComp, okOwn_q, slOk_sh, slOk_no, slOk_none, wipeD, noX, tYesD, itSeq_q, seqK_lst, seqK_tup, seqK_scr, itRange1_q, rng1K_e, itRange2_q, rng2K_e, itEnum_q, enmK_e, itZip_q, zipK_e, bindP, binds, eNeg, eIsi, addD, subD, mulD, fdivD, modD, powD, iop, cmpI, isND, notND, D.isN, idxD, lenD, listD, tupleD, appD_lst, setD_lst, mutK2_ite, D.isL, max2D, min2D, absD, PD.intD, D.ty, frz_cons, frz1_q, frzS_ow, frzS_sh, frzS_no, frzD_lst, frzD_int, frzD_nil, frzK_nil, frz_nil, mkSl_lst, D.isMut, R.bind_ok, R.bind_no, dec_true, decide_eq_true_eq, decide_eq_false_iff_not, Bool.not_eq_true', Bool.decide_eq_true, Bool.not_eq_eq_eq_not, List.map_cons, List.map_nil, List.length_cons, List.length_nil, List.replicate_succ, List.replicate_zero, List.cons_append, List.nil_append, List.append_nil, List.getElem?_cons_zero, List.getElem?_cons_succ, List.set_cons_zero, List.set_cons_succ, List.all_cons, List.all_nil, Bool.and_true, Bool.true_and, Bool.and_self, Bool.not_true, Bool.not_false, Bool.false_eq_true, Bool.true_eq_false, if_true, if_false, ite_true, ite_false, reduceIte, Nat.add_sub_cancel, Nat.reduceSub, Nat.reduceAdd, Nat.sub_self, Nat.zero_add, Int.reduceLT, Int.reduceLE, Int.reduceEq, Int.reduceAdd, Int.reduceSub, Int.reduceMul, Int.reduceNeg, Int.reduceMod, Int.reduceDiv, Nat.zero_le, isiD_lst, isiD_int_int, isiD_int_bool, isiD_bl_bool, isiD_tup, decide_true, decide_false, List.length_map, List.length_append, List.length_take, show (1 : Nat) ≤ sizeLine by rw [szL]; decide, show v.length + 1 ≤ sizeLine by rw [szL]; omega, show mulOk (n : Int) s = true from mulOk_r (by omega) (by omega), show (2 : Nat) ≤ sizeLine by rw [szL]; decide, show ((F.take j).flatMap (stepE s)).length + min n (stepE s (v, l)).length < sizeLine by rw [szL]; omega]
        refine ⟨.sh (.int n), ?_⟩
        rw [show D.tup [D.lst ((v.map fun s : Nat => D.int s) ++ [D.int n]), D.int ((l : Int) - (n : Int) * (s : Int))] = encE (v ++ [n], l - n * s) by
          unfold encE
          rw [Nats_snoc, show ((l : Int) - (n : Int) * (s : Int)) = ((l - n * s : Nat) : Int) by rw [Int.ofNat_sub hns]; simp]]
        rw [Enc_snoc, List.append_assoc, List.take_add_one, hget]
        rfl
      · rintro ρ ⟨x7, rfl⟩
        simp -implicitDefEqProofs only [runF_e, sSeq_e, thn_nx, thn_rt, thn_ex, thn_ct, thn_bk, toR_rt, toR_nx, toR_ex, st_ok, st_ex, st_bind, bind_bind, RQ_ok, OQ_nx, OQ_ct, OQ_bk, OQ_rt, NQ_nx, sNil, sRet_e, sRetO_q, retK_ow, retK_sh, sRetN, sExp_e, sIf_e, sSh_e, sOw_e, sMut_q, mutK_ow, mutK2_some, sSetIx_q, setK_ow, setK2_some, sAug_q, augK_sh, augK2_int, sAugIx_q, agxK_ow, agxK0_int, agxK1_some, agxK2_int, agxK3_some, sTup_q, tupK_some, sFor_e, sNo, sBk, sCt, eV_q, eO_q, slV_sh, slO_sh, slO_ow, eC, eBin, ofO_some, asB_bl, tE, tNotD, tAndD, tOrD, eAnd, eOr, eNot, eIf, eChain, tTru, truD, aNil, aCons, eTup, eLst, oNone, oSome, asI, eSl, sliceD, eCall, eFn, eFnK, eComp, okOwn_q, slOk_sh, slOk_no, slOk_none, wipeD, noX, tYesD, itSeq_q, seqK_lst, seqK_tup, seqK_scr, itRange1_q, rng1K_e, itRange2_q, rng2K_e, itEnum_q, enmK_e, itZip_q, zipK_e, bindP, binds, eNeg, eIsi, addD, subD, mulD, fdivD, modD, powD, iop, cmpI, isND, notND, D.isN, idxD, lenD, listD, tupleD, appD_lst, setD_lst, mutK2_ite, D.isL, max2D, min2D, absD, PD.intD, D.ty, frz_cons, frz1_q, frzS_ow, frzS_sh, frzS_no, frzD_lst, frzD_int, frzD_nil, frzK_nil, frz_nil, mkSl_lst, D.isMut, R.bind_ok, R.bind_no, dec_true, decide_eq_true_eq, decide_eq_false_iff_not, Bool.not_eq_true', Bool.decide_eq_true, Bool.not_eq_eq_eq_not, List.map_cons, List.map_nil, List.length_cons, List.length_nil, List.replicate_succ, List.replicate_zero, List.cons_append, List.nil_append, List.append_nil, List.getElem?_cons_zero, List.getElem?_cons_succ, List.set_cons_zero, List.set_cons_succ, List.all_cons, List.all_nil, Bool.and_true, Bool.true_and, Bool.and_self, Bool.not_true, Bool.not_false, Bool.false_eq_true, Bool.true_eq_false, if_true, if_false, ite_true, ite_false, reduceIte, Nat.add_sub_cancel, Nat.reduceSub, Nat.reduceAdd, Nat.sub_self, Nat.zero_add, Int.reduceLT, Int.reduceLE, Int.reduceEq, Int.reduceAdd, Int.reduceSub, Int.reduceMul, Int.reduceNeg, Int.reduceMod, Int.reduceDiv, Nat.zero_le, isiD_lst, isiD_int_int, isiD_int_bool, isiD_bl_bool, isiD_tup, decide_true, decide_false]
        refine ⟨.sh (Nats v), .sh (.int l), x7, ?_, rfl, rfl⟩
        rw [List.take_of_length_le (l := stepE s (v, l)), List.take_add_one, hx2]
        · simp
        · unfold stepE
          rw [List.length_map, List.length_map, List.length_range, List.length_range]
          simp only
          generalize l / s = q at *
          omega
    · rintro ρ ⟨x5, x6, x7, rfl, ok5, ok6⟩
      rw [List.take_length]
      simp -implicitDefEqProofs only [runF_e, sSeq_e, thn_nx, thn_rt, thn_ex, thn_ct, thn_bk, toR_rt, toR_nx, toR_ex, st_ok, st_ex, st_bind, bind_bind, RQ_ok, OQ_nx, OQ_ct, OQ_bk, OQ_rt, NQ_nx, sNil, sRet_e, sRetO_q, retK_ow, retK_sh, sRetN, sExp_e, sIf_e, sSh_e, sOw_e, sMut_q, mutK_ow, mutK2_some, sSetIx_q, setK_ow, setK2_some, sAug_q, augK_sh, augK2_int, sAugIx_q, agxK_ow, agxK0_int, agxK1_some, agxK2_int, agxK3_some, sTup_q, tupK_some, sFor_e, sNo, sBk, sCt, eV_q, eO_q, slV_sh, slO_sh, slO_ow, eC, eBin, ofO_some, asB_bl, tE, tNotD, tAndD, tOrD, eAnd, eOr, eNot, eIf, eChain, tTru, truD, aNil, aCons, eTup, eLst, oNone, oSome, asI, eSl, sliceD, eCall, eFn, eFnK, eComp, okOwn_q, slOk_sh, slOk_no, slOk_none, wipeD, noX, tYesD, itSeq_q, seqK_lst, seqK_tup, seqK_scr, itRange1_q, rng1K_e, itRange2_q, rng2K_e, itEnum_q, enmK_e, itZip_q, zipK_e, bindP, binds, eNeg, eIsi, addD, subD, mulD, fdivD, modD, powD, iop, cmpI, isND, notND, D.isN, idxD, lenD, listD, tupleD, appD_lst, setD_lst, mutK2_ite, D.isL, max2D, min2D, absD, PD.intD, D.ty, frz_cons, frz1_q, frzS_ow, frzS_sh, frzS_no, frzD_lst, frzD_int, frzD_nil, frzK_nil, frz_nil, mkSl_lst, D.isMut, R.bind_ok, R.bind_no, dec_true, decide_eq_true_eq, decide_eq_false_iff_not, Bool.not_eq_true', Bool.decide_eq_true, Bool.not_eq_eq_eq_not, List.map_cons, List.map_nil, List.length_cons, List.length_nil, List.replicate_succ, List.replicate_zero, List.cons_append, List.nil_append, List.append_nil, List.getElem?_cons_zero, List.getElem?_cons_succ, List.set_cons_zero, List.set_cons_succ, List.all_cons, List.all_nil, Bool.and_true, Bool.true_and, Bool.and_self, Bool.not_true, Bool.not_false, Bool.false_eq_true, Bool.true_eq_false, if_true, if_false, ite_true, ite_false, reduceIte, Nat.add_sub_cancel, Nat.reduceSub, Nat.reduceAdd, Nat.sub_self, Nat.zero_add, Int.reduceLT, Int.reduceLE, Int.reduceEq, Int.reduceAdd, Int.reduceSub, Int.reduceMul, Int.reduceNeg, Int.reduceMod, Int.reduceDiv, Nat.zero_le, isiD_lst, isiD_int_int, isiD_int_bool, isiD_bl_bool, isiD_tup, decide_true, decide_false]
      refine ⟨_, _, x5, x6, x7, _, rfl, ?_, ok5, ok6⟩
      rw [htake]
      exact fills_step hF hs.1 ha
  · rintro ρ ⟨x3, x4, x5, x6, x7, F, rfl, hF, ok5, ok6⟩
    rw [List.take_length] at hF
    simp -implicitDefEqProofs only [runF_e, sSeq_e, thn_nx, thn_rt, thn_ex, thn_ct, thn_bk, toR_rt, toR_nx, toR_ex, st_ok, st_ex, st_bind, bind_bind, RQ_ok, OQ_nx, OQ_ct, OQ_bk, OQ_rt, NQ_nx, sNil, sRet_e, sRetO_q, retK_ow, retK_sh, sRetN, sExp_e, sIf_e, sSh_e, sOw_e, sMut_q, mutK_ow, mutK2_some, sSetIx_q, setK_ow, setK2_some, sAug_q, augK_sh, augK2_int, sAugIx_q, agxK_ow, agxK0_int, agxK1_some, agxK2_int, agxK3_some, sTup_q, tupK_some, sFor_e, sNo, sBk, sCt, eV_q, eO_q, slV_sh, slO_sh, slO_ow, eC, eBin, ofO_some, asB_bl, tE, tNotD, tAndD, tOrD, eAnd, eOr, eNot, eIf, eChain, tTru, truD, aNil, aCons, eTup, eLst, oNone, oSome, asI, eSl, sliceD, eCall, eFn, eFnK, eComp, okOwn_q, slOk_sh, slOk_no, slOk_none, wipeD, noX, tYesD, itSeq_q, seqK_lst, seqK_tup, seqK_scr, itRange1_q, rng1K_e, itRange2_q, rng2K_e, itEnum_q, enmK_e, itZip_q, zipK_e, bindP, binds, eNeg, eIsi, addD, subD, mulD, fdivD, modD, powD, iop, cmpI, isND, notND, D.isN, idxD, lenD, listD, tupleD, appD_lst, setD_lst, mutK2_ite, D.isL, max2D, min2D, absD, PD.intD, D.ty, frz_cons, frz1_q, frzS_ow, frzS_sh, frzS_no, frzD_lst, frzD_int, frzD_nil, frzK_nil, frz_nil, mkSl_lst, D.isMut, R.bind_ok, R.bind_no, dec_true, decide_eq_true_eq, decide_eq_false_iff_not, Bool.not_eq_true', Bool.decide_eq_true, Bool.not_eq_eq_eq_not, List.map_cons, List.map_nil, List.length_cons, List.length_nil, List.replicate_succ, List.replicate_zero, List.cons_append, List.nil_append, List.append_nil, List.getElem?_cons_zero, List.getElem?_cons_succ, List.set_cons_zero, List.set_cons_succ, List.all_cons, List.all_nil, Bool.and_true, Bool.true_and, Bool.and_self, Bool.not_true, Bool.not_false, Bool.false_eq_true, Bool.true_eq_false, if_true, if_false, ite_true, ite_false, reduceIte, Nat.add_sub_cancel, Nat.reduceSub, Nat.reduceAdd, Nat.sub_self, Nat.zero_add, Int.reduceLT, Int.reduceLE, Int.reduceEq, Int.reduceAdd, Int.reduceSub, Int.reduceMul, Int.reduceNeg, Int.reduceMod, Int.reduceDiv, Nat.zero_le, isiD_lst, isiD_int_int, isiD_int_bool, isiD_bl_bool, isiD_tup, decide_true, decide_false, ok5, ok6]
    rw [compD_map encE (fun e => decide (e.2 = 0)) (fun e => Nats e.1) F fun e he => ⟨_, rfl, by simp -implicitDefEqProofs only [runF_e, sSeq_e, thn_nx, thn_rt, thn_ex, thn_ct, thn_bk, toR_rt, toR_nx, toR_ex, st_ok, st_ex, st_bind, bind_bind, RQ_ok, OQ_nx, OQ_ct, OQ_bk, OQ_rt, NQ_nx, sNil, sRet_e, sRetO_q, retK_ow, retK_sh, sRetN, sExp_e, sIf_e, sSh_e, sOw_e, sMut_q, mutK_ow, mutK2_some, sSetIx_q, setK_ow, setK2_some, sAug_q, augK_sh, augK2_int, sAugIx_q, agxK_ow, agxK0_int, agxK1_some, agxK2_int, agxK3_some, sTup_q, tupK_some, sFor_e, sNo, sBk, sCt, eV_q, eO_q, slV_sh, slO_sh, slO_ow, eC, eBin, ofO_some, asB_bl, tE, tNotD, tAndD, tOrD, eAnd, eOr, eNot, eIf, eChain, tTru, truD, aNil, aCons, eTup, eLst, oNone, oSome, asI, eSl, sliceD, eCall, eFn, eFnK, eComp, okOwn_q, slOk_sh, slOk_no, slOk_none, wipeD, noX, tYesD, itSeq_q, seqK_lst, seqK_tup, seqK_scr, itRange1_q, rng1K_e, itRange2_q, rng2K_e, itEnum_q, enmK_e, itZip_q, zipK_e, bindP, binds, eNeg, eIsi, addD, subD, mulD, fdivD, modD, powD, iop, cmpI, isND, notND, D.isN, idxD, lenD, listD, tupleD, appD_lst, setD_lst, mutK2_ite, D.isL, max2D, min2D, absD, PD.intD, D.ty, frz_cons, frz1_q, frzS_ow, frzS_sh, frzS_no, frzD_lst, frzD_int, frzD_nil, frzK_nil, frz_nil, mkSl_lst, D.isMut, R.bind_ok, R.bind_no, dec_true, decide_eq_true_eq, decide_eq_false_iff_not, Bool.not_eq_true', Bool.decide_eq_true, Bool.not_eq_eq_eq_not, List.map_cons, List.map_nil, List.length_cons, List.length_nil, List.replicate_succ, List.replicate_zero, List.cons_append, List.nil_append, List.append_nil, List.getElem?_cons_zero, List.getElem?_cons_succ, List.set_cons_zero, List.set_cons_succ, List.all_cons, List.all_nil, Bool.and_true, Bool.true_and, Bool.and_self, Bool.not_true, Bool.not_false, Bool.false_eq_true, Bool.true_eq_false, if_true, if_false, ite_true, ite_false, reduceIte, Nat.add_sub_cancel, Nat.reduceSub, Nat.reduceAdd, Nat.sub_self, Nat.zero_add, Int.reduceLT, Int.reduceLE, Int.reduceEq, Int.reduceAdd, Int.reduceSub, Int.reduceMul, Int.reduceNeg, Int.reduceMod, Int.reduceDiv, Nat.zero_le, isiD_lst, isiD_int_int, isiD_int_bool, isiD_bl_bool, isiD_tup, decide_true, decide_false, eqD_int]; simp, fun _ => by simp -implicitDefEqProofs only [runF_e, sSeq_e, thn_nx, thn_rt, thn_ex, thn_ct, thn_bk, toR_rt, toR_nx, toR_ex, st_ok, st_ex, st_bind, bind_bind, RQ_ok, OQ_nx, OQ_ct, OQ_bk, OQ_rt, NQ_nx, sNil, sRet_e, sRetO_q, retK_ow, retK_sh, sRetN, sExp_e, sIf_e, sSh_e, sOw_e, sMut_q, mutK_ow, mutK2_some, sSetIx_q, setK_ow, setK2_some, sAug_q, augK_sh, augK2_int, sAugIx_q, agxK_ow, agxK0_int, agxK1_some, agxK2_int, agxK3_some, sTup_q, tupK_some, sFor_e, sNo, sBk, sCt, eV_q, eO_q, slV_sh, slO_sh, slO_ow, eC, eBin, ofO_some, asB_bl, tE, tNotD, tAndD, tOrD, eAnd, eOr, eNot, eIf, eChain, tTru, truD, aNil, aCons, eTup, eLst, oNone, oSome, asI, eSl, sliceD, eCall, eFn, eFnK, eComp, okOwn_q, slOk_sh, slOk_no, slOk_none, wipeD, noX, tYesD, itSeq_q, seqK_lst, seqK_tup, seqK_scr, itRange1_q, rng1K_e, itRange2_q, rng2K_e, itEnum_q, enmK_e, itZip_q, zipK_e, bindP, binds, eNeg, eIsi, addD, subD, mulD, fdivD, modD, powD, iop, cmpI, isND, notND, D.isN, idxD, lenD, listD, tupleD, appD_lst, setD_lst, mutK2_ite, D.isL, max2D, min2D, absD, PD.intD, D.ty, frz_cons, frz1_q, frzS_ow, frzS_sh, frzS_no, frzD_lst, frzD_int, frzD_nil, frzK_nil, frz_nil, mkSl_lst, D.isMut, R.bind_ok, R.bind_no, dec_true, decide_eq_true_eq, decide_eq_false_iff_not, Bool.not_eq_true', Bool.decide_eq_true, Bool.not_eq_eq_eq_not, List.map_cons, List.map_nil, List.length_cons, List.length_nil, List.replicate_succ, List.replicate_zero, List.cons_append, List.nil_append, List.append_nil, List.getElem?_cons_zero, List.getElem?_cons_succ, List.set_cons_zero, List.set_cons_succ, List.all_cons, List.all_nil, Bool.and_true, Bool.true_and, Bool.and_self, Bool.not_true, Bool.not_false, Bool.false_eq_true, Bool.true_eq_false, if_true, if_false, ite_true, ite_false, reduceIte, Nat.add_sub_cancel, Nat.reduceSub, Nat.reduceAdd, Nat.sub_self, Nat.zero_add, Int.reduceLT, Int.reduceLE, Int.reduceEq, Int.reduceAdd, Int.reduceSub, Int.reduceMul, Int.reduceNeg, Int.reduceMod, Int.reduceDiv, Nat.zero_le, isiD_lst, isiD_int_int, isiD_int_bool, isiD_bl_bool, isiD_tup, decide_true, decide_false]⟩]
    have hlen := hF.len
    have := pow37 hl
    have hfl : (F.filter fun e => decide (e.2 = 0)).length ≤ F.length := List.length_filter_le _ _
    simp -implicitDefEqProofs only [runF_e, sSeq_e, thn_nx, thn_rt, thn_ex, thn_ct, thn_bk, toR_rt, toR_nx, toR_ex, st_ok, st_ex, st_bind, bind_bind, RQ_ok, OQ_nx, OQ_ct, OQ_bk, OQ_rt, NQ_nx, sNil, sRet_e, sRetO_q, retK_ow, retK_sh, sRetN, sExp_e, sIf_e, sSh_e, sOw_e, sMut_q, mutK_ow, mutK2_some, sSetIx_q, setK_ow, setK2_some, sAug_q, augK_sh, augK2_int, sAugIx_q, agxK_ow, agxK0_int, agxK1_some, agxK2_int, agxK3_some, sTup_q, tupK_some, sFor_e, sNo, sBk, sCt, eV_q, eO_q, slV_sh, slO_sh, slO_ow, eC, eBin, ofO_some, asB_bl, tE, tNotD, tAndD, tOrD, eAnd, eOr, eNot, eIf, eChain, tTru, truD, aNil, aCons, eTup, eLst, oNone, oSome, asI, eSl, sliceD, eCall, eFn, eFnK, eComp, okOwn_q, slOk_sh, slOk_no, slOk_none, wipeD, noX, tYesD, itSeq_q, seqK_lst, seqK_tup, seqK_scr, itRange1_q, rng1K_e, itRange2_q, rng2K_e, itEnum_q, enmK_e, itZip_q, zipK_e, bindP, binds, eNeg, eIsi, addD, subD, mulD, fdivD, modD, powD, iop, cmpI, isND, notND, D.isN, idxD, lenD, listD, tupleD, appD_lst, setD_lst, mutK2_ite, D.isL, max2D, min2D, absD, PD.intD, D.ty, frz_cons, frz1_q, frzS_ow, frzS_sh, frzS_no, frzD_lst, frzD_int, frzD_nil, frzK_nil, frz_nil, mkSl_lst, D.isMut, R.bind_ok, R.bind_no, dec_true, decide_eq_true_eq, decide_eq_false_iff_not, Bool.not_eq_true', Bool.decide_eq_true, Bool.not_eq_eq_eq_not, List.map_cons, List.map_nil, List.length_cons, List.length_nil, List.replicate_succ, List.replicate_zero, List.cons_append, List.nil_append, List.append_nil, List.getElem?_cons_zero, List.getElem?_cons_succ, List.set_cons_zero, List.set_cons_succ, List.all_cons, List.all_nil, Bool.and_true, Bool.true_and, Bool.and_self, Bool.not_true, Bool.not_false, Bool.false_eq_true, Bool.true_eq_false, if_true, if_false, ite_true, ite_false, reduceIte, Nat.add_sub_cancel, Nat.reduceSub, Nat.reduceAdd, Nat.sub_self, Nat.zero_add, Int.reduceLT, Int.reduceLE, Int.reduceEq, Int.reduceAdd, Int.reduceSub, Int.reduceMul, Int.reduceNeg, Int.reduceMod, Int.reduceDiv, Nat.zero_le, isiD_lst, isiD_int_int, isiD_int_bool, isiD_bl_bool, isiD_tup, decide_true, decide_false, List.length_map]
    rw [if_pos (by rw [szL]; omega)]
    simp -implicitDefEqProofs only [runF_e, sSeq_e, thn_nx, thn_rt, thn_ex, thn_ct, thn_bk, toR_rt, toR_nx, toR_ex, st_ok, st_ex, st_bind, bind_bind, RQ_ok, OQ_nx, OQ_ct, OQ_bk, OQ_rt, NQ_nx, sNil, sRet_e, sRetO_q, retK_ow, retK_sh, sRetN, sExp_e, sIf_e, sSh_e, sOw_e, sMut_q, mutK_ow, mutK2_some, sSetIx_q, setK_ow, setK2_some, sAug_q, augK_sh, augK2_int, sAugIx_q, agxK_ow, agxK0_int, agxK1_some, agxK2_int, agxK3_some, sTup_q, tupK_some, sFor_e, sNo, sBk, sCt, eV_q, eO_q, slV_sh, slO_sh, slO_ow, eC, eBin, ofO_some, asB_bl, tE, tNotD, tAndD, tOrD, eAnd, eOr, eNot, eIf, eChain, tTru, truD, aNil, aCons, eTup, eLst, oNone, oSome, asI, eSl, sliceD, eCall, eFn, eFnK, eComp, okOwn_q, slOk_sh, slOk_no, slOk_none, wipeD, noX, tYesD, itSeq_q, seqK_lst, seqK_tup, seqK_scr, itRange1_q, rng1K_e, itRange2_q, rng2K_e, itEnum_q, enmK_e, itZip_q, zipK_e, bindP, binds, eNeg, eIsi, addD, subD, mulD, fdivD, modD, powD, iop, cmpI, isND, notND, D.isN, idxD, lenD, listD, tupleD, appD_lst, setD_lst, mutK2_ite, D.isL, max2D, min2D, absD, PD.intD, D.ty, frz_cons, frz1_q, frzS_ow, frzS_sh, frzS_no, frzD_lst, frzD_int, frzD_nil, frzK_nil, frz_nil, mkSl_lst, D.isMut, R.bind_ok, R.bind_no, dec_true, decide_eq_true_eq, decide_eq_false_iff_not, Bool.not_eq_true', Bool.decide_eq_true, Bool.not_eq_eq_eq_not, List.map_cons, List.map_nil, List.length_cons, List.length_nil, List.replicate_succ, List.replicate_zero, List.cons_append, List.nil_append, List.append_nil, List.getElem?_cons_zero, List.getElem?_cons_succ, List.set_cons_zero, List.set_cons_succ, List.all_cons, List.all_nil, Bool.and_true, Bool.true_and, Bool.and_self, Bool.not_true, Bool.not_false, Bool.false_eq_true, Bool.true_eq_false, if_true, if_false, ite_true, ite_false, reduceIte, Nat.add_sub_cancel, Nat.reduceSub, Nat.reduceAdd, Nat.sub_self, Nat.zero_add, Int.reduceLT, Int.reduceLE, Int.reduceEq, Int.reduceAdd, Int.reduceSub, Int.reduceMul, Int.reduceNeg, Int.reduceMod, Int.reduceDiv, Nat.zero_le, isiD_lst, isiD_int_int, isiD_int_bool, isiD_bl_bool, isiD_tup, decide_true, decide_false]
    refine ⟨(F.filter fun e => decide (e.2 = 0)).map Prod.fst, by rw [List.map_map]; rfl, fun v => ?_, ?_, by rw [List.length_map]; omega⟩
    · rw [List.mem_map]
      constructor
      · rintro ⟨⟨v', l⟩, h1, rfl⟩
        rw [List.mem_filter] at h1
        have h2 : l = 0 := by simpa using h1.2
        subst h2
        have := (hF.mem _ _).mp h1.1
        exact ⟨this.1, by simpa using this.2⟩
      · rintro ⟨h1, h2⟩
        exact ⟨(v, 0), List.mem_filter.mpr ⟨(hF.mem _ _).mpr ⟨h1, by omega⟩, by simp⟩, rfl⟩
    · rw [List.length_map, ← List.countP_eq_length_filter]
      have := hF.cnt a (Nat.le_refl _)
      rw [Nat.sub_self] at this
      exact this
end K55
namespace K55
open PySem PySem.Spec PyProof.Rows L2 PD
theorem noughts (a : Nat) : (List.replicate (a : Int).toNat ([D.int 0] : List D)).flatten = (List.replicate a 0).map fun s : Nat => D.int s := by
  rw [Int.toNat_natCast]
  induction a with
  | zero => rfl
  | succ n ih => rw [List.replicate_succ, List.replicate_succ, List.flatten_cons, ih]; rfl
theorem ways_ok {S : List Nat} (g : Good S) {a : Nat} (ha : a ≤ 5000) : F_ways [Nats S, .int a] = .ok (.int (W S a)) := by
  have key : RQ (F_ways [Nats S, .int a]) fun d => d = .int (W S a) := by
    have hS : ∀ s ∈ S, 0 < s := fun s hs => (g.rng s hs).1
    unfold F_ways
    simp -implicitDefEqProofs only [runF_e, sSeq_e, thn_nx, thn_rt, thn_ex, thn_ct, thn_bk, toR_rt, toR_nx, toR_ex, st_ok, st_ex, st_bind, bind_bind, RQ_ok, OQ_nx, OQ_ct, OQ_bk, OQ_rt, NQ_nx, sNil, sRet_e, sRetO_q, retK_ow, retK_sh, sRetN, sExp_e, sIf_e, sSh_e, sOw_e, sMut_q, mutK_ow, mutK2_some, sSetIx_q, setK_ow, setK2_some, sAug_q, augK_sh, augK2_int, sAugIx_q, agxK_ow, agxK0_int, agxK1_some, agxK2_int, agxK3_some, sTup_q, tupK_some, sFor_e, sNo, sBk, sCt, eV_q, eO_q, slV_sh, slO_sh, slO_ow, eC, eBin, ofO_some, asB_bl, tE, tNotD, tAndD, tOrD, eAnd, eOr, eNot, eIf, eChain, tTru, truD, aNil, aCons, eTup, eLst, oNone, oSome, asI, eSl, sliceD, eCall, eFn, eFnK, eComp, okOwn_q, slOk_sh, slOk_no, slOk_none, wipeD, noX, tYesD, itSeq_q, seqK_lst, seqK_tup, seqK_scr, itRange1_q, rng1K_e, itRange2_q, rng2K_e, itEnum_q, enmK_e, itZip_q, zipK_e, bindP, binds, eNeg, eIsi, addD, subD, mulD, fdivD, modD, powD, iop, cmpI, isND, notND, D.isN, idxD, lenD, listD, tupleD, appD_lst, setD_lst, mutK2_ite, D.isL, max2D, min2D, absD, PD.intD, D.ty, frz_cons, frz1_q, frzS_ow, frzS_sh, frzS_no, frzD_lst, frzD_int, frzD_nil, frzK_nil, frz_nil, mkSl_lst, D.isMut, R.bind_ok, R.bind_no, dec_true, decide_eq_true_eq, decide_eq_false_iff_not, Bool.not_eq_true', Bool.decide_eq_true, Bool.not_eq_eq_eq_not, List.map_cons, List.map_nil, List.length_cons, List.length_nil, List.replicate_succ, List.replicate_zero, List.cons_append, List.nil_append, List.append_nil, List.getElem?_cons_zero, List.getElem?_cons_succ, List.set_cons_zero, List.set_cons_succ, List.all_cons, List.all_nil, Bool.and_true, Bool.true_and, Bool.and_self, Bool.not_true, Bool.not_false, Bool.false_eq_true, Bool.true_eq_false, if_true, if_false, ite_true, ite_false, reduceIte, Nat.add_sub_cancel, Nat.reduceSub, Nat.reduceAdd, Nat.sub_self, Nat.zero_add, Int.reduceLT, Int.reduceLE, Int.reduceEq, Int.reduceAdd, Int.reduceSub, Int.reduceMul, Int.reduceNeg, Int.reduceMod, Int.reduceDiv, Nat.zero_le, isiD_lst, isiD_int_int, isiD_int_bool, isiD_bl_bool, isiD_tup, decide_true, decide_false, check_amount_ok g ha, show (1 : Nat) ≤ sizeLine by rw [szL]; decide]
    rw [if_pos ⟨by omega, by omega, by rw [szL]; omega⟩]
    simp -implicitDefEqProofs only [runF_e, sSeq_e, thn_nx, thn_rt, thn_ex, thn_ct, thn_bk, toR_rt, toR_nx, toR_ex, st_ok, st_ex, st_bind, bind_bind, RQ_ok, OQ_nx, OQ_ct, OQ_bk, OQ_rt, NQ_nx, sNil, sRet_e, sRetO_q, retK_ow, retK_sh, sRetN, sExp_e, sIf_e, sSh_e, sOw_e, sMut_q, mutK_ow, mutK2_some, sSetIx_q, setK_ow, setK2_some, sAug_q, augK_sh, augK2_int, sAugIx_q, agxK_ow, agxK0_int, agxK1_some, agxK2_int, agxK3_some, sTup_q, tupK_some, sFor_e, sNo, sBk, sCt, eV_q, eO_q, slV_sh, slO_sh, slO_ow, eC, eBin, ofO_some, asB_bl, tE, tNotD, tAndD, tOrD, eAnd, eOr, eNot, eIf, eChain, tTru, truD, aNil, aCons, eTup, eLst, oNone, oSome, asI, eSl, sliceD, eCall, eFn, eFnK, eComp, okOwn_q, slOk_sh, slOk_no, slOk_none, wipeD, noX, tYesD, itSeq_q, seqK_lst, seqK_tup, seqK_scr, itRange1_q, rng1K_e, itRange2_q, rng2K_e, itEnum_q, enmK_e, itZip_q, zipK_e, bindP, binds, eNeg, eIsi, addD, subD, mulD, fdivD, modD, powD, iop, cmpI, isND, notND, D.isN, idxD, lenD, listD, tupleD, appD_lst, setD_lst, mutK2_ite, D.isL, max2D, min2D, absD, PD.intD, D.ty, frz_cons, frz1_q, frzS_ow, frzS_sh, frzS_no, frzD_lst, frzD_int, frzD_nil, frzK_nil, frz_nil, mkSl_lst, D.isMut, R.bind_ok, R.bind_no, dec_true, decide_eq_true_eq, decide_eq_false_iff_not, Bool.not_eq_true', Bool.decide_eq_true, Bool.not_eq_eq_eq_not, List.map_cons, List.map_nil, List.length_cons, List.length_nil, List.replicate_succ, List.replicate_zero, List.cons_append, List.nil_append, List.append_nil, List.getElem?_cons_zero, List.getElem?_cons_succ, List.set_cons_zero, List.set_cons_succ, List.all_cons, List.all_nil, Bool.and_true, Bool.true_and, Bool.and_self, Bool.not_true, Bool.not_false, Bool.false_eq_true, Bool.true_eq_false, if_true, if_false, ite_true, ite_false, reduceIte, Nat.add_sub_cancel, Nat.reduceSub, Nat.reduceAdd, Nat.sub_self, Nat.zero_add, Int.reduceLT, Int.reduceLE, Int.reduceEq, Int.reduceAdd, Int.reduceSub, Int.reduceMul, Int.reduceNeg, Int.reduceMod, Int.reduceDiv, Nat.zero_le, isiD_lst, isiD_int_int, isiD_int_bool, isiD_bl_bool, isiD_tup, decide_true, decide_false, noughts, List.length_map, List.length_replicate]
    rw [if_pos (by rw [szL]; omega)]
    simp -implicitDefEqProofs only [runF_e, sSeq_e, thn_nx, thn_rt, thn_ex, thn_ct, thn_bk, toR_rt, toR_nx, toR_ex, st_ok, st_ex, st_bind, bind_bind, RQ_ok, OQ_nx, OQ_ct, OQ_bk, OQ_rt, NQ_nx, sNil, sRet_e, sRetO_q, retK_ow, retK_sh, sRetN, sExp_e, sIf_e, sSh_e, sOw_e, sMut_q, mutK_ow, mutK2_some, sSetIx_q, setK_ow, setK2_some, sAug_q, augK_sh, augK2_int, sAugIx_q, agxK_ow, agxK0_int, agxK1_some, agxK2_int, agxK3_some, sTup_q, tupK_some, sFor_e, sNo, sBk, sCt, eV_q, eO_q, slV_sh, slO_sh, slO_ow, eC, eBin, ofO_some, asB_bl, tE, tNotD, tAndD, tOrD, eAnd, eOr, eNot, eIf, eChain, tTru, truD, aNil, aCons, eTup, eLst, oNone, oSome, asI, eSl, sliceD, eCall, eFn, eFnK, eComp, okOwn_q, slOk_sh, slOk_no, slOk_none, wipeD, noX, tYesD, itSeq_q, seqK_lst, seqK_tup, seqK_scr, itRange1_q, rng1K_e, itRange2_q, rng2K_e, itEnum_q, enmK_e, itZip_q, zipK_e, bindP, binds, eNeg, eIsi, addD, subD, mulD, fdivD, modD, powD, iop, cmpI, isND, notND, D.isN, idxD, lenD, listD, tupleD, appD_lst, setD_lst, mutK2_ite, D.isL, max2D, min2D, absD, PD.intD, D.ty, frz_cons, frz1_q, frzS_ow, frzS_sh, frzS_no, frzD_lst, frzD_int, frzD_nil, frzK_nil, frz_nil, mkSl_lst, D.isMut, R.bind_ok, R.bind_no, dec_true, decide_eq_true_eq, decide_eq_false_iff_not, Bool.not_eq_true', Bool.decide_eq_true, Bool.not_eq_eq_eq_not, List.map_cons, List.map_nil, List.length_cons, List.length_nil, List.replicate_succ, List.replicate_zero, List.cons_append, List.nil_append, List.append_nil, List.getElem?_cons_zero, List.getElem?_cons_succ, List.set_cons_zero, List.set_cons_succ, List.all_cons, List.all_nil, Bool.and_true, Bool.true_and, Bool.and_self, Bool.not_true, Bool.not_false, Bool.false_eq_true, Bool.true_eq_false, if_true, if_false, ite_true, ite_false, reduceIte, Nat.add_sub_cancel, Nat.reduceSub, Nat.reduceAdd, Nat.sub_self, Nat.zero_add, Int.reduceLT, Int.reduceLE, Int.reduceEq, Int.reduceAdd, Int.reduceSub, Int.reduceMul, Int.reduceNeg, Int.reduceMod, Int.reduceDiv, Nat.zero_le, isiD_lst, isiD_int_int, isiD_int_bool, isiD_bl_bool, isiD_tup, decide_true, decide_false]
    refine forQ (C := fun o => RQ (o.thn _).toR _) (fun i ρ => ∃ (x3 x4 : Sl) (T : List Nat), ρ = [.sh (Nats S), .sh (.int a), .ow (Nats T), x3, x4] ∧ T.length = a + 1 ∧ ∀ r, r ≤ a → T[r]? = some (W (S.take i) r)) ⟨.no, .no, 1 :: List.replicate a 0, rfl, by simp, fun r hr => ?_⟩ ?_ ?_
    · show (1 :: List.replicate a 0)[r]? = some (one0 r)
      cases r with
      | zero => rfl
      | succ r => rw [List.getElem?_cons_succ, List.getElem?_replicate_of_lt (by omega)]; rfl
    · rintro i s ρ hx ⟨x3, x4, T, rfl, hT, hW⟩
      refine ⟨_, rfl, ?_⟩
      have hmem := List.mem_of_getElem? hx
      have hs := g.rng s hmem
      have htake : S.take (i + 1) = S.take i ++ [s] := by rw [List.take_add_one, hx]; rfl
      simp -implicitDefEqProofs only [runF_e, sSeq_e, thn_nx, thn_rt, thn_ex, thn_ct, thn_bk, toR_rt, toR_nx, toR_ex, st_ok, st_ex, st_bind, bind_bind, RQ_ok, OQ_nx, OQ_ct, OQ_bk, OQ_rt, NQ_nx, sNil, sRet_e, sRetO_q, retK_ow, retK_sh, sRetN, sExp_e, sIf_e, sSh_e, sOw_e, sMut_q, mutK_ow, mutK2_some, sSetIx_q, setK_ow, setK2_some, sAug_q, augK_sh, augK2_int, sAugIx_q, agxK_ow, agxK0_int, agxK1_some, agxK2_int, agxK3_some, sTup_q, tupK_some, sFor_e, sNo, sBk, sCt, eV_q, eO_q, slV_sh, slO_sh, slO_ow, eC, eBin, ofO_some, asB_bl, tE, tNotD, tAndD, tOrD, eAnd, eOr, eNot, eIf, eChain, tTru, truD, aNil, aCons, eTup, eLst, oNone, oSome, asI, eSl, sliceD, eCall, eFn, eFnK, eComp, okOwn_q, slOk_sh, slOk_no, slOk_none, wipeD, noX, tYesD, itSeq_q, seqK_lst, seqK_tup, seqK_scr, itRange1_q, rng1K_e, itRange2_q, rng2K_e, itEnum_q, enmK_e, itZip_q, zipK_e, bindP, binds, eNeg, eIsi, addD, subD, mulD, fdivD, modD, powD, iop, cmpI, isND, notND, D.isN, idxD, lenD, listD, tupleD, appD_lst, setD_lst, mutK2_ite, D.isL, max2D, min2D, absD, PD.intD, D.ty, frz_cons, frz1_q, frzS_ow, frzS_sh, frzS_no, frzD_lst, frzD_int, frzD_nil, frzK_nil, frz_nil, mkSl_lst, D.isMut, R.bind_ok, R.bind_no, dec_true, decide_eq_true_eq, decide_eq_false_iff_not, Bool.not_eq_true', Bool.decide_eq_true, Bool.not_eq_eq_eq_not, List.map_cons, List.map_nil, List.length_cons, List.length_nil, List.replicate_succ, List.replicate_zero, List.cons_append, List.nil_append, List.append_nil, List.getElem?_cons_zero, List.getElem?_cons_succ, List.set_cons_zero, List.set_cons_succ, List.all_cons, List.all_nil, Bool.and_true, Bool.true_and, Bool.and_self, Bool.not_true, Bool.not_false, Bool.false_eq_true, Bool.true_eq_false, if_true, if_false, ite_true, ite_false, reduceIte, Nat.add_sub_cancel, Nat.reduceSub, Nat.reduceAdd, Nat.sub_self, Nat.zero_add, Int.reduceLT, Int.reduceLE, Int.reduceEq, Int.reduceAdd, Int.reduceSub, Int.reduceMul, Int.reduceNeg, Int.reduceMod, Int.reduceDiv, Nat.zero_le, isiD_lst, isiD_int_int, isiD_int_bool, isiD_bl_bool, isiD_tup, decide_true, decide_false, show small62 (s : Int) = true from small62_of (by omega) (by omega), show small62 ((a : Int) + 1) = true from small62_of (by omega) (by omega), Bool.and_self]
      rw [rangeD_eq]
      refine forQ (C := fun o => OQ o _ _ _) (fun j ρ => ∃ (x4 : Sl) (U : List Nat), ρ = [.sh (Nats S), .sh (.int a), .ow (Nats U), .sh (.int s), x4] ∧ U.length = a + 1 ∧ ∀ r, r ≤ a → U[r]? = some (if r < s + j then W (S.take (i + 1)) r else W (S.take i) r)) ⟨x4, T, rfl, hT, fun r hr => ?_⟩ ?_ ?_
      · rw [hW r hr]
        by_cases h : r < s + 0
        · rw [if_pos h, htake, W_snoc, up_eq (by omega), if_neg (by omega)]; rfl
        · rw [if_neg h]
      · rintro j x ρ hx2 ⟨x4, U, rfl, hU, hV⟩
        refine ⟨_, rfl, ?_⟩
        have hj : j < a + 1 - s := by
          have := (List.getElem?_eq_some_iff.mp hx2).1
          simp at this; omega
        have hx : x = ((s + j : Nat) : Int) := by
          rw [List.getElem?_map, List.getElem?_range (by omega)] at hx2
          have := Option.some.inj hx2
          simp only at this
          omega
        subst hx
        have e1 : atI (U.map fun s : Nat => D.int s) ((s + j : Nat) : Int) = some (.int (W (S.take i) (s + j) : Nat)) := by
          rw [atI_natI (by omega) (by rw [List.length_map]; omega), List.getElem?_map, Int.toNat_natCast, hV _ (by omega), if_neg (by omega)]; rfl
        have e2 : atI (U.map fun s : Nat => D.int s) (((s + j : Nat) : Int) - (s : Int)) = some (.int (W (S.take (i + 1)) j : Nat)) := by
          rw [show (((s + j : Nat) : Int) - (s : Int)) = (j : Int) by omega, atI_natI (by omega) (by rw [List.length_map]; omega), List.getElem?_map, Int.toNat_natCast, hV _ (by omega), if_pos (by omega)]; rfl
        simp -implicitDefEqProofs only [runF_e, sSeq_e, thn_nx, thn_rt, thn_ex, thn_ct, thn_bk, toR_rt, toR_nx, toR_ex, st_ok, st_ex, st_bind, bind_bind, RQ_ok, OQ_nx, OQ_ct, OQ_bk, OQ_rt, NQ_nx, sNil, sRet_e, sRetO_q, retK_ow, retK_sh, sRetN, sExp_e, sIf_e, sSh_e, sOw_e, sMut_q, mutK_ow, mutK2_some, sSetIx_q, setK_ow, setK2_some, sAug_q, augK_sh, augK2_int, sAugIx_q, agxK_ow, agxK0_int, agxK1_some, agxK2_int, agxK3_some, sTup_q, tupK_some, sFor_e, sNo, sBk, sCt, eV_q, eO_q, slV_sh, slO_sh, slO_ow, eC, eBin, ofO_some, asB_bl, tE, tNotD, tAndD, tOrD, eAnd, eOr, eNot, eIf, eChain, tTru, truD, aNil, aCons, eTup, eLst, oNone, oSome, asI, eSl, sliceD, eCall, eFn, eFnK, eComp, okOwn_q, slOk_sh, slOk_no, slOk_none, wipeD, noX, tYesD, itSeq_q, seqK_lst, seqK_tup, seqK_scr, itRange1_q, rng1K_e, itRange2_q, rng2K_e, itEnum_q, enmK_e, itZip_q, zipK_e, bindP, binds, eNeg, eIsi, addD, subD, mulD, fdivD, modD, powD, iop, cmpI, isND, notND, D.isN, idxD, lenD, listD, tupleD, appD_lst, setD_lst, mutK2_ite, D.isL, max2D, min2D, absD, PD.intD, D.ty, frz_cons, frz1_q, frzS_ow, frzS_sh, frzS_no, frzD_lst, frzD_int, frzD_nil, frzK_nil, frz_nil, mkSl_lst, D.isMut, R.bind_ok, R.bind_no, dec_true, decide_eq_true_eq, decide_eq_false_iff_not, Bool.not_eq_true', Bool.decide_eq_true, Bool.not_eq_eq_eq_not, List.map_cons, List.map_nil, List.length_cons, List.length_nil, List.replicate_succ, List.replicate_zero, List.cons_append, List.nil_append, List.append_nil, List.getElem?_cons_zero, List.getElem?_cons_succ, List.set_cons_zero, List.set_cons_succ, List.all_cons, List.all_nil, Bool.and_true, Bool.true_and, Bool.and_self, Bool.not_true, Bool.not_false, Bool.false_eq_true, Bool.true_eq_false, if_true, if_false, ite_true, ite_false, reduceIte, Nat.add_sub_cancel, Nat.reduceSub, Nat.reduceAdd, Nat.sub_self, Nat.zero_add, Int.reduceLT, Int.reduceLE, Int.reduceEq, Int.reduceAdd, Int.reduceSub, Int.reduceMul, Int.reduceNeg, Int.reduceMod, Int.reduceDiv, Nat.zero_le, isiD_lst, isiD_int_int, isiD_int_bool, isiD_bl_bool, isiD_tup, decide_true, decide_false, e1, e2]
        rw [ixN_nat (by rw [List.length_map]; omega)]
        simp -implicitDefEqProofs only [runF_e, sSeq_e, thn_nx, thn_rt, thn_ex, thn_ct, thn_bk, toR_rt, toR_nx, toR_ex, st_ok, st_ex, st_bind, bind_bind, RQ_ok, OQ_nx, OQ_ct, OQ_bk, OQ_rt, NQ_nx, sNil, sRet_e, sRetO_q, retK_ow, retK_sh, sRetN, sExp_e, sIf_e, sSh_e, sOw_e, sMut_q, mutK_ow, mutK2_some, sSetIx_q, setK_ow, setK2_some, sAug_q, augK_sh, augK2_int, sAugIx_q, agxK_ow, agxK0_int, agxK1_some, agxK2_int, agxK3_some, sTup_q, tupK_some, sFor_e, sNo, sBk, sCt, eV_q, eO_q, slV_sh, slO_sh, slO_ow, eC, eBin, ofO_some, asB_bl, tE, tNotD, tAndD, tOrD, eAnd, eOr, eNot, eIf, eChain, tTru, truD, aNil, aCons, eTup, eLst, oNone, oSome, asI, eSl, sliceD, eCall, eFn, eFnK, eComp, okOwn_q, slOk_sh, slOk_no, slOk_none, wipeD, noX, tYesD, itSeq_q, seqK_lst, seqK_tup, seqK_scr, itRange1_q, rng1K_e, itRange2_q, rng2K_e, itEnum_q, enmK_e, itZip_q, zipK_e, bindP, binds, eNeg, eIsi, addD, subD, mulD, fdivD, modD, powD, iop, cmpI, isND, notND, D.isN, idxD, lenD, listD, tupleD, appD_lst, setD_lst, mutK2_ite, D.isL, max2D, min2D, absD, PD.intD, D.ty, frz_cons, frz1_q, frzS_ow, frzS_sh, frzS_no, frzD_lst, frzD_int, frzD_nil, frzK_nil, frz_nil, mkSl_lst, D.isMut, R.bind_ok, R.bind_no, dec_true, decide_eq_true_eq, decide_eq_false_iff_not, Bool.not_eq_true', Bool.decide_eq_true, Bool.not_eq_eq_eq_not, List.map_cons, List.map_nil, List.length_cons, List.length_nil, List.replicate_succ, List.replicate_zero, List.cons_append, List.nil_append, List.append_nil, List.getElem?_cons_zero, List.getElem?_cons_succ, List.set_cons_zero, List.set_cons_succ, List.all_cons, List.all_nil, Bool.and_true, Bool.true_and, Bool.and_self, Bool.not_true, Bool.not_false, Bool.false_eq_true, Bool.true_eq_false, if_true, if_false, ite_true, ite_false, reduceIte, Nat.add_sub_cancel, Nat.reduceSub, Nat.reduceAdd, Nat.sub_self, Nat.zero_add, Int.reduceLT, Int.reduceLE, Int.reduceEq, Int.reduceAdd, Int.reduceSub, Int.reduceMul, Int.reduceNeg, Int.reduceMod, Int.reduceDiv, Nat.zero_le, isiD_lst, isiD_int_int, isiD_int_bool, isiD_bl_bool, isiD_tup, decide_true, decide_false]
        refine ⟨.sh (.int ((s + j : Nat) : Int)), U.set (s + j) (W (S.take i) (s + j) + W (S.take (i + 1)) j), ?_, by rw [List.length_set]; exact hU, fun r hr => ?_⟩
        · rw [show Nats (U.set (s + j) (W (S.take i) (s + j) + W (S.take (i + 1)) j)) = D.lst ((U.map fun s : Nat => D.int s).set (s + j) (D.int ((W (S.take i) (s + j) : Int) + (W (S.take (i + 1)) j : Int)))) by
            unfold Nats
            rw [List.map_set]; rfl]
        · by_cases h : r = s + j
          · subst h
            rw [List.getElem?_set_self (by omega), if_pos (by omega), htake, W_snoc, up_eq (by omega) (W (S.take i)) (s + j), if_pos (by omega), Nat.add_sub_cancel_left]
          · rw [List.getElem?_set_ne (by omega), hV r hr]
            congr 1
            by_cases h2 : r < s + j
            · rw [if_pos h2, if_pos (by omega)]
            · rw [if_neg h2, if_neg (by omega)]
      · rintro ρ ⟨x4, U, rfl, hU, hV⟩
        refine ⟨_, x4, U, rfl, hU, fun r hr => ?_⟩
        rw [hV r hr, if_pos]
        simp; omega
    · rintro ρ ⟨x3, x4, T, rfl, hT, hW⟩
      rw [List.take_length] at hW
      simp -implicitDefEqProofs only [runF_e, sSeq_e, thn_nx, thn_rt, thn_ex, thn_ct, thn_bk, toR_rt, toR_nx, toR_ex, st_ok, st_ex, st_bind, bind_bind, RQ_ok, OQ_nx, OQ_ct, OQ_bk, OQ_rt, NQ_nx, sNil, sRet_e, sRetO_q, retK_ow, retK_sh, sRetN, sExp_e, sIf_e, sSh_e, sOw_e, sMut_q, mutK_ow, mutK2_some, sSetIx_q, setK_ow, setK2_some, sAug_q, augK_sh, augK2_int, sAugIx_q, agxK_ow, agxK0_int, agxK1_some, agxK2_int, agxK3_some, sTup_q, tupK_some, sFor_e, sNo, sBk, sCt, eV_q, eO_q, slV_sh, slO_sh, slO_ow, eC, eBin, ofO_some, asB_bl, tE, tNotD, tAndD, tOrD, eAnd, eOr, eNot, eIf, eChain, tTru, truD, aNil, aCons, eTup, eLst, oNone, oSome, asI, eSl, sliceD, eCall, eFn, eFnK, eComp, okOwn_q, slOk_sh, slOk_no, slOk_none, wipeD, noX, tYesD, itSeq_q, seqK_lst, seqK_tup, seqK_scr, itRange1_q, rng1K_e, itRange2_q, rng2K_e, itEnum_q, enmK_e, itZip_q, zipK_e, bindP, binds, eNeg, eIsi, addD, subD, mulD, fdivD, modD, powD, iop, cmpI, isND, notND, D.isN, idxD, lenD, listD, tupleD, appD_lst, setD_lst, mutK2_ite, D.isL, max2D, min2D, absD, PD.intD, D.ty, frz_cons, frz1_q, frzS_ow, frzS_sh, frzS_no, frzD_lst, frzD_int, frzD_nil, frzK_nil, frz_nil, mkSl_lst, D.isMut, R.bind_ok, R.bind_no, dec_true, decide_eq_true_eq, decide_eq_false_iff_not, Bool.not_eq_true', Bool.decide_eq_true, Bool.not_eq_eq_eq_not, List.map_cons, List.map_nil, List.length_cons, List.length_nil, List.replicate_succ, List.replicate_zero, List.cons_append, List.nil_append, List.append_nil, List.getElem?_cons_zero, List.getElem?_cons_succ, List.set_cons_zero, List.set_cons_succ, List.all_cons, List.all_nil, Bool.and_true, Bool.true_and, Bool.and_self, Bool.not_true, Bool.not_false, Bool.false_eq_true, Bool.true_eq_false, if_true, if_false, ite_true, ite_false, reduceIte, Nat.add_sub_cancel, Nat.reduceSub, Nat.reduceAdd, Nat.sub_self, Nat.zero_add, Int.reduceLT, Int.reduceLE, Int.reduceEq, Int.reduceAdd, Int.reduceSub, Int.reduceMul, Int.reduceNeg, Int.reduceMod, Int.reduceDiv, Nat.zero_le, isiD_lst, isiD_int_int, isiD_int_bool, isiD_bl_bool, isiD_tup, decide_true, decide_false]
      rw [show atI (T.map fun s : Nat => D.int s) (a : Int) = some (.int (W S a : Nat)) by
        rw [atI_natI (by omega) (by rw [List.length_map]; omega), List.getElem?_map, Int.toNat_natCast, hW _ (Nat.le_refl _)]; rfl]
      simp -implicitDefEqProofs only [runF_e, sSeq_e, thn_nx, thn_rt, thn_ex, thn_ct, thn_bk, toR_rt, toR_nx, toR_ex, st_ok, st_ex, st_bind, bind_bind, RQ_ok, OQ_nx, OQ_ct, OQ_bk, OQ_rt, NQ_nx, sNil, sRet_e, sRetO_q, retK_ow, retK_sh, sRetN, sExp_e, sIf_e, sSh_e, sOw_e, sMut_q, mutK_ow, mutK2_some, sSetIx_q, setK_ow, setK2_some, sAug_q, augK_sh, augK2_int, sAugIx_q, agxK_ow, agxK0_int, agxK1_some, agxK2_int, agxK3_some, sTup_q, tupK_some, sFor_e, sNo, sBk, sCt, eV_q, eO_q, slV_sh, slO_sh, slO_ow, eC, eBin, ofO_some, asB_bl, tE, tNotD, tAndD, tOrD, eAnd, eOr, eNot, eIf, eChain, tTru, truD, aNil, aCons, eTup, eLst, oNone, oSome, asI, eSl, sliceD, eCall, eFn, eFnK, eComp, okOwn_q, slOk_sh, slOk_no, slOk_none, wipeD, noX, tYesD, itSeq_q, seqK_lst, seqK_tup, seqK_scr, itRange1_q, rng1K_e, itRange2_q, rng2K_e, itEnum_q, enmK_e, itZip_q, zipK_e, bindP, binds, eNeg, eIsi, addD, subD, mulD, fdivD, modD, powD, iop, cmpI, isND, notND, D.isN, idxD, lenD, listD, tupleD, appD_lst, setD_lst, mutK2_ite, D.isL, max2D, min2D, absD, PD.intD, D.ty, frz_cons, frz1_q, frzS_ow, frzS_sh, frzS_no, frzD_lst, frzD_int, frzD_nil, frzK_nil, frz_nil, mkSl_lst, D.isMut, R.bind_ok, R.bind_no, dec_true, decide_eq_true_eq, decide_eq_false_iff_not, Bool.not_eq_true', Bool.decide_eq_true, Bool.not_eq_eq_eq_not, List.map_cons, List.map_nil, List.length_cons, List.length_nil, List.replicate_succ, List.replicate_zero, List.cons_append, List.nil_append, List.append_nil, List.getElem?_cons_zero, List.getElem?_cons_succ, List.set_cons_zero, List.set_cons_succ, List.all_cons, List.all_nil, Bool.and_true, Bool.true_and, Bool.and_self, Bool.not_true, Bool.not_false, Bool.false_eq_true, Bool.true_eq_false, if_true, if_false, ite_true, ite_false, reduceIte, Nat.add_sub_cancel, Nat.reduceSub, Nat.reduceAdd, Nat.sub_self, Nat.zero_add, Int.reduceLT, Int.reduceLE, Int.reduceEq, Int.reduceAdd, Int.reduceSub, Int.reduceMul, Int.reduceNeg, Int.reduceMod, Int.reduceDiv, Nat.zero_le, isiD_lst, isiD_int_int, isiD_int_bool, isiD_bl_bool, isiD_tup, decide_true, decide_false]
  obtain ⟨d, h1, rfl⟩ := key
  exact h1
end K55
namespace K55
open PySem PySem.Spec PyProof.Rows L2 PD
theorem Nats_ints (v : List Nat) : Nats v = Ints (v.map fun s : Nat => (s : Int)) := by unfold Nats Ints; rw [List.map_map]; rfl
theorem nb_nats (v : List Nat) : (Nats v).nb = true := by rw [Nats_ints]; exact nb_ints _
theorem sh_nats (v : List Nat) : (Nats v).sh 60 = true := by rw [Nats_ints]; exact sh_ints _ 59
theorem sum_cast : ∀ v : List Nat, (v.map fun s : Nat => (s : Int)).sum = ((v.sum : Nat) : Int)
  | [] => rfl
  | x :: v => by rw [List.map_cons, List.sum_cons, List.sum_cons, sum_cast v]; omega
theorem sumD_nats (v : List Nat) : sumD [Nats v] = some (.int (v.sum : Nat)) := by rw [Nats_ints, sumD_ints, sum_cast]
theorem lt_nats : ∀ a b : List Nat, ((a.map fun s : Nat => (s : Int)) < (b.map fun s : Nat => (s : Int))) ↔ a < b
  | [], [] => by simp
  | [], _ :: _ => by simp
  | _ :: _, [] => by simp
  | x :: a, y :: b => by
    rw [List.map_cons, List.map_cons, List.cons_lt_cons_iff, List.cons_lt_cons_iff, lt_nats a b]
    constructor
    · rintro (h | ⟨h1, h2⟩)
      · exact .inl (by omega)
      · exact .inr ⟨by omega, h2⟩
    · rintro (h | ⟨h1, h2⟩)
      · exact .inl (by omega)
      · exact .inr ⟨by omega, h2⟩
theorem Nats_lt (a b : List Nat) : (Nats a).lt (Nats b) = decide (a < b) := by
  rw [Nats_ints, Nats_ints, lt_ints]
  exact decide_eq_decide.mpr (lt_nats a b)
theorem asInts_lists {v : List Nat} {F : List (List Nat)} : asInts ((v :: F).map Nats) = none := rfl
theorem alk_lists (F : List (List Nat)) : alk (F.map Nats) = true := by
  unfold alk
  rw [Bool.and_eq_true, shs_all, List.all_eq_true]
  refine ⟨fun d hd => ?_, fun d hd => ?_⟩
  · obtain ⟨v, _, rfl⟩ := List.mem_map.mp hd; exact sh_nats v
  · obtain ⟨v, _, rfl⟩ := List.mem_map.mp hd
    rw [Bool.and_eq_true, List.all_eq_true]
    refine ⟨rfl, fun d' hd' => ?_⟩
    obtain ⟨w, _, rfl⟩ := List.mem_map.mp hd'
    rw [Nats_ints, Nats_ints]
    exact alike_ints _ _
theorem maxU_lists {F : List (List Nat)} {v : List Nat} (h : v ∈ F) (hl : ∀ w ∈ F, w = v ∨ w < v) : maxU [.lst (F.map Nats)] = some (Nats v) := by
  cases F with
  | nil => cases h
  | cons x F =>
    show (if alk ((x :: F).map Nats) = true then moreO ((x :: F).map Nats) else none) = _
    rw [if_pos (alk_lists _)]
    show some (moreOf (Nats x) (F.map Nats)) = _
    congr 1
    refine moreOf_is (Nats v) _ _ (List.mem_map.mpr ⟨v, h, rfl⟩) (fun y hy => ?_) ?_
    · obtain ⟨w, hw, rfl⟩ := List.mem_map.mp (show y ∈ (x :: F).map Nats from hy)
      rcases hl w hw with rfl | h1
      · exact .inl rfl
      · refine .inr ?_
        rw [Nats_lt, Nats_lt]
        exact ⟨decide_eq_true h1, decide_eq_false (List.lt_asymm h1)⟩
    · rw [Nats_lt]
      exact decide_eq_false (List.lt_irrefl v)
theorem all_ints (v : List Nat) : allD [.lst (v.map fun _ : Nat => D.bl true)] = some (.bl true) := by
  rw [show (v.map fun _ : Nat => D.bl true) = (v.map fun _ : Nat => true).map D.bl by rw [List.map_map]; rfl, allD_bls]
  congr 2
  rw [List.all_eq_true]
  intro b hb
  obtain ⟨_, _, rfl⟩ := List.mem_map.mp hb
  rfl
theorem small_ones_ok {S : List Nat} (g : Good S) (hl : S.length ≤ 4) {a : Nat} (ha : a ≤ 36) : F__law_small_ones [Nats S, .int a] = .ok (.bl true) := by
  have key : RQ (F__law_small_ones [Nats S, .int a]) fun d => d = .bl true := by
    have hS : ∀ s ∈ S, 0 < s := fun s hs => (g.rng s hs).1
    unfold F__law_small_ones
    obtain ⟨d, h1, E, rfl, hE1, hE2, hE3⟩ := law_fillings_ok (fun s hs => ⟨hS s hs, (g.rng s hs).2⟩) hl ha
    obtain ⟨d, h2, hd⟩ := best_filling_ok g (a := a) (by omega)
    simp -implicitDefEqProofs only [runF_e, sSeq_e, thn_nx, thn_rt, thn_ex, thn_ct, thn_bk, toR_rt, toR_nx, toR_ex, st_ok, st_ex, st_bind, bind_bind, RQ_ok, OQ_nx, OQ_ct, OQ_bk, OQ_rt, NQ_nx, sNil, sRet_e, sRetO_q, retK_ow, retK_sh, sRetN, sExp_e, sIf_e, sSh_e, sOw_e, sMut_q, mutK_ow, mutK2_some, sSetIx_q, setK_ow, setK2_some, sAug_q, augK_sh, augK2_int, sAugIx_q, agxK_ow, agxK0_int, agxK1_some, agxK2_int, agxK3_some, sTup_q, tupK_some, sFor_e, sNo, sBk, sCt, eV_q, eO_q, slV_sh, slO_sh, slO_ow, eC, eBin, ofO_some, asB_bl, tE, tNotD, tAndD, tOrD, eAnd, eOr, eNot, eIf, eChain, tTru, truD, aNil, aCons, eTup, eLst, oNone, oSome, asI, eSl, sliceD, eCall, eFn, eFnK, eComp, okOwn_q, slOk_sh, slOk_no, slOk_none, wipeD, noX, tYesD, itSeq_q, seqK_lst, seqK_tup, seqK_scr, itRange1_q, rng1K_e, itRange2_q, rng2K_e, itEnum_q, enmK_e, itZip_q, zipK_e, bindP, binds, eNeg, eIsi, addD, subD, mulD, fdivD, modD, powD, iop, cmpI, isND, notND, D.isN, idxD, lenD, listD, tupleD, appD_lst, setD_lst, mutK2_ite, D.isL, max2D, min2D, absD, PD.intD, D.ty, frz_cons, frz1_q, frzS_ow, frzS_sh, frzS_no, frzD_lst, frzD_int, frzD_nil, frzK_nil, frz_nil, mkSl_lst, D.isMut, R.bind_ok, R.bind_no, dec_true, decide_eq_true_eq, decide_eq_false_iff_not, Bool.not_eq_true', Bool.decide_eq_true, Bool.not_eq_eq_eq_not, List.map_cons, List.map_nil, List.length_cons, List.length_nil, List.replicate_succ, List.replicate_zero, List.cons_append, List.nil_append, List.append_nil, List.getElem?_cons_zero, List.getElem?_cons_succ, List.set_cons_zero, List.set_cons_succ, List.all_cons, List.all_nil, Bool.and_true, Bool.true_and, Bool.and_self, Bool.not_true, Bool.not_false, Bool.false_eq_true, Bool.true_eq_false, if_true, if_false, ite_true, ite_false, reduceIte, Nat.add_sub_cancel, Nat.reduceSub, Nat.reduceAdd, Nat.sub_self, Nat.zero_add, Int.reduceLT, Int.reduceLE, Int.reduceEq, Int.reduceAdd, Int.reduceSub, Int.reduceMul, Int.reduceNeg, Int.reduceMod, Int.reduceDiv, Nat.zero_le, isiD_lst, isiD_int_int, isiD_int_bool, isiD_bl_bool, isiD_tup, decide_true, decide_false, h1, h2, ways_ok g (a := a) (by omega)]
    rw [neD_self (nb_nats S) (sh_nats S)]
    simp -implicitDefEqProofs only [runF_e, sSeq_e, thn_nx, thn_rt, thn_ex, thn_ct, thn_bk, toR_rt, toR_nx, toR_ex, st_ok, st_ex, st_bind, bind_bind, RQ_ok, OQ_nx, OQ_ct, OQ_bk, OQ_rt, NQ_nx, sNil, sRet_e, sRetO_q, retK_ow, retK_sh, sRetN, sExp_e, sIf_e, sSh_e, sOw_e, sMut_q, mutK_ow, mutK2_some, sSetIx_q, setK_ow, setK2_some, sAug_q, augK_sh, augK2_int, sAugIx_q, agxK_ow, agxK0_int, agxK1_some, agxK2_int, agxK3_some, sTup_q, tupK_some, sFor_e, sNo, sBk, sCt, eV_q, eO_q, slV_sh, slO_sh, slO_ow, eC, eBin, ofO_some, asB_bl, tE, tNotD, tAndD, tOrD, eAnd, eOr, eNot, eIf, eChain, tTru, truD, aNil, aCons, eTup, eLst, oNone, oSome, asI, eSl, sliceD, eCall, eFn, eFnK, eComp, okOwn_q, slOk_sh, slOk_no, slOk_none, wipeD, noX, tYesD, itSeq_q, seqK_lst, seqK_tup, seqK_scr, itRange1_q, rng1K_e, itRange2_q, rng2K_e, itEnum_q, enmK_e, itZip_q, zipK_e, bindP, binds, eNeg, eIsi, addD, subD, mulD, fdivD, modD, powD, iop, cmpI, isND, notND, D.isN, idxD, lenD, listD, tupleD, appD_lst, setD_lst, mutK2_ite, D.isL, max2D, min2D, absD, PD.intD, D.ty, frz_cons, frz1_q, frzS_ow, frzS_sh, frzS_no, frzD_lst, frzD_int, frzD_nil, frzK_nil, frz_nil, mkSl_lst, D.isMut, R.bind_ok, R.bind_no, dec_true, decide_eq_true_eq, decide_eq_false_iff_not, Bool.not_eq_true', Bool.decide_eq_true, Bool.not_eq_eq_eq_not, List.map_cons, List.map_nil, List.length_cons, List.length_nil, List.replicate_succ, List.replicate_zero, List.cons_append, List.nil_append, List.append_nil, List.getElem?_cons_zero, List.getElem?_cons_succ, List.set_cons_zero, List.set_cons_succ, List.all_cons, List.all_nil, Bool.and_true, Bool.true_and, Bool.and_self, Bool.not_true, Bool.not_false, Bool.false_eq_true, Bool.true_eq_false, if_true, if_false, ite_true, ite_false, reduceIte, Nat.add_sub_cancel, Nat.reduceSub, Nat.reduceAdd, Nat.sub_self, Nat.zero_add, Int.reduceLT, Int.reduceLE, Int.reduceEq, Int.reduceAdd, Int.reduceSub, Int.reduceMul, Int.reduceNeg, Int.reduceMod, Int.reduceDiv, Nat.zero_le, isiD_lst, isiD_int_int, isiD_int_bool, isiD_bl_bool, isiD_tup, decide_true, decide_false, is_integer_int, List.length_map, hE2, neD_int]
    by_cases he : E = []
    · subst he
      simp -implicitDefEqProofs only [runF_e, sSeq_e, thn_nx, thn_rt, thn_ex, thn_ct, thn_bk, toR_rt, toR_nx, toR_ex, st_ok, st_ex, st_bind, bind_bind, RQ_ok, OQ_nx, OQ_ct, OQ_bk, OQ_rt, NQ_nx, sNil, sRet_e, sRetO_q, retK_ow, retK_sh, sRetN, sExp_e, sIf_e, sSh_e, sOw_e, sMut_q, mutK_ow, mutK2_some, sSetIx_q, setK_ow, setK2_some, sAug_q, augK_sh, augK2_int, sAugIx_q, agxK_ow, agxK0_int, agxK1_some, agxK2_int, agxK3_some, sTup_q, tupK_some, sFor_e, sNo, sBk, sCt, eV_q, eO_q, slV_sh, slO_sh, slO_ow, eC, eBin, ofO_some, asB_bl, tE, tNotD, tAndD, tOrD, eAnd, eOr, eNot, eIf, eChain, tTru, truD, aNil, aCons, eTup, eLst, oNone, oSome, asI, eSl, sliceD, eCall, eFn, eFnK, eComp, okOwn_q, slOk_sh, slOk_no, slOk_none, wipeD, noX, tYesD, itSeq_q, seqK_lst, seqK_tup, seqK_scr, itRange1_q, rng1K_e, itRange2_q, rng2K_e, itEnum_q, enmK_e, itZip_q, zipK_e, bindP, binds, eNeg, eIsi, addD, subD, mulD, fdivD, modD, powD, iop, cmpI, isND, notND, D.isN, idxD, lenD, listD, tupleD, appD_lst, setD_lst, mutK2_ite, D.isL, max2D, min2D, absD, PD.intD, D.ty, frz_cons, frz1_q, frzS_ow, frzS_sh, frzS_no, frzD_lst, frzD_int, frzD_nil, frzK_nil, frz_nil, mkSl_lst, D.isMut, R.bind_ok, R.bind_no, dec_true, decide_eq_true_eq, decide_eq_false_iff_not, Bool.not_eq_true', Bool.decide_eq_true, Bool.not_eq_eq_eq_not, List.map_cons, List.map_nil, List.length_cons, List.length_nil, List.replicate_succ, List.replicate_zero, List.cons_append, List.nil_append, List.append_nil, List.getElem?_cons_zero, List.getElem?_cons_succ, List.set_cons_zero, List.set_cons_succ, List.all_cons, List.all_nil, Bool.and_true, Bool.true_and, Bool.and_self, Bool.not_true, Bool.not_false, Bool.false_eq_true, Bool.true_eq_false, if_true, if_false, ite_true, ite_false, reduceIte, Nat.add_sub_cancel, Nat.reduceSub, Nat.reduceAdd, Nat.sub_self, Nat.zero_add, Int.reduceLT, Int.reduceLE, Int.reduceEq, Int.reduceAdd, Int.reduceSub, Int.reduceMul, Int.reduceNeg, Int.reduceMod, Int.reduceDiv, Nat.zero_le, isiD_lst, isiD_int_int, isiD_int_bool, isiD_bl_bool, isiD_tup, decide_true, decide_false, List.isEmpty_nil]
      rcases hd with ⟨rfl, _⟩ | ⟨m, v, hm, rfl, hb⟩
      · simp -implicitDefEqProofs only [runF_e, sSeq_e, thn_nx, thn_rt, thn_ex, thn_ct, thn_bk, toR_rt, toR_nx, toR_ex, st_ok, st_ex, st_bind, bind_bind, RQ_ok, OQ_nx, OQ_ct, OQ_bk, OQ_rt, NQ_nx, sNil, sRet_e, sRetO_q, retK_ow, retK_sh, sRetN, sExp_e, sIf_e, sSh_e, sOw_e, sMut_q, mutK_ow, mutK2_some, sSetIx_q, setK_ow, setK2_some, sAug_q, augK_sh, augK2_int, sAugIx_q, agxK_ow, agxK0_int, agxK1_some, agxK2_int, agxK3_some, sTup_q, tupK_some, sFor_e, sNo, sBk, sCt, eV_q, eO_q, slV_sh, slO_sh, slO_ow, eC, eBin, ofO_some, asB_bl, tE, tNotD, tAndD, tOrD, eAnd, eOr, eNot, eIf, eChain, tTru, truD, aNil, aCons, eTup, eLst, oNone, oSome, asI, eSl, sliceD, eCall, eFn, eFnK, eComp, okOwn_q, slOk_sh, slOk_no, slOk_none, wipeD, noX, tYesD, itSeq_q, seqK_lst, seqK_tup, seqK_scr, itRange1_q, rng1K_e, itRange2_q, rng2K_e, itEnum_q, enmK_e, itZip_q, zipK_e, bindP, binds, eNeg, eIsi, addD, subD, mulD, fdivD, modD, powD, iop, cmpI, isND, notND, D.isN, idxD, lenD, listD, tupleD, appD_lst, setD_lst, mutK2_ite, D.isL, max2D, min2D, absD, PD.intD, D.ty, frz_cons, frz1_q, frzS_ow, frzS_sh, frzS_no, frzD_lst, frzD_int, frzD_nil, frzK_nil, frz_nil, mkSl_lst, D.isMut, R.bind_ok, R.bind_no, dec_true, decide_eq_true_eq, decide_eq_false_iff_not, Bool.not_eq_true', Bool.decide_eq_true, Bool.not_eq_eq_eq_not, List.map_cons, List.map_nil, List.length_cons, List.length_nil, List.replicate_succ, List.replicate_zero, List.cons_append, List.nil_append, List.append_nil, List.getElem?_cons_zero, List.getElem?_cons_succ, List.set_cons_zero, List.set_cons_succ, List.all_cons, List.all_nil, Bool.and_true, Bool.true_and, Bool.and_self, Bool.not_true, Bool.not_false, Bool.false_eq_true, Bool.true_eq_false, if_true, if_false, ite_true, ite_false, reduceIte, Nat.add_sub_cancel, Nat.reduceSub, Nat.reduceAdd, Nat.sub_self, Nat.zero_add, Int.reduceLT, Int.reduceLE, Int.reduceEq, Int.reduceAdd, Int.reduceSub, Int.reduceMul, Int.reduceNeg, Int.reduceMod, Int.reduceDiv, Nat.zero_le, isiD_lst, isiD_int_int, isiD_int_bool, isiD_bl_bool, isiD_tup, decide_true, decide_false]
      · obtain ⟨q1, q2, _⟩ := hb.spec
        have := (hE1 v).mpr ⟨q1, q2⟩
        cases this
    · have hie : (E.map Nats).isEmpty = false := by cases E with | nil => exact absurd rfl he | cons _ _ => rfl
      rcases hd with ⟨rfl, hn⟩ | ⟨m, v, hm, rfl, hb⟩
      · obtain ⟨w, hw⟩ := List.exists_mem_of_ne_nil E he
        have := (hE1 w).mp hw
        exact absurd ⟨w, this.1, this.2, rfl⟩ (hn w.sum)
      · obtain ⟨q1, q2, q3⟩ := hb.spec
        have hv := (hE1 v).mpr ⟨q1, q2⟩
        simp -implicitDefEqProofs only [runF_e, sSeq_e, thn_nx, thn_rt, thn_ex, thn_ct, thn_bk, toR_rt, toR_nx, toR_ex, st_ok, st_ex, st_bind, bind_bind, RQ_ok, OQ_nx, OQ_ct, OQ_bk, OQ_rt, NQ_nx, sNil, sRet_e, sRetO_q, retK_ow, retK_sh, sRetN, sExp_e, sIf_e, sSh_e, sOw_e, sMut_q, mutK_ow, mutK2_some, sSetIx_q, setK_ow, setK2_some, sAug_q, augK_sh, augK2_int, sAugIx_q, agxK_ow, agxK0_int, agxK1_some, agxK2_int, agxK3_some, sTup_q, tupK_some, sFor_e, sNo, sBk, sCt, eV_q, eO_q, slV_sh, slO_sh, slO_ow, eC, eBin, ofO_some, asB_bl, tE, tNotD, tAndD, tOrD, eAnd, eOr, eNot, eIf, eChain, tTru, truD, aNil, aCons, eTup, eLst, oNone, oSome, asI, eSl, sliceD, eCall, eFn, eFnK, eComp, okOwn_q, slOk_sh, slOk_no, slOk_none, wipeD, noX, tYesD, itSeq_q, seqK_lst, seqK_tup, seqK_scr, itRange1_q, rng1K_e, itRange2_q, rng2K_e, itEnum_q, enmK_e, itZip_q, zipK_e, bindP, binds, eNeg, eIsi, addD, subD, mulD, fdivD, modD, powD, iop, cmpI, isND, notND, D.isN, idxD, lenD, listD, tupleD, appD_lst, setD_lst, mutK2_ite, D.isL, max2D, min2D, absD, PD.intD, D.ty, frz_cons, frz1_q, frzS_ow, frzS_sh, frzS_no, frzD_lst, frzD_int, frzD_nil, frzK_nil, frz_nil, mkSl_lst, D.isMut, R.bind_ok, R.bind_no, dec_true, decide_eq_true_eq, decide_eq_false_iff_not, Bool.not_eq_true', Bool.decide_eq_true, Bool.not_eq_eq_eq_not, List.map_cons, List.map_nil, List.length_cons, List.length_nil, List.replicate_succ, List.replicate_zero, List.cons_append, List.nil_append, List.append_nil, List.getElem?_cons_zero, List.getElem?_cons_succ, List.set_cons_zero, List.set_cons_succ, List.all_cons, List.all_nil, Bool.and_true, Bool.true_and, Bool.and_self, Bool.not_true, Bool.not_false, Bool.false_eq_true, Bool.true_eq_false, if_true, if_false, ite_true, ite_false, reduceIte, Nat.add_sub_cancel, Nat.reduceSub, Nat.reduceAdd, Nat.sub_self, Nat.zero_add, Int.reduceLT, Int.reduceLE, Int.reduceEq, Int.reduceAdd, Int.reduceSub, Int.reduceMul, Int.reduceNeg, Int.reduceMod, Int.reduceDiv, Nat.zero_le, isiD_lst, isiD_int_int, isiD_int_bool, isiD_bl_bool, isiD_tup, decide_true, decide_false, hie]
        rw [compD_all Nats (fun v => D.int (v.sum : Nat)) E fun w hw => ⟨_, rfl, by simp -implicitDefEqProofs only [runF_e, sSeq_e, thn_nx, thn_rt, thn_ex, thn_ct, thn_bk, toR_rt, toR_nx, toR_ex, st_ok, st_ex, st_bind, bind_bind, RQ_ok, OQ_nx, OQ_ct, OQ_bk, OQ_rt, NQ_nx, sNil, sRet_e, sRetO_q, retK_ow, retK_sh, sRetN, sExp_e, sIf_e, sSh_e, sOw_e, sMut_q, mutK_ow, mutK2_some, sSetIx_q, setK_ow, setK2_some, sAug_q, augK_sh, augK2_int, sAugIx_q, agxK_ow, agxK0_int, agxK1_some, agxK2_int, agxK3_some, sTup_q, tupK_some, sFor_e, sNo, sBk, sCt, eV_q, eO_q, slV_sh, slO_sh, slO_ow, eC, eBin, ofO_some, asB_bl, tE, tNotD, tAndD, tOrD, eAnd, eOr, eNot, eIf, eChain, tTru, truD, aNil, aCons, eTup, eLst, oNone, oSome, asI, eSl, sliceD, eCall, eFn, eFnK, eComp, okOwn_q, slOk_sh, slOk_no, slOk_none, wipeD, noX, tYesD, itSeq_q, seqK_lst, seqK_tup, seqK_scr, itRange1_q, rng1K_e, itRange2_q, rng2K_e, itEnum_q, enmK_e, itZip_q, zipK_e, bindP, binds, eNeg, eIsi, addD, subD, mulD, fdivD, modD, powD, iop, cmpI, isND, notND, D.isN, idxD, lenD, listD, tupleD, appD_lst, setD_lst, mutK2_ite, D.isL, max2D, min2D, absD, PD.intD, D.ty, frz_cons, frz1_q, frzS_ow, frzS_sh, frzS_no, frzD_lst, frzD_int, frzD_nil, frzK_nil, frz_nil, mkSl_lst, D.isMut, R.bind_ok, R.bind_no, dec_true, decide_eq_true_eq, decide_eq_false_iff_not, Bool.not_eq_true', Bool.decide_eq_true, Bool.not_eq_eq_eq_not, List.map_cons, List.map_nil, List.length_cons, List.length_nil, List.replicate_succ, List.replicate_zero, List.cons_append, List.nil_append, List.append_nil, List.getElem?_cons_zero, List.getElem?_cons_succ, List.set_cons_zero, List.set_cons_succ, List.all_cons, List.all_nil, Bool.and_true, Bool.true_and, Bool.and_self, Bool.not_true, Bool.not_false, Bool.false_eq_true, Bool.true_eq_false, if_true, if_false, ite_true, ite_false, reduceIte, Nat.add_sub_cancel, Nat.reduceSub, Nat.reduceAdd, Nat.sub_self, Nat.zero_add, Int.reduceLT, Int.reduceLE, Int.reduceEq, Int.reduceAdd, Int.reduceSub, Int.reduceMul, Int.reduceNeg, Int.reduceMod, Int.reduceDiv, Nat.zero_le, isiD_lst, isiD_int_int, isiD_int_bool, isiD_bl_bool, isiD_tup, decide_true, decide_false, sumD_nats]⟩]
        simp -implicitDefEqProofs only [runF_e, sSeq_e, thn_nx, thn_rt, thn_ex, thn_ct, thn_bk, toR_rt, toR_nx, toR_ex, st_ok, st_ex, st_bind, bind_bind, RQ_ok, OQ_nx, OQ_ct, OQ_bk, OQ_rt, NQ_nx, sNil, sRet_e, sRetO_q, retK_ow, retK_sh, sRetN, sExp_e, sIf_e, sSh_e, sOw_e, sMut_q, mutK_ow, mutK2_some, sSetIx_q, setK_ow, setK2_some, sAug_q, augK_sh, augK2_int, sAugIx_q, agxK_ow, agxK0_int, agxK1_some, agxK2_int, agxK3_some, sTup_q, tupK_some, sFor_e, sNo, sBk, sCt, eV_q, eO_q, slV_sh, slO_sh, slO_ow, eC, eBin, ofO_some, asB_bl, tE, tNotD, tAndD, tOrD, eAnd, eOr, eNot, eIf, eChain, tTru, truD, aNil, aCons, eTup, eLst, oNone, oSome, asI, eSl, sliceD, eCall, eFn, eFnK, eComp, okOwn_q, slOk_sh, slOk_no, slOk_none, wipeD, noX, tYesD, itSeq_q, seqK_lst, seqK_tup, seqK_scr, itRange1_q, rng1K_e, itRange2_q, rng2K_e, itEnum_q, enmK_e, itZip_q, zipK_e, bindP, binds, eNeg, eIsi, addD, subD, mulD, fdivD, modD, powD, iop, cmpI, isND, notND, D.isN, idxD, lenD, listD, tupleD, appD_lst, setD_lst, mutK2_ite, D.isL, max2D, min2D, absD, PD.intD, D.ty, frz_cons, frz1_q, frzS_ow, frzS_sh, frzS_no, frzD_lst, frzD_int, frzD_nil, frzK_nil, frz_nil, mkSl_lst, D.isMut, R.bind_ok, R.bind_no, dec_true, decide_eq_true_eq, decide_eq_false_iff_not, Bool.not_eq_true', Bool.decide_eq_true, Bool.not_eq_eq_eq_not, List.map_cons, List.map_nil, List.length_cons, List.length_nil, List.replicate_succ, List.replicate_zero, List.cons_append, List.nil_append, List.append_nil, List.getElem?_cons_zero, List.getElem?_cons_succ, List.set_cons_zero, List.set_cons_succ, List.all_cons, List.all_nil, Bool.and_true, Bool.true_and, Bool.and_self, Bool.not_true, Bool.not_false, Bool.false_eq_true, Bool.true_eq_false, if_true, if_false, ite_true, ite_false, reduceIte, Nat.add_sub_cancel, Nat.reduceSub, Nat.reduceAdd, Nat.sub_self, Nat.zero_add, Int.reduceLT, Int.reduceLE, Int.reduceEq, Int.reduceAdd, Int.reduceSub, Int.reduceMul, Int.reduceNeg, Int.reduceMod, Int.reduceDiv, Nat.zero_le, isiD_lst, isiD_int_int, isiD_int_bool, isiD_bl_bool, isiD_tup, decide_true, decide_false, List.length_map]
        rw [if_pos (by rw [szL]; omega)]
        simp -implicitDefEqProofs only [runF_e, sSeq_e, thn_nx, thn_rt, thn_ex, thn_ct, thn_bk, toR_rt, toR_nx, toR_ex, st_ok, st_ex, st_bind, bind_bind, RQ_ok, OQ_nx, OQ_ct, OQ_bk, OQ_rt, NQ_nx, sNil, sRet_e, sRetO_q, retK_ow, retK_sh, sRetN, sExp_e, sIf_e, sSh_e, sOw_e, sMut_q, mutK_ow, mutK2_some, sSetIx_q, setK_ow, setK2_some, sAug_q, augK_sh, augK2_int, sAugIx_q, agxK_ow, agxK0_int, agxK1_some, agxK2_int, agxK3_some, sTup_q, tupK_some, sFor_e, sNo, sBk, sCt, eV_q, eO_q, slV_sh, slO_sh, slO_ow, eC, eBin, ofO_some, asB_bl, tE, tNotD, tAndD, tOrD, eAnd, eOr, eNot, eIf, eChain, tTru, truD, aNil, aCons, eTup, eLst, oNone, oSome, asI, eSl, sliceD, eCall, eFn, eFnK, eComp, okOwn_q, slOk_sh, slOk_no, slOk_none, wipeD, noX, tYesD, itSeq_q, seqK_lst, seqK_tup, seqK_scr, itRange1_q, rng1K_e, itRange2_q, rng2K_e, itEnum_q, enmK_e, itZip_q, zipK_e, bindP, binds, eNeg, eIsi, addD, subD, mulD, fdivD, modD, powD, iop, cmpI, isND, notND, D.isN, idxD, lenD, listD, tupleD, appD_lst, setD_lst, mutK2_ite, D.isL, max2D, min2D, absD, PD.intD, D.ty, frz_cons, frz1_q, frzS_ow, frzS_sh, frzS_no, frzD_lst, frzD_int, frzD_nil, frzK_nil, frz_nil, mkSl_lst, D.isMut, R.bind_ok, R.bind_no, dec_true, decide_eq_true_eq, decide_eq_false_iff_not, Bool.not_eq_true', Bool.decide_eq_true, Bool.not_eq_eq_eq_not, List.map_cons, List.map_nil, List.length_cons, List.length_nil, List.replicate_succ, List.replicate_zero, List.cons_append, List.nil_append, List.append_nil, List.getElem?_cons_zero, List.getElem?_cons_succ, List.set_cons_zero, List.set_cons_succ, List.all_cons, List.all_nil, Bool.and_true, Bool.true_and, Bool.and_self, Bool.not_true, Bool.not_false, Bool.false_eq_true, Bool.true_eq_false, if_true, if_false, ite_true, ite_false, reduceIte, Nat.add_sub_cancel, Nat.reduceSub, Nat.reduceAdd, Nat.sub_self, Nat.zero_add, Int.reduceLT, Int.reduceLE, Int.reduceEq, Int.reduceAdd, Int.reduceSub, Int.reduceMul, Int.reduceNeg, Int.reduceMod, Int.reduceDiv, Nat.zero_le, isiD_lst, isiD_int_int, isiD_int_bool, isiD_bl_bool, isiD_tup, decide_true, decide_false]
        obtain ⟨k, e1, e2, e3⟩ := minU_o (E.map List.sum) (by simpa using he)
        have e1 : minU [D.lst (E.map fun v => D.int (v.sum : Nat))] = some (.int (k : Nat)) := by
          rw [← e1]
          unfold Nats
          rw [List.map_map]; rfl
        have hk : k = m := by
          obtain ⟨w, hw, rfl⟩ := List.mem_map.mp e2
          have h3 := (hE1 w).mp hw
          have h4 := hm.2 w.sum ⟨w, h3.1, h3.2, rfl⟩
          have h5 := e3 v.sum (List.mem_map.mpr ⟨v, hv, rfl⟩)
          omega
        subst hk
        simp -implicitDefEqProofs only [runF_e, sSeq_e, thn_nx, thn_rt, thn_ex, thn_ct, thn_bk, toR_rt, toR_nx, toR_ex, st_ok, st_ex, st_bind, bind_bind, RQ_ok, OQ_nx, OQ_ct, OQ_bk, OQ_rt, NQ_nx, sNil, sRet_e, sRetO_q, retK_ow, retK_sh, sRetN, sExp_e, sIf_e, sSh_e, sOw_e, sMut_q, mutK_ow, mutK2_some, sSetIx_q, setK_ow, setK2_some, sAug_q, augK_sh, augK2_int, sAugIx_q, agxK_ow, agxK0_int, agxK1_some, agxK2_int, agxK3_some, sTup_q, tupK_some, sFor_e, sNo, sBk, sCt, eV_q, eO_q, slV_sh, slO_sh, slO_ow, eC, eBin, ofO_some, asB_bl, tE, tNotD, tAndD, tOrD, eAnd, eOr, eNot, eIf, eChain, tTru, truD, aNil, aCons, eTup, eLst, oNone, oSome, asI, eSl, sliceD, eCall, eFn, eFnK, eComp, okOwn_q, slOk_sh, slOk_no, slOk_none, wipeD, noX, tYesD, itSeq_q, seqK_lst, seqK_tup, seqK_scr, itRange1_q, rng1K_e, itRange2_q, rng2K_e, itEnum_q, enmK_e, itZip_q, zipK_e, bindP, binds, eNeg, eIsi, addD, subD, mulD, fdivD, modD, powD, iop, cmpI, isND, notND, D.isN, idxD, lenD, listD, tupleD, appD_lst, setD_lst, mutK2_ite, D.isL, max2D, min2D, absD, PD.intD, D.ty, frz_cons, frz1_q, frzS_ow, frzS_sh, frzS_no, frzD_lst, frzD_int, frzD_nil, frzK_nil, frz_nil, mkSl_lst, D.isMut, R.bind_ok, R.bind_no, dec_true, decide_eq_true_eq, decide_eq_false_iff_not, Bool.not_eq_true', Bool.decide_eq_true, Bool.not_eq_eq_eq_not, List.map_cons, List.map_nil, List.length_cons, List.length_nil, List.replicate_succ, List.replicate_zero, List.cons_append, List.nil_append, List.append_nil, List.getElem?_cons_zero, List.getElem?_cons_succ, List.set_cons_zero, List.set_cons_succ, List.all_cons, List.all_nil, Bool.and_true, Bool.true_and, Bool.and_self, Bool.not_true, Bool.not_false, Bool.false_eq_true, Bool.true_eq_false, if_true, if_false, ite_true, ite_false, reduceIte, Nat.add_sub_cancel, Nat.reduceSub, Nat.reduceAdd, Nat.sub_self, Nat.zero_add, Int.reduceLT, Int.reduceLE, Int.reduceEq, Int.reduceAdd, Int.reduceSub, Int.reduceMul, Int.reduceNeg, Int.reduceMod, Int.reduceDiv, Nat.zero_le, isiD_lst, isiD_int_int, isiD_int_bool, isiD_bl_bool, isiD_tup, decide_true, decide_false, e1]
        rw [compD_map Nats (fun w => decide (w.sum = k)) Nats E fun w hw => ⟨_, rfl, by simp -implicitDefEqProofs only [runF_e, sSeq_e, thn_nx, thn_rt, thn_ex, thn_ct, thn_bk, toR_rt, toR_nx, toR_ex, st_ok, st_ex, st_bind, bind_bind, RQ_ok, OQ_nx, OQ_ct, OQ_bk, OQ_rt, NQ_nx, sNil, sRet_e, sRetO_q, retK_ow, retK_sh, sRetN, sExp_e, sIf_e, sSh_e, sOw_e, sMut_q, mutK_ow, mutK2_some, sSetIx_q, setK_ow, setK2_some, sAug_q, augK_sh, augK2_int, sAugIx_q, agxK_ow, agxK0_int, agxK1_some, agxK2_int, agxK3_some, sTup_q, tupK_some, sFor_e, sNo, sBk, sCt, eV_q, eO_q, slV_sh, slO_sh, slO_ow, eC, eBin, ofO_some, asB_bl, tE, tNotD, tAndD, tOrD, eAnd, eOr, eNot, eIf, eChain, tTru, truD, aNil, aCons, eTup, eLst, oNone, oSome, asI, eSl, sliceD, eCall, eFn, eFnK, eComp, okOwn_q, slOk_sh, slOk_no, slOk_none, wipeD, noX, tYesD, itSeq_q, seqK_lst, seqK_tup, seqK_scr, itRange1_q, rng1K_e, itRange2_q, rng2K_e, itEnum_q, enmK_e, itZip_q, zipK_e, bindP, binds, eNeg, eIsi, addD, subD, mulD, fdivD, modD, powD, iop, cmpI, isND, notND, D.isN, idxD, lenD, listD, tupleD, appD_lst, setD_lst, mutK2_ite, D.isL, max2D, min2D, absD, PD.intD, D.ty, frz_cons, frz1_q, frzS_ow, frzS_sh, frzS_no, frzD_lst, frzD_int, frzD_nil, frzK_nil, frz_nil, mkSl_lst, D.isMut, R.bind_ok, R.bind_no, dec_true, decide_eq_true_eq, decide_eq_false_iff_not, Bool.not_eq_true', Bool.decide_eq_true, Bool.not_eq_eq_eq_not, List.map_cons, List.map_nil, List.length_cons, List.length_nil, List.replicate_succ, List.replicate_zero, List.cons_append, List.nil_append, List.append_nil, List.getElem?_cons_zero, List.getElem?_cons_succ, List.set_cons_zero, List.set_cons_succ, List.all_cons, List.all_nil, Bool.and_true, Bool.true_and, Bool.and_self, Bool.not_true, Bool.not_false, Bool.false_eq_true, Bool.true_eq_false, if_true, if_false, ite_true, ite_false, reduceIte, Nat.add_sub_cancel, Nat.reduceSub, Nat.reduceAdd, Nat.sub_self, Nat.zero_add, Int.reduceLT, Int.reduceLE, Int.reduceEq, Int.reduceAdd, Int.reduceSub, Int.reduceMul, Int.reduceNeg, Int.reduceMod, Int.reduceDiv, Nat.zero_le, isiD_lst, isiD_int_int, isiD_int_bool, isiD_bl_bool, isiD_tup, decide_true, decide_false, sumD_nats, eqD_int]; simp; omega, fun _ => by simp -implicitDefEqProofs only [runF_e, sSeq_e, thn_nx, thn_rt, thn_ex, thn_ct, thn_bk, toR_rt, toR_nx, toR_ex, st_ok, st_ex, st_bind, bind_bind, RQ_ok, OQ_nx, OQ_ct, OQ_bk, OQ_rt, NQ_nx, sNil, sRet_e, sRetO_q, retK_ow, retK_sh, sRetN, sExp_e, sIf_e, sSh_e, sOw_e, sMut_q, mutK_ow, mutK2_some, sSetIx_q, setK_ow, setK2_some, sAug_q, augK_sh, augK2_int, sAugIx_q, agxK_ow, agxK0_int, agxK1_some, agxK2_int, agxK3_some, sTup_q, tupK_some, sFor_e, sNo, sBk, sCt, eV_q, eO_q, slV_sh, slO_sh, slO_ow, eC, eBin, ofO_some, asB_bl, tE, tNotD, tAndD, tOrD, eAnd, eOr, eNot, eIf, eChain, tTru, truD, aNil, aCons, eTup, eLst, oNone, oSome, asI, eSl, sliceD, eCall, eFn, eFnK, eComp, okOwn_q, slOk_sh, slOk_no, slOk_none, wipeD, noX, tYesD, itSeq_q, seqK_lst, seqK_tup, seqK_scr, itRange1_q, rng1K_e, itRange2_q, rng2K_e, itEnum_q, enmK_e, itZip_q, zipK_e, bindP, binds, eNeg, eIsi, addD, subD, mulD, fdivD, modD, powD, iop, cmpI, isND, notND, D.isN, idxD, lenD, listD, tupleD, appD_lst, setD_lst, mutK2_ite, D.isL, max2D, min2D, absD, PD.intD, D.ty, frz_cons, frz1_q, frzS_ow, frzS_sh, frzS_no, frzD_lst, frzD_int, frzD_nil, frzK_nil, frz_nil, mkSl_lst, D.isMut, R.bind_ok, R.bind_no, dec_true, decide_eq_true_eq, decide_eq_false_iff_not, Bool.not_eq_true', Bool.decide_eq_true, Bool.not_eq_eq_eq_not, List.map_cons, List.map_nil, List.length_cons, List.length_nil, List.replicate_succ, List.replicate_zero, List.cons_append, List.nil_append, List.append_nil, List.getElem?_cons_zero, List.getElem?_cons_succ, List.set_cons_zero, List.set_cons_succ, List.all_cons, List.all_nil, Bool.and_true, Bool.true_and, Bool.and_self, Bool.not_true, Bool.not_false, Bool.false_eq_true, Bool.true_eq_false, if_true, if_false, ite_true, ite_false, reduceIte, Nat.add_sub_cancel, Nat.reduceSub, Nat.reduceAdd, Nat.sub_self, Nat.zero_add, Int.reduceLT, Int.reduceLE, Int.reduceEq, Int.reduceAdd, Int.reduceSub, Int.reduceMul, Int.reduceNeg, Int.reduceMod, Int.reduceDiv, Nat.zero_le, isiD_lst, isiD_int_int, isiD_int_bool, isiD_bl_bool, isiD_tup, decide_true, decide_false]⟩]
        have hfl : (E.filter fun w => decide (w.sum = k)).length ≤ E.length := List.length_filter_le _ _
        simp -implicitDefEqProofs only [runF_e, sSeq_e, thn_nx, thn_rt, thn_ex, thn_ct, thn_bk, toR_rt, toR_nx, toR_ex, st_ok, st_ex, st_bind, bind_bind, RQ_ok, OQ_nx, OQ_ct, OQ_bk, OQ_rt, NQ_nx, sNil, sRet_e, sRetO_q, retK_ow, retK_sh, sRetN, sExp_e, sIf_e, sSh_e, sOw_e, sMut_q, mutK_ow, mutK2_some, sSetIx_q, setK_ow, setK2_some, sAug_q, augK_sh, augK2_int, sAugIx_q, agxK_ow, agxK0_int, agxK1_some, agxK2_int, agxK3_some, sTup_q, tupK_some, sFor_e, sNo, sBk, sCt, eV_q, eO_q, slV_sh, slO_sh, slO_ow, eC, eBin, ofO_some, asB_bl, tE, tNotD, tAndD, tOrD, eAnd, eOr, eNot, eIf, eChain, tTru, truD, aNil, aCons, eTup, eLst, oNone, oSome, asI, eSl, sliceD, eCall, eFn, eFnK, eComp, okOwn_q, slOk_sh, slOk_no, slOk_none, wipeD, noX, tYesD, itSeq_q, seqK_lst, seqK_tup, seqK_scr, itRange1_q, rng1K_e, itRange2_q, rng2K_e, itEnum_q, enmK_e, itZip_q, zipK_e, bindP, binds, eNeg, eIsi, addD, subD, mulD, fdivD, modD, powD, iop, cmpI, isND, notND, D.isN, idxD, lenD, listD, tupleD, appD_lst, setD_lst, mutK2_ite, D.isL, max2D, min2D, absD, PD.intD, D.ty, frz_cons, frz1_q, frzS_ow, frzS_sh, frzS_no, frzD_lst, frzD_int, frzD_nil, frzK_nil, frz_nil, mkSl_lst, D.isMut, R.bind_ok, R.bind_no, dec_true, decide_eq_true_eq, decide_eq_false_iff_not, Bool.not_eq_true', Bool.decide_eq_true, Bool.not_eq_eq_eq_not, List.map_cons, List.map_nil, List.length_cons, List.length_nil, List.replicate_succ, List.replicate_zero, List.cons_append, List.nil_append, List.append_nil, List.getElem?_cons_zero, List.getElem?_cons_succ, List.set_cons_zero, List.set_cons_succ, List.all_cons, List.all_nil, Bool.and_true, Bool.true_and, Bool.and_self, Bool.not_true, Bool.not_false, Bool.false_eq_true, Bool.true_eq_false, if_true, if_false, ite_true, ite_false, reduceIte, Nat.add_sub_cancel, Nat.reduceSub, Nat.reduceAdd, Nat.sub_self, Nat.zero_add, Int.reduceLT, Int.reduceLE, Int.reduceEq, Int.reduceAdd, Int.reduceSub, Int.reduceMul, Int.reduceNeg, Int.reduceMod, Int.reduceDiv, Nat.zero_le, isiD_lst, isiD_int_int, isiD_int_bool, isiD_bl_bool, isiD_tup, decide_true, decide_false, List.length_map]
        rw [if_pos (by rw [szL]; omega)]
        simp -implicitDefEqProofs only [runF_e, sSeq_e, thn_nx, thn_rt, thn_ex, thn_ct, thn_bk, toR_rt, toR_nx, toR_ex, st_ok, st_ex, st_bind, bind_bind, RQ_ok, OQ_nx, OQ_ct, OQ_bk, OQ_rt, NQ_nx, sNil, sRet_e, sRetO_q, retK_ow, retK_sh, sRetN, sExp_e, sIf_e, sSh_e, sOw_e, sMut_q, mutK_ow, mutK2_some, sSetIx_q, setK_ow, setK2_some, sAug_q, augK_sh, augK2_int, sAugIx_q, agxK_ow, agxK0_int, agxK1_some, agxK2_int, agxK3_some, sTup_q, tupK_some, sFor_e, sNo, sBk, sCt, eV_q, eO_q, slV_sh, slO_sh, slO_ow, eC, eBin, ofO_some, asB_bl, tE, tNotD, tAndD, tOrD, eAnd, eOr, eNot, eIf, eChain, tTru, truD, aNil, aCons, eTup, eLst, oNone, oSome, asI, eSl, sliceD, eCall, eFn, eFnK, eComp, okOwn_q, slOk_sh, slOk_no, slOk_none, wipeD, noX, tYesD, itSeq_q, seqK_lst, seqK_tup, seqK_scr, itRange1_q, rng1K_e, itRange2_q, rng2K_e, itEnum_q, enmK_e, itZip_q, zipK_e, bindP, binds, eNeg, eIsi, addD, subD, mulD, fdivD, modD, powD, iop, cmpI, isND, notND, D.isN, idxD, lenD, listD, tupleD, appD_lst, setD_lst, mutK2_ite, D.isL, max2D, min2D, absD, PD.intD, D.ty, frz_cons, frz1_q, frzS_ow, frzS_sh, frzS_no, frzD_lst, frzD_int, frzD_nil, frzK_nil, frz_nil, mkSl_lst, D.isMut, R.bind_ok, R.bind_no, dec_true, decide_eq_true_eq, decide_eq_false_iff_not, Bool.not_eq_true', Bool.decide_eq_true, Bool.not_eq_eq_eq_not, List.map_cons, List.map_nil, List.length_cons, List.length_nil, List.replicate_succ, List.replicate_zero, List.cons_append, List.nil_append, List.append_nil, List.getElem?_cons_zero, List.getElem?_cons_succ, List.set_cons_zero, List.set_cons_succ, List.all_cons, List.all_nil, Bool.and_true, Bool.true_and, Bool.and_self, Bool.not_true, Bool.not_false, Bool.false_eq_true, Bool.true_eq_false, if_true, if_false, ite_true, ite_false, reduceIte, Nat.add_sub_cancel, Nat.reduceSub, Nat.reduceAdd, Nat.sub_self, Nat.zero_add, Int.reduceLT, Int.reduceLE, Int.reduceEq, Int.reduceAdd, Int.reduceSub, Int.reduceMul, Int.reduceNeg, Int.reduceMod, Int.reduceDiv, Nat.zero_le, isiD_lst, isiD_int_int, isiD_int_bool, isiD_bl_bool, isiD_tup, decide_true, decide_false]
        rw [maxU_lists (v := v) (List.mem_filter.mpr ⟨hv, by simpa using q3⟩) fun w hw => by
          rw [List.mem_filter] at hw
          have h3 := (hE1 w).mp hw.1
          exact hb.last hm w h3.1 h3.2 (by simpa using hw.2)]
        simp -implicitDefEqProofs only [runF_e, sSeq_e, thn_nx, thn_rt, thn_ex, thn_ct, thn_bk, toR_rt, toR_nx, toR_ex, st_ok, st_ex, st_bind, bind_bind, RQ_ok, OQ_nx, OQ_ct, OQ_bk, OQ_rt, NQ_nx, sNil, sRet_e, sRetO_q, retK_ow, retK_sh, sRetN, sExp_e, sIf_e, sSh_e, sOw_e, sMut_q, mutK_ow, mutK2_some, sSetIx_q, setK_ow, setK2_some, sAug_q, augK_sh, augK2_int, sAugIx_q, agxK_ow, agxK0_int, agxK1_some, agxK2_int, agxK3_some, sTup_q, tupK_some, sFor_e, sNo, sBk, sCt, eV_q, eO_q, slV_sh, slO_sh, slO_ow, eC, eBin, ofO_some, asB_bl, tE, tNotD, tAndD, tOrD, eAnd, eOr, eNot, eIf, eChain, tTru, truD, aNil, aCons, eTup, eLst, oNone, oSome, asI, eSl, sliceD, eCall, eFn, eFnK, eComp, okOwn_q, slOk_sh, slOk_no, slOk_none, wipeD, noX, tYesD, itSeq_q, seqK_lst, seqK_tup, seqK_scr, itRange1_q, rng1K_e, itRange2_q, rng2K_e, itEnum_q, enmK_e, itZip_q, zipK_e, bindP, binds, eNeg, eIsi, addD, subD, mulD, fdivD, modD, powD, iop, cmpI, isND, notND, D.isN, idxD, lenD, listD, tupleD, appD_lst, setD_lst, mutK2_ite, D.isL, max2D, min2D, absD, PD.intD, D.ty, frz_cons, frz1_q, frzS_ow, frzS_sh, frzS_no, frzD_lst, frzD_int, frzD_nil, frzK_nil, frz_nil, mkSl_lst, D.isMut, R.bind_ok, R.bind_no, dec_true, decide_eq_true_eq, decide_eq_false_iff_not, Bool.not_eq_true', Bool.decide_eq_true, Bool.not_eq_eq_eq_not, List.map_cons, List.map_nil, List.length_cons, List.length_nil, List.replicate_succ, List.replicate_zero, List.cons_append, List.nil_append, List.append_nil, List.getElem?_cons_zero, List.getElem?_cons_succ, List.set_cons_zero, List.set_cons_succ, List.all_cons, List.all_nil, Bool.and_true, Bool.true_and, Bool.and_self, Bool.not_true, Bool.not_false, Bool.false_eq_true, Bool.true_eq_false, if_true, if_false, ite_true, ite_false, reduceIte, Nat.add_sub_cancel, Nat.reduceSub, Nat.reduceAdd, Nat.sub_self, Nat.zero_add, Int.reduceLT, Int.reduceLE, Int.reduceEq, Int.reduceAdd, Int.reduceSub, Int.reduceMul, Int.reduceNeg, Int.reduceMod, Int.reduceDiv, Nat.zero_le, isiD_lst, isiD_int_int, isiD_int_bool, isiD_bl_bool, isiD_tup, decide_true, decide_false]
        rw [eqD_self (nb_nats v) (sh_nats v)]
        simp -implicitDefEqProofs only [runF_e, sSeq_e, thn_nx, thn_rt, thn_ex, thn_ct, thn_bk, toR_rt, toR_nx, toR_ex, st_ok, st_ex, st_bind, bind_bind, RQ_ok, OQ_nx, OQ_ct, OQ_bk, OQ_rt, NQ_nx, sNil, sRet_e, sRetO_q, retK_ow, retK_sh, sRetN, sExp_e, sIf_e, sSh_e, sOw_e, sMut_q, mutK_ow, mutK2_some, sSetIx_q, setK_ow, setK2_some, sAug_q, augK_sh, augK2_int, sAugIx_q, agxK_ow, agxK0_int, agxK1_some, agxK2_int, agxK3_some, sTup_q, tupK_some, sFor_e, sNo, sBk, sCt, eV_q, eO_q, slV_sh, slO_sh, slO_ow, eC, eBin, ofO_some, asB_bl, tE, tNotD, tAndD, tOrD, eAnd, eOr, eNot, eIf, eChain, tTru, truD, aNil, aCons, eTup, eLst, oNone, oSome, asI, eSl, sliceD, eCall, eFn, eFnK, eComp, okOwn_q, slOk_sh, slOk_no, slOk_none, wipeD, noX, tYesD, itSeq_q, seqK_lst, seqK_tup, seqK_scr, itRange1_q, rng1K_e, itRange2_q, rng2K_e, itEnum_q, enmK_e, itZip_q, zipK_e, bindP, binds, eNeg, eIsi, addD, subD, mulD, fdivD, modD, powD, iop, cmpI, isND, notND, D.isN, idxD, lenD, listD, tupleD, appD_lst, setD_lst, mutK2_ite, D.isL, max2D, min2D, absD, PD.intD, D.ty, frz_cons, frz1_q, frzS_ow, frzS_sh, frzS_no, frzD_lst, frzD_int, frzD_nil, frzK_nil, frz_nil, mkSl_lst, D.isMut, R.bind_ok, R.bind_no, dec_true, decide_eq_true_eq, decide_eq_false_iff_not, Bool.not_eq_true', Bool.decide_eq_true, Bool.not_eq_eq_eq_not, List.map_cons, List.map_nil, List.length_cons, List.length_nil, List.replicate_succ, List.replicate_zero, List.cons_append, List.nil_append, List.append_nil, List.getElem?_cons_zero, List.getElem?_cons_succ, List.set_cons_zero, List.set_cons_succ, List.all_cons, List.all_nil, Bool.and_true, Bool.true_and, Bool.and_self, Bool.not_true, Bool.not_false, Bool.false_eq_true, Bool.true_eq_false, if_true, if_false, ite_true, ite_false, reduceIte, Nat.add_sub_cancel, Nat.reduceSub, Nat.reduceAdd, Nat.sub_self, Nat.zero_add, Int.reduceLT, Int.reduceLE, Int.reduceEq, Int.reduceAdd, Int.reduceSub, Int.reduceMul, Int.reduceNeg, Int.reduceMod, Int.reduceDiv, Nat.zero_le, isiD_lst, isiD_int_int, isiD_int_bool, isiD_bl_bool, isiD_tup, decide_true, decide_false]
        rw [compD_all (fun s : Nat => D.int s) (fun _ => D.bl true) v fun s hs => ⟨_, rfl, by simp -implicitDefEqProofs only [runF_e, sSeq_e, thn_nx, thn_rt, thn_ex, thn_ct, thn_bk, toR_rt, toR_nx, toR_ex, st_ok, st_ex, st_bind, bind_bind, RQ_ok, OQ_nx, OQ_ct, OQ_bk, OQ_rt, NQ_nx, sNil, sRet_e, sRetO_q, retK_ow, retK_sh, sRetN, sExp_e, sIf_e, sSh_e, sOw_e, sMut_q, mutK_ow, mutK2_some, sSetIx_q, setK_ow, setK2_some, sAug_q, augK_sh, augK2_int, sAugIx_q, agxK_ow, agxK0_int, agxK1_some, agxK2_int, agxK3_some, sTup_q, tupK_some, sFor_e, sNo, sBk, sCt, eV_q, eO_q, slV_sh, slO_sh, slO_ow, eC, eBin, ofO_some, asB_bl, tE, tNotD, tAndD, tOrD, eAnd, eOr, eNot, eIf, eChain, tTru, truD, aNil, aCons, eTup, eLst, oNone, oSome, asI, eSl, sliceD, eCall, eFn, eFnK, eComp, okOwn_q, slOk_sh, slOk_no, slOk_none, wipeD, noX, tYesD, itSeq_q, seqK_lst, seqK_tup, seqK_scr, itRange1_q, rng1K_e, itRange2_q, rng2K_e, itEnum_q, enmK_e, itZip_q, zipK_e, bindP, binds, eNeg, eIsi, addD, subD, mulD, fdivD, modD, powD, iop, cmpI, isND, notND, D.isN, idxD, lenD, listD, tupleD, appD_lst, setD_lst, mutK2_ite, D.isL, max2D, min2D, absD, PD.intD, D.ty, frz_cons, frz1_q, frzS_ow, frzS_sh, frzS_no, frzD_lst, frzD_int, frzD_nil, frzK_nil, frz_nil, mkSl_lst, D.isMut, R.bind_ok, R.bind_no, dec_true, decide_eq_true_eq, decide_eq_false_iff_not, Bool.not_eq_true', Bool.decide_eq_true, Bool.not_eq_eq_eq_not, List.map_cons, List.map_nil, List.length_cons, List.length_nil, List.replicate_succ, List.replicate_zero, List.cons_append, List.nil_append, List.append_nil, List.getElem?_cons_zero, List.getElem?_cons_succ, List.set_cons_zero, List.set_cons_succ, List.all_cons, List.all_nil, Bool.and_true, Bool.true_and, Bool.and_self, Bool.not_true, Bool.not_false, Bool.false_eq_true, Bool.true_eq_false, if_true, if_false, ite_true, ite_false, reduceIte, Nat.add_sub_cancel, Nat.reduceSub, Nat.reduceAdd, Nat.sub_self, Nat.zero_add, Int.reduceLT, Int.reduceLE, Int.reduceEq, Int.reduceAdd, Int.reduceSub, Int.reduceMul, Int.reduceNeg, Int.reduceMod, Int.reduceDiv, Nat.zero_le, isiD_lst, isiD_int_int, isiD_int_bool, isiD_bl_bool, isiD_tup, decide_true, decide_false, is_integer_int]⟩]
        simp -implicitDefEqProofs only [runF_e, sSeq_e, thn_nx, thn_rt, thn_ex, thn_ct, thn_bk, toR_rt, toR_nx, toR_ex, st_ok, st_ex, st_bind, bind_bind, RQ_ok, OQ_nx, OQ_ct, OQ_bk, OQ_rt, NQ_nx, sNil, sRet_e, sRetO_q, retK_ow, retK_sh, sRetN, sExp_e, sIf_e, sSh_e, sOw_e, sMut_q, mutK_ow, mutK2_some, sSetIx_q, setK_ow, setK2_some, sAug_q, augK_sh, augK2_int, sAugIx_q, agxK_ow, agxK0_int, agxK1_some, agxK2_int, agxK3_some, sTup_q, tupK_some, sFor_e, sNo, sBk, sCt, eV_q, eO_q, slV_sh, slO_sh, slO_ow, eC, eBin, ofO_some, asB_bl, tE, tNotD, tAndD, tOrD, eAnd, eOr, eNot, eIf, eChain, tTru, truD, aNil, aCons, eTup, eLst, oNone, oSome, asI, eSl, sliceD, eCall, eFn, eFnK, eComp, okOwn_q, slOk_sh, slOk_no, slOk_none, wipeD, noX, tYesD, itSeq_q, seqK_lst, seqK_tup, seqK_scr, itRange1_q, rng1K_e, itRange2_q, rng2K_e, itEnum_q, enmK_e, itZip_q, zipK_e, bindP, binds, eNeg, eIsi, addD, subD, mulD, fdivD, modD, powD, iop, cmpI, isND, notND, D.isN, idxD, lenD, listD, tupleD, appD_lst, setD_lst, mutK2_ite, D.isL, max2D, min2D, absD, PD.intD, D.ty, frz_cons, frz1_q, frzS_ow, frzS_sh, frzS_no, frzD_lst, frzD_int, frzD_nil, frzK_nil, frz_nil, mkSl_lst, D.isMut, R.bind_ok, R.bind_no, dec_true, decide_eq_true_eq, decide_eq_false_iff_not, Bool.not_eq_true', Bool.decide_eq_true, Bool.not_eq_eq_eq_not, List.map_cons, List.map_nil, List.length_cons, List.length_nil, List.replicate_succ, List.replicate_zero, List.cons_append, List.nil_append, List.append_nil, List.getElem?_cons_zero, List.getElem?_cons_succ, List.set_cons_zero, List.set_cons_succ, List.all_cons, List.all_nil, Bool.and_true, Bool.true_and, Bool.and_self, Bool.not_true, Bool.not_false, Bool.false_eq_true, Bool.true_eq_false, if_true, if_false, ite_true, ite_false, reduceIte, Nat.add_sub_cancel, Nat.reduceSub, Nat.reduceAdd, Nat.sub_self, Nat.zero_add, Int.reduceLT, Int.reduceLE, Int.reduceEq, Int.reduceAdd, Int.reduceSub, Int.reduceMul, Int.reduceNeg, Int.reduceMod, Int.reduceDiv, Nat.zero_le, isiD_lst, isiD_int_int, isiD_int_bool, isiD_bl_bool, isiD_tup, decide_true, decide_false, List.length_map]
        have := g.len
        rw [if_pos (by rw [szL]; omega)]
        simp -implicitDefEqProofs only [runF_e, sSeq_e, thn_nx, thn_rt, thn_ex, thn_ct, thn_bk, toR_rt, toR_nx, toR_ex, st_ok, st_ex, st_bind, bind_bind, RQ_ok, OQ_nx, OQ_ct, OQ_bk, OQ_rt, NQ_nx, sNil, sRet_e, sRetO_q, retK_ow, retK_sh, sRetN, sExp_e, sIf_e, sSh_e, sOw_e, sMut_q, mutK_ow, mutK2_some, sSetIx_q, setK_ow, setK2_some, sAug_q, augK_sh, augK2_int, sAugIx_q, agxK_ow, agxK0_int, agxK1_some, agxK2_int, agxK3_some, sTup_q, tupK_some, sFor_e, sNo, sBk, sCt, eV_q, eO_q, slV_sh, slO_sh, slO_ow, eC, eBin, ofO_some, asB_bl, tE, tNotD, tAndD, tOrD, eAnd, eOr, eNot, eIf, eChain, tTru, truD, aNil, aCons, eTup, eLst, oNone, oSome, asI, eSl, sliceD, eCall, eFn, eFnK, eComp, okOwn_q, slOk_sh, slOk_no, slOk_none, wipeD, noX, tYesD, itSeq_q, seqK_lst, seqK_tup, seqK_scr, itRange1_q, rng1K_e, itRange2_q, rng2K_e, itEnum_q, enmK_e, itZip_q, zipK_e, bindP, binds, eNeg, eIsi, addD, subD, mulD, fdivD, modD, powD, iop, cmpI, isND, notND, D.isN, idxD, lenD, listD, tupleD, appD_lst, setD_lst, mutK2_ite, D.isL, max2D, min2D, absD, PD.intD, D.ty, frz_cons, frz1_q, frzS_ow, frzS_sh, frzS_no, frzD_lst, frzD_int, frzD_nil, frzK_nil, frz_nil, mkSl_lst, D.isMut, R.bind_ok, R.bind_no, dec_true, decide_eq_true_eq, decide_eq_false_iff_not, Bool.not_eq_true', Bool.decide_eq_true, Bool.not_eq_eq_eq_not, List.map_cons, List.map_nil, List.length_cons, List.length_nil, List.replicate_succ, List.replicate_zero, List.cons_append, List.nil_append, List.append_nil, List.getElem?_cons_zero, List.getElem?_cons_succ, List.set_cons_zero, List.set_cons_succ, List.all_cons, List.all_nil, Bool.and_true, Bool.true_and, Bool.and_self, Bool.not_true, Bool.not_false, Bool.false_eq_true, Bool.true_eq_false, if_true, if_false, ite_true, ite_false, reduceIte, Nat.add_sub_cancel, Nat.reduceSub, Nat.reduceAdd, Nat.sub_self, Nat.zero_add, Int.reduceLT, Int.reduceLE, Int.reduceEq, Int.reduceAdd, Int.reduceSub, Int.reduceMul, Int.reduceNeg, Int.reduceMod, Int.reduceDiv, Nat.zero_le, isiD_lst, isiD_int_int, isiD_int_bool, isiD_bl_bool, isiD_tup, decide_true, decide_false, all_ints]
  obtain ⟨d, h1, rfl⟩ := key
  exact h1
end K55
namespace K55
open PySem PySem.Spec PyProof.Rows L2 PD
theorem nats_at {v : List Nat} {i x : Nat} (h : v[i]? = some x) : atI (v.map fun s : Nat => D.int s) (i : Int) = some (.int x) := by
  have := (List.getElem?_eq_some_iff.mp h).1
  rw [atI_natI (by omega) (by rw [List.length_map]; omega), List.getElem?_map, Int.toNat_natCast, h]; rfl
theorem dot_sum : ∀ (v S : List Nat), v.length = S.length → ((List.range S.length).map fun i : Nat => ((v.getD i 0 : Nat) : Int) * ((S.getD i 0 : Nat) : Int)).sum = (dot v S : Nat)
  | [], [], _ => rfl
  | n :: v, s :: S, h => by
    have := dot_sum v S (by simpa using h)
    rw [List.length_cons, List.range_succ_eq_map, List.map_cons, List.map_map, List.sum_cons]
    show (n : Int) * (s : Int) + ((List.range S.length).map fun i : Nat => ((v.getD i 0 : Nat) : Int) * ((S.getD i 0 : Nat) : Int)).sum = ((n * s + dot v S : Nat) : Int)
    rw [this]; simp
theorem eqD_oD (o : Option Nat) (j : Int) : eqD (oD o) (.int j) = some (.bl (!oNe o j)) := by
  cases o with
  | none => rfl
  | some k => rw [show oD (some k) = D.int k from rfl, eqD_int]; simp [oNe]
theorem large_ones_ok {S : List Nat} (g : Good S) {a : Nat} (ha : a ≤ 5000) : F__law_large_ones [Nats S, .int a] = .ok (.bl true) := by
  have key : RQ (F__law_large_ones [Nats S, .int a]) fun d => d = .bl true := by
    have hS : ∀ s ∈ S, 0 < s := fun s hs => (g.rng s hs).1
    have hSl := g.len
    unfold F__law_large_ones
    obtain ⟨d, h1, hd⟩ := best_filling_ok g ha
    obtain ⟨d2, h2, T, rfl, hT⟩ := law_fewest_ok hS hSl ha
    obtain ⟨o, ho, hm⟩ := hT.get (Nat.le_refl a)
    have ho2 : atI (T.map oD) (a : Int) = some (oD o) := by
      rw [atI_natI (by omega) (by rw [List.length_map, hT.len]; omega), List.getElem?_map, Int.toNat_natCast, ho]; rfl
    simp -implicitDefEqProofs only [runF_e, sSeq_e, thn_nx, thn_rt, thn_ex, thn_ct, thn_bk, toR_rt, toR_nx, toR_ex, st_ok, st_ex, st_bind, bind_bind, RQ_ok, OQ_nx, OQ_ct, OQ_bk, OQ_rt, NQ_nx, sNil, sRet_e, sRetO_q, retK_ow, retK_sh, sRetN, sExp_e, sIf_e, sSh_e, sOw_e, sMut_q, mutK_ow, mutK2_some, sSetIx_q, setK_ow, setK2_some, sAug_q, augK_sh, augK2_int, sAugIx_q, agxK_ow, agxK0_int, agxK1_some, agxK2_int, agxK3_some, sTup_q, tupK_some, sFor_e, sNo, sBk, sCt, eV_q, eO_q, slV_sh, slO_sh, slO_ow, eC, eBin, ofO_some, asB_bl, tE, tNotD, tAndD, tOrD, eAnd, eOr, eNot, eIf, eChain, tTru, truD, aNil, aCons, eTup, eLst, oNone, oSome, asI, eSl, sliceD, eCall, eFn, eFnK, eComp, okOwn_q, slOk_sh, slOk_no, slOk_none, wipeD, noX, tYesD, itSeq_q, seqK_lst, seqK_tup, seqK_scr, itRange1_q, rng1K_e, itRange2_q, rng2K_e, itEnum_q, enmK_e, itZip_q, zipK_e, bindP, binds, eNeg, eIsi, addD, subD, mulD, fdivD, modD, powD, iop, cmpI, isND, notND, D.isN, idxD, lenD, listD, tupleD, appD_lst, setD_lst, mutK2_ite, D.isL, max2D, min2D, absD, PD.intD, D.ty, frz_cons, frz1_q, frzS_ow, frzS_sh, frzS_no, frzD_lst, frzD_int, frzD_nil, frzK_nil, frz_nil, mkSl_lst, D.isMut, R.bind_ok, R.bind_no, dec_true, decide_eq_true_eq, decide_eq_false_iff_not, Bool.not_eq_true', Bool.decide_eq_true, Bool.not_eq_eq_eq_not, List.map_cons, List.map_nil, List.length_cons, List.length_nil, List.replicate_succ, List.replicate_zero, List.cons_append, List.nil_append, List.append_nil, List.getElem?_cons_zero, List.getElem?_cons_succ, List.set_cons_zero, List.set_cons_succ, List.all_cons, List.all_nil, Bool.and_true, Bool.true_and, Bool.and_self, Bool.not_true, Bool.not_false, Bool.false_eq_true, Bool.true_eq_false, if_true, if_false, ite_true, ite_false, reduceIte, Nat.add_sub_cancel, Nat.reduceSub, Nat.reduceAdd, Nat.sub_self, Nat.zero_add, Int.reduceLT, Int.reduceLE, Int.reduceEq, Int.reduceAdd, Int.reduceSub, Int.reduceMul, Int.reduceNeg, Int.reduceMod, Int.reduceDiv, Nat.zero_le, isiD_lst, isiD_int_int, isiD_int_bool, isiD_bl_bool, isiD_tup, decide_true, decide_false, h1, h2, ho2]
    rcases hd with ⟨rfl, hn⟩ | ⟨m, v, hm2, rfl, hb⟩
    · have := hm.uniq hn
      subst this
      simp -implicitDefEqProofs only [runF_e, sSeq_e, thn_nx, thn_rt, thn_ex, thn_ct, thn_bk, toR_rt, toR_nx, toR_ex, st_ok, st_ex, st_bind, bind_bind, RQ_ok, OQ_nx, OQ_ct, OQ_bk, OQ_rt, NQ_nx, sNil, sRet_e, sRetO_q, retK_ow, retK_sh, sRetN, sExp_e, sIf_e, sSh_e, sOw_e, sMut_q, mutK_ow, mutK2_some, sSetIx_q, setK_ow, setK2_some, sAug_q, augK_sh, augK2_int, sAugIx_q, agxK_ow, agxK0_int, agxK1_some, agxK2_int, agxK3_some, sTup_q, tupK_some, sFor_e, sNo, sBk, sCt, eV_q, eO_q, slV_sh, slO_sh, slO_ow, eC, eBin, ofO_some, asB_bl, tE, tNotD, tAndD, tOrD, eAnd, eOr, eNot, eIf, eChain, tTru, truD, aNil, aCons, eTup, eLst, oNone, oSome, asI, eSl, sliceD, eCall, eFn, eFnK, eComp, okOwn_q, slOk_sh, slOk_no, slOk_none, wipeD, noX, tYesD, itSeq_q, seqK_lst, seqK_tup, seqK_scr, itRange1_q, rng1K_e, itRange2_q, rng2K_e, itEnum_q, enmK_e, itZip_q, zipK_e, bindP, binds, eNeg, eIsi, addD, subD, mulD, fdivD, modD, powD, iop, cmpI, isND, notND, D.isN, idxD, lenD, listD, tupleD, appD_lst, setD_lst, mutK2_ite, D.isL, max2D, min2D, absD, PD.intD, D.ty, frz_cons, frz1_q, frzS_ow, frzS_sh, frzS_no, frzD_lst, frzD_int, frzD_nil, frzK_nil, frz_nil, mkSl_lst, D.isMut, R.bind_ok, R.bind_no, dec_true, decide_eq_true_eq, decide_eq_false_iff_not, Bool.not_eq_true', Bool.decide_eq_true, Bool.not_eq_eq_eq_not, List.map_cons, List.map_nil, List.length_cons, List.length_nil, List.replicate_succ, List.replicate_zero, List.cons_append, List.nil_append, List.append_nil, List.getElem?_cons_zero, List.getElem?_cons_succ, List.set_cons_zero, List.set_cons_succ, List.all_cons, List.all_nil, Bool.and_true, Bool.true_and, Bool.and_self, Bool.not_true, Bool.not_false, Bool.false_eq_true, Bool.true_eq_false, if_true, if_false, ite_true, ite_false, reduceIte, Nat.add_sub_cancel, Nat.reduceSub, Nat.reduceAdd, Nat.sub_self, Nat.zero_add, Int.reduceLT, Int.reduceLE, Int.reduceEq, Int.reduceAdd, Int.reduceSub, Int.reduceMul, Int.reduceNeg, Int.reduceMod, Int.reduceDiv, Nat.zero_le, isiD_lst, isiD_int_int, isiD_int_bool, isiD_bl_bool, isiD_tup, decide_true, decide_false, oD]
    · have := hm.uniq hm2
      subst this
      obtain ⟨q1, q2, q3⟩ := hb.spec
      have hma := bound_fil hS hm2.1
      simp -implicitDefEqProofs only [runF_e, sSeq_e, thn_nx, thn_rt, thn_ex, thn_ct, thn_bk, toR_rt, toR_nx, toR_ex, st_ok, st_ex, st_bind, bind_bind, RQ_ok, OQ_nx, OQ_ct, OQ_bk, OQ_rt, NQ_nx, sNil, sRet_e, sRetO_q, retK_ow, retK_sh, sRetN, sExp_e, sIf_e, sSh_e, sOw_e, sMut_q, mutK_ow, mutK2_some, sSetIx_q, setK_ow, setK2_some, sAug_q, augK_sh, augK2_int, sAugIx_q, agxK_ow, agxK0_int, agxK1_some, agxK2_int, agxK3_some, sTup_q, tupK_some, sFor_e, sNo, sBk, sCt, eV_q, eO_q, slV_sh, slO_sh, slO_ow, eC, eBin, ofO_some, asB_bl, tE, tNotD, tAndD, tOrD, eAnd, eOr, eNot, eIf, eChain, tTru, truD, aNil, aCons, eTup, eLst, oNone, oSome, asI, eSl, sliceD, eCall, eFn, eFnK, eComp, okOwn_q, slOk_sh, slOk_no, slOk_none, wipeD, noX, tYesD, itSeq_q, seqK_lst, seqK_tup, seqK_scr, itRange1_q, rng1K_e, itRange2_q, rng2K_e, itEnum_q, enmK_e, itZip_q, zipK_e, bindP, binds, eNeg, eIsi, addD, subD, mulD, fdivD, modD, powD, iop, cmpI, isND, notND, D.isN, idxD, lenD, listD, tupleD, appD_lst, setD_lst, mutK2_ite, D.isL, max2D, min2D, absD, PD.intD, D.ty, frz_cons, frz1_q, frzS_ow, frzS_sh, frzS_no, frzD_lst, frzD_int, frzD_nil, frzK_nil, frz_nil, mkSl_lst, D.isMut, R.bind_ok, R.bind_no, dec_true, decide_eq_true_eq, decide_eq_false_iff_not, Bool.not_eq_true', Bool.decide_eq_true, Bool.not_eq_eq_eq_not, List.map_cons, List.map_nil, List.length_cons, List.length_nil, List.replicate_succ, List.replicate_zero, List.cons_append, List.nil_append, List.append_nil, List.getElem?_cons_zero, List.getElem?_cons_succ, List.set_cons_zero, List.set_cons_succ, List.all_cons, List.all_nil, Bool.and_true, Bool.true_and, Bool.and_self, Bool.not_true, Bool.not_false, Bool.false_eq_true, Bool.true_eq_false, if_true, if_false, ite_true, ite_false, reduceIte, Nat.add_sub_cancel, Nat.reduceSub, Nat.reduceAdd, Nat.sub_self, Nat.zero_add, Int.reduceLT, Int.reduceLE, Int.reduceEq, Int.reduceAdd, Int.reduceSub, Int.reduceMul, Int.reduceNeg, Int.reduceMod, Int.reduceDiv, Nat.zero_le, isiD_lst, isiD_int_int, isiD_int_bool, isiD_bl_bool, isiD_tup, decide_true, decide_false, oD, neD_int, List.length_map, q1]
      rw [compD_all (fun s : Nat => D.int s) (fun _ => D.bl true) v fun s hs => ⟨_, rfl, by simp -implicitDefEqProofs only [runF_e, sSeq_e, thn_nx, thn_rt, thn_ex, thn_ct, thn_bk, toR_rt, toR_nx, toR_ex, st_ok, st_ex, st_bind, bind_bind, RQ_ok, OQ_nx, OQ_ct, OQ_bk, OQ_rt, NQ_nx, sNil, sRet_e, sRetO_q, retK_ow, retK_sh, sRetN, sExp_e, sIf_e, sSh_e, sOw_e, sMut_q, mutK_ow, mutK2_some, sSetIx_q, setK_ow, setK2_some, sAug_q, augK_sh, augK2_int, sAugIx_q, agxK_ow, agxK0_int, agxK1_some, agxK2_int, agxK3_some, sTup_q, tupK_some, sFor_e, sNo, sBk, sCt, eV_q, eO_q, slV_sh, slO_sh, slO_ow, eC, eBin, ofO_some, asB_bl, tE, tNotD, tAndD, tOrD, eAnd, eOr, eNot, eIf, eChain, tTru, truD, aNil, aCons, eTup, eLst, oNone, oSome, asI, eSl, sliceD, eCall, eFn, eFnK, eComp, okOwn_q, slOk_sh, slOk_no, slOk_none, wipeD, noX, tYesD, itSeq_q, seqK_lst, seqK_tup, seqK_scr, itRange1_q, rng1K_e, itRange2_q, rng2K_e, itEnum_q, enmK_e, itZip_q, zipK_e, bindP, binds, eNeg, eIsi, addD, subD, mulD, fdivD, modD, powD, iop, cmpI, isND, notND, D.isN, idxD, lenD, listD, tupleD, appD_lst, setD_lst, mutK2_ite, D.isL, max2D, min2D, absD, PD.intD, D.ty, frz_cons, frz1_q, frzS_ow, frzS_sh, frzS_no, frzD_lst, frzD_int, frzD_nil, frzK_nil, frz_nil, mkSl_lst, D.isMut, R.bind_ok, R.bind_no, dec_true, decide_eq_true_eq, decide_eq_false_iff_not, Bool.not_eq_true', Bool.decide_eq_true, Bool.not_eq_eq_eq_not, List.map_cons, List.map_nil, List.length_cons, List.length_nil, List.replicate_succ, List.replicate_zero, List.cons_append, List.nil_append, List.append_nil, List.getElem?_cons_zero, List.getElem?_cons_succ, List.set_cons_zero, List.set_cons_succ, List.all_cons, List.all_nil, Bool.and_true, Bool.true_and, Bool.and_self, Bool.not_true, Bool.not_false, Bool.false_eq_true, Bool.true_eq_false, if_true, if_false, ite_true, ite_false, reduceIte, Nat.add_sub_cancel, Nat.reduceSub, Nat.reduceAdd, Nat.sub_self, Nat.zero_add, Int.reduceLT, Int.reduceLE, Int.reduceEq, Int.reduceAdd, Int.reduceSub, Int.reduceMul, Int.reduceNeg, Int.reduceMod, Int.reduceDiv, Nat.zero_le, isiD_lst, isiD_int_int, isiD_int_bool, isiD_bl_bool, isiD_tup, decide_true, decide_false, is_integer_int]; rw [decide_eq_true (by omega)]⟩]
      simp -implicitDefEqProofs only [runF_e, sSeq_e, thn_nx, thn_rt, thn_ex, thn_ct, thn_bk, toR_rt, toR_nx, toR_ex, st_ok, st_ex, st_bind, bind_bind, RQ_ok, OQ_nx, OQ_ct, OQ_bk, OQ_rt, NQ_nx, sNil, sRet_e, sRetO_q, retK_ow, retK_sh, sRetN, sExp_e, sIf_e, sSh_e, sOw_e, sMut_q, mutK_ow, mutK2_some, sSetIx_q, setK_ow, setK2_some, sAug_q, augK_sh, augK2_int, sAugIx_q, agxK_ow, agxK0_int, agxK1_some, agxK2_int, agxK3_some, sTup_q, tupK_some, sFor_e, sNo, sBk, sCt, eV_q, eO_q, slV_sh, slO_sh, slO_ow, eC, eBin, ofO_some, asB_bl, tE, tNotD, tAndD, tOrD, eAnd, eOr, eNot, eIf, eChain, tTru, truD, aNil, aCons, eTup, eLst, oNone, oSome, asI, eSl, sliceD, eCall, eFn, eFnK, eComp, okOwn_q, slOk_sh, slOk_no, slOk_none, wipeD, noX, tYesD, itSeq_q, seqK_lst, seqK_tup, seqK_scr, itRange1_q, rng1K_e, itRange2_q, rng2K_e, itEnum_q, enmK_e, itZip_q, zipK_e, bindP, binds, eNeg, eIsi, addD, subD, mulD, fdivD, modD, powD, iop, cmpI, isND, notND, D.isN, idxD, lenD, listD, tupleD, appD_lst, setD_lst, mutK2_ite, D.isL, max2D, min2D, absD, PD.intD, D.ty, frz_cons, frz1_q, frzS_ow, frzS_sh, frzS_no, frzD_lst, frzD_int, frzD_nil, frzK_nil, frz_nil, mkSl_lst, D.isMut, R.bind_ok, R.bind_no, dec_true, decide_eq_true_eq, decide_eq_false_iff_not, Bool.not_eq_true', Bool.decide_eq_true, Bool.not_eq_eq_eq_not, List.map_cons, List.map_nil, List.length_cons, List.length_nil, List.replicate_succ, List.replicate_zero, List.cons_append, List.nil_append, List.append_nil, List.getElem?_cons_zero, List.getElem?_cons_succ, List.set_cons_zero, List.set_cons_succ, List.all_cons, List.all_nil, Bool.and_true, Bool.true_and, Bool.and_self, Bool.not_true, Bool.not_false, Bool.false_eq_true, Bool.true_eq_false, if_true, if_false, ite_true, ite_false, reduceIte, Nat.add_sub_cancel, Nat.reduceSub, Nat.reduceAdd, Nat.sub_self, Nat.zero_add, Int.reduceLT, Int.reduceLE, Int.reduceEq, Int.reduceAdd, Int.reduceSub, Int.reduceMul, Int.reduceNeg, Int.reduceMod, Int.reduceDiv, Nat.zero_le, isiD_lst, isiD_int_int, isiD_int_bool, isiD_bl_bool, isiD_tup, decide_true, decide_false, List.length_map]
      rw [if_pos (by rw [szL]; omega)]
      simp -implicitDefEqProofs only [runF_e, sSeq_e, thn_nx, thn_rt, thn_ex, thn_ct, thn_bk, toR_rt, toR_nx, toR_ex, st_ok, st_ex, st_bind, bind_bind, RQ_ok, OQ_nx, OQ_ct, OQ_bk, OQ_rt, NQ_nx, sNil, sRet_e, sRetO_q, retK_ow, retK_sh, sRetN, sExp_e, sIf_e, sSh_e, sOw_e, sMut_q, mutK_ow, mutK2_some, sSetIx_q, setK_ow, setK2_some, sAug_q, augK_sh, augK2_int, sAugIx_q, agxK_ow, agxK0_int, agxK1_some, agxK2_int, agxK3_some, sTup_q, tupK_some, sFor_e, sNo, sBk, sCt, eV_q, eO_q, slV_sh, slO_sh, slO_ow, eC, eBin, ofO_some, asB_bl, tE, tNotD, tAndD, tOrD, eAnd, eOr, eNot, eIf, eChain, tTru, truD, aNil, aCons, eTup, eLst, oNone, oSome, asI, eSl, sliceD, eCall, eFn, eFnK, eComp, okOwn_q, slOk_sh, slOk_no, slOk_none, wipeD, noX, tYesD, itSeq_q, seqK_lst, seqK_tup, seqK_scr, itRange1_q, rng1K_e, itRange2_q, rng2K_e, itEnum_q, enmK_e, itZip_q, zipK_e, bindP, binds, eNeg, eIsi, addD, subD, mulD, fdivD, modD, powD, iop, cmpI, isND, notND, D.isN, idxD, lenD, listD, tupleD, appD_lst, setD_lst, mutK2_ite, D.isL, max2D, min2D, absD, PD.intD, D.ty, frz_cons, frz1_q, frzS_ow, frzS_sh, frzS_no, frzD_lst, frzD_int, frzD_nil, frzK_nil, frz_nil, mkSl_lst, D.isMut, R.bind_ok, R.bind_no, dec_true, decide_eq_true_eq, decide_eq_false_iff_not, Bool.not_eq_true', Bool.decide_eq_true, Bool.not_eq_eq_eq_not, List.map_cons, List.map_nil, List.length_cons, List.length_nil, List.replicate_succ, List.replicate_zero, List.cons_append, List.nil_append, List.append_nil, List.getElem?_cons_zero, List.getElem?_cons_succ, List.set_cons_zero, List.set_cons_succ, List.all_cons, List.all_nil, Bool.and_true, Bool.true_and, Bool.and_self, Bool.not_true, Bool.not_false, Bool.false_eq_true, Bool.true_eq_false, if_true, if_false, ite_true, ite_false, reduceIte, Nat.add_sub_cancel, Nat.reduceSub, Nat.reduceAdd, Nat.sub_self, Nat.zero_add, Int.reduceLT, Int.reduceLE, Int.reduceEq, Int.reduceAdd, Int.reduceSub, Int.reduceMul, Int.reduceNeg, Int.reduceMod, Int.reduceDiv, Nat.zero_le, isiD_lst, isiD_int_int, isiD_int_bool, isiD_bl_bool, isiD_tup, decide_true, decide_false, all_ints, sumD_nats, neD_int, q3, List.length_map, show small62 (S.length : Int) = true from small62_of (by omega) (by omega)]
      rw [rangeD_eq]
      have hr : ((List.range ((S.length : Int) - 0).toNat).map fun i : Nat => (0 : Int) + (i : Int)).map D.int = (List.range S.length).map fun i : Nat => D.int i := by
        rw [show ((S.length : Int) - 0).toNat = S.length by omega, List.map_map]
        refine List.map_congr_left fun i _ => ?_
        show D.int (0 + (i : Int)) = D.int i
        rw [Int.zero_add]
      rw [hr]
      have hve : ∀ i, i < S.length → v[i]? = some (v.getD i 0) := fun i hi => by
        rw [List.getD_eq_getElem?_getD, List.getElem?_eq_getElem (by omega)]; rfl
      have hse : ∀ i, i < S.length → S[i]? = some (S.getD i 0) := fun i hi => by
        rw [List.getD_eq_getElem?_getD, List.getElem?_eq_getElem (by omega)]; rfl
      have hs2 : ∀ i, i < S.length → 1 ≤ S.getD i 0 ∧ S.getD i 0 ≤ 200 := fun i hi => g.rng _ (List.mem_of_getElem? (hse i hi))
      rw [compD_all (fun i : Nat => D.int i) (fun i => D.int (((v.getD i 0 : Nat) : Int) * ((S.getD i 0 : Nat) : Int))) (List.range S.length) fun i hi => ⟨_, rfl, by
        have hi := List.mem_range.mp hi
        have := hs2 i hi
        simp -implicitDefEqProofs only [runF_e, sSeq_e, thn_nx, thn_rt, thn_ex, thn_ct, thn_bk, toR_rt, toR_nx, toR_ex, st_ok, st_ex, st_bind, bind_bind, RQ_ok, OQ_nx, OQ_ct, OQ_bk, OQ_rt, NQ_nx, sNil, sRet_e, sRetO_q, retK_ow, retK_sh, sRetN, sExp_e, sIf_e, sSh_e, sOw_e, sMut_q, mutK_ow, mutK2_some, sSetIx_q, setK_ow, setK2_some, sAug_q, augK_sh, augK2_int, sAugIx_q, agxK_ow, agxK0_int, agxK1_some, agxK2_int, agxK3_some, sTup_q, tupK_some, sFor_e, sNo, sBk, sCt, eV_q, eO_q, slV_sh, slO_sh, slO_ow, eC, eBin, ofO_some, asB_bl, tE, tNotD, tAndD, tOrD, eAnd, eOr, eNot, eIf, eChain, tTru, truD, aNil, aCons, eTup, eLst, oNone, oSome, asI, eSl, sliceD, eCall, eFn, eFnK, eComp, okOwn_q, slOk_sh, slOk_no, slOk_none, wipeD, noX, tYesD, itSeq_q, seqK_lst, seqK_tup, seqK_scr, itRange1_q, rng1K_e, itRange2_q, rng2K_e, itEnum_q, enmK_e, itZip_q, zipK_e, bindP, binds, eNeg, eIsi, addD, subD, mulD, fdivD, modD, powD, iop, cmpI, isND, notND, D.isN, idxD, lenD, listD, tupleD, appD_lst, setD_lst, mutK2_ite, D.isL, max2D, min2D, absD, PD.intD, D.ty, frz_cons, frz1_q, frzS_ow, frzS_sh, frzS_no, frzD_lst, frzD_int, frzD_nil, frzK_nil, frz_nil, mkSl_lst, D.isMut, R.bind_ok, R.bind_no, dec_true, decide_eq_true_eq, decide_eq_false_iff_not, Bool.not_eq_true', Bool.decide_eq_true, Bool.not_eq_eq_eq_not, List.map_cons, List.map_nil, List.length_cons, List.length_nil, List.replicate_succ, List.replicate_zero, List.cons_append, List.nil_append, List.append_nil, List.getElem?_cons_zero, List.getElem?_cons_succ, List.set_cons_zero, List.set_cons_succ, List.all_cons, List.all_nil, Bool.and_true, Bool.true_and, Bool.and_self, Bool.not_true, Bool.not_false, Bool.false_eq_true, Bool.true_eq_false, if_true, if_false, ite_true, ite_false, reduceIte, Nat.add_sub_cancel, Nat.reduceSub, Nat.reduceAdd, Nat.sub_self, Nat.zero_add, Int.reduceLT, Int.reduceLE, Int.reduceEq, Int.reduceAdd, Int.reduceSub, Int.reduceMul, Int.reduceNeg, Int.reduceMod, Int.reduceDiv, Nat.zero_le, isiD_lst, isiD_int_int, isiD_int_bool, isiD_bl_bool, isiD_tup, decide_true, decide_false, nats_at (hve i hi), nats_at (hse i hi), show mulOk ((v.getD i 0 : Nat) : Int) ((S.getD i 0 : Nat) : Int) = true from mulOk_r (by omega) (by omega)]⟩]
      simp -implicitDefEqProofs only [runF_e, sSeq_e, thn_nx, thn_rt, thn_ex, thn_ct, thn_bk, toR_rt, toR_nx, toR_ex, st_ok, st_ex, st_bind, bind_bind, RQ_ok, OQ_nx, OQ_ct, OQ_bk, OQ_rt, NQ_nx, sNil, sRet_e, sRetO_q, retK_ow, retK_sh, sRetN, sExp_e, sIf_e, sSh_e, sOw_e, sMut_q, mutK_ow, mutK2_some, sSetIx_q, setK_ow, setK2_some, sAug_q, augK_sh, augK2_int, sAugIx_q, agxK_ow, agxK0_int, agxK1_some, agxK2_int, agxK3_some, sTup_q, tupK_some, sFor_e, sNo, sBk, sCt, eV_q, eO_q, slV_sh, slO_sh, slO_ow, eC, eBin, ofO_some, asB_bl, tE, tNotD, tAndD, tOrD, eAnd, eOr, eNot, eIf, eChain, tTru, truD, aNil, aCons, eTup, eLst, oNone, oSome, asI, eSl, sliceD, eCall, eFn, eFnK, eComp, okOwn_q, slOk_sh, slOk_no, slOk_none, wipeD, noX, tYesD, itSeq_q, seqK_lst, seqK_tup, seqK_scr, itRange1_q, rng1K_e, itRange2_q, rng2K_e, itEnum_q, enmK_e, itZip_q, zipK_e, bindP, binds, eNeg, eIsi, addD, subD, mulD, fdivD, modD, powD, iop, cmpI, isND, notND, D.isN, idxD, lenD, listD, tupleD, appD_lst, setD_lst, mutK2_ite, D.isL, max2D, min2D, absD, PD.intD, D.ty, frz_cons, frz1_q, frzS_ow, frzS_sh, frzS_no, frzD_lst, frzD_int, frzD_nil, frzK_nil, frz_nil, mkSl_lst, D.isMut, R.bind_ok, R.bind_no, dec_true, decide_eq_true_eq, decide_eq_false_iff_not, Bool.not_eq_true', Bool.decide_eq_true, Bool.not_eq_eq_eq_not, List.map_cons, List.map_nil, List.length_cons, List.length_nil, List.replicate_succ, List.replicate_zero, List.cons_append, List.nil_append, List.append_nil, List.getElem?_cons_zero, List.getElem?_cons_succ, List.set_cons_zero, List.set_cons_succ, List.all_cons, List.all_nil, Bool.and_true, Bool.true_and, Bool.and_self, Bool.not_true, Bool.not_false, Bool.false_eq_true, Bool.true_eq_false, if_true, if_false, ite_true, ite_false, reduceIte, Nat.add_sub_cancel, Nat.reduceSub, Nat.reduceAdd, Nat.sub_self, Nat.zero_add, Int.reduceLT, Int.reduceLE, Int.reduceEq, Int.reduceAdd, Int.reduceSub, Int.reduceMul, Int.reduceNeg, Int.reduceMod, Int.reduceDiv, Nat.zero_le, isiD_lst, isiD_int_int, isiD_int_bool, isiD_bl_bool, isiD_tup, decide_true, decide_false, List.length_map, List.length_range]
      rw [if_pos (by rw [szL]; omega)]
      rw [show ((List.range S.length).map fun i : Nat => D.int (((v.getD i 0 : Nat) : Int) * ((S.getD i 0 : Nat) : Int))) = ((List.range S.length).map fun i : Nat => ((v.getD i 0 : Nat) : Int) * ((S.getD i 0 : Nat) : Int)).map D.int by rw [List.map_map]; rfl]
      simp -implicitDefEqProofs only [runF_e, sSeq_e, thn_nx, thn_rt, thn_ex, thn_ct, thn_bk, toR_rt, toR_nx, toR_ex, st_ok, st_ex, st_bind, bind_bind, RQ_ok, OQ_nx, OQ_ct, OQ_bk, OQ_rt, NQ_nx, sNil, sRet_e, sRetO_q, retK_ow, retK_sh, sRetN, sExp_e, sIf_e, sSh_e, sOw_e, sMut_q, mutK_ow, mutK2_some, sSetIx_q, setK_ow, setK2_some, sAug_q, augK_sh, augK2_int, sAugIx_q, agxK_ow, agxK0_int, agxK1_some, agxK2_int, agxK3_some, sTup_q, tupK_some, sFor_e, sNo, sBk, sCt, eV_q, eO_q, slV_sh, slO_sh, slO_ow, eC, eBin, ofO_some, asB_bl, tE, tNotD, tAndD, tOrD, eAnd, eOr, eNot, eIf, eChain, tTru, truD, aNil, aCons, eTup, eLst, oNone, oSome, asI, eSl, sliceD, eCall, eFn, eFnK, eComp, okOwn_q, slOk_sh, slOk_no, slOk_none, wipeD, noX, tYesD, itSeq_q, seqK_lst, seqK_tup, seqK_scr, itRange1_q, rng1K_e, itRange2_q, rng2K_e, itEnum_q, enmK_e, itZip_q, zipK_e, bindP, binds, eNeg, eIsi, addD, subD, mulD, fdivD, modD, powD, iop, cmpI, isND, notND, D.isN, idxD, lenD, listD, tupleD, appD_lst, setD_lst, mutK2_ite, D.isL, max2D, min2D, absD, PD.intD, D.ty, frz_cons, frz1_q, frzS_ow, frzS_sh, frzS_no, frzD_lst, frzD_int, frzD_nil, frzK_nil, frz_nil, mkSl_lst, D.isMut, R.bind_ok, R.bind_no, dec_true, decide_eq_true_eq, decide_eq_false_iff_not, Bool.not_eq_true', Bool.decide_eq_true, Bool.not_eq_eq_eq_not, List.map_cons, List.map_nil, List.length_cons, List.length_nil, List.replicate_succ, List.replicate_zero, List.cons_append, List.nil_append, List.append_nil, List.getElem?_cons_zero, List.getElem?_cons_succ, List.set_cons_zero, List.set_cons_succ, List.all_cons, List.all_nil, Bool.and_true, Bool.true_and, Bool.and_self, Bool.not_true, Bool.not_false, Bool.false_eq_true, Bool.true_eq_false, if_true, if_false, ite_true, ite_false, reduceIte, Nat.add_sub_cancel, Nat.reduceSub, Nat.reduceAdd, Nat.sub_self, Nat.zero_add, Int.reduceLT, Int.reduceLE, Int.reduceEq, Int.reduceAdd, Int.reduceSub, Int.reduceMul, Int.reduceNeg, Int.reduceMod, Int.reduceDiv, Nat.zero_le, isiD_lst, isiD_int_int, isiD_int_bool, isiD_bl_bool, isiD_tup, decide_true, decide_false, sumD_ints, dot_sum v S q1, q2, neD_int, List.length_map, show small62 (S.length : Int) = true from small62_of (by omega) (by omega)]
      rw [rangeD_eq, hr]
      refine forQ (C := fun o => RQ (o.thn _).toR _) (fun i ρ => ∃ (x4 x5 x7 : Sl) (r k : Nat), ρ = [.sh (Nats S), .sh (.int a), .sh (Nats v), .sh (.int k), x4, x5, .sh (.int r), x7] ∧ r ≤ a ∧ k ≤ m ∧ Best (S.drop i) r k (v.drop i)) ⟨.no, .no, .no, a, m, rfl, Nat.le_refl _, Nat.le_refl _, hb⟩ ?_ ?_
      · rintro i i' ρ hx ⟨x4, x5, x7, r, k, rfl, hr1, hk1, hb2⟩
        have hi : i < S.length := by
          have := (List.getElem?_eq_some_iff.mp hx).1
          simpa using this
        rw [List.getElem?_range hi] at hx
        cases hx
        have hsd : S.drop i = S.getD i 0 :: S.drop (i + 1) := by
          rw [List.drop_eq_getElem_cons hi, List.getD_eq_getElem?_getD, List.getElem?_eq_getElem hi]; rfl
        have hvd : v.drop i = v.getD i 0 :: v.drop (i + 1) := by
          rw [List.drop_eq_getElem_cons (by omega), List.getD_eq_getElem?_getD, List.getElem?_eq_getElem (by omega)]; rfl
        have hs3 := hs2 i hi
        have hG : ∀ t ∈ S.drop (i + 1), 0 < t := fun t ht => hS t (List.mem_of_mem_drop ht)
        obtain ⟨d3, h3, T2, rfl, hT2⟩ := law_fewest_ok hG (a := r) (Nat.le_trans (by rw [List.length_drop]; exact Nat.sub_le _ _) hSl) (Nat.le_trans hr1 ha)
        rw [hsd, hvd] at hb2
        obtain ⟨n, w, e, p1, p2, p3, p4, p5⟩ := hb2
        injection e with e1 e2
        subst e2
        revert hs3 hsd
        have ev := nats_at (hve i hi)
        have es := nats_at (hse i hi)
        rw [e1] at ev
        revert es p1 p3 p4 p5
        generalize S.getD i 0 = s
        intro p1 p3 p4 p5 es hsd hs3
        refine ⟨_, rfl, ?_⟩
        simp -implicitDefEqProofs only [runF_e, sSeq_e, thn_nx, thn_rt, thn_ex, thn_ct, thn_bk, toR_rt, toR_nx, toR_ex, st_ok, st_ex, st_bind, bind_bind, RQ_ok, OQ_nx, OQ_ct, OQ_bk, OQ_rt, NQ_nx, sNil, sRet_e, sRetO_q, retK_ow, retK_sh, sRetN, sExp_e, sIf_e, sSh_e, sOw_e, sMut_q, mutK_ow, mutK2_some, sSetIx_q, setK_ow, setK2_some, sAug_q, augK_sh, augK2_int, sAugIx_q, agxK_ow, agxK0_int, agxK1_some, agxK2_int, agxK3_some, sTup_q, tupK_some, sFor_e, sNo, sBk, sCt, eV_q, eO_q, slV_sh, slO_sh, slO_ow, eC, eBin, ofO_some, asB_bl, tE, tNotD, tAndD, tOrD, eAnd, eOr, eNot, eIf, eChain, tTru, truD, aNil, aCons, eTup, eLst, oNone, oSome, asI, eSl, sliceD, eCall, eFn, eFnK, eComp, okOwn_q, slOk_sh, slOk_no, slOk_none, wipeD, noX, tYesD, itSeq_q, seqK_lst, seqK_tup, seqK_scr, itRange1_q, rng1K_e, itRange2_q, rng2K_e, itEnum_q, enmK_e, itZip_q, zipK_e, bindP, binds, eNeg, eIsi, addD, subD, mulD, fdivD, modD, powD, iop, cmpI, isND, notND, D.isN, idxD, lenD, listD, tupleD, appD_lst, setD_lst, mutK2_ite, D.isL, max2D, min2D, absD, PD.intD, D.ty, frz_cons, frz1_q, frzS_ow, frzS_sh, frzS_no, frzD_lst, frzD_int, frzD_nil, frzK_nil, frz_nil, mkSl_lst, D.isMut, R.bind_ok, R.bind_no, dec_true, decide_eq_true_eq, decide_eq_false_iff_not, Bool.not_eq_true', Bool.decide_eq_true, Bool.not_eq_eq_eq_not, List.map_cons, List.map_nil, List.length_cons, List.length_nil, List.replicate_succ, List.replicate_zero, List.cons_append, List.nil_append, List.append_nil, List.getElem?_cons_zero, List.getElem?_cons_succ, List.set_cons_zero, List.set_cons_succ, List.all_cons, List.all_nil, Bool.and_true, Bool.true_and, Bool.and_self, Bool.not_true, Bool.not_false, Bool.false_eq_true, Bool.true_eq_false, if_true, if_false, ite_true, ite_false, reduceIte, Nat.add_sub_cancel, Nat.reduceSub, Nat.reduceAdd, Nat.sub_self, Nat.zero_add, Int.reduceLT, Int.reduceLE, Int.reduceEq, Int.reduceAdd, Int.reduceSub, Int.reduceMul, Int.reduceNeg, Int.reduceMod, Int.reduceDiv, Nat.zero_le, isiD_lst, isiD_int_int, isiD_int_bool, isiD_bl_bool, isiD_tup, decide_true, decide_false]
        rw [show cutD (S.map fun s : Nat => D.int s) (some ((i : Int) + 1)) none = (S.drop (i + 1)).map fun s : Nat => D.int s by
          rw [show ((i : Int) + 1) = ((i + 1 : Nat) : Int) by omega, cutD_drop, List.map_drop]]
        rw [h3]
        have hq : (r : Int) / (s : Int) = ((r / s : Nat) : Int) := by simp
        have hqr : r / s ≤ r := Nat.div_le_self _ _
        obtain ⟨N, hN, hN1, hN2⟩ : ∃ N : Nat, (if (r : Int) / s < k then (r : Int) / s else (k : Int)) = (N : Int) ∧ N ≤ k ∧ N ≤ r / s := by
          rw [hq]
          by_cases h : ((r / s : Nat) : Int) < k
          · rw [if_pos h]; exact ⟨r / s, rfl, by omega, Nat.le_refl _⟩
          · rw [if_neg h]; exact ⟨k, rfl, Nat.le_refl _, by omega⟩
        simp -implicitDefEqProofs only [runF_e, sSeq_e, thn_nx, thn_rt, thn_ex, thn_ct, thn_bk, toR_rt, toR_nx, toR_ex, st_ok, st_ex, st_bind, bind_bind, RQ_ok, OQ_nx, OQ_ct, OQ_bk, OQ_rt, NQ_nx, sNil, sRet_e, sRetO_q, retK_ow, retK_sh, sRetN, sExp_e, sIf_e, sSh_e, sOw_e, sMut_q, mutK_ow, mutK2_some, sSetIx_q, setK_ow, setK2_some, sAug_q, augK_sh, augK2_int, sAugIx_q, agxK_ow, agxK0_int, agxK1_some, agxK2_int, agxK3_some, sTup_q, tupK_some, sFor_e, sNo, sBk, sCt, eV_q, eO_q, slV_sh, slO_sh, slO_ow, eC, eBin, ofO_some, asB_bl, tE, tNotD, tAndD, tOrD, eAnd, eOr, eNot, eIf, eChain, tTru, truD, aNil, aCons, eTup, eLst, oNone, oSome, asI, eSl, sliceD, eCall, eFn, eFnK, eComp, okOwn_q, slOk_sh, slOk_no, slOk_none, wipeD, noX, tYesD, itSeq_q, seqK_lst, seqK_tup, seqK_scr, itRange1_q, rng1K_e, itRange2_q, rng2K_e, itEnum_q, enmK_e, itZip_q, zipK_e, bindP, binds, eNeg, eIsi, addD, subD, mulD, fdivD, modD, powD, iop, cmpI, isND, notND, D.isN, idxD, lenD, listD, tupleD, appD_lst, setD_lst, mutK2_ite, D.isL, max2D, min2D, absD, PD.intD, D.ty, frz_cons, frz1_q, frzS_ow, frzS_sh, frzS_no, frzD_lst, frzD_int, frzD_nil, frzK_nil, frz_nil, mkSl_lst, D.isMut, R.bind_ok, R.bind_no, dec_true, decide_eq_true_eq, decide_eq_false_iff_not, Bool.not_eq_true', Bool.decide_eq_true, Bool.not_eq_eq_eq_not, List.map_cons, List.map_nil, List.length_cons, List.length_nil, List.replicate_succ, List.replicate_zero, List.cons_append, List.nil_append, List.append_nil, List.getElem?_cons_zero, List.getElem?_cons_succ, List.set_cons_zero, List.set_cons_succ, List.all_cons, List.all_nil, Bool.and_true, Bool.true_and, Bool.and_self, Bool.not_true, Bool.not_false, Bool.false_eq_true, Bool.true_eq_false, if_true, if_false, ite_true, ite_false, reduceIte, Nat.add_sub_cancel, Nat.reduceSub, Nat.reduceAdd, Nat.sub_self, Nat.zero_add, Int.reduceLT, Int.reduceLE, Int.reduceEq, Int.reduceAdd, Int.reduceSub, Int.reduceMul, Int.reduceNeg, Int.reduceMod, Int.reduceDiv, Nat.zero_le, isiD_lst, isiD_int_int, isiD_int_bool, isiD_bl_bool, isiD_tup, decide_true, decide_false, ev, es, show fdivOk r s = true from fdivOk_of (by omega) (by omega), hN, show small62 ((n : Int) + 1) = true from small62_of (by omega) (by omega), show small62 ((N : Int) + 1) = true from small62_of (by omega) (by omega), Bool.and_self]
        rw [rangeD_eq]
        refine forQ (C := fun o => OQ (o.thn _) _ _ _) (fun j ρ => ∃ x4, ρ = [.sh (Nats S), .sh (.int a), .sh (Nats v), .sh (.int k), x4, .sh (.int i), .sh (.int r), .sh (Tab T2)]) ⟨x4, rfl⟩ ?_ ?_
        · rintro j x ρ hx2 ⟨x4, rfl⟩
          have hj : j < N - n := by
            have := (List.getElem?_eq_some_iff.mp hx2).1
            simp at this; omega
          have hx : x = ((n + 1 + j : Nat) : Int) := by
            rw [List.getElem?_map, List.getElem?_range (by omega)] at hx2
            have := Option.some.inj hx2
            simp only at this
            omega
          subst hx
          refine ⟨_, rfl, ?_⟩
          have hle : (n + 1 + j) * s ≤ r := (Nat.le_div_iff_mul_le (by omega)).mp (by omega)
          obtain ⟨o, ho, hom⟩ := hT2.get (r := r - (n + 1 + j) * s) (Nat.sub_le _ _)
          have e4 : atI (T2.map oD) ((r : Int) - ((n + 1 + j : Nat) : Int) * (s : Int)) = some (oD o) := by
            rw [show ((r : Int) - ((n + 1 + j : Nat) : Int) * (s : Int)) = ((r - (n + 1 + j) * s : Nat) : Int) by rw [Int.ofNat_sub hle]; simp, atI_natI (by omega) (by rw [List.length_map, hT2.len]; omega), List.getElem?_map, Int.toNat_natCast, ho]; rfl
          simp -implicitDefEqProofs only [runF_e, sSeq_e, thn_nx, thn_rt, thn_ex, thn_ct, thn_bk, toR_rt, toR_nx, toR_ex, st_ok, st_ex, st_bind, bind_bind, RQ_ok, OQ_nx, OQ_ct, OQ_bk, OQ_rt, NQ_nx, sNil, sRet_e, sRetO_q, retK_ow, retK_sh, sRetN, sExp_e, sIf_e, sSh_e, sOw_e, sMut_q, mutK_ow, mutK2_some, sSetIx_q, setK_ow, setK2_some, sAug_q, augK_sh, augK2_int, sAugIx_q, agxK_ow, agxK0_int, agxK1_some, agxK2_int, agxK3_some, sTup_q, tupK_some, sFor_e, sNo, sBk, sCt, eV_q, eO_q, slV_sh, slO_sh, slO_ow, eC, eBin, ofO_some, asB_bl, tE, tNotD, tAndD, tOrD, eAnd, eOr, eNot, eIf, eChain, tTru, truD, aNil, aCons, eTup, eLst, oNone, oSome, asI, eSl, sliceD, eCall, eFn, eFnK, eComp, okOwn_q, slOk_sh, slOk_no, slOk_none, wipeD, noX, tYesD, itSeq_q, seqK_lst, seqK_tup, seqK_scr, itRange1_q, rng1K_e, itRange2_q, rng2K_e, itEnum_q, enmK_e, itZip_q, zipK_e, bindP, binds, eNeg, eIsi, addD, subD, mulD, fdivD, modD, powD, iop, cmpI, isND, notND, D.isN, idxD, lenD, listD, tupleD, appD_lst, setD_lst, mutK2_ite, D.isL, max2D, min2D, absD, PD.intD, D.ty, frz_cons, frz1_q, frzS_ow, frzS_sh, frzS_no, frzD_lst, frzD_int, frzD_nil, frzK_nil, frz_nil, mkSl_lst, D.isMut, R.bind_ok, R.bind_no, dec_true, decide_eq_true_eq, decide_eq_false_iff_not, Bool.not_eq_true', Bool.decide_eq_true, Bool.not_eq_eq_eq_not, List.map_cons, List.map_nil, List.length_cons, List.length_nil, List.replicate_succ, List.replicate_zero, List.cons_append, List.nil_append, List.append_nil, List.getElem?_cons_zero, List.getElem?_cons_succ, List.set_cons_zero, List.set_cons_succ, List.all_cons, List.all_nil, Bool.and_true, Bool.true_and, Bool.and_self, Bool.not_true, Bool.not_false, Bool.false_eq_true, Bool.true_eq_false, if_true, if_false, ite_true, ite_false, reduceIte, Nat.add_sub_cancel, Nat.reduceSub, Nat.reduceAdd, Nat.sub_self, Nat.zero_add, Int.reduceLT, Int.reduceLE, Int.reduceEq, Int.reduceAdd, Int.reduceSub, Int.reduceMul, Int.reduceNeg, Int.reduceMod, Int.reduceDiv, Nat.zero_le, isiD_lst, isiD_int_int, isiD_int_bool, isiD_bl_bool, isiD_tup, decide_true, decide_false, es, show mulOk ((n + 1 + j : Nat) : Int) (s : Int) = true from mulOk_r (by omega) (by omega), e4, eqD_oD]
          have hne : oNe o ((k : Int) - ((n + 1 + j : Nat) : Int)) = true := by
            cases o with
            | none => rfl
            | some z =>
              have h5 := p4 (n + 1 + j) (by omega) (by omega) hle
              have : (z : Int) ≠ (k : Int) - ((n + 1 + j : Nat) : Int) := fun e => h5 (by
                rw [show k - (n + 1 + j) = z by omega]; exact hom)
              show (!decide _) = true
              rw [decide_eq_false this]; rfl
          rw [hne]
          simp -implicitDefEqProofs only [runF_e, sSeq_e, thn_nx, thn_rt, thn_ex, thn_ct, thn_bk, toR_rt, toR_nx, toR_ex, st_ok, st_ex, st_bind, bind_bind, RQ_ok, OQ_nx, OQ_ct, OQ_bk, OQ_rt, NQ_nx, sNil, sRet_e, sRetO_q, retK_ow, retK_sh, sRetN, sExp_e, sIf_e, sSh_e, sOw_e, sMut_q, mutK_ow, mutK2_some, sSetIx_q, setK_ow, setK2_some, sAug_q, augK_sh, augK2_int, sAugIx_q, agxK_ow, agxK0_int, agxK1_some, agxK2_int, agxK3_some, sTup_q, tupK_some, sFor_e, sNo, sBk, sCt, eV_q, eO_q, slV_sh, slO_sh, slO_ow, eC, eBin, ofO_some, asB_bl, tE, tNotD, tAndD, tOrD, eAnd, eOr, eNot, eIf, eChain, tTru, truD, aNil, aCons, eTup, eLst, oNone, oSome, asI, eSl, sliceD, eCall, eFn, eFnK, eComp, okOwn_q, slOk_sh, slOk_no, slOk_none, wipeD, noX, tYesD, itSeq_q, seqK_lst, seqK_tup, seqK_scr, itRange1_q, rng1K_e, itRange2_q, rng2K_e, itEnum_q, enmK_e, itZip_q, zipK_e, bindP, binds, eNeg, eIsi, addD, subD, mulD, fdivD, modD, powD, iop, cmpI, isND, notND, D.isN, idxD, lenD, listD, tupleD, appD_lst, setD_lst, mutK2_ite, D.isL, max2D, min2D, absD, PD.intD, D.ty, frz_cons, frz1_q, frzS_ow, frzS_sh, frzS_no, frzD_lst, frzD_int, frzD_nil, frzK_nil, frz_nil, mkSl_lst, D.isMut, R.bind_ok, R.bind_no, dec_true, decide_eq_true_eq, decide_eq_false_iff_not, Bool.not_eq_true', Bool.decide_eq_true, Bool.not_eq_eq_eq_not, List.map_cons, List.map_nil, List.length_cons, List.length_nil, List.replicate_succ, List.replicate_zero, List.cons_append, List.nil_append, List.append_nil, List.getElem?_cons_zero, List.getElem?_cons_succ, List.set_cons_zero, List.set_cons_succ, List.all_cons, List.all_nil, Bool.and_true, Bool.true_and, Bool.and_self, Bool.not_true, Bool.not_false, Bool.false_eq_true, Bool.true_eq_false, if_true, if_false, ite_true, ite_false, reduceIte, Nat.add_sub_cancel, Nat.reduceSub, Nat.reduceAdd, Nat.sub_self, Nat.zero_add, Int.reduceLT, Int.reduceLE, Int.reduceEq, Int.reduceAdd, Int.reduceSub, Int.reduceMul, Int.reduceNeg, Int.reduceMod, Int.reduceDiv, Nat.zero_le, isiD_lst, isiD_int_int, isiD_int_bool, isiD_bl_bool, isiD_tup, decide_true, decide_false]
          exact ⟨_, rfl⟩
        · rintro ρ ⟨x4, rfl⟩
          simp -implicitDefEqProofs only [runF_e, sSeq_e, thn_nx, thn_rt, thn_ex, thn_ct, thn_bk, toR_rt, toR_nx, toR_ex, st_ok, st_ex, st_bind, bind_bind, RQ_ok, OQ_nx, OQ_ct, OQ_bk, OQ_rt, NQ_nx, sNil, sRet_e, sRetO_q, retK_ow, retK_sh, sRetN, sExp_e, sIf_e, sSh_e, sOw_e, sMut_q, mutK_ow, mutK2_some, sSetIx_q, setK_ow, setK2_some, sAug_q, augK_sh, augK2_int, sAugIx_q, agxK_ow, agxK0_int, agxK1_some, agxK2_int, agxK3_some, sTup_q, tupK_some, sFor_e, sNo, sBk, sCt, eV_q, eO_q, slV_sh, slO_sh, slO_ow, eC, eBin, ofO_some, asB_bl, tE, tNotD, tAndD, tOrD, eAnd, eOr, eNot, eIf, eChain, tTru, truD, aNil, aCons, eTup, eLst, oNone, oSome, asI, eSl, sliceD, eCall, eFn, eFnK, eComp, okOwn_q, slOk_sh, slOk_no, slOk_none, wipeD, noX, tYesD, itSeq_q, seqK_lst, seqK_tup, seqK_scr, itRange1_q, rng1K_e, itRange2_q, rng2K_e, itEnum_q, enmK_e, itZip_q, zipK_e, bindP, binds, eNeg, eIsi, addD, subD, mulD, fdivD, modD, powD, iop, cmpI, isND, notND, D.isN, idxD, lenD, listD, tupleD, appD_lst, setD_lst, mutK2_ite, D.isL, max2D, min2D, absD, PD.intD, D.ty, frz_cons, frz1_q, frzS_ow, frzS_sh, frzS_no, frzD_lst, frzD_int, frzD_nil, frzK_nil, frz_nil, mkSl_lst, D.isMut, R.bind_ok, R.bind_no, dec_true, decide_eq_true_eq, decide_eq_false_iff_not, Bool.not_eq_true', Bool.decide_eq_true, Bool.not_eq_eq_eq_not, List.map_cons, List.map_nil, List.length_cons, List.length_nil, List.replicate_succ, List.replicate_zero, List.cons_append, List.nil_append, List.append_nil, List.getElem?_cons_zero, List.getElem?_cons_succ, List.set_cons_zero, List.set_cons_succ, List.all_cons, List.all_nil, Bool.and_true, Bool.true_and, Bool.and_self, Bool.not_true, Bool.not_false, Bool.false_eq_true, Bool.true_eq_false, if_true, if_false, ite_true, ite_false, reduceIte, Nat.add_sub_cancel, Nat.reduceSub, Nat.reduceAdd, Nat.sub_self, Nat.zero_add, Int.reduceLT, Int.reduceLE, Int.reduceEq, Int.reduceAdd, Int.reduceSub, Int.reduceMul, Int.reduceNeg, Int.reduceMod, Int.reduceDiv, Nat.zero_le, isiD_lst, isiD_int_int, isiD_int_bool, isiD_bl_bool, isiD_tup, decide_true, decide_false, ev, es, show mulOk (n : Int) (s : Int) = true from mulOk_r (by omega) (by omega)]
          rw [show ((r : Int) - (n : Int) * (s : Int)) = ((r - n * s : Nat) : Int) by rw [Int.ofNat_sub p1]; simp, show ((k : Int) - (n : Int)) = ((k - n : Nat) : Int) by omega]
          exact ⟨_, _, _, _, _, rfl, by omega, by omega, p5⟩
      · rintro ρ ⟨x4, x5, x7, r, k, rfl, _⟩
        simp -implicitDefEqProofs only [runF_e, sSeq_e, thn_nx, thn_rt, thn_ex, thn_ct, thn_bk, toR_rt, toR_nx, toR_ex, st_ok, st_ex, st_bind, bind_bind, RQ_ok, OQ_nx, OQ_ct, OQ_bk, OQ_rt, NQ_nx, sNil, sRet_e, sRetO_q, retK_ow, retK_sh, sRetN, sExp_e, sIf_e, sSh_e, sOw_e, sMut_q, mutK_ow, mutK2_some, sSetIx_q, setK_ow, setK2_some, sAug_q, augK_sh, augK2_int, sAugIx_q, agxK_ow, agxK0_int, agxK1_some, agxK2_int, agxK3_some, sTup_q, tupK_some, sFor_e, sNo, sBk, sCt, eV_q, eO_q, slV_sh, slO_sh, slO_ow, eC, eBin, ofO_some, asB_bl, tE, tNotD, tAndD, tOrD, eAnd, eOr, eNot, eIf, eChain, tTru, truD, aNil, aCons, eTup, eLst, oNone, oSome, asI, eSl, sliceD, eCall, eFn, eFnK, eComp, okOwn_q, slOk_sh, slOk_no, slOk_none, wipeD, noX, tYesD, itSeq_q, seqK_lst, seqK_tup, seqK_scr, itRange1_q, rng1K_e, itRange2_q, rng2K_e, itEnum_q, enmK_e, itZip_q, zipK_e, bindP, binds, eNeg, eIsi, addD, subD, mulD, fdivD, modD, powD, iop, cmpI, isND, notND, D.isN, idxD, lenD, listD, tupleD, appD_lst, setD_lst, mutK2_ite, D.isL, max2D, min2D, absD, PD.intD, D.ty, frz_cons, frz1_q, frzS_ow, frzS_sh, frzS_no, frzD_lst, frzD_int, frzD_nil, frzK_nil, frz_nil, mkSl_lst, D.isMut, R.bind_ok, R.bind_no, dec_true, decide_eq_true_eq, decide_eq_false_iff_not, Bool.not_eq_true', Bool.decide_eq_true, Bool.not_eq_eq_eq_not, List.map_cons, List.map_nil, List.length_cons, List.length_nil, List.replicate_succ, List.replicate_zero, List.cons_append, List.nil_append, List.append_nil, List.getElem?_cons_zero, List.getElem?_cons_succ, List.set_cons_zero, List.set_cons_succ, List.all_cons, List.all_nil, Bool.and_true, Bool.true_and, Bool.and_self, Bool.not_true, Bool.not_false, Bool.false_eq_true, Bool.true_eq_false, if_true, if_false, ite_true, ite_false, reduceIte, Nat.add_sub_cancel, Nat.reduceSub, Nat.reduceAdd, Nat.sub_self, Nat.zero_add, Int.reduceLT, Int.reduceLE, Int.reduceEq, Int.reduceAdd, Int.reduceSub, Int.reduceMul, Int.reduceNeg, Int.reduceMod, Int.reduceDiv, Nat.zero_le, isiD_lst, isiD_int_int, isiD_int_bool, isiD_bl_bool, isiD_tup, decide_true, decide_false]
  obtain ⟨d, h1, rfl⟩ := key
  exact h1
end K55
namespace K55
open PySem PySem.Spec PyProof.Rows L2 PD
theorem Good.take4 {S : List Nat} (g : Good S) : Good (S.take 4) := ⟨by
  intro e
  rcases List.take_eq_nil_iff.mp e with h | h
  · cases h
  · exact g.ne h, by rw [List.length_take]; have := g.len; omega, fun s hs => g.rng s (List.mem_of_mem_take hs), g.asc.sublist (List.take_sublist _ _)⟩
theorem best_zero {S : List Nat} (g : Good S) : F_best_filling [Nats S, .int 0] = .ok (Nats (List.replicate S.length 0)) := by
  have hS : ∀ s ∈ S, 0 < s := fun s hs => (g.rng s hs).1
  obtain ⟨d, h1, hd⟩ := best_filling_ok g (a := 0) (by omega)
  rcases hd with ⟨rfl, hn⟩ | ⟨m, v, hm, rfl, hb⟩
  · exact absurd (fil_zero S) (hn 0)
  · have := fil_none hS hm.1
    subst this
    obtain ⟨q1, _, q3⟩ := hb.spec
    have : v = List.replicate S.length 0 := by
      rw [← q1]
      exact List.eq_replicate_of_mem fun x hx => by
        have := List.sum_eq_zero_iff_forall_eq_nat.mp q3 x hx
        exact this
    rw [← this]
    exact h1
theorem law_true (ns : List Int) (h : ns.length ≤ 63) : F_law [.scr ns] = .ok (.bl true) := by
  have key : RQ (F_law [.scr ns]) fun d => d = .bl true := by
    unfold F_law
    obtain ⟨d, h1, L, hL, rfl⟩ := lawNum ns 0 16 (by decide) (by decide) h
    have h1 : F__law_numbers [.scr ns, .int 0, .int 16] = .ok (Ints L) := h1
    obtain ⟨d, h2, M, hM, rfl⟩ := lawNum ns 1 16 (by decide) (by decide) h
    have h2 : F__law_numbers [.scr ns, .int 1, .int 16] = .ok (Ints M) := h2
    obtain ⟨d, h3, S, rfl, g, hB⟩ := law_sizes_ok hL (most := 12) (B := 18) (by decide) (by decide) (by decide) (.inr (by decide))
    have h3 : F__law_sizes [Ints L, .int 12] = .ok (Nats S) := h3
    obtain ⟨x11, e11, a11, b11⟩ := hL.at (i := 11) (by decide)
    obtain ⟨x12, e12, a12, b12⟩ := hL.at (i := 12) (by decide)
    obtain ⟨x13, e13, a13, b13⟩ := hL.at (i := 13) (by decide)
    obtain ⟨y11, f11, c11, d11⟩ := hM.at (i := 11) (by decide)
    obtain ⟨y12, f12, c12, d12⟩ := hM.at (i := 12) (by decide)
    obtain ⟨y13, f13, c13, d13⟩ := hM.at (i := 13) (by decide)
    have e11 : atI (L.map D.int) 11 = some (.int x11) := e11
    have e12 : atI (L.map D.int) 12 = some (.int x12) := e12
    have e13 : atI (L.map D.int) 13 = some (.int x13) := e13
    have f11 : atI (M.map D.int) 11 = some (.int y11) := f11
    have f12 : atI (M.map D.int) 12 = some (.int y12) := f12
    have f13 : atI (M.map D.int) 13 = some (.int y13) := f13
    have g4 := g.take4
    simp -implicitDefEqProofs only [runF_e, sSeq_e, thn_nx, thn_rt, thn_ex, thn_ct, thn_bk, toR_rt, toR_nx, toR_ex, st_ok, st_ex, st_bind, bind_bind, RQ_ok, OQ_nx, OQ_ct, OQ_bk, OQ_rt, NQ_nx, sNil, sRet_e, sRetO_q, retK_ow, retK_sh, sRetN, sExp_e, sIf_e, sSh_e, sOw_e, sMut_q, mutK_ow, mutK2_some, sSetIx_q, setK_ow, setK2_some, sAug_q, augK_sh, augK2_int, sAugIx_q, agxK_ow, agxK0_int, agxK1_some, agxK2_int, agxK3_some, sTup_q, tupK_some, sFor_e, sNo, sBk, sCt, eV_q, eO_q, slV_sh, slO_sh, slO_ow, eC, eBin, ofO_some, asB_bl, tE, tNotD, tAndD, tOrD, eAnd, eOr, eNot, eIf, eChain, tTru, truD, aNil, aCons, eTup, eLst, oNone, oSome, asI, eSl, sliceD, eCall, eFn, eFnK, eComp, okOwn_q, slOk_sh, slOk_no, slOk_none, wipeD, noX, tYesD, itSeq_q, seqK_lst, seqK_tup, seqK_scr, itRange1_q, rng1K_e, itRange2_q, rng2K_e, itEnum_q, enmK_e, itZip_q, zipK_e, bindP, binds, eNeg, eIsi, addD, subD, mulD, fdivD, modD, powD, iop, cmpI, isND, notND, D.isN, idxD, lenD, listD, tupleD, appD_lst, setD_lst, mutK2_ite, D.isL, max2D, min2D, absD, PD.intD, D.ty, frz_cons, frz1_q, frzS_ow, frzS_sh, frzS_no, frzD_lst, frzD_int, frzD_nil, frzK_nil, frz_nil, mkSl_lst, D.isMut, R.bind_ok, R.bind_no, dec_true, decide_eq_true_eq, decide_eq_false_iff_not, Bool.not_eq_true', Bool.decide_eq_true, Bool.not_eq_eq_eq_not, List.map_cons, List.map_nil, List.length_cons, List.length_nil, List.replicate_succ, List.replicate_zero, List.cons_append, List.nil_append, List.append_nil, List.getElem?_cons_zero, List.getElem?_cons_succ, List.set_cons_zero, List.set_cons_succ, List.all_cons, List.all_nil, Bool.and_true, Bool.true_and, Bool.and_self, Bool.not_true, Bool.not_false, Bool.false_eq_true, Bool.true_eq_false, if_true, if_false, ite_true, ite_false, reduceIte, Nat.add_sub_cancel, Nat.reduceSub, Nat.reduceAdd, Nat.sub_self, Nat.zero_add, Int.reduceLT, Int.reduceLE, Int.reduceEq, Int.reduceAdd, Int.reduceSub, Int.reduceMul, Int.reduceNeg, Int.reduceMod, Int.reduceDiv, Nat.zero_le, isiD_lst, isiD_int_int, isiD_int_bool, isiD_bl_bool, isiD_tup, decide_true, decide_false, h1, h3]
    rw [show cutD (S.map fun s : Nat => D.int s) none (some 4) = (S.take 4).map fun s : Nat => D.int s by rw [List.map_take]; exact cutD_take _ 4]
    obtain ⟨s0, hs0⟩ : ∃ s0, (S.take 4)[0]? = some s0 := by
      cases e : S.take 4 with
      | nil => exact absurd e g4.ne
      | cons x r => exact ⟨x, rfl⟩
    have hb0 := hB s0 (List.mem_of_mem_take (List.mem_of_getElem? hs0))
    have hs0' : atI ((S.take 4).map fun s : Nat => D.int s) 0 = some (.int s0) := nats_at hs0
    have hl4 : (S.take 4).length ≤ 4 := by rw [List.length_take]; omega
    simp -implicitDefEqProofs only [runF_e, sSeq_e, thn_nx, thn_rt, thn_ex, thn_ct, thn_bk, toR_rt, toR_nx, toR_ex, st_ok, st_ex, st_bind, bind_bind, RQ_ok, OQ_nx, OQ_ct, OQ_bk, OQ_rt, NQ_nx, sNil, sRet_e, sRetO_q, retK_ow, retK_sh, sRetN, sExp_e, sIf_e, sSh_e, sOw_e, sMut_q, mutK_ow, mutK2_some, sSetIx_q, setK_ow, setK2_some, sAug_q, augK_sh, augK2_int, sAugIx_q, agxK_ow, agxK0_int, agxK1_some, agxK2_int, agxK3_some, sTup_q, tupK_some, sFor_e, sNo, sBk, sCt, eV_q, eO_q, slV_sh, slO_sh, slO_ow, eC, eBin, ofO_some, asB_bl, tE, tNotD, tAndD, tOrD, eAnd, eOr, eNot, eIf, eChain, tTru, truD, aNil, aCons, eTup, eLst, oNone, oSome, asI, eSl, sliceD, eCall, eFn, eFnK, eComp, okOwn_q, slOk_sh, slOk_no, slOk_none, wipeD, noX, tYesD, itSeq_q, seqK_lst, seqK_tup, seqK_scr, itRange1_q, rng1K_e, itRange2_q, rng2K_e, itEnum_q, enmK_e, itZip_q, zipK_e, bindP, binds, eNeg, eIsi, addD, subD, mulD, fdivD, modD, powD, iop, cmpI, isND, notND, D.isN, idxD, lenD, listD, tupleD, appD_lst, setD_lst, mutK2_ite, D.isL, max2D, min2D, absD, PD.intD, D.ty, frz_cons, frz1_q, frzS_ow, frzS_sh, frzS_no, frzD_lst, frzD_int, frzD_nil, frzK_nil, frz_nil, mkSl_lst, D.isMut, R.bind_ok, R.bind_no, dec_true, decide_eq_true_eq, decide_eq_false_iff_not, Bool.not_eq_true', Bool.decide_eq_true, Bool.not_eq_eq_eq_not, List.map_cons, List.map_nil, List.length_cons, List.length_nil, List.replicate_succ, List.replicate_zero, List.cons_append, List.nil_append, List.append_nil, List.getElem?_cons_zero, List.getElem?_cons_succ, List.set_cons_zero, List.set_cons_succ, List.all_cons, List.all_nil, Bool.and_true, Bool.true_and, Bool.and_self, Bool.not_true, Bool.not_false, Bool.false_eq_true, Bool.true_eq_false, if_true, if_false, ite_true, ite_false, reduceIte, Nat.add_sub_cancel, Nat.reduceSub, Nat.reduceAdd, Nat.sub_self, Nat.zero_add, Int.reduceLT, Int.reduceLE, Int.reduceEq, Int.reduceAdd, Int.reduceSub, Int.reduceMul, Int.reduceNeg, Int.reduceMod, Int.reduceDiv, Nat.zero_le, isiD_lst, isiD_int_int, isiD_int_bool, isiD_bl_bool, isiD_tup, decide_true, decide_false, e11, e12, e13, hs0', show mulOk (s0 : Int) (x13 % 3) = true from mulOk_l (by omega) (by omega), show (4 : Nat) ≤ sizeLine by rw [szL]; decide]
    have hm : ∀ x ∈ [x11 % 25, x12 % 25, (s0 : Int) * (x13 % 3), 0], 0 ≤ x ∧ x ≤ 36 := by
      intro x hx
      simp only [List.mem_cons, List.not_mem_nil, or_false] at hx
      rcases hx with rfl | rfl | rfl | rfl
      · omega
      · omega
      · have : x13 % 3 = 0 ∨ x13 % 3 = 1 ∨ x13 % 3 = 2 := by omega
        rcases this with e | e | e <;> rw [e] <;> omega
      · omega
    rw [show [D.int (x11 % 25), D.int (x12 % 25), D.int ((s0 : Int) * (x13 % 3)), D.int 0] = [x11 % 25, x12 % 25, (s0 : Int) * (x13 % 3), 0].map D.int from rfl]
    refine forQ (C := fun o => RQ (o.thn _).toR _) (fun i ρ => ∃ x3, ρ = [.sh (.scr ns), .sh (Ints L), .sh (Nats (S.take 4)), x3, .no]) ⟨.no, rfl⟩ ?_ ?_
    · rintro i x ρ hx ⟨x3, rfl⟩
      obtain ⟨hx0, hx1⟩ := hm x (List.mem_of_getElem? hx)
      refine ⟨_, rfl, ?_⟩
      have h4 := small_ones_ok g4 hl4 (a := x.toNat) (by omega)
      rw [show ((x.toNat : Nat) : Int) = x by omega] at h4
      simp -implicitDefEqProofs only [runF_e, sSeq_e, thn_nx, thn_rt, thn_ex, thn_ct, thn_bk, toR_rt, toR_nx, toR_ex, st_ok, st_ex, st_bind, bind_bind, RQ_ok, OQ_nx, OQ_ct, OQ_bk, OQ_rt, NQ_nx, sNil, sRet_e, sRetO_q, retK_ow, retK_sh, sRetN, sExp_e, sIf_e, sSh_e, sOw_e, sMut_q, mutK_ow, mutK2_some, sSetIx_q, setK_ow, setK2_some, sAug_q, augK_sh, augK2_int, sAugIx_q, agxK_ow, agxK0_int, agxK1_some, agxK2_int, agxK3_some, sTup_q, tupK_some, sFor_e, sNo, sBk, sCt, eV_q, eO_q, slV_sh, slO_sh, slO_ow, eC, eBin, ofO_some, asB_bl, tE, tNotD, tAndD, tOrD, eAnd, eOr, eNot, eIf, eChain, tTru, truD, aNil, aCons, eTup, eLst, oNone, oSome, asI, eSl, sliceD, eCall, eFn, eFnK, eComp, okOwn_q, slOk_sh, slOk_no, slOk_none, wipeD, noX, tYesD, itSeq_q, seqK_lst, seqK_tup, seqK_scr, itRange1_q, rng1K_e, itRange2_q, rng2K_e, itEnum_q, enmK_e, itZip_q, zipK_e, bindP, binds, eNeg, eIsi, addD, subD, mulD, fdivD, modD, powD, iop, cmpI, isND, notND, D.isN, idxD, lenD, listD, tupleD, appD_lst, setD_lst, mutK2_ite, D.isL, max2D, min2D, absD, PD.intD, D.ty, frz_cons, frz1_q, frzS_ow, frzS_sh, frzS_no, frzD_lst, frzD_int, frzD_nil, frzK_nil, frz_nil, mkSl_lst, D.isMut, R.bind_ok, R.bind_no, dec_true, decide_eq_true_eq, decide_eq_false_iff_not, Bool.not_eq_true', Bool.decide_eq_true, Bool.not_eq_eq_eq_not, List.map_cons, List.map_nil, List.length_cons, List.length_nil, List.replicate_succ, List.replicate_zero, List.cons_append, List.nil_append, List.append_nil, List.getElem?_cons_zero, List.getElem?_cons_succ, List.set_cons_zero, List.set_cons_succ, List.all_cons, List.all_nil, Bool.and_true, Bool.true_and, Bool.and_self, Bool.not_true, Bool.not_false, Bool.false_eq_true, Bool.true_eq_false, if_true, if_false, ite_true, ite_false, reduceIte, Nat.add_sub_cancel, Nat.reduceSub, Nat.reduceAdd, Nat.sub_self, Nat.zero_add, Int.reduceLT, Int.reduceLE, Int.reduceEq, Int.reduceAdd, Int.reduceSub, Int.reduceMul, Int.reduceNeg, Int.reduceMod, Int.reduceDiv, Nat.zero_le, isiD_lst, isiD_int_int, isiD_int_bool, isiD_bl_bool, isiD_tup, decide_true, decide_false, h4]
      exact ⟨_, rfl⟩
    · rintro ρ ⟨x3, rfl⟩
      obtain ⟨most, hmost, hm1, hm2⟩ : ∃ most : Nat, atI [D.int 40, D.int 200] (y11 % 2) = some (.int most) ∧ 1 ≤ most ∧ most ≤ 200 := by
        have : y11 % 2 = 0 ∨ y11 % 2 = 1 := by omega
        rcases this with e | e <;> rw [e]
        · exact ⟨40, rfl, by decide, by decide⟩
        · exact ⟨200, rfl, by decide, by decide⟩
      obtain ⟨d, h5, S2, rfl, g2, _⟩ := law_sizes_ok hM (most := most) (B := 200) hm1 hm2 (by decide) (.inl rfl)
      simp -implicitDefEqProofs only [runF_e, sSeq_e, thn_nx, thn_rt, thn_ex, thn_ct, thn_bk, toR_rt, toR_nx, toR_ex, st_ok, st_ex, st_bind, bind_bind, RQ_ok, OQ_nx, OQ_ct, OQ_bk, OQ_rt, NQ_nx, sNil, sRet_e, sRetO_q, retK_ow, retK_sh, sRetN, sExp_e, sIf_e, sSh_e, sOw_e, sMut_q, mutK_ow, mutK2_some, sSetIx_q, setK_ow, setK2_some, sAug_q, augK_sh, augK2_int, sAugIx_q, agxK_ow, agxK0_int, agxK1_some, agxK2_int, agxK3_some, sTup_q, tupK_some, sFor_e, sNo, sBk, sCt, eV_q, eO_q, slV_sh, slO_sh, slO_ow, eC, eBin, ofO_some, asB_bl, tE, tNotD, tAndD, tOrD, eAnd, eOr, eNot, eIf, eChain, tTru, truD, aNil, aCons, eTup, eLst, oNone, oSome, asI, eSl, sliceD, eCall, eFn, eFnK, eComp, okOwn_q, slOk_sh, slOk_no, slOk_none, wipeD, noX, tYesD, itSeq_q, seqK_lst, seqK_tup, seqK_scr, itRange1_q, rng1K_e, itRange2_q, rng2K_e, itEnum_q, enmK_e, itZip_q, zipK_e, bindP, binds, eNeg, eIsi, addD, subD, mulD, fdivD, modD, powD, iop, cmpI, isND, notND, D.isN, idxD, lenD, listD, tupleD, appD_lst, setD_lst, mutK2_ite, D.isL, max2D, min2D, absD, PD.intD, D.ty, frz_cons, frz1_q, frzS_ow, frzS_sh, frzS_no, frzD_lst, frzD_int, frzD_nil, frzK_nil, frz_nil, mkSl_lst, D.isMut, R.bind_ok, R.bind_no, dec_true, decide_eq_true_eq, decide_eq_false_iff_not, Bool.not_eq_true', Bool.decide_eq_true, Bool.not_eq_eq_eq_not, List.map_cons, List.map_nil, List.length_cons, List.length_nil, List.replicate_succ, List.replicate_zero, List.cons_append, List.nil_append, List.append_nil, List.getElem?_cons_zero, List.getElem?_cons_succ, List.set_cons_zero, List.set_cons_succ, List.all_cons, List.all_nil, Bool.and_true, Bool.true_and, Bool.and_self, Bool.not_true, Bool.not_false, Bool.false_eq_true, Bool.true_eq_false, if_true, if_false, ite_true, ite_false, reduceIte, Nat.add_sub_cancel, Nat.reduceSub, Nat.reduceAdd, Nat.sub_self, Nat.zero_add, Int.reduceLT, Int.reduceLE, Int.reduceEq, Int.reduceAdd, Int.reduceSub, Int.reduceMul, Int.reduceNeg, Int.reduceMod, Int.reduceDiv, Nat.zero_le, isiD_lst, isiD_int_int, isiD_int_bool, isiD_bl_bool, isiD_tup, decide_true, decide_false, h2, f11, show (2 : Nat) ≤ sizeLine by rw [szL]; decide, hmost, h5, f12, f13, eqD_int]
      refine cutF (fun ρ => ∃ a : Nat, ρ = [.sh (.scr ns), .sh (Ints L), .sh (Nats S2), .sh (.int a), .sh (Ints M)] ∧ a ≤ 5000) ?_ ?_
      · by_cases h6 : y13 % 6 = 0
        · rw [if_pos h6]
          simp -implicitDefEqProofs only [runF_e, sSeq_e, thn_nx, thn_rt, thn_ex, thn_ct, thn_bk, toR_rt, toR_nx, toR_ex, st_ok, st_ex, st_bind, bind_bind, RQ_ok, OQ_nx, OQ_ct, OQ_bk, OQ_rt, NQ_nx, sNil, sRet_e, sRetO_q, retK_ow, retK_sh, sRetN, sExp_e, sIf_e, sSh_e, sOw_e, sMut_q, mutK_ow, mutK2_some, sSetIx_q, setK_ow, setK2_some, sAug_q, augK_sh, augK2_int, sAugIx_q, agxK_ow, agxK0_int, agxK1_some, agxK2_int, agxK3_some, sTup_q, tupK_some, sFor_e, sNo, sBk, sCt, eV_q, eO_q, slV_sh, slO_sh, slO_ow, eC, eBin, ofO_some, asB_bl, tE, tNotD, tAndD, tOrD, eAnd, eOr, eNot, eIf, eChain, tTru, truD, aNil, aCons, eTup, eLst, oNone, oSome, asI, eSl, sliceD, eCall, eFn, eFnK, eComp, okOwn_q, slOk_sh, slOk_no, slOk_none, wipeD, noX, tYesD, itSeq_q, seqK_lst, seqK_tup, seqK_scr, itRange1_q, rng1K_e, itRange2_q, rng2K_e, itEnum_q, enmK_e, itZip_q, zipK_e, bindP, binds, eNeg, eIsi, addD, subD, mulD, fdivD, modD, powD, iop, cmpI, isND, notND, D.isN, idxD, lenD, listD, tupleD, appD_lst, setD_lst, mutK2_ite, D.isL, max2D, min2D, absD, PD.intD, D.ty, frz_cons, frz1_q, frzS_ow, frzS_sh, frzS_no, frzD_lst, frzD_int, frzD_nil, frzK_nil, frz_nil, mkSl_lst, D.isMut, R.bind_ok, R.bind_no, dec_true, decide_eq_true_eq, decide_eq_false_iff_not, Bool.not_eq_true', Bool.decide_eq_true, Bool.not_eq_eq_eq_not, List.map_cons, List.map_nil, List.length_cons, List.length_nil, List.replicate_succ, List.replicate_zero, List.cons_append, List.nil_append, List.append_nil, List.getElem?_cons_zero, List.getElem?_cons_succ, List.set_cons_zero, List.set_cons_succ, List.all_cons, List.all_nil, Bool.and_true, Bool.true_and, Bool.and_self, Bool.not_true, Bool.not_false, Bool.false_eq_true, Bool.true_eq_false, if_true, if_false, ite_true, ite_false, reduceIte, Nat.add_sub_cancel, Nat.reduceSub, Nat.reduceAdd, Nat.sub_self, Nat.zero_add, Int.reduceLT, Int.reduceLE, Int.reduceEq, Int.reduceAdd, Int.reduceSub, Int.reduceMul, Int.reduceNeg, Int.reduceMod, Int.reduceDiv, Nat.zero_le, isiD_lst, isiD_int_int, isiD_int_bool, isiD_bl_bool, isiD_tup, decide_true, decide_false, f12]
          exact ⟨(y12 % 401).toNat, by rw [show (((y12 % 401).toNat : Nat) : Int) = y12 % 401 by omega], by omega⟩
        · rw [if_neg h6]
          simp -implicitDefEqProofs only [runF_e, sSeq_e, thn_nx, thn_rt, thn_ex, thn_ct, thn_bk, toR_rt, toR_nx, toR_ex, st_ok, st_ex, st_bind, bind_bind, RQ_ok, OQ_nx, OQ_ct, OQ_bk, OQ_rt, NQ_nx, sNil, sRet_e, sRetO_q, retK_ow, retK_sh, sRetN, sExp_e, sIf_e, sSh_e, sOw_e, sMut_q, mutK_ow, mutK2_some, sSetIx_q, setK_ow, setK2_some, sAug_q, augK_sh, augK2_int, sAugIx_q, agxK_ow, agxK0_int, agxK1_some, agxK2_int, agxK3_some, sTup_q, tupK_some, sFor_e, sNo, sBk, sCt, eV_q, eO_q, slV_sh, slO_sh, slO_ow, eC, eBin, ofO_some, asB_bl, tE, tNotD, tAndD, tOrD, eAnd, eOr, eNot, eIf, eChain, tTru, truD, aNil, aCons, eTup, eLst, oNone, oSome, asI, eSl, sliceD, eCall, eFn, eFnK, eComp, okOwn_q, slOk_sh, slOk_no, slOk_none, wipeD, noX, tYesD, itSeq_q, seqK_lst, seqK_tup, seqK_scr, itRange1_q, rng1K_e, itRange2_q, rng2K_e, itEnum_q, enmK_e, itZip_q, zipK_e, bindP, binds, eNeg, eIsi, addD, subD, mulD, fdivD, modD, powD, iop, cmpI, isND, notND, D.isN, idxD, lenD, listD, tupleD, appD_lst, setD_lst, mutK2_ite, D.isL, max2D, min2D, absD, PD.intD, D.ty, frz_cons, frz1_q, frzS_ow, frzS_sh, frzS_no, frzD_lst, frzD_int, frzD_nil, frzK_nil, frz_nil, mkSl_lst, D.isMut, R.bind_ok, R.bind_no, dec_true, decide_eq_true_eq, decide_eq_false_iff_not, Bool.not_eq_true', Bool.decide_eq_true, Bool.not_eq_eq_eq_not, List.map_cons, List.map_nil, List.length_cons, List.length_nil, List.replicate_succ, List.replicate_zero, List.cons_append, List.nil_append, List.append_nil, List.getElem?_cons_zero, List.getElem?_cons_succ, List.set_cons_zero, List.set_cons_succ, List.all_cons, List.all_nil, Bool.and_true, Bool.true_and, Bool.and_self, Bool.not_true, Bool.not_false, Bool.false_eq_true, Bool.true_eq_false, if_true, if_false, ite_true, ite_false, reduceIte, Nat.add_sub_cancel, Nat.reduceSub, Nat.reduceAdd, Nat.sub_self, Nat.zero_add, Int.reduceLT, Int.reduceLE, Int.reduceEq, Int.reduceAdd, Int.reduceSub, Int.reduceMul, Int.reduceNeg, Int.reduceMod, Int.reduceDiv, Nat.zero_le, isiD_lst, isiD_int_int, isiD_int_bool, isiD_bl_bool, isiD_tup, decide_true, decide_false]
          exact ⟨(y12 % 200).toNat, by rw [show (((y12 % 200).toNat : Nat) : Int) = y12 % 200 by omega], by omega⟩
      · rintro ρ ⟨a, rfl, ha⟩
        have := g2.len
        simp -implicitDefEqProofs only [runF_e, sSeq_e, thn_nx, thn_rt, thn_ex, thn_ct, thn_bk, toR_rt, toR_nx, toR_ex, st_ok, st_ex, st_bind, bind_bind, RQ_ok, OQ_nx, OQ_ct, OQ_bk, OQ_rt, NQ_nx, sNil, sRet_e, sRetO_q, retK_ow, retK_sh, sRetN, sExp_e, sIf_e, sSh_e, sOw_e, sMut_q, mutK_ow, mutK2_some, sSetIx_q, setK_ow, setK2_some, sAug_q, augK_sh, augK2_int, sAugIx_q, agxK_ow, agxK0_int, agxK1_some, agxK2_int, agxK3_some, sTup_q, tupK_some, sFor_e, sNo, sBk, sCt, eV_q, eO_q, slV_sh, slO_sh, slO_ow, eC, eBin, ofO_some, asB_bl, tE, tNotD, tAndD, tOrD, eAnd, eOr, eNot, eIf, eChain, tTru, truD, aNil, aCons, eTup, eLst, oNone, oSome, asI, eSl, sliceD, eCall, eFn, eFnK, eComp, okOwn_q, slOk_sh, slOk_no, slOk_none, wipeD, noX, tYesD, itSeq_q, seqK_lst, seqK_tup, seqK_scr, itRange1_q, rng1K_e, itRange2_q, rng2K_e, itEnum_q, enmK_e, itZip_q, zipK_e, bindP, binds, eNeg, eIsi, addD, subD, mulD, fdivD, modD, powD, iop, cmpI, isND, notND, D.isN, idxD, lenD, listD, tupleD, appD_lst, setD_lst, mutK2_ite, D.isL, max2D, min2D, absD, PD.intD, D.ty, frz_cons, frz1_q, frzS_ow, frzS_sh, frzS_no, frzD_lst, frzD_int, frzD_nil, frzK_nil, frz_nil, mkSl_lst, D.isMut, R.bind_ok, R.bind_no, dec_true, decide_eq_true_eq, decide_eq_false_iff_not, Bool.not_eq_true', Bool.decide_eq_true, Bool.not_eq_eq_eq_not, List.map_cons, List.map_nil, List.length_cons, List.length_nil, List.replicate_succ, List.replicate_zero, List.cons_append, List.nil_append, List.append_nil, List.getElem?_cons_zero, List.getElem?_cons_succ, List.set_cons_zero, List.set_cons_succ, List.all_cons, List.all_nil, Bool.and_true, Bool.true_and, Bool.and_self, Bool.not_true, Bool.not_false, Bool.false_eq_true, Bool.true_eq_false, if_true, if_false, ite_true, ite_false, reduceIte, Nat.add_sub_cancel, Nat.reduceSub, Nat.reduceAdd, Nat.sub_self, Nat.zero_add, Int.reduceLT, Int.reduceLE, Int.reduceEq, Int.reduceAdd, Int.reduceSub, Int.reduceMul, Int.reduceNeg, Int.reduceMod, Int.reduceDiv, Nat.zero_le, isiD_lst, isiD_int_int, isiD_int_bool, isiD_bl_bool, isiD_tup, decide_true, decide_false, large_ones_ok g2 ha, best_zero g2, show (1 : Nat) ≤ sizeLine by rw [szL]; decide, List.length_map]
        rw [if_pos ⟨by omega, by omega, by rw [szL]; omega⟩]
        simp -implicitDefEqProofs only [runF_e, sSeq_e, thn_nx, thn_rt, thn_ex, thn_ct, thn_bk, toR_rt, toR_nx, toR_ex, st_ok, st_ex, st_bind, bind_bind, RQ_ok, OQ_nx, OQ_ct, OQ_bk, OQ_rt, NQ_nx, sNil, sRet_e, sRetO_q, retK_ow, retK_sh, sRetN, sExp_e, sIf_e, sSh_e, sOw_e, sMut_q, mutK_ow, mutK2_some, sSetIx_q, setK_ow, setK2_some, sAug_q, augK_sh, augK2_int, sAugIx_q, agxK_ow, agxK0_int, agxK1_some, agxK2_int, agxK3_some, sTup_q, tupK_some, sFor_e, sNo, sBk, sCt, eV_q, eO_q, slV_sh, slO_sh, slO_ow, eC, eBin, ofO_some, asB_bl, tE, tNotD, tAndD, tOrD, eAnd, eOr, eNot, eIf, eChain, tTru, truD, aNil, aCons, eTup, eLst, oNone, oSome, asI, eSl, sliceD, eCall, eFn, eFnK, eComp, okOwn_q, slOk_sh, slOk_no, slOk_none, wipeD, noX, tYesD, itSeq_q, seqK_lst, seqK_tup, seqK_scr, itRange1_q, rng1K_e, itRange2_q, rng2K_e, itEnum_q, enmK_e, itZip_q, zipK_e, bindP, binds, eNeg, eIsi, addD, subD, mulD, fdivD, modD, powD, iop, cmpI, isND, notND, D.isN, idxD, lenD, listD, tupleD, appD_lst, setD_lst, mutK2_ite, D.isL, max2D, min2D, absD, PD.intD, D.ty, frz_cons, frz1_q, frzS_ow, frzS_sh, frzS_no, frzD_lst, frzD_int, frzD_nil, frzK_nil, frz_nil, mkSl_lst, D.isMut, R.bind_ok, R.bind_no, dec_true, decide_eq_true_eq, decide_eq_false_iff_not, Bool.not_eq_true', Bool.decide_eq_true, Bool.not_eq_eq_eq_not, List.map_cons, List.map_nil, List.length_cons, List.length_nil, List.replicate_succ, List.replicate_zero, List.cons_append, List.nil_append, List.append_nil, List.getElem?_cons_zero, List.getElem?_cons_succ, List.set_cons_zero, List.set_cons_succ, List.all_cons, List.all_nil, Bool.and_true, Bool.true_and, Bool.and_self, Bool.not_true, Bool.not_false, Bool.false_eq_true, Bool.true_eq_false, if_true, if_false, ite_true, ite_false, reduceIte, Nat.add_sub_cancel, Nat.reduceSub, Nat.reduceAdd, Nat.sub_self, Nat.zero_add, Int.reduceLT, Int.reduceLE, Int.reduceEq, Int.reduceAdd, Int.reduceSub, Int.reduceMul, Int.reduceNeg, Int.reduceMod, Int.reduceDiv, Nat.zero_le, isiD_lst, isiD_int_int, isiD_int_bool, isiD_bl_bool, isiD_tup, decide_true, decide_false, noughts]
        rw [eqD_self (nb_nats _) (sh_nats _)]
        simp -implicitDefEqProofs only [runF_e, sSeq_e, thn_nx, thn_rt, thn_ex, thn_ct, thn_bk, toR_rt, toR_nx, toR_ex, st_ok, st_ex, st_bind, bind_bind, RQ_ok, OQ_nx, OQ_ct, OQ_bk, OQ_rt, NQ_nx, sNil, sRet_e, sRetO_q, retK_ow, retK_sh, sRetN, sExp_e, sIf_e, sSh_e, sOw_e, sMut_q, mutK_ow, mutK2_some, sSetIx_q, setK_ow, setK2_some, sAug_q, augK_sh, augK2_int, sAugIx_q, agxK_ow, agxK0_int, agxK1_some, agxK2_int, agxK3_some, sTup_q, tupK_some, sFor_e, sNo, sBk, sCt, eV_q, eO_q, slV_sh, slO_sh, slO_ow, eC, eBin, ofO_some, asB_bl, tE, tNotD, tAndD, tOrD, eAnd, eOr, eNot, eIf, eChain, tTru, truD, aNil, aCons, eTup, eLst, oNone, oSome, asI, eSl, sliceD, eCall, eFn, eFnK, eComp, okOwn_q, slOk_sh, slOk_no, slOk_none, wipeD, noX, tYesD, itSeq_q, seqK_lst, seqK_tup, seqK_scr, itRange1_q, rng1K_e, itRange2_q, rng2K_e, itEnum_q, enmK_e, itZip_q, zipK_e, bindP, binds, eNeg, eIsi, addD, subD, mulD, fdivD, modD, powD, iop, cmpI, isND, notND, D.isN, idxD, lenD, listD, tupleD, appD_lst, setD_lst, mutK2_ite, D.isL, max2D, min2D, absD, PD.intD, D.ty, frz_cons, frz1_q, frzS_ow, frzS_sh, frzS_no, frzD_lst, frzD_int, frzD_nil, frzK_nil, frz_nil, mkSl_lst, D.isMut, R.bind_ok, R.bind_no, dec_true, decide_eq_true_eq, decide_eq_false_iff_not, Bool.not_eq_true', Bool.decide_eq_true, Bool.not_eq_eq_eq_not, List.map_cons, List.map_nil, List.length_cons, List.length_nil, List.replicate_succ, List.replicate_zero, List.cons_append, List.nil_append, List.append_nil, List.getElem?_cons_zero, List.getElem?_cons_succ, List.set_cons_zero, List.set_cons_succ, List.all_cons, List.all_nil, Bool.and_true, Bool.true_and, Bool.and_self, Bool.not_true, Bool.not_false, Bool.false_eq_true, Bool.true_eq_false, if_true, if_false, ite_true, ite_false, reduceIte, Nat.add_sub_cancel, Nat.reduceSub, Nat.reduceAdd, Nat.sub_self, Nat.zero_add, Int.reduceLT, Int.reduceLE, Int.reduceEq, Int.reduceAdd, Int.reduceSub, Int.reduceMul, Int.reduceNeg, Int.reduceMod, Int.reduceDiv, Nat.zero_le, isiD_lst, isiD_int_int, isiD_int_bool, isiD_bl_bool, isiD_tup, decide_true, decide_false]
  obtain ⟨d, h1, rfl⟩ := key
  exact h1
end K55
namespace K55
open PySem PySem.Spec PyProof.Rows L2 PD
def dd_is_whole : He.DefD := ⟨("is_whole", none), "is_whole", "is_whole", defArgs (topS 5), defBody (topS 5), defScope (topS 5), [], []⟩
def dd_is_size : He.DefD := ⟨("is_size", none), "is_size", "is_size", defArgs (topS 9), defBody (topS 9), defScope (topS 9), [], []⟩
def dd_are_sizes : He.DefD := ⟨("are_sizes", none), "are_sizes", "are_sizes", defArgs (topS 10), defBody (topS 10), defScope (topS 10), [], []⟩
def dd_check_sizes : He.DefD := ⟨("check_sizes", none), "check_sizes", "check_sizes", defArgs (topS 11), defBody (topS 11), defScope (topS 11), [], []⟩
def dd_check_amount : He.DefD := ⟨("check_amount", none), "check_amount", "check_amount", defArgs (topS 14), defBody (topS 14), defScope (topS 14), [], []⟩
def dd_least_before : He.DefD := ⟨("least_before", none), "least_before", "least_before", defArgs (topS 15), defBody (topS 15), defScope (topS 15), [], []⟩
def dd_table_of : He.DefD := ⟨("table_of", none), "table_of", "table_of", defArgs (topS 16), defBody (topS 16), defScope (topS 16), [], []⟩
def dd_most_tins : He.DefD := ⟨("most_tins", none), "most_tins", "most_tins", defArgs (topS 17), defBody (topS 17), defScope (topS 17), [], []⟩
def dd_no_sizes_table : He.DefD := ⟨("no_sizes_table", none), "no_sizes_table", "no_sizes_table", defArgs (topS 18), defBody (topS 18), defScope (topS 18), [], []⟩
def dd_best_filling : He.DefD := ⟨("best_filling", none), "best_filling", "best_filling", defArgs (topS 19), defBody (topS 19), defScope (topS 19), [], []⟩
def dd_ways : He.DefD := ⟨("ways", none), "ways", "ways", defArgs (topS 20), defBody (topS 20), defScope (topS 20), [], []⟩
def dd__law_numbers : He.DefD := ⟨("_law_numbers", none), "_law_numbers", "_law_numbers", defArgs (topS 22), defBody (topS 22), defScope (topS 22), [], []⟩
def dd__law_is_integer : He.DefD := ⟨("_law_is_integer", none), "_law_is_integer", "_law_is_integer", defArgs (topS 23), defBody (topS 23), defScope (topS 23), [], []⟩
def dd__law_sizes : He.DefD := ⟨("_law_sizes", none), "_law_sizes", "_law_sizes", defArgs (topS 24), defBody (topS 24), defScope (topS 24), [], []⟩
def dd__law_fillings : He.DefD := ⟨("_law_fillings", none), "_law_fillings", "_law_fillings", defArgs (topS 25), defBody (topS 25), defScope (topS 25), [], []⟩
def dd__law_fewest : He.DefD := ⟨("_law_fewest", none), "_law_fewest", "_law_fewest", defArgs (topS 26), defBody (topS 26), defScope (topS 26), [], []⟩
def dd__law_small_ones : He.DefD := ⟨("_law_small_ones", none), "_law_small_ones", "_law_small_ones", defArgs (topS 27), defBody (topS 27), defScope (topS 27), [], []⟩
def dd__law_large_ones : He.DefD := ⟨("_law_large_ones", none), "_law_large_ones", "_law_large_ones", defArgs (topS 28), defBody (topS 28), defScope (topS 28), [], []⟩
def dd_law : He.DefD := ⟨("law", none), "law", "law", defArgs (topS 29), defBody (topS 29), defScope (topS 29), [], []⟩
def fnL : List He.DefD := [dd_is_whole, dd_is_size, dd_are_sizes, dd_check_sizes, dd_check_amount, dd_least_before, dd_table_of, dd_most_tins, dd_no_sizes_table, dd_best_filling, dd_ways, dd__law_numbers, dd__law_is_integer, dd__law_sizes, dd__law_fillings, dd__law_fewest, dd__law_small_ones, dd__law_large_ones, dd_law]
def faL : List He.Fa := [.glo "is_whole", .glo "is_size", .glo "are_sizes", .glo "check_sizes", .glo "check_amount", .glo "least_before", .glo "table_of", .glo "most_tins", .glo "no_sizes_table", .glo "best_filling", .glo "ways", .glo "_law_numbers", .glo "_law_is_integer", .glo "_law_sizes", .glo "_law_fillings", .glo "_law_fewest", .glo "_law_small_ones", .glo "_law_large_ones", .glo "law", .free "all", .free "bool", .free "enumerate", .free "int", .free "isinstance", .free "len", .free "list", .free "max", .free "min", .free "range", .free "sorted", .free "sum", .free "zip", .int "GREATEST_AMOUNT" 5000, .int "GREATEST_SIZE" 200, .int "MOST_SIZES" 8]
abbrev RR : PySem.W.OpenRow := PySem.W.OpenLaw.row PySem.Challenge.rw_paintsmixed_k55_best_fillings
abbrev hk : PySem.W.Hook := He.hookD 4 faL fnL
def ob (s : PySem.W.SharedT) : He.AlD := He.obsDG 4 faL fnL (HandSHeadRun.getT s)
theorem ob_eq (s : PySem.W.SharedT) : ob s = hk.obs s.abs := He.obsDG_eq (HandSHeadRun.getT_eq s)
def looseL : List Str := (["PaintError", "TooMany", "BadTins", "is_whole", "MOST_SIZES", "GREATEST_SIZE", "is_size", "are_sizes", "check_sizes", "GREATEST_AMOUNT", "check_amount", "least_before", "table_of", "most_tins", "no_sizes_table", "best_filling", "ways", "_law_numbers", "_law_is_integer", "_law_sizes", "_law_fillings", "_law_fewest", "_law_small_ones", "_law_large_ones"] : List Str)
theorem run (w : World) : HandSHeadRun.RunEq RR (PySem.W.view RR.prog [29]) hk ob 2000 looseL w := by
  intro os
  kernel_rfl
theorem facts {P : Program} {w : World} {K : PySem.W.Frag} {h : Heap} {mg : Str → Option Value} {f : Addr} (X : K.In h) (N : h.Ns mainGlobals mg) (hfa : mg ("law" : Str) = some (.ref f)) (c : He.SaysD faL fnL K) :
    ∃ fd : FuncData, (∀ (s : Shared) (v : Value), BindsTo s fd ⟨[v], []⟩ [("script", v)]) ∧ ∀ base : Heap, K.In base → base.Ns mainGlobals mg → FnF P w K mg base ⟨K, mg⟩ 9 f fd ["script"] F_law false := by
  obtain ⟨fd_is_whole, f_is_whole⟩ := c.def_ 0 (d := dd_is_whole) rfl
  obtain ⟨fd_is_size, f_is_size⟩ := c.def_ 1 (d := dd_is_size) rfl
  obtain ⟨fd_are_sizes, f_are_sizes⟩ := c.def_ 2 (d := dd_are_sizes) rfl
  obtain ⟨fd_check_sizes, f_check_sizes⟩ := c.def_ 3 (d := dd_check_sizes) rfl
  obtain ⟨fd_check_amount, f_check_amount⟩ := c.def_ 4 (d := dd_check_amount) rfl
  obtain ⟨fd_least_before, f_least_before⟩ := c.def_ 5 (d := dd_least_before) rfl
  obtain ⟨fd_table_of, f_table_of⟩ := c.def_ 6 (d := dd_table_of) rfl
  obtain ⟨fd_most_tins, f_most_tins⟩ := c.def_ 7 (d := dd_most_tins) rfl
  obtain ⟨fd_no_sizes_table, f_no_sizes_table⟩ := c.def_ 8 (d := dd_no_sizes_table) rfl
  obtain ⟨fd_best_filling, f_best_filling⟩ := c.def_ 9 (d := dd_best_filling) rfl
  obtain ⟨fd_ways, f_ways⟩ := c.def_ 10 (d := dd_ways) rfl
  obtain ⟨fd__law_numbers, f__law_numbers⟩ := c.def_ 11 (d := dd__law_numbers) rfl
  obtain ⟨fd__law_is_integer, f__law_is_integer⟩ := c.def_ 12 (d := dd__law_is_integer) rfl
  obtain ⟨fd__law_sizes, f__law_sizes⟩ := c.def_ 13 (d := dd__law_sizes) rfl
  obtain ⟨fd__law_fillings, f__law_fillings⟩ := c.def_ 14 (d := dd__law_fillings) rfl
  obtain ⟨fd__law_fewest, f__law_fewest⟩ := c.def_ 15 (d := dd__law_fewest) rfl
  obtain ⟨fd__law_small_ones, f__law_small_ones⟩ := c.def_ 16 (d := dd__law_small_ones) rfl
  obtain ⟨fd__law_large_ones, f__law_large_ones⟩ := c.def_ 17 (d := dd__law_large_ones) rfl
  obtain ⟨fd_law, f_law⟩ := c.def_ 18 (d := dd_law) rfl
  have e := hfa.symm.trans (He.glo_ok X N (c.fact 18 (f := .glo "law") rfl))
  cases e
  have b := FunD.bindsA (ps := ["script"]) f_law fun _ _ _ _ _ _ us hl => match us, hl with | [_], _ => rfl
  refine ⟨fd_law, fun s v => b s [v] rfl, fun base _ _ => ?_⟩
  have T : Txt ⟨K, mg⟩ := ⟨He.free_ok X N (c.fact 19 (f := .free "all") rfl),
    He.free_ok X N (c.fact 20 (f := .free "bool") rfl),
    He.free_ok X N (c.fact 21 (f := .free "enumerate") rfl),
    He.free_ok X N (c.fact 22 (f := .free "int") rfl),
    He.free_ok X N (c.fact 23 (f := .free "isinstance") rfl),
    He.free_ok X N (c.fact 24 (f := .free "len") rfl),
    He.free_ok X N (c.fact 25 (f := .free "list") rfl),
    He.free_ok X N (c.fact 26 (f := .free "max") rfl),
    He.free_ok X N (c.fact 27 (f := .free "min") rfl),
    He.free_ok X N (c.fact 28 (f := .free "range") rfl),
    He.free_ok X N (c.fact 29 (f := .free "sorted") rfl),
    He.free_ok X N (c.fact 30 (f := .free "sum") rfl),
    He.free_ok X N (c.fact 31 (f := .free "zip") rfl),
    konst_int (G := ⟨K, mg⟩) X N (c.fact 32 (f := .int "GREATEST_AMOUNT" 5000) rfl),
    konst_int (G := ⟨K, mg⟩) X N (c.fact 33 (f := .int "GREATEST_SIZE" 200) rfl),
    konst_int (G := ⟨K, mg⟩) X N (c.fact 34 (f := .int "MOST_SIZES" 8) rfl)⟩
  have d_is_whole := ok_is_whole (G := ⟨K, mg⟩) (P := P) (w := w) (base := base) T (fun_of f_is_whole) (He.glo_ok X N (c.fact 0 (f := .glo "is_whole") rfl)) 
  have d_is_size := ok_is_size (G := ⟨K, mg⟩) (P := P) (w := w) (base := base) T (fun_of f_is_size) (He.glo_ok X N (c.fact 1 (f := .glo "is_size") rfl)) d_is_whole
  have d_are_sizes := ok_are_sizes (G := ⟨K, mg⟩) (P := P) (w := w) (base := base) T (fun_of f_are_sizes) (He.glo_ok X N (c.fact 2 (f := .glo "are_sizes") rfl)) d_is_size
  have d_check_sizes := ok_check_sizes (G := ⟨K, mg⟩) (P := P) (w := w) (base := base) T (fun_of f_check_sizes) (He.glo_ok X N (c.fact 3 (f := .glo "check_sizes") rfl)) d_are_sizes
  have d_check_amount := ok_check_amount (G := ⟨K, mg⟩) (P := P) (w := w) (base := base) T (fun_of f_check_amount) (He.glo_ok X N (c.fact 4 (f := .glo "check_amount") rfl)) d_check_sizes
  have d_least_before := ok_least_before (G := ⟨K, mg⟩) (P := P) (w := w) (base := base) T (fun_of f_least_before) (He.glo_ok X N (c.fact 5 (f := .glo "least_before") rfl)) 
  have d_table_of := ok_table_of (G := ⟨K, mg⟩) (P := P) (w := w) (base := base) T (fun_of f_table_of) (He.glo_ok X N (c.fact 6 (f := .glo "table_of") rfl)) d_least_before
  have d_most_tins := ok_most_tins (G := ⟨K, mg⟩) (P := P) (w := w) (base := base) T (fun_of f_most_tins) (He.glo_ok X N (c.fact 7 (f := .glo "most_tins") rfl)) 
  have d_no_sizes_table := ok_no_sizes_table (G := ⟨K, mg⟩) (P := P) (w := w) (base := base) T (fun_of f_no_sizes_table) (He.glo_ok X N (c.fact 8 (f := .glo "no_sizes_table") rfl)) 
  have d_best_filling := ok_best_filling (G := ⟨K, mg⟩) (P := P) (w := w) (base := base) T (fun_of f_best_filling) (He.glo_ok X N (c.fact 9 (f := .glo "best_filling") rfl)) d_check_amount d_table_of d_no_sizes_table d_most_tins
  have d_ways := ok_ways (G := ⟨K, mg⟩) (P := P) (w := w) (base := base) T (fun_of f_ways) (He.glo_ok X N (c.fact 10 (f := .glo "ways") rfl)) d_check_amount
  have d__law_numbers := ok__law_numbers (G := ⟨K, mg⟩) (P := P) (w := w) (base := base) T (fun_of f__law_numbers) (He.glo_ok X N (c.fact 11 (f := .glo "_law_numbers") rfl)) 
  have d__law_is_integer := ok__law_is_integer (G := ⟨K, mg⟩) (P := P) (w := w) (base := base) T (fun_of f__law_is_integer) (He.glo_ok X N (c.fact 12 (f := .glo "_law_is_integer") rfl)) 
  have d__law_sizes := ok__law_sizes (G := ⟨K, mg⟩) (P := P) (w := w) (base := base) T (fun_of f__law_sizes) (He.glo_ok X N (c.fact 13 (f := .glo "_law_sizes") rfl)) 
  have d__law_fillings := ok__law_fillings (G := ⟨K, mg⟩) (P := P) (w := w) (base := base) T (fun_of f__law_fillings) (He.glo_ok X N (c.fact 14 (f := .glo "_law_fillings") rfl)) 
  have d__law_fewest := ok__law_fewest (G := ⟨K, mg⟩) (P := P) (w := w) (base := base) T (fun_of f__law_fewest) (He.glo_ok X N (c.fact 15 (f := .glo "_law_fewest") rfl)) 
  have d__law_small_ones := ok__law_small_ones (G := ⟨K, mg⟩) (P := P) (w := w) (base := base) T (fun_of f__law_small_ones) (He.glo_ok X N (c.fact 16 (f := .glo "_law_small_ones") rfl)) d__law_fillings d_best_filling d_ways d__law_is_integer
  have d__law_large_ones := ok__law_large_ones (G := ⟨K, mg⟩) (P := P) (w := w) (base := base) T (fun_of f__law_large_ones) (He.glo_ok X N (c.fact 17 (f := .glo "_law_large_ones") rfl)) d_best_filling d__law_fewest d__law_is_integer
  exact ok_law T (fun_of f_law) d__law_numbers d__law_sizes d__law_small_ones d__law_large_ones d_best_filling
end K55
open PySem PySem.W PySem.Calls PyProof.Rows
theorem PySem.Challenge.cw_paintsmixed_k55_best_fillings_holds : PySem.Challenge.rw_paintsmixed_k55_best_fillings.Holds := by
  w_on; o_law
  refine HandSHeadRun.head_any (r := OpenLaw.row PySem.Challenge.rw_paintsmixed_k55_best_fillings) (q := view (OpenLaw.row PySem.Challenge.rw_paintsmixed_k55_best_fillings).prog [29]) (H := K55.hk) (ob := K55.ob) (M := 2000) (loose := K55.looseL) (d := HandSHeadRun.topDef (OpenLaw.row PySem.Challenge.rw_paintsmixed_k55_best_fillings).prog 29) (kwd := []) K55.ob_eq
    (by kernel_rfl) (fun s => by kernel_rfl) K55.run (by kernel_rfl) (by kernel_rfl) (by kernel_rfl) (by rfl) (by first | assumption | decide +kernel) (by decide +kernel) ⟨rfl, rfl, rfl, rfl, rfl, by decide +kernel⟩ ?hw ?hc
  case hw => w_witness2
  case hc =>
    refine PD.law_end (l := PySem.Challenge.rw_paintsmixed_k55_best_fillings) (n := 63) (k := 9) (x := "script") (F0 := K55.F_law) rfl (by decide) (by kernel_rfl) ⟨rfl, by decide, by decide⟩ ?F K55.law_true
    intro w mg fa h Y G hmg0
    obtain ⟨K, KX, c⟩ := Y
    have hmg : mg ("law" : PySem.Str) = some (.ref fa) := by
      have e : (HandSHeadRun.topDef (OpenLaw.row PySem.Challenge.rw_paintsmixed_k55_best_fillings).prog 29).name = ("law" : PySem.Str) := by kernel_rfl
      rw [← e]
      exact hmg0
    obtain ⟨fd, hb, hF⟩ := K55.facts (P := (PySem.Challenge.rw_paintsmixed_k55_best_fillings).prog) (w := w) KX G hmg c
    exact ⟨K, fd, KX, hb, hF⟩

