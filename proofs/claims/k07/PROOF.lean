import PyProof.Rows.All
import Wide.All
import OpenK.AllK
import Wide.FinOn
import HandS.ForMost
import HandS.IsInst
import HandS.Wide
import PySem.Challenge.RW_eightsides_k07_turned
set_option Elab.async false
set_option linter.all false
set_option maxRecDepth 100000
set_option maxHeartbeats 4000000
namespace FL
open PySem PySem.Spec PyProof.Rows L2

/-! ### data without the heap -/
inductive D where
  | non | bl (b : Bool) | int (i : Int) | str (x : Str) | tup (xs : List D) | lst (xs : List D)
  /-- the script: a list that is read only; an instance that stays as it is; a dict by ints -/
  | scr (ns : List Int) | ob (C : Addr) (nm : List Str) (xs : List D) | dct (ks : List Int) (xs : List D)
def SqF (K : PySem.W.Frag) (H : Hp) (a : Addr) (xs : List V) : Prop := (∃ o, H a = some (.frz o (.lst xs))) ∨
    ∃ (o : Obj) (its : Array Value) (n : Nat), K.lookup a = some o ∧ o.cls = .type "list" ∧ o.dict = none ∧ o.data = .seq its n ∧ its.size ≤ sizeLine ∧ Vals xs its.toList
theorem SqF.sq {K : PySem.W.Frag} {H : Hp} {a : Addr} {xs : List V} (h : SqF K H a xs) : SqL K H a xs := by
  rcases h with ⟨o, h⟩ | h
  · exact .inl (.inr ⟨o, h⟩)
  · exact .inr h
/-- what is changed in place -/
def MutO : HO → Prop
  | .lst _ => True
  | .dK _ => True
  | _ => False
def Keeps (H F : Hp) : Prop := ∀ a o, H a = some o → ¬ MutO o → F a = some o
theorem Keeps.sqt {K : PySem.W.Frag} {H F : Hp} (t : Keeps H F) {a : Addr} {xs : List V} (h : SqT K H a xs) : SqT K F a xs := by
  rcases h with (h | ⟨o, h⟩) | h
  · exact .inl (.inl (t _ _ h fun z => z))
  · exact .inl (.inr ⟨o, t _ _ h fun z => z⟩)
  · exact .inr h
theorem Keeps.sqf {K : PySem.W.Frag} {H F : Hp} (t : Keeps H F) {a : Addr} {xs : List V} (h : SqF K H a xs) : SqF K F a xs := by
  rcases h with ⟨o, h⟩ | h
  · exact .inl ⟨o, t _ _ h fun z => z⟩
  · exact .inr h
theorem _root_.L2.Same.sqf {K : PySem.W.Frag} {H H' : Hp} {a : Addr} {xs : List V} (e : Same H H') (h : SqF K H a xs) : SqF K H' a xs := by
  rcases h with ⟨o, h⟩ | h
  · exact .inl ⟨o, e _ _ h⟩
  · exact .inr h

mutual
/-- a value stands for a datum, read in the heap H -/
def Rep (K : PySem.W.Frag) (H : Hp) : D → V → Prop
  | .non, v => v = .non
  | .bl b, v => v = .bl b
  | .int i, v => v = .int i
  | .str x, v => v = .str x
  | .tup ds, v => ∃ a xs, v = .ref a ∧ SqT K H a xs ∧ RepL K H ds xs
  | .lst ds, v => ∃ a xs, v = .ref a ∧ H a = some (.lst xs) ∧ RepL K H ds xs
  | .scr ns, v => ∃ a, v = .ref a ∧ SqF K H a (ns.map V.int)
  | .ob C nm ds, v => ∃ a dx xs, v = .ref a ∧ H a = some (.ins C dx (nm.zip xs)) ∧ RepL K H ds xs
  | .dct ks ds, v => ∃ a xs, v = .ref a ∧ H a = some (.dK ((ks.map Sum.inl).zip xs)) ∧ RepL K H ds xs
def RepL (K : PySem.W.Frag) (H : Hp) : List D → List V → Prop
  | [], vs => vs = []
  | d :: ds, vs => ∃ v r, vs = v :: r ∧ Rep K H d v ∧ RepL K H ds r
end
mutual
/-- lists only in the upper k levels -/
def full : D → Nat → Bool
  | .lst _, 0 => false
  | .lst ds, k + 1 => fullL ds k
  | .tup ds, k => fullL ds k
  | .non, _ => true
  | .bl _, _ => true
  | .int _, _ => true
  | .str _, _ => true
  | .scr _, _ => true
  | .ob _ _ ds, _ => fullL ds 0
  | .dct _ _, 0 => false
  | .dct _ ds, k + 1 => fullL ds k
def fullL : List D → Nat → Bool
  | [], _ => true
  | d :: ds, k => full d k && fullL ds k
end
mutual
/-- the lists of the upper k levels are one's own (their places: fp), what lies below is read in F -/
def Own (K : PySem.W.Frag) (H F : Hp) : D → Nat → V → List Addr → Prop
  | .lst ds, 0, v, fp => fp = [] ∧ Rep K F (.lst ds) v
  | .lst ds, k + 1, v, fp => ∃ a xs fps, v = .ref a ∧ H a = some (.lst xs) ∧ fp = a :: fps ∧ OwnL K H F ds k xs fps
  | .tup ds, k, v, fp => ∃ a xs, v = .ref a ∧ SqT K F a xs ∧ OwnL K H F ds k xs fp
  | .non, _, v, fp => fp = [] ∧ v = .non
  | .bl b, _, v, fp => fp = [] ∧ v = .bl b
  | .int i, _, v, fp => fp = [] ∧ v = .int i
  | .str x, _, v, fp => fp = [] ∧ v = .str x
  | .scr ns, _, v, fp => fp = [] ∧ Rep K F (.scr ns) v
  | .ob C nm ds, _, v, fp => fp = [] ∧ Rep K F (.ob C nm ds) v
  | .dct ks ds, 0, v, fp => fp = [] ∧ Rep K F (.dct ks ds) v
  | .dct ks ds, k + 1, v, fp => ∃ a xs fps, v = .ref a ∧ H a = some (.dK ((ks.map Sum.inl).zip xs)) ∧ fp = a :: fps ∧ OwnL K H F ds k xs fps
def OwnL (K : PySem.W.Frag) (H F : Hp) : List D → Nat → List V → List Addr → Prop
  | [], _, vs, fp => vs = [] ∧ fp = []
  | d :: ds, k, vs, fp => ∃ v r fp1 fp2, vs = v :: r ∧ fp = fp1 ++ fp2 ∧ Own K H F d k v fp1 ∧ OwnL K H F ds k r fp2
end

theorem Same.sqt {K : PySem.W.Frag} {H H' : Hp} {a : Addr} {xs : List V} (e : Same H H') (h : SqT K H a xs) : SqT K H' a xs := by
  rcases h with (h | ⟨o, h⟩) | h
  · exact .inl (.inl (e _ _ h))
  · exact .inl (.inr ⟨o, e _ _ h⟩)
  · exact .inr h

section
variable {K : PySem.W.Frag} {H H' F F' : Hp}
mutual
theorem Rep.mono (s : Same H H') : ∀ (d : D) (v : V), Rep K H d v → Rep K H' d v
  | .non, _, h => h
  | .bl _, _, h => h
  | .int _, _, h => h
  | .str _, _, h => h
  | .tup ds, _, ⟨a, xs, e, q, r⟩ => ⟨a, xs, e, Same.sqt s q, RepL.mono s ds xs r⟩
  | .lst ds, _, ⟨a, xs, e, q, r⟩ => ⟨a, xs, e, s _ _ q, RepL.mono s ds xs r⟩
  | .scr ns, _, ⟨a, e, q⟩ => ⟨a, e, s.sqf q⟩
  | .ob C nm ds, _, ⟨a, dx, xs, e, q, r⟩ => ⟨a, dx, xs, e, s _ _ q, RepL.mono s ds xs r⟩
  | .dct ks ds, _, ⟨a, xs, e, q, r⟩ => ⟨a, xs, e, s _ _ q, RepL.mono s ds xs r⟩
theorem RepL.mono (s : Same H H') : ∀ (ds : List D) (vs : List V), RepL K H ds vs → RepL K H' ds vs
  | [], _, h => h
  | d :: ds, _, ⟨v, r, e, h1, h2⟩ => ⟨v, r, e, Rep.mono s d v h1, RepL.mono s ds r h2⟩
end
theorem RepL.length : ∀ {ds : List D} {vs : List V}, RepL K H ds vs → vs.length = ds.length
  | [], _, h => by rw [show _ = [] from h]; rfl
  | d :: ds, _, ⟨v, r, e, h1, h2⟩ => by rw [e, List.length_cons, List.length_cons, RepL.length h2]
theorem RepL.get : ∀ {ds : List D} {vs : List V} {i : Nat} {d : D}, RepL K H ds vs → ds[i]? = some d → ∃ v, vs[i]? = some v ∧ Rep K H d v
  | [], _, _, _, h, e => by simp at e
  | d :: ds, _, 0, _, ⟨v, r, e, h1, h2⟩, e1 => by
    subst e; simp at e1; subst e1; exact ⟨v, rfl, h1⟩
  | d :: ds, _, i + 1, _, ⟨v, r, e, h1, h2⟩, e1 => by
    subst e
    obtain ⟨w, q1, q2⟩ := RepL.get (i := i) h2 (by simpa using e1)
    exact ⟨w, by simpa using q1, q2⟩
theorem RepL.app : ∀ {ds es : List D} {vs ws : List V}, RepL K H ds vs → RepL K H es ws → RepL K H (ds ++ es) (vs ++ ws)
  | [], _, _, _, h, h' => by rw [show _ = [] from h]; exact h'
  | d :: ds, es, _, ws, ⟨v, r, e, h1, h2⟩, h' => ⟨v, r ++ ws, by rw [e]; rfl, h1, RepL.app h2 h'⟩
theorem RepL.take : ∀ (n : Nat) {ds : List D} {vs : List V}, RepL K H ds vs → RepL K H (ds.take n) (vs.take n)
  | 0, _, _, _ => rfl
  | n + 1, [], _, h => by rw [show _ = [] from h]; rfl
  | n + 1, d :: ds, _, ⟨v, r, e, h1, h2⟩ => ⟨v, r.take n, by rw [e]; rfl, h1, RepL.take n h2⟩
theorem RepL.drop : ∀ (n : Nat) {ds : List D} {vs : List V}, RepL K H ds vs → RepL K H (ds.drop n) (vs.drop n)
  | 0, _, _, h => h
  | n + 1, [], _, h => by rw [show _ = [] from h]; rfl
  | n + 1, d :: ds, _, ⟨v, r, e, h1, h2⟩ => by rw [e]; exact RepL.drop n h2
theorem RepL.rev {ds : List D} : ∀ {vs : List V}, RepL K H ds vs → RepL K H ds.reverse vs.reverse := by
  induction ds with
  | nil => intro vs h; rw [show vs = [] from h]; exact rfl
  | cons d ds ih =>
    intro vs h
    obtain ⟨v, r, e, h1, h2⟩ := h
    subst e
    rw [List.reverse_cons, List.reverse_cons]
    exact RepL.app (ih h2) ⟨v, [], rfl, h1, rfl⟩
theorem RepL.one {d : D} {v : V} (h : Rep K H d v) : RepL K H [d] [v] := ⟨v, [], rfl, h, rfl⟩
theorem RepL.ints (f : Nat → Int) : ∀ l : List Nat, RepL K H (l.map fun i => D.int (f i)) (l.map fun i => V.int (f i))
  | [] => rfl
  | i :: l => ⟨_, _, rfl, rfl, RepL.ints f l⟩
theorem RepL.intsI : ∀ l : List Int, RepL K H (l.map D.int) (l.map V.int)
  | [] => rfl
  | i :: l => ⟨_, _, rfl, rfl, RepL.intsI l⟩

mutual
/-- what has no lists is read wherever the tuples stand -/
theorem Rep.flat (t : Keeps H F) : ∀ (d : D) (v : V), full d 0 = true → Rep K H d v → Rep K F d v
  | .non, _, _, h => h
  | .bl _, _, _, h => h
  | .int _, _, _, h => h
  | .str _, _, _, h => h
  | .tup ds, _, f, ⟨a, xs, e, q, r⟩ => ⟨a, xs, e, t.sqt q, RepL.flat t ds xs f r⟩
  | .lst ds, _, f, _ => by cases f
  | .scr ns, _, f, ⟨a, e, q⟩ => ⟨a, e, t.sqf q⟩
  | .ob C nm ds, _, f, ⟨a, dx, xs, e, q, r⟩ => ⟨a, dx, xs, e, t _ _ q (fun z => z), RepL.flat t ds xs f r⟩
  | .dct ks ds, _, f, _ => by cases f
theorem RepL.flat (t : Keeps H F) : ∀ (ds : List D) (vs : List V), fullL ds 0 = true → RepL K H ds vs → RepL K F ds vs
  | [], _, _, h => h
  | d :: ds, _, f, ⟨v, r, e, h1, h2⟩ => by
    have f' := Bool.and_eq_true_iff.mp f
    exact ⟨v, r, e, Rep.flat t d v f'.1 h1, RepL.flat t ds r f'.2 h2⟩
end
mutual
theorem Own.shared : ∀ (d : D) (v : V), Rep K F d v → Own K H F d 0 v []
  | .non, _, h => ⟨rfl, h⟩
  | .bl _, _, h => ⟨rfl, h⟩
  | .int _, _, h => ⟨rfl, h⟩
  | .str _, _, h => ⟨rfl, h⟩
  | .tup ds, _, ⟨a, xs, e, q, r⟩ => ⟨a, xs, e, q, OwnL.shared ds xs r⟩
  | .lst ds, _, h => ⟨rfl, h⟩
  | .scr ns, _, h => ⟨rfl, h⟩
  | .ob C nm ds, _, h => ⟨rfl, h⟩
  | .dct ks ds, _, h => ⟨rfl, h⟩
theorem OwnL.shared : ∀ (ds : List D) (vs : List V), RepL K F ds vs → OwnL K H F ds 0 vs []
  | [], _, h => ⟨h, rfl⟩
  | d :: ds, _, ⟨v, r, e, h1, h2⟩ => ⟨v, r, [], [], e, rfl, Own.shared d v h1, OwnL.shared ds r h2⟩
end
mutual
/-- what has no lists is one's own at any level -/
theorem Own.flat (k : Nat) : ∀ (d : D) (v : V), full d 0 = true → Rep K F d v → Own K H F d k v []
  | .non, _, _, h => ⟨rfl, h⟩
  | .bl _, _, _, h => ⟨rfl, h⟩
  | .int _, _, _, h => ⟨rfl, h⟩
  | .str _, _, _, h => ⟨rfl, h⟩
  | .tup ds, _, f, ⟨a, xs, e, q, r⟩ => ⟨a, xs, e, q, OwnL.flat k ds xs f r⟩
  | .lst ds, _, f, h => by cases f
  | .scr ns, _, f, h => ⟨rfl, h⟩
  | .ob C nm ds, _, f, h => ⟨rfl, h⟩
  | .dct ks ds, _, f, h => by cases f
theorem OwnL.flat (k : Nat) : ∀ (ds : List D) (vs : List V), fullL ds 0 = true → RepL K F ds vs → OwnL K H F ds k vs []
  | [], _, _, h => ⟨h, rfl⟩
  | d :: ds, _, f, ⟨v, r, e, h1, h2⟩ => by
    have f' := Bool.and_eq_true_iff.mp f
    exact ⟨v, r, [], [], e, rfl, Own.flat k d v f'.1 h1, OwnL.flat k ds r f'.2 h2⟩
end
mutual
/-- one's own is readable -/
theorem Own.rep (s : Same F F') : ∀ (d : D) (k : Nat) (v : V) (fp : List Addr), (∀ a ∈ fp, F' a = H a) → Own K H F d k v fp → Rep K F' d v
  | .non, _, _, _, _, h => h.2
  | .bl _, _, _, _, _, h => h.2
  | .int _, _, _, _, _, h => h.2
  | .str _, _, _, _, _, h => h.2
  | .tup ds, k, _, fp, c, ⟨a, xs, e, q, r⟩ => ⟨a, xs, e, Same.sqt s q, OwnL.rep s ds k xs fp c r⟩
  | .lst ds, 0, v, _, _, h => Rep.mono s (.lst ds) v h.2
  | .lst ds, k + 1, _, fp, c, ⟨a, xs, fps, e, q, ef, r⟩ => by
    subst ef
    exact ⟨a, xs, e, (by rw [c a List.mem_cons_self]; exact q), OwnL.rep s ds k xs fps (fun b hb => c b (List.mem_cons_of_mem _ hb)) r⟩
  | .scr ns, _, v, _, _, h => Rep.mono s (.scr ns) v h.2
  | .ob C nm ds, _, v, _, _, h => Rep.mono s (.ob C nm ds) v h.2
  | .dct ks ds, 0, v, _, _, h => Rep.mono s (.dct ks ds) v h.2
  | .dct ks ds, k + 1, _, fp, c, ⟨a, xs, fps, e, q, ef, r⟩ => by
    subst ef
    exact ⟨a, xs, e, (by rw [c a List.mem_cons_self]; exact q), OwnL.rep s ds k xs fps (fun b hb => c b (List.mem_cons_of_mem _ hb)) r⟩
theorem OwnL.rep (s : Same F F') : ∀ (ds : List D) (k : Nat) (vs : List V) (fp : List Addr), (∀ a ∈ fp, F' a = H a) → OwnL K H F ds k vs fp → RepL K F' ds vs
  | [], _, _, _, _, h => h.1
  | d :: ds, k, _, _, c, ⟨v, r, fp1, fp2, e, ef, h1, h2⟩ => by
    subst ef
    exact ⟨v, r, e, Own.rep s d k v fp1 (fun a h => c a (List.mem_append_left _ h)) h1, OwnL.rep s ds k r fp2 (fun a h => c a (List.mem_append_right _ h)) h2⟩
end
mutual
theorem Own.mono (s : Same F F') : ∀ (d : D) (k : Nat) (v : V) (fp : List Addr), (∀ a ∈ fp, H' a = H a) → Own K H F d k v fp → Own K H' F' d k v fp
  | .non, _, _, _, _, h => h
  | .bl _, _, _, _, _, h => h
  | .int _, _, _, _, _, h => h
  | .str _, _, _, _, _, h => h
  | .tup ds, k, _, fp, c, ⟨a, xs, e, q, r⟩ => ⟨a, xs, e, Same.sqt s q, OwnL.mono s ds k xs fp c r⟩
  | .lst ds, 0, v, _, _, h => ⟨h.1, Rep.mono s (.lst ds) v h.2⟩
  | .lst ds, k + 1, _, fp, c, ⟨a, xs, fps, e, q, ef, r⟩ => by
    subst ef
    exact ⟨a, xs, fps, e, by rw [c a List.mem_cons_self]; exact q, rfl, OwnL.mono s ds k xs fps (fun b hb => c b (List.mem_cons_of_mem _ hb)) r⟩
  | .scr ns, _, v, _, _, h => ⟨h.1, Rep.mono s (.scr ns) v h.2⟩
  | .ob C nm ds, _, v, _, _, h => ⟨h.1, Rep.mono s (.ob C nm ds) v h.2⟩
  | .dct ks ds, 0, v, _, _, h => ⟨h.1, Rep.mono s (.dct ks ds) v h.2⟩
  | .dct ks ds, k + 1, _, fp, c, ⟨a, xs, fps, e, q, ef, r⟩ => by
    subst ef
    exact ⟨a, xs, fps, e, by rw [c a List.mem_cons_self]; exact q, rfl, OwnL.mono s ds k xs fps (fun b hb => c b (List.mem_cons_of_mem _ hb)) r⟩
theorem OwnL.mono (s : Same F F') : ∀ (ds : List D) (k : Nat) (vs : List V) (fp : List Addr), (∀ a ∈ fp, H' a = H a) → OwnL K H F ds k vs fp → OwnL K H' F' ds k vs fp
  | [], _, _, _, _, h => h
  | d :: ds, k, _, _, c, ⟨v, r, fp1, fp2, e, ef, h1, h2⟩ => by
    subst ef
    exact ⟨v, r, fp1, fp2, e, rfl, Own.mono s d k v fp1 (fun a h => c a (List.mem_append_left _ h)) h1, OwnL.mono s ds k r fp2 (fun a h => c a (List.mem_append_right _ h)) h2⟩
end
mutual
/-- where lists stand in the upper k levels only: what lies below is read wherever the tuples stand -/
theorem Own.move (t : Keeps F F') : ∀ (d : D) (k : Nat) (v : V) (fp : List Addr), full d k = true → Own K H F d k v fp → Own K H F' d k v fp
  | .non, _, _, _, _, h => h
  | .bl _, _, _, _, _, h => h
  | .int _, _, _, _, _, h => h
  | .str _, _, _, _, _, h => h
  | .tup ds, k, _, fp, f, ⟨a, xs, e, q, r⟩ => ⟨a, xs, e, t.sqt q, OwnL.move t ds k xs fp f r⟩
  | .lst ds, 0, v, _, f, h => by cases f
  | .lst ds, k + 1, _, fp, f, ⟨a, xs, fps, e, q, ef, r⟩ => ⟨a, xs, fps, e, q, ef, OwnL.move t ds k xs fps f r⟩
  | .scr ns, _, v, _, f, h => ⟨h.1, Rep.flat t (.scr ns) v rfl h.2⟩
  | .ob C nm ds, _, v, _, f, h => ⟨h.1, Rep.flat t (.ob C nm ds) v f h.2⟩
  | .dct ks ds, 0, v, _, f, h => by cases f
  | .dct ks ds, k + 1, _, fp, f, ⟨a, xs, fps, e, q, ef, r⟩ => ⟨a, xs, fps, e, q, ef, OwnL.move t ds k xs fps f r⟩
theorem OwnL.move (t : Keeps F F') : ∀ (ds : List D) (k : Nat) (vs : List V) (fp : List Addr), fullL ds k = true → OwnL K H F ds k vs fp → OwnL K H F' ds k vs fp
  | [], _, _, _, _, h => h
  | d :: ds, k, _, _, f, ⟨v, r, fp1, fp2, e, ef, h1, h2⟩ => by
    have f' := Bool.and_eq_true_iff.mp f
    exact ⟨v, r, fp1, fp2, e, ef, Own.move t d k v fp1 f'.1 h1, OwnL.move t ds k r fp2 f'.2 h2⟩
end
mutual
theorem Own.isLst : ∀ (d : D) (k : Nat) (v : V) (fp : List Addr), Own K H F d k v fp → ∀ a ∈ fp, ∃ o, H a = some o ∧ MutO o
  | .non, _, _, _, h, a, m => by rw [h.1] at m; cases m
  | .bl _, _, _, _, h, a, m => by rw [h.1] at m; cases m
  | .int _, _, _, _, h, a, m => by rw [h.1] at m; cases m
  | .str _, _, _, _, h, a, m => by rw [h.1] at m; cases m
  | .tup ds, k, _, fp, ⟨_, xs, e, q, r⟩, a, m => OwnL.isLst ds k xs fp r a m
  | .lst ds, 0, v, _, h, a, m => by rw [h.1] at m; cases m
  | .lst ds, k + 1, _, fp, ⟨b, xs, fps, e, q, ef, r⟩, a, m => by
    subst ef
    rcases List.mem_cons.mp m with rfl | m
    · exact ⟨_, q, True.intro⟩
    · exact OwnL.isLst ds k xs fps r a m
  | .scr ns, _, v, _, h, a, m => by rw [h.1] at m; cases m
  | .ob C nm ds, _, v, _, h, a, m => by rw [h.1] at m; cases m
  | .dct ks ds, 0, v, _, h, a, m => by rw [h.1] at m; cases m
  | .dct ks ds, k + 1, _, fp, ⟨b, xs, fps, e, q, ef, r⟩, a, m => by
    subst ef
    rcases List.mem_cons.mp m with rfl | m
    · exact ⟨_, q, True.intro⟩
    · exact OwnL.isLst ds k xs fps r a m
theorem OwnL.isLst : ∀ (ds : List D) (k : Nat) (vs : List V) (fp : List Addr), OwnL K H F ds k vs fp → ∀ a ∈ fp, ∃ o, H a = some o ∧ MutO o
  | [], _, _, _, h, a, m => by rw [h.2] at m; cases m
  | d :: ds, k, _, _, ⟨v, r, fp1, fp2, e, ef, h1, h2⟩, a, m => by
    subst ef
    rcases List.mem_append.mp m with m | m
    · exact Own.isLst d k v fp1 h1 a m
    · exact OwnL.isLst ds k r fp2 h2 a m
end
mutual
theorem Own.zero : ∀ (d : D) (v : V) (fp : List Addr), Own K H F d 0 v fp → fp = [] ∧ Rep K F d v
  | .non, _, _, h => h
  | .bl _, _, _, h => h
  | .int _, _, _, h => h
  | .str _, _, _, h => h
  | .scr _, _, _, h => h
  | .ob _ _ _, _, _, h => h
  | .lst _, _, _, h => h
  | .dct _ _, _, _, h => h
  | .tup ds, _, fp, ⟨a, xs, e, q, r⟩ => let ⟨h1, h2⟩ := OwnL.zero ds xs fp r; ⟨h1, a, xs, e, q, h2⟩
theorem OwnL.zero : ∀ (ds : List D) (vs : List V) (fp : List Addr), OwnL K H F ds 0 vs fp → fp = [] ∧ RepL K F ds vs
  | [], _, _, h => ⟨h.2, h.1⟩
  | d :: ds, _, _, ⟨v, r, fp1, fp2, e, ef, h1, h2⟩ => by
    obtain ⟨a1, a2⟩ := Own.zero d v fp1 h1
    obtain ⟨b1, b2⟩ := OwnL.zero ds r fp2 h2
    exact ⟨by rw [ef, a1, b1]; rfl, v, r, e, a2, b2⟩
end
theorem OwnL.app {k : Nat} {ds es : List D} : ∀ {vs ws : List V} {fp fq : List Addr}, OwnL K H F ds k vs fp → OwnL K H F es k ws fq → OwnL K H F (ds ++ es) k (vs ++ ws) (fp ++ fq) := by
  induction ds with
  | nil =>
    intro vs ws fp fq h h'
    rw [h.1, h.2]
    exact h'
  | cons d ds ih =>
    intro vs ws fp fq h h'
    obtain ⟨v, r, fp1, fp2, e, ef, h1, h2⟩ := h
    subst e ef
    exact ⟨v, r ++ ws, fp1, fp2 ++ fq, rfl, by rw [List.append_assoc], h1, ih h2 h'⟩
theorem OwnL.one {k : Nat} {d : D} {v : V} {fp : List Addr} (h : Own K H F d k v fp) : OwnL K H F [d] k [v] fp :=
  ⟨v, [], fp, [], rfl, by rw [List.append_nil], h, rfl, rfl⟩
theorem OwnL.len {k : Nat} : ∀ {ds : List D} {vs : List V} {fp : List Addr}, OwnL K H F ds k vs fp → vs.length = ds.length
  | [], _, _, h => by rw [h.1]; rfl
  | d :: ds, _, _, ⟨v, r, fp1, fp2, e, ef, h1, h2⟩ => by rw [e, List.length_cons, List.length_cons, OwnL.len h2]
end
end FL

namespace FL
open PySem PySem.Spec PyProof.Rows L2
open Classical

/-! ### the heap without some places -/
noncomputable def hideP (H : Hp) (A : Addr → Prop) : Hp := fun a => if A a then none else H a
theorem hideP_some {H : Hp} {A : Addr → Prop} {a : Addr} {o : HO} : hideP H A a = some o ↔ ¬ A a ∧ H a = some o := by
  unfold hideP
  by_cases h : A a
  · simp [h]
  · simp [h]
theorem hideP_same {H : Hp} {A : Addr → Prop} : Same (hideP H A) H := fun _ _ h => (hideP_some.mp h).2
theorem hideP_mono {H H' : Hp} {A B : Addr → Prop} (s : Same H H') (h : ∀ a o, H a = some o → ¬ A a → ¬ B a) : Same (hideP H A) (hideP H' B) := fun a o q => by
  obtain ⟨q1, q2⟩ := hideP_some.mp q
  exact hideP_some.mpr ⟨h a o q2 q1, s a o q2⟩
theorem hideP_not {H : Hp} {A : Addr → Prop} {a : Addr} (h : ¬ A a) : hideP H A a = H a := by unfold hideP; rw [if_neg h]
/-- what is not changed in place stands where lists are hidden -/
theorem hideP_keeps {H : Hp} {A : Addr → Prop} (h : ∀ a, A a → ∃ o, H a = some o ∧ MutO o) : Keeps H (hideP H A) := fun a o q n =>
  hideP_some.mpr ⟨fun z => (by obtain ⟨o', e, m⟩ := h a z; rw [q] at e; cases e; exact n m), q⟩

abbrev Fps := Nat → List Addr
def own (fps : Fps) (a : Addr) : Prop := ∃ i, a ∈ fps i
def own2 (fps : Fps) (fp : List Addr) (a : Addr) : Prop := a ∈ fp ∨ ∃ i, a ∈ fps i

/-! ### a def's state: what each slot holds, and who owns it -/
inductive Slot where
  | un
  | va (k : Nat) (d : D)
  | io (k : Nat) (d : D)
abbrev Sl := List Slot
structure Fr where
  G : Hp
  pin : Nat → V
def SlotOk (K : PySem.W.Frag) (H F : Hp) (p : V) : Slot → Option (Option V) → List Addr → Prop
  | .un, _, fp => fp = []
  | .va k d, sv, fp => ∃ v, sv = some (some v) ∧ Own K H F d k v fp
  | .io k d, sv, fp => sv = some (some p) ∧ Own K H F d k p fp
structure StR (K : PySem.W.Frag) (F : Fr) (fps : Fps) (σ : L2.St) (H : Hp) (st : Sl) : Prop where
  fr : Same F.G (hideP H (own fps))
  nd : ∀ i, (fps i).Nodup
  dj : ∀ i j a, a ∈ fps i → a ∈ fps j → i = j
  len : σ.length = st.length
  ok : ∀ (i : Nat) sl, st[i]? = some sl → SlotOk K H (hideP H (own fps)) (F.pin i) sl σ[i]? (fps i)
  tmp : ∀ i a, st.length ≤ i → a ∈ fps i → ∃ o, H a = some o ∧ MutO o
  fin : ∃ m, ∀ i, m ≤ i → fps i = []
def StRep (K : PySem.W.Frag) (F : Fr) (σ : L2.St) (H : Hp) (st : Sl) : Prop := ∃ fps, StR K F fps σ H st

section
variable {K : PySem.W.Frag} {F : Fr} {fps : Fps} {σ : L2.St} {H H' : Hp} {st : Sl}
theorem SlotOk.isLst {p : V} {F : Hp} {sl : Slot} {sv : Option (Option V)} {fp : List Addr} (h : SlotOk K H F p sl sv fp) : ∀ a ∈ fp, ∃ o, H a = some o ∧ MutO o := by
  cases sl with
  | un => intro a m; rw [show fp = [] from h] at m; cases m
  | va k d => obtain ⟨v, _, q⟩ := h; exact Own.isLst d k v fp q
  | io k d => obtain ⟨_, q⟩ := h; exact Own.isLst d k p fp q
theorem SlotOk.mono {p : V} {F F' : Hp} {sl : Slot} {sv : Option (Option V)} {fp : List Addr} (s : Same F F') (c : ∀ a ∈ fp, H' a = H a) (h : SlotOk K H F p sl sv fp) : SlotOk K H' F' p sl sv fp := by
  cases sl with
  | un => exact h
  | va k d => obtain ⟨v, e, q⟩ := h; exact ⟨v, e, Own.mono s d k v fp c q⟩
  | io k d => obtain ⟨e, q⟩ := h; exact ⟨e, Own.mono s d k p fp c q⟩
theorem StR.isLst (r : StR K F fps σ H st) {a : Addr} (h : own fps a) : ∃ o, H a = some o ∧ MutO o := by
  obtain ⟨i, m⟩ := h
  by_cases hi : i < st.length
  · exact (r.ok i st[i] (by simp [hi])).isLst a m
  · exact r.tmp i a (by omega) m
theorem StR.there (r : StR K F fps σ H st) {a : Addr} (h : own fps a) : H a ≠ none := fun z => by
  obtain ⟨_, e, _⟩ := r.isLst h
  rw [z] at e; cases e
theorem StR.mono (r : StR K F fps σ H st) (s : Same H H') : StR K F fps σ H' st := by
  have hm : Same (hideP H (own fps)) (hideP H' (own fps)) := hideP_mono s fun _ _ _ h => h
  refine ⟨r.fr.trans hm, r.nd, r.dj, r.len, fun i sl e => (r.ok i sl e).mono hm fun a m => ?_, fun i a h m => ?_, r.fin⟩
  · obtain ⟨_, q, mq⟩ := r.isLst ⟨i, m⟩
    rw [q]; exact s _ _ q
  · obtain ⟨_, q, mq⟩ := r.tmp i a h m
    exact ⟨_, s _ _ q, mq⟩
theorem StR.keeps (r : StR K F fps σ H st) : Keeps H (hideP H (own fps)) := hideP_keeps fun a h => r.isLst h

/-! ### values -/
inductive Kd where
  | rd
  | ow (k : Nat)
/-- the value of an expression that began at H and ended at H' -/
def VR (K : PySem.W.Frag) (fps : Fps) (H H' : Hp) : Kd → D → V → Prop
  | .rd, d, v => Rep K H' d v
  | .ow k, d, v => ∃ fp, fp.Nodup ∧ (∀ a ∈ fp, H a = none) ∧ Own K H' (hideP H' (own2 fps fp)) d k v fp
def VRL (K : PySem.W.Frag) (fps : Fps) (H H' : Hp) : Kd → List D → List V → Prop
  | .rd, ds, vs => RepL K H' ds vs
  | .ow k, ds, vs => ∃ fp, fp.Nodup ∧ (∀ a ∈ fp, H a = none) ∧ OwnL K H' (hideP H' (own2 fps fp)) ds k vs fp

theorem VR.rd {kd : Kd} {d : D} {v : V} (h : VR K fps H H' kd d v) : Rep K H' d v := by
  cases kd with
  | rd => exact h
  | ow k => obtain ⟨fp, _, _, q⟩ := h; exact Own.rep hideP_same d k v fp (fun _ _ => rfl) q
theorem VRL.rd {kd : Kd} {d : List D} {v : List V} (h : VRL K fps H H' kd d v) : RepL K H' d v := by
  cases kd with
  | rd => exact h
  | ow k => obtain ⟨fp, _, _, q⟩ := h; exact OwnL.rep hideP_same d k v fp (fun _ _ => rfl) q
/-- from what is readable and has no lists -/
theorem VR.fl {kd : Kd} {d : D} {v : V} (r : StR K F fps σ H' st) (f : full d 0 = true) (h : Rep K H' d v) : VR K fps H H' kd d v := by
  cases kd with
  | rd => exact h
  | ow k =>
    refine ⟨[], List.nodup_nil, fun a m => (by cases m), Own.flat k d v f (Rep.flat (hideP_keeps fun b hb => ?_) d v f h)⟩
    rcases hb with m | hb
    · cases m
    · exact r.isLst hb
/-- scalars -/
def sc : D → Bool
  | .non => true
  | .bl _ => true
  | .int _ => true
  | .str _ => true
  | _ => false
def scV : D → V
  | .bl b => .bl b
  | .int i => .int i
  | .str x => .str x
  | _ => .non
theorem VR.sc {kd : Kd} {d : D} {v : V} (f : sc d = true) (e : v = scV d) : VR K fps H H' kd d v := by
  subst e
  cases kd with
  | rd => cases d <;> first | rfl | cases f
  | ow k => cases d <;> first | exact ⟨[], List.nodup_nil, fun a m => (by cases m), rfl, rfl⟩ | cases f
theorem Rep.int {i : Int} {v : V} (h : Rep K H (.int i) v) : v = .int i := h

/-- a temporary's heap grows -/
theorem VR.grow {H'' : Hp} {kd : Kd} {d : D} {v : V} (s : Same H' H'') (h : VR K fps H H' kd d v) : VR K fps H H'' kd d v := by
  cases kd with
  | rd => exact Rep.mono s d v h
  | ow k =>
    obtain ⟨fp, n, fr, q⟩ := h
    exact ⟨fp, n, fr, Own.mono (hideP_mono s fun _ _ _ h => h) d k v fp (fun a m => by
      obtain ⟨_, e, _⟩ := Own.isLst d k v fp q a m
      rw [e]; exact s _ _ e) q⟩
theorem VR.early {H0 : Hp} {kd : Kd} {d : D} {v : V} (s : Same H0 H) (h : VR K fps H H' kd d v) : VR K fps H0 H' kd d v := by
  cases kd with
  | rd => exact h
  | ow k => obtain ⟨fp, n, fr, q⟩ := h; exact ⟨fp, n, fun a m => s.free (fr a m), q⟩
theorem VRL.early {H0 : Hp} {kd : Kd} {d : List D} {v : List V} (s : Same H0 H) (h : VRL K fps H H' kd d v) : VRL K fps H0 H' kd d v := by
  cases kd with
  | rd => exact h
  | ow k => obtain ⟨fp, n, fr, q⟩ := h; exact ⟨fp, n, fun a m => s.free (fr a m), q⟩
theorem VRL.nil {kd : Kd} : VRL K fps H H' kd [] [] := by
  cases kd with
  | rd => rfl
  | ow k => exact ⟨[], List.nodup_nil, fun a m => (by cases m), rfl, rfl⟩
/-- the footprint at a place -/
def setF (fps : Fps) (i : Nat) (fp : List Addr) : Fps := fun j => if j = i then fp else fps j
theorem setF_same {i : Nat} {fp : List Addr} : setF fps i fp i = fp := if_pos rfl
theorem setF_ne {i j : Nat} {fp : List Addr} (h : j ≠ i) : setF fps i fp j = fps j := if_neg h
theorem own_setF {i : Nat} {fp : List Addr} {a : Addr} (h : own (setF fps i fp) a) : own2 fps fp a := by
  obtain ⟨j, m⟩ := h
  by_cases e : j = i
  · subst e; rw [setF_same] at m; exact .inl m
  · rw [setF_ne e] at m; exact .inr ⟨j, m⟩
theorem own_setF' {i : Nat} {fp : List Addr} {a : Addr} (hi : fps i = []) (h : own2 fps fp a) : own (setF fps i fp) a := by
  rcases h with m | ⟨j, m⟩
  · exact ⟨i, by rw [setF_same]; exact m⟩
  · refine ⟨j, ?_⟩
    rw [setF_ne]
    · exact m
    · intro e; subst e; rw [hi] at m; cases m
/-- a temporary joins the state -/
theorem StR.temp {H1 : Hp} {fp : List Addr} (r : StR K F fps σ H st) (s1 : Same H H1) (n : fp.Nodup) (fr : ∀ a ∈ fp, H a = none) (lst : ∀ a ∈ fp, ∃ o, H1 a = some o ∧ MutO o) :
    ∃ m, fps m = [] ∧ StR K F (setF fps m fp) σ H1 st := by
  obtain ⟨m0, hm0⟩ := r.fin
  have hm : fps (max m0 st.length) = [] := hm0 _ (Nat.le_max_left _ _)
  refine ⟨max m0 st.length, hm, ?_⟩
  have hide : Same (hideP H (own fps)) (hideP H1 (own (setF fps (max m0 st.length) fp))) := hideP_mono s1 fun a o e h z => by
    rcases own_setF z with z | z
    · rw [fr a z] at e; cases e
    · exact h z
  have hidx : ∀ {i}, i < st.length → i ≠ max m0 st.length := fun h => by have := Nat.le_max_right m0 st.length; omega
  refine ⟨r.fr.trans hide, fun i => ?_, fun i j a m1 m2 => ?_, r.len, fun i sl e => ?_, fun i a h m => ?_, max m0 st.length + 1, fun i h => ?_⟩
  · by_cases e : i = max m0 st.length
    · rw [e, setF_same]; exact n
    · rw [setF_ne e]; exact r.nd i
  · by_cases e1 : i = max m0 st.length <;> by_cases e2 : j = max m0 st.length
    · rw [e1, e2]
    · rw [e1, setF_same] at m1; rw [setF_ne e2] at m2
      exact absurd (fr a m1) (r.there ⟨j, m2⟩)
    · rw [setF_ne e1] at m1; rw [e2, setF_same] at m2
      exact absurd (fr a m2) (r.there ⟨i, m1⟩)
    · rw [setF_ne e1] at m1; rw [setF_ne e2] at m2
      exact r.dj i j a m1 m2
  · have hi : i < st.length := (List.getElem?_eq_some_iff.mp e).1
    rw [setF_ne (hidx hi)]
    exact (r.ok i sl e).mono hide fun a m => by
      obtain ⟨_, q, mq⟩ := r.isLst ⟨i, m⟩
      rw [q]; exact s1 _ _ q
  · by_cases e : i = max m0 st.length
    · rw [e, setF_same] at m; exact lst a m
    · rw [setF_ne e] at m
      obtain ⟨_, q, mq⟩ := r.tmp i a h m
      exact ⟨_, s1 _ _ q, mq⟩
  · rw [setF_ne (by omega)]
    exact hm0 i (by have := Nat.le_max_left m0 st.length; omega)
/-- one value, then the others -/
theorem VR.seq {H1 : Hp} {kd : Kd} {d : D} {v : V} (r : StR K F fps σ H st) (s1 : Same H H1) (h : VR K fps H H1 kd d v) :
    ∃ fps', StR K F fps' σ H1 st ∧ ∀ (H2 : Hp) (ds : List D) (vs : List V), Same H1 H2 → VRL K fps' H1 H2 kd ds vs → VRL K fps H H2 kd (d :: ds) (v :: vs) := by
  cases kd with
  | rd => exact ⟨fps, r.mono s1, fun H2 ds vs s2 t => ⟨v, vs, rfl, Rep.mono s2 d v h, t⟩⟩
  | ow k =>
    obtain ⟨fp, n, fr, q⟩ := h
    have lst1 := Own.isLst d k v fp q
    obtain ⟨m, hm, r1⟩ := r.temp s1 n fr lst1
    refine ⟨_, r1, fun H2 ds vs s2 t => ?_⟩
    obtain ⟨fq, n2, fr2, q2⟩ := t
    have dis : ∀ a, a ∈ fp → a ∈ fq → False := fun a m m2 => by
      obtain ⟨_, e, _⟩ := lst1 a m
      rw [fr2 a m2] at e; cases e
    refine ⟨fp ++ fq, List.nodup_append.mpr ⟨n, n2, fun a m b m2 e => dis a m (e ▸ m2)⟩, fun a m => ?_, v, vs, fp, fq, rfl, rfl, ?_, ?_⟩
    · rcases List.mem_append.mp m with m | m
      · exact fr a m
      · exact s1.free (fr2 a m)
    · refine Own.mono (hideP_mono s2 fun a o e h z => ?_) d k v fp (fun a m => ?_) q
      · rcases z with m | z
        · rcases List.mem_append.mp m with m | m
          · exact h (.inl m)
          · rw [fr2 a m] at e; cases e
        · exact h (.inr z)
      · obtain ⟨_, e, _⟩ := lst1 a m
        rw [e]; exact s2 _ _ e
    · refine OwnL.mono (fun a o e => ?_) ds k vs fq (fun _ _ => rfl) q2
      obtain ⟨h1, h2⟩ := hideP_some.mp e
      refine hideP_some.mpr ⟨fun z => h1 ?_, h2⟩
      rcases z with m' | z
      · rcases List.mem_append.mp m' with m' | m'
        · exact .inr (own_setF' hm (.inl m'))
        · exact .inl m'
      · exact .inr (own_setF' hm (.inr z))
/-- a new value at a slot -/
theorem StR.set {H1 : Hp} {k : Nat} {d : D} {v : V} {fp : List Addr} {i : Nat} (r : StR K F fps σ H st) (s1 : Same H H1) (hi : i < st.length)
    (n : fp.Nodup) (fr : ∀ a ∈ fp, H a = none) (q : Own K H1 (hideP H1 (own2 fps fp)) d k v fp) : StR K F (setF fps i fp) (σ.set i (some v)) H1 (st.set i (.va k d)) := by
  have hide : Same (hideP H (own fps)) (hideP H1 (own (setF fps i fp))) := hideP_mono s1 fun a o e h z => by
    rcases own_setF z with z | z
    · rw [fr a z] at e; cases e
    · exact h z
  have hide2 : Same (hideP H1 (own2 fps fp)) (hideP H1 (own (setF fps i fp))) := hideP_mono (Same.refl _) fun a o e h z => h (own_setF z)
  refine ⟨r.fr.trans hide, fun j => ?_, fun j j' a m1 m2 => ?_, by rw [List.length_set, List.length_set]; exact r.len, fun j sl e => ?_, fun j a h m => ?_, ?_⟩
  · by_cases e : j = i
    · rw [e, setF_same]; exact n
    · rw [setF_ne e]; exact r.nd j
  · by_cases e1 : j = i <;> by_cases e2 : j' = i
    · rw [e1, e2]
    · rw [e1, setF_same] at m1; rw [setF_ne e2] at m2
      exact absurd (fr a m1) (r.there ⟨j', m2⟩)
    · rw [setF_ne e1] at m1; rw [e2, setF_same] at m2
      exact absurd (fr a m2) (r.there ⟨j, m1⟩)
    · rw [setF_ne e1] at m1; rw [setF_ne e2] at m2
      exact r.dj j j' a m1 m2
  · by_cases e1 : j = i
    · subst e1
      rw [List.getElem?_set_self hi] at e
      cases e
      rw [setF_same]
      refine ⟨v, ?_, Own.mono hide2 d k v fp (fun _ _ => rfl) q⟩
      rw [List.getElem?_set_self (by rw [r.len]; exact hi)]
    · rw [List.getElem?_set_ne (Ne.symm e1)] at e
      rw [setF_ne e1, List.getElem?_set_ne (Ne.symm e1)]
      exact (r.ok j sl e).mono hide fun a m => by
        obtain ⟨_, q, mq⟩ := r.isLst ⟨j, m⟩
        rw [q]; exact s1 _ _ q
  · rw [List.length_set] at h
    rw [setF_ne (by omega)] at m
    obtain ⟨_, q, mq⟩ := r.tmp j a h m
    exact ⟨_, s1 _ _ q, mq⟩
  · obtain ⟨m, hm⟩ := r.fin
    refine ⟨max m (i + 1), fun j h => ?_⟩
    rw [setF_ne (by have := Nat.le_max_right m (i + 1); omega)]
    exact hm j (by have := Nat.le_max_left m (i + 1); omega)
/-- a slot forgotten -/
theorem StR.unset {i : Nat} (r : StR K F fps σ H st) : StR K F (setF fps i []) σ H (st.set i .un) := by
  have hide : Same (hideP H (own fps)) (hideP H (own (setF fps i []))) := hideP_mono (Same.refl _) fun a o e h z => by
    rcases own_setF z with z | z
    · cases z
    · exact h z
  refine ⟨r.fr.trans hide, fun j => ?_, fun j j' a m1 m2 => ?_, by rw [List.length_set]; exact r.len, fun j sl e => ?_, fun j a h m => ?_, ?_⟩
  · by_cases e : j = i
    · rw [e, setF_same]; exact List.nodup_nil
    · rw [setF_ne e]; exact r.nd j
  · by_cases e1 : j = i <;> by_cases e2 : j' = i
    · rw [e1, e2]
    · rw [e1, setF_same] at m1; cases m1
    · rw [e2, setF_same] at m2; cases m2
    · rw [setF_ne e1] at m1; rw [setF_ne e2] at m2
      exact r.dj j j' a m1 m2
  · by_cases e1 : j = i
    · subst e1
      rw [setF_same]
      by_cases hi : j < st.length
      · rw [List.getElem?_set_self hi] at e
        cases e
        exact rfl
      · rw [List.getElem?_eq_none (by rw [List.length_set]; omega)] at e; cases e
    · rw [List.getElem?_set_ne (Ne.symm e1)] at e
      rw [setF_ne e1]
      exact (r.ok j sl e).mono hide fun a m => rfl
  · rw [List.length_set] at h
    by_cases e1 : j = i
    · rw [e1, setF_same] at m; cases m
    · rw [setF_ne e1] at m
      exact r.tmp j a h m
  · obtain ⟨m, hm⟩ := r.fin
    refine ⟨max m (i + 1), fun j h => ?_⟩
    rw [setF_ne (by have := Nat.le_max_right m (i + 1); omega)]
    exact hm j (by have := Nat.le_max_left m (i + 1); omega)
/-- what a slot holds -/
theorem StR.va {i k : Nat} {d : D} (r : StR K F fps σ H st) (e : st[i]? = some (.va k d)) : ∃ v, σ[i]? = some (some v) ∧ Own K H (hideP H (own fps)) d k v (fps i) := r.ok i _ e
theorem StR.io {i k : Nat} {d : D} (r : StR K F fps σ H st) (e : st[i]? = some (.io k d)) : σ[i]? = some (some (F.pin i)) ∧ Own K H (hideP H (own fps)) d k (F.pin i) (fps i) := r.ok i _ e
end
end FL

namespace FL
open PySem PySem.Spec PyProof.Rows L2

abbrev EM := Sl → Option D
abbrev TM := Sl → Option Bool
abbrev AM := Sl → Option (List D)

theorem PE.weak {X : Cx} {e : Expr} {t t' : TE} (h : PE X e t) (hw : ∀ σ H Q, t' σ H Q → t σ H Q) : PE X e t' := ⟨fun pins s σ H Q I q => h.run pins s σ H Q I (hw σ H Q q)⟩
theorem PT.weak {X : Cx} {e : Expr} {t t' : TT} (h : PT X e t) (hw : ∀ σ H Q, t' σ H Q → t σ H Q) : PT X e t' := ⟨fun pins s σ H Q I q => h.run pins s σ H Q I (hw σ H Q q)⟩
theorem PW.weak {X : Cx} {e : Expr} {t t' : TT} (h : PW X e t) (hw : ∀ σ H Q, t' σ H Q → t σ H Q) : PW X e t' := ⟨fun wh pins s σ H Q I q => h.run wh pins s σ H Q I (hw σ H Q q)⟩
theorem PA.weak {X : Cx} {e : List Expr} {t t' : TA} (h : PA X e t) (hw : ∀ σ H Q, t' σ H Q → t σ H Q) : PA X e t' := ⟨fun pos pins s σ H Q I q => h.run pos pins s σ H Q I (hw σ H Q q)⟩

def tF (K : PySem.W.Frag) (kd : Kd) (f : EM) : TE := fun σ H Q => ∃ F fps st d, StR K F fps σ H st ∧ f st = some d ∧ ∀ v H', Same H H' → VR K fps H H' kd d v → Q v H'
def tFT (K : PySem.W.Frag) (f : TM) : TT := fun σ H Q => ∃ F fps st b, StR K F fps σ H st ∧ f st = some b ∧ ∀ H', Same H H' → Q b H'
def tFA (K : PySem.W.Frag) (kd : Kd) (f : AM) : TA := fun σ H Q => ∃ F fps st ds, StR K F fps σ H st ∧ f st = some ds ∧ ∀ vs H', Same H H' → VRL K fps H H' kd ds vs → Q vs H'
abbrev FE (X : Cx) (kd : Kd) (e : Expr) (f : EM) : Prop := PE X e (tF X.K kd f)
abbrev FT (X : Cx) (e : Expr) (f : TM) : Prop := PT X e (tFT X.K f)
abbrev FW (X : Cx) (e : Expr) (f : TM) : Prop := PW X e (tFT X.K f)
abbrev FA (X : Cx) (kd : Kd) (es : List Expr) (f : AM) : Prop := PA X es (tFA X.K kd f)

section
variable {X : Cx} {kd kd1 kd2 : Kd} {e a b c : Expr} {es : List Expr} {f g h : EM} {pos : Pos} {K : PySem.W.Frag}

/-! ### kinds -/
theorem fe_rd (he : FE X kd e f) : FE X .rd e f := PE.weak he fun σ H Q ⟨F, fps, st, d, r, ed, q⟩ => ⟨F, fps, st, d, r, ed, fun v H' s w => q v H' s w.rd⟩
def chk (k : Nat) (d : D) : Option D := if full d k = true then some d else none
def eFl (f : EM) : EM := fun st => (f st).bind (chk 0)
theorem chk_some {k : Nat} {o : Option D} {d : D} (h : o.bind (chk k) = some d) : o = some d ∧ full d k = true := by
  cases o with
  | none => cases h
  | some x =>
    have h' : (if full x k = true then some x else none) = some d := h
    split at h'
    · cases h'; exact ⟨rfl, by assumption⟩
    · cases h'
theorem fe_fl (he : FE X kd1 e f) : FE X kd e (eFl f) := PE.weak he fun σ H Q ⟨F, fps, st, d, r, ed, q⟩ => by
  obtain ⟨e1, e2⟩ := chk_some ed
  exact ⟨F, fps, st, d, r, e1, fun v H' s w => q v H' s ((r.mono s).mono (Same.refl _) |> fun r' => VR.fl r' e2 w.rd)⟩
theorem VR.ow0 {fps : Fps} {H H' : Hp} {d : D} {v : V} (h : VR K fps H H' (.ow 0) d v) : Rep K (hideP H' (own fps)) d v := by
  obtain ⟨fp, n, fr, q⟩ := h
  obtain ⟨e, q⟩ := Own.zero d v fp q
  subst e
  exact Rep.mono (hideP_mono (Same.refl _) fun a o _ h z => h (.inr z)) d v q
theorem VR.mk0 {fps : Fps} {H H' : Hp} {d : D} {v : V} (h : Rep K (hideP H' (own fps)) d v) : VR K fps H H' (.ow 0) d v :=
  ⟨[], List.nodup_nil, fun a m => (by cases m), Own.shared d v (Rep.mono (hideP_mono (Same.refl _) fun a o _ h z => h (z.resolve_left (fun m => by cases m))) d v h)⟩
theorem fe_fz {k : Nat} (he : FE X (.ow k) e f) : FE X (.ow 0) e f := PE.weak he fun σ H Q ⟨F, fps, st, d, r, ed, q⟩ => ⟨F, fps, st, d, r, ed, fun v H' s w => q v H' s (by
  obtain ⟨fp, n, fr, w⟩ := w
  refine VR.mk0 (Own.rep (hideP_mono (Same.refl _) fun a o _ h z => h (.inr z)) d k v fp (fun a m => hideP_not fun z => ?_) w)
  exact r.there z (fr a m))⟩

/-! ### names and constants -/
def eVar (i : Nat) : EM := fun st => match st[i]? with
  | some (.va _ d) => some d
  | some (.io _ d) => some d
  | _ => none
def eVarS (i : Nat) : EM := fun st => match st[i]? with
  | some (.va 0 d) => some d
  | some (.va (_ + 1) d) => chk 0 d
  | some (.io _ d) => chk 0 d
  | _ => none
theorem StR.look {F : Fr} {fps : Fps} {σ : L2.St} {H : Hp} {st : Sl} {i : Nat} {d : D} (r : StR K F fps σ H st) (e : eVar i st = some d) : ∃ v k, σ[i]? = some (some v) ∧ Own K H (hideP H (own fps)) d k v (fps i) := by
  unfold eVar at e
  split at e
  · cases e
    obtain ⟨v, h1, h2⟩ := r.va (by assumption)
    exact ⟨v, _, h1, h2⟩
  · cases e
    obtain ⟨h1, h2⟩ := r.io (by assumption)
    exact ⟨_, _, h1, h2⟩
  · cases e
theorem fe_var {i : Nat} (he : PE X e (tVar i)) : FE X .rd e (eVar i) := PE.weak he fun σ H Q ⟨F, fps, st, d, r, ed, q⟩ => by
  obtain ⟨v, k, e1, o⟩ := r.look ed
  exact ⟨v, e1, q v H (Same.refl H) (Own.rep hideP_same d k v _ (fun _ _ => rfl) o)⟩
theorem fe_varS {i : Nat} (he : PE X e (tVar i)) : FE X (.ow 0) e (eVarS i) := PE.weak he fun σ H Q ⟨F, fps, st, d, r, ed, q⟩ => by
  unfold eVarS at ed
  split at ed
  · rename_i hs
    cases ed
    obtain ⟨v, e1, o⟩ := r.va hs
    exact ⟨v, e1, q v H (Same.refl H) (VR.mk0 (Own.zero d v _ o).2)⟩
  · rename_i k d' hs
    obtain ⟨h1, h2⟩ := chk_some (o := some d') ed
    cases h1
    obtain ⟨v, e1, o⟩ := r.va hs
    exact ⟨v, e1, q v H (Same.refl H) (VR.fl r h2 (Own.rep hideP_same d _ v _ (fun _ _ => rfl) o))⟩
  · rename_i k d' hs
    obtain ⟨h1, h2⟩ := chk_some (o := some d') ed
    cases h1
    obtain ⟨e1, o⟩ := r.io hs
    exact ⟨_, e1, q _ H (Same.refl H) (VR.fl r h2 (Own.rep hideP_same d _ _ _ (fun _ _ => rfl) o))⟩
  · cases ed
def eC (d : D) : EM := fun _ => some d
theorem fe_c {d : D} (hd : sc d = true) (he : PE X e (tC (scV d))) : FE X kd e (eC d) := PE.weak he fun σ H Q ⟨F, fps, st, d', r, ed, q⟩ => by
  cases ed
  exact q _ H (Same.refl H) (VR.sc hd rfl)
theorem fe_int {i j pos} : FE X kd (.Constant (.int i) j pos) (eC (.int i)) := fe_c rfl pe_int
theorem fe_bl {b j pos} : FE X kd (.Constant (.bool b) j pos) (eC (.bl b)) := fe_c rfl pe_bl
theorem fe_non {j pos} : FE X kd (.Constant .none j pos) (eC .non) := fe_c rfl pe_non
theorem fe_str {x j pos} : FE X kd (.Constant (.str x) j pos) (eC (.str x)) := fe_c rfl pe_str

/-! ### operators whose answer is a scalar -/
def eBin (m : D → D → Option D) (f g : EM) : EM := fun st => (f st).bind fun x => (g st).bind fun y => m x y
theorem bind2 {α β γ : Type} {o : Option α} {p : Option β} {m : α → β → Option γ} {d : γ} (h : (o.bind fun x => p.bind fun y => m x y) = some d) : ∃ x y, o = some x ∧ p = some y ∧ m x y = some d := by
  cases o with
  | none => cases h
  | some x =>
    cases p with
    | none => cases h
    | some y => exact ⟨x, y, rfl, rfl, h⟩
/-- a rule on two values, a scalar comes -/
def ScR (K : PySem.W.Frag) (m : D → D → Option D) (r : R2) : Prop := ∀ (x y : V) (H : Hp) (Q : VK) (dx dy d : D), Rep K H dx x → Rep K H dy y → m dx dy = some d → sc d = true ∧ (Q (scV d) H → r x y H Q)
theorem tF_bin {m : D → D → Option D} {r : R2} (hr : ScR K m r) {σ : L2.St} {H : Hp} {Q : VK} (h : tF K kd (eBin m f g) σ H Q) : tOp r (tF K .rd f) (tF K .rd g) σ H Q := by
  obtain ⟨F, fps, st, d, rr, ed, q⟩ := h
  obtain ⟨x, y, e1, e2, e3⟩ := bind2 ed
  refine ⟨F, fps, st, x, rr, e1, fun v H1 s1 w1 => ⟨F, fps, st, y, rr.mono s1, e2, fun u H2 s2 w2 => ?_⟩⟩
  obtain ⟨h1, h2⟩ := hr v u H2 Q x y d (Rep.mono s2 x v w1) w2 e3
  exact h2 (q _ H2 (s1.trans s2) (VR.sc h1 rfl))
theorem fe_bin {op : Operator} {m : D → D → Option D} {r : R2} (ho : OpR X (binaryOp op) r) (hr : ScR X.K m r) (ha : FE X .rd a f) (hb : FE X .rd b g) : FE X kd (.BinOp a op b pos) (eBin m f g) :=
  PE.weak (pe_op ho ha hb) fun _ _ _ => tF_bin hr
theorem fe_cmpB {op : CmpOp} {m : D → D → Option D} {r : R2} (ho : OpR X (compareOp op) r) (hr : ScR X.K m r) (hm : behindInMarks op b = false) (ha : FE X .rd a f) (hb : FE X .rd b g) : FE X kd (.Compare a [op] [b] pos) (eBin m f g) :=
  PE.weak (pe_cmpR ho ha hb hm) fun _ _ _ => tF_bin hr
def qVal (f : EM) : TM := fun st => match f st with
  | some (.bl b) => some b
  | _ => none
theorem tVal_some {f : EM} {st : Sl} {b : Bool} (h : qVal f st = some b) : f st = some (.bl b) := by
  unfold qVal at h
  split at h
  · cases h; assumption
  · cases h
theorem tFT_of {t : TE} (ht : ∀ σ H Q, tF K .rd f σ H Q → t σ H Q) {σ : L2.St} {H : Hp} {Q : Bool → Hp → Prop} (h : tFT K (qVal f) σ H Q) : t σ H fun x H' => ∃ k, x = .bl k ∧ Q k H' := by
  obtain ⟨F, fps, st, d, rr, ed, q⟩ := h
  exact ht σ H _ ⟨F, fps, st, .bl d, rr, tVal_some ed, fun v H' s w => ⟨d, w, q H' s⟩⟩
theorem ft_cmpB {op : CmpOp} {m : D → D → Option D} {r : R2} (ho : OpR X (compareOp op) r) (hr : ScR X.K m r) (hm : behindInMarks op b = false) (ha : FE X .rd a f) (hb : FE X .rd b g) : FT X (.Compare a [op] [b] pos) (qVal (eBin m f g)) :=
  PT.weak (pt_cmpR ho ha hb hm) fun _ _ _ h => tFT_of (fun _ _ _ => tF_bin hr) h
theorem ft_val (he : FE X .rd e f) (hw : ∀ whole, isTrue e X.env whole = (do let v ← whole; standAt e.pos; holding [v] (truthy v)) := by intro _; rfl) : FT X e (qVal f) :=
  PT.weak (pt_val he hw) fun _ _ _ h => tFT_of (fun _ _ _ q => q) h

/-- two ints -/
def mI (c : Int → Int → Bool) (g : Int → Int → D) : D → D → Option D
  | .int i, .int j => if c i j = true then some (g i j) else none
  | _, _ => none
theorem mI_some {c : Int → Int → Bool} {g : Int → Int → D} {x y d : D} (h : mI c g x y = some d) : ∃ i j, x = .int i ∧ y = .int j ∧ c i j = true ∧ d = g i j := by
  unfold mI at h
  split at h
  · split at h
    · cases h; exact ⟨_, _, rfl, rfl, by assumption, rfl⟩
    · cases h
  · cases h
theorem scr_int0 {c : Int → Int → Bool} {g : Int → Int → D} {gv : Int → Int → V} (hs : ∀ i j, sc (g i j) = true ∧ scV (g i j) = gv i j) : ScR K (mI c g) (rI0 gv) := fun x y H Q dx dy d rx ry e => by
  obtain ⟨i, j, rfl, rfl, _, rfl⟩ := mI_some e
  refine ⟨(hs i j).1, fun q => ⟨i, j, rx, ry, ?_⟩⟩
  rw [← (hs i j).2]; exact q
theorem scr_int {C : Int → Int → Prop} {c : Int → Int → Bool} {g : Int → Int → D} {gv : Int → Int → V} (hc : ∀ i j, c i j = true → C i j) (hs : ∀ i j, sc (g i j) = true ∧ scV (g i j) = gv i j) : ScR K (mI c g) (rI C gv) := fun x y H Q dx dy d rx ry e => by
  obtain ⟨i, j, rfl, rfl, h, rfl⟩ := mI_some e
  refine ⟨(hs i j).1, fun q => ⟨i, j, rx, ry, hc i j h, ?_⟩⟩
  rw [← (hs i j).2]; exact q
def c0 (_ _ : Int) : Bool := true
def mulOk (i j : Int) : Bool := (decide (-(2 ^ 64) < i) && decide (i < 2 ^ 64)) || (decide (-(2 ^ 64) < j) && decide (j < 2 ^ 64))
def divOk (_ j : Int) : Bool := decide (0 < j) && decide (j.natAbs.log2 < 9000)
def modOk (_ j : Int) : Bool := decide (0 < j)
def powOk (i j : Int) : Bool := decide (0 ≤ j) && decide (j ≤ 1000000) && decide (i.natAbs < 2 ^ 64)
def mSub := mI c0 fun i j => .int (i - j)
def mMul := mI mulOk fun i j => .int (i * j)
def mDiv := mI divOk fun i j => .int (i / j)
def mMod := mI modOk fun i j => .int (i % j)
def mPow := mI powOk fun i j => .int (i ^ j.toNat)
def mXor := mI c0 fun i j => .int (Builtin.bitXor i j)
def mLt := mI c0 fun i j => .bl (decide (i < j))
def mLe := mI c0 fun i j => .bl (decide (i ≤ j))
def mGt := mI c0 fun i j => .bl (decide (j < i))
def mGe := mI c0 fun i j => .bl (decide (j ≤ i))
def mAddI := mI c0 fun i j => .int (i + j)
theorem fe_addI (ha : FE X .rd a f) (hb : FE X .rd b g) : FE X kd (.BinOp a .Add b pos) (eBin mAddI f g) := fe_bin op_add (scr_int0 fun _ _ => ⟨rfl, rfl⟩) ha hb
theorem fe_sub (ha : FE X .rd a f) (hb : FE X .rd b g) : FE X kd (.BinOp a .Sub b pos) (eBin mSub f g) := fe_bin op_sub (scr_int0 fun _ _ => ⟨rfl, rfl⟩) ha hb
theorem mulOk_ok (i j : Int) (h : mulOk i j = true) : CMul i j := by
  unfold mulOk at h
  simp only [Bool.or_eq_true, Bool.and_eq_true, decide_eq_true_eq] at h
  exact h
theorem fe_mul (ha : FE X .rd a f) (hb : FE X .rd b g) : FE X kd (.BinOp a .Mult b pos) (eBin mMul f g) := fe_bin op_mul (scr_int mulOk_ok fun _ _ => ⟨rfl, rfl⟩) ha hb
theorem fe_div (ha : FE X .rd a f) (hb : FE X .rd b g) : FE X kd (.BinOp a .FloorDiv b pos) (eBin mDiv f g) := fe_bin op_fdivW (scr_int (C := CDivW) (fun i j h => by
  unfold divOk at h
  simp only [Bool.and_eq_true, decide_eq_true_eq] at h
  exact h) fun _ _ => ⟨rfl, rfl⟩) ha hb
theorem fe_mod (ha : FE X .rd a f) (hb : FE X .rd b g) : FE X kd (.BinOp a .Mod b pos) (eBin mMod f g) := fe_bin op_mod (scr_int (fun i j h => of_decide_eq_true h) fun _ _ => ⟨rfl, rfl⟩) ha hb
theorem fe_pow (ha : FE X .rd a f) (hb : FE X .rd b g) : FE X kd (.BinOp a .Pow b pos) (eBin mPow f g) := fe_bin op_pow (scr_int (C := CPow) (fun i j h => by
  unfold powOk at h
  simp only [Bool.and_eq_true, decide_eq_true_eq] at h
  exact ⟨h.1.1, h.1.2, h.2⟩) fun _ _ => ⟨rfl, rfl⟩) ha hb
theorem fe_xor (ha : FE X .rd a f) (hb : FE X .rd b g) : FE X kd (.BinOp a .BitXor b pos) (eBin mXor f g) := fe_bin op_xor (scr_int0 fun _ _ => ⟨rfl, rfl⟩) ha hb
theorem fe_lt (ha : FE X .rd a f) (hb : FE X .rd b g) : FE X kd (.Compare a [.Lt] [b] pos) (eBin mLt f g) := fe_cmpB op_lt (scr_int0 fun _ _ => ⟨rfl, rfl⟩) (nomark _) ha hb
theorem fe_le (ha : FE X .rd a f) (hb : FE X .rd b g) : FE X kd (.Compare a [.LtE] [b] pos) (eBin mLe f g) := fe_cmpB op_le (scr_int0 fun _ _ => ⟨rfl, rfl⟩) (nomark _) ha hb
theorem fe_gt (ha : FE X .rd a f) (hb : FE X .rd b g) : FE X kd (.Compare a [.Gt] [b] pos) (eBin mGt f g) := fe_cmpB op_gt (scr_int0 fun _ _ => ⟨rfl, rfl⟩) (nomark _) ha hb
theorem fe_ge (ha : FE X .rd a f) (hb : FE X .rd b g) : FE X kd (.Compare a [.GtE] [b] pos) (eBin mGe f g) := fe_cmpB op_ge (scr_int0 fun _ _ => ⟨rfl, rfl⟩) (nomark _) ha hb
theorem ft_lt (ha : FE X .rd a f) (hb : FE X .rd b g) : FT X (.Compare a [.Lt] [b] pos) (qVal (eBin mLt f g)) := ft_cmpB op_lt (scr_int0 fun _ _ => ⟨rfl, rfl⟩) (nomark _) ha hb
theorem ft_le (ha : FE X .rd a f) (hb : FE X .rd b g) : FT X (.Compare a [.LtE] [b] pos) (qVal (eBin mLe f g)) := ft_cmpB op_le (scr_int0 fun _ _ => ⟨rfl, rfl⟩) (nomark _) ha hb
theorem ft_gt (ha : FE X .rd a f) (hb : FE X .rd b g) : FT X (.Compare a [.Gt] [b] pos) (qVal (eBin mGt f g)) := ft_cmpB op_gt (scr_int0 fun _ _ => ⟨rfl, rfl⟩) (nomark _) ha hb
theorem ft_ge (ha : FE X .rd a f) (hb : FE X .rd b g) : FT X (.Compare a [.GtE] [b] pos) (qVal (eBin mGe f g)) := ft_cmpB op_ge (scr_int0 fun _ _ => ⟨rfl, rfl⟩) (nomark _) ha hb

/-! ### == and != of data -/
mutual
def toPy : D → PyData
  | .non => .none
  | .bl b => .bool b
  | .int i => .int i
  | .str x => .str x
  | .tup ds => .tuple (toPyL ds)
  | .lst ds => .list (toPyL ds)
  | .scr ns => .list (ns.map PyData.int)
  | .ob _ _ _ => .dict []
  | .dct _ _ => .dict []
def toPyL : List D → List PyData
  | [] => []
  | d :: ds => toPy d :: toPyL ds
end
mutual
theorem toPy_dp {H : Hp} : ∀ (d : D) (v : V), (toPy d).canLay0 = true → Rep K H d v → Dp K H v (toPy d)
  | .non, v, _, h => by rw [show v = .non from h]; exact .non
  | .bl b, v, _, h => by rw [show v = .bl b from h]; exact .bl b
  | .int i, v, _, h => by rw [show v = .int i from h]; exact .int i
  | .str x, v, _, h => by rw [show v = .str x from h]; exact .str x
  | .tup ds, v, c, ⟨a, xs, e, q, r⟩ => by subst e; exact .tup q (toPyL_dp ds xs c r)
  | .lst ds, v, c, ⟨a, xs, e, q, r⟩ => by subst e; exact .lst (.inl (.inl q)) (toPyL_dp ds xs c r)
  | .scr ns, v, c, ⟨a, e, q⟩ => by
    subst e
    refine .lst q.sq ?_
    clear q c
    induction ns with
    | nil => exact .nil
    | cons n ns ih => exact .cons (.int n) ih
  | .ob _ _ _, v, c, h => by cases c
  | .dct _ _, v, c, h => by cases c
theorem toPyL_dp {H : Hp} : ∀ (ds : List D) (vs : List V), PyData.canLayAll0 (toPyL ds) = true → RepL K H ds vs → DpAll K H vs (toPyL ds)
  | [], vs, _, h => by rw [show vs = [] from h]; exact .nil
  | d :: ds, vs, c, ⟨v, r, e, h1, h2⟩ => by
    subst e
    have c' : ((toPy d).canLay0 && PyData.canLayAll0 (toPyL ds)) = true := c
    have c2 := Bool.and_eq_true_iff.mp c'
    exact .cons (toPy_dp d v c2.1 h1) (toPyL_dp ds r c2.2 h2)
end
def shp (d : D) : Bool := SeqAt.shaped (toPy d)
def deq (x y : D) : Bool := PyData.eqv (toPy x) (toPy y)
def mEq (x y : D) : Option D := if (shp x && shp y) = true then some (.bl (deq x y)) else none
def mNe (x y : D) : Option D := if (shp x && shp y) = true then some (.bl (!deq x y)) else none
theorem scr_eq : ScR K mEq (rEqD K) := fun x y H Q dx dy d rx ry e => by
  unfold mEq at e
  split at e
  · rename_i hs
    have hs := Bool.and_eq_true_iff.mp hs
    cases e
    exact ⟨rfl, fun q => ⟨toPy dx, toPy dy, toPy_dp dx x (SeqAt.canLay_of_shaped hs.1) rx, toPy_dp dy y (SeqAt.canLay_of_shaped hs.2) ry, hs.1, hs.2, q⟩⟩
  · cases e
theorem scr_ne : ScR K mNe (rNeD K) := fun x y H Q dx dy d rx ry e => by
  unfold mNe at e
  split at e
  · rename_i hs
    have hs := Bool.and_eq_true_iff.mp hs
    cases e
    exact ⟨rfl, fun q => ⟨toPy dx, toPy dy, toPy_dp dx x (SeqAt.canLay_of_shaped hs.1) rx, toPy_dp dy y (SeqAt.canLay_of_shaped hs.2) ry, hs.1, hs.2, q⟩⟩
  · cases e
theorem fe_eq (hu : X.A.units + 64 < cLine) (ha : FE X .rd a f) (hb : FE X .rd b g) : FE X kd (.Compare a [.Eq] [b] pos) (eBin mEq f g) := fe_cmpB (op_eqD hu) scr_eq (nomark _) ha hb
theorem fe_ne (hu : X.A.units + 64 < cLine) (ha : FE X .rd a f) (hb : FE X .rd b g) : FE X kd (.Compare a [.NotEq] [b] pos) (eBin mNe f g) := fe_cmpB (op_neD hu) scr_ne (nomark _) ha hb
theorem ft_eq (hu : X.A.units + 64 < cLine) (ha : FE X .rd a f) (hb : FE X .rd b g) : FT X (.Compare a [.Eq] [b] pos) (qVal (eBin mEq f g)) := ft_cmpB (op_eqD hu) scr_eq (nomark _) ha hb
theorem ft_ne (hu : X.A.units + 64 < cLine) (ha : FE X .rd a f) (hb : FE X .rd b g) : FT X (.Compare a [.NotEq] [b] pos) (qVal (eBin mNe f g)) := ft_cmpB (op_neD hu) scr_ne (nomark _) ha hb
/-- is None -/
def isN : D → Bool
  | .non => true
  | _ => false
def mIsN (x y : D) : Option D := match y with
  | .non => some (.bl (isN x))
  | _ => none
def mNotN (x y : D) : Option D := match y with
  | .non => some (.bl (!isN x))
  | _ => none
theorem isN_rep {H : Hp} {d : D} {v : V} (h : Rep K H d v) : decide (v = .non) = isN d := by
  cases d with
  | non => rw [show v = .non from h]; rfl
  | bl b => rw [show v = .bl b from h]; rfl
  | int i => rw [show v = .int i from h]; rfl
  | str x => rw [show v = .str x from h]; rfl
  | tup ds => obtain ⟨a, xs, e, _⟩ := h; rw [e]; rfl
  | lst ds => obtain ⟨a, xs, e, _⟩ := h; rw [e]; rfl
  | scr ns => obtain ⟨a, e, _⟩ := h; rw [e]; rfl
  | ob C nm ds => obtain ⟨a, dx, xs, e, _⟩ := h; rw [e]; rfl
  | dct ks ds => obtain ⟨a, xs, e, _⟩ := h; rw [e]; rfl
theorem scr_isN : ScR K mIsN (fun x y H Q => y = .non ∧ Q (.bl (decide (x = .non))) H) := fun x y H Q dx dy d rx ry e => by
  unfold mIsN at e
  split at e
  · cases e
    exact ⟨rfl, fun q => ⟨ry, by rw [isN_rep rx]; exact q⟩⟩
  · cases e
theorem scr_notN : ScR K mNotN (fun x y H Q => y = .non ∧ Q (.bl (!decide (x = .non))) H) := fun x y H Q dx dy d rx ry e => by
  unfold mNotN at e
  split at e
  · cases e
    exact ⟨rfl, fun q => ⟨ry, by rw [isN_rep rx]; exact q⟩⟩
  · cases e
theorem fe_isN (ha : FE X .rd a f) (hb : FE X .rd b g) : FE X kd (.Compare a [.Is] [b] pos) (eBin mIsN f g) := fe_cmpB op_isN scr_isN (nomark _) ha hb
theorem fe_notN (ha : FE X .rd a f) (hb : FE X .rd b g) : FE X kd (.Compare a [.IsNot] [b] pos) (eBin mNotN f g) := fe_cmpB op_notN scr_notN (nomark _) ha hb
theorem ft_isN (ha : FE X .rd a f) (hb : FE X .rd b g) : FT X (.Compare a [.Is] [b] pos) (qVal (eBin mIsN f g)) := ft_cmpB op_isN scr_isN (nomark _) ha hb
theorem ft_notN (ha : FE X .rd a f) (hb : FE X .rd b g) : FT X (.Compare a [.IsNot] [b] pos) (qVal (eBin mNotN f g)) := ft_cmpB op_notN scr_notN (nomark _) ha hb

/-! ### -x, and, or, not -/
def eNeg (f : EM) : EM := fun st => (f st).bind fun x => match x with
  | .int i => some (.int (-i))
  | _ => none
theorem fe_neg (ha : FE X .rd a f) : FE X kd (.UnaryOp .USub a pos) (eNeg f) := PE.weak (pe_un un_neg ha) fun σ H Q ⟨F, fps, st, d, r, ed, q⟩ => by
  unfold eNeg at ed
  cases ef : f st with
  | none => rw [ef] at ed; cases ed
  | some x =>
    rw [ef] at ed
    cases x with
    | int i =>
      cases ed
      exact ⟨F, fps, st, .int i, r, ef, fun v H1 s1 w => ⟨i, w, q _ H1 s1 (VR.sc (d := .int (-i)) rfl rfl)⟩⟩
    | _ => cases ed
def eAnd (f g : EM) : EM := fun st => (f st).bind fun x => match x with
  | .bl true => g st
  | .bl false => some (.bl false)
  | _ => none
def eOr (f g : EM) : EM := fun st => (f st).bind fun x => match x with
  | .bl true => some (.bl true)
  | .bl false => g st
  | _ => none
def eNot (f : EM) : EM := fun st => (f st).bind fun x => match x with
  | .bl b => some (.bl (!b))
  | _ => none
theorem fe_one {op} (ha : FE X kd a f) : FE X kd (.BoolOp op [a] pos) f := pe_one ha
theorem fe_and {rest : List Expr} (ha : FE X .rd a f) (hb : FE X kd (.BoolOp .And (b :: rest) pos) g) : FE X kd (.BoolOp .And (a :: b :: rest) pos) (eAnd f g) := PE.weak (pe_and ha hb) fun σ H Q ⟨F, fps, st, d, r, ed, q⟩ => by
  unfold eAnd at ed
  cases ef : f st with
  | none => rw [ef] at ed; cases ed
  | some x =>
    rw [ef] at ed
    cases x with
    | bl c =>
      refine ⟨F, fps, st, .bl c, r, ef, fun v H1 s1 w => ⟨c, w, ?_⟩⟩
      cases c with
      | true => exact ⟨F, fps, st, d, r.mono s1, ed, fun u H2 s2 w2 => q u H2 (s1.trans s2) (w2.early s1)⟩
      | false => cases ed; exact q _ H1 s1 (VR.sc (d := .bl false) rfl rfl)
    | _ => cases ed
theorem fe_or {rest : List Expr} (ha : FE X .rd a f) (hb : FE X kd (.BoolOp .Or (b :: rest) pos) g) : FE X kd (.BoolOp .Or (a :: b :: rest) pos) (eOr f g) := PE.weak (pe_or ha hb) fun σ H Q ⟨F, fps, st, d, r, ed, q⟩ => by
  unfold eOr at ed
  cases ef : f st with
  | none => rw [ef] at ed; cases ed
  | some x =>
    rw [ef] at ed
    cases x with
    | bl c =>
      refine ⟨F, fps, st, .bl c, r, ef, fun v H1 s1 w => ⟨c, w, ?_⟩⟩
      cases c with
      | false => exact ⟨F, fps, st, d, r.mono s1, ed, fun u H2 s2 w2 => q u H2 (s1.trans s2) (w2.early s1)⟩
      | true => cases ed; exact q _ H1 s1 (VR.sc (d := .bl true) rfl rfl)
    | _ => cases ed
theorem fe_not (ha : FE X .rd a f) : FE X kd (.UnaryOp .Not a pos) (eNot f) := PE.weak (pe_not ha) fun σ H Q ⟨F, fps, st, d, r, ed, q⟩ => by
  unfold eNot at ed
  cases ef : f st with
  | none => rw [ef] at ed; cases ed
  | some x =>
    rw [ef] at ed
    cases x with
    | bl c =>
      cases ed
      exact ⟨F, fps, st, .bl c, r, ef, fun v H1 s1 w => ⟨c, w, q _ H1 s1 (VR.sc (d := .bl (!c)) rfl rfl)⟩⟩
    | _ => cases ed
def qAnd (f g : TM) : TM := fun st => (f st).bind fun x => if x = true then g st else some false
def qOr (f g : TM) : TM := fun st => (f st).bind fun x => if x = true then some true else g st
def qNot (f : TM) : TM := fun st => (f st).map (!·)
theorem fw_and1 {t : TM} (ha : FT X a t) : FW X (.BoolOp .And [a] pos) t := pw_and1 ha
theorem fw_or1 {t : TM} (ha : FT X a t) : FW X (.BoolOp .Or [a] pos) t := pw_or1 ha
theorem fw_and {t u : TM} {rest : List Expr} (ha : FT X a t) (hb : FW X (.BoolOp .And (b :: rest) pos) u) : FW X (.BoolOp .And (a :: b :: rest) pos) (qAnd t u) := PW.weak (pw_and ha hb) fun σ H Q ⟨F, fps, st, d, r, ed, q⟩ => by
  unfold qAnd at ed
  cases ef : t st with
  | none => rw [ef] at ed; cases ed
  | some x =>
    rw [ef] at ed
    refine ⟨F, fps, st, x, r, ef, fun H1 s1 => ?_⟩
    cases x with
    | true => exact ⟨F, fps, st, d, r.mono s1, ed, fun H2 s2 => q H2 (s1.trans s2)⟩
    | false => cases ed; exact q H1 s1
theorem fw_or {t u : TM} {rest : List Expr} (ha : FT X a t) (hb : FW X (.BoolOp .Or (b :: rest) pos) u) : FW X (.BoolOp .Or (a :: b :: rest) pos) (qOr t u) := PW.weak (pw_or ha hb) fun σ H Q ⟨F, fps, st, d, r, ed, q⟩ => by
  unfold qOr at ed
  cases ef : t st with
  | none => rw [ef] at ed; cases ed
  | some x =>
    rw [ef] at ed
    refine ⟨F, fps, st, x, r, ef, fun H1 s1 => ?_⟩
    cases x with
    | false => exact ⟨F, fps, st, d, r.mono s1, ed, fun H2 s2 => q H2 (s1.trans s2)⟩
    | true => cases ed; exact q H1 s1
theorem ft_not {t : TM} (ha : FT X a t) : FT X (.UnaryOp .Not a pos) (qNot t) := PT.weak (pt_not ha) fun σ H Q ⟨F, fps, st, d, r, ed, q⟩ => by
  unfold qNot at ed
  cases ef : t st with
  | none => rw [ef] at ed; cases ed
  | some x =>
    rw [ef] at ed
    cases ed
    exact ⟨F, fps, st, x, r, ef, fun H1 s1 => q H1 s1⟩
def eIf (c : TM) (f g : EM) : EM := fun st => (c st).bind fun x => if x = true then f st else g st
theorem fe_if {t : TM} (hc : FT X c t) (ha : FE X kd a f) (hb : FE X kd b g) : FE X kd (.IfExp c a b pos) (eIf t f g) := PE.weak (pe_ifExp hc ha hb) fun σ H Q ⟨F, fps, st, d, r, ed, q⟩ => by
  unfold eIf at ed
  cases ef : t st with
  | none => rw [ef] at ed; cases ed
  | some x =>
    rw [ef] at ed
    refine ⟨F, fps, st, x, r, ef, fun H1 s1 => ?_⟩
    cases x with
    | true => exact ⟨F, fps, st, d, r.mono s1, ed, fun u H2 s2 w2 => q u H2 (s1.trans s2) (w2.early s1)⟩
    | false => exact ⟨F, fps, st, d, r.mono s1, ed, fun u H2 s2 w2 => q u H2 (s1.trans s2) (w2.early s1)⟩
end
end FL

namespace FL
open PySem PySem.Spec PyProof.Rows L2

section
variable {X : Cx} {kd kd1 kd2 : Kd} {e a b c : Expr} {es : List Expr} {f g h : EM} {pos : Pos} {K : PySem.W.Frag}

/-! ### argument lists, displays -/
def aNil : AM := fun _ => some []
def aCons (f : EM) (g : AM) : AM := fun st => (f st).bind fun x => (g st).bind fun xs => some (x :: xs)
theorem fa_nil : FA X kd [] aNil := PA.weak pa_nil fun σ H Q ⟨F, fps, st, d, r, ed, q⟩ => by
  cases ed
  exact q [] H (Same.refl H) VRL.nil
theorem fa_cons {g : AM} (ha : FE X kd e f) (hr : FA X kd es g) (hs : starEach (e :: es) X.env = (false, eval e X.env) :: starEach es X.env := by rfl) : FA X kd (e :: es) (aCons f g) := PA.weak (pa_cons ha hr hs) fun σ H Q ⟨F, fps, st, d, r, ed, q⟩ => by
  unfold aCons at ed
  obtain ⟨x, xs, e1, e2, e3⟩ := bind2 ed
  cases e3
  refine ⟨F, fps, st, x, r, e1, fun v H1 s1 w1 => ?_⟩
  obtain ⟨fps', r', w'⟩ := VR.seq r s1 w1
  exact ⟨F, fps', st, xs, r', e2, fun vs H2 s2 w2 => q (v :: vs) H2 (s1.trans s2) (w' H2 xs vs s2 w2)⟩
def lenOk (n : Nat) : Bool := decide (n ≤ 16777216)
theorem lenOk_le {n : Nat} (h : lenOk n = true) : n ≤ sizeLine := by
  have h := of_decide_eq_true h
  rw [sizeLine_eq]; exact h
def eTup (f : AM) : EM := fun st => (f st).bind fun ds => if lenOk ds.length = true then some (.tup ds) else none
def eLst (f : AM) : EM := fun st => (f st).bind fun ds => if lenOk ds.length = true then some (.lst ds) else none
theorem len_bind {m : List D → D} {o : Option (List D)} {d : D} (h : (o.bind fun ds => if lenOk ds.length = true then some (m ds) else none) = some d) : ∃ ds, o = some ds ∧ lenOk ds.length = true ∧ d = m ds := by
  cases o with
  | none => cases h
  | some ds =>
    have h' : (if lenOk ds.length = true then some (m ds) else none) = some d := h
    split at h'
    · cases h'; exact ⟨ds, rfl, by assumption, rfl⟩
    · cases h'
theorem same_upd {H : Hp} {p : Addr} {o : HO} (h : H p = none) : Same H (upd H p o) := fun b x e => by
  rw [upd_ne (ne_of_none e h)]
  exact e
theorem VRL.length {fps : Fps} {H H' : Hp} {ds : List D} {vs : List V} (h : VRL K fps H H' kd ds vs) : vs.length = ds.length := h.rd.length
/-- a tuple laid of values -/
theorem VR.newT {F : Fr} {fps : Fps} {σ : L2.St} {st : Sl} {H H1 : Hp} {ds : List D} {vs : List V} {p : Addr} (r : StR K F fps σ H st) (s1 : Same H H1) (w : VRL K fps H H1 kd ds vs) (np : H1 p = none) : VR K fps H (upd H1 p (.tup vs)) kd (.tup ds) (.ref p) := by
  cases kd with
  | rd => exact ⟨p, vs, rfl, .inl (.inl upd_same), RepL.mono (same_upd np) ds vs w⟩
  | ow k =>
    obtain ⟨fp, n, fr, w⟩ := w
    have hp : ∀ a, own2 fps fp a → a ≠ p := fun a z e => by
      subst e
      rcases z with m | z
      · obtain ⟨o, e, _⟩ := OwnL.isLst ds k vs fp w _ m
        rw [np] at e; cases e
      · exact (r.mono s1).there z np
    refine ⟨fp, n, fr, p, vs, rfl, .inl (.inl (hideP_some.mpr ⟨fun z => hp p z rfl, upd_same⟩)), OwnL.mono (hideP_mono (same_upd np) fun _ _ _ h => h) ds k vs fp (fun a m => upd_ne (hp a (.inl m))) w⟩
theorem fe_tup {es : List Expr} {f : AM} {x1} (ha : FA X kd es f) : FE X kd (.Tuple es x1 pos) (eTup f) := PE.weak (pe_tup ha) fun σ H Q ⟨F, fps, st, d, r, ed, q⟩ => by
  obtain ⟨ds, e1, e2, rfl⟩ := len_bind ed
  refine ⟨F, fps, st, ds, r, e1, fun vs H1 s1 w => ⟨by rw [VRL.length w]; exact lenOk_le e2, fun p np => q _ _ (s1.trans (same_upd np)) (VR.newT r s1 w np)⟩⟩
def Kd.up : Kd → Kd
  | .rd => .rd
  | .ow k => .ow (k + 1)
/-- a list laid of values -/
theorem VR.newL {F : Fr} {fps : Fps} {σ : L2.St} {st : Sl} {H H1 : Hp} {ds : List D} {vs : List V} {p : Addr} (r : StR K F fps σ H st) (s1 : Same H H1) (w : VRL K fps H H1 kd ds vs) (np : H1 p = none) : VR K fps H (upd H1 p (.lst vs)) kd.up (.lst ds) (.ref p) := by
  cases kd with
  | rd => exact ⟨p, vs, rfl, upd_same, RepL.mono (same_upd np) ds vs w⟩
  | ow k =>
    obtain ⟨fp, n, fr, w⟩ := w
    have hp : ∀ a, own2 fps fp a → a ≠ p := fun a z e => by
      subst e
      rcases z with m | z
      · obtain ⟨o, e, _⟩ := OwnL.isLst ds k vs fp w _ m
        rw [np] at e; cases e
      · exact (r.mono s1).there z np
    refine ⟨p :: fp, List.nodup_cons.mpr ⟨fun m => hp p (.inl m) rfl, n⟩, fun a m => ?_, p, vs, fp, rfl, upd_same, rfl, OwnL.mono (hideP_mono (same_upd np) fun a o e h z => ?_) ds k vs fp (fun a m => upd_ne (hp a (.inl m))) w⟩
    · rcases List.mem_cons.mp m with rfl | m
      · exact s1.free np
      · exact fr a m
    · rcases z with m | z
      · rcases List.mem_cons.mp m with rfl | m
        · rw [np] at e; cases e
        · exact h (.inl m)
      · exact h (.inr z)
theorem fe_lst {es : List Expr} {f : AM} (ha : FA X kd es f) : FE X kd.up (.List es pos) (eLst f) := PE.weak (pe_lst ha) fun σ H Q ⟨F, fps, st, d, r, ed, q⟩ => by
  obtain ⟨ds, e1, e2, rfl⟩ := len_bind ed
  refine ⟨F, fps, st, ds, r, e1, fun vs H1 s1 w => ⟨by rw [VRL.length w]; exact lenOk_le e2, fun p np => q _ _ (s1.trans (same_upd np)) (VR.newL r s1 w np)⟩⟩

/-! ### indices -/
def mIx : D → D → Option D
  | .lst ds, .int i => L2.atI ds i
  | .tup ds, .int i => L2.atI ds i
  | .scr ns, .int i => (L2.atI ns i).map D.int
  | .str z, .int i => if lenOk z.length = true then (L2.atI z.cps.toList i).map fun c => .str ⟨#[c]⟩ else none
  | _, _ => none
theorem atI_rep {H : Hp} {ds : List D} {vs : List V} {i : Int} {d : D} (r : RepL K H ds vs) (h : L2.atI ds i = some d) : ∃ v, L2.atI vs i = some v ∧ Rep K H d v := by
  unfold L2.atI at h ⊢
  rw [r.length]
  cases e : L2.ixN ds.length i with
  | none => rw [e] at h; cases h
  | some j =>
    rw [e] at h
    exact r.get h
theorem atI_map {α β : Type} {m : α → β} {ns : List α} {i : Int} : L2.atI (ns.map m) i = (L2.atI ns i).map m := by
  unfold L2.atI
  rw [List.length_map]
  cases L2.ixN ns.length i with
  | none => rfl
  | some j => exact List.getElem?_map
/-- what a read gives, in any part of the heap in which the whole is read -/
theorem mIx_rep {F H : Hp} (sF : Same F H) {x y : D} {vx vy : V} {d : D} (rx : Rep K F x vx) (ry : Rep K H y vy) (e : mIx x y = some d) : ∃ v, Rep K F d v ∧ ∀ Q : VK, Q v H → rIx K vx vy H Q := by
  unfold mIx at e
  split at e
  · rename_i ds i
    obtain ⟨a, xs, e1, e2, e3⟩ := rx
    obtain ⟨v, h1, h2⟩ := atI_rep e3 e
    exact ⟨v, h2, fun Q q => .inl ⟨a, xs, i, v, e1, ry, .inl (.inl (sF _ _ e2)), h1, q⟩⟩
  · rename_i ds i
    obtain ⟨a, xs, e1, e2, e3⟩ := rx
    obtain ⟨v, h1, h2⟩ := atI_rep e3 e
    exact ⟨v, h2, fun Q q => .inr (.inl ⟨a, xs, i, v, e1, ry, Same.sqt sF e2, h1, q⟩)⟩
  · rename_i ns i
    obtain ⟨a, e1, e2⟩ := rx
    cases en : L2.atI ns i with
    | none => rw [en] at e; cases e
    | some n =>
      rw [en] at e; cases e
      exact ⟨.int n, rfl, fun Q q => .inl ⟨a, ns.map V.int, i, .int n, e1, ry, (sF.sqf e2).sq, by rw [atI_map, en]; rfl, q⟩⟩
  · rename_i z i
    split at e
    · rename_i hl
      cases ec : L2.atI z.cps.toList i with
      | none => rw [ec] at e; cases e
      | some c =>
        rw [ec] at e; cases e
        exact ⟨.str ⟨#[c]⟩, rfl, fun Q q => .inr (.inr ⟨z, i, c, rx, ry, lenOk_le hl, ec, q⟩)⟩
    · cases e
  · cases e
theorem fe_ix (ha : FE X .rd a f) (hb : FE X .rd b g) (hs : PlainIx b := by intro _ _; rfl) : FE X .rd (.Subscript a b pos) (eBin mIx f g) := PE.weak (pe_ix ix_seq ha hb hs) fun σ H Q ⟨F, fps, st, d, r, ed, q⟩ => by
  obtain ⟨x, y, e1, e2, e3⟩ := bind2 ed
  refine ⟨F, fps, st, x, r, e1, fun v H1 s1 w1 => ⟨F, fps, st, y, r.mono s1, e2, fun u H2 s2 w2 => ?_⟩⟩
  obtain ⟨w, h1, h2⟩ := mIx_rep (Same.refl H2) (Rep.mono s2 x v w1) w2 e3
  exact h2 Q (q w H2 (s1.trans s2) h1)
theorem fe_ixS (ha : FE X (.ow 0) a f) (hb : FE X .rd b g) (hs : PlainIx b := by intro _ _; rfl) : FE X (.ow 0) (.Subscript a b pos) (eBin mIx f g) := PE.weak (pe_ix ix_seq ha hb hs) fun σ H Q ⟨F, fps, st, d, r, ed, q⟩ => by
  obtain ⟨x, y, e1, e2, e3⟩ := bind2 ed
  refine ⟨F, fps, st, x, r, e1, fun v H1 s1 w1 => ⟨F, fps, st, y, r.mono s1, e2, fun u H2 s2 w2 => ?_⟩⟩
  have w1 := VR.ow0 w1
  obtain ⟨w, h1, h2⟩ := mIx_rep hideP_same (Rep.mono (hideP_mono s2 fun _ _ _ h => h) x v w1) w2 e3
  exact h2 Q (q w H2 (s1.trans s2) (VR.mk0 h1))

/-! ### slices -/
abbrev OM := Sl → Option (Option Int)
def tFO (K : PySem.W.Frag) (f : OM) : TO := fun σ H Q => ∃ F fps st o, StR K F fps σ H st ∧ f st = some o ∧ ∀ H', Same H H' → Q o H'
abbrev FO (X : Cx) (e : Option Expr) (f : OM) : Prop := PO X e (tFO X.K f)
theorem PO.weak {X : Cx} {e : Option Expr} {t t' : TO} (h : PO X e t) (hw : ∀ σ H Q, t' σ H Q → t σ H Q) : PO X e t' := ⟨fun pins s σ H Q I q => h.run pins s σ H Q I (hw σ H Q q)⟩
def oNone : OM := fun _ => some none
def oSome (f : EM) : OM := fun st => (f st).bind fun x => match x with
  | .int i => some (some i)
  | _ => none
theorem fo_none : FO X none oNone := PO.weak po_none fun σ H Q ⟨F, fps, st, d, r, ed, q⟩ => by
  cases ed
  exact q H (Same.refl H)
theorem fo_some (he : FE X .rd e f) : FO X (some e) (oSome f) := PO.weak (po_some he) fun σ H Q ⟨F, fps, st, d, r, ed, q⟩ => by
  unfold oSome at ed
  cases ef : f st with
  | none => rw [ef] at ed; cases ed
  | some x =>
    rw [ef] at ed
    cases x with
    | int i => cases ed; exact ⟨F, fps, st, .int i, r, ef, fun v H1 s1 w => ⟨i, w, q H1 s1⟩⟩
    | _ => cases ed
def cutG {α : Type} (xs : List α) (lo hi : Option Int) : List α := (xs.drop (HT.sIx xs.length 0 lo)).take (HT.sIx xs.length xs.length hi - HT.sIx xs.length 0 lo)
def eSl (m : D → Option Int → Option Int → Option D) (f : EM) (lo hi : OM) : EM := fun st => (f st).bind fun x => (lo st).bind fun l => (hi st).bind fun u => m x l u
theorem bind3 {α β γ δ : Type} {o : Option α} {p : Option β} {s : Option γ} {m : α → β → γ → Option δ} {d : δ} (h : (o.bind fun x => p.bind fun y => s.bind fun z => m x y z) = some d) : ∃ x y z, o = some x ∧ p = some y ∧ s = some z ∧ m x y z = some d := by
  cases o with
  | none => cases h
  | some x =>
    cases p with
    | none => cases h
    | some y =>
      cases s with
      | none => cases h
      | some z => exact ⟨x, y, z, rfl, rfl, rfl, h⟩
def mSlL : D → Option Int → Option Int → Option D
  | .lst ds, lo, hi => some (.lst (cutG ds lo hi))
  | .scr ns, lo, hi => some (.lst ((cutG ns lo hi).map D.int))
  | _, _, _ => none
/-- .. whose items have no lists -/
def mSlF : D → Option Int → Option Int → Option D
  | .lst ds, lo, hi => if fullL (cutG ds lo hi) 0 = true then some (.lst (cutG ds lo hi)) else none
  | .scr ns, lo, hi => some (.lst ((cutG ns lo hi).map D.int))
  | _, _, _ => none
def mSlT : D → Option Int → Option Int → Option D
  | .tup ds, lo, hi => if HT.sIx ds.length 0 lo = 0 ∧ HT.sIx ds.length ds.length hi = ds.length then none else some (.tup (cutG ds lo hi))
  | _, _, _ => none
theorem cutG_map {α β : Type} {m : α → β} {ns : List α} {lo hi : Option Int} : cutG (ns.map m) lo hi = (cutG ns lo hi).map m := by
  unfold cutG
  rw [List.length_map, List.map_take, List.map_drop]
theorem RepL.cut {H : Hp} {ds : List D} {vs : List V} (r : RepL K H ds vs) (lo hi : Option Int) : RepL K H (cutG ds lo hi) (cutV vs lo hi) := by
  unfold cutG cutV
  rw [r.length]
  exact RepL.take _ (RepL.drop _ r)
theorem fullL_ints : ∀ (ns : List Int) (k : Nat), fullL (ns.map D.int) k = true
  | [], _ => rfl
  | _ :: ns, k => fullL_ints ns k
/-- a new list of shared items; of items without lists -/
theorem VR.newS {F : Fr} {fps : Fps} {σ : L2.St} {st : Sl} {H H1 : Hp} {ds : List D} {vs : List V} {p : Addr} (r : StR K F fps σ H st) (s1 : Same H H1) (w : RepL K (hideP H1 (own fps)) ds vs) (np : H1 p = none) : VR K fps H (upd H1 p (.lst vs)) (.ow 1) (.lst ds) (.ref p) :=
  VR.newL (kd := .ow 0) r s1 ⟨[], List.nodup_nil, fun a m => (by cases m), OwnL.shared ds vs (RepL.mono (hideP_mono (Same.refl _) fun a o _ h z => h (z.resolve_left fun m => by cases m)) ds vs w)⟩ np
theorem VR.newF {F : Fr} {fps : Fps} {σ : L2.St} {st : Sl} {H H1 : Hp} {ds : List D} {vs : List V} {p : Addr} (r : StR K F fps σ H st) (s1 : Same H H1) (w : RepL K H1 ds vs) (fl : fullL ds 0 = true) (np : H1 p = none) : VR K fps H (upd H1 p (.lst vs)) (.ow 1) (.lst ds) (.ref p) :=
  VR.newS r s1 (RepL.flat (r.mono s1).keeps ds vs fl w) np
theorem tF_sl {r : V → Option Int → Option Int → Hp → VK → Prop} {m : D → Option Int → Option Int → Option D} {lo hi : OM} {σ : L2.St} {H : Hp} {Q : VK}
    (hr : ∀ F fps st x v l u d H2, StR K F fps σ H st → Same H H2 → VR K fps H H2 kd1 x v → m x l u = some d → (∀ w H', Same H2 H' → VR K fps H H' kd d w → Q w H') → r v l u H2 Q)
    (h : tF K kd (eSl m f lo hi) σ H Q) : tSl r (tF K kd1 f) (tFO K lo) (tFO K hi) σ H Q := by
  obtain ⟨F, fps, st, d, rr, ed, q⟩ := h
  obtain ⟨x, l, u, e1, e2, e3, e4⟩ := bind3 ed
  exact ⟨F, fps, st, x, rr, e1, fun v H1 s1 w1 => ⟨F, fps, st, l, rr.mono s1, e2, fun H2 s2 => ⟨F, fps, st, u, rr.mono (s1.trans s2), e3, fun H3 s3 =>
    hr F fps st x v l u d H3 rr (s1.trans (s2.trans s3)) (w1.grow (s2.trans s3)) e4 fun w H' s' w' => q w H' ((s1.trans (s2.trans s3)).trans s') w'⟩⟩⟩
variable {lo hi : Option Expr} {fl fh : OM} {p2 : Pos}
theorem fe_sl (he : FE X .rd e f) (hl : FO X lo fl) (hh : FO X hi fh) : FE X .rd (.Subscript e (.Slice lo hi none p2) pos) (eSl mSlL f fl fh) := PE.weak (pe_slice sl_list he hl hh) fun σ H Q => tF_sl fun F fps st x v l u d H2 r s2 w e q => by
  unfold mSlL at e
  split at e
  · cases e
    obtain ⟨a, xs, e1, e2, e3⟩ := w
    exact ⟨a, xs, e1, .inl (.inl e2), fun p np => q _ _ (same_upd np) (VR.newL (kd := .rd) r s2 (e3.cut l u) np)⟩
  · cases e
    obtain ⟨a, e1, e2⟩ := w
    refine ⟨a, _, e1, e2.sq, fun p np => q _ _ (same_upd np) (VR.newL (kd := .rd) r s2 ?_ np)⟩
    rw [show cutV (List.map V.int _) l u = (cutG _ l u).map V.int from cutG_map]
    exact RepL.intsI _
  · cases e
theorem fe_slF (he : FE X .rd e f) (hl : FO X lo fl) (hh : FO X hi fh) : FE X (.ow 1) (.Subscript e (.Slice lo hi none p2) pos) (eSl mSlF f fl fh) := PE.weak (pe_slice sl_list he hl hh) fun σ H Q => tF_sl fun F fps st x v l u d H2 r s2 w e q => by
  unfold mSlF at e
  split at e
  · split at e
    · cases e
      obtain ⟨a, xs, e1, e2, e3⟩ := w
      exact ⟨a, xs, e1, .inl (.inl e2), fun p np => q _ _ (same_upd np) (VR.newF r s2 (e3.cut l u) (by assumption) np)⟩
    · cases e
  · cases e
    obtain ⟨a, e1, e2⟩ := w
    refine ⟨a, _, e1, e2.sq, fun p np => q _ _ (same_upd np) (VR.newF r s2 ?_ (fullL_ints _ _) np)⟩
    rw [show cutV (List.map V.int _) l u = (cutG _ l u).map V.int from cutG_map]
    exact RepL.intsI _
  · cases e
theorem fe_slS (he : FE X (.ow 0) e f) (hl : FO X lo fl) (hh : FO X hi fh) : FE X (.ow 1) (.Subscript e (.Slice lo hi none p2) pos) (eSl mSlL f fl fh) := PE.weak (pe_slice sl_list he hl hh) fun σ H Q => tF_sl fun F fps st x v l u d H2 r s2 w e q => by
  have w := VR.ow0 w
  unfold mSlL at e
  split at e
  · cases e
    obtain ⟨a, xs, e1, e2, e3⟩ := w
    exact ⟨a, xs, e1, .inl (.inl (hideP_same _ _ e2)), fun p np => q _ _ (same_upd np) (VR.newS r s2 (e3.cut l u) np)⟩
  · cases e
    obtain ⟨a, e1, e2⟩ := w
    refine ⟨a, _, e1, (hideP_same.sqf e2).sq, fun p np => q _ _ (same_upd np) (VR.newF r s2 ?_ (fullL_ints _ _) np)⟩
    rw [show cutV (List.map V.int _) l u = (cutG _ l u).map V.int from cutG_map]
    exact RepL.intsI _
  · cases e
/-- t[lo:hi] of a tuple -/
theorem fe_slT (he : FE X .rd e f) (hl : FO X lo fl) (hh : FO X hi fh) : FE X .rd (.Subscript e (.Slice lo hi none p2) pos) (eSl mSlT f fl fh) := PE.weak (pe_slice sl_tup he hl hh) fun σ H Q => tF_sl fun F fps st x v l u d H2 r s2 w e q => by
  unfold mSlT at e
  split at e
  · split at e
    · cases e
    · rename_i hn
      cases e
      obtain ⟨a, xs, e1, e2, e3⟩ := w
      exact ⟨a, xs, e1, e2, by rw [e3.length]; exact hn, fun p np => q _ _ (same_upd np) (VR.newT (kd := .rd) r s2 (e3.cut l u) np)⟩
  · cases e

/-! ### built-in calls -/
def eCB (m : List D → Option D) (f : AM) : EM := fun st => (f st).bind m
/-- a built-in whose answer is a scalar -/
def ScC (K : PySem.W.Frag) (m : List D → Option D) (r : List V → Hp → VK → Prop) : Prop := ∀ (xs : List V) (H : Hp) (Q : VK) (ds : List D) (d : D), RepL K H ds xs → m ds = some d → sc d = true ∧ (Q (scV d) H → r xs H Q)
theorem tF_cb {m : List D → Option D} {r : List V → Hp → VK → Prop} {f : AM} (hr : ScC K m r) {σ : L2.St} {H : Hp} {Q : VK} (h : tF K kd (eCB m f) σ H Q) : tCB r (tFA K .rd f) σ H Q := by
  obtain ⟨F, fps, st, d, rr, ed, q⟩ := h
  unfold eCB at ed
  cases ef : f st with
  | none => rw [ef] at ed; cases ed
  | some ds =>
    rw [ef] at ed
    refine ⟨F, fps, st, ds, rr, ef, fun vs H1 s1 w => ?_⟩
    obtain ⟨h1, h2⟩ := hr vs H1 Q ds d w ed
    exact h2 (q _ H1 s1 (VR.sc h1 rfl))
theorem RepL.one_inv {H : Hp} {d : D} {vs : List V} (h : RepL K H [d] vs) : ∃ v, vs = [v] ∧ Rep K H d v := by
  obtain ⟨v, r, e, h1, h2⟩ := h
  rw [show r = [] from h2] at e
  exact ⟨v, e, h1⟩
theorem RepL.two_inv {H : Hp} {d d' : D} {vs : List V} (h : RepL K H [d, d'] vs) : ∃ v v', vs = [v, v'] ∧ Rep K H d v ∧ Rep K H d' v' := by
  obtain ⟨v, r, e, h1, h2⟩ := h
  obtain ⟨v', e', h3⟩ := h2.one_inv
  subst e'
  exact ⟨v, v', e, h1, h3⟩
def mLen : List D → Option D
  | [.lst ds] => some (.int ds.length)
  | [.tup ds] => some (.int ds.length)
  | [.scr ns] => some (.int ns.length)
  | [.str z] => if lenOk z.length = true then some (.int z.length) else none
  | _ => none
theorem scc_len : ScC K mLen (fun xs H Q => ∃ x n, xs = [x] ∧ LenV K x H n ∧ Q (.int n) H) := fun xs H Q ds d r e => by
  unfold mLen at e
  split at e
  · cases e
    obtain ⟨v, ev, a, ys, e1, e2, e3⟩ := r.one_inv
    subst e1
    refine ⟨rfl, fun q => ⟨_, _, ev, .inl ⟨ys, .inl (.inl e2), ?_⟩, q⟩⟩
    exact e3.length.symm
  · cases e
    obtain ⟨v, ev, a, ys, e1, e2, e3⟩ := r.one_inv
    subst e1
    refine ⟨rfl, fun q => ⟨_, _, ev, .inr ⟨ys, e2, ?_⟩, q⟩⟩
    exact e3.length.symm
  · cases e
    obtain ⟨v, ev, a, e1, e2⟩ := r.one_inv
    subst e1
    refine ⟨rfl, fun q => ⟨_, _, ev, .inl ⟨_, e2.sq, ?_⟩, q⟩⟩
    exact (List.length_map _).symm
  · split at e
    · cases e
      obtain ⟨v, ev, e1⟩ := r.one_inv
      have e1 : v = .str _ := e1
      subst e1
      exact ⟨rfl, fun q => ⟨_, _, ev, ⟨lenOk_le (by assumption), rfl⟩, q⟩⟩
    · cases e
  · cases e
variable {p : Pos} {x : Str} {fa : AM}
theorem fe_len (hg : Gl X "len") (hm : X.mg "len" = none) (ha : FA X .rd (e :: es) fa) (he : starEach (e :: es) X.env = (false, eval e X.env) :: starEach es X.env := by rfl) (hpl : (backTo pos (starEach es X.env)).any (·.1) = false := by rfl) :
    FE X kd (.Call (.Name "len" p) (e :: es) [] pos) (eCB mLen fa) := PE.weak (pe_callB call_len hg hm PySem.boot_len ha (by decide) (by decide) he hpl) fun _ _ _ => tF_cb scc_len
def tyD : D → Option String
  | .non => some "NoneType"
  | .bl _ => some "bool"
  | .int _ => some "int"
  | .str _ => some "str"
  | .tup _ => some "tuple"
  | .lst _ => some "list"
  | .scr _ => some "list"
  | .dct _ _ => some "dict"
  | .ob _ _ _ => none
theorem tyD_ty {H : Hp} {d : D} {v : V} {t : String} (h : Rep K H d v) (e : tyD d = some t) : TyX K H v (.type t) := by
  cases d with
  | non => cases e; rw [show v = .non from h]; exact .base .non
  | bl b => cases e; rw [show v = .bl b from h]; exact .base (.bl b)
  | int i => cases e; rw [show v = .int i from h]; exact .base (.int i)
  | str x => cases e; rw [show v = .str x from h]; exact .base (.str x)
  | tup ds =>
    cases e
    obtain ⟨a, xs, e, q, _⟩ := h
    subst e
    rcases q with (q | ⟨o, q⟩) | ⟨o, its, n, q, hc, _⟩
    · exact .base (.tup q)
    · exact .fTuple q
    · exact .kTuple q hc
  | lst ds => cases e; obtain ⟨a, xs, e, q, _⟩ := h; subst e; exact .base (.lst q)
  | scr ns =>
    cases e
    obtain ⟨a, e, q⟩ := h
    subst e
    rcases q with ⟨o, q⟩ | ⟨o, its, n, q, hc, _⟩
    · exact .base (.frz q)
    · exact .kList q hc
  | ob C nm ds => cases e
  | dct ks ds => cases e; obtain ⟨a, xs, e, q, _⟩ := h; subst e; exact .base (.dK q)
/-- isinstance(x, T), T a built-in class -/
def eIsi (T : String) (f : EM) : EM := fun st => (f st).bind fun d => (tyD d).bind fun t => (kitB t T).map D.bl
theorem fe_isi {T : String} {pT : Pos} {y : Str} (hg : Gl X "isinstance") (hm : X.mg "isinstance" = none) (hy : PE X (.Name y pT) (tC (.ty T))) (ha : FE X .rd e f)
    (he : starEach [e, .Name y pT] X.env = (false, eval e X.env) :: starEach [.Name y pT] X.env := by rfl) (he2 : starEach [.Name y pT] X.env = (false, eval (.Name y pT) X.env) :: starEach [] X.env := by rfl) (hpl : (backTo pos (starEach [.Name y pT] X.env)).any (·.1) = false := by rfl) :
    FE X kd (.Call (.Name "isinstance" p) [e, .Name y pT] [] pos) (eIsi T f) := PE.weak (pe_callB call_isi hg hm (by decide +kernel) (pa_cons ha (pa_cons hy pa_nil he2) he) (by decide) (by decide) he hpl) fun σ H Q ⟨F, fps, st, d, r, ed, q⟩ => by
  unfold eIsi at ed
  cases ef : f st with
  | none => rw [ef] at ed; cases ed
  | some x =>
    rw [ef] at ed
    have ed : ((tyD x).bind fun t => (kitB t T).map D.bl) = some d := ed
    cases et : tyD x with
    | none => rw [et] at ed; cases ed
    | some t =>
      rw [et] at ed
      have ed : (kitB t T).map D.bl = some d := ed
      cases ek : kitB t T with
      | none => rw [ek] at ed; cases ed
      | some b =>
        rw [ek] at ed; cases ed
        exact ⟨F, fps, st, x, r, ef, fun v H1 s1 w => ⟨v, .ty T, .type t, .type T, b, rfl, .ty T, tyD_ty w et, kit_ty ek, q _ H1 s1 (VR.sc (d := .bl b) rfl rfl)⟩⟩
def eB (m : D → Option D) (f : EM) : EM := fun st => (f st).bind m
/-- list(x) -/
def mList : List D → Option D
  | [.lst ds] => some (.lst ds)
  | [.tup ds] => some (.lst ds)
  | [.scr ns] => some (.lst (ns.map D.int))
  | _ => none
def mListS (d : D) : Option D := mList [d]
def chkL : D → Option D
  | .lst ds => if fullL ds 0 = true then some (.lst ds) else none
  | _ => none
def mListF (d : D) : Option D := (mList [d]).bind chkL
theorem seq_of {F H : Hp} (sF : Same F H) {d d' : D} {v : V} (h : Rep K F d v) (e : mList [d] = some d') : ∃ p ys ds, v = .ref p ∧ (SqL K H p ys ∨ SqT K H p ys) ∧ d' = .lst ds ∧ RepL K F ds ys := by
  unfold mList at e
  split at e
  · rename_i h'; cases h'; cases e
    obtain ⟨a, xs, e, q, r⟩ := h
    exact ⟨a, xs, _, e, .inl (.inl (.inl (sF _ _ q))), rfl, r⟩
  · rename_i h'; cases h'; cases e
    obtain ⟨a, xs, e, q, r⟩ := h
    exact ⟨a, xs, _, e, .inr (Same.sqt sF q), rfl, r⟩
  · rename_i h'; cases h'; cases e
    obtain ⟨a, e, q⟩ := h
    exact ⟨a, _, _, e, .inl (sF.sqf q).sq, rfl, RepL.intsI _⟩
  · cases e
theorem fe_list (hg : Gl X "list") (hm : X.mg "list" = none) (ha : FE X .rd e f) (he : starEach [e] X.env = (false, eval e X.env) :: starEach [] X.env := by rfl) :
    FE X (.ow 1) (.Call (.Name "list" p) [e] [] pos) (eB mListF f) := PE.weak (pe_callTy call_list_of hg hm (by decide +kernel) (pa_cons ha pa_nil he) (by decide) (by decide) he rfl) fun σ H Q ⟨F, fps, st, d, r, ed, q⟩ => by
  unfold eB at ed
  cases ef : f st with
  | none => rw [ef] at ed; cases ed
  | some x =>
    rw [ef] at ed
    have ed : (mList [x]).bind chkL = some d := ed
    cases el : mList [x] with
    | none => rw [el] at ed; cases ed
    | some y =>
      rw [el] at ed
      refine ⟨F, fps, st, x, r, ef, fun v H1 s1 w => ?_⟩
      obtain ⟨p, ys, ds, e1, e2, e3, e4⟩ := seq_of (Same.refl H1) w el
      subst e3
      have ed : (if fullL ds 0 = true then some (D.lst ds) else none) = some d := ed
      split at ed
      · cases ed
        exact ⟨p, ys, by rw [e1], e2, fun l nl => q _ _ (s1.trans (same_upd nl)) (VR.newF r s1 e4 (by assumption) nl)⟩
      · cases ed
theorem fe_listS (hg : Gl X "list") (hm : X.mg "list" = none) (ha : FE X (.ow 0) e f) (he : starEach [e] X.env = (false, eval e X.env) :: starEach [] X.env := by rfl) :
    FE X (.ow 1) (.Call (.Name "list" p) [e] [] pos) (eB mListS f) := PE.weak (pe_callTy call_list_of hg hm (by decide +kernel) (pa_cons ha pa_nil he) (by decide) (by decide) he rfl) fun σ H Q ⟨F, fps, st, d, r, ed, q⟩ => by
  unfold eB at ed
  cases ef : f st with
  | none => rw [ef] at ed; cases ed
  | some x =>
    rw [ef] at ed
    refine ⟨F, fps, st, x, r, ef, fun v H1 s1 w => ?_⟩
    obtain ⟨p, ys, ds, e1, e2, e3, e4⟩ := seq_of hideP_same (VR.ow0 w) ed
    subst e3
    exact ⟨p, ys, by rw [e1], e2, fun l nl => q _ _ (s1.trans (same_upd nl)) (VR.newS r s1 e4 nl)⟩
/-- tuple(xs) of a list -/
def mTuple : D → Option D
  | .lst ds => some (.tup ds)
  | _ => none
theorem fe_tuple (hg : Gl X "tuple") (hm : X.mg "tuple" = none) (ha : FE X .rd e f) (he : starEach [e] X.env = (false, eval e X.env) :: starEach [] X.env := by rfl) :
    FE X .rd (.Call (.Name "tuple" p) [e] [] pos) (eB mTuple f) := PE.weak (pe_callTy call_tuple_of hg hm (by decide +kernel) (pa_cons ha pa_nil he) (by decide) (by decide) he rfl) fun σ H Q ⟨F, fps, st, d, r, ed, q⟩ => by
  unfold eB at ed
  cases ef : f st with
  | none => rw [ef] at ed; cases ed
  | some x =>
    rw [ef] at ed
    refine ⟨F, fps, st, x, r, ef, fun v H1 s1 w => ?_⟩
    have ed : mTuple x = some d := ed
    unfold mTuple at ed
    split at ed
    · cases ed
      obtain ⟨a, xs, e1, e2, e3⟩ := w
      exact ⟨a, xs, by rw [e1], .inl ⟨.inl (.inl e2), fun l nl => q _ _ (s1.trans (same_upd nl)) (VR.newT (kd := .rd) r s1 e3 nl)⟩⟩
    · cases ed
/-- xs + ys -/
def mCat (x y : D) : Option D := match x, y with
  | .lst ds, .lst es => if lenOk (ds.length + es.length) = true then some (.lst (ds ++ es)) else none
  | _, _ => none
theorem mCat_rep {F H : Hp} (sF : Same F H) {x y d : D} {vx vy : V} (rx : Rep K F x vx) (ry : Rep K F y vy) (e : mCat x y = some d) : ∃ l b xs zs ds, vx = .ref l ∧ vy = .ref b ∧ H l = some (.lst xs) ∧ H b = some (.lst zs) ∧ xs.length + zs.length ≤ sizeLine ∧ d = .lst ds ∧ RepL K F ds (xs ++ zs) := by
  unfold mCat at e
  split at e
  · split at e
    · rename_i hl
      cases e
      obtain ⟨a, xs, e1, e2, e3⟩ := rx
      obtain ⟨b, ys, f1, f2, f3⟩ := ry
      exact ⟨a, b, xs, ys, _, e1, f1, sF _ _ e2, sF _ _ f2, by rw [e3.length, f3.length]; exact lenOk_le hl, rfl, e3.app f3⟩
    · cases e
  · cases e
theorem fe_cat (ha : FE X .rd a f) (hb : FE X .rd b g) : FE X (.ow 1) (.BinOp a .Add b pos) (eB chkL (eBin mCat f g)) := PE.weak (pe_op op_cat ha hb) fun σ H Q ⟨F, fps, st, d, r, ed, q⟩ => by
  unfold eB at ed
  cases ef : eBin mCat f g st with
  | none => rw [ef] at ed; cases ed
  | some z =>
    rw [ef] at ed
    obtain ⟨x, y, e1, e2, e3⟩ := bind2 ef
    refine ⟨F, fps, st, x, r, e1, fun v H1 s1 w1 => ⟨F, fps, st, y, r.mono s1, e2, fun u H2 s2 w2 => ?_⟩⟩
    obtain ⟨l, b, xs, zs, ds, h1, h2, h3, h4, h5, h6, h7⟩ := mCat_rep (Same.refl H2) (Rep.mono s2 x v w1) w2 e3
    subst h6
    have ed : (if fullL ds 0 = true then some (D.lst ds) else none) = some d := ed
    split at ed
    · cases ed
      exact ⟨l, b, xs, zs, h1, h2, h3, h4, h5, fun p np => q _ _ ((s1.trans s2).trans (same_upd np)) (VR.newF r (s1.trans s2) h7 (by assumption) np)⟩
    · cases ed
theorem fe_catS (ha : FE X (.ow 0) a f) (hb : FE X (.ow 0) b g) : FE X (.ow 1) (.BinOp a .Add b pos) (eBin mCat f g) := PE.weak (pe_op op_cat ha hb) fun σ H Q ⟨F, fps, st, d, r, ed, q⟩ => by
  obtain ⟨x, y, e1, e2, e3⟩ := bind2 ed
  refine ⟨F, fps, st, x, r, e1, fun v H1 s1 w1 => ⟨F, fps, st, y, r.mono s1, e2, fun u H2 s2 w2 => ?_⟩⟩
  obtain ⟨l, b, xs, zs, ds, h1, h2, h3, h4, h5, h6, h7⟩ := mCat_rep hideP_same (Rep.mono (hideP_mono s2 fun _ _ _ h => h) x v (VR.ow0 w1)) (VR.ow0 w2) e3
  subst h6
  exact ⟨l, b, xs, zs, h1, h2, h3, h4, h5, fun p np => q _ _ ((s1.trans s2).trans (same_upd np)) (VR.newS r (s1.trans s2) h7 np)⟩
end
end FL

namespace FL
open PySem PySem.Spec PyProof.Rows L2

theorem PI.weak {X : Cx} {tg e : Expr} {t t' : TI} (h : PI X tg e t) (hw : ∀ σ H Q, t' σ H Q → t σ H Q) : PI X tg e t' := ⟨fun pins s σ H Q I q => h.run pins s σ H Q I (hw σ H Q q)⟩
theorem PS.weak {X : Cx} {e : Stmt} {t t' : TS} (h : PS X e t) (hw : ∀ D σ H, t' D σ H → t D σ H) : PS X e t' := ⟨fun pins s σ H D I q => h.run pins s σ H D I (hw D σ H q)⟩
theorem PSs.weak {X : Cx} {e : List Stmt} {t t' : TS} (h : PSs X e t) (hw : ∀ D σ H, t' D σ H → t D σ H) : PSs X e t' := ⟨fun pins s σ H D I q => h.run pins s σ H D I (hw D σ H q)⟩
theorem PG.weak {X : Cx} {e : Expr} {t t' : TG} (h : PG X e t) (hw : ∀ v σ H Q, t' v σ H Q → t v σ H Q) : PG X e t' := ⟨fun pins s σ H v u Q I r q => h.run pins s σ H v u Q I r (hw v σ H Q q)⟩
theorem PGs.weak {X : Cx} {e : List Expr} {t t' : TGs} (h : PGs X e t) (hw : ∀ v σ H Q, t' v σ H Q → t v σ H Q) : PGs X e t' := ⟨fun pins s σ H v u Q I r q => h.run pins s σ H v u Q I r (hw v σ H Q q)⟩

/-! ### what a loop walks -/
abbrev IM := Sl → Option (List D)
def Deliver (K : PySem.W.Frag) (G : Hp) (J : It) (ds : List D) : Prop := ∀ (i : Nat) (H : Hp) (A : Addr → Prop), (∀ a, A a → H a ≠ none) → Same G (hideP H A) →
  (ds.length ≤ i → J.stop i H) ∧ ∀ d, ds[i]? = some d → J.go i H ∧ ∀ x H', J.yld i H x H' → Same H H' ∧ Rep K (hideP H' A) d x
def tFI (K : PySem.W.Frag) (f : IM) : TI := fun σ H R => ∃ F fps st ds, StR K F fps σ H st ∧ f st = some ds ∧ ∀ J H', Same H H' → Deliver K (hideP H' (own fps)) J ds → R J H'
abbrev FI (X : Cx) (tg e : Expr) (f : IM) : Prop := PI X tg e (tFI X.K f)
section
variable {X : Cx} {kd kd1 kd2 : Kd} {e a b c tg : Expr} {es : List Expr} {f g h : EM} {fa : AM} {pos p : Pos} {K : PySem.W.Frag}
def itsL : D → Option (List D)
  | .lst ds => some ds
  | .scr ns => some (ns.map D.int)
  | _ => none
def itsT : D → Option (List D)
  | .tup ds => some ds
  | _ => none
def iB (m : D → Option (List D)) (f : EM) : IM := fun st => (f st).bind m
theorem fi_list (he : FE X (.ow 0) e f) : FI X tg e (iB itsL f) := PI.weak (pi_list he) fun σ H R ⟨F, fps, st, ds, r, ed, q⟩ => by
  unfold iB at ed
  cases ef : f st with
  | none => rw [ef] at ed; cases ed
  | some d =>
    rw [ef] at ed
    refine ⟨F, fps, st, d, r, ef, fun v H1 s1 w => ?_⟩
    replace w := VR.ow0 w
    replace ed : itsL d = some ds := ed
    unfold itsL at ed
    split at ed
    · cases ed
      obtain ⟨a, xs, e1, e2, e3⟩ := w
      refine ⟨a, e1, ⟨xs, .inl (.inl (hideP_same _ _ e2))⟩, q _ H1 s1 (fun i H A hA s => ?_)⟩
      have ea : H a = some (.lst xs) := (s.trans hideP_same) _ _ e2
      refine ⟨fun h => ⟨xs, .inl (.inl ea), by rw [e3.length]; exact h⟩, fun d e => ?_⟩
      obtain ⟨v, h1, h2⟩ := e3.get e
      exact ⟨⟨xs, v, .inl (.inl ea), h1⟩, fun x H' ⟨y1, y2⟩ => by
        subst y1
        have := y2 xs (.inl (.inl ea))
        rw [h1] at this; cases this
        exact ⟨Same.refl _, Rep.mono s d v h2⟩⟩
    · rename_i ns
      cases ed
      obtain ⟨a, e1, e2⟩ := w
      refine ⟨a, e1, ⟨ns.map V.int, (hideP_same.sqf e2).sq⟩, q _ H1 s1 (fun i H A hA s => ?_)⟩
      have ea : SqL X.K H a (ns.map V.int) := ((s.trans hideP_same).sqf e2).sq
      refine ⟨fun h => ⟨_, ea, by rw [List.length_map] at h ⊢; exact h⟩, fun d e => ?_⟩
      rw [List.getElem?_map] at e
      cases en : ns[i]? with
      | none => rw [en] at e; cases e
      | some n =>
        rw [en] at e; cases e
        have h1 : (ns.map V.int)[i]? = some (.int n) := by rw [List.getElem?_map, en]; rfl
        exact ⟨⟨_, _, ea, h1⟩, fun x H' ⟨y1, y2⟩ => by
          subst y1
          have := y2 _ ea
          rw [h1] at this; cases this
          exact ⟨Same.refl _, rfl⟩⟩
    · cases ed
theorem fi_tup (he : FE X (.ow 0) e f) : FI X tg e (iB itsT f) := PI.weak (pi_tup he) fun σ H R ⟨F, fps, st, ds, r, ed, q⟩ => by
  unfold iB at ed
  cases ef : f st with
  | none => rw [ef] at ed; cases ed
  | some d =>
    rw [ef] at ed
    refine ⟨F, fps, st, d, r, ef, fun v H1 s1 w => ?_⟩
    have w := VR.ow0 w
    have ed : itsT d = some ds := ed
    unfold itsT at ed
    split at ed
    · cases ed
      obtain ⟨a, xs, e1, e2, e3⟩ := w
      refine ⟨a, e1, ⟨xs, Same.sqt hideP_same e2⟩, q _ H1 s1 (fun i H A hA s => ?_)⟩
      have ea : SqT X.K H a xs := Same.sqt (s.trans hideP_same) e2
      refine ⟨fun h => ⟨xs, ea, by rw [e3.length]; exact h⟩, fun d e => ?_⟩
      obtain ⟨v, h1, h2⟩ := e3.get e
      exact ⟨⟨xs, v, ea, h1⟩, fun x H' ⟨y1, y2⟩ => by
        subst y1
        have := y2 xs ea
        rw [h1] at this; cases this
        exact ⟨Same.refl _, Rep.mono s d v h2⟩⟩
    · cases ed
theorem PI.or {wi wj : TI} (h1 : PI X tg e wi) (h2 : PI X tg e wj) : PI X tg e (fun σ H R => wi σ H R ∨ wj σ H R) := ⟨fun pins s σ H R I h => by
  rcases h with h | h
  · exact h1.run pins s σ H R I h
  · exact h2.run pins s σ H R I h⟩
def itsS : D → Option (List D)
  | .lst ds => some ds
  | .scr ns => some (ns.map D.int)
  | .tup ds => some ds
  | _ => none
/-- a list, a tuple, the script -/
theorem fi_seq (he : FE X (.ow 0) e f) : FI X tg e (iB itsS f) := PI.weak (PI.or (fi_list he) (fi_tup he)) fun σ H R ⟨F, fps, st, ds, r, ed, q⟩ => by
  unfold iB at ed
  cases ef : f st with
  | none => rw [ef] at ed; cases ed
  | some d =>
    rw [ef] at ed
    have ed : itsS d = some ds := ed
    cases d with
    | lst xs => exact .inl ⟨F, fps, st, ds, r, by unfold iB; rw [ef]; exact ed, q⟩
    | scr xs => exact .inl ⟨F, fps, st, ds, r, by unfold iB; rw [ef]; exact ed, q⟩
    | tup xs => exact .inr ⟨F, fps, st, ds, r, by unfold iB; rw [ef]; exact ed, q⟩
    | _ => cases ed
def rngOk (i : Int) : Bool := decide (-(2 ^ 62) ≤ i) && decide (i < 2 ^ 62)
def rngL (lo c : Int) (n : Nat) : List D := (List.range n).map fun (i : Nat) => D.int (lo + (i : Int) * c)
def mRng1 : D → Option (List D)
  | .int j => if rngOk j = true then some (rngL 0 1 j.toNat) else none
  | _ => none
def mRng2 (x y : D) : Option (List D) := match x, y with
  | .int i, .int j => if (rngOk i && rngOk j) = true then some (rngL i 1 (j - i).toNat) else none
  | _, _ => none
/-- range(i, j, -1) -/
def mRngD (x y : D) : Option (List D) := match x, y with
  | .int i, .int j => if (rngOk i && rngOk j) = true then some (rngL i (-1) (i - j).toNat) else none
  | _, _ => none
theorem rngOk_iff {i : Int} (h : rngOk i = true) : -(2 ^ 62) ≤ i ∧ i < 2 ^ 62 := by
  unfold rngOk at h
  simp only [Bool.and_eq_true, decide_eq_true_eq] at h
  exact h
theorem dl_rng {G : Hp} {lo : Int} {n : Nat} : Deliver K G (Itr lo n) (rngL lo 1 n) := fun i H A hA s => by
  unfold rngL
  refine ⟨fun h => ?_, fun d e => ?_⟩
  · rw [List.length_map, List.length_range] at h; exact h
  · rw [List.getElem?_map] at e
    by_cases hi : i < n
    · rw [List.getElem?_range hi] at e
      cases e
      refine ⟨hi, fun x H' ⟨y1, y2⟩ => ?_⟩
      subst y1 y2
      exact ⟨Same.refl _, by show V.int _ = V.int _; rw [Int.mul_one]⟩
    · rw [List.getElem?_eq_none (by rw [List.length_range]; omega)] at e; cases e
theorem dl_rngC {G : Hp} {lo c : Int} {n : Nat} : Deliver K G (Itc lo c n) (rngL lo c n) := fun i H A hA s => by
  unfold rngL
  refine ⟨fun h => ?_, fun d e => ?_⟩
  · rw [List.length_map, List.length_range] at h; exact h
  · rw [List.getElem?_map] at e
    by_cases hi : i < n
    · rw [List.getElem?_range hi] at e
      cases e
      refine ⟨hi, fun x H' ⟨y1, y2⟩ => ?_⟩
      subst y1 y2
      exact ⟨Same.refl _, rfl⟩
    · rw [List.getElem?_eq_none (by rw [List.length_range]; omega)] at e; cases e
def iBin (m : D → D → Option (List D)) (f g : EM) : IM := fun st => (f st).bind fun x => (g st).bind fun y => m x y
theorem fi_rng1 (hg : Gl X "range") (hm : X.mg "range" = none) (ha : FE X .rd a f) (hs : starEach [a] X.env = [(false, eval a X.env)] := by rfl) : FI X tg (.Call (.Name "range" p) [a] [] pos) (iB mRng1 f) := PI.weak (pi_range1 hg hm (pa_cons ha pa_nil hs) hs) fun σ H R ⟨F, fps, st, ds, r, ed, q⟩ => by
  unfold iB at ed
  cases ef : f st with
  | none => rw [ef] at ed; cases ed
  | some x =>
    rw [ef] at ed
    refine ⟨F, fps, st, x, r, ef, fun v H1 s1 w => ?_⟩
    have ed : mRng1 x = some ds := ed
    unfold mRng1 at ed
    split at ed
    · split at ed
      · rename_i hr
        cases ed
        have w : v = .int _ := w
        subst w
        exact ⟨_, rfl, (rngOk_iff hr).1, (rngOk_iff hr).2, q _ _ s1 dl_rng⟩
      · cases ed
    · cases ed
theorem fi_rng2 (hg : Gl X "range") (hm : X.mg "range" = none) (ha : FE X .rd a f) (hb : FE X .rd b g) (hs : starEach [a, b] X.env = (false, eval a X.env) :: starEach [b] X.env := by rfl) (hs2 : starEach [b] X.env = (false, eval b X.env) :: starEach [] X.env := by rfl)
    (h1 : starEach [a, b] X.env = [(false, eval a X.env), (false, eval b X.env)] := by rfl) (h2 : starEach [b] X.env = [(false, eval b X.env)] := by rfl) :
    FI X tg (.Call (.Name "range" p) [a, b] [] pos) (iBin mRng2 f g) := PI.weak (pi_range2 hg hm (pa_cons ha (pa_cons hb pa_nil hs2) hs) h1 h2) fun σ H R ⟨F, fps, st, ds, r, ed, q⟩ => by
  unfold iBin at ed
  obtain ⟨x, y, e1, e2, e3⟩ := bind2 ed
  refine ⟨F, fps, st, x, r, e1, fun v H1 s1 w => ⟨F, fps, st, y, r.mono s1, e2, fun u H2 s2 w2 => ?_⟩⟩
  unfold mRng2 at e3
  split at e3
  · split at e3
    · rename_i hr
      cases e3
      have hr := Bool.and_eq_true_iff.mp hr
      have w : v = .int _ := w
      have w2 : u = .int _ := w2
      subst w w2
      exact ⟨_, _, rfl, ⟨(rngOk_iff hr.1).1, (rngOk_iff hr.1).2, (rngOk_iff hr.2).1, (rngOk_iff hr.2).2⟩, q _ _ (s1.trans s2) dl_rng⟩
    · cases e3
  · cases e3
/-- range(a, b, -1): the step is written as -1 -/
theorem fi_rngD {k : Nat} {p1 p2 : Pos} (hg : Gl X "range") (hm : X.mg "range" = none) (ha : FE X .rd a f) (hb : FE X .rd b g) (hs : starEach [a, b, .UnaryOp .USub (.Constant (.int 1) k p1) p2] X.env = (false, eval a X.env) :: starEach [b, .UnaryOp .USub (.Constant (.int 1) k p1) p2] X.env := by rfl)
    (hs2 : starEach [b, .UnaryOp .USub (.Constant (.int 1) k p1) p2] X.env = (false, eval b X.env) :: starEach [.UnaryOp .USub (.Constant (.int 1) k p1) p2] X.env := by rfl)
    (hs3 : starEach [.UnaryOp .USub (.Constant (.int 1) k p1) p2] X.env = (false, eval (.UnaryOp .USub (.Constant (.int 1) k p1) p2) X.env) :: starEach [] X.env := by rfl)
    (hpl : (backTo pos (starEach [b, .UnaryOp .USub (.Constant (.int 1) k p1) p2] X.env)).any (·.1) = false := by rfl) :
    FI X tg (.Call (.Name "range" p) [a, b, .UnaryOp .USub (.Constant (.int 1) k p1) p2] [] pos) (iBin mRngD f g) := PI.weak (pi_range3 hg hm (pa_cons ha (pa_cons hb (pa_cons (pe_un un_neg pe_int) pa_nil hs3) hs2) hs) hs hpl) fun σ H R ⟨F, fps, st, ds, r, ed, q⟩ => by
  unfold iBin at ed
  obtain ⟨x, y, e1, e2, e3⟩ := bind2 ed
  refine ⟨F, fps, st, x, r, e1, fun v H1 s1 w => ⟨F, fps, st, y, r.mono s1, e2, fun u H2 s2 w2 => ?_⟩⟩
  unfold mRngD at e3
  split at e3
  · split at e3
    · rename_i hr
      cases e3
      have hr := Bool.and_eq_true_iff.mp hr
      have w : v = .int _ := w
      have w2 : u = .int _ := w2
      subst w w2
      exact ⟨1, rfl, _, _, _, _, rfl, RgC.neg (rngOk_iff hr.1).1 (rngOk_iff hr.1).2 (rngOk_iff hr.2).1 (rngOk_iff hr.2).2, q _ _ (s1.trans s2) dl_rngC⟩
    · cases e3
  · cases e3
/-- enumerate(xs) -/
def enumL : Nat → List D → List D
  | _, [] => []
  | i, d :: ds => .tup [.int i, d] :: enumL (i + 1) ds
theorem enumL_get : ∀ (ds : List D) (j i : Nat), (enumL j ds)[i]? = (ds[i]?).map fun d => D.tup [.int ((j + i : Nat) : Int), d]
  | [], j, i => by simp [enumL]
  | d :: ds, j, 0 => by simp [enumL]
  | d :: ds, j, i + 1 => by
    have := enumL_get ds (j + 1) i
    simp only [enumL, List.getElem?_cons_succ]
    rw [this]
    congr 1
    funext d
    rw [show j + 1 + i = j + (i + 1) by omega]
theorem enumL_len : ∀ (ds : List D) (j : Nat), (enumL j ds).length = ds.length
  | [], _ => rfl
  | d :: ds, j => by simp [enumL, enumL_len ds (j + 1)]
def mEnum : D → Option (List D)
  | .lst ds => some (enumL 0 ds)
  | _ => none
theorem fi_enum {elts : List Expr} {kk : Nat} {tpos : Pos} (hg : Gl X "enumerate") (hm : X.mg "enumerate" = none) (he : FE X (.ow 0) e f) (hs : starEach [e] X.env = [(false, eval e X.env)] := by rfl) :
    FI X (.Tuple elts kk tpos) (.Call (.Name "enumerate" p) [e] [] pos) (iB mEnum f) := PI.weak (pi_enum hg hm (pa_cons he pa_nil hs) hs) fun σ H R ⟨F, fps, st, ds, r, ed, q⟩ => by
  unfold iB at ed
  cases ef : f st with
  | none => rw [ef] at ed; cases ed
  | some d =>
    rw [ef] at ed
    refine ⟨F, fps, st, d, r, ef, fun v H1 s1 w => ?_⟩
    replace w := VR.ow0 w
    have ed : mEnum d = some ds := ed
    unfold mEnum at ed
    split at ed
    · cases ed
      obtain ⟨a, xs, e1, e2, e3⟩ := w
      subst e1
      refine ⟨a, xs, rfl, .inl (.inl (hideP_same _ _ e2)), q _ H1 s1 (fun i H A hA s => ?_)⟩
      have ea : H a = some (.lst xs) := (s.trans hideP_same) _ _ e2
      rw [enumL_len]
      refine ⟨fun h => ⟨xs, .inl (.inl ea), by rw [e3.length]; exact h⟩, fun d e => ?_⟩
      rw [enumL_get] at e
      cases en : (_ : List D)[i]? with
      | none => rw [en] at e; cases e
      | some d0 =>
        rw [en] at e; cases e
        obtain ⟨v, h1, h2⟩ := e3.get en
        refine ⟨⟨xs, v, .inl (.inl ea), h1⟩, fun x H' ⟨T, x1, y1, y2, y3, y4⟩ => ?_⟩
        subst y1 y3
        have := y4 xs (.inl (.inl ea))
        rw [h1] at this; cases this
        have sT : Same (hideP H A) (hideP (upd H T (.tup [.int ((i : Nat) : Int), v])) A) := hideP_mono (same_upd y2) fun _ _ _ h => h
        refine ⟨same_upd y2, T, _, rfl, .inl (.inl (hideP_some.mpr ⟨fun z => hA T z y2, upd_same⟩)), _, _, rfl, ?_, _, _, rfl, Rep.mono (s.trans sT) d0 v h2, rfl⟩
        show V.int _ = V.int _
        rw [Nat.zero_add]
    · cases ed
/-- zip(xs, ys) -/
def zipD : List D → List D → List D
  | x :: xs, y :: ys => .tup [x, y] :: zipD xs ys
  | _, _ => []
theorem zipD_get : ∀ (xs ys : List D) (i : Nat), (zipD xs ys)[i]? = (xs[i]?).bind fun x => (ys[i]?).map fun y => D.tup [x, y]
  | [], ys, i => by simp [zipD]
  | x :: xs, [], i => by
    simp only [zipD, List.getElem?_nil, Option.map_none]
    cases (x :: xs)[i]? <;> rfl
  | x :: xs, y :: ys, 0 => by simp [zipD]
  | x :: xs, y :: ys, i + 1 => by
    have := zipD_get xs ys i
    simp only [zipD, List.getElem?_cons_succ]
    exact this
theorem zipD_len : ∀ (xs ys : List D), (zipD xs ys).length = min xs.length ys.length
  | [], ys => by simp [zipD]
  | x :: xs, [] => by simp [zipD]
  | x :: xs, y :: ys => by simp only [zipD, List.length_cons, zipD_len xs ys]; omega
def mZip (x y : D) : Option (List D) := match x, y with
  | .lst xs, .lst ys => some (zipD xs ys)
  | _, _ => none
theorem fi_zip {elts : List Expr} {kk : Nat} {tpos : Pos} (hg : Gl X "zip") (hm : X.mg "zip" = none) (ha : FE X (.ow 0) a f) (hb : FE X (.ow 0) b g)
    (hs : starEach [a, b] X.env = (false, eval a X.env) :: starEach [b] X.env := by rfl) (hs2 : starEach [b] X.env = (false, eval b X.env) :: starEach [] X.env := by rfl) (hpl : (backTo pos (starEach [b] X.env)).any (·.1) = false := by rfl) :
    FI X (.Tuple elts kk tpos) (.Call (.Name "zip" p) [a, b] [] pos) (iBin mZip f g) := PI.weak (pi_zip hg hm (pa_cons ha (pa_cons hb pa_nil hs2) hs) hs hpl) fun σ H R ⟨F, fps, st, ds, r, ed, q⟩ => by
  unfold iBin at ed
  obtain ⟨x, y, e1, e2, e3⟩ := bind2 ed
  refine ⟨F, fps, st, x, r, e1, fun v H1 s1 w => ⟨F, fps, st, y, r.mono s1, e2, fun u H2 s2 w2 => ?_⟩⟩
  replace w := Rep.mono (hideP_mono s2 fun _ _ _ h => h) x v (VR.ow0 w)
  replace w2 := VR.ow0 w2
  unfold mZip at e3
  split at e3
  · cases e3
    obtain ⟨a, xs, a1, a2, a3⟩ := w
    obtain ⟨b, ys, b1, b2, b3⟩ := w2
    subst a1 b1
    refine ⟨a, b, xs, ys, rfl, .inl (.inl (hideP_same _ _ a2)), .inl (.inl (hideP_same _ _ b2)), q _ _ (s1.trans s2) (fun i H A hA s => ?_)⟩
    have ea : H a = some (.lst xs) := (s.trans hideP_same) _ _ a2
    have eb : H b = some (.lst ys) := (s.trans hideP_same) _ _ b2
    rw [zipD_len]
    refine ⟨fun h => ⟨xs, ys, .inl (.inl ea), .inl (.inl eb), by rw [a3.length, b3.length]; omega⟩, fun d e => ?_⟩
    rw [zipD_get] at e
    cases en : (_ : List D)[i]? with
    | none => rw [en] at e; cases e
    | some d1 =>
      rw [en] at e
      cases em : (_ : List D)[i]? with
      | none => rw [em] at e; cases e
      | some d2 =>
        rw [em] at e
        cases e
        obtain ⟨v, h1, h2⟩ := a3.get en
        obtain ⟨u, k1, k2⟩ := b3.get em
        refine ⟨⟨xs, ys, v, u, .inl (.inl ea), .inl (.inl eb), h1, k1⟩, fun x H' ⟨T, x1, z1, y1, y2, y3, y4, y5⟩ => ?_⟩
        subst y1 y3
        have := y4 xs (.inl (.inl ea))
        rw [h1] at this; cases this
        have := y5 ys (.inl (.inl eb))
        rw [k1] at this; cases this
        have sT : Same (hideP H A) (hideP (upd H T (.tup [v, u])) A) := hideP_mono (same_upd y2) fun _ _ _ h => h
        exact ⟨same_upd y2, T, _, rfl, .inl (.inl (hideP_some.mpr ⟨fun z => hA T z y2, upd_same⟩)), _, _, rfl, Rep.mono (s.trans sT) d1 v h2, _, _, rfl, Rep.mono (s.trans sT) d2 u k2, rfl⟩
  · cases e3
end
end FL

namespace FL
open PySem PySem.Spec PyProof.Rows L2

/-! ### statements -/
inductive Out where
  | nx (st : Sl) | bk (st : Sl) | ct (st : Sl) | rt (d : D) (st : Sl)
abbrev SM := Sl → Option Out
def RetOk (K : PySem.W.Frag) (F : Fr) (H : Hp) (k : Nat) (d : D) (v : V) (st : Sl) : Prop := ∃ (fps : Fps) (fp : List Addr), fp.Nodup ∧ (∀ i, (fps i).Nodup) ∧ (∀ i j a, a ∈ fps i → a ∈ fps j → i = j) ∧ (∀ i a, a ∈ fps i → a ∉ fp) ∧
  Same F.G (hideP H (own2 fps fp)) ∧ Own K H (hideP H (own2 fps fp)) d k v fp ∧ ∀ (i k' : Nat) (d' : D), st[i]? = some (.io k' d') → Own K H (hideP H (own2 fps fp)) d' k' (F.pin i) (fps i)
def Cont (K : PySem.W.Frag) (F : Fr) (k : Nat) (Dn : Ends) : Out → Prop
  | .nx st => ∀ σ H, StRep K F σ H st → Dn.nx σ H
  | .bk st => ∀ σ H, StRep K F σ H st → Dn.bk σ H
  | .ct st => ∀ σ H, StRep K F σ H st → Dn.ct σ H
  | .rt d st => ∀ v H, RetOk K F H k d v st → Dn.rt v H
def tFS (K : PySem.W.Frag) (k : Nat) (g : SM) : TS := fun Dn σ H => ∃ F st o, StRep K F σ H st ∧ g st = some o ∧ Cont K F k Dn o
abbrev FS (X : Cx) (k : Nat) (s : Stmt) (g : SM) : Prop := PS X s (tFS X.K k g)
abbrev FSs (X : Cx) (k : Nat) (s : List Stmt) (g : SM) : Prop := PSs X s (tFS X.K k g)

section
variable {X : Cx} {k : Nat} {kd : Kd} {e a b c tg : Expr} {es : List Expr} {f g h : EM} {t : TM} {s1 s2 s3 : SM} {st : Stmt} {rest as bs : List Stmt} {pos p : Pos} {K : PySem.W.Frag}
def sNil : SM := fun st => some (.nx st)
def sSeq (g1 g2 : SM) : SM := fun st => (g1 st).bind fun o => match o with
  | .nx st' => g2 st'
  | o => some o
theorem fss_nil : FSs X k [] sNil := PSs.weak pss_nil fun Dn σ H ⟨F, st, o, r, e, c⟩ => by
  cases e
  exact c σ H r
theorem fss_cons (h1 : FS X k st s1) (h2 : FSs X k rest s2) : FSs X k (st :: rest) (sSeq s1 s2) := PSs.weak (pss_cons h1 h2) fun Dn σ H ⟨F, st, o, r, e, c⟩ => by
  unfold sSeq at e
  cases e1 : s1 st with
  | none => rw [e1] at e; cases e
  | some o1 =>
    rw [e1] at e
    refine ⟨F, st, o1, r, e1, ?_⟩
    cases o1 with
    | nx st1 => exact fun σ' H' r' => ⟨F, st1, o, r', e, c⟩
    | bk _ => cases e; exact c
    | ct _ => cases e; exact c
    | rt _ _ => cases e; exact c
theorem fss_one (h1 : FS X k st s1) : FSs X k [st] s1 := pss_one h1
def sIf (t : TM) (g1 g2 : SM) : SM := fun st => (t st).bind fun b => if b = true then g1 st else g2 st
theorem fs_if (hc : FT X c t) (ha : FSs X k as s1) (hb : FSs X k bs s2) : FS X k (.If c as bs pos) (sIf t s1 s2) := PS.weak (ps_if hc ha hb) fun Dn σ H ⟨F, st, o, ⟨fps, r⟩, e, c⟩ => by
  unfold sIf at e
  cases e1 : t st with
  | none => rw [e1] at e; cases e
  | some b =>
    rw [e1] at e
    refine ⟨F, fps, st, b, r, e1, fun H1 q1 => ?_⟩
    cases b with
    | true => exact ⟨F, st, o, ⟨fps, r.mono q1⟩, e, c⟩
    | false => exact ⟨F, st, o, ⟨fps, r.mono q1⟩, e, c⟩
theorem fs_pass : FS X k (.Pass pos) sNil := PS.weak ps_pass fun Dn σ H ⟨F, st, o, r, e, c⟩ => by
  cases e
  exact c σ H r
def sBrk : SM := fun st => some (.bk st)
def sCt : SM := fun st => some (.ct st)
theorem fs_break : FS X k (.Break pos) sBrk := PS.weak ps_break fun Dn σ H ⟨F, st, o, r, e, c⟩ => by
  cases e
  exact c σ H r
theorem fs_continue : FS X k (.Continue pos) sCt := PS.weak ps_continue fun Dn σ H ⟨F, st, o, r, e, c⟩ => by
  cases e
  exact c σ H r
/-- a statement that is never come to (a raise) -/
def sNo : SM := fun _ => none
theorem fs_no : FS X k st sNo := ⟨fun _ _ σ H _ _ ⟨_, _, _, _, e, _⟩ => by cases e⟩
/-- an expression whose value is dropped -/
def sExp (f : EM) : SM := fun st => (f st).map fun _ => .nx st
theorem fs_exp (he : FE X kd e f) (hs : swapsWith e none pos.line X.env = pure false := by rfl) : FS X k (.Expr e pos) (sExp f) := PS.weak (ps_expr he hs) fun Dn σ H ⟨F, st, o, ⟨fps, r⟩, e, c⟩ => by
  unfold sExp at e
  cases e1 : f st with
  | none => rw [e1] at e; cases e
  | some b =>
    rw [e1] at e; cases e
    exact ⟨F, fps, st, b, r, e1, fun v H1 q1 w => c σ H1 ⟨fps, r.mono q1⟩⟩

/-! ### return -/
def sRet (f : EM) : SM := fun st => (f st).map fun d => .rt d st
theorem StR.ret {F : Fr} {fps : Fps} {σ : L2.St} {H H1 : Hp} {st : Sl} {d : D} {v : V} (r : StR K F fps σ H st) (q1 : Same H H1) (w : VR K fps H H1 (.ow k) d v) : RetOk K F H1 k d v st := by
  obtain ⟨fp, n, fr, w⟩ := w
  have r1 := r.mono q1
  have sm : Same (hideP H (own fps)) (hideP H1 (own2 fps fp)) := hideP_mono q1 fun a o e h z => by
    rcases z with m | z
    · rw [fr a m] at e; cases e
    · exact h z
  refine ⟨fps, fp, n, r.nd, r.dj, fun i a m m2 => r.there ⟨i, m⟩ (fr a m2), r.fr.trans sm, w, fun i k' d' e => ?_⟩
  obtain ⟨_, o⟩ := r.io e
  refine Own.mono sm d' k' _ _ (fun a m => ?_) o
  obtain ⟨_, e, _⟩ := r.isLst ⟨i, m⟩
  rw [e]; exact q1 _ _ e
theorem fs_ret (he : FE X (.ow k) e f) : FS X k (.Return (some e) pos) (sRet f) := PS.weak (ps_ret he) fun Dn σ H ⟨F, st, o, ⟨fps, r⟩, e, c⟩ => by
  unfold sRet at e
  cases e1 : f st with
  | none => rw [e1] at e; cases e
  | some d =>
    rw [e1] at e; cases e
    exact ⟨F, fps, st, d, r, e1, fun v H1 q1 w => c v H1 (r.ret q1 w)⟩
theorem fs_retN : FS X k (.Return none pos) (sRet (eC .non)) := PS.weak ps_retN fun Dn σ H ⟨F, st, o, ⟨fps, r⟩, e, c⟩ => by
  cases e
  exact c .non H (r.ret (Same.refl H) (VR.sc (d := .non) rfl rfl))
/-- return x, x's own lists handed over -/
def sRetV (k i : Nat) : SM := fun st => match st[i]? with
  | some (.va k' d) => if k' = k then some (.rt d (st.set i .un)) else none
  | _ => none
theorem fs_retV {i : Nat} (he : PE X e (tVar i)) : FS X k (.Return (some e) pos) (sRetV k i) := PS.weak (ps_ret he) fun Dn σ H ⟨F, st, o, ⟨fps, r⟩, e, c⟩ => by
  unfold sRetV at e
  split at e
  · rename_i k' d hs
    split at e
    · rename_i hk
      subst hk
      cases e
      obtain ⟨v, e1, w⟩ := r.va hs
      refine ⟨v, e1, c v H ?_⟩
      have r2 := r.unset (i := i)
      have sm : Same (hideP H (own fps)) (hideP H (own2 (setF fps i []) (fps i))) := hideP_mono (Same.refl _) fun a o e h z => by
        rcases z with m | z
        · exact h ⟨i, m⟩
        · rcases own_setF z with m | z
          · cases m
          · exact h z
      refine ⟨setF fps i [], fps i, r.nd i, r2.nd, r2.dj, fun j a m m2 => ?_, r.fr.trans sm, Own.mono sm d _ v _ (fun _ _ => rfl) w, fun j k' d' e => ?_⟩
      · by_cases ej : j = i
        · subst ej; rw [setF_same] at m; cases m
        · rw [setF_ne ej] at m
          exact ej (r.dj j i a m m2)
      · by_cases ej : j = i
        · subst ej
          rw [List.getElem?_set_self (List.getElem?_eq_some_iff.mp hs).1] at e; cases e
        · rw [List.getElem?_set_ne (Ne.symm ej)] at e
          rw [setF_ne ej]
          exact Own.mono sm d' k' _ _ (fun _ _ => rfl) (r.io e).2
    · cases e
  · cases e

/-! ### names stored -/
def isVa : Option Slot → Bool
  | some .un => true
  | some (.va _ _) => true
  | _ => false
def sSet (i k : Nat) (f : EM) : SM := fun st => if isVa st[i]? = true then (f st).map fun d => .nx (st.set i (.va k d)) else none
theorem isVa_lt {st : Sl} {i : Nat} (h : isVa st[i]? = true) : i < st.length := by
  by_cases hi : i < st.length
  · exact hi
  · rw [List.getElem?_eq_none (by omega)] at h; cases h
theorem tF_set {i k' : Nat} {Dn : Ends} {σ : L2.St} {H : Hp} (h : tFS K k (sSet i k' f) Dn σ H) : tAsg (tF K (.ow k') f) (gName i) Dn σ H := by
  obtain ⟨F, st, o, ⟨fps, r⟩, e, c⟩ := h
  unfold sSet at e
  split at e
  · rename_i hi
    cases e1 : f st with
    | none => rw [e1] at e; cases e
    | some d =>
      rw [e1] at e; cases e
      refine ⟨F, fps, st, d, r, e1, fun v H1 q1 w => ?_⟩
      obtain ⟨fp, n, fr, w⟩ := w
      exact c _ H1 ⟨_, r.set q1 (isVa_lt hi) n fr w⟩
  · cases e
theorem fs_set {i k' : Nat} {x : Str} {pos' : Pos} (hN : X.N.Nodup) (hi : X.N[i]? = some x) (hx : Loc X.env.scope x) (he : FE X (.ow k') e f) (hs : swapsWith e (some (.Name x pos')) pos.line X.env = pure false := by rfl) (hf : X.fn x = true ∨ X.env.scope.names.lookup x = some .local := by first | exact .inl rfl | exact .inr rfl | assumption) :
    FS X k (.Assign [.Name x pos'] e pos) (sSet i k' f) := PS.weak (ps_set hN hi hx he hs hf) fun _ _ _ => tF_set
/-- x op= e of ints -/
def sAug (m : D → D → Option D) (i : Nat) (f : EM) : SM := fun st => if isVa st[i]? = true then (eBin m (eVar i) f st).map fun d => .nx (st.set i (.va 0 d)) else none
def ScI (m : D → D → Option D) (ti : TIp) : Prop := ∀ (K : PySem.W.Frag) (x y : V) (H : Hp) (Q : VK) (dx dy d : D), Rep K H dx x → Rep K H dy y → m dx dy = some d → sc d = true ∧ (Q (scV d) H → ti x y H Q)
theorem fs_aug {i : Nat} {x : Str} {pos' : Pos} {op : Operator} {m : D → D → Option D} {ti : TIp} (ho : PIp X op ti) (hm : ScI m ti) (hN : X.N.Nodup) (hi : X.N[i]? = some x) (hx : Loc X.env.scope x) (he : FE X .rd e f) (hf : X.fn x = true ∨ X.env.scope.names.lookup x = some .local := by first | exact .inl rfl | exact .inr rfl | assumption) :
    FS X k (.AugAssign (.Name x pos') op e pos) (sAug m i f) := PS.weak (ps_aug hN hi hx he ho hf) fun Dn σ H ⟨F, st, o, ⟨fps, r⟩, e, c⟩ => by
  unfold sAug at e
  split at e
  · rename_i hv
    cases e1 : eBin m (eVar i) f st with
    | none => rw [e1] at e; cases e
    | some d =>
      rw [e1] at e; cases e
      obtain ⟨x, y, h1, h2, h3⟩ := bind2 e1
      obtain ⟨v, k', hv1, hv2⟩ := r.look h1
      refine ⟨v, hv1, F, fps, st, y, r, h2, fun u H1 q1 w => ?_⟩
      obtain ⟨z1, z2⟩ := hm X.K v u H1 (fun z H2 => Dn.nx (σ.set i (some z)) H2) x y d (Rep.mono q1 x v (Own.rep hideP_same x k' v _ (fun _ _ => rfl) hv2)) w h3
      refine z2 (c _ H1 ⟨_, r.set (fp := []) q1 (isVa_lt hv) List.nodup_nil (fun a m => (by cases m)) ?_⟩)
      cases d <;> first | exact ⟨rfl, rfl⟩ | cases z1
  · cases e
theorem sci_add : ScI mAddI (ipI fun i j => i + j) := fun K x y H Q dx dy d rx ry e => by
  obtain ⟨i, j, rfl, rfl, _, rfl⟩ := mI_some e
  exact ⟨rfl, fun q => ⟨i, j, rx, ry, q⟩⟩
theorem sci_sub : ScI mSub (ipI fun i j => i - j) := fun K x y H Q dx dy d rx ry e => by
  obtain ⟨i, j, rfl, rfl, _, rfl⟩ := mI_some e
  exact ⟨rfl, fun q => ⟨i, j, rx, ry, q⟩⟩

/-! ### targets of shared data -/
abbrev GM := D → Sl → Option Sl
abbrev GMs := List D → Sl → Option Sl
def But (I : List Nat) (σ σ' : L2.St) : Prop := σ'.length = σ.length ∧ ∀ j, j ∉ I → σ'[j]? = σ[j]?
/-- fps' is fps with nothing at I -/
def ButF (I : List Nat) (fps fps' : Fps) : Prop := ∀ j, fps' j = if j ∈ I then [] else fps j
def tFG (K : PySem.W.Frag) (I : List Nat) (m : GM) : TG := fun v σ H Q => ∃ F fps st d st', StR K F fps σ H st ∧ Rep K (hideP H (own fps)) d v ∧ m d st = some st' ∧ ∀ σ' fps', StR K F fps' σ' H st' → Same (hideP H (own fps)) (hideP H (own fps')) → But I σ σ' → ButF I fps fps' → Q σ' H
def tFGs (K : PySem.W.Frag) (I : List Nat) (m : GMs) : TGs := fun v σ H Q => ∃ F fps st d st', StR K F fps σ H st ∧ RepL K (hideP H (own fps)) d v ∧ m d st = some st' ∧ ∀ σ' fps', StR K F fps' σ' H st' → Same (hideP H (own fps)) (hideP H (own fps')) → But I σ σ' → ButF I fps fps' → Q σ' H
abbrev FG (X : Cx) (I : List Nat) (tg : Expr) (m : GM) : Prop := PG X tg (tFG X.K I m)
abbrev FGs (X : Cx) (I : List Nat) (tg : List Expr) (m : GMs) : Prop := PGs X tg (tFGs X.K I m)
variable {I J : List Nat}
def gNm (i : Nat) : GM := fun d st => if isVa st[i]? = true then some (st.set i (.va 0 d)) else none
theorem fg_name {i : Nat} {x : Str} (hN : X.N.Nodup) (hi : X.N[i]? = some x) (hx : Loc X.env.scope x) (hf : X.fn x = true ∨ X.env.scope.names.lookup x = some .local := by first | exact .inl rfl | exact .inr rfl | assumption) : FG X [i] (.Name x pos) (gNm i) :=
  PG.weak (pg_name hN hi hx hf) fun v σ H Q ⟨F, fps, st, d, st', r, w, e, q⟩ => by
    unfold gNm at e
    split at e
    · rename_i hv
      cases e
      refine q _ _ (r.set (fp := []) (Same.refl H) (isVa_lt hv) List.nodup_nil (fun a m => (by cases m)) (Own.shared d v (Rep.mono (hideP_mono (Same.refl _) fun a o _ h z => h (z.resolve_left fun m => by cases m)) d v w))) (hideP_mono (Same.refl _) fun a o _ h z => ?_) ⟨List.length_set, fun j hj => List.getElem?_set_ne (fun z => hj (by simp [z]))⟩ fun j => ?_
      · rcases own_setF z with m | z
        · cases m
        · exact h z
      · by_cases e : j = i
        · subst e; rw [setF_same, if_pos (by simp)]
        · rw [setF_ne e, if_neg (by simpa using e)]
    · cases e
def gsNil : GMs := fun ds st => match ds with
  | [] => some st
  | _ => none
def gsCons (m : GM) (n : GMs) : GMs := fun ds st => match ds with
  | d :: r => (m d st).bind fun st' => n r st'
  | _ => none
theorem fgs_nil : FGs X [] [] gsNil := PGs.weak pgs_nil fun v σ H Q ⟨F, fps, st, d, st', r, w, e, q⟩ => by
  unfold gsNil at e
  split at e
  · cases e
    exact ⟨w, q σ fps r (Same.refl _) ⟨rfl, fun _ _ => rfl⟩ fun j => (if_neg (by simp)).symm⟩
  · cases e
theorem fgs_cons {m : GM} {n : GMs} (h1 : FG X I e m) (h2 : FGs X J es n) (hs : (assignEach (e :: es) X.env).map (·.2) = assign e X.env :: (assignEach es X.env).map (·.2) := by rfl) : FGs X (I ++ J) (e :: es) (gsCons m n) := PGs.weak (pgs_cons h1 h2 hs) fun v σ H Q ⟨F, fps, st, d, st', r, w, e, q⟩ => by
  unfold gsCons at e
  split at e
  · rename_i d0 ds
    cases e1 : m d0 st with
    | none => rw [e1] at e; cases e
    | some st1 =>
      rw [e1] at e
      obtain ⟨v0, r0, ev, w1, w2⟩ := w
      exact ⟨v0, r0, ev, F, fps, st, d0, st1, r, w1, e1, fun σ1 fps1 r1 sm bt bf => ⟨F, fps1, st1, ds, st', r1, RepL.mono sm ds r0 w2, e, fun σ2 fps2 r2 sm2 bt2 bf2 => q σ2 fps2 r2 (sm.trans sm2) ⟨bt2.1.trans bt.1, fun j hj => (bt2.2 j fun z => hj (List.mem_append_right _ z)).trans (bt.2 j fun z => hj (List.mem_append_left _ z))⟩ fun j => by
        rw [bf2 j, bf j]
        by_cases h1 : j ∈ I <;> by_cases h2 : j ∈ J <;> simp [h1, h2]⟩⟩
  · cases e
def gTp (n : Nat) (m : GMs) : GM := fun d st => match d with
  | .tup ds => if ds.length = n then m ds st else none
  | _ => none
theorem fg_tup {es : List Expr} {kk : Nat} {m : GMs} {n : Nat} (hc : X.calm = true) (h : FGs X I es m) (hn : (assignEach es X.env).length = n := by rfl) (hst : (assignEach es X.env).findIdx? (·.1) = none := by rfl) : FG X I (.Tuple es kk pos) (gTp n m) :=
  PG.weak (pg_tup hc h hn hst) fun v σ H Q ⟨F, fps, st, d, st', r, w, e, q⟩ => by
    unfold gTp at e
    split at e
    · split at e
      · rename_i hl
        obtain ⟨a, xs, e1, e2, e3⟩ := w
        exact ⟨a, xs, e1, Same.sqt hideP_same e2, by rw [e3.length]; exact hl, F, fps, st, _, st', r, e3, e, q⟩
      · cases e
    · cases e
/-- target = e, shared -/
def sAsg (m : GM) (f : EM) : SM := fun st => (f st).bind fun d => (m d st).map .nx
theorem fs_asg {m : GM} (he : FE X (.ow 0) e f) (hg : FG X I tg m) (hs : swapsWithSole [tg] e pos.line X.env = pure false := by rfl) (hw : swappedStores [tg] e X.env = pure none := by rfl)
    (h1 : (assignEach [tg] X.env).map (·.2) = [assign tg X.env] := by rfl) : FS X k (.Assign [tg] e pos) (sAsg m f) := PS.weak (ps_asg he hg hs hw h1) fun Dn σ H ⟨F, st, o, ⟨fps, r⟩, e, c⟩ => by
  unfold sAsg at e
  cases e1 : f st with
  | none => rw [e1] at e; cases e
  | some d =>
    rw [e1] at e
    have e : (m d st).map Out.nx = some o := e
    cases e2 : m d st with
    | none => rw [e2] at e; cases e
    | some st' =>
      rw [e2] at e; cases e
      exact ⟨F, fps, st, d, r, e1, fun v H1 q1 w => ⟨F, fps, st, d, st', r.mono q1, VR.ow0 w, e2, fun σ' fps' r' _ _ _ => c σ' H1 ⟨fps', r'⟩⟩⟩

/-! ### for -/
def forL (m : GM) (body : SM) : List D → SM
  | [], st => some (.nx st)
  | d :: ds, st => (m d st).bind fun st1 => (body st1).bind fun o => match o with
    | .nx st2 => forL m body ds st2
    | .ct st2 => forL m body ds st2
    | .bk st2 => some (.nx st2)
    | .rt d st2 => some (.rt d st2)
def sFor (its : IM) (m : GM) (body : SM) : SM := fun st => (its st).bind fun ds => forL m body ds st
theorem fs_for {its : IM} {m : GM} {body : List Stmt} (hp : PassesOwn (model X.prog X.w) X.A X.env X.xe) (hc : X.calm = true) (hi : FI X tg e its) (hg : FG X I tg m) (hb : FSs X k body s1)
    (hs : ∀ x, foldedSetIterable e X.env x = pure x := by intro _; rfl) : FS X k (.For tg e body [] pos) (sFor its m s1) := PS.weak (ps_for hp hc hi hg hb hs) fun Dn σ H ⟨F, st, o, ⟨fps, r⟩, e, c⟩ => by
  unfold sFor at e
  cases e1 : its st with
  | none => rw [e1] at e; cases e
  | some ds =>
    rw [e1] at e
    have e : forL m s1 ds st = some o := e
    refine ⟨F, fps, st, ds, r, e1, fun J H1 q1 dl => ?_⟩
    have r1 := r.mono q1
    -- the frame whose base is all that is frozen here
    refine ⟨fun i n σ' H' => n = ds.length - i ∧ i ≤ ds.length ∧ ∃ fps' st', StR X.K ⟨hideP H1 (own fps), F.pin⟩ fps' σ' H' st' ∧ forL m s1 (ds.drop i) st' = some o, ⟨ds.length, by simp, Nat.zero_le _, fps, st, ⟨Same.refl _, r1.nd, r1.dj, r1.len, r1.ok, r1.tmp, r1.fin⟩, e⟩, ?_⟩
    rintro i n σ' H' ⟨rfl, hi, fps', st', r', e'⟩
    have weak : ∀ {fps2 : Fps} {σ2 : L2.St} {H2 : Hp} {st2 : Sl}, StR X.K ⟨hideP H1 (own fps), F.pin⟩ fps2 σ2 H2 st2 → StR X.K F fps2 σ2 H2 st2 := fun x => ⟨r1.fr.trans x.fr, x.nd, x.dj, x.len, x.ok, x.tmp, x.fin⟩
    have dl' := dl i H' (own fps') (fun a h => r'.there h) r'.fr
    by_cases hlt : i < ds.length
    · have ed : ds.drop i = ds[i] :: ds.drop (i + 1) := List.drop_eq_getElem_cons hlt
      rw [ed] at e'
      obtain ⟨hgo, hy⟩ := dl'.2 ds[i] (by simp [hlt])
      refine .inr ⟨hgo, fun σ2 H2 => ∃ fps2 st2, StR X.K ⟨hideP H1 (own fps), F.pin⟩ fps2 σ2 H2 st2 ∧ forL m s1 (ds.drop (i + 1)) st2 = some o, fun σ2 H2 ⟨fps2, st2, r2, e2⟩ => ⟨ds.length - (i + 1), by omega, rfl, hlt, fps2, st2, r2, e2⟩, fun x H2 y => ?_⟩
      obtain ⟨sx, rx⟩ := hy x H2 y
      have e' : ((m ds[i] st').bind fun st1 => (s1 st1).bind fun o => match o with
        | .nx st2 => forL m s1 (ds.drop (i + 1)) st2
        | .ct st2 => forL m s1 (ds.drop (i + 1)) st2
        | .bk st2 => some (.nx st2)
        | .rt d st2 => some (.rt d st2)) = some o := e'
      cases em : m ds[i] st' with
      | none => rw [em] at e'; cases e'
      | some st1 =>
        rw [em] at e'
        refine ⟨⟨hideP H1 (own fps), F.pin⟩, fps', st', ds[i], st1, r'.mono sx, rx, em, fun σ3 fps3 r3 _ _ _ => ?_⟩
        have e' : ((s1 st1).bind fun o => match o with
          | .nx st2 => forL m s1 (ds.drop (i + 1)) st2
          | .ct st2 => forL m s1 (ds.drop (i + 1)) st2
          | .bk st2 => some (.nx st2)
          | .rt d st2 => some (.rt d st2)) = some o := e'
        cases eb : s1 st1 with
        | none => rw [eb] at e'; cases e'
        | some ob =>
          rw [eb] at e'
          refine ⟨⟨hideP H1 (own fps), F.pin⟩, st1, ob, ⟨fps3, r3⟩, eb, ?_⟩
          cases ob with
          | nx st2 => exact fun σ4 H4 ⟨fps4, r4⟩ => ⟨fps4, st2, r4, e'⟩
          | ct st2 => exact fun σ4 H4 ⟨fps4, r4⟩ => ⟨fps4, st2, r4, e'⟩
          | bk st2 =>
            cases e'
            exact fun σ4 H4 ⟨fps4, r4⟩ => c σ4 H4 ⟨fps4, weak r4⟩
          | rt d st2 =>
            cases e'
            exact fun v H4 ⟨fps4, fp4, h1, h2, h3, h4, h5, h6, h7⟩ => c v H4 ⟨fps4, fp4, h1, h2, h3, h4, r1.fr.trans h5, h6, h7⟩
    · have hz : ds.length ≤ i := by omega
      rw [List.drop_eq_nil_of_le hz] at e'
      cases e'
      exact .inl ⟨dl'.1 hz, c σ' H' ⟨fps', weak r'⟩⟩

/-! ### while -/
def whileL (t : TM) (body : SM) : Nat → SM
  | 0, _ => none
  | n + 1, st => (t st).bind fun b => if b = true then ((body st).bind fun o => match o with
    | .nx st2 => whileL t body n st2
    | .ct st2 => whileL t body n st2
    | .bk st2 => some (.nx st2)
    | .rt d st2 => some (.rt d st2)) else some (.nx st)
/-- fuel: how many turns at most -/
def sWhile (fuel : Sl → Nat) (t : TM) (body : SM) : SM := fun st => whileL t body (fuel st) st
theorem fs_while {fuel : Sl → Nat} {body : List Stmt} (hp : PassesOwn (model X.prog X.w) X.A X.env X.xe) (hc : FT X c t) (hb : FSs X k body s1) : FS X k (.While c body [] pos) (sWhile fuel t s1) := PS.weak (ps_while hp hc hb) fun Dn σ H ⟨F, st, o, ⟨fps, r⟩, e, cc⟩ => by
  unfold sWhile at e
  refine ⟨fun n σ' H' => ∃ fps' st', StR X.K F fps' σ' H' st' ∧ whileL t s1 n st' = some o, ⟨fuel st, fps, st, r, e⟩, ?_⟩
  rintro n σ' H' ⟨fps', st', r', e'⟩
  cases n with
  | zero => cases e'
  | succ n =>
    have e' : ((t st').bind fun b => if b = true then ((s1 st').bind fun o => match o with
      | .nx st2 => whileL t s1 n st2
      | .ct st2 => whileL t s1 n st2
      | .bk st2 => some (.nx st2)
      | .rt d st2 => some (.rt d st2)) else some (.nx st')) = some o := e'
    cases et : t st' with
    | none => rw [et] at e'; cases e'
    | some b =>
      rw [et] at e'
      refine ⟨F, fps', st', b, r', et, fun H1 q1 => ?_⟩
      cases b with
      | false =>
        cases e'
        exact cc σ' H1 ⟨fps', r'.mono q1⟩
      | true =>
        have e' : ((s1 st').bind fun o => match o with
          | .nx st2 => whileL t s1 n st2
          | .ct st2 => whileL t s1 n st2
          | .bk st2 => some (.nx st2)
          | .rt d st2 => some (.rt d st2)) = some o := e'
        refine ⟨fun σ2 H2 => ∃ fps2 st2, StR X.K F fps2 σ2 H2 st2 ∧ whileL t s1 n st2 = some o, fun σ2 H2 ⟨fps2, st2, r2, e2⟩ => ⟨n, by omega, fps2, st2, r2, e2⟩, ?_⟩
        cases eb : s1 st' with
        | none => rw [eb] at e'; cases e'
        | some ob =>
          rw [eb] at e'
          refine ⟨F, st', ob, ⟨fps', r'.mono q1⟩, eb, ?_⟩
          cases ob with
          | nx st2 => exact fun σ4 H4 ⟨fps4, r4⟩ => ⟨fps4, st2, r4, e'⟩
          | ct st2 => exact fun σ4 H4 ⟨fps4, r4⟩ => ⟨fps4, st2, r4, e'⟩
          | bk st2 => cases e'; exact cc
          | rt d st2 => cases e'; exact cc
end
end FL

namespace FL
open PySem PySem.Spec PyProof.Rows L2

section
variable {K : PySem.W.Frag} {F : Fr} {fps : Fps} {σ : L2.St} {H H1 H' : Hp} {st : Sl}
/-- a list of one's own is changed in place (its node A), at the place i of the footprints -/
theorem StR.bump {i : Nat} {A : Addr} {o : HO} {fp' : List Addr} {st' : Sl} (r : StR K F fps σ H st) (s : Same H H1) (hA : A ∈ fps i) (mo : MutO o)
    (nd : fp'.Nodup) (sub : ∀ a ∈ fp', a ∈ fps i ∨ (H a = none ∧ ∃ o, H1 a = some o ∧ MutO o)) (hl : st'.length = st.length) (hs : ∀ j, j ≠ i → st'[j]? = st[j]?)
    (hok : ∀ sl, st'[i]? = some sl → (∀ B : Addr → Prop, (∀ a o', H a = some o' → ¬ own fps a → ¬ B a) → Same (hideP H (own fps)) (hideP (upd H1 A o) B)) → SlotOk K (upd H1 A o) (hideP (upd H1 A o) (own (setF fps i fp'))) (F.pin i) sl σ[i]? fp') :
    StR K F (setF fps i fp') σ (upd H1 A o) st' := by
  have gen : ∀ B : Addr → Prop, (∀ a o', H a = some o' → ¬ own fps a → ¬ B a) → Same (hideP H (own fps)) (hideP (upd H1 A o) B) := fun B hB a o' e => by
    obtain ⟨e1, e2⟩ := hideP_some.mp e
    refine hideP_some.mpr ⟨hB a o' e2 e1, ?_⟩
    rw [upd_ne (fun z => e1 ⟨i, by rw [z]; exact hA⟩)]
    exact s _ _ e2
  have hide : Same (hideP H (own fps)) (hideP (upd H1 A o) (own (setF fps i fp'))) := gen _ fun a o' e h z => by
    rcases own_setF z with m | z
    · rcases sub a m with m | ⟨m, _⟩
      · exact h ⟨i, m⟩
      · rw [m] at e; cases e
    · exact h z
  refine ⟨r.fr.trans hide, fun j => ?_, fun j j' a m1 m2 => ?_, by rw [hl]; exact r.len, fun j sl e => ?_, fun j a h m => ?_, ?_⟩
  · by_cases e : j = i
    · rw [e, setF_same]; exact nd
    · rw [setF_ne e]; exact r.nd j
  · by_cases e1 : j = i <;> by_cases e2 : j' = i
    · rw [e1, e2]
    · rw [e1, setF_same] at m1; rw [setF_ne e2] at m2
      rcases sub a m1 with m | ⟨m, _⟩
      · exact absurd (r.dj i j' a m m2) (Ne.symm e2)
      · exact absurd m (r.there ⟨j', m2⟩)
    · rw [setF_ne e1] at m1; rw [e2, setF_same] at m2
      rcases sub a m2 with m | ⟨m, _⟩
      · exact absurd (r.dj j i a m1 m) e1
      · exact absurd m (r.there ⟨j, m1⟩)
    · rw [setF_ne e1] at m1; rw [setF_ne e2] at m2
      exact r.dj j j' a m1 m2
  · by_cases e1 : j = i
    · subst e1
      rw [setF_same]
      exact hok sl e gen
    · rw [hs j e1] at e
      rw [setF_ne e1]
      exact (r.ok j sl e).mono hide fun a m => by
        rw [upd_ne (fun z => e1 (r.dj j i a m (by rw [z]; exact hA)))]
        obtain ⟨_, q, mq⟩ := r.isLst ⟨j, m⟩
        rw [q]; exact s _ _ q
  · rw [hl] at h
    by_cases eA : a = A
    · exact ⟨o, by rw [eA, upd_same], mo⟩
    · rw [upd_ne eA]
      by_cases e1 : j = i
      · rw [e1, setF_same] at m
        rcases sub a m with m | ⟨_, q⟩
        · obtain ⟨_, q, mq⟩ := r.isLst ⟨i, m⟩
          exact ⟨_, s _ _ q, mq⟩
        · exact q
      · rw [setF_ne e1] at m
        obtain ⟨_, q, mq⟩ := r.tmp j a h m
        exact ⟨_, s _ _ q, mq⟩
  · obtain ⟨m, hm⟩ := r.fin
    refine ⟨max m (i + 1), fun j h => ?_⟩
    rw [setF_ne (by have := Nat.le_max_right m (i + 1); omega)]
    exact hm j (by have := Nat.le_max_left m (i + 1); omega)

/-! ### list comprehensions -/
def wipeS (st : Sl) : List Nat → Sl
  | [] => st
  | v :: vs => (wipeS st vs).set v .un
def isV0 : Option Slot → Bool
  | some .un => true
  | some (.va 0 _) => true
  | _ => false
theorem wipeS_length (st : Sl) : ∀ vs : List Nat, (wipeS st vs).length = st.length
  | [] => rfl
  | v :: vs => by unfold wipeS; rw [List.length_set, wipeS_length st vs]
theorem wipeS_get {st : Sl} {i : Nat} : ∀ {vs : List Nat}, (wipeS st vs)[i]? = if i ∈ vs ∧ i < st.length then some .un else st[i]?
  | [] => by simp [wipeS]
  | v :: vs => by
    unfold wipeS
    by_cases hi : v = i
    · subst hi
      by_cases hv : v < st.length
      · rw [List.getElem?_set_self (by rw [wipeS_length]; exact hv), if_pos ⟨by simp, hv⟩]
      · rw [List.getElem?_eq_none (by rw [List.length_set, wipeS_length]; omega), if_neg (fun z => hv z.2), List.getElem?_eq_none (by omega)]
    · rw [List.getElem?_set_ne hi, wipeS_get]
      by_cases h : i ∈ vs ∧ i < st.length
      · rw [if_pos h, if_pos ⟨by simp [h.1], h.2⟩]
      · rw [if_neg h, if_neg (fun z => h ⟨(List.mem_cons.mp z.1).resolve_left (Ne.symm hi), z.2⟩)]
theorem wipe_get {σ : L2.St} {i : Nat} : ∀ {vs : List Nat}, (wipe σ vs)[i]? = if i ∈ vs ∧ i < σ.length then some none else σ[i]?
  | [] => by simp [wipe]
  | v :: vs => by
    unfold wipe
    by_cases hi : v = i
    · subst hi
      by_cases hv : v < σ.length
      · rw [List.getElem?_set_self (by rw [wipe_length]; exact hv), if_pos ⟨by simp, hv⟩]
      · rw [List.getElem?_eq_none (by rw [List.length_set, wipe_length]; omega), if_neg (fun z => hv z.2), List.getElem?_eq_none (by omega)]
    · rw [List.getElem?_set_ne hi, wipe_get]
      by_cases h : i ∈ vs ∧ i < σ.length
      · rw [if_pos h, if_pos ⟨by simp [h.1], h.2⟩]
      · rw [if_neg h, if_neg (fun z => h ⟨(List.mem_cons.mp z.1).resolve_left (Ne.symm hi), z.2⟩)]
theorem wipe_but {σ' : L2.St} {I vs : List Nat} (b : But I (wipe σ vs) σ') (hI : ∀ i ∈ I, i ∈ vs) : wipe σ' vs = wipe σ vs := by
  have hl : σ'.length = σ.length := by rw [b.1, wipe_length]
  apply List.ext_getElem?
  intro i
  rw [wipe_get, wipe_get, hl]
  by_cases h : i ∈ vs ∧ i < σ.length
  · rw [if_pos h, if_pos h]
  · rw [if_neg h, if_neg h]
    by_cases hm : i ∈ vs
    · have : σ.length ≤ i := by
        apply Nat.le_of_not_lt
        exact fun z => h ⟨hm, z⟩
      rw [List.getElem?_eq_none (by omega), List.getElem?_eq_none (by omega)]
    · rw [b.2 i fun z => hm (hI i z), wipe_get, if_neg (fun z => hm z.1)]
theorem StR.wipe {vs : List Nat} (r : StR K F fps σ H st) (h : ∀ v ∈ vs, isV0 st[v]? = true) : StR K F fps (L2.wipe σ vs) H (wipeS st vs) := by
  refine ⟨r.fr, r.nd, r.dj, by rw [wipe_length, wipeS_length]; exact r.len, fun i sl e => ?_, fun i a hi m => r.tmp i a (by rw [wipeS_length] at hi; exact hi) m, r.fin⟩
  rw [wipeS_get] at e
  split at e
  · rename_i hv
    cases e
    have h0 := h i hv.1
    cases es : st[i]? with
    | none => rw [es] at h0; cases h0
    | some sl =>
      rw [es] at h0
      cases sl with
      | un => exact r.ok i _ es
      | io k d => cases h0
      | va k d =>
        cases k with
        | zero =>
          obtain ⟨v, _, o⟩ := r.va es
          exact (Own.zero d v _ o).1
        | succ k => cases h0
  · rename_i hv
    have q := r.ok i sl e
    have hl := r.len
    have hi : i < st.length := (List.getElem?_eq_some_iff.mp e).1
    have hw : (L2.wipe σ vs)[i]? = σ[i]? := by
      rw [wipe_get, if_neg (fun z => hv ⟨z.1, by omega⟩)]
    rw [hw]; exact q
end

section
variable {X : Cx} {k : Nat} {kd : Kd} {e a b c tg el : Expr} {es : List Expr} {f g h : EM} {t : TM} {s1 s2 s3 : SM} {stm : Stmt} {rest as bs : List Stmt} {pos p : Pos} {K : PySem.W.Frag} {I : List Nat}
def lcL (m : GM) (t : TM) (f : EM) (st : Sl) : List D → Option (List D)
  | [] => some []
  | d :: ds => (m d st).bind fun st1 => (t st1).bind fun b => if b = true then (f st1).bind fun y => (lcL m t f st ds).map (y :: ·) else lcL m t f st ds
def eLc (vs : List Nat) (its : IM) (m : GM) (t : TM) (f : EM) : EM := fun st => (its st).bind fun ds => if (vs.all (fun v => isV0 st[v]?) && decide (ds.length < 16777216)) = true then (lcL m t f (wipeS st vs) ds).map .lst else none
theorem tF_lc {vs : List Nat} {its : IM} {m : GM} (hI : ∀ i ∈ I, i ∈ vs) {σ : L2.St} {H : Hp} {Q : VK} (hh : tF K (.ow (k + 1)) (eLc vs its m t f) σ H Q) : tLc (tFI K its) (tFG K I m) (tFT K t) (tF K (.ow k) f) vs σ H Q := by
  obtain ⟨F, fps, st, d, r, ed, q⟩ := hh
  unfold eLc at ed
  cases e1 : its st with
  | none => rw [e1] at ed; cases ed
  | some ds =>
    rw [e1] at ed
    have ed : (if (vs.all (fun v => isV0 st[v]?) && decide (ds.length < 16777216)) = true then (lcL m t f (wipeS st vs) ds).map D.lst else none) = some d := ed
    split at ed
    · rename_i hc
      have hc := Bool.and_eq_true_iff.mp hc
      have hv : ∀ v ∈ vs, isV0 st[v]? = true := List.all_eq_true.mp hc.1
      have hlen : ds.length < sizeLine := by rw [sizeLine_eq]; exact of_decide_eq_true hc.2
      cases el : lcL m t f (wipeS st vs) ds with
      | none => rw [el] at ed; cases ed
      | some tot =>
        rw [el] at ed; cases ed
        refine ⟨F, fps, st, ds, r, e1, fun J H1 q1 dl D nD => ?_⟩
        have r1 := r.mono q1
        have rw1 : StR K ⟨hideP H1 (own fps), F.pin⟩ fps (wipe σ vs) H1 (wipeS st vs) := by
          have x := r1.wipe hv
          exact ⟨Same.refl _, x.nd, x.dj, x.len, x.ok, x.tmp, x.fin⟩
        have sD : Same H1 (upd H1 D (.lst [])) := same_upd nD
        obtain ⟨n0, hn0, hn1, rD⟩ : ∃ n0, st.length ≤ n0 ∧ fps n0 = [] ∧ StR K ⟨hideP H1 (own fps), F.pin⟩ (setF fps n0 [D]) (wipe σ vs) (upd H1 D (.lst [])) (wipeS st vs) := by
          obtain ⟨m0, hm0⟩ := r.fin
          have ho : ∀ a, own fps a → H1 a ≠ none := fun a h => r1.there h
          have hide : Same (hideP H1 (own fps)) (hideP (upd H1 D (.lst [])) (own (setF fps (max m0 st.length) [D]))) := hideP_mono sD fun a o e h z => by
            rcases own_setF z with m | z
            · have : a = D := by simpa using m
              rw [this, nD] at e; cases e
            · exact h z
          have hz : fps (max m0 st.length) = [] := hm0 _ (Nat.le_max_left _ _)
          have hge := Nat.le_max_right m0 st.length
          refine ⟨max m0 st.length, hge, hz, hide, fun i => ?_, fun i j a m1 m2 => ?_, rw1.len, fun i sl e => ?_, fun i a h m => ?_, max m0 st.length + 1, fun i h => ?_⟩
          · by_cases e : i = max m0 st.length
            · rw [e, setF_same]; simp
            · rw [setF_ne e]; exact r.nd i
          · by_cases e1 : i = max m0 st.length <;> by_cases e2 : j = max m0 st.length
            · rw [e1, e2]
            · rw [e1, setF_same] at m1; rw [setF_ne e2] at m2
              have : a = D := by simpa using m1
              subst this
              exact absurd nD (ho _ ⟨j, m2⟩)
            · rw [setF_ne e1] at m1; rw [e2, setF_same] at m2
              have : a = D := by simpa using m2
              subst this
              exact absurd nD (ho _ ⟨i, m1⟩)
            · rw [setF_ne e1] at m1; rw [setF_ne e2] at m2
              exact r.dj i j a m1 m2
          · have hi : i < st.length := by have := (List.getElem?_eq_some_iff.mp e).1; rw [wipeS_length] at this; exact this
            rw [setF_ne (by omega)]
            exact (rw1.ok i sl e).mono hide fun a m => by
              obtain ⟨_, q, mq⟩ := rw1.isLst ⟨i, m⟩
              rw [q]; exact sD _ _ q
          · by_cases e : i = max m0 st.length
            · rw [e, setF_same] at m
              have : a = D := by simpa using m
              subst this
              exact ⟨_, upd_same, True.intro⟩
            · rw [setF_ne e] at m
              obtain ⟨_, q, mq⟩ := rw1.tmp i a h m
              exact ⟨_, sD _ _ q, mq⟩
          · rw [setF_ne (by omega)]
            exact hm0 i (by have := Nat.le_max_left m0 st.length; omega)
        refine ⟨fun i n H2 => n = ds.length - i ∧ i ≤ ds.length ∧ Same H1 H2 ∧ ∃ fp done tl, StR K ⟨hideP H1 (own fps), F.pin⟩ (setF fps n0 fp) (wipe σ vs) H2 (wipeS st vs) ∧ (∀ a ∈ fp, H1 a = none) ∧ Own K H2 (hideP H2 (own (setF fps n0 fp))) (.lst done) (k + 1) (.ref D) fp ∧
          done.length ≤ i ∧ lcL m t f (wipeS st vs) (ds.drop i) = some tl ∧ done ++ tl = tot, ⟨ds.length, by simp, Nat.zero_le _, sD, [D], [], tot, rD, fun a m => ?_, ⟨D, [], [], rfl, upd_same, rfl, rfl, rfl⟩, Nat.zero_le _, el, rfl⟩, ?_⟩
        · have : a = D := by simpa using m
          rw [this]; exact nD
        · rintro i n H2 ⟨rfl, hi, sH, fp, done, tl, r2, fr2, o2, hd, e2, et⟩
          have dl' := dl i H2 (own (setF fps n0 fp)) (fun a h => r2.there h) r2.fr
          by_cases hlt : i < ds.length
          · have ed : ds.drop i = ds[i] :: ds.drop (i + 1) := List.drop_eq_getElem_cons hlt
            rw [ed] at e2
            obtain ⟨hgo, hy⟩ := dl'.2 ds[i] (by simp [hlt])
            refine .inr ⟨hgo, fun H3 => Same H1 H3 ∧ ∃ fp done tl, StR K ⟨hideP H1 (own fps), F.pin⟩ (setF fps n0 fp) (wipe σ vs) H3 (wipeS st vs) ∧ (∀ a ∈ fp, H1 a = none) ∧ Own K H3 (hideP H3 (own (setF fps n0 fp))) (.lst done) (k + 1) (.ref D) fp ∧
              done.length ≤ i + 1 ∧ lcL m t f (wipeS st vs) (ds.drop (i + 1)) = some tl ∧ done ++ tl = tot, fun H3 h3 => ⟨ds.length - (i + 1), by omega, rfl, hlt, h3.1, h3.2⟩, fun x H3 y => ?_⟩
            obtain ⟨sx, rx⟩ := hy x H3 y
            have e2 : ((m ds[i] (wipeS st vs)).bind fun st1 => (t st1).bind fun b => if b = true then (f st1).bind fun y => (lcL m t f (wipeS st vs) (ds.drop (i + 1))).map (y :: ·) else lcL m t f (wipeS st vs) (ds.drop (i + 1))) = some tl := e2
            cases em : m ds[i] (wipeS st vs) with
            | none => rw [em] at e2; cases e2
            | some st1 =>
              rw [em] at e2
              refine ⟨_, _, _, ds[i], st1, r2.mono sx, rx, em, fun σ3 fps3 r3 sm bt bf => ⟨wipe_but bt hI, ?_⟩⟩
              have e2 : ((t st1).bind fun b => if b = true then (f st1).bind fun y => (lcL m t f (wipeS st vs) (ds.drop (i + 1))).map (y :: ·) else lcL m t f (wipeS st vs) (ds.drop (i + 1))) = some tl := e2
              cases etb : t st1 with
              | none => rw [etb] at e2; cases e2
              | some bb =>
                rw [etb] at e2
                refine ⟨_, fps3, st1, bb, r3, etb, fun H4 s4 => ?_⟩
                have s34 := sx.trans s4
                cases bb with
                | false =>
                  refine iteF ?_
                  have r4 := r2.mono s34
                  exact ⟨sH.trans s34, fp, done, tl, r4, fr2, Own.mono (hideP_mono s34 fun _ _ _ h => h) _ _ _ _ (fun a m => by
                    obtain ⟨_, q, _⟩ := r2.isLst ⟨n0, by rw [setF_same]; exact m⟩
                    rw [q]; exact s34 _ _ q) o2, by omega, e2, et⟩
                | true =>
                  refine iteT ?_
                  have e2 : ((f st1).bind fun y => (lcL m t f (wipeS st vs) (ds.drop (i + 1))).map (y :: ·)) = some tl := e2
                  cases ef : f st1 with
                  | none => rw [ef] at e2; cases e2
                  | some yd =>
                    rw [ef] at e2
                    refine ⟨_, fps3, st1, yd, r3.mono s4, ef, fun v H5 s5 w5 => ?_⟩
                    have s35 := s34.trans s5
                    obtain ⟨fq, nq, fq0, oq⟩ := w5
                    have e2 : (lcL m t f (wipeS st vs) (ds.drop (i + 1))).map (yd :: ·) = some tl := e2
                    cases er : lcL m t f (wipeS st vs) (ds.drop (i + 1)) with
                    | none => rw [er] at e2; cases e2
                    | some tl2 =>
                      rw [er] at e2; cases e2
                      obtain ⟨D', acc, fpa, hD', hacc, efp, oacc⟩ := o2
                      cases hD'
                      have hDm : D ∈ fp := by rw [efp]; exact List.mem_cons_self
                      have hD5 : H5 D = some (.lst acc) := s35 _ _ hacc
                      refine ⟨acc, hD5, by have := oacc.len; omega, ?_⟩
                      have fq2 : ∀ a ∈ fq, H2 a = none := fun a m => s34.free (fq0 a m)
                      have dis : ∀ a, a ∈ fp → a ∈ fq → False := fun a m m2 => by
                        obtain ⟨_, q, _⟩ := r2.isLst ⟨n0, by rw [setF_same]; exact m⟩
                        rw [fq2 a m2] at q; cases q
                      have hDq : ∀ a ∈ fq, a ≠ D := fun a m z => dis D hDm (z ▸ m)
                      have nfp : fp.Nodup := by have := r2.nd n0; rw [setF_same] at this; exact this
                      have nall : (fp ++ fq).Nodup := List.nodup_append.mpr ⟨nfp, nq, fun a m b m2 e => dis a m (e ▸ m2)⟩
                      have lstq := Own.isLst yd k v fq oq
                      have rB := r2.bump (i := n0) (A := D) (o := .lst (acc ++ [v])) (fp' := fp ++ fq) (st' := wipeS st vs) s35 (by rw [setF_same]; exact hDm) True.intro nall (fun a m => by
                        rcases List.mem_append.mp m with m | m
                        · rw [setF_same]; exact .inl m
                        · exact .inr ⟨fq2 a m, lstq a m⟩) rfl (fun _ _ => rfl) (fun sl e => by
                          exfalso
                          have := (List.getElem?_eq_some_iff.mp e).1
                          rw [wipeS_length] at this
                          omega)
                      have eset : setF (setF fps n0 fp) n0 (fp ++ fq) = setF fps n0 (fp ++ fq) := by
                        funext j
                        by_cases ej : j = n0
                        · subst ej; rw [setF_same, setF_same]
                        · rw [setF_ne ej, setF_ne ej, setF_ne ej]
                      rw [eset] at rB
                      have hideB : Same (hideP H2 (own (setF fps n0 fp))) (hideP (upd H5 D (.lst (acc ++ [v]))) (own (setF fps n0 (fp ++ fq)))) := fun a o e => by
                        obtain ⟨z1, z2⟩ := hideP_some.mp e
                        have aD : a ≠ D := fun z => z1 ⟨n0, by rw [setF_same, z]; exact hDm⟩
                        refine hideP_some.mpr ⟨fun z => ?_, by rw [upd_ne aD]; exact s35 _ _ z2⟩
                        rcases own_setF z with m | ⟨j, m⟩
                        · rcases List.mem_append.mp m with m | m
                          · exact z1 ⟨n0, by rw [setF_same]; exact m⟩
                          · rw [fq2 a m] at z2; cases z2
                        · by_cases ej : j = n0
                          · subst ej; rw [hn1] at m; cases m
                          · exact z1 ⟨j, by rw [setF_ne ej]; exact m⟩
                      refine ⟨fun a o e => ?_, fp ++ fq, done ++ [yd], tl2, rB, fun a m => ?_, ?_, ?_, rfl, ?_⟩
                      · have : a ≠ D := fun z => by rw [z, fr2 D hDm] at e; cases e
                        rw [upd_ne this]
                        exact s35 _ _ (sH _ _ e)
                      · rcases List.mem_append.mp m with m | m
                        · exact fr2 a m
                        · exact sH.free (fq2 a m)
                      · refine ⟨D, acc ++ [v], fpa ++ fq, rfl, upd_same, by rw [efp]; rfl, OwnL.app (OwnL.mono hideB done k acc fpa (fun a m => ?_) oacc) (OwnL.one (Own.mono (fun a o e => ?_) yd k v fq (fun a m => upd_ne (hDq a m)) oq))⟩
                        · have m' : a ∈ fp := by rw [efp]; exact List.mem_cons_of_mem _ m
                          have aD : a ≠ D := fun z => by
                            rw [efp] at nfp
                            exact (List.nodup_cons.mp nfp).1 (z ▸ m)
                          rw [upd_ne aD]
                          obtain ⟨_, q, _⟩ := r2.isLst ⟨n0, by rw [setF_same]; exact m'⟩
                          rw [q]; exact s35 _ _ q
                        · -- what the element reads
                          obtain ⟨z1, z2⟩ := hideP_some.mp e
                          have n3 : ∀ j, j ∉ I → fps3 j = setF fps n0 fp j := fun j hj => by rw [bf j, if_neg hj]
                          have hn0I : n0 ∉ I := fun z => by
                            have h0 := hv n0 (hI n0 z)
                            rw [List.getElem?_eq_none hn0] at h0; cases h0
                          have aD : a ≠ D := fun z => z1 (.inr ⟨n0, by rw [n3 n0 hn0I, setF_same, z]; exact hDm⟩)
                          refine hideP_some.mpr ⟨fun z => ?_, by rw [upd_ne aD]; exact z2⟩
                          rcases own_setF z with m | ⟨j, m⟩
                          · rcases List.mem_append.mp m with m | m
                            · exact z1 (.inr ⟨n0, by rw [n3 n0 hn0I, setF_same]; exact m⟩)
                            · exact z1 (.inl m)
                          · by_cases ej : j = n0
                            · subst ej; rw [hn1] at m; cases m
                            · by_cases hjI : j ∈ I
                              · -- a slot of the block: it had nothing
                                have h0 := hv j (hI j hjI)
                                cases es : st[j]? with
                                | none => rw [es] at h0; cases h0
                                | some sl =>
                                  rw [es] at h0
                                  cases sl with
                                  | un => rw [show fps j = [] from r.ok j _ es] at m; cases m
                                  | io k d => cases h0
                                  | va k d =>
                                    cases k with
                                    | zero =>
                                      obtain ⟨v', _, o⟩ := r.va es
                                      rw [(Own.zero d v' _ o).1] at m; cases m
                                    | succ k => cases h0
                              · exact z1 (.inr ⟨j, by rw [n3 j hjI, setF_ne ej]; exact m⟩)
                      · rw [List.length_append]; show done.length + 1 ≤ i + 1; omega
                      · rw [List.append_assoc]; exact et
          · have hz : ds.length ≤ i := by omega
            rw [List.drop_eq_nil_of_le hz] at e2
            cases e2
            rw [List.append_nil] at et
            subst et
            refine .inl ⟨dl'.1 hz, q _ H2 (q1.trans sH) ⟨fp, by have := r2.nd n0; rw [setF_same] at this; exact this, fun a m => q1.free (fr2 a m), Own.mono (hideP_mono (Same.refl _) fun a o _ h z => h ?_) _ _ _ _ (fun _ _ => rfl) o2⟩⟩
            exact own_setF' hn1 z
    · cases ed
theorem fe_lc {its : IM} {m : GM} {iter : Expr} {ifs : List Expr} {scope : Scope} {ow : List (Str × Nat)} (hc : X.calm = true) (hN : X.N.Nodup) (hi : FI X tg iter its) (ok : BlkOk X.N X.env.scope scope ow) (hI : ∀ i ∈ I, i ∈ ow.map (·.2))
    (hg : ∀ (s : Shared) (H : Hp) (C : Addr) (cl : List (Str × Addr)) (fp : List Addr), FG (X.blk s H scope (compEnvC scope cl C X.env) fp) I tg m) (ht : ∀ (s : Shared) (H : Hp) (C : Addr) (cl : List (Str × Addr)) (fp : List Addr), PTs (X.blk s H scope (compEnvC scope cl C X.env) fp) ifs (tFT X.K t))
    (he : ∀ (s : Shared) (H : Hp) (C : Addr) (cl : List (Str × Addr)) (fp : List Addr), FE (X.blk s H scope (compEnvC scope cl C X.env) fp) (.ow k) el f) (hs : ∀ x, foldedSetIterable iter X.env x = pure x := by intro _; rfl) :
    FE X (.ow (k + 1)) (.ListComp el [⟨tg, iter, ifs, 0⟩] scope pos) (eLc (ow.map (·.2)) its m t f) :=
  PE.weak (pe_lc hc hN hi ok hg ht he hs) fun _ _ _ => tF_lc hI
def qYes : TM := fun _ => some true
theorem pts_yes : PTs X [] (tFT X.K qYes) := ⟨fun pins s σ H Q I hw => pts_nil.run pins s σ H Q I (by
  obtain ⟨F, fps, st, b, r, e, q⟩ := hw
  cases e
  exact q H (Same.refl H))⟩
theorem pts_t (hc : FT X c t) : PTs X [c] (tFT X.K t) := pts_one hc
theorem fs_setLc {i : Nat} {y : Str} {py spos : Pos} {k' : Nat} {its : IM} {m : GM} {iter : Expr} {ifs : List Expr} {scope : Scope} {ow : List (Str × Nat)} (hc : X.calm = true) (hN : X.N.Nodup) (hy : X.N[i]? = some y) (hyl : X.env.scope.names.lookup y = some .local)
    (hsw : swapsWith (.ListComp el [⟨tg, iter, ifs, 0⟩] scope pos) (some (.Name y py)) spos.line X.env = pure true) (hi : FI X tg iter its) (ok : BlkOk X.N X.env.scope scope ow) (hI : ∀ i ∈ I, i ∈ ow.map (·.2))
    (hg : ∀ (s : Shared) (H : Hp) (C : Addr) (cl : List (Str × Addr)) (fp : List Addr), FG (X.blk s H scope (compEnvC scope cl C X.env) fp) I tg m) (ht : ∀ (s : Shared) (H : Hp) (C : Addr) (cl : List (Str × Addr)) (fp : List Addr), PTs (X.blk s H scope (compEnvC scope cl C X.env) fp) ifs (tFT X.K t))
    (he : ∀ (s : Shared) (H : Hp) (C : Addr) (cl : List (Str × Addr)) (fp : List Addr), FE (X.blk s H scope (compEnvC scope cl C X.env) fp) (.ow k') el f) (hs : ∀ x, foldedSetIterable iter X.env x = pure x := by intro _; rfl) :
    FS X k (.Assign [.Name y py] (.ListComp el [⟨tg, iter, ifs, 0⟩] scope pos) spos) (sSet i (k' + 1) (eLc (ow.map (·.2)) its m t f)) :=
  PS.weak (ps_setLc hc hN hy hyl hsw hi ok hg ht he hs) fun Dn σ H h => tF_lc (K := X.K) hI (tF_set h)
end
end FL

namespace FL
open PySem PySem.Spec PyProof.Rows L2

/-! ### defs -/
/-- a def of n parameters computes m; the lists of the upper k levels of what it hands back are new -/
def spF (K : PySem.W.Frag) (n k : Nat) (m : List D → Option D) : Sp := fun vs H Q _ => vs.length = n ∧ ∃ ds d, RepL K H ds vs ∧ m ds = some d ∧
  ∀ v H', Same H H' → (∃ fp : List Addr, fp.Nodup ∧ (∀ a ∈ fp, H a = none) ∧ Own K H' (hideP H' (· ∈ fp)) d k v fp) → Q v H'
def fnRun (n : Nat) (g : SM) : List D → Option D := fun ds => match g (ds.map (Slot.va 0) ++ List.replicate (n - ds.length) .un) with
  | some (.rt d _) => some d
  | some (.nx _) => some .non
  | _ => none
section
variable {P : Program} {w : World} {K : PySem.W.Frag} {mg : Str → Option Value} {base : Heap} {H : Hp}
theorem rep_start : ∀ {ds : List D} {vs : List V} {F : Hp} (i : Nat) (d : D), RepL K F ds vs → ds[i]? = some d → ∃ v, (vs.map some)[i]? = some (some v) ∧ Rep K F d v := fun i d r e => by
  obtain ⟨v, h1, h2⟩ := r.get e
  exact ⟨v, by rw [List.getElem?_map, h1]; rfl, h2⟩
theorem StR.init {N : List Str} {ds : List D} {vs : List V} (r : RepL K H ds vs) : StR K ⟨H, fun _ => .non⟩ (fun _ => []) (L2.start N vs) H (ds.map (Slot.va 0) ++ List.replicate (N.length - ds.length) .un) := by
  have hl := r.length
  have e0 : hideP H (own fun _ => []) = H := by
    funext a
    exact hideP_not fun ⟨_, m⟩ => by cases m
  refine ⟨by rw [e0]; exact Same.refl H, fun _ => List.nodup_nil, fun _ _ _ m => (by cases m), ?_, fun i sl e => ?_, fun i a _ m => (by cases m), 0, fun _ _ => rfl⟩
  · unfold L2.start
    simp only [List.length_append, List.length_map, List.length_replicate, hl]
  · rw [e0]
    by_cases hi : i < ds.length
    · rw [List.getElem?_append_left (by simpa using hi), List.getElem?_map] at e
      cases ed : ds[i]? with
      | none => rw [ed] at e; cases e
      | some d =>
        rw [ed] at e; cases e
        obtain ⟨v, h1, h2⟩ := r.get ed
        refine ⟨v, ?_, Own.shared d v h2⟩
        unfold L2.start
        rw [List.getElem?_append_left (by simpa [hl] using hi), List.getElem?_map, h1]
        rfl
    · rw [List.getElem?_append_right (by simpa using Nat.le_of_not_lt hi)] at e
      rw [List.getElem?_replicate] at e
      split at e
      · cases e; exact rfl
      · cases e
theorem RetOk.plain {F : Fr} {k : Nat} {d : D} {v : V} {st : Sl} {H' : Hp} (h : RetOk K F H' k d v st) : Same F.G H' ∧ ∃ fp : List Addr, fp.Nodup ∧ (∀ a ∈ fp, F.G a = none) ∧ Own K H' (hideP H' (· ∈ fp)) d k v fp := by
  obtain ⟨fps, fp, h1, _, _, _, h5, h6, _⟩ := h
  refine ⟨h5.trans hideP_same, fp, h1, fun a m => ?_, Own.mono (hideP_mono (Same.refl _) fun a o _ h z => h (.inl z)) d k v fp (fun _ _ => rfl) h6⟩
  cases e : F.G a with
  | none => rfl
  | some o => exact ((hideP_some.mp (h5 _ _ e)).1 (.inl m)).elim
theorem fn_ok {x qual : Str} {st : Stmt} {f : Addr} {fd : FuncData} {N ps : List Str} {k : Nat} (F : Fun K x qual st f fd) (S : FnScope N ps (defScope st)) (kr : Nat) (g : SM)
    (hb : ∀ (cdv : Value) (A : Around) (outer : List Env) (s : Shared) (H : Hp) (E : XK), Room k (A.deeper (envOfC qual (defScope st) s.heap.objs.size f cdv)) → FSs (cxOf CX0 P w K mg base N qual (defScope st) f cdv A outer s H E).nox kr (defBody st) g) :
    FnOk P w K mg base CX0 (k + 1) f fd ps (spF K ps.length kr (fnRun N.length g)) := by
  refine F.ok S (fun vs H Q E h => h.1) (fun cdv A outer s H vs Q E hr h => ⟨_, hb cdv A outer s H E hr, ?_⟩)
  obtain ⟨hl, ds, d, r, e, q⟩ := h
  unfold fnRun at e
  cases eg : g (ds.map (Slot.va 0) ++ List.replicate (N.length - ds.length) .un) with
  | none => rw [eg] at e; cases e
  | some o =>
    rw [eg] at e
    refine ⟨⟨H, fun _ => .non⟩, _, o, ⟨_, StR.init r⟩, eg, ?_⟩
    cases o with
    | nx st' =>
      cases e
      intro σ' H' ⟨fps', r'⟩
      obtain ⟨h1, h2⟩ := RetOk.plain (k := kr) (r'.ret (Same.refl H') (VR.sc (d := .non) rfl rfl))
      exact q .non H' h1 h2
    | rt d' st' =>
      cases e
      intro v H' h
      obtain ⟨h1, h2⟩ := h.plain
      exact q v H' h1 h2
    | bk _ => cases e
    | ct _ => cases e
end

section
variable {X : Cx} {k n j : Nat} {kd : Kd} {e a b c tg el : Expr} {es : List Expr} {f g h : EM} {fa : AM} {pos p : Pos} {x : Str} {K : PySem.W.Frag} {m : List D → Option D} {fn : Addr} {fd : FuncData} {ps : List Str}
def eCall (m : List D → Option D) (f : AM) : EM := fun st => (f st).bind m
theorem tF_call {σ : L2.St} {H : Hp} {Q : VK} {E : XK} {dds : List D} (hd : dds.all sc = true) (h : tF K .rd (eCall (fun ds => m (ds ++ dds)) fa) σ H Q) (hl : ∀ st ds, fa st = some ds → ds.length + dds.length = n) : tCall (spF K n k m) (dds.map scV) E (tFA K .rd fa) σ H Q := by
  obtain ⟨F, fps, st, d, r, ed, q⟩ := h
  unfold eCall at ed
  cases e1 : fa st with
  | none => rw [e1] at ed; cases ed
  | some ds =>
    rw [e1] at ed
    refine ⟨F, fps, st, ds, r, e1, fun vs H1 s1 w => ⟨?_, ds ++ dds, d, ?_, ed, fun v H2 s2 ⟨fp, _, _, o⟩ => q v H2 (s1.trans s2) (Own.rep hideP_same d k v fp (fun _ _ => rfl) o)⟩⟩
    · rw [List.length_append, List.length_map, VRL.length w]; exact hl st ds e1
    · refine RepL.app w ?_
      clear e1 ed hl
      induction dds with
      | nil => exact rfl
      | cons d0 r0 ih =>
        have hd' : (sc d0 && r0.all sc) = true := hd
        have h2 := Bool.and_eq_true_iff.mp hd'
        refine ⟨scV d0, r0.map scV, rfl, ?_, ih h2.2⟩
        have h1 := h2.1
        cases d0 <;> first | rfl | cases h1
/-- how many -/
def ALen (n : Nat) (f : AM) : Prop := ∀ st ds, f st = some ds → ds.length = n
theorem alen_nil : ALen 0 aNil := fun st ds e => by cases e; rfl
theorem alen_cons {f : EM} {g : AM} (h : ALen n g) : ALen (n + 1) (aCons f g) := fun st ds e => by
  unfold aCons at e
  obtain ⟨x, xs, _, e2, e3⟩ := bind2 e
  cases e3
  rw [List.length_cons, h st xs e2]
theorem fe_call (G : FnOk X.prog X.w X.K X.mg X.base CX0 j fn fd ps (spF X.K n k m)) (hr : Room j X.A) (hg : Gl X x) (hm : X.mg x = some (.ref fn)) (hk : PySem.W.keepIn X.K (.ref fn) = true) (hb : Binds X.K fd ps []) (ha : FA X .rd (e :: es) fa) (hl : ALen n fa) (hdb : (x == ("__debug__" : Str)) = false := by decide)
    (he : starEach (e :: es) X.env = (false, eval e X.env) :: starEach es X.env := by rfl) (hpl : (backTo pos (starEach es X.env)).any (·.1) = false := by rfl) : FE X .rd (.Call (.Name x p) (e :: es) [] pos) (eCall m fa) :=
  PE.weak (pe_call G hr hg hm hk hb .nil (pass0 (X := X)) ha hdb he hpl) fun σ H Q h => by
    have := tF_call (dds := []) (m := m) (k := k) (n := n) (E := E0) rfl (by simpa using h) (fun st ds e => by simpa using hl st ds e)
    simpa using this
def eCallO (k : Nat) (m : List D → Option D) (f : AM) : EM := fun st => ((f st).bind m).bind (chk k)
theorem Own.rebase {H : Hp} {d : D} {k : Nat} {v : V} {fp : List Addr} {B : Addr → Prop} (f : full d k = true) (hB : ∀ a, B a → ∃ o, H a = some o ∧ MutO o) (h : Own K H (hideP H (· ∈ fp)) d k v fp) : Own K H (hideP H B) d k v fp :=
  Own.move (fun a o e n => (hideP_keeps hB) a o (hideP_some.mp e).2 n) d k v fp f h
theorem fe_callO (G : FnOk X.prog X.w X.K X.mg X.base CX0 j fn fd ps (spF X.K n k m)) (hr : Room j X.A) (hg : Gl X x) (hm : X.mg x = some (.ref fn)) (hk : PySem.W.keepIn X.K (.ref fn) = true) (hb : Binds X.K fd ps []) (ha : FA X .rd (e :: es) fa) (hl : ALen n fa) (hdb : (x == ("__debug__" : Str)) = false := by decide)
    (he : starEach (e :: es) X.env = (false, eval e X.env) :: starEach es X.env := by rfl) (hpl : (backTo pos (starEach es X.env)).any (·.1) = false := by rfl) : FE X (.ow k) (.Call (.Name x p) (e :: es) [] pos) (eCallO k m fa) :=
  PE.weak (pe_call G hr hg hm hk hb .nil (pass0 (X := X)) ha hdb he hpl) fun σ H Q ⟨F, fps, st, d, r, ed, q⟩ => by
    unfold eCallO at ed
    obtain ⟨ed, fl⟩ := chk_some ed
    cases e1 : fa st with
    | none => rw [e1] at ed; cases ed
    | some ds =>
      rw [e1] at ed
      refine ⟨F, fps, st, ds, r, e1, fun vs H1 s1 w => ⟨by simpa using (VRL.length w).trans (hl st ds e1), ds, d, by rw [List.append_nil]; exact w, ed, fun v H2 s2 ⟨fp, n, fr, o⟩ => ?_⟩⟩
      refine q v H2 (s1.trans s2) ⟨fp, n, fun a m => s1.free (fr a m), Own.rebase fl (fun a z => ?_) o⟩
      rcases z with m | z
      · exact Own.isLst d k v fp o a m
      · exact (r.mono (s1.trans s2)).isLst z
/-- a call while no slot owns a list: what comes is shared -/
def noOwn : Sl → Bool
  | [] => true
  | .un :: r => noOwn r
  | .va 0 _ :: r => noOwn r
  | _ => false

/-! ### lists changed in place -/
def slD : Option Slot → Option (Nat × D)
  | some (.va k d) => some (k, d)
  | some (.io k d) => some (k, d)
  | _ => none
def putD (d : D) : Slot → Slot
  | .va k _ => .va k d
  | .io k _ => .io k d
  | .un => .un
/-- the datum of a slot replaced -/
def setD (st : Sl) (i : Nat) (d : D) : Sl := match st[i]? with
  | some s => st.set i (putD d s)
  | none => st
theorem setD_length {st : Sl} {i : Nat} {d : D} : (setD st i d).length = st.length := by
  unfold setD
  split
  · rw [List.length_set]
  · rfl
theorem setD_ne {st : Sl} {i j : Nat} {d : D} (h : j ≠ i) : (setD st i d)[j]? = st[j]? := by
  unfold setD
  split
  · rw [List.getElem?_set_ne (Ne.symm h)]
  · rfl
/-- the slot i holds d at level k, at v -/
theorem StR.sl {F : Fr} {fps : Fps} {σ : L2.St} {H : Hp} {st : Sl} {i k : Nat} {d : D} (r : StR K F fps σ H st) (e : slD st[i]? = some (k, d)) : ∃ v, σ[i]? = some (some v) ∧ Own K H (hideP H (own fps)) d k v (fps i) := by
  unfold slD at e
  split at e
  · cases e; exact r.va (by assumption)
  · cases e
    obtain ⟨h1, h2⟩ := r.io (by assumption)
    exact ⟨_, h1, h2⟩
  · cases e
theorem slD_put {F' H' : Hp} {p v : V} {st : Sl} {i k : Nat} {d d' : D} {sl : Slot} {sv : Option (Option V)} {fp : List Addr} {G G' : Hp} {fpo : List Addr} (e : slD st[i]? = some (k, d)) (h0 : ∀ s, st[i]? = some s → SlotOk K G G' p s sv fpo) (ev : sv = some (some v)) (e2 : (setD st i d')[i]? = some sl) (o : Own K H' F' d' k v fp) : SlotOk K H' F' p sl sv fp := by
  unfold setD at e2
  cases es : st[i]? with
  | none => rw [es] at e; cases e
  | some s =>
    rw [es] at e e2
    have e2 : (st.set i (putD d' s))[i]? = some sl := e2
    rw [List.getElem?_set_self (List.getElem?_eq_some_iff.mp es).1] at e2
    cases e2
    cases s with
    | un => cases e
    | va k' d0 =>
      cases e
      exact ⟨v, ev, o⟩
    | io k' d0 =>
      cases e
      obtain ⟨h1, _⟩ := h0 _ es
      rw [ev] at h1
      cases h1
      exact ⟨ev, o⟩
/-- x.append(e) -/
def sApp (i : Nat) (k : Nat) (f : EM) : SM := fun st => match slD st[i]? with
  | some (k', .lst ds) => if (k' == k + 1 && decide (ds.length < 16777216)) = true then (f st).map fun d => .nx (setD st i (.lst (ds ++ [d]))) else none
  | _ => none
theorem tF_app {i k kr : Nat} {Dn : Ends} {σ : L2.St} {H : Hp} (h : tFS K kr (sApp i k f) Dn σ H) : tDrop (tBM K "list" rAppend (tVar i) (tCons (tF K (.ow k) f) tNil)) Dn σ H := by
  obtain ⟨F, st, o, ⟨fps, r⟩, e, c⟩ := h
  unfold sApp at e
  split at e
  · rename_i k' ds hs
    split at e
    · rename_i hk
      have hk := Bool.and_eq_true_iff.mp hk
      have ek : k' = k + 1 := by simpa using hk.1
      subst ek
      have hlen : ds.length < sizeLine := by rw [sizeLine_eq]; exact of_decide_eq_true hk.2
      cases e1 : f st with
      | none => rw [e1] at e; cases e
      | some d =>
        rw [e1] at e; cases e
        obtain ⟨v0, ev, L, xs, fpa, eL, hL, efp, oL⟩ := r.sl hs
        subst eL
        refine ⟨.ref L, ev, .inl ⟨rfl, xs, .inl (.inl hL)⟩, F, fps, st, d, r, e1, fun v H1 s1 w => ?_⟩
        obtain ⟨fq, nq, fr, oq⟩ := w
        refine ⟨L, xs, v, rfl, rfl, s1 _ _ hL, by rw [oL.len]; exact hlen, ?_⟩
        have hm : L ∈ fps i := by rw [efp]; exact List.mem_cons_self
        have dis : ∀ a, a ∈ fps i → a ∈ fq → False := fun a m m2 => r.there ⟨i, m⟩ (fr a m2)
        have nall : (fps i ++ fq).Nodup := List.nodup_append.mpr ⟨r.nd i, nq, fun a m b m2 e => dis a m (e ▸ m2)⟩
        refine c σ _ ⟨setF fps i (fps i ++ fq), r.bump (A := L) (o := .lst (xs ++ [v])) (fp' := fps i ++ fq) s1 hm True.intro nall (fun a m => ?_) setD_length (fun j hj => setD_ne hj) fun sl e2 gen => ?_⟩
        · rcases List.mem_append.mp m with m | m
          · exact .inl m
          · exact .inr ⟨fr a m, Own.isLst d k v fq oq a m⟩
        · refine slD_put hs (fun s es => r.ok i s es) ev e2 ?_
          have nin : ∀ a o', H a = some o' → ¬ own fps a → ¬ own (setF fps i (fps i ++ fq)) a := fun a o' e h z => by
            rcases own_setF z with m | z
            · rcases List.mem_append.mp m with m | m
              · exact h ⟨i, m⟩
              · rw [fr a m] at e; cases e
            · exact h z
          refine ⟨L, xs ++ [v], fpa ++ fq, rfl, upd_same, by rw [efp]; rfl, OwnL.app (OwnL.mono (gen _ nin) ds k xs fpa (fun a m => ?_) oL) (OwnL.one (Own.mono (fun a o' e => ?_) d k v fq (fun a m => upd_ne fun z => dis L hm (z ▸ m)) oq))⟩
          · have m' : a ∈ fps i := by rw [efp]; exact List.mem_cons_of_mem _ m
            have aL : a ≠ L := fun z => by
              have := r.nd i
              rw [efp] at this
              exact (List.nodup_cons.mp this).1 (z ▸ m)
            rw [upd_ne aL]
            obtain ⟨_, q, _⟩ := r.isLst ⟨i, m'⟩
            rw [q]; exact s1 _ _ q
          · obtain ⟨z1, z2⟩ := hideP_some.mp e
            have aL : a ≠ L := fun z => z1 (.inr ⟨i, z ▸ hm⟩)
            refine hideP_some.mpr ⟨fun z => ?_, by rw [upd_ne aL]; exact z2⟩
            rcases own_setF z with m | z
            · rcases List.mem_append.mp m with m | m
              · exact z1 (.inr ⟨i, m⟩)
              · exact z1 (.inl m)
            · exact z1 (.inr z)
    · cases e
  · cases e
theorem fs_app {i kr : Nat} {ec : Expr} (hp : PE X ec (tBM X.K "list" rAppend (tVar i) (tCons (tF X.K (.ow k) f) tNil))) (hsw : swapsWith ec none pos.line X.env = pure false := by rfl) :
    FS X kr (.Expr ec pos) (sApp i k f) := PS.weak (ps_expr hp hsw) fun _ _ _ => tF_app
end
end FL

namespace FL
open PySem PySem.Spec PyProof.Rows L2
/-- the law's promise from its mirror's answer -/
theorem sp_of {K : PySem.W.Frag} {k : Nat} {m : List D → Option D} {H : Hp} {a : Addr} {ns : List Int} {E : XK} (hm : m [.scr ns] = some (.bl true)) (hO : Only H) (hS : SqL K H a (ns.map V.int)) : spF K 1 k m [.ref a] H (fun v _ => v = .bl true) E := by
  refine ⟨rfl, [.scr ns], .bl true, ⟨.ref a, [], rfl, ⟨a, rfl, ?_⟩, rfl⟩, hm, fun v H' _ ⟨fp, _, _, o⟩ => o.2⟩
  rcases hS with (h | ⟨o, h⟩) | h
  · rcases hO a with z | ⟨o, xs, z⟩
    · rw [h] at z; cases z
    · rw [h] at z; cases z
  · exact .inl ⟨o, h⟩
  · exact .inr h
end FL

namespace FL
open PySem PySem.Spec PyProof.Rows

/-! ### how mirrors are reckoned: every combinator in a form without binders -/
section
variable {α β : Type}
def ob2 (m : D → D → Option D) : Option D → Option D → Option D
  | some x, some y => m x y
  | _, _ => none
def ob3 (m : D → Option Int → Option Int → Option D) : Option D → Option (Option Int) → Option (Option Int) → Option D
  | some x, some y, some z => m x y z
  | _, _, _ => none
def obL (m : D → D → Option (List D)) : Option D → Option D → Option (List D)
  | some x, some y => m x y
  | _, _ => none
def ob1 (m : α → Option β) : Option α → Option β
  | some x => m x
  | none => none
def ocons : Option D → Option (List D) → Option (List D)
  | some x, some xs => some (x :: xs)
  | _, _ => none
def oval : Option D → Option Bool
  | some (.bl b) => some b
  | _ => none
def oneg : Option D → Option D
  | some (.int i) => some (.int (-i))
  | _ => none
def onot : Option D → Option D
  | some (.bl b) => some (.bl (!b))
  | _ => none
def oand : Option D → Option D → Option D
  | some (.bl true), y => y
  | some (.bl false), _ => some (.bl false)
  | _, _ => none
def oor : Option D → Option D → Option D
  | some (.bl true), _ => some (.bl true)
  | some (.bl false), y => y
  | _, _ => none
def oandB : Option Bool → Option Bool → Option Bool
  | some true, y => y
  | some false, _ => some false
  | none, _ => none
def oorB : Option Bool → Option Bool → Option Bool
  | some true, _ => some true
  | some false, y => y
  | none, _ => none
def onotB : Option Bool → Option Bool
  | some b => some (!b)
  | none => none
def oif : Option Bool → Option α → Option α → Option α
  | some true, x, _ => x
  | some false, _, y => y
  | none, _, _ => none
def oint : Option D → Option (Option Int)
  | some (.int i) => some (some i)
  | _ => none
def oset (i k : Nat) (st : Sl) : Option D → Option Out
  | some d => if isVa st[i]? = true then some (.nx (st.set i (.va k d))) else none
  | none => none
def oret (st : Sl) : Option D → Option Out
  | some d => some (.rt d st)
  | none => none
def oexp (st : Sl) : Option D → Option Out
  | some _ => some (.nx st)
  | none => none
def oseq (b : SM) : Option Out → Option Out
  | some (.nx st) => b st
  | some o => some o
  | none => none
def otup : Option (List D) → Option D
  | some ds => if lenOk ds.length = true then some (.tup ds) else none
  | none => none
def olst : Option (List D) → Option D
  | some ds => if lenOk ds.length = true then some (.lst ds) else none
  | none => none
def oisi (T : String) : Option D → Option D
  | some d => (tyD d).bind fun t => (L2.kitB t T).map D.bl
  | none => none
def oasg (m : GM) (st : Sl) : Option D → Option Out
  | some d => (m d st).map .nx
  | none => none
def ofor (m : GM) (body : SM) (st : Sl) : Option (List D) → Option Out
  | some ds => forL m body ds st
  | none => none
def orun : Option Out → Option D
  | some (.rt d _) => some d
  | some (.nx _) => some .non
  | _ => none
def oaug (i : Nat) (st : Sl) : Option D → Option Out
  | some d => if isVa st[i]? = true then some (.nx (st.set i (.va 0 d))) else none
  | none => none

theorem e_bin (m : D → D → Option D) (f g : EM) (st : Sl) : eBin m f g st = ob2 m (f st) (g st) := by
  unfold eBin; cases f st <;> cases g st <;> rfl
theorem e_binL (m : D → D → Option (List D)) (f g : EM) (st : Sl) : iBin m f g st = obL m (f st) (g st) := by
  unfold iBin; cases f st <;> cases g st <;> rfl
theorem e_sl (m : D → Option Int → Option Int → Option D) (f : EM) (g h : OM) (st : Sl) : eSl m f g h st = ob3 m (f st) (g st) (h st) := by
  unfold eSl; cases f st <;> cases g st <;> cases h st <;> rfl
theorem e_onone (st : Sl) : oNone st = some none := id rfl
theorem e_osome (f : EM) (st : Sl) : oSome f st = oint (f st) := by
  unfold oSome; cases f st with
  | none => rfl
  | some d => cases d <;> rfl
theorem e_fl (f : EM) (st : Sl) : eFl f st = ob1 (chk 0) (f st) := by unfold eFl; cases f st <;> rfl
theorem e_call (m : List D → Option D) (f : AM) (st : Sl) : eCall m f st = ob1 m (f st) := by unfold eCall; cases f st <;> rfl
theorem e_callO (k : Nat) (m : List D → Option D) (f : AM) (st : Sl) : eCallO k m f st = ob1 (chk k) (ob1 m (f st)) := by
  unfold eCallO; cases f st with
  | none => rfl
  | some x => show (m x).bind _ = ob1 _ (m x); cases m x <;> rfl
theorem e_cb (m : List D → Option D) (f : AM) (st : Sl) : eCB m f st = ob1 m (f st) := by unfold eCB; cases f st <;> rfl
theorem e_b (m : D → Option D) (f : EM) (st : Sl) : eB m f st = ob1 m (f st) := by unfold eB; cases f st <;> rfl
theorem e_ib (m : D → Option (List D)) (f : EM) (st : Sl) : iB m f st = ob1 m (f st) := by unfold iB; cases f st <;> rfl
theorem e_c (d : D) (st : Sl) : eC d st = some d := id rfl
theorem e_anil (st : Sl) : aNil st = some [] := id rfl
theorem e_acons (f : EM) (g : AM) (st : Sl) : aCons f g st = ocons (f st) (g st) := by unfold aCons; cases f st <;> cases g st <;> rfl
theorem e_val (f : EM) (st : Sl) : qVal f st = oval (f st) := by
  unfold qVal; cases f st with
  | none => rfl
  | some d => cases d <;> rfl
theorem e_neg (f : EM) (st : Sl) : eNeg f st = oneg (f st) := by
  unfold eNeg; cases f st with
  | none => rfl
  | some d => cases d <;> rfl
theorem e_not (f : EM) (st : Sl) : eNot f st = onot (f st) := by
  unfold eNot; cases f st with
  | none => rfl
  | some d => cases d <;> rfl
theorem e_and (f g : EM) (st : Sl) : eAnd f g st = oand (f st) (g st) := by
  unfold eAnd; cases f st with
  | none => rfl
  | some d => cases d with
    | bl b => cases b <;> rfl
    | _ => rfl
theorem e_or (f g : EM) (st : Sl) : eOr f g st = oor (f st) (g st) := by
  unfold eOr; cases f st with
  | none => rfl
  | some d => cases d with
    | bl b => cases b <;> rfl
    | _ => rfl
theorem e_qand (f g : TM) (st : Sl) : qAnd f g st = oandB (f st) (g st) := by
  unfold qAnd; cases f st with
  | none => rfl
  | some d => cases d <;> rfl
theorem e_qor (f g : TM) (st : Sl) : qOr f g st = oorB (f st) (g st) := by
  unfold qOr; cases f st with
  | none => rfl
  | some d => cases d <;> rfl
theorem e_qnot (f : TM) (st : Sl) : qNot f st = onotB (f st) := by unfold qNot; cases f st <;> rfl
theorem e_qyes (st : Sl) : qYes st = some true := id rfl
theorem e_eif (c : TM) (f g : EM) (st : Sl) : eIf c f g st = oif (c st) (f st) (g st) := by
  unfold eIf; cases c st with
  | none => rfl
  | some b => cases b <;> rfl
theorem e_tup (f : AM) (st : Sl) : eTup f st = otup (f st) := by unfold eTup; cases f st <;> rfl
theorem e_lst (f : AM) (st : Sl) : eLst f st = olst (f st) := by unfold eLst; cases f st <;> rfl
theorem e_isi (T : String) (f : EM) (st : Sl) : eIsi T f st = oisi T (f st) := by unfold eIsi; cases f st <;> rfl
theorem e_nil (st : Sl) : sNil st = some (.nx st) := id rfl
theorem e_seq (a b : SM) (st : Sl) : sSeq a b st = oseq b (a st) := by
  unfold sSeq; cases a st with
  | none => rfl
  | some o => cases o <;> rfl
theorem e_sif (c : TM) (f g : SM) (st : Sl) : sIf c f g st = oif (c st) (f st) (g st) := by
  unfold sIf; cases c st with
  | none => rfl
  | some b => cases b <;> rfl
theorem e_ret (f : EM) (st : Sl) : sRet f st = oret st (f st) := by unfold sRet; cases f st <;> rfl
theorem e_exp (f : EM) (st : Sl) : sExp f st = oexp st (f st) := by unfold sExp; cases f st <;> rfl
theorem e_set (i k : Nat) (f : EM) (st : Sl) : sSet i k f st = oset i k st (f st) := by
  unfold sSet; cases f st <;> simp [oset]
theorem e_aug (m : D → D → Option D) (i : Nat) (f : EM) (st : Sl) : sAug m i f st = oaug i st (ob2 m (eVar i st) (f st)) := by
  unfold sAug; rw [e_bin]; cases ob2 m (eVar i st) (f st) <;> simp [oaug]
theorem e_asg (m : GM) (f : EM) (st : Sl) : sAsg m f st = oasg m st (f st) := by unfold sAsg; cases f st <;> rfl
theorem e_for (its : IM) (m : GM) (b : SM) (st : Sl) : sFor its m b st = ofor m b st (its st) := by unfold sFor; cases its st <;> rfl
theorem e_run (n : Nat) (g : SM) (ds : List D) : fnRun n g ds = orun (g (ds.map (Slot.va 0) ++ List.replicate (n - ds.length) .un)) := by
  unfold fnRun; cases g _ with
  | none => rfl
  | some o => cases o <;> rfl
theorem e_var0 (k : Nat) (d : D) (st : Sl) : eVar 0 (.va k d :: st) = some d := id rfl
theorem e_varS0 (d : D) (st : Sl) : eVarS 0 (.va 0 d :: st) = some d := id rfl
theorem e_varS0' (k : Nat) (d : D) (st : Sl) : eVarS 0 (.va (k + 1) d :: st) = chk 0 d := id rfl
theorem e_var0i (k : Nat) (d : D) (st : Sl) : eVar 0 (.io k d :: st) = some d := id rfl
theorem e_varS (i : Nat) (s : Slot) (st : Sl) : eVar (i + 1) (s :: st) = eVar i st := id rfl
theorem e_varSS (i : Nat) (s : Slot) (st : Sl) : eVarS (i + 1) (s :: st) = eVarS i st := id rfl
-- with values
theorem ix_nat_ (ds : List D) (i : Nat) (d : D) (h : ds[i]? = some d) : mIx (.tup ds) (.int i) = some d := L2.atI_nat h
theorem ix_natL_ (ds : List D) (i : Nat) (d : D) (h : ds[i]? = some d) : mIx (.lst ds) (.int i) = some d := L2.atI_nat h
theorem o_b2 (m : D → D → Option D) (x y : D) : ob2 m (some x) (some y) = m x y := id rfl
theorem o_bL (m : D → D → Option (List D)) (x y : D) : obL m (some x) (some y) = m x y := id rfl
theorem o_b3 (m : D → Option Int → Option Int → Option D) (x : D) (y z : Option Int) : ob3 m (some x) (some y) (some z) = m x y z := id rfl
theorem o_b1 (m : α → Option β) (x : α) : ob1 m (some x) = m x := id rfl
theorem o_cons (x : D) (xs : List D) : ocons (some x) (some xs) = some (x :: xs) := id rfl
theorem o_val (b : Bool) : oval (some (.bl b)) = some b := id rfl
theorem o_neg (i : Int) : oneg (some (.int i)) = some (.int (-i)) := id rfl
theorem o_not (b : Bool) : onot (some (.bl b)) = some (.bl (!b)) := id rfl
theorem o_and1 (y : Option D) : oand (some (.bl true)) y = y := id rfl
theorem o_and0 (y : Option D) : oand (some (.bl false)) y = some (.bl false) := id rfl
theorem o_or1 (y : Option D) : oor (some (.bl true)) y = some (.bl true) := id rfl
theorem o_or0 (y : Option D) : oor (some (.bl false)) y = y := id rfl
theorem o_andB1 (y : Option Bool) : oandB (some true) y = y := id rfl
theorem o_andB0 (y : Option Bool) : oandB (some false) y = some false := id rfl
theorem o_orB1 (y : Option Bool) : oorB (some true) y = some true := id rfl
theorem o_orB0 (y : Option Bool) : oorB (some false) y = y := id rfl
theorem o_andB (a b : Bool) : oandB (some a) (some b) = some (a && b) := by cases a <;> rfl
theorem o_orB (a b : Bool) : oorB (some a) (some b) = some (a || b) := by cases a <;> rfl
theorem o_and (a b : Bool) : oand (some (.bl a)) (some (.bl b)) = some (.bl (a && b)) := by cases a <;> rfl
theorem o_or (a b : Bool) : oor (some (.bl a)) (some (.bl b)) = some (.bl (a || b)) := by cases a <;> rfl
theorem o_notB (b : Bool) : onotB (some b) = some (!b) := id rfl
theorem o_if1 (x y : Option α) : oif (some true) x y = x := id rfl
theorem o_if0 (x y : Option α) : oif (some false) x y = y := id rfl
theorem o_ifB (b : Bool) (x y : Option α) : oif (some b) x y = if b = true then x else y := by cases b <;> rfl
theorem o_int (i : Int) : oint (some (.int i)) = some (some i) := id rfl
theorem o_set (i k : Nat) (st : Sl) (d : D) : oset i k st (some d) = if isVa st[i]? = true then some (.nx (st.set i (.va k d))) else none := id rfl
theorem o_aug (i : Nat) (st : Sl) (d : D) : oaug i st (some d) = if isVa st[i]? = true then some (.nx (st.set i (.va 0 d))) else none := id rfl
theorem o_ret (st : Sl) (d : D) : oret st (some d) = some (.rt d st) := id rfl
theorem o_exp (st : Sl) (d : D) : oexp st (some d) = some (.nx st) := id rfl
theorem o_seq (b : SM) (st : Sl) : oseq b (some (.nx st)) = b st := id rfl
theorem o_seqR (b : SM) (d : D) (st : Sl) : oseq b (some (.rt d st)) = some (.rt d st) := id rfl
theorem o_seqB (b : SM) (st : Sl) : oseq b (some (.bk st)) = some (.bk st) := id rfl
theorem o_seqC (b : SM) (st : Sl) : oseq b (some (.ct st)) = some (.ct st) := id rfl
theorem o_seqI (b : SM) (c : Prop) [Decidable c] (x y : Option Out) : oseq b (if c then x else y) = if c then oseq b x else oseq b y := by split <;> rfl
theorem o_runI (c : Prop) [Decidable c] (x y : Option Out) : orun (if c then x else y) = if c then orun x else orun y := by split <;> rfl
theorem o_tup (ds : List D) : otup (some ds) = if lenOk ds.length = true then some (.tup ds) else none := id rfl
theorem o_lst (ds : List D) : olst (some ds) = if lenOk ds.length = true then some (.lst ds) else none := id rfl
theorem o_tup1 (a : D) : otup (some [a]) = some (.tup [a]) := id rfl
theorem o_tup2 (a b : D) : otup (some [a, b]) = some (.tup [a, b]) := id rfl
theorem o_tup3 (a b c : D) : otup (some [a, b, c]) = some (.tup [a, b, c]) := id rfl
theorem o_tup4 (a b c d : D) : otup (some [a, b, c, d]) = some (.tup [a, b, c, d]) := id rfl
theorem o_tup5 (a b c d e : D) : otup (some [a, b, c, d, e]) = some (.tup [a, b, c, d, e]) := id rfl
theorem o_lst0 : olst (some []) = some (.lst []) := id rfl
theorem o_lst1 (a : D) : olst (some [a]) = some (.lst [a]) := id rfl
theorem o_lst2 (a b : D) : olst (some [a, b]) = some (.lst [a, b]) := id rfl
theorem o_lst3 (a b c : D) : olst (some [a, b, c]) = some (.lst [a, b, c]) := id rfl
theorem o_lst4 (a b c d : D) : olst (some [a, b, c, d]) = some (.lst [a, b, c, d]) := id rfl
theorem o_lst5 (a b c d e : D) : olst (some [a, b, c, d, e]) = some (.lst [a, b, c, d, e]) := id rfl
theorem o_lst8 (a b c d e f g h : D) : olst (some [a, b, c, d, e, f, g, h]) = some (.lst [a, b, c, d, e, f, g, h]) := id rfl
theorem ix_t0 (a : D) (l : List D) : mIx (.tup (a :: l)) (.int 0) = some a := ix_nat_ (a :: l) 0 a rfl
theorem ix_t1 (a b : D) (l : List D) : mIx (.tup (a :: b :: l)) (.int 1) = some b := ix_nat_ (a :: b :: l) 1 b rfl
theorem ix_t2 (a b c : D) (l : List D) : mIx (.tup (a :: b :: c :: l)) (.int 2) = some c := ix_nat_ (a :: b :: c :: l) 2 c rfl
theorem ix_t3 (a b c d : D) (l : List D) : mIx (.tup (a :: b :: c :: d :: l)) (.int 3) = some d := ix_nat_ (a :: b :: c :: d :: l) 3 d rfl
theorem ix_t4 (a b c d e : D) (l : List D) : mIx (.tup (a :: b :: c :: d :: e :: l)) (.int 4) = some e := ix_nat_ (a :: b :: c :: d :: e :: l) 4 e rfl
theorem ix_l0 (a : D) (l : List D) : mIx (.lst (a :: l)) (.int 0) = some a := ix_natL_ (a :: l) 0 a rfl
theorem ix_l1 (a b : D) (l : List D) : mIx (.lst (a :: b :: l)) (.int 1) = some b := ix_natL_ (a :: b :: l) 1 b rfl
theorem chk_tup (k : Nat) (ds : List D) : chk k (.tup ds) = if fullL ds k = true then some (.tup ds) else none := id rfl
theorem chk_lst (k : Nat) (ds : List D) : chk (k + 1) (.lst ds) = if fullL ds k = true then some (.lst ds) else none := id rfl
theorem fl_nil (k : Nat) : fullL [] k = true := id rfl
theorem fl_cons (d : D) (ds : List D) (k : Nat) : fullL (d :: ds) k = (full d k && fullL ds k) := id rfl
theorem f_int (i : Int) (k : Nat) : full (.int i) k = true := id rfl
theorem f_bl (i : Bool) (k : Nat) : full (.bl i) k = true := id rfl
theorem f_str (i : Str) (k : Nat) : full (.str i) k = true := id rfl
theorem f_non (k : Nat) : full .non k = true := id rfl
theorem f_tup (ds : List D) (k : Nat) : full (.tup ds) k = fullL ds k := id rfl
theorem f_lst (ds : List D) (k : Nat) : full (.lst ds) (k + 1) = fullL ds k := id rfl
theorem o_asg (m : GM) (st : Sl) (d : D) : oasg m st (some d) = (m d st).map .nx := id rfl
theorem o_for (m : GM) (b : SM) (st : Sl) (ds : List D) : ofor m b st (some ds) = forL m b ds st := id rfl
theorem o_runR (d : D) (st : Sl) : orun (some (.rt d st)) = some d := id rfl
theorem o_runN (st : Sl) : orun (some (.nx st)) = some .non := id rfl
theorem bmap (x : α) (f : α → β) : (some x).map f = some (f x) := id rfl
theorem rep0 (x : α) : List.replicate 0 x = [] := id rfl
theorem repS (n : Nat) (x : α) : List.replicate (n + 1) x = x :: List.replicate n x := id rfl
theorem set0 (a b : α) (l : List α) : (a :: l).set 0 b = b :: l := id rfl
theorem setS (a b : α) (l : List α) (i : Nat) : (a :: l).set (i + 1) b = a :: l.set i b := id rfl
theorem get0 (a : α) (l : List α) : (a :: l)[0]? = some a := id rfl
theorem getS (a : α) (l : List α) (i : Nat) : (a :: l)[i + 1]? = l[i]? := id rfl
theorem isva (k : Nat) (d : D) : isVa (some (.va k d)) = true := id rfl
theorem isun : isVa (some .un) = true := id rfl
theorem isv0 (d : D) : isV0 (some (.va 0 d)) = true := id rfl
theorem isv0u : isV0 (some .un) = true := id rfl
theorem wipe_nil (st : Sl) : wipeS st [] = st := id rfl
theorem wipe_cons (st : Sl) (v : Nat) (vs : List Nat) : wipeS st (v :: vs) = (wipeS st vs).set v .un := id rfl
theorem chk_int (k : Nat) (i : Int) : chk k (.int i) = some (.int i) := id rfl
theorem chk_bl (k : Nat) (i : Bool) : chk k (.bl i) = some (.bl i) := id rfl
theorem chk_non (k : Nat) : chk k .non = some .non := id rfl
theorem chk_str (k : Nat) (i : Str) : chk k (.str i) = some (.str i) := id rfl
theorem isi_some (T : String) (d : D) : oisi T (some d) = (tyD d).bind fun t => (L2.kitB t T).map D.bl := id rfl
theorem isi_ii (i : Int) : oisi "int" (some (.int i)) = some (.bl true) := id rfl
theorem isi_ib (i : Int) : oisi "bool" (some (.int i)) = some (.bl false) := id rfl
theorem isi_bb (i : Bool) : oisi "bool" (some (.bl i)) = some (.bl true) := id rfl
theorem isi_tt (i : List D) : oisi "tuple" (some (.tup i)) = some (.bl true) := id rfl
theorem isi_ll (i : List D) : oisi "list" (some (.lst i)) = some (.bl true) := id rfl
theorem mod_ii (i j : Int) (h : 0 < j) : mMod (.int i) (.int j) = some (.int (i % j)) := by
  show (if modOk i j = true then _ else _) = _
  rw [if_pos (show modOk i j = true from decide_eq_true h)]
theorem div_ii (i j : Int) (h : 0 < j) (h2 : j.natAbs.log2 < 9000) : mDiv (.int i) (.int j) = some (.int (i / j)) := by
  show (if divOk i j = true then _ else _) = _
  rw [if_pos (by unfold divOk; rw [decide_eq_true h, decide_eq_true h2]; rfl)]
theorem add_ii (i j : Int) : mAddI (.int i) (.int j) = some (.int (i + j)) := id rfl
theorem sub_ii (i j : Int) : mSub (.int i) (.int j) = some (.int (i - j)) := id rfl
theorem mul_ii (i j : Int) (h : (-(2 ^ 64) < i ∧ i < 2 ^ 64) ∨ (-(2 ^ 64) < j ∧ j < 2 ^ 64)) : mMul (.int i) (.int j) = some (.int (i * j)) := by
  show (if mulOk i j = true then _ else _) = _
  rw [if_pos]
  unfold mulOk
  rcases h with h | h
  · rw [decide_eq_true h.1, decide_eq_true h.2]; rfl
  · rw [decide_eq_true h.1, decide_eq_true h.2]; simp
theorem pow_ii (i j : Int) (h : powOk i j = true) : mPow (.int i) (.int j) = some (.int (i ^ j.toNat)) := by
  show (if powOk i j = true then _ else _) = _
  rw [if_pos h]
theorem lt_ii (i j : Int) : mLt (.int i) (.int j) = some (.bl (decide (i < j))) := id rfl
theorem le_ii (i j : Int) : mLe (.int i) (.int j) = some (.bl (decide (i ≤ j))) := id rfl
theorem gt_ii (i j : Int) : mGt (.int i) (.int j) = some (.bl (decide (j < i))) := id rfl
theorem ge_ii (i j : Int) : mGe (.int i) (.int j) = some (.bl (decide (j ≤ i))) := id rfl
theorem shp_int (i : Int) : shp (.int i) = true := id rfl
theorem eq_ii (i j : Int) : mEq (.int i) (.int j) = some (.bl (decide (i = j))) := by
  have : deq (.int i) (.int j) = decide (i = j) := by
    show (i == j) = _
    rw [Bool.beq_eq_decide_eq]
  unfold mEq
  rw [if_pos (by rfl), this]
theorem ne_ii (i j : Int) : mNe (.int i) (.int j) = some (.bl (!decide (i = j))) := by
  have : deq (.int i) (.int j) = decide (i = j) := by
    show (i == j) = _
    rw [Bool.beq_eq_decide_eq]
  unfold mNe
  rw [if_pos (by rfl), this]
theorem eq_bb (i j : Bool) : mEq (.bl i) (.bl j) = some (.bl (i == j)) := by
  unfold mEq
  rw [if_pos (by rfl)]; rfl
theorem ne_bb (i j : Bool) : mNe (.bl i) (.bl j) = some (.bl (!(i == j))) := by
  unfold mNe
  rw [if_pos (by rfl)]; rfl
theorem isN_n (y : D) : mIsN .non .non = some (.bl true) := id rfl
theorem isN_i (i : Int) : mIsN (.int i) .non = some (.bl false) := id rfl
theorem notN_n : mNotN .non .non = some (.bl false) := id rfl
theorem notN_i (i : Int) : mNotN (.int i) .non = some (.bl true) := id rfl
theorem len_scr (ns : List Int) : mLen [.scr ns] = some (.int ns.length) := id rfl
theorem len_lst (ns : List D) : mLen [.lst ns] = some (.int ns.length) := id rfl
theorem len_tup (ns : List D) : mLen [.tup ns] = some (.int ns.length) := id rfl
theorem ix_scr (ns : List Int) (i : Int) (h0 : 0 ≤ i) (h : i < ns.length) : mIx (.scr ns) (.int i) = some (.int (ns.getD i.toNat 0)) := by
  show (L2.atI ns i).map D.int = _
  have e : ns[i.toNat]? = some (ns.getD i.toNat 0) := by
    rw [List.getD_eq_getElem?_getD]
    have : i.toNat < ns.length := by omega
    rw [List.getElem?_eq_getElem this]; rfl
  have := L2.atI_nat e
  rw [Int.toNat_of_nonneg h0] at this
  rw [this]; rfl
theorem ix_nat (ds : List D) (i : Nat) (d : D) (h : ds[i]? = some d) : mIx (.tup ds) (.int i) = some d := L2.atI_nat h
theorem ix_tup (ds : List D) (i : Int) (d : D) (h0 : 0 ≤ i) (h : ds[i.toNat]? = some d) : mIx (.tup ds) (.int i) = some d := by
  have := L2.atI_nat h
  rw [Int.toNat_of_nonneg h0] at this
  exact this
theorem ix_lst (ds : List D) (i : Int) (d : D) (h0 : 0 ≤ i) (h : ds[i.toNat]? = some d) : mIx (.lst ds) (.int i) = some d := by
  have := L2.atI_nat h
  rw [Int.toNat_of_nonneg h0] at this
  exact this
/-- a tuple of whole numbers -/
def tupI (pt : List Int) : D := .tup (pt.map D.int)
def lstI (pt : List Int) : D := .lst (pt.map D.int)
theorem ix_ints (pt : List Int) (i : Int) (h0 : 0 ≤ i) (h : i < pt.length) : mIx (tupI pt) (.int i) = some (.int (pt.getD i.toNat 0)) := by
  refine ix_tup _ _ _ h0 ?_
  rw [List.getElem?_map, List.getD_eq_getElem?_getD]
  have : i.toNat < pt.length := by omega
  rw [List.getElem?_eq_getElem this]; rfl
theorem full_ints (pt : List Int) (k : Nat) : full (tupI pt) k = true := fullL_ints pt k
theorem chk_ints (pt : List Int) (k : Nat) : chk k (tupI pt) = some (tupI pt) := by
  unfold chk; rw [if_pos (full_ints pt k)]
theorem forL_nil (m : GM) (b : SM) (st : Sl) : forL m b [] st = some (.nx st) := id rfl
def oloop (k : Sl → Option Out) : Option Out → Option Out
  | some (.nx st) => k st
  | some (.ct st) => k st
  | some (.bk st) => some (.nx st)
  | some (.rt d st) => some (.rt d st)
  | none => none
def obody (b : SM) : Option Sl → Option Out
  | some st => b st
  | none => none
theorem forL_cons (m : GM) (b : SM) (d : D) (ds : List D) (st : Sl) : forL m b (d :: ds) st = oloop (forL m b ds) (obody b (m d st)) := by
  show ((m d st).bind fun st1 => (b st1).bind fun o => match o with
    | .nx st2 => forL m b ds st2
    | .ct st2 => forL m b ds st2
    | .bk st2 => some (.nx st2)
    | .rt d st2 => some (.rt d st2)) = _
  cases m d st with
  | none => rfl
  | some st1 =>
    show (b st1).bind _ = oloop _ (b st1)
    cases b st1 with
    | none => rfl
    | some o => cases o <;> rfl
theorem o_loopN (k : Sl → Option Out) (st : Sl) : oloop k (some (.nx st)) = k st := id rfl
theorem o_loopC (k : Sl → Option Out) (st : Sl) : oloop k (some (.ct st)) = k st := id rfl
theorem o_loopB (k : Sl → Option Out) (st : Sl) : oloop k (some (.bk st)) = some (.nx st) := id rfl
theorem o_loopR (k : Sl → Option Out) (d : D) (st : Sl) : oloop k (some (.rt d st)) = some (.rt d st) := id rfl
theorem o_loopI (k : Sl → Option Out) (c : Prop) [Decidable c] (x y : Option Out) : oloop k (if c then x else y) = if c then oloop k x else oloop k y := by split <;> rfl
theorem o_body (b : SM) (st : Sl) : obody b (some st) = b st := id rfl
theorem gnm (i : Nat) (d : D) (st : Sl) : gNm i d st = if isVa st[i]? = true then some (st.set i (.va 0 d)) else none := id rfl
end
end FL
namespace FL
theorem div_s (i j : Int) (h : 0 < j) (h2 : j < 18446744073709551616) : mDiv (.int i) (.int j) = some (.int (i / j)) := div_ii i j h (by
  have h3 : j.natAbs < 2 ^ 64 := by omega
  exact Nat.lt_trans (PySem.Flt.log2_lt_of (by decide) h3) (by decide))
theorem mul_l (i j : Int) (h : -18446744073709551616 < i) (h2 : i < 18446744073709551616) : mMul (.int i) (.int j) = some (.int (i * j)) := mul_ii i j (.inl ⟨by omega, by omega⟩)
theorem mul_r (i j : Int) (h : -18446744073709551616 < j) (h2 : j < 18446744073709551616) : mMul (.int i) (.int j) = some (.int (i * j)) := mul_ii i j (.inr ⟨by omega, by omega⟩)
theorem pow_n (i : Int) (n : Nat) (h : n ≤ 1000000) (h1 : -18446744073709551616 < i) (h2 : i < 18446744073709551616) : mPow (.int i) (.int n) = some (.int (i ^ n)) := by
  rw [pow_ii]
  · rfl
  · unfold powOk
    rw [decide_eq_true (show (0 : Int) ≤ n by omega), decide_eq_true (show (n : Int) ≤ 1000000 by omega), decide_eq_true (show i.natAbs < 2 ^ 64 by omega)]
    rfl
end FL
namespace FL
open PySem PySem.Spec PyProof.Rows
/-! ### loops and comprehensions over lists of data -/
theorem rng1_eq (n : Int) (h0 : 0 ≤ n) (h : n < 4611686018427387904) : mRng1 (.int n) = some ((List.range n.toNat).map fun (i : Nat) => D.int (i : Int)) := by
  show (if rngOk n = true then some (rngL 0 1 n.toNat) else none) = _
  rw [if_pos (by unfold rngOk; rw [decide_eq_true (show -(2 ^ 62) ≤ n by omega), decide_eq_true (show n < 2 ^ 62 by omega)]; rfl)]
  unfold rngL
  congr 1
  apply List.map_congr_left
  intro i _
  rw [Int.mul_one, Int.zero_add]
theorem rng2_eq (a b : Int) (h0 : -4611686018427387904 ≤ a) (h1 : a < 4611686018427387904) (h2 : -4611686018427387904 ≤ b) (h3 : b < 4611686018427387904) : mRng2 (.int a) (.int b) = some ((List.range (b - a).toNat).map fun (i : Nat) => D.int (a + i)) := by
  show (if (rngOk a && rngOk b) = true then some (rngL a 1 (b - a).toNat) else none) = _
  rw [if_pos (by unfold rngOk; rw [decide_eq_true (show -(2 ^ 62) ≤ a by omega), decide_eq_true (show a < 2 ^ 62 by omega), decide_eq_true (show -(2 ^ 62) ≤ b by omega), decide_eq_true (show b < 2 ^ 62 by omega)]; rfl)]
  unfold rngL
  congr 1
  apply List.map_congr_left
  intro i _
  rw [Int.mul_one]
theorem lc_filter {α : Type} {vs : List Nat} {its : IM} {m : GM} {t : TM} {f : EM} {st : Sl} (enc hf : α → D) (p : α → Bool) (l : List α) (hi : its st = some (l.map enc)) (hv : vs.all (fun v => isV0 st[v]?) = true) (hl : l.length < 16777216)
    (h : ∀ x ∈ l, ∃ st1, m (enc x) (wipeS st vs) = some st1 ∧ t st1 = some (p x) ∧ (p x = true → f st1 = some (hf x))) : eLc vs its m t f st = some (.lst ((l.filter p).map hf)) := by
  have core : ∀ l : List α, (∀ x ∈ l, ∃ st1, m (enc x) (wipeS st vs) = some st1 ∧ t st1 = some (p x) ∧ (p x = true → f st1 = some (hf x))) → lcL m t f (wipeS st vs) (l.map enc) = some ((l.filter p).map hf) := by
    intro l
    induction l with
    | nil => intro _; rfl
    | cons x l ih =>
      intro h
      obtain ⟨st1, h1, h2, h3⟩ := h x List.mem_cons_self
      have ih := ih fun y hy => h y (List.mem_cons_of_mem _ hy)
      show ((m (enc x) (wipeS st vs)).bind fun st1 => (t st1).bind fun b => if b = true then (f st1).bind fun y => (lcL m t f (wipeS st vs) (l.map enc)).map (y :: ·) else lcL m t f (wipeS st vs) (l.map enc)) = _
      rw [h1]
      show ((t st1).bind fun b => if b = true then (f st1).bind fun y => (lcL m t f (wipeS st vs) (l.map enc)).map (y :: ·) else lcL m t f (wipeS st vs) (l.map enc)) = _
      rw [h2]
      show (if p x = true then (f st1).bind fun y => (lcL m t f (wipeS st vs) (l.map enc)).map (y :: ·) else lcL m t f (wipeS st vs) (l.map enc)) = _
      by_cases hp : p x = true
      · rw [if_pos hp, h3 hp, ih, List.filter_cons_of_pos hp]; rfl
      · rw [if_neg hp, ih, List.filter_cons_of_neg hp]
  unfold eLc
  rw [hi]
  show (if (vs.all (fun v => isV0 st[v]?) && decide ((l.map enc).length < 16777216)) = true then _ else none) = _
  rw [if_pos (by rw [hv, List.length_map, decide_eq_true hl]; rfl), core l h]
  rfl
theorem lc_map {α : Type} {vs : List Nat} {its : IM} {m : GM} {t : TM} {f : EM} {st : Sl} (enc hf : α → D) (l : List α) (hi : its st = some (l.map enc)) (hv : vs.all (fun v => isV0 st[v]?) = true) (hl : l.length < 16777216)
    (h : ∀ x ∈ l, ∃ st1, m (enc x) (wipeS st vs) = some st1 ∧ t st1 = some true ∧ f st1 = some (hf x)) : eLc vs its m t f st = some (.lst (l.map hf)) := by
  have := lc_filter enc hf (fun _ => true) l hi hv hl fun x hx => by
    obtain ⟨st1, h1, h2, h3⟩ := h x hx
    exact ⟨st1, h1, h2, fun _ => h3⟩
  rw [this, List.filter_eq_self.mpr fun _ _ => rfl]
theorem forL_P {α : Type} {m : GM} {b : SM} (P : Sl → Prop) (enc : α → D) : ∀ (l : List α) (_ : ∀ x ∈ l, ∀ st, P st → ∃ st', (obody b (m (enc x) st) = some (.nx st') ∨ obody b (m (enc x) st) = some (.ct st')) ∧ P st') (st : Sl), P st → ∃ st', forL m b (l.map enc) st = some (.nx st') ∧ P st'
  | [], _, st, hp => ⟨st, rfl, hp⟩
  | x :: l, h, st, hp => by
    obtain ⟨st1, h1, p1⟩ := h x List.mem_cons_self st hp
    obtain ⟨st2, h2, p2⟩ := forL_P P enc l (fun y hy => h y (List.mem_cons_of_mem _ hy)) st1 p1
    refine ⟨st2, ?_, p2⟩
    rw [List.map_cons, forL_cons]
    rcases h1 with h1 | h1 <;> (rw [h1]; exact h2)
theorem forL_fold {α β : Type} {m : GM} {b : SM} (S : β → Sl) (g : β → α → β) (enc : α → D) : ∀ (l : List α) (_ : ∀ x ∈ l, ∀ s, obody b (m (enc x) (S s)) = some (.nx (S (g s x)))) (s : β), forL m b (l.map enc) (S s) = some (.nx (S (l.foldl g s)))
  | [], _, s => rfl
  | x :: l, h, s => by
    rw [List.map_cons, forL_cons, h x List.mem_cons_self s]
    exact forL_fold S g enc l (fun y hy => h y (List.mem_cons_of_mem _ hy)) (g s x)
end FL
namespace FL
open PySem PySem.Spec PyProof.Rows
/-! ### the words of rows and questions -/
inductive Wd where
  | most | least | same | unlike | set_ | ask | need | claim | if_ | while_ | else_ | end_ | plain
  deriving DecidableEq
def wS : Wd → Str
  | .most => "most"
  | .least => "least"
  | .same => "same"
  | .unlike => "unlike"
  | .set_ => "set"
  | .ask => "ask"
  | .need => "need"
  | .claim => "claim"
  | .if_ => "if"
  | .while_ => "while"
  | .else_ => "else"
  | .end_ => "end"
  | .plain => "plain"
def wD (w : Wd) : D := .str (wS w)
theorem l_most : D.str "most" = wD .most := id rfl
theorem l_least : D.str "least" = wD .least := id rfl
theorem l_same : D.str "same" = wD .same := id rfl
theorem l_unlike : D.str "unlike" = wD .unlike := id rfl
theorem l_set : D.str "set" = wD .set_ := id rfl
theorem l_ask : D.str "ask" = wD .ask := id rfl
theorem l_need : D.str "need" = wD .need := id rfl
theorem l_claim : D.str "claim" = wD .claim := id rfl
theorem l_if : D.str "if" = wD .if_ := id rfl
theorem l_while : D.str "while" = wD .while_ := id rfl
theorem l_else : D.str "else" = wD .else_ := id rfl
theorem l_end : D.str "end" = wD .end_ := id rfl
theorem l_plain : D.str "plain" = wD .plain := id rfl
theorem wS_eq : ∀ a b : Wd, (wS a == wS b) = decide (a = b) := by intro a b; cases a <;> cases b <;> decide +kernel
theorem wS_ok : ∀ a : Wd, shp (wD a) = true := by intro a; cases a <;> decide +kernel
theorem deq_w (a b : Wd) : deq (wD a) (wD b) = decide (a = b) := by
  show (wS a == wS b) = _
  exact wS_eq a b
theorem mEq_w (a b : Wd) : mEq (wD a) (wD b) = some (.bl (decide (a = b))) := by
  unfold mEq
  rw [wS_ok, wS_ok, deq_w]; rfl
theorem mNe_w (a b : Wd) : mNe (wD a) (wD b) = some (.bl (!decide (a = b))) := by
  unfold mNe
  rw [wS_ok, wS_ok, deq_w]; rfl
theorem chk_w (k : Nat) (a : Wd) : chk k (wD a) = some (wD a) := id rfl
theorem isi_sw (a : Wd) : oisi "str" (some (wD a)) = some (.bl true) := id rfl
theorem isN_w (a : Wd) : mIsN (wD a) .non = some (.bl false) := id rfl
theorem notN_w (a : Wd) : mNotN (wD a) .non = some (.bl true) := id rfl
/-- None or a whole number -/
def oD : Option Int → D
  | none => .non
  | some i => .int i
theorem chk_o (k : Nat) (o : Option Int) : chk k (oD o) = some (oD o) := by cases o <;> rfl
theorem isN_o (o : Option Int) : mIsN (oD o) .non = some (.bl o.isNone) := by cases o <;> rfl
theorem notN_o (o : Option Int) : mNotN (oD o) .non = some (.bl o.isSome) := by cases o <;> rfl
theorem full_w (k : Nat) (a : Wd) : full (wD a) k = true := id rfl
theorem full_o (k : Nat) (o : Option Int) : full (oD o) k = true := by cases o <;> rfl
/-! ### equality of data by equality of what they stand for -/
theorem mEq_of {x y : D} {b : Bool} (hx : shp x = true) (hy : shp y = true) (h : deq x y = b) : mEq x y = some (.bl b) := by
  unfold mEq
  rw [hx, hy, h]; rfl
theorem mNe_of {x y : D} {b : Bool} (hx : shp x = true) (hy : shp y = true) (h : deq x y = b) : mNe x y = some (.bl (!b)) := by
  unfold mNe
  rw [hx, hy, h]; rfl
/-! no truths: so == is = -/
mutual
def nob : D → Bool
  | .bl _ => false
  | .tup ds => nobL ds
  | .lst ds => nobL ds
  | .ob _ _ _ => false
  | .dct _ _ => false
  | .scr _ => false
  | _ => true
def nobL : List D → Bool
  | [] => true
  | d :: ds => nob d && nobL ds
end
theorem str_beq (x y : Str) : (x == y) = decide (x = y) := by
  by_cases h : x = y
  · rw [h, decide_eq_true rfl]; simp
  · rw [decide_eq_false h]; simp [h]
mutual
theorem deq_nob : ∀ (x y : D), nob x = true → nob y = true → deq x y = true → x = y
  | .non, y, _, hy, h => by cases y <;> first | rfl | cases h | cases hy
  | .int i, y, _, hy, h => by
    cases y with
    | int j =>
      have h : (i == j) = true := h
      rw [eq_of_beq h]
    | _ => first | cases h | cases hy
  | .str s, y, _, hy, h => by
    cases y with
    | str t =>
      have h : (s == t) = true := h
      rw [str_beq] at h
      rw [of_decide_eq_true h]
    | _ => first | cases h | cases hy
  | .tup ds, y, hx, hy, h => by
    cases y with
    | tup es => rw [deqL_nob ds es hx hy h]
    | _ => first | cases h | cases hy
  | .lst ds, y, hx, hy, h => by
    cases y with
    | lst es => rw [deqL_nob ds es hx hy h]
    | _ => first | cases h | cases hy
  | .bl _, _, hx, _, _ => by cases hx
  | .scr _, _, hx, _, _ => by cases hx
  | .ob _ _ _, _, hx, _, _ => by cases hx
  | .dct _ _, _, hx, _, _ => by cases hx
theorem deqL_nob : ∀ (x y : List D), nobL x = true → nobL y = true → PyData.eqvAll (toPyL x) (toPyL y) = true → x = y
  | [], y, _, _, h => by cases y <;> first | rfl | cases h
  | d :: ds, y, hx, hy, h => by
    cases y with
    | nil => cases h
    | cons e es =>
      have h : (deq d e && PyData.eqvAll (toPyL ds) (toPyL es)) = true := h
      have h := Bool.and_eq_true_iff.mp h
      have hx : (nob d && nobL ds) = true := hx
      have hx := Bool.and_eq_true_iff.mp hx
      have hy : (nob e && nobL es) = true := hy
      have hy := Bool.and_eq_true_iff.mp hy
      rw [deq_nob d e hx.1 hy.1 h.1, deqL_nob ds es hx.2 hy.2 h.2]
end
mutual
theorem deq_refl : ∀ (x : D), nob x = true → deq x x = true
  | .non, _ => rfl
  | .int i, _ => by show (i == i) = true; simp
  | .str s, _ => by show (s == s) = true; rw [str_beq]; simp
  | .tup ds, h => deqL_refl ds h
  | .lst ds, h => deqL_refl ds h
  | .bl _, h => by cases h
  | .scr _, h => by cases h
  | .ob _ _ _, h => by cases h
  | .dct _ _, h => by cases h
theorem deqL_refl : ∀ (x : List D), nobL x = true → PyData.eqvAll (toPyL x) (toPyL x) = true
  | [], _ => rfl
  | d :: ds, h => by
    have h : (nob d && nobL ds) = true := h
    have h := Bool.and_eq_true_iff.mp h
    show (deq d d && PyData.eqvAll (toPyL ds) (toPyL ds)) = true
    rw [deq_refl d h.1, deqL_refl ds h.2]; rfl
end
theorem deq_iff {x y : D} (hx : nob x = true) (hy : nob y = true) : deq x y = true ↔ x = y :=
  ⟨deq_nob x y hx hy, fun h => by rw [← h]; exact deq_refl x hx⟩
open Classical in
theorem mEq_nob {x y : D} (hx : shp x = true) (hy : shp y = true) (nx : nob x = true) (ny : nob y = true) : mEq x y = some (.bl (decide (x = y))) :=
  mEq_of hx hy (by
    by_cases h : x = y
    · rw [decide_eq_true h]; exact (deq_iff nx ny).mpr h
    · rw [decide_eq_false h]
      cases e : deq x y with
      | false => rfl
      | true => exact absurd ((deq_iff nx ny).mp e) h)
open Classical in
theorem mNe_nob {x y : D} (hx : shp x = true) (hy : shp y = true) (nx : nob x = true) (ny : nob y = true) : mNe x y = some (.bl (!decide (x = y))) := by
  have := mEq_nob hx hy nx ny
  unfold mEq at this
  unfold mNe
  rw [hx, hy] at this ⊢
  have e : deq x y = decide (x = y) := D.bl.inj (Option.some.inj this)
  rw [e]; rfl
end FL
namespace FL
open PySem PySem.Spec PyProof.Rows
/-- data that == takes: texts in order, k levels deep at most -/
def okD (k : Nat) (d : D) : Prop := (toPy d).canLay0 = true ∧ (toPy d).depth ≤ k
theorem okD.mono {k j : Nat} {d : D} (h : okD k d) (hk : k ≤ j) : okD j d := ⟨h.1, Nat.le_trans h.2 hk⟩
theorem okD.shp {k : Nat} {d : D} (h : okD k d) (hk : k ≤ 64) : shp d = true := by
  unfold FL.shp SeqAt.shaped
  rw [h.1, decide_eq_true (Nat.le_trans h.2 hk)]; rfl
theorem ok_int (k : Nat) (i : Int) : okD k (.int i) := ⟨rfl, Nat.zero_le _⟩
theorem ok_bl (k : Nat) (i : Bool) : okD k (.bl i) := ⟨rfl, Nat.zero_le _⟩
theorem ok_non (k : Nat) : okD k .non := ⟨rfl, Nat.zero_le _⟩
theorem ok_w (k : Nat) (a : Wd) : okD k (wD a) := ⟨SeqAt.canLay_of_shaped (wS_ok a), Nat.zero_le _⟩
theorem ok_o (k : Nat) (o : Option Int) : okD k (oD o) := by cases o <;> first | exact ok_non k | exact ok_int k _
theorem ok_L {k : Nat} : ∀ {ds : List D}, (∀ d ∈ ds, okD k d) → PyData.canLayAll0 (toPyL ds) = true ∧ PyData.depthAll (toPyL ds) ≤ k
  | [], _ => ⟨rfl, Nat.zero_le _⟩
  | d :: ds, h => by
    obtain ⟨h1, h2⟩ := h d List.mem_cons_self
    obtain ⟨h3, h4⟩ := ok_L (ds := ds) fun e he => h e (List.mem_cons_of_mem _ he)
    refine ⟨?_, ?_⟩
    · show ((toPy d).canLay0 && PyData.canLayAll0 (toPyL ds)) = true
      rw [h1, h3]; rfl
    · show max (toPy d).depth (PyData.depthAll (toPyL ds)) ≤ k
      exact Nat.max_le.mpr ⟨h2, h4⟩
theorem ok_tup {k : Nat} {ds : List D} (h : ∀ d ∈ ds, okD k d) : okD (k + 1) (.tup ds) := by
  obtain ⟨h1, h2⟩ := ok_L h
  exact ⟨h1, Nat.succ_le_succ h2⟩
theorem ok_lst {k : Nat} {ds : List D} (h : ∀ d ∈ ds, okD k d) : okD (k + 1) (.lst ds) := by
  obtain ⟨h1, h2⟩ := ok_L h
  exact ⟨h1, Nat.succ_le_succ h2⟩
theorem nobL_of : ∀ {ds : List D}, (∀ d ∈ ds, nob d = true) → nobL ds = true
  | [], _ => rfl
  | d :: ds, h => by
    show (nob d && nobL ds) = true
    rw [h d List.mem_cons_self, nobL_of fun e he => h e (List.mem_cons_of_mem _ he)]; rfl
theorem fullL_of {k : Nat} : ∀ {ds : List D}, (∀ d ∈ ds, full d k = true) → fullL ds k = true
  | [], _ => rfl
  | d :: ds, h => by
    show (full d k && fullL ds k) = true
    rw [h d List.mem_cons_self, fullL_of fun e he => h e (List.mem_cons_of_mem _ he)]; rfl
theorem nob_o (o : Option Int) : nob (oD o) = true := by cases o <;> rfl
/-- == of data without truths -/
theorem mEq_self {x : D} {k : Nat} (h : okD k x) (hk : k ≤ 64) (n : nob x = true) : mEq x x = some (.bl true) :=
  mEq_of (h.shp hk) (h.shp hk) (deq_refl x n)
theorem mNe_self {x : D} {k : Nat} (h : okD k x) (hk : k ≤ 64) (n : nob x = true) : mNe x x = some (.bl false) :=
  mNe_of (h.shp hk) (h.shp hk) (deq_refl x n)
end FL
namespace FL
/-- a loop by what holds behind each part of its items -/
theorem forL_pre {α : Type} {m : GM} {b : SM} (P : List α → Sl → Prop) (enc : α → D) (l : List α) (h : ∀ pre x post, l = pre ++ x :: post → ∀ st, P pre st → ∃ st', (obody b (m (enc x) st) = some (.nx st') ∨ obody b (m (enc x) st) = some (.ct st')) ∧ P (pre ++ [x]) st') (st : Sl) (h0 : P [] st) :
    ∃ st', forL m b (l.map enc) st = some (.nx st') ∧ P l st' := by
  have core : ∀ (post pre : List α) (st : Sl), l = pre ++ post → P pre st → ∃ st', forL m b (post.map enc) st = some (.nx st') ∧ P l st' := by
    intro post
    induction post with
    | nil =>
      intro pre st e hp
      rw [List.append_nil] at e
      subst e
      exact ⟨st, rfl, hp⟩
    | cons x post ih =>
      intro pre st e hp
      obtain ⟨st1, h1, p1⟩ := h pre x post e st hp
      obtain ⟨st2, h2, p2⟩ := ih (pre ++ [x]) st1 (by rw [e, List.append_assoc]; rfl) p1
      refine ⟨st2, ?_, p2⟩
      rw [List.map_cons, forL_cons]
      rcases h1 with h1 | h1 <;> (rw [h1]; exact h2)
  exact core l [] st rfl h0
end FL
namespace K07
open PySem PySem.Spec PyProof.Rows FL
def g_worth : SM :=
  (sSeq (sIf (qVal (eBin mEq (eBin mMod (eVar 1) (eC (.int 2))) (eC (.int 1)))) (sRet (eNeg (eBin mIx (eVar 0) (eBin mDiv (eVar 1) (eC (.int 2)))))) sNil)
    (sRet (eFl (eBin mIx (eVar 0) (eBin mDiv (eVar 1) (eC (.int 2)))))))
def m_worth : List D → Option D := fnRun 2 g_worth
def t_holds_6 : SM := (sRet (eBin mNe (eVar 2) (eBin mIx (eVar 1) (eC (.int 3)))))
def t_holds_5 : SM := (sSeq (sIf (qVal (eBin mEq (eVar 3) (eC (.str "same")))) (sRet (eBin mEq (eVar 2) (eBin mIx (eVar 1) (eC (.int 3))))) sNil) t_holds_6)
def t_holds_4 : SM := (sSeq (sIf (qVal (eBin mEq (eVar 3) (eC (.str "least")))) (sRet (eBin mGe (eVar 2) (eBin mIx (eVar 1) (eC (.int 3))))) sNil) t_holds_5)
def t_holds_3 : SM := (sSeq (sIf (qVal (eBin mEq (eVar 3) (eC (.str "most")))) (sRet (eBin mLe (eVar 2) (eBin mIx (eVar 1) (eC (.int 3))))) sNil) t_holds_4)
def t_holds_2 : SM := (sSeq (sSet 3 0 (eFl (eBin mIx (eVar 1) (eC (.int 2))))) t_holds_3)
def t_holds_1 : SM := (sSeq (sIf (qVal (eBin mNotN (eBin mIx (eVar 1) (eC (.int 1))) (eC .non))) (sSet 2 0 (eBin mAddI (eVar 2) (eCall m_worth (aCons (eVar 0) (aCons (eBin mIx (eVar 1) (eC (.int 1))) aNil))))) sNil) t_holds_2)
def g_holds : SM :=
  (sSeq (sSet 2 0 (eCallO 0 m_worth (aCons (eVar 0) (aCons (eBin mIx (eVar 1) (eC (.int 0))) aNil)))) t_holds_1)
def m_holds : List D → Option D := fnRun 4 g_holds
def g_turned : SM :=
  (sSeq (sSet 1 0 (eFl (eBin mIx (eVar 0) (eC (.int 2)))))
    (sSeq (sIf (qVal (eBin mEq (eVar 1) (eC (.str "most")))) (sRet (eTup (aCons (eFl (eBin mIx (eVar 0) (eC (.int 0)))) (aCons (eFl (eBin mIx (eVar 0) (eC (.int 1)))) (aCons (eC (.str "least")) (aCons (eBin mAddI (eBin mIx (eVar 0) (eC (.int 3))) (eC (.int 1))) aNil)))))) sNil)
    (sSeq (sIf (qVal (eBin mEq (eVar 1) (eC (.str "least")))) (sRet (eTup (aCons (eFl (eBin mIx (eVar 0) (eC (.int 0)))) (aCons (eFl (eBin mIx (eVar 0) (eC (.int 1)))) (aCons (eC (.str "most")) (aCons (eBin mSub (eBin mIx (eVar 0) (eC (.int 3))) (eC (.int 1))) aNil)))))) sNil)
    (sSeq (sIf (qVal (eBin mEq (eVar 1) (eC (.str "same")))) (sRet (eTup (aCons (eFl (eBin mIx (eVar 0) (eC (.int 0)))) (aCons (eFl (eBin mIx (eVar 0) (eC (.int 1)))) (aCons (eC (.str "unlike")) (aCons (eFl (eBin mIx (eVar 0) (eC (.int 3)))) aNil)))))) sNil)
    (sRet (eTup (aCons (eFl (eBin mIx (eVar 0) (eC (.int 0)))) (aCons (eFl (eBin mIx (eVar 0) (eC (.int 1)))) (aCons (eC (.str "same")) (aCons (eFl (eBin mIx (eVar 0) (eC (.int 3)))) aNil))))))))))
def m_turned : List D → Option D := fnRun 2 g_turned
def g_law_cell : SM :=
  (sSeq (sIf (qVal (eBin mLt (eVar 1) (eCB mLen (aCons (eVar 0) aNil)))) (sRet (eFl (eBin mIx (eVar 0) (eVar 1)))) sNil)
    (sSeq (sSet 2 0 (eBin mMul (eVar 1) (eC (.int 7919))))
    (sSeq (sIf (qVal (eBin mGt (eCB mLen (aCons (eVar 0) aNil)) (eC (.int 0)))) (sSet 2 0 (eBin mAddI (eVar 2) (eBin mMod (eBin mIx (eVar 0) (eBin mMod (eVar 1) (eCB mLen (aCons (eVar 0) aNil)))) (eC (.int 65537))))) sNil)
    (sSeq (sSet 3 0 (eBin mMod (eBin mMul (eVar 2) (eC (.int 48271))) (eC (.int 65537))))
    (sRet (eBin mMod (eBin mDiv (eBin mMul (eVar 3) (eBin mAddI (eBin mAddI (eVar 3) (eBin mMul (eC (.int 2)) (eVar 1))) (eC (.int 1)))) (eC (.int 7))) (eC (.int 65521))))))))
def m_law_cell : List D → Option D := fnRun 4 g_law_cell
def g_law_whole : SM :=
  (sRet (eAnd (eIsi "int" (eVar 0)) (eNot (eIsi "bool" (eVar 0)))))
def m_law_whole : List D → Option D := fnRun 1 g_law_whole
def g_law_big : SM :=
  (sSeq (sIf (qVal (eBin mEq (eBin mMod (eVar 0) (eC (.int 4))) (eC (.int 3)))) (sRet (eBin mSub (eBin mMod (eBin mDiv (eVar 0) (eC (.int 4))) (eBin mAddI (eBin mMul (eC (.int 2)) (eBin mPow (eC (.int 10)) (eC (.int 60)))) (eC (.int 1)))) (eBin mPow (eC (.int 10)) (eC (.int 60))))) sNil)
    (sRet (eBin mSub (eBin mMod (eBin mDiv (eVar 0) (eC (.int 4))) (eC (.int 21))) (eC (.int 10)))))
def m_law_big : List D → Option D := fnRun 1 g_law_big
def g_law_point : SM :=
  (sRet (eFl (eB mTuple (eLc [3] (iB mRng1 (eVar 2)) (gNm 3) qYes (eCallO 0 m_law_big (aCons (eCall m_law_cell (aCons (eVar 0) (aCons (eBin mAddI (eVar 1) (eVar 3)) aNil))) aNil))))))
def m_law_point : List D → Option D := fnRun 4 g_law_point
def g_law_worth : SM :=
  (sRet (eBin mMul (eBin mIx (eVar 0) (eBin mDiv (eVar 1) (eC (.int 2)))) (eBin mSub (eC (.int 1)) (eBin mMul (eBin mMod (eVar 1) (eC (.int 2))) (eC (.int 2))))))
def m_law_worth : List D → Option D := fnRun 2 g_law_worth
def g_law_flip : SM :=
  (sRet (eBin mSub (eBin mAddI (eVar 0) (eC (.int 1))) (eBin mMul (eBin mMod (eVar 0) (eC (.int 2))) (eC (.int 2)))))
def m_law_flip : List D → Option D := fnRun 1 g_law_flip
def g_law_due : SM :=
  (sSeq (sIf (qVal (eBin mEq (eBin mIx (eVar 0) (eC (.int 2))) (eC (.str "most")))) (sRet (eTup (aCons (eFl (eBin mIx (eVar 0) (eC (.int 0)))) (aCons (eFl (eBin mIx (eVar 0) (eC (.int 1)))) (aCons (eC (.str "least")) (aCons (eBin mAddI (eBin mIx (eVar 0) (eC (.int 3))) (eC (.int 1))) aNil)))))) sNil)
    (sSeq (sIf (qVal (eBin mEq (eBin mIx (eVar 0) (eC (.int 2))) (eC (.str "least")))) (sRet (eTup (aCons (eFl (eBin mIx (eVar 0) (eC (.int 0)))) (aCons (eFl (eBin mIx (eVar 0) (eC (.int 1)))) (aCons (eC (.str "most")) (aCons (eBin mSub (eBin mIx (eVar 0) (eC (.int 3))) (eC (.int 1))) aNil)))))) sNil)
    (sSeq (sIf (qVal (eBin mEq (eBin mIx (eVar 0) (eC (.int 2))) (eC (.str "same")))) (sRet (eTup (aCons (eFl (eBin mIx (eVar 0) (eC (.int 0)))) (aCons (eFl (eBin mIx (eVar 0) (eC (.int 1)))) (aCons (eC (.str "unlike")) (aCons (eFl (eBin mIx (eVar 0) (eC (.int 3)))) aNil)))))) sNil)
    (sRet (eTup (aCons (eFl (eBin mIx (eVar 0) (eC (.int 0)))) (aCons (eFl (eBin mIx (eVar 0) (eC (.int 1)))) (aCons (eC (.str "same")) (aCons (eFl (eBin mIx (eVar 0) (eC (.int 3)))) aNil)))))))))
def m_law_due : List D → Option D := fnRun 1 g_law_due
def g_law_alike : SM :=
  (sSeq (sIf (qOr (qNot (qVal (eIsi "tuple" (eVar 0)))) (qVal (eBin mNe (eCB mLen (aCons (eVar 0) aNil)) (eC (.int 4))))) (sRet (eC (.bl false))) sNil)
    (sSeq (sIf (qOr (qNot (qVal (eCall m_law_whole (aCons (eBin mIx (eVar 0) (eC (.int 0))) aNil)))) (qOr (qNot (qVal (eCall m_law_whole (aCons (eBin mIx (eVar 0) (eC (.int 3))) aNil)))) (qNot (qVal (eIsi "str" (eBin mIx (eVar 0) (eC (.int 2)))))))) (sRet (eC (.bl false))) sNil)
    (sSeq (sIf (qAnd (qVal (eBin mIsN (eBin mIx (eVar 1) (eC (.int 1))) (eC .non))) (qVal (eBin mNotN (eBin mIx (eVar 0) (eC (.int 1))) (eC .non)))) (sRet (eC (.bl false))) sNil)
    (sSeq (sIf (qAnd (qVal (eBin mNotN (eBin mIx (eVar 1) (eC (.int 1))) (eC .non))) (qNot (qVal (eCall m_law_whole (aCons (eBin mIx (eVar 0) (eC (.int 1))) aNil))))) (sRet (eC (.bl false))) sNil)
    (sRet (eBin mEq (eVar 0) (eVar 1)))))))
def m_law_alike : List D → Option D := fnRun 2 g_law_alike
def t_law_10 : SM := (sRet (eC (.bl true)))
def t_law_9 : SM := (sSeq (sFor (iB itsS (eLst (aCons (eC (.str "most")) (aCons (eC (.str "least")) (aCons (eC (.str "same")) (aCons (eC (.str "unlike")) aNil)))))) (gNm 7) (sSeq (sSet 8 0 (eTup (aCons (eVarS 3) (aCons (eVarS 4) (aCons (eVarS 7) (aCons (eVarS 6) aNil))))))
    (sSeq (sSet 9 0 (eCallO 0 m_turned (aCons (eVar 8) aNil)))
    (sSeq (sIf (qNot (qVal (eCall m_law_alike (aCons (eVar 9) (aCons (eCall m_law_due (aCons (eVar 8) aNil)) aNil))))) (sRet (eC (.bl false))) sNil)
    (sSeq (sSet 10 0 (eCallO 0 m_holds (aCons (eVar 2) (aCons (eVar 8) aNil))))
    (sSeq (sSet 11 0 (eCallO 0 m_holds (aCons (eVar 2) (aCons (eVar 9) aNil))))
    (sSeq (sIf (qOr (qNot (qVal (eIsi "bool" (eVar 10)))) (qOr (qNot (qVal (eIsi "bool" (eVar 11)))) (qVal (eBin mEq (eVar 10) (eVar 11))))) (sRet (eC (.bl false))) sNil)
    (sIf (qNot (qVal (eCall m_law_alike (aCons (eCall m_turned (aCons (eVar 9) aNil)) (aCons (eVar 8) aNil))))) (sRet (eC (.bl false))) sNil)))))))) t_law_10)
def t_law_8 : SM := (sSeq (sIf (qVal (eBin mEq (eBin mMod (eCall m_law_cell (aCons (eVar 0) (aCons (eC (.int 11)) aNil))) (eC (.int 4))) (eC (.int 0)))) (sSet 6 0 (eCallO 0 m_law_big (aCons (eCall m_law_cell (aCons (eVar 0) (aCons (eC (.int 10)) aNil))) aNil))) sNil) t_law_9)
def t_law_7 : SM := (sSeq (sIf (qVal (eBin mGt (eBin mMod (eCall m_law_cell (aCons (eVar 0) (aCons (eC (.int 10)) aNil))) (eC (.int 3))) (eC (.int 0)))) (sSet 6 0 (eBin mSub (eBin mAddI (eVar 5) (eBin mMod (eBin mDiv (eCall m_law_cell (aCons (eVar 0) (aCons (eC (.int 10)) aNil))) (eC (.int 3))) (eC (.int 5)))) (eC (.int 2)))) sNil) t_law_8)
def t_law_6 : SM := (sSeq (sSet 6 0 (eVarS 5)) t_law_7)
def t_law_5 : SM := (sSeq (sIf (qVal (eBin mGt (eBin mMod (eCall m_law_cell (aCons (eVar 0) (aCons (eC (.int 3)) aNil))) (eC (.int 3))) (eC (.int 0)))) (sSeq (sSet 4 0 (eBin mMod (eCall m_law_cell (aCons (eVar 0) (aCons (eC (.int 2)) aNil))) (eBin mMul (eC (.int 2)) (eVar 1))))
    (sSet 5 0 (eBin mAddI (eVar 5) (eCall m_law_worth (aCons (eVar 2) (aCons (eVar 4) aNil)))))) sNil) t_law_6)
def t_law_4 : SM := (sSeq (sSet 5 0 (eCallO 0 m_law_worth (aCons (eVar 2) (aCons (eVar 3) aNil)))) t_law_5)
def t_law_3 : SM := (sSeq (sSet 4 0 (eC .non)) t_law_4)
def t_law_2 : SM := (sSeq (sSet 3 0 (eBin mMod (eCall m_law_cell (aCons (eVar 0) (aCons (eC (.int 1)) aNil))) (eBin mMul (eC (.int 2)) (eVar 1)))) t_law_3)
def t_law_1 : SM := (sSeq (sSet 2 0 (eCallO 0 m_law_point (aCons (eVar 0) (aCons (eC (.int 4)) (aCons (eVar 1) aNil))))) t_law_2)
def g_law : SM :=
  (sSeq (sSet 1 0 (eBin mAddI (eC (.int 1)) (eBin mMod (eCall m_law_cell (aCons (eVar 0) (aCons (eC (.int 0)) aNil))) (eC (.int 6))))) t_law_1)
def m_law : List D → Option D := fnRun 12 g_law
local macro_rules | `(tactic| walk_at "ev") => `(tactic| simp (disch := first | omega | assumption) only [e_run, e_seq, e_nil, e_sif, e_ret, e_exp, e_set, e_aug, e_asg, e_for, e_bin, e_binL, e_sl, e_onone, e_osome, e_fl, e_call, e_callO, e_cb, e_b, e_ib, e_c, e_anil, e_acons, e_val, e_neg, e_not, e_and, e_or, e_qand, e_qor, e_qnot, e_qyes, e_eif, e_tup, e_lst, e_isi, e_var0, e_varS0, e_varS0', e_var0i, e_varS, e_varSS, o_b2, o_bL, o_b3, o_b1, o_cons, o_val, o_neg, o_not, o_and1, o_and0, o_or1, o_or0, o_andB1, o_andB0, o_orB1, o_orB0, o_and, o_or, o_andB, o_orB, o_notB, o_if1, o_if0, o_ifB, o_int, o_set, o_aug, o_ret, o_exp, o_seq, o_seqR, o_seqB, o_seqC, o_seqI, o_runI, o_tup1, o_tup2, o_tup3, o_tup4, o_tup5, o_lst0, o_lst1, o_lst2, o_lst3, o_lst4, o_lst5, o_lst8, o_asg, o_for, o_runR, o_runN, bmap, rep0, repS, set0, setS, get0, getS, isva, isun, isv0, isv0u, ix_t0, ix_t1, ix_t2, ix_t3, ix_t4, ix_l0, ix_l1, chk_tup, chk_lst, fl_nil, fl_cons, f_int, f_bl, f_str, f_non, f_tup, f_lst, full_w, full_o, chk_int, chk_bl, chk_non, chk_str, chk_ints, isi_ii, isi_ib, isi_bb, isi_tt, isi_ll, add_ii, sub_ii, lt_ii, le_ii, gt_ii, ge_ii, eq_ii, ne_ii, eq_bb, ne_bb, isN_n, isN_i, notN_n, notN_i, len_scr, len_lst, len_tup, gnm, forL_cons, o_loopN, o_loopC, o_loopB, o_loopR, o_loopI, o_body, decide_true, decide_false, Bool.false_eq_true, eq_self, wipe_nil, wipe_cons, forL_nil, mod_ii, div_s, mul_l, mul_r, ix_scr, ix_ints, l_most, l_least, l_same, l_unlike, l_set, l_ask, l_need, l_claim, l_if, l_while, l_else, l_end, l_plain, mEq_w, mNe_w, chk_w, isi_sw, isN_w, notN_w, chk_o, isN_o, notN_o, reduceCtorEq, Int.cast_ofNat_Int, Bool.not_not,  List.map_cons, List.map_nil, List.cons_append, List.nil_append, List.length_cons, List.length_nil, if_true, if_false, Bool.not_true, Bool.not_false, decide_eq_true_eq, Nat.add_zero, Nat.zero_add, Nat.reduceAdd, Nat.reduceSub, Nat.sub_self, Nat.add_sub_cancel, reduceIte, Bool.true_and, Bool.and_true, Bool.false_and, Bool.and_false, Bool.true_or, Bool.or_true, Bool.false_or, Bool.or_false])

def worthI (pt : List Int) (f : Int) : Int := if f % 2 = 1 then -(pt.getD (f / 2).toNat 0) else pt.getD (f / 2).toNat 0
def flipI (f : Int) : Int := f + 1 - f % 2 * 2
theorem flipI_nn {f : Int} (h : 0 ≤ f) : 0 ≤ flipI f := by unfold flipI; omega
theorem flipI_lt {f n : Int} (h : f < 2 * n) : flipI f < 2 * n := by unfold flipI; omega
theorem flipI_flip (f : Int) : flipI (flipI f) = f := by unfold flipI; omega
theorem xor_flip (f : Int) (h : 0 ≤ f) : Builtin.bitXor f 1 = flipI f := by
  rw [Bits.bitXor_pp h (by decide)]
  have h1 : (f.toNat ^^^ 1) / 2 = f.toNat / 2 := by rw [Nat.xor_div_two]; simp
  have h2 : (f.toNat ^^^ 1) % 2 = (f.toNat + 1) % 2 := by
    have := Nat.xor_mod_two_eq_one (a := f.toNat) (b := 1)
    omega
  show ((f.toNat ^^^ 1 : Nat) : Int) = _
  unfold flipI
  omega
theorem flip_worth (pt : List Int) (f : Int) : worthI pt (flipI f) = -worthI pt f := by
  unfold worthI flipI
  have e : (f + 1 - f % 2 * 2) / 2 = f / 2 := by omega
  rw [e]
  rcases Int.emod_two_eq f with h | h
  · rw [if_pos (by omega), if_neg (by omega)]
  · rw [if_neg (by omega), if_pos (by omega)]; omega
abbrev sideD (f g c : Int) : D := .tup [.int f, .int g, .int c]
abbrev qD (f : Int) (g : Option Int) (w : Wd) (c : Int) : D := .tup [.int f, oD g, wD w, .int c]
def qSum (pt : List Int) (f : Int) (g : Option Int) : Int := worthI pt f + (match g with | none => 0 | some g => worthI pt g)
/-- whether a sum meets a word and a number -/
def wdHolds (w : Wd) (s c : Int) : Bool := match w with
  | .most => decide (s ≤ c)
  | .least => decide (c ≤ s)
  | .same => decide (s = c)
  | _ => !decide (s = c)
def fOk (n : Int) (f : Int) : Prop := 0 ≤ f ∧ f < 2 * n
def gOk (n : Int) (g : Option Int) : Prop := ∀ x, g = some x → 0 ≤ x ∧ x < 2 * n

-- SIMP: worth_eq
theorem worth_eq (pt : List Int) (f : Int) (h0 : 0 ≤ f) (h : f < 2 * pt.length) : m_worth [tupI pt, .int f] = some (.int (worthI pt f)) := by
  unfold m_worth g_worth worthI
  walk_at "ev"
  split <;> rfl

-- SIMP: holds_eq
theorem holds_eq (pt : List Int) (f : Int) (g : Option Int) (w : Wd) (c : Int) (hf : fOk pt.length f) (hg : gOk pt.length g) : m_holds [tupI pt, qD f g w c] = some (.bl (wdHolds w (qSum pt f g) c)) := by
  obtain ⟨f0, f1⟩ := hf
  unfold m_holds g_holds t_holds_1
  walk_at "ev"
  rw [worth_eq pt f f0 f1]
  have go : ∀ s : Int, s = qSum pt f g → orun (t_holds_2 [.va 0 (tupI pt), .va 0 (qD f g w c), .va 0 (.int s), .un]) = some (.bl (wdHolds w (qSum pt f g) c)) := by
    intro s hs
    unfold t_holds_2 t_holds_3 t_holds_4 t_holds_5 t_holds_6
    walk_at "ev"
    rw [← hs]
    cases w <;> simp [wdHolds]
  cases g with
  | none =>
    walk_at "ev"
    exact go _ (by unfold qSum; simp)
  | some g =>
    obtain ⟨g0, g1⟩ := hg g rfl
    walk_at "ev"
    simp only [oD, Option.isSome_some]
    walk_at "ev"
    rw [worth_eq pt g g0 g1]
    walk_at "ev"
    exact go _ rfl

-- SIMP: turned_eq
def turnW : Wd → Wd
  | .most => .least
  | .least => .most
  | .same => .unlike
  | _ => .same
def turnC (w : Wd) (c : Int) : Int := match w with
  | .most => c + 1
  | .least => c - 1
  | _ => c
theorem turned_eq (f : Int) (g : Option Int) (w : Wd) (c : Int) : m_turned [qD f g w c] = some (qD f g (turnW w) (turnC w c)) := by
  unfold m_turned g_turned
  walk_at "ev"
  cases w <;> rfl
theorem turn_holds (w : Wd) (s c : Int) (h : w = .most ∨ w = .least ∨ w = .same ∨ w = .unlike) : wdHolds (turnW w) s (turnC w c) = !wdHolds w s c := by
  rcases h with rfl | rfl | rfl | rfl
  · show decide (c + 1 ≤ s) = !decide (s ≤ c)
    by_cases h : s ≤ c
    · rw [decide_eq_true h, decide_eq_false (by omega)]; rfl
    · rw [decide_eq_false h, decide_eq_true (by omega)]; rfl
  · show decide (s ≤ c - 1) = !decide (c ≤ s)
    by_cases h : c ≤ s
    · rw [decide_eq_true h, decide_eq_false (by omega)]; rfl
    · rw [decide_eq_false h, decide_eq_true (by omega)]; rfl
  · rfl
  · show decide (s = c) = !!decide (s = c)
    rw [Bool.not_not]
theorem turn_turn (f : Int) (g : Option Int) (w : Wd) (c : Int) (h : w = .most ∨ w = .least ∨ w = .same ∨ w = .unlike) : qD f g (turnW (turnW w)) (turnC (turnW w) (turnC w c)) = qD f g w c := by
  rcases h with rfl | rfl | rfl | rfl
  · show qD f g .most (c + 1 - 1) = _
    rw [Int.add_sub_cancel]
  · show qD f g .least (c - 1 + 1) = _
    rw [Int.sub_add_cancel]
  · rfl
  · rfl

-- SIMP: cell_eq
def cellV (ns : List Int) (k : Int) : Int :=
  if k < ns.length then ns.getD k.toNat 0 else
    let seed := if 0 < (ns.length : Int) then k * 7919 + ns.getD (k % ns.length).toNat 0 % 65537 else k * 7919
    let some := seed * 48271 % 65537
    some * (some + 2 * k + 1) / 7 % 65521
theorem cell_eq (ns : List Int) (k : Int) (hk : 0 ≤ k) : m_law_cell [.scr ns, .int k] = some (.int (cellV ns k)) := by
  unfold m_law_cell g_law_cell cellV
  by_cases h1 : k < ns.length
  · rw [if_pos h1]
    walk_at "ev"
    rw [if_pos h1]
  · rw [if_neg h1]
    by_cases h2 : 0 < (ns.length : Int)
    · have h3 := Int.emod_nonneg k (show (ns.length : Int) ≠ 0 by omega)
      have h4 := Int.emod_lt_of_pos k h2
      walk_at "ev"
      simp only [if_neg h1, if_pos h2]
    · walk_at "ev"
      simp only [if_neg h1, if_neg h2]

-- SIMP: whole_int
theorem whole_int (i : Int) : m_law_whole [.int i] = some (.bl true) := by
  unfold m_law_whole g_law_whole
  walk_at "ev"

-- SIMP: big_eq
def bigV (c : Int) : Int := if c % 4 = 3 then c / 4 % (2 * 10 ^ 60 + 1) - 10 ^ 60 else c / 4 % 21 - 10
theorem big_eq (c : Int) : m_law_big [.int c] = some (.int (bigV c)) := by
  unfold m_law_big g_law_big bigV
  have p : mPow (.int 10) (.int 60) = some (.int (10 ^ 60)) := pow_n 10 60 (by decide) (by decide) (by decide)
  walk_at "ev"
  simp only [p]
  walk_at "ev"
  split <;> rfl

def pointV (ns : List Int) (at' : Int) (n : Nat) : List Int := (List.range n).map fun (i : Nat) => bigV (cellV ns (at' + i))
theorem pointV_len (ns : List Int) (at' : Int) (n : Nat) : (pointV ns at' n).length = n := by unfold pointV; rw [List.length_map, List.length_range]
theorem point_eq (ns : List Int) (at' : Int) (n : Nat) (h0 : 0 ≤ at') (hn : n < 1000000) : m_law_point [.scr ns, .int at', .int n] = some (tupI (pointV ns at' n)) := by
  unfold m_law_point g_law_point
  have lc : eLc [3] (iB mRng1 (eVar 2)) (gNm 3) qYes (eCallO 0 m_law_big (aCons (eCall m_law_cell (aCons (eVar 0) (aCons (eBin mAddI (eVar 1) (eVar 3)) aNil))) aNil)) [.va 0 (.scr ns), .va 0 (.int at'), .va 0 (.int n), .un] = some (.lst ((List.range n).map fun (i : Nat) => D.int (bigV (cellV ns (at' + i))))) := by
    refine lc_map (fun (i : Nat) => D.int i) _ (List.range n) ?_ rfl (by rw [List.length_range]; omega) fun i hi => ?_
    · walk_at "ev"
      rw [rng1_eq n (by omega) (by omega), Int.toNat_natCast]
    · refine ⟨_, rfl, rfl, ?_⟩
      walk_at "ev"
      rw [cell_eq ns (at' + i) (by omega)]
      walk_at "ev"
      rw [big_eq]
      walk_at "ev"
  walk_at "ev"
  rw [lc]
  have e : tupI (pointV ns at' n) = .tup ((List.range n).map fun (i : Nat) => D.int (bigV (cellV ns (at' + i)))) := by
    unfold tupI pointV; rw [List.map_map]; rfl
  show orun (oret _ (ob1 (chk 0) (some (.tup _)))) = _
  rw [← e]
  walk_at "ev"
theorem pt_ex (ns : List Int) (at' n : Int) (h0 : 0 ≤ at') (n0 : 0 ≤ n) (n1 : n < 1000000) : ∃ pt : List Int, m_law_point [.scr ns, .int at', .int n] = some (tupI pt) ∧ (pt.length : Int) = n := by
  have := point_eq ns at' n.toNat h0 (by omega)
  rw [Int.toNat_of_nonneg n0] at this
  exact ⟨_, this, by rw [pointV_len]; omega⟩

-- SIMP: lworth_eq
theorem lworth_eq (pt : List Int) (f : Int) (h0 : 0 ≤ f) (h : f < 2 * pt.length) : m_law_worth [tupI pt, .int f] = some (.int (worthI pt f)) := by
  unfold m_law_worth g_law_worth worthI
  walk_at "ev"
  congr 2
  rcases Int.emod_two_eq f with e | e
  · rw [e, if_neg (by decide)]; omega
  · rw [e, if_pos rfl]; omega

-- SIMP: lflip_eq
theorem lflip_eq (f : Int) : m_law_flip [.int f] = some (.int (flipI f)) := by
  unfold m_law_flip g_law_flip flipI
  walk_at "ev"

-- SIMP: due_eq
theorem due_eq (f : Int) (g : Option Int) (w : Wd) (c : Int) : m_law_due [qD f g w c] = some (qD f g (turnW w) (turnC w c)) := by
  unfold m_law_due g_law_due
  walk_at "ev"
  cases w <;> rfl

-- SIMP: alike_eq
theorem tyD_o (g : Option Int) : tyD (oD g) = some (if g.isSome then "int" else "NoneType") := by cases g <;> rfl
theorem q_len (f : Int) (g : Option Int) (w : Wd) (c : Int) : mLen [qD f g w c] = some (.int 4) := id rfl
theorem ok_q (f : Int) (g : Option Int) (w : Wd) (c : Int) : okD 1 (qD f g w c) := ok_tup fun d h => by
  simp only [List.mem_cons, List.mem_nil_iff, or_false] at h
  rcases h with rfl | rfl | rfl | rfl
  · exact ok_int _ _
  · exact ok_o _ _
  · exact ok_w _ _
  · exact ok_int _ _
theorem nob_q (f : Int) (g : Option Int) (w : Wd) (c : Int) : nob (qD f g w c) = true := by cases g <;> rfl
theorem whole_o (g : Option Int) : g.isSome = true → m_law_whole [oD g] = some (.bl true) := by
  intro h
  cases g with
  | none => cases h
  | some g => exact whole_int g
theorem alike_eq (f : Int) (g : Option Int) (w : Wd) (c : Int) : m_law_alike [qD f g w c, qD f g w c] = some (.bl true) := by
  unfold m_law_alike g_law_alike
  walk_at "ev"
  simp only [whole_int]
  walk_at "ev"
  have e := mEq_self (ok_q f g w c) (by decide) (nob_q f g w c)
  cases g with
  | none =>
    simp only [Option.isNone_none, Option.isSome_none]
    walk_at "ev"
    rw [e]
    walk_at "ev"
  | some g =>
    simp only [Option.isNone_some, Option.isSome_some, oD, whole_int]
    walk_at "ev"
    rw [e]
    walk_at "ev"

local macro_rules | `(tactic| walk_at "lw") => `(tactic| simp (disch := first | omega | assumption) only [e_run, e_seq, e_nil, e_sif, e_ret, e_exp, e_set, e_aug, e_asg, e_for, e_bin, e_binL, e_sl, e_onone, e_osome, e_fl, e_call, e_callO, e_cb, e_b, e_ib, e_c, e_anil, e_acons, e_val, e_neg, e_not, e_and, e_or, e_qand, e_qor, e_qnot, e_qyes, e_eif, e_tup, e_lst, e_isi, e_var0, e_varS0, e_varS0', e_var0i, e_varS, e_varSS, o_b2, o_bL, o_b3, o_b1, o_cons, o_val, o_neg, o_not, o_and1, o_and0, o_or1, o_or0, o_andB1, o_andB0, o_orB1, o_orB0, o_and, o_or, o_andB, o_orB, o_notB, o_if1, o_if0, o_ifB, o_int, o_set, o_aug, o_ret, o_exp, o_seq, o_seqR, o_seqB, o_seqC, o_seqI, o_runI, o_tup1, o_tup2, o_tup3, o_tup4, o_tup5, o_lst0, o_lst1, o_lst2, o_lst3, o_lst4, o_lst5, o_lst8, o_asg, o_for, o_runR, o_runN, bmap, rep0, repS, set0, setS, get0, getS, isva, isun, isv0, isv0u, ix_t0, ix_t1, ix_t2, ix_t3, ix_t4, ix_l0, ix_l1, chk_tup, chk_lst, fl_nil, fl_cons, f_int, f_bl, f_str, f_non, f_tup, f_lst, full_w, full_o, chk_int, chk_bl, chk_non, chk_str, chk_ints, isi_ii, isi_ib, isi_bb, isi_tt, isi_ll, add_ii, sub_ii, lt_ii, le_ii, gt_ii, ge_ii, eq_ii, ne_ii, eq_bb, ne_bb, isN_n, isN_i, notN_n, notN_i, len_scr, len_lst, len_tup, gnm, forL_cons, o_loopN, o_loopC, o_loopB, o_loopR, o_loopI, o_body, decide_true, decide_false, Bool.false_eq_true, eq_self, wipe_nil, wipe_cons, forL_nil, mod_ii, div_s, mul_l, mul_r, ix_scr, ix_ints, l_most, l_least, l_same, l_unlike, l_set, l_ask, l_need, l_claim, l_if, l_while, l_else, l_end, l_plain, mEq_w, mNe_w, chk_w, isi_sw, isN_w, notN_w, chk_o, isN_o, notN_o, reduceCtorEq, Int.cast_ofNat_Int, Bool.not_not,  List.map_cons, List.map_nil, List.cons_append, List.nil_append, List.length_cons, List.length_nil, if_true, if_false, Bool.not_true, Bool.not_false, decide_eq_true_eq, Nat.add_zero, Nat.zero_add, Nat.reduceAdd, Nat.reduceSub, Nat.sub_self, Nat.add_sub_cancel, reduceIte, Bool.true_and, Bool.and_true, Bool.false_and, Bool.and_false, Bool.true_or, Bool.or_true, Bool.false_or, Bool.or_false, worth_eq, holds_eq, turned_eq, cell_eq, whole_int, big_eq, lworth_eq, lflip_eq, due_eq, alike_eq])

theorem rest_eq (ns : List Int) (n : Int) (pt : List Int) (f : Int) (g : Option Int) (c : Int) (hl : (pt.length : Int) = n) (hf : fOk n f) (hg : gOk n g) :
    orun (t_law_9 [.va 0 (.scr ns), .va 0 (.int n), .va 0 (tupI pt), .va 0 (.int f), .va 0 (oD g), .va 0 (.int (qSum pt f g)), .va 0 (.int c), .un, .un, .un, .un, .un]) = some (.bl true) := by
  subst hl
  unfold t_law_9 t_law_10
  walk_at "lw"
  simp only [itsS, o_b1]
  have h1 := turn_holds .most (qSum pt f g) c (by simp)
  have h2 := turn_holds .least (qSum pt f g) c (by simp)
  have h3 := turn_holds .same (qSum pt f g) c (by simp)
  have h4 := turn_holds .unlike (qSum pt f g) c (by simp)
  have k1 := turn_turn f g .most c (by simp)
  have k2 := turn_turn f g .least c (by simp)
  have k3 := turn_turn f g .same c (by simp)
  have k4 := turn_turn f g .unlike c (by simp)
  have nn : ∀ b : Bool, (b == !b) = false := by intro b; cases b <;> rfl
  walk_at "lw"
  simp only [h1, k1, nn, alike_eq]
  walk_at "lw"
  simp only [h2, k2, nn, alike_eq]
  walk_at "lw"
  simp only [h3, k3, nn, alike_eq]
  walk_at "lw"
  simp only [h4, k4, nn, alike_eq]
  walk_at "lw"
theorem law_true (ns : List Int) (h : ns.length ≤ 63) : m_law [.scr ns] = some (.bl true) := by
  unfold m_law g_law
  walk_at "lw"
  generalize hn : 1 + cellV ns 0 % 6 = n
  have n1 : 1 ≤ n := by omega
  have n2 : n ≤ 6 := by omega
  obtain ⟨pt, hp, hl⟩ := pt_ex ns 4 n (by omega) (by omega) (by omega)
  unfold t_law_1 t_law_2 t_law_3 t_law_4 t_law_5
  walk_at "lw"
  rw [hp]
  have f0 := Int.emod_nonneg (cellV ns 1) (show 2 * n ≠ 0 by omega)
  have f1 := Int.emod_lt_of_pos (cellV ns 1) (show 0 < 2 * n by omega)
  have g0 := Int.emod_nonneg (cellV ns 2) (show 2 * n ≠ 0 by omega)
  have g1 := Int.emod_lt_of_pos (cellV ns 2) (show 0 < 2 * n by omega)
  walk_at "lw"
  generalize cellV ns 1 % (2 * n) = f at *
  generalize cellV ns 2 % (2 * n) = g at *
  have step : ∀ g : Option Int, gOk n g → orun (t_law_6 [.va 0 (.scr ns), .va 0 (.int n), .va 0 (tupI pt), .va 0 (.int f), .va 0 (oD g), .va 0 (.int (qSum pt f g)), .un, .un, .un, .un, .un, .un]) = some (.bl true) := by
    intro g hg
    unfold t_law_6 t_law_7
    walk_at "lw"
    have go : ∀ c : Int, orun (t_law_8 [.va 0 (.scr ns), .va 0 (.int n), .va 0 (tupI pt), .va 0 (.int f), .va 0 (oD g), .va 0 (.int (qSum pt f g)), .va 0 (.int c), .un, .un, .un, .un, .un]) = some (.bl true) := by
      intro c
      unfold t_law_8
      walk_at "lw"
      split
      · exact rest_eq ns n pt f g _ hl ⟨f0, f1⟩ hg
      · exact rest_eq ns n pt f g _ hl ⟨f0, f1⟩ hg
    split
    · exact go _
    · exact go _
  split
  · exact step (some g) fun x hx => by cases hx; exact ⟨g0, g1⟩
  · have e : worthI pt f = qSum pt f none := by unfold qSum; simp
    rw [e]
    exact step none fun x hx => by cases hx
end K07
namespace K07
open PySem PySem.Spec PyProof.Rows L2 FL
def topS (i : Nat) : Stmt := PySem.Challenge.pw_eightsides_k07_turned.main.body.getD i (.Pass ⟨0, 0, 0, 0⟩)
abbrev s_worth : Stmt := topS 1
def N_worth : List Str := ["point", "f"]
theorem sc_worth : FnScope ["point", "f"] ["point", "f"] (defScope s_worth) := ⟨rfl, rfl, rfl, by decide +kernel, rfl, by decide +kernel, by decide +kernel⟩
abbrev s_holds : Stmt := topS 3
def N_holds : List Str := ["point", "question", "some", "word"]
theorem sc_holds : FnScope ["point", "question", "some", "word"] ["point", "question"] (defScope s_holds) := ⟨rfl, rfl, rfl, by decide +kernel, rfl, by decide +kernel, by decide +kernel⟩
abbrev s_turned : Stmt := topS 4
def N_turned : List Str := ["question", "word"]
theorem sc_turned : FnScope ["question", "word"] ["question"] (defScope s_turned) := ⟨rfl, rfl, rfl, by decide +kernel, rfl, by decide +kernel, by decide +kernel⟩
abbrev s_law_cell : Stmt := topS 6
def N_law_cell : List Str := ["_law_script", "_law_k", "_law_seed", "_law_some"]
theorem sc_law_cell : FnScope ["_law_script", "_law_k", "_law_seed", "_law_some"] ["_law_script", "_law_k"] (defScope s_law_cell) := ⟨rfl, rfl, rfl, by decide +kernel, rfl, by decide +kernel, by decide +kernel⟩
abbrev s_law_whole : Stmt := topS 7
def N_law_whole : List Str := ["_law_found"]
theorem sc_law_whole : FnScope ["_law_found"] ["_law_found"] (defScope s_law_whole) := ⟨rfl, rfl, rfl, by decide +kernel, rfl, by decide +kernel, by decide +kernel⟩
abbrev s_law_big : Stmt := topS 8
def N_law_big : List Str := ["_law_cell_here"]
theorem sc_law_big : FnScope ["_law_cell_here"] ["_law_cell_here"] (defScope s_law_big) := ⟨rfl, rfl, rfl, by decide +kernel, rfl, by decide +kernel, by decide +kernel⟩
abbrev s_law_point : Stmt := topS 9
def N_law_point : List Str := ["_law_script", "_law_at", "_law_count", "_law_k"]
theorem sc_law_point : FnScope ["_law_script", "_law_at", "_law_count", "_law_k"] ["_law_script", "_law_at", "_law_count"] (defScope s_law_point) := ⟨rfl, rfl, rfl, by decide +kernel, rfl, by decide +kernel, by decide +kernel⟩
abbrev s_law_worth : Stmt := topS 10
def N_law_worth : List Str := ["_law_point_here", "_law_f"]
theorem sc_law_worth : FnScope ["_law_point_here", "_law_f"] ["_law_point_here", "_law_f"] (defScope s_law_worth) := ⟨rfl, rfl, rfl, by decide +kernel, rfl, by decide +kernel, by decide +kernel⟩
abbrev s_law_flip : Stmt := topS 11
def N_law_flip : List Str := ["_law_f"]
theorem sc_law_flip : FnScope ["_law_f"] ["_law_f"] (defScope s_law_flip) := ⟨rfl, rfl, rfl, by decide +kernel, rfl, by decide +kernel, by decide +kernel⟩
abbrev s_law_due : Stmt := topS 12
def N_law_due : List Str := ["_law_question"]
theorem sc_law_due : FnScope ["_law_question"] ["_law_question"] (defScope s_law_due) := ⟨rfl, rfl, rfl, by decide +kernel, rfl, by decide +kernel, by decide +kernel⟩
abbrev s_law_alike : Stmt := topS 13
def N_law_alike : List Str := ["_law_found", "_law_due_here"]
theorem sc_law_alike : FnScope ["_law_found", "_law_due_here"] ["_law_found", "_law_due_here"] (defScope s_law_alike) := ⟨rfl, rfl, rfl, by decide +kernel, rfl, by decide +kernel, by decide +kernel⟩
abbrev s_law : Stmt := topS 14
def N_law : List Str := ["_law_script", "_law_count", "_law_point_here", "_law_f", "_law_g", "_law_some", "_law_number", "_law_word", "_law_question", "_law_found", "_law_before", "_law_behind"]
theorem sc_law : FnScope ["_law_script", "_law_count", "_law_point_here", "_law_f", "_law_g", "_law_some", "_law_number", "_law_word", "_law_question", "_law_found", "_law_before", "_law_behind"] ["_law_script"] (defScope s_law) := ⟨rfl, rfl, rfl, by decide +kernel, rfl, by decide +kernel, by decide +kernel⟩
structure Txt (K : PySem.W.Frag) (mg : Str → Option Value) where
  a_worth : Addr
  d_worth : FuncData
  F_worth : Fun K "worth" "worth" s_worth a_worth d_worth
  g_worth : mg "worth" = some (.ref a_worth)
  b_worth : Binds K d_worth ["point", "f"] []
  a_holds : Addr
  d_holds : FuncData
  F_holds : Fun K "holds" "holds" s_holds a_holds d_holds
  g_holds : mg "holds" = some (.ref a_holds)
  b_holds : Binds K d_holds ["point", "question"] []
  a_turned : Addr
  d_turned : FuncData
  F_turned : Fun K "turned" "turned" s_turned a_turned d_turned
  g_turned : mg "turned" = some (.ref a_turned)
  b_turned : Binds K d_turned ["question"] []
  a_law_cell : Addr
  d_law_cell : FuncData
  F_law_cell : Fun K "_law_cell" "_law_cell" s_law_cell a_law_cell d_law_cell
  g_law_cell : mg "_law_cell" = some (.ref a_law_cell)
  b_law_cell : Binds K d_law_cell ["_law_script", "_law_k"] []
  a_law_whole : Addr
  d_law_whole : FuncData
  F_law_whole : Fun K "_law_whole" "_law_whole" s_law_whole a_law_whole d_law_whole
  g_law_whole : mg "_law_whole" = some (.ref a_law_whole)
  b_law_whole : Binds K d_law_whole ["_law_found"] []
  a_law_big : Addr
  d_law_big : FuncData
  F_law_big : Fun K "_law_big" "_law_big" s_law_big a_law_big d_law_big
  g_law_big : mg "_law_big" = some (.ref a_law_big)
  b_law_big : Binds K d_law_big ["_law_cell_here"] []
  a_law_point : Addr
  d_law_point : FuncData
  F_law_point : Fun K "_law_point" "_law_point" s_law_point a_law_point d_law_point
  g_law_point : mg "_law_point" = some (.ref a_law_point)
  b_law_point : Binds K d_law_point ["_law_script", "_law_at", "_law_count"] []
  a_law_worth : Addr
  d_law_worth : FuncData
  F_law_worth : Fun K "_law_worth" "_law_worth" s_law_worth a_law_worth d_law_worth
  g_law_worth : mg "_law_worth" = some (.ref a_law_worth)
  b_law_worth : Binds K d_law_worth ["_law_point_here", "_law_f"] []
  a_law_flip : Addr
  d_law_flip : FuncData
  F_law_flip : Fun K "_law_flip" "_law_flip" s_law_flip a_law_flip d_law_flip
  g_law_flip : mg "_law_flip" = some (.ref a_law_flip)
  b_law_flip : Binds K d_law_flip ["_law_f"] []
  a_law_due : Addr
  d_law_due : FuncData
  F_law_due : Fun K "_law_due" "_law_due" s_law_due a_law_due d_law_due
  g_law_due : mg "_law_due" = some (.ref a_law_due)
  b_law_due : Binds K d_law_due ["_law_question"] []
  a_law_alike : Addr
  d_law_alike : FuncData
  F_law_alike : Fun K "_law_alike" "_law_alike" s_law_alike a_law_alike d_law_alike
  g_law_alike : mg "_law_alike" = some (.ref a_law_alike)
  b_law_alike : Binds K d_law_alike ["_law_found", "_law_due_here"] []
  a_law : Addr
  d_law : FuncData
  F_law : Fun K "law" "law" s_law a_law d_law
  g_law : mg "law" = some (.ref a_law)
  b_law : Binds K d_law ["_law_script"] []
  m_bool : mg "bool" = none
  m_int : mg "int" = none
  m_isinstance : mg "isinstance" = none
  m_len : mg "len" = none
  m_range : mg "range" = none
  m_str : mg "str" = none
  m_tuple : mg "tuple" = none
section
variable {P : Program} {w : World} {K : PySem.W.Frag} {mg : Str → Option Value} {base : Heap}
theorem ok_worth (T : Txt K mg) : FnOk P w K mg base CX0 1 T.a_worth T.d_worth ["point", "f"] (spF K 2 0 m_worth) :=
  fn_ok (N := ["point", "f"]) T.F_worth sc_worth 0 g_worth fun cdv A outer s H E hr => by
    have nd := sc_worth.nd
    have v0 : ∀ pos : Pos, PE (cxOf CX0 P w K mg base ["point", "f"] "worth" (defScope s_worth) T.a_worth cdv A outer s H E).nox (.Name "point" pos) (tVar 0) := fun _ => pv 0
    have v1 : ∀ pos : Pos, PE (cxOf CX0 P w K mg base ["point", "f"] "worth" (defScope s_worth) T.a_worth cdv A outer s H E).nox (.Name "f" pos) (tVar 1) := fun _ => pv 1
    exact (fss_cons (fs_if (ft_eq hr.units (fe_mod (fe_var (v1 _)) fe_int) fe_int) (fss_one (fs_ret (fe_neg (fe_ix (fe_var (v0 _)) (fe_div (fe_var (v1 _)) fe_int))))) fss_nil)
      (fss_one (fs_ret (fe_fl (fe_ix (fe_var (v0 _)) (fe_div (fe_var (v1 _)) fe_int))))))
theorem ok_holds (T : Txt K mg) : FnOk P w K mg base CX0 2 T.a_holds T.d_holds ["point", "question"] (spF K 2 0 m_holds) :=
  fn_ok (N := ["point", "question", "some", "word"]) T.F_holds sc_holds 0 g_holds fun cdv A outer s H E hr => by
    have nd := sc_holds.nd
    have v0 : ∀ pos : Pos, PE (cxOf CX0 P w K mg base ["point", "question", "some", "word"] "holds" (defScope s_holds) T.a_holds cdv A outer s H E).nox (.Name "point" pos) (tVar 0) := fun _ => pv 0
    have v1 : ∀ pos : Pos, PE (cxOf CX0 P w K mg base ["point", "question", "some", "word"] "holds" (defScope s_holds) T.a_holds cdv A outer s H E).nox (.Name "question" pos) (tVar 1) := fun _ => pv 1
    have v2 : ∀ pos : Pos, PE (cxOf CX0 P w K mg base ["point", "question", "some", "word"] "holds" (defScope s_holds) T.a_holds cdv A outer s H E).nox (.Name "some" pos) (tVar 2) := fun _ => pv 2
    have v3 : ∀ pos : Pos, PE (cxOf CX0 P w K mg base ["point", "question", "some", "word"] "holds" (defScope s_holds) T.a_holds cdv A outer s H E).nox (.Name "word" pos) (tVar 3) := fun _ => pv 3
    exact (fss_cons (fs_set (i := 2) nd rfl (.inl rfl) (fe_callO (ok_worth T) (hr.mono (by decide)) (by rfl) T.g_worth T.F_worth.kp T.b_worth (fa_cons (fe_var (v0 _)) (fa_cons (fe_ix (fe_var (v1 _)) fe_int) fa_nil)) (alen_cons (alen_cons alen_nil))))
      (fss_cons (fs_if (ft_notN (fe_ix (fe_var (v1 _)) fe_int) fe_non) (fss_one (fs_set (i := 2) nd rfl (.inl rfl) (fe_addI (fe_var (v2 _)) (fe_call (ok_worth T) (hr.mono (by decide)) (by rfl) T.g_worth T.F_worth.kp T.b_worth (fa_cons (fe_var (v0 _)) (fa_cons (fe_ix (fe_var (v1 _)) fe_int) fa_nil)) (alen_cons (alen_cons alen_nil)))))) fss_nil)
      (fss_cons (fs_set (i := 3) nd rfl (.inl rfl) (fe_fl (fe_ix (fe_var (v1 _)) fe_int)))
      (fss_cons (fs_if (ft_eq hr.units (fe_var (v3 _)) fe_str) (fss_one (fs_ret (fe_le (fe_var (v2 _)) (fe_ix (fe_var (v1 _)) fe_int)))) fss_nil)
      (fss_cons (fs_if (ft_eq hr.units (fe_var (v3 _)) fe_str) (fss_one (fs_ret (fe_ge (fe_var (v2 _)) (fe_ix (fe_var (v1 _)) fe_int)))) fss_nil)
      (fss_cons (fs_if (ft_eq hr.units (fe_var (v3 _)) fe_str) (fss_one (fs_ret (fe_eq hr.units (fe_var (v2 _)) (fe_ix (fe_var (v1 _)) fe_int)))) fss_nil)
      (fss_one (fs_ret (fe_ne hr.units (fe_var (v2 _)) (fe_ix (fe_var (v1 _)) fe_int))))))))))
theorem ok_turned (T : Txt K mg) : FnOk P w K mg base CX0 1 T.a_turned T.d_turned ["question"] (spF K 1 0 m_turned) :=
  fn_ok (N := ["question", "word"]) T.F_turned sc_turned 0 g_turned fun cdv A outer s H E hr => by
    have nd := sc_turned.nd
    have v0 : ∀ pos : Pos, PE (cxOf CX0 P w K mg base ["question", "word"] "turned" (defScope s_turned) T.a_turned cdv A outer s H E).nox (.Name "question" pos) (tVar 0) := fun _ => pv 0
    have v1 : ∀ pos : Pos, PE (cxOf CX0 P w K mg base ["question", "word"] "turned" (defScope s_turned) T.a_turned cdv A outer s H E).nox (.Name "word" pos) (tVar 1) := fun _ => pv 1
    exact (fss_cons (fs_set (i := 1) nd rfl (.inl rfl) (fe_fl (fe_ix (fe_var (v0 _)) fe_int)))
      (fss_cons (fs_if (ft_eq hr.units (fe_var (v1 _)) fe_str) (fss_one (fs_ret (fe_tup (fa_cons (fe_fl (fe_ix (fe_var (v0 _)) fe_int)) (fa_cons (fe_fl (fe_ix (fe_var (v0 _)) fe_int)) (fa_cons fe_str (fa_cons (fe_addI (fe_ix (fe_var (v0 _)) fe_int) fe_int) fa_nil))))))) fss_nil)
      (fss_cons (fs_if (ft_eq hr.units (fe_var (v1 _)) fe_str) (fss_one (fs_ret (fe_tup (fa_cons (fe_fl (fe_ix (fe_var (v0 _)) fe_int)) (fa_cons (fe_fl (fe_ix (fe_var (v0 _)) fe_int)) (fa_cons fe_str (fa_cons (fe_sub (fe_ix (fe_var (v0 _)) fe_int) fe_int) fa_nil))))))) fss_nil)
      (fss_cons (fs_if (ft_eq hr.units (fe_var (v1 _)) fe_str) (fss_one (fs_ret (fe_tup (fa_cons (fe_fl (fe_ix (fe_var (v0 _)) fe_int)) (fa_cons (fe_fl (fe_ix (fe_var (v0 _)) fe_int)) (fa_cons fe_str (fa_cons (fe_fl (fe_ix (fe_var (v0 _)) fe_int)) fa_nil))))))) fss_nil)
      (fss_one (fs_ret (fe_tup (fa_cons (fe_fl (fe_ix (fe_var (v0 _)) fe_int)) (fa_cons (fe_fl (fe_ix (fe_var (v0 _)) fe_int)) (fa_cons fe_str (fa_cons (fe_fl (fe_ix (fe_var (v0 _)) fe_int)) fa_nil)))))))))))
theorem ok_law_cell (T : Txt K mg) : FnOk P w K mg base CX0 1 T.a_law_cell T.d_law_cell ["_law_script", "_law_k"] (spF K 2 0 m_law_cell) :=
  fn_ok (N := ["_law_script", "_law_k", "_law_seed", "_law_some"]) T.F_law_cell sc_law_cell 0 g_law_cell fun cdv A outer s H E hr => by
    have nd := sc_law_cell.nd
    have v0 : ∀ pos : Pos, PE (cxOf CX0 P w K mg base ["_law_script", "_law_k", "_law_seed", "_law_some"] "_law_cell" (defScope s_law_cell) T.a_law_cell cdv A outer s H E).nox (.Name "_law_script" pos) (tVar 0) := fun _ => pv 0
    have v1 : ∀ pos : Pos, PE (cxOf CX0 P w K mg base ["_law_script", "_law_k", "_law_seed", "_law_some"] "_law_cell" (defScope s_law_cell) T.a_law_cell cdv A outer s H E).nox (.Name "_law_k" pos) (tVar 1) := fun _ => pv 1
    have v2 : ∀ pos : Pos, PE (cxOf CX0 P w K mg base ["_law_script", "_law_k", "_law_seed", "_law_some"] "_law_cell" (defScope s_law_cell) T.a_law_cell cdv A outer s H E).nox (.Name "_law_seed" pos) (tVar 2) := fun _ => pv 2
    have v3 : ∀ pos : Pos, PE (cxOf CX0 P w K mg base ["_law_script", "_law_k", "_law_seed", "_law_some"] "_law_cell" (defScope s_law_cell) T.a_law_cell cdv A outer s H E).nox (.Name "_law_some" pos) (tVar 3) := fun _ => pv 3
    exact (fss_cons (fs_if (ft_lt (fe_var (v1 _)) (fe_len (by rfl) T.m_len (fa_cons (fe_var (v0 _)) fa_nil))) (fss_one (fs_ret (fe_fl (fe_ix (fe_var (v0 _)) (fe_var (v1 _)))))) fss_nil)
      (fss_cons (fs_set (i := 2) nd rfl (.inl rfl) (fe_mul (fe_var (v1 _)) fe_int))
      (fss_cons (fs_if (ft_gt (fe_len (by rfl) T.m_len (fa_cons (fe_var (v0 _)) fa_nil)) fe_int) (fss_one (fs_set (i := 2) nd rfl (.inl rfl) (fe_addI (fe_var (v2 _)) (fe_mod (fe_ix (fe_var (v0 _)) (fe_mod (fe_var (v1 _)) (fe_len (by rfl) T.m_len (fa_cons (fe_var (v0 _)) fa_nil)))) fe_int)))) fss_nil)
      (fss_cons (fs_set (i := 3) nd rfl (.inl rfl) (fe_mod (fe_mul (fe_var (v2 _)) fe_int) fe_int))
      (fss_one (fs_ret (fe_mod (fe_div (fe_mul (fe_var (v3 _)) (fe_addI (fe_addI (fe_var (v3 _)) (fe_mul fe_int (fe_var (v1 _)))) fe_int)) fe_int) fe_int)))))))
theorem ok_law_whole (T : Txt K mg) : FnOk P w K mg base CX0 1 T.a_law_whole T.d_law_whole ["_law_found"] (spF K 1 0 m_law_whole) :=
  fn_ok (N := ["_law_found"]) T.F_law_whole sc_law_whole 0 g_law_whole fun cdv A outer s H E hr => by
    have nd := sc_law_whole.nd
    have v0 : ∀ pos : Pos, PE (cxOf CX0 P w K mg base ["_law_found"] "_law_whole" (defScope s_law_whole) T.a_law_whole cdv A outer s H E).nox (.Name "_law_found" pos) (tVar 0) := fun _ => pv 0
    exact (fss_one (fs_ret (fe_and (fe_isi (T := "int") (by rfl) T.m_isinstance (pe_bltn (by rfl) T.m_int (by decide +kernel) rfl) (fe_var (v0 _))) (fe_one (fe_not (fe_isi (T := "bool") (by rfl) T.m_isinstance (pe_bltn (by rfl) T.m_bool (by decide +kernel) rfl) (fe_var (v0 _))))))))
theorem ok_law_big (T : Txt K mg) : FnOk P w K mg base CX0 1 T.a_law_big T.d_law_big ["_law_cell_here"] (spF K 1 0 m_law_big) :=
  fn_ok (N := ["_law_cell_here"]) T.F_law_big sc_law_big 0 g_law_big fun cdv A outer s H E hr => by
    have nd := sc_law_big.nd
    have v0 : ∀ pos : Pos, PE (cxOf CX0 P w K mg base ["_law_cell_here"] "_law_big" (defScope s_law_big) T.a_law_big cdv A outer s H E).nox (.Name "_law_cell_here" pos) (tVar 0) := fun _ => pv 0
    exact (fss_cons (fs_if (ft_eq hr.units (fe_mod (fe_var (v0 _)) fe_int) fe_int) (fss_one (fs_ret (fe_sub (fe_mod (fe_div (fe_var (v0 _)) fe_int) (fe_addI (fe_mul fe_int (fe_pow fe_int fe_int)) fe_int)) (fe_pow fe_int fe_int)))) fss_nil)
      (fss_one (fs_ret (fe_sub (fe_mod (fe_div (fe_var (v0 _)) fe_int) fe_int) fe_int))))
theorem ok_law_point (T : Txt K mg) : FnOk P w K mg base CX0 2 T.a_law_point T.d_law_point ["_law_script", "_law_at", "_law_count"] (spF K 3 0 m_law_point) :=
  fn_ok (N := ["_law_script", "_law_at", "_law_count", "_law_k"]) T.F_law_point sc_law_point 0 g_law_point fun cdv A outer s H E hr => by
    have nd := sc_law_point.nd
    have v0 : ∀ pos : Pos, PE (cxOf CX0 P w K mg base ["_law_script", "_law_at", "_law_count", "_law_k"] "_law_point" (defScope s_law_point) T.a_law_point cdv A outer s H E).nox (.Name "_law_script" pos) (tVar 0) := fun _ => pv 0
    have v1 : ∀ pos : Pos, PE (cxOf CX0 P w K mg base ["_law_script", "_law_at", "_law_count", "_law_k"] "_law_point" (defScope s_law_point) T.a_law_point cdv A outer s H E).nox (.Name "_law_at" pos) (tVar 1) := fun _ => pv 1
    have v2 : ∀ pos : Pos, PE (cxOf CX0 P w K mg base ["_law_script", "_law_at", "_law_count", "_law_k"] "_law_point" (defScope s_law_point) T.a_law_point cdv A outer s H E).nox (.Name "_law_count" pos) (tVar 2) := fun _ => pv 2
    exact (fss_one (fs_ret (fe_fl (fe_tuple (by rfl) T.m_tuple (fe_rd (fe_lc (k := 0) (ow := [("_law_k", 3)]) rfl nd (fi_rng1 (by rfl) T.m_range (fe_var (v2 _))) (blkOk_by (N := ["_law_script", "_law_at", "_law_count", "_law_k"]) (sc := defScope s_law_point) (by decide +kernel)) (by decide) (fun _ _ _ _ _ => (fg_name (i := 3) nd rfl (.inl rfl))) (fun _ _ _ _ _ => pts_yes) (fun _ _ _ _ _ => (fe_callO (ok_law_big T) (hr.mono (by decide)) (by rfl) T.g_law_big T.F_law_big.kp T.b_law_big (fa_cons (fe_call (ok_law_cell T) (hr.mono (by decide)) (by rfl) T.g_law_cell T.F_law_cell.kp T.b_law_cell (fa_cons (fe_var (pv 0)) (fa_cons (fe_addI (fe_var (pv 1)) (fe_var (pv 3))) fa_nil)) (alen_cons (alen_cons alen_nil))) fa_nil) (alen_cons alen_nil)))))))))
theorem ok_law_worth (T : Txt K mg) : FnOk P w K mg base CX0 1 T.a_law_worth T.d_law_worth ["_law_point_here", "_law_f"] (spF K 2 0 m_law_worth) :=
  fn_ok (N := ["_law_point_here", "_law_f"]) T.F_law_worth sc_law_worth 0 g_law_worth fun cdv A outer s H E hr => by
    have nd := sc_law_worth.nd
    have v0 : ∀ pos : Pos, PE (cxOf CX0 P w K mg base ["_law_point_here", "_law_f"] "_law_worth" (defScope s_law_worth) T.a_law_worth cdv A outer s H E).nox (.Name "_law_point_here" pos) (tVar 0) := fun _ => pv 0
    have v1 : ∀ pos : Pos, PE (cxOf CX0 P w K mg base ["_law_point_here", "_law_f"] "_law_worth" (defScope s_law_worth) T.a_law_worth cdv A outer s H E).nox (.Name "_law_f" pos) (tVar 1) := fun _ => pv 1
    exact (fss_one (fs_ret (fe_mul (fe_ix (fe_var (v0 _)) (fe_div (fe_var (v1 _)) fe_int)) (fe_sub fe_int (fe_mul (fe_mod (fe_var (v1 _)) fe_int) fe_int)))))
theorem ok_law_flip (T : Txt K mg) : FnOk P w K mg base CX0 1 T.a_law_flip T.d_law_flip ["_law_f"] (spF K 1 0 m_law_flip) :=
  fn_ok (N := ["_law_f"]) T.F_law_flip sc_law_flip 0 g_law_flip fun cdv A outer s H E hr => by
    have nd := sc_law_flip.nd
    have v0 : ∀ pos : Pos, PE (cxOf CX0 P w K mg base ["_law_f"] "_law_flip" (defScope s_law_flip) T.a_law_flip cdv A outer s H E).nox (.Name "_law_f" pos) (tVar 0) := fun _ => pv 0
    exact (fss_one (fs_ret (fe_sub (fe_addI (fe_var (v0 _)) fe_int) (fe_mul (fe_mod (fe_var (v0 _)) fe_int) fe_int))))
theorem ok_law_due (T : Txt K mg) : FnOk P w K mg base CX0 1 T.a_law_due T.d_law_due ["_law_question"] (spF K 1 0 m_law_due) :=
  fn_ok (N := ["_law_question"]) T.F_law_due sc_law_due 0 g_law_due fun cdv A outer s H E hr => by
    have nd := sc_law_due.nd
    have v0 : ∀ pos : Pos, PE (cxOf CX0 P w K mg base ["_law_question"] "_law_due" (defScope s_law_due) T.a_law_due cdv A outer s H E).nox (.Name "_law_question" pos) (tVar 0) := fun _ => pv 0
    exact (fss_cons (fs_if (ft_eq hr.units (fe_ix (fe_var (v0 _)) fe_int) fe_str) (fss_one (fs_ret (fe_tup (fa_cons (fe_fl (fe_ix (fe_var (v0 _)) fe_int)) (fa_cons (fe_fl (fe_ix (fe_var (v0 _)) fe_int)) (fa_cons fe_str (fa_cons (fe_addI (fe_ix (fe_var (v0 _)) fe_int) fe_int) fa_nil))))))) fss_nil)
      (fss_cons (fs_if (ft_eq hr.units (fe_ix (fe_var (v0 _)) fe_int) fe_str) (fss_one (fs_ret (fe_tup (fa_cons (fe_fl (fe_ix (fe_var (v0 _)) fe_int)) (fa_cons (fe_fl (fe_ix (fe_var (v0 _)) fe_int)) (fa_cons fe_str (fa_cons (fe_sub (fe_ix (fe_var (v0 _)) fe_int) fe_int) fa_nil))))))) fss_nil)
      (fss_cons (fs_if (ft_eq hr.units (fe_ix (fe_var (v0 _)) fe_int) fe_str) (fss_one (fs_ret (fe_tup (fa_cons (fe_fl (fe_ix (fe_var (v0 _)) fe_int)) (fa_cons (fe_fl (fe_ix (fe_var (v0 _)) fe_int)) (fa_cons fe_str (fa_cons (fe_fl (fe_ix (fe_var (v0 _)) fe_int)) fa_nil))))))) fss_nil)
      (fss_one (fs_ret (fe_tup (fa_cons (fe_fl (fe_ix (fe_var (v0 _)) fe_int)) (fa_cons (fe_fl (fe_ix (fe_var (v0 _)) fe_int)) (fa_cons fe_str (fa_cons (fe_fl (fe_ix (fe_var (v0 _)) fe_int)) fa_nil))))))))))
theorem ok_law_alike (T : Txt K mg) : FnOk P w K mg base CX0 2 T.a_law_alike T.d_law_alike ["_law_found", "_law_due_here"] (spF K 2 0 m_law_alike) :=
  fn_ok (N := ["_law_found", "_law_due_here"]) T.F_law_alike sc_law_alike 0 g_law_alike fun cdv A outer s H E hr => by
    have nd := sc_law_alike.nd
    have v0 : ∀ pos : Pos, PE (cxOf CX0 P w K mg base ["_law_found", "_law_due_here"] "_law_alike" (defScope s_law_alike) T.a_law_alike cdv A outer s H E).nox (.Name "_law_found" pos) (tVar 0) := fun _ => pv 0
    have v1 : ∀ pos : Pos, PE (cxOf CX0 P w K mg base ["_law_found", "_law_due_here"] "_law_alike" (defScope s_law_alike) T.a_law_alike cdv A outer s H E).nox (.Name "_law_due_here" pos) (tVar 1) := fun _ => pv 1
    exact (fss_cons (fs_if (PW.pt (fw_or (ft_not (ft_val (fe_isi (T := "tuple") (by rfl) T.m_isinstance (pe_bltn (by rfl) T.m_tuple (by decide +kernel) rfl) (fe_var (v0 _))))) (fw_or1 (ft_ne hr.units (fe_len (by rfl) T.m_len (fa_cons (fe_var (v0 _)) fa_nil)) fe_int)))) (fss_one (fs_ret fe_bl)) fss_nil)
      (fss_cons (fs_if (PW.pt (fw_or (ft_not (ft_val (fe_call (ok_law_whole T) (hr.mono (by decide)) (by rfl) T.g_law_whole T.F_law_whole.kp T.b_law_whole (fa_cons (fe_ix (fe_var (v0 _)) fe_int) fa_nil) (alen_cons alen_nil)))) (fw_or (ft_not (ft_val (fe_call (ok_law_whole T) (hr.mono (by decide)) (by rfl) T.g_law_whole T.F_law_whole.kp T.b_law_whole (fa_cons (fe_ix (fe_var (v0 _)) fe_int) fa_nil) (alen_cons alen_nil)))) (fw_or1 (ft_not (ft_val (fe_isi (T := "str") (by rfl) T.m_isinstance (pe_bltn (by rfl) T.m_str (by decide +kernel) rfl) (fe_ix (fe_var (v0 _)) fe_int)))))))) (fss_one (fs_ret fe_bl)) fss_nil)
      (fss_cons (fs_if (PW.pt (fw_and (ft_isN (fe_ix (fe_var (v1 _)) fe_int) fe_non) (fw_and1 (ft_notN (fe_ix (fe_var (v0 _)) fe_int) fe_non)))) (fss_one (fs_ret fe_bl)) fss_nil)
      (fss_cons (fs_if (PW.pt (fw_and (ft_notN (fe_ix (fe_var (v1 _)) fe_int) fe_non) (fw_and1 (ft_not (ft_val (fe_call (ok_law_whole T) (hr.mono (by decide)) (by rfl) T.g_law_whole T.F_law_whole.kp T.b_law_whole (fa_cons (fe_ix (fe_var (v0 _)) fe_int) fa_nil) (alen_cons alen_nil))))))) (fss_one (fs_ret fe_bl)) fss_nil)
      (fss_one (fs_ret (fe_eq hr.units (fe_var (v0 _)) (fe_var (v1 _)))))))))
theorem ok_law (T : Txt K mg) : FnOk P w K mg base CX0 3 T.a_law T.d_law ["_law_script"] (spF K 1 0 m_law) :=
  fn_ok (N := ["_law_script", "_law_count", "_law_point_here", "_law_f", "_law_g", "_law_some", "_law_number", "_law_word", "_law_question", "_law_found", "_law_before", "_law_behind"]) T.F_law sc_law 0 g_law fun cdv A outer s H E hr => by
    have nd := sc_law.nd
    have v0 : ∀ pos : Pos, PE (cxOf CX0 P w K mg base ["_law_script", "_law_count", "_law_point_here", "_law_f", "_law_g", "_law_some", "_law_number", "_law_word", "_law_question", "_law_found", "_law_before", "_law_behind"] "law" (defScope s_law) T.a_law cdv A outer s H E).nox (.Name "_law_script" pos) (tVar 0) := fun _ => pv 0
    have v1 : ∀ pos : Pos, PE (cxOf CX0 P w K mg base ["_law_script", "_law_count", "_law_point_here", "_law_f", "_law_g", "_law_some", "_law_number", "_law_word", "_law_question", "_law_found", "_law_before", "_law_behind"] "law" (defScope s_law) T.a_law cdv A outer s H E).nox (.Name "_law_count" pos) (tVar 1) := fun _ => pv 1
    have v2 : ∀ pos : Pos, PE (cxOf CX0 P w K mg base ["_law_script", "_law_count", "_law_point_here", "_law_f", "_law_g", "_law_some", "_law_number", "_law_word", "_law_question", "_law_found", "_law_before", "_law_behind"] "law" (defScope s_law) T.a_law cdv A outer s H E).nox (.Name "_law_point_here" pos) (tVar 2) := fun _ => pv 2
    have v3 : ∀ pos : Pos, PE (cxOf CX0 P w K mg base ["_law_script", "_law_count", "_law_point_here", "_law_f", "_law_g", "_law_some", "_law_number", "_law_word", "_law_question", "_law_found", "_law_before", "_law_behind"] "law" (defScope s_law) T.a_law cdv A outer s H E).nox (.Name "_law_f" pos) (tVar 3) := fun _ => pv 3
    have v4 : ∀ pos : Pos, PE (cxOf CX0 P w K mg base ["_law_script", "_law_count", "_law_point_here", "_law_f", "_law_g", "_law_some", "_law_number", "_law_word", "_law_question", "_law_found", "_law_before", "_law_behind"] "law" (defScope s_law) T.a_law cdv A outer s H E).nox (.Name "_law_g" pos) (tVar 4) := fun _ => pv 4
    have v5 : ∀ pos : Pos, PE (cxOf CX0 P w K mg base ["_law_script", "_law_count", "_law_point_here", "_law_f", "_law_g", "_law_some", "_law_number", "_law_word", "_law_question", "_law_found", "_law_before", "_law_behind"] "law" (defScope s_law) T.a_law cdv A outer s H E).nox (.Name "_law_some" pos) (tVar 5) := fun _ => pv 5
    have v6 : ∀ pos : Pos, PE (cxOf CX0 P w K mg base ["_law_script", "_law_count", "_law_point_here", "_law_f", "_law_g", "_law_some", "_law_number", "_law_word", "_law_question", "_law_found", "_law_before", "_law_behind"] "law" (defScope s_law) T.a_law cdv A outer s H E).nox (.Name "_law_number" pos) (tVar 6) := fun _ => pv 6
    have v7 : ∀ pos : Pos, PE (cxOf CX0 P w K mg base ["_law_script", "_law_count", "_law_point_here", "_law_f", "_law_g", "_law_some", "_law_number", "_law_word", "_law_question", "_law_found", "_law_before", "_law_behind"] "law" (defScope s_law) T.a_law cdv A outer s H E).nox (.Name "_law_word" pos) (tVar 7) := fun _ => pv 7
    have v8 : ∀ pos : Pos, PE (cxOf CX0 P w K mg base ["_law_script", "_law_count", "_law_point_here", "_law_f", "_law_g", "_law_some", "_law_number", "_law_word", "_law_question", "_law_found", "_law_before", "_law_behind"] "law" (defScope s_law) T.a_law cdv A outer s H E).nox (.Name "_law_question" pos) (tVar 8) := fun _ => pv 8
    have v9 : ∀ pos : Pos, PE (cxOf CX0 P w K mg base ["_law_script", "_law_count", "_law_point_here", "_law_f", "_law_g", "_law_some", "_law_number", "_law_word", "_law_question", "_law_found", "_law_before", "_law_behind"] "law" (defScope s_law) T.a_law cdv A outer s H E).nox (.Name "_law_found" pos) (tVar 9) := fun _ => pv 9
    have v10 : ∀ pos : Pos, PE (cxOf CX0 P w K mg base ["_law_script", "_law_count", "_law_point_here", "_law_f", "_law_g", "_law_some", "_law_number", "_law_word", "_law_question", "_law_found", "_law_before", "_law_behind"] "law" (defScope s_law) T.a_law cdv A outer s H E).nox (.Name "_law_before" pos) (tVar 10) := fun _ => pv 10
    have v11 : ∀ pos : Pos, PE (cxOf CX0 P w K mg base ["_law_script", "_law_count", "_law_point_here", "_law_f", "_law_g", "_law_some", "_law_number", "_law_word", "_law_question", "_law_found", "_law_before", "_law_behind"] "law" (defScope s_law) T.a_law cdv A outer s H E).nox (.Name "_law_behind" pos) (tVar 11) := fun _ => pv 11
    exact (fss_cons (fs_set (i := 1) nd rfl (.inl rfl) (fe_addI fe_int (fe_mod (fe_call (ok_law_cell T) (hr.mono (by decide)) (by rfl) T.g_law_cell T.F_law_cell.kp T.b_law_cell (fa_cons (fe_var (v0 _)) (fa_cons fe_int fa_nil)) (alen_cons (alen_cons alen_nil))) fe_int)))
      (fss_cons (fs_set (i := 2) nd rfl (.inl rfl) (fe_callO (ok_law_point T) (hr.mono (by decide)) (by rfl) T.g_law_point T.F_law_point.kp T.b_law_point (fa_cons (fe_var (v0 _)) (fa_cons fe_int (fa_cons (fe_var (v1 _)) fa_nil))) (alen_cons (alen_cons (alen_cons alen_nil)))))
      (fss_cons (fs_set (i := 3) nd rfl (.inl rfl) (fe_mod (fe_call (ok_law_cell T) (hr.mono (by decide)) (by rfl) T.g_law_cell T.F_law_cell.kp T.b_law_cell (fa_cons (fe_var (v0 _)) (fa_cons fe_int fa_nil)) (alen_cons (alen_cons alen_nil))) (fe_mul fe_int (fe_var (v1 _)))))
      (fss_cons (fs_set (i := 4) nd rfl (.inl rfl) fe_non)
      (fss_cons (fs_set (i := 5) nd rfl (.inl rfl) (fe_callO (ok_law_worth T) (hr.mono (by decide)) (by rfl) T.g_law_worth T.F_law_worth.kp T.b_law_worth (fa_cons (fe_var (v2 _)) (fa_cons (fe_var (v3 _)) fa_nil)) (alen_cons (alen_cons alen_nil))))
      (fss_cons (fs_if (ft_gt (fe_mod (fe_call (ok_law_cell T) (hr.mono (by decide)) (by rfl) T.g_law_cell T.F_law_cell.kp T.b_law_cell (fa_cons (fe_var (v0 _)) (fa_cons fe_int fa_nil)) (alen_cons (alen_cons alen_nil))) fe_int) fe_int) (fss_cons (fs_set (i := 4) nd rfl (.inl rfl) (fe_mod (fe_call (ok_law_cell T) (hr.mono (by decide)) (by rfl) T.g_law_cell T.F_law_cell.kp T.b_law_cell (fa_cons (fe_var (v0 _)) (fa_cons fe_int fa_nil)) (alen_cons (alen_cons alen_nil))) (fe_mul fe_int (fe_var (v1 _)))))
      (fss_one (fs_set (i := 5) nd rfl (.inl rfl) (fe_addI (fe_var (v5 _)) (fe_call (ok_law_worth T) (hr.mono (by decide)) (by rfl) T.g_law_worth T.F_law_worth.kp T.b_law_worth (fa_cons (fe_var (v2 _)) (fa_cons (fe_var (v4 _)) fa_nil)) (alen_cons (alen_cons alen_nil))))))) fss_nil)
      (fss_cons (fs_set (i := 6) nd rfl (.inl rfl) (fe_varS (v5 _)))
      (fss_cons (fs_if (ft_gt (fe_mod (fe_call (ok_law_cell T) (hr.mono (by decide)) (by rfl) T.g_law_cell T.F_law_cell.kp T.b_law_cell (fa_cons (fe_var (v0 _)) (fa_cons fe_int fa_nil)) (alen_cons (alen_cons alen_nil))) fe_int) fe_int) (fss_one (fs_set (i := 6) nd rfl (.inl rfl) (fe_sub (fe_addI (fe_var (v5 _)) (fe_mod (fe_div (fe_call (ok_law_cell T) (hr.mono (by decide)) (by rfl) T.g_law_cell T.F_law_cell.kp T.b_law_cell (fa_cons (fe_var (v0 _)) (fa_cons fe_int fa_nil)) (alen_cons (alen_cons alen_nil))) fe_int) fe_int)) fe_int))) fss_nil)
      (fss_cons (fs_if (ft_eq hr.units (fe_mod (fe_call (ok_law_cell T) (hr.mono (by decide)) (by rfl) T.g_law_cell T.F_law_cell.kp T.b_law_cell (fa_cons (fe_var (v0 _)) (fa_cons fe_int fa_nil)) (alen_cons (alen_cons alen_nil))) fe_int) fe_int) (fss_one (fs_set (i := 6) nd rfl (.inl rfl) (fe_callO (ok_law_big T) (hr.mono (by decide)) (by rfl) T.g_law_big T.F_law_big.kp T.b_law_big (fa_cons (fe_call (ok_law_cell T) (hr.mono (by decide)) (by rfl) T.g_law_cell T.F_law_cell.kp T.b_law_cell (fa_cons (fe_var (v0 _)) (fa_cons fe_int fa_nil)) (alen_cons (alen_cons alen_nil))) fa_nil) (alen_cons alen_nil)))) fss_nil)
      (fss_cons (fs_for PassesOwn.never rfl (fi_seq (fe_fz (k := 1) (fe_lst (kd := .ow 0) (fa_cons fe_str (fa_cons fe_str (fa_cons fe_str (fa_cons fe_str fa_nil))))))) (fg_name (i := 7) nd rfl (.inl rfl)) (fss_cons (fs_set (i := 8) nd rfl (.inl rfl) (fe_tup (fa_cons (fe_varS (v3 _)) (fa_cons (fe_varS (v4 _)) (fa_cons (fe_varS (v7 _)) (fa_cons (fe_varS (v6 _)) fa_nil))))))
      (fss_cons (fs_set (i := 9) nd rfl (.inl rfl) (fe_callO (ok_turned T) (hr.mono (by decide)) (by rfl) T.g_turned T.F_turned.kp T.b_turned (fa_cons (fe_var (v8 _)) fa_nil) (alen_cons alen_nil)))
      (fss_cons (fs_if (ft_not (ft_val (fe_call (ok_law_alike T) (hr.mono (by decide)) (by rfl) T.g_law_alike T.F_law_alike.kp T.b_law_alike (fa_cons (fe_var (v9 _)) (fa_cons (fe_call (ok_law_due T) (hr.mono (by decide)) (by rfl) T.g_law_due T.F_law_due.kp T.b_law_due (fa_cons (fe_var (v8 _)) fa_nil) (alen_cons alen_nil)) fa_nil)) (alen_cons (alen_cons alen_nil))))) (fss_one (fs_ret fe_bl)) fss_nil)
      (fss_cons (fs_set (i := 10) nd rfl (.inl rfl) (fe_callO (ok_holds T) (hr.mono (by decide)) (by rfl) T.g_holds T.F_holds.kp T.b_holds (fa_cons (fe_var (v2 _)) (fa_cons (fe_var (v8 _)) fa_nil)) (alen_cons (alen_cons alen_nil))))
      (fss_cons (fs_set (i := 11) nd rfl (.inl rfl) (fe_callO (ok_holds T) (hr.mono (by decide)) (by rfl) T.g_holds T.F_holds.kp T.b_holds (fa_cons (fe_var (v2 _)) (fa_cons (fe_var (v9 _)) fa_nil)) (alen_cons (alen_cons alen_nil))))
      (fss_cons (fs_if (PW.pt (fw_or (ft_not (ft_val (fe_isi (T := "bool") (by rfl) T.m_isinstance (pe_bltn (by rfl) T.m_bool (by decide +kernel) rfl) (fe_var (v10 _))))) (fw_or (ft_not (ft_val (fe_isi (T := "bool") (by rfl) T.m_isinstance (pe_bltn (by rfl) T.m_bool (by decide +kernel) rfl) (fe_var (v11 _))))) (fw_or1 (ft_eq hr.units (fe_var (v10 _)) (fe_var (v11 _))))))) (fss_one (fs_ret fe_bl)) fss_nil)
      (fss_one (fs_if (ft_not (ft_val (fe_call (ok_law_alike T) (hr.mono (by decide)) (by rfl) T.g_law_alike T.F_law_alike.kp T.b_law_alike (fa_cons (fe_call (ok_turned T) (hr.mono (by decide)) (by rfl) T.g_turned T.F_turned.kp T.b_turned (fa_cons (fe_var (v9 _)) fa_nil) (alen_cons alen_nil)) (fa_cons (fe_var (v8 _)) fa_nil)) (alen_cons (alen_cons alen_nil))))) (fss_one (fs_ret fe_bl)) fss_nil)))))))))
      (fss_one (fs_ret fe_bl))))))))))))
end
theorem all_mk {l : PySem.W.OpenLaw} {w : World} {K : PySem.W.Frag} {h : Heap} {mg : Str → Option Value} {fa : Addr} (X : K.In h) (G : h.Ns mainGlobals mg) (hfa : mg "law" = some (.ref fa))
    {f_worth : Addr} {od_worth an_worth : Option Addr} {sl_worth : Array (Option Value)} {oc_worth kV_worth dc_worth pm_worth cd_worth ct_worth : Value}
    (A_worth : PySem.W.nsIn K mainGlobals "worth" = some (some (.ref f_worth))) (l_worth : K.lookup f_worth = some ⟨oc_worth, od_worth, .func (PySem.W.fnOf "worth" "worth" (defArgs s_worth) (defBody s_worth) (defScope s_worth) .none kV_worth dc_worth pm_worth an_worth cd_worth ct_worth), sl_worth⟩) (c_worth : PySem.W.codeIn K cd_worth "worth" = true) (k_worth : PySem.W.keepIn K (.ref f_worth) = true)
    {f_holds : Addr} {od_holds an_holds : Option Addr} {sl_holds : Array (Option Value)} {oc_holds kV_holds dc_holds pm_holds cd_holds ct_holds : Value}
    (A_holds : PySem.W.nsIn K mainGlobals "holds" = some (some (.ref f_holds))) (l_holds : K.lookup f_holds = some ⟨oc_holds, od_holds, .func (PySem.W.fnOf "holds" "holds" (defArgs s_holds) (defBody s_holds) (defScope s_holds) .none kV_holds dc_holds pm_holds an_holds cd_holds ct_holds), sl_holds⟩) (c_holds : PySem.W.codeIn K cd_holds "holds" = true) (k_holds : PySem.W.keepIn K (.ref f_holds) = true)
    {f_turned : Addr} {od_turned an_turned : Option Addr} {sl_turned : Array (Option Value)} {oc_turned kV_turned dc_turned pm_turned cd_turned ct_turned : Value}
    (A_turned : PySem.W.nsIn K mainGlobals "turned" = some (some (.ref f_turned))) (l_turned : K.lookup f_turned = some ⟨oc_turned, od_turned, .func (PySem.W.fnOf "turned" "turned" (defArgs s_turned) (defBody s_turned) (defScope s_turned) .none kV_turned dc_turned pm_turned an_turned cd_turned ct_turned), sl_turned⟩) (c_turned : PySem.W.codeIn K cd_turned "turned" = true) (k_turned : PySem.W.keepIn K (.ref f_turned) = true)
    {f_law_cell : Addr} {od_law_cell an_law_cell : Option Addr} {sl_law_cell : Array (Option Value)} {oc_law_cell kV_law_cell dc_law_cell pm_law_cell cd_law_cell ct_law_cell : Value}
    (A_law_cell : PySem.W.nsIn K mainGlobals "_law_cell" = some (some (.ref f_law_cell))) (l_law_cell : K.lookup f_law_cell = some ⟨oc_law_cell, od_law_cell, .func (PySem.W.fnOf "_law_cell" "_law_cell" (defArgs s_law_cell) (defBody s_law_cell) (defScope s_law_cell) .none kV_law_cell dc_law_cell pm_law_cell an_law_cell cd_law_cell ct_law_cell), sl_law_cell⟩) (c_law_cell : PySem.W.codeIn K cd_law_cell "_law_cell" = true) (k_law_cell : PySem.W.keepIn K (.ref f_law_cell) = true)
    {f_law_whole : Addr} {od_law_whole an_law_whole : Option Addr} {sl_law_whole : Array (Option Value)} {oc_law_whole kV_law_whole dc_law_whole pm_law_whole cd_law_whole ct_law_whole : Value}
    (A_law_whole : PySem.W.nsIn K mainGlobals "_law_whole" = some (some (.ref f_law_whole))) (l_law_whole : K.lookup f_law_whole = some ⟨oc_law_whole, od_law_whole, .func (PySem.W.fnOf "_law_whole" "_law_whole" (defArgs s_law_whole) (defBody s_law_whole) (defScope s_law_whole) .none kV_law_whole dc_law_whole pm_law_whole an_law_whole cd_law_whole ct_law_whole), sl_law_whole⟩) (c_law_whole : PySem.W.codeIn K cd_law_whole "_law_whole" = true) (k_law_whole : PySem.W.keepIn K (.ref f_law_whole) = true)
    {f_law_big : Addr} {od_law_big an_law_big : Option Addr} {sl_law_big : Array (Option Value)} {oc_law_big kV_law_big dc_law_big pm_law_big cd_law_big ct_law_big : Value}
    (A_law_big : PySem.W.nsIn K mainGlobals "_law_big" = some (some (.ref f_law_big))) (l_law_big : K.lookup f_law_big = some ⟨oc_law_big, od_law_big, .func (PySem.W.fnOf "_law_big" "_law_big" (defArgs s_law_big) (defBody s_law_big) (defScope s_law_big) .none kV_law_big dc_law_big pm_law_big an_law_big cd_law_big ct_law_big), sl_law_big⟩) (c_law_big : PySem.W.codeIn K cd_law_big "_law_big" = true) (k_law_big : PySem.W.keepIn K (.ref f_law_big) = true)
    {f_law_point : Addr} {od_law_point an_law_point : Option Addr} {sl_law_point : Array (Option Value)} {oc_law_point kV_law_point dc_law_point pm_law_point cd_law_point ct_law_point : Value}
    (A_law_point : PySem.W.nsIn K mainGlobals "_law_point" = some (some (.ref f_law_point))) (l_law_point : K.lookup f_law_point = some ⟨oc_law_point, od_law_point, .func (PySem.W.fnOf "_law_point" "_law_point" (defArgs s_law_point) (defBody s_law_point) (defScope s_law_point) .none kV_law_point dc_law_point pm_law_point an_law_point cd_law_point ct_law_point), sl_law_point⟩) (c_law_point : PySem.W.codeIn K cd_law_point "_law_point" = true) (k_law_point : PySem.W.keepIn K (.ref f_law_point) = true)
    {f_law_worth : Addr} {od_law_worth an_law_worth : Option Addr} {sl_law_worth : Array (Option Value)} {oc_law_worth kV_law_worth dc_law_worth pm_law_worth cd_law_worth ct_law_worth : Value}
    (A_law_worth : PySem.W.nsIn K mainGlobals "_law_worth" = some (some (.ref f_law_worth))) (l_law_worth : K.lookup f_law_worth = some ⟨oc_law_worth, od_law_worth, .func (PySem.W.fnOf "_law_worth" "_law_worth" (defArgs s_law_worth) (defBody s_law_worth) (defScope s_law_worth) .none kV_law_worth dc_law_worth pm_law_worth an_law_worth cd_law_worth ct_law_worth), sl_law_worth⟩) (c_law_worth : PySem.W.codeIn K cd_law_worth "_law_worth" = true) (k_law_worth : PySem.W.keepIn K (.ref f_law_worth) = true)
    {f_law_flip : Addr} {od_law_flip an_law_flip : Option Addr} {sl_law_flip : Array (Option Value)} {oc_law_flip kV_law_flip dc_law_flip pm_law_flip cd_law_flip ct_law_flip : Value}
    (A_law_flip : PySem.W.nsIn K mainGlobals "_law_flip" = some (some (.ref f_law_flip))) (l_law_flip : K.lookup f_law_flip = some ⟨oc_law_flip, od_law_flip, .func (PySem.W.fnOf "_law_flip" "_law_flip" (defArgs s_law_flip) (defBody s_law_flip) (defScope s_law_flip) .none kV_law_flip dc_law_flip pm_law_flip an_law_flip cd_law_flip ct_law_flip), sl_law_flip⟩) (c_law_flip : PySem.W.codeIn K cd_law_flip "_law_flip" = true) (k_law_flip : PySem.W.keepIn K (.ref f_law_flip) = true)
    {f_law_due : Addr} {od_law_due an_law_due : Option Addr} {sl_law_due : Array (Option Value)} {oc_law_due kV_law_due dc_law_due pm_law_due cd_law_due ct_law_due : Value}
    (A_law_due : PySem.W.nsIn K mainGlobals "_law_due" = some (some (.ref f_law_due))) (l_law_due : K.lookup f_law_due = some ⟨oc_law_due, od_law_due, .func (PySem.W.fnOf "_law_due" "_law_due" (defArgs s_law_due) (defBody s_law_due) (defScope s_law_due) .none kV_law_due dc_law_due pm_law_due an_law_due cd_law_due ct_law_due), sl_law_due⟩) (c_law_due : PySem.W.codeIn K cd_law_due "_law_due" = true) (k_law_due : PySem.W.keepIn K (.ref f_law_due) = true)
    {f_law_alike : Addr} {od_law_alike an_law_alike : Option Addr} {sl_law_alike : Array (Option Value)} {oc_law_alike kV_law_alike dc_law_alike pm_law_alike cd_law_alike ct_law_alike : Value}
    (A_law_alike : PySem.W.nsIn K mainGlobals "_law_alike" = some (some (.ref f_law_alike))) (l_law_alike : K.lookup f_law_alike = some ⟨oc_law_alike, od_law_alike, .func (PySem.W.fnOf "_law_alike" "_law_alike" (defArgs s_law_alike) (defBody s_law_alike) (defScope s_law_alike) .none kV_law_alike dc_law_alike pm_law_alike an_law_alike cd_law_alike ct_law_alike), sl_law_alike⟩) (c_law_alike : PySem.W.codeIn K cd_law_alike "_law_alike" = true) (k_law_alike : PySem.W.keepIn K (.ref f_law_alike) = true)
    {f_law : Addr} {od_law an_law : Option Addr} {sl_law : Array (Option Value)} {oc_law kV_law dc_law pm_law cd_law ct_law : Value}
    (A_law : PySem.W.nsIn K mainGlobals "law" = some (some (.ref f_law))) (l_law : K.lookup f_law = some ⟨oc_law, od_law, .func (PySem.W.fnOf "law" "law" (defArgs s_law) (defBody s_law) (defScope s_law) .none kV_law dc_law pm_law an_law cd_law ct_law), sl_law⟩) (c_law : PySem.W.codeIn K cd_law "law" = true) (k_law : PySem.W.keepIn K (.ref f_law) = true)
    (z_bool : PySem.W.nsIn K mainGlobals "bool" = some none)
    (z_int : PySem.W.nsIn K mainGlobals "int" = some none)
    (z_isinstance : PySem.W.nsIn K mainGlobals "isinstance" = some none)
    (z_len : PySem.W.nsIn K mainGlobals "len" = some none)
    (z_range : PySem.W.nsIn K mainGlobals "range" = some none)
    (z_str : PySem.W.nsIn K mainGlobals "str" = some none)
    (z_tuple : PySem.W.nsIn K mainGlobals "tuple" = some none) :
    ∃ fd : FuncData, (∀ (s : Shared) (v : Value), BindsTo s fd ⟨[v], []⟩ [("_law_script", v)]) ∧ ∀ base : Heap, K.In base → base.Ns mainGlobals mg → FnOk l.prog w K mg base CX0 3 fa fd ["_law_script"] (spF K 1 0 m_law) := by
  have e := hfa.symm.trans (PySem.W.mg_of X G A_law)
  cases e
  exact ⟨PySem.W.fnOf "law" "law" (defArgs s_law) (defBody s_law) (defScope s_law) .none kV_law dc_law pm_law an_law cd_law ct_law, fun s v => .of_eq rfl, fun base _ _ => ok_law (P := l.prog) (w := w) (base := base) {
    a_worth := f_worth
    d_worth := _
    F_worth := fun_mk (st := s_worth) l_worth c_worth k_worth
    g_worth := PySem.W.mg_of X G A_worth
    b_worth := (fun_mk (st := s_worth) l_worth c_worth k_worth).binds (ps := ["point", "f"]) fun _ _ _ _ _ _ us hl => match us, hl with | [_, _], _ => rfl
    a_holds := f_holds
    d_holds := _
    F_holds := fun_mk (st := s_holds) l_holds c_holds k_holds
    g_holds := PySem.W.mg_of X G A_holds
    b_holds := (fun_mk (st := s_holds) l_holds c_holds k_holds).binds (ps := ["point", "question"]) fun _ _ _ _ _ _ us hl => match us, hl with | [_, _], _ => rfl
    a_turned := f_turned
    d_turned := _
    F_turned := fun_mk (st := s_turned) l_turned c_turned k_turned
    g_turned := PySem.W.mg_of X G A_turned
    b_turned := (fun_mk (st := s_turned) l_turned c_turned k_turned).binds (ps := ["question"]) fun _ _ _ _ _ _ us hl => match us, hl with | [_], _ => rfl
    a_law_cell := f_law_cell
    d_law_cell := _
    F_law_cell := fun_mk (st := s_law_cell) l_law_cell c_law_cell k_law_cell
    g_law_cell := PySem.W.mg_of X G A_law_cell
    b_law_cell := (fun_mk (st := s_law_cell) l_law_cell c_law_cell k_law_cell).binds (ps := ["_law_script", "_law_k"]) fun _ _ _ _ _ _ us hl => match us, hl with | [_, _], _ => rfl
    a_law_whole := f_law_whole
    d_law_whole := _
    F_law_whole := fun_mk (st := s_law_whole) l_law_whole c_law_whole k_law_whole
    g_law_whole := PySem.W.mg_of X G A_law_whole
    b_law_whole := (fun_mk (st := s_law_whole) l_law_whole c_law_whole k_law_whole).binds (ps := ["_law_found"]) fun _ _ _ _ _ _ us hl => match us, hl with | [_], _ => rfl
    a_law_big := f_law_big
    d_law_big := _
    F_law_big := fun_mk (st := s_law_big) l_law_big c_law_big k_law_big
    g_law_big := PySem.W.mg_of X G A_law_big
    b_law_big := (fun_mk (st := s_law_big) l_law_big c_law_big k_law_big).binds (ps := ["_law_cell_here"]) fun _ _ _ _ _ _ us hl => match us, hl with | [_], _ => rfl
    a_law_point := f_law_point
    d_law_point := _
    F_law_point := fun_mk (st := s_law_point) l_law_point c_law_point k_law_point
    g_law_point := PySem.W.mg_of X G A_law_point
    b_law_point := (fun_mk (st := s_law_point) l_law_point c_law_point k_law_point).binds (ps := ["_law_script", "_law_at", "_law_count"]) fun _ _ _ _ _ _ us hl => match us, hl with | [_, _, _], _ => rfl
    a_law_worth := f_law_worth
    d_law_worth := _
    F_law_worth := fun_mk (st := s_law_worth) l_law_worth c_law_worth k_law_worth
    g_law_worth := PySem.W.mg_of X G A_law_worth
    b_law_worth := (fun_mk (st := s_law_worth) l_law_worth c_law_worth k_law_worth).binds (ps := ["_law_point_here", "_law_f"]) fun _ _ _ _ _ _ us hl => match us, hl with | [_, _], _ => rfl
    a_law_flip := f_law_flip
    d_law_flip := _
    F_law_flip := fun_mk (st := s_law_flip) l_law_flip c_law_flip k_law_flip
    g_law_flip := PySem.W.mg_of X G A_law_flip
    b_law_flip := (fun_mk (st := s_law_flip) l_law_flip c_law_flip k_law_flip).binds (ps := ["_law_f"]) fun _ _ _ _ _ _ us hl => match us, hl with | [_], _ => rfl
    a_law_due := f_law_due
    d_law_due := _
    F_law_due := fun_mk (st := s_law_due) l_law_due c_law_due k_law_due
    g_law_due := PySem.W.mg_of X G A_law_due
    b_law_due := (fun_mk (st := s_law_due) l_law_due c_law_due k_law_due).binds (ps := ["_law_question"]) fun _ _ _ _ _ _ us hl => match us, hl with | [_], _ => rfl
    a_law_alike := f_law_alike
    d_law_alike := _
    F_law_alike := fun_mk (st := s_law_alike) l_law_alike c_law_alike k_law_alike
    g_law_alike := PySem.W.mg_of X G A_law_alike
    b_law_alike := (fun_mk (st := s_law_alike) l_law_alike c_law_alike k_law_alike).binds (ps := ["_law_found", "_law_due_here"]) fun _ _ _ _ _ _ us hl => match us, hl with | [_, _], _ => rfl
    a_law := fa
    d_law := _
    F_law := fun_mk (st := s_law) l_law c_law k_law
    g_law := PySem.W.mg_of X G A_law
    b_law := (fun_mk (st := s_law) l_law c_law k_law).binds (ps := ["_law_script"]) fun _ _ _ _ _ _ us hl => match us, hl with | [_], _ => rfl
    m_bool := PySem.W.mg_none_of X G z_bool
    m_int := PySem.W.mg_none_of X G z_int
    m_isinstance := PySem.W.mg_none_of X G z_isinstance
    m_len := PySem.W.mg_none_of X G z_len
    m_range := PySem.W.mg_none_of X G z_range
    m_str := PySem.W.mg_none_of X G z_str
    m_tuple := PySem.W.mg_none_of X G z_tuple }⟩
end K07
open PySem PySem.W PyProof.Rows in
set_option maxRecDepth 100000 in
set_option maxHeartbeats 0 in
theorem PySem.Challenge.cw_eightsides_k07_turned_holds : PySem.Challenge.rw_eightsides_k07_turned.Holds := by
  w_on; o_law; k_head; (case hw => w_witness2)
  k_fill
  refine L2.walk_of (l := PySem.Challenge.rw_eightsides_k07_turned) (n := 63) (k := 3) (x := "_law_script") (CX := fun _ => L2.CX0) (sp := fun w => FL.spF _ 1 0 K07.m_law) rfl (by decide) rfl ⟨rfl, by decide, by decide⟩ (fun w h Y => PySem.W.kIn_of Y) ?F (fun w H a ns hl hO hS => FL.sp_of (K07.law_true ns hl) hO hS) (fun _ _ _ _ _ h => h)
  case F =>
    intro w mg fa h KX G hmg
    refine' K07.all_mk KX G hmg ?A_worth ?l_worth ?c_worth ?k_worth ?A_holds ?l_holds ?c_holds ?k_holds ?A_turned ?l_turned ?c_turned ?k_turned ?A_law_cell ?l_law_cell ?c_law_cell ?k_law_cell ?A_law_whole ?l_law_whole ?c_law_whole ?k_law_whole ?A_law_big ?l_law_big ?c_law_big ?k_law_big ?A_law_point ?l_law_point ?c_law_point ?k_law_point ?A_law_worth ?l_law_worth ?c_law_worth ?k_law_worth ?A_law_flip ?l_law_flip ?c_law_flip ?k_law_flip ?A_law_due ?l_law_due ?c_law_due ?k_law_due ?A_law_alike ?l_law_alike ?c_law_alike ?k_law_alike ?A_law ?l_law ?c_law ?k_law ?z_bool ?z_int ?z_isinstance ?z_len ?z_range ?z_str ?z_tuple
    (case A_worth => k_is); (case l_worth => k_is); (case c_worth => k_is); (case k_worth => k_is); (case A_holds => k_is); (case l_holds => k_is); (case c_holds => k_is); (case k_holds => k_is); (case A_turned => k_is); (case l_turned => k_is); (case c_turned => k_is); (case k_turned => k_is); (case A_law_cell => k_is); (case l_law_cell => k_is); (case c_law_cell => k_is); (case k_law_cell => k_is); (case A_law_whole => k_is); (case l_law_whole => k_is); (case c_law_whole => k_is); (case k_law_whole => k_is); (case A_law_big => k_is); (case l_law_big => k_is); (case c_law_big => k_is); (case k_law_big => k_is); (case A_law_point => k_is); (case l_law_point => k_is); (case c_law_point => k_is); (case k_law_point => k_is); (case A_law_worth => k_is); (case l_law_worth => k_is); (case c_law_worth => k_is); (case k_law_worth => k_is); (case A_law_flip => k_is); (case l_law_flip => k_is); (case c_law_flip => k_is); (case k_law_flip => k_is); (case A_law_due => k_is); (case l_law_due => k_is); (case c_law_due => k_is); (case k_law_due => k_is); (case A_law_alike => k_is); (case l_law_alike => k_is); (case c_law_alike => k_is); (case k_law_alike => k_is); (case A_law => k_is); (case l_law => k_is); (case c_law => k_is); (case k_law => k_is); (case z_bool => k_is); (case z_int => k_is); (case z_isinstance => k_is); (case z_len => k_is); (case z_range => k_is); (case z_str => k_is); (case z_tuple => k_is)
