import PyProof.Rows.All
import Wide.All
import OpenK.AllK
import Wide.FinOn
import HandS.ForMost
import HandS.IsInst
import HandS.Conv
import HandS.Style
import HandS.TupAny
import HandS.SortKw
import HandS.Wide
import PySem.Challenge.RW_eightsides_k28_questions_part
set_option Elab.async false
set_option linter.all false
set_option maxRecDepth 100000
set_option maxHeartbeats 4000000
namespace FL
open PySem PySem.Spec PyProof.Rows L2

/-! ### data without the heap -/
inductive D where
  | non | bl (b : Bool) | int (i : Int) | str (x : Str) | tup (xs : List D) | lst (xs : List D)
  /-- the script: a list that is read only; an instance that stays as it is; a dict by ints -/
  | scr (ns : List Int) | ob (C : Str) (nm : List Str) (xs : List D) | dct (ks : List Int) (xs : List D)
def SqF (K : PySem.W.Frag) (H : Hp) (a : Addr) (xs : List V) : Prop := (∃ o, H a = some (.frz o (.lst xs))) ∨
    ∃ (o : Obj) (its : Array Value) (n : Nat), K.lookup a = some o ∧ o.cls = .type "list" ∧ o.dict = none ∧ o.data = .seq its n ∧ its.size ≤ sizeLine ∧ Vals xs its.toList
theorem SqF.sq {K : PySem.W.Frag} {H : Hp} {a : Addr} {xs : List V} (h : SqF K H a xs) : SqL K H a xs := by
  rcases h with ⟨o, h⟩ | h
  · exact .inl (.inr ⟨o, h⟩)
  · exact .inr h
/-- what is changed in place -/
def MutO : HO → Prop
  | .lst _ => True
  | .dK _ => True
  | _ => False
def Keeps (H F : Hp) : Prop := ∀ a o, H a = some o → ¬ MutO o → F a = some o
theorem Keeps.sqt {K : PySem.W.Frag} {H F : Hp} (t : Keeps H F) {a : Addr} {xs : List V} (h : SqT K H a xs) : SqT K F a xs := by
  rcases h with (h | ⟨o, h⟩) | h
  · exact .inl (.inl (t _ _ h fun z => z))
  · exact .inl (.inr ⟨o, t _ _ h fun z => z⟩)
  · exact .inr h
theorem Keeps.sqf {K : PySem.W.Frag} {H F : Hp} (t : Keeps H F) {a : Addr} {xs : List V} (h : SqF K H a xs) : SqF K F a xs := by
  rcases h with ⟨o, h⟩ | h
  · exact .inl ⟨o, t _ _ h fun z => z⟩
  · exact .inr h
theorem _root_.L2.Same.sqf {K : PySem.W.Frag} {H H' : Hp} {a : Addr} {xs : List V} (e : Same H H') (h : SqF K H a xs) : SqF K H' a xs := by
  rcases h with ⟨o, h⟩ | h
  · exact .inl ⟨o, e _ _ h⟩
  · exact .inr h

mutual
/-- a value stands for a datum, read in the heap H -/
def Rep (K : PySem.W.Frag) (H : Hp) : D → V → Prop
  | .non, v => v = .non
  | .bl b, v => v = .bl b
  | .int i, v => v = .int i
  | .str x, v => v = .str x
  | .tup ds, v => ∃ a xs, v = .ref a ∧ SqT K H a xs ∧ RepL K H ds xs
  | .lst ds, v => ∃ a xs, v = .ref a ∧ H a = some (.lst xs) ∧ RepL K H ds xs
  | .scr ns, v => ∃ a, v = .ref a ∧ SqF K H a (ns.map V.int)
  | .ob C nm ds, v => ∃ Ca a dx xs, PySem.W.nsIn K mainGlobals C = some (some (.ref Ca)) ∧ v = .ref a ∧ H a = some (.ins Ca dx (nm.zip xs)) ∧ RepL K H ds xs
  | .dct ks ds, v => ∃ a xs, v = .ref a ∧ H a = some (.dK ((ks.map Sum.inl).zip xs)) ∧ RepL K H ds xs
def RepL (K : PySem.W.Frag) (H : Hp) : List D → List V → Prop
  | [], vs => vs = []
  | d :: ds, vs => ∃ v r, vs = v :: r ∧ Rep K H d v ∧ RepL K H ds r
end
mutual
/-- lists only in the upper k levels -/
def full : D → Nat → Bool
  | .lst _, 0 => false
  | .lst ds, k + 1 => fullL ds k
  | .tup ds, k => fullL ds k
  | .non, _ => true
  | .bl _, _ => true
  | .int _, _ => true
  | .str _, _ => true
  | .scr _, _ => true
  | .ob _ _ ds, _ => fullL ds 0
  | .dct _ _, 0 => false
  | .dct _ ds, k + 1 => fullL ds k
def fullL : List D → Nat → Bool
  | [], _ => true
  | d :: ds, k => full d k && fullL ds k
end
mutual
/-- the lists of the upper k levels are one's own (their places: fp), what lies below is read in F -/
def Own (K : PySem.W.Frag) (H F : Hp) : D → Nat → V → List Addr → Prop
  | .lst ds, 0, v, fp => fp = [] ∧ Rep K F (.lst ds) v
  | .lst ds, k + 1, v, fp => ∃ a xs fps, v = .ref a ∧ H a = some (.lst xs) ∧ fp = a :: fps ∧ OwnL K H F ds k xs fps
  | .tup ds, k, v, fp => ∃ a xs, v = .ref a ∧ SqT K F a xs ∧ OwnL K H F ds k xs fp
  | .non, _, v, fp => fp = [] ∧ v = .non
  | .bl b, _, v, fp => fp = [] ∧ v = .bl b
  | .int i, _, v, fp => fp = [] ∧ v = .int i
  | .str x, _, v, fp => fp = [] ∧ v = .str x
  | .scr ns, _, v, fp => fp = [] ∧ Rep K F (.scr ns) v
  | .ob C nm ds, _, v, fp => fp = [] ∧ Rep K F (.ob C nm ds) v
  | .dct ks ds, 0, v, fp => fp = [] ∧ Rep K F (.dct ks ds) v
  | .dct ks ds, k + 1, v, fp => ∃ a xs fps, v = .ref a ∧ H a = some (.dK ((ks.map Sum.inl).zip xs)) ∧ fp = a :: fps ∧ OwnL K H F ds k xs fps
def OwnL (K : PySem.W.Frag) (H F : Hp) : List D → Nat → List V → List Addr → Prop
  | [], _, vs, fp => vs = [] ∧ fp = []
  | d :: ds, k, vs, fp => ∃ v r fp1 fp2, vs = v :: r ∧ fp = fp1 ++ fp2 ∧ Own K H F d k v fp1 ∧ OwnL K H F ds k r fp2
end

theorem Same.sqt {K : PySem.W.Frag} {H H' : Hp} {a : Addr} {xs : List V} (e : Same H H') (h : SqT K H a xs) : SqT K H' a xs := by
  rcases h with (h | ⟨o, h⟩) | h
  · exact .inl (.inl (e _ _ h))
  · exact .inl (.inr ⟨o, e _ _ h⟩)
  · exact .inr h

section
variable {K : PySem.W.Frag} {H H' F F' : Hp}
mutual
theorem Rep.mono (s : Same H H') : ∀ (d : D) (v : V), Rep K H d v → Rep K H' d v
  | .non, _, h => h
  | .bl _, _, h => h
  | .int _, _, h => h
  | .str _, _, h => h
  | .tup ds, _, ⟨a, xs, e, q, r⟩ => ⟨a, xs, e, Same.sqt s q, RepL.mono s ds xs r⟩
  | .lst ds, _, ⟨a, xs, e, q, r⟩ => ⟨a, xs, e, s _ _ q, RepL.mono s ds xs r⟩
  | .scr ns, _, ⟨a, e, q⟩ => ⟨a, e, s.sqf q⟩
  | .ob C nm ds, _, ⟨Ca, a, dx, xs, ec, e, q, r⟩ => ⟨Ca, a, dx, xs, ec, e, s _ _ q, RepL.mono s ds xs r⟩
  | .dct ks ds, _, ⟨a, xs, e, q, r⟩ => ⟨a, xs, e, s _ _ q, RepL.mono s ds xs r⟩
theorem RepL.mono (s : Same H H') : ∀ (ds : List D) (vs : List V), RepL K H ds vs → RepL K H' ds vs
  | [], _, h => h
  | d :: ds, _, ⟨v, r, e, h1, h2⟩ => ⟨v, r, e, Rep.mono s d v h1, RepL.mono s ds r h2⟩
end
theorem RepL.length : ∀ {ds : List D} {vs : List V}, RepL K H ds vs → vs.length = ds.length
  | [], _, h => by rw [show _ = [] from h]; rfl
  | d :: ds, _, ⟨v, r, e, h1, h2⟩ => by rw [e, List.length_cons, List.length_cons, RepL.length h2]
theorem RepL.get : ∀ {ds : List D} {vs : List V} {i : Nat} {d : D}, RepL K H ds vs → ds[i]? = some d → ∃ v, vs[i]? = some v ∧ Rep K H d v
  | [], _, _, _, h, e => by simp at e
  | d :: ds, _, 0, _, ⟨v, r, e, h1, h2⟩, e1 => by
    subst e; simp at e1; subst e1; exact ⟨v, rfl, h1⟩
  | d :: ds, _, i + 1, _, ⟨v, r, e, h1, h2⟩, e1 => by
    subst e
    obtain ⟨w, q1, q2⟩ := RepL.get (i := i) h2 (by simpa using e1)
    exact ⟨w, by simpa using q1, q2⟩
theorem RepL.app : ∀ {ds es : List D} {vs ws : List V}, RepL K H ds vs → RepL K H es ws → RepL K H (ds ++ es) (vs ++ ws)
  | [], _, _, _, h, h' => by rw [show _ = [] from h]; exact h'
  | d :: ds, es, _, ws, ⟨v, r, e, h1, h2⟩, h' => ⟨v, r ++ ws, by rw [e]; rfl, h1, RepL.app h2 h'⟩
theorem RepL.take : ∀ (n : Nat) {ds : List D} {vs : List V}, RepL K H ds vs → RepL K H (ds.take n) (vs.take n)
  | 0, _, _, _ => rfl
  | n + 1, [], _, h => by rw [show _ = [] from h]; rfl
  | n + 1, d :: ds, _, ⟨v, r, e, h1, h2⟩ => ⟨v, r.take n, by rw [e]; rfl, h1, RepL.take n h2⟩
theorem RepL.drop : ∀ (n : Nat) {ds : List D} {vs : List V}, RepL K H ds vs → RepL K H (ds.drop n) (vs.drop n)
  | 0, _, _, h => h
  | n + 1, [], _, h => by rw [show _ = [] from h]; rfl
  | n + 1, d :: ds, _, ⟨v, r, e, h1, h2⟩ => by rw [e]; exact RepL.drop n h2
theorem RepL.rev {ds : List D} : ∀ {vs : List V}, RepL K H ds vs → RepL K H ds.reverse vs.reverse := by
  induction ds with
  | nil => intro vs h; rw [show vs = [] from h]; exact rfl
  | cons d ds ih =>
    intro vs h
    obtain ⟨v, r, e, h1, h2⟩ := h
    subst e
    rw [List.reverse_cons, List.reverse_cons]
    exact RepL.app (ih h2) ⟨v, [], rfl, h1, rfl⟩
theorem RepL.one {d : D} {v : V} (h : Rep K H d v) : RepL K H [d] [v] := ⟨v, [], rfl, h, rfl⟩
theorem RepL.ints (f : Nat → Int) : ∀ l : List Nat, RepL K H (l.map fun i => D.int (f i)) (l.map fun i => V.int (f i))
  | [] => rfl
  | i :: l => ⟨_, _, rfl, rfl, RepL.ints f l⟩
theorem RepL.intsI : ∀ l : List Int, RepL K H (l.map D.int) (l.map V.int)
  | [] => rfl
  | i :: l => ⟨_, _, rfl, rfl, RepL.intsI l⟩

mutual
/-- what has no lists is read wherever the tuples stand -/
theorem Rep.flat (t : Keeps H F) : ∀ (d : D) (v : V), full d 0 = true → Rep K H d v → Rep K F d v
  | .non, _, _, h => h
  | .bl _, _, _, h => h
  | .int _, _, _, h => h
  | .str _, _, _, h => h
  | .tup ds, _, f, ⟨a, xs, e, q, r⟩ => ⟨a, xs, e, t.sqt q, RepL.flat t ds xs f r⟩
  | .lst ds, _, f, _ => by cases f
  | .scr ns, _, f, ⟨a, e, q⟩ => ⟨a, e, t.sqf q⟩
  | .ob C nm ds, _, f, ⟨Ca, a, dx, xs, ec, e, q, r⟩ => ⟨Ca, a, dx, xs, ec, e, t _ _ q (fun z => z), RepL.flat t ds xs f r⟩
  | .dct ks ds, _, f, _ => by cases f
theorem RepL.flat (t : Keeps H F) : ∀ (ds : List D) (vs : List V), fullL ds 0 = true → RepL K H ds vs → RepL K F ds vs
  | [], _, _, h => h
  | d :: ds, _, f, ⟨v, r, e, h1, h2⟩ => by
    have f' := Bool.and_eq_true_iff.mp f
    exact ⟨v, r, e, Rep.flat t d v f'.1 h1, RepL.flat t ds r f'.2 h2⟩
end
mutual
theorem Own.shared : ∀ (d : D) (v : V), Rep K F d v → Own K H F d 0 v []
  | .non, _, h => ⟨rfl, h⟩
  | .bl _, _, h => ⟨rfl, h⟩
  | .int _, _, h => ⟨rfl, h⟩
  | .str _, _, h => ⟨rfl, h⟩
  | .tup ds, _, ⟨a, xs, e, q, r⟩ => ⟨a, xs, e, q, OwnL.shared ds xs r⟩
  | .lst ds, _, h => ⟨rfl, h⟩
  | .scr ns, _, h => ⟨rfl, h⟩
  | .ob C nm ds, _, h => ⟨rfl, h⟩
  | .dct ks ds, _, h => ⟨rfl, h⟩
theorem OwnL.shared : ∀ (ds : List D) (vs : List V), RepL K F ds vs → OwnL K H F ds 0 vs []
  | [], _, h => ⟨h, rfl⟩
  | d :: ds, _, ⟨v, r, e, h1, h2⟩ => ⟨v, r, [], [], e, rfl, Own.shared d v h1, OwnL.shared ds r h2⟩
end
mutual
/-- what has no lists is one's own at any level -/
theorem Own.flat (k : Nat) : ∀ (d : D) (v : V), full d 0 = true → Rep K F d v → Own K H F d k v []
  | .non, _, _, h => ⟨rfl, h⟩
  | .bl _, _, _, h => ⟨rfl, h⟩
  | .int _, _, _, h => ⟨rfl, h⟩
  | .str _, _, _, h => ⟨rfl, h⟩
  | .tup ds, _, f, ⟨a, xs, e, q, r⟩ => ⟨a, xs, e, q, OwnL.flat k ds xs f r⟩
  | .lst ds, _, f, h => by cases f
  | .scr ns, _, f, h => ⟨rfl, h⟩
  | .ob C nm ds, _, f, h => ⟨rfl, h⟩
  | .dct ks ds, _, f, h => by cases f
theorem OwnL.flat (k : Nat) : ∀ (ds : List D) (vs : List V), fullL ds 0 = true → RepL K F ds vs → OwnL K H F ds k vs []
  | [], _, _, h => ⟨h, rfl⟩
  | d :: ds, _, f, ⟨v, r, e, h1, h2⟩ => by
    have f' := Bool.and_eq_true_iff.mp f
    exact ⟨v, r, [], [], e, rfl, Own.flat k d v f'.1 h1, OwnL.flat k ds r f'.2 h2⟩
end
mutual
/-- one's own is readable -/
theorem Own.rep (s : Same F F') : ∀ (d : D) (k : Nat) (v : V) (fp : List Addr), (∀ a ∈ fp, F' a = H a) → Own K H F d k v fp → Rep K F' d v
  | .non, _, _, _, _, h => h.2
  | .bl _, _, _, _, _, h => h.2
  | .int _, _, _, _, _, h => h.2
  | .str _, _, _, _, _, h => h.2
  | .tup ds, k, _, fp, c, ⟨a, xs, e, q, r⟩ => ⟨a, xs, e, Same.sqt s q, OwnL.rep s ds k xs fp c r⟩
  | .lst ds, 0, v, _, _, h => Rep.mono s (.lst ds) v h.2
  | .lst ds, k + 1, _, fp, c, ⟨a, xs, fps, e, q, ef, r⟩ => by
    subst ef
    exact ⟨a, xs, e, (by rw [c a List.mem_cons_self]; exact q), OwnL.rep s ds k xs fps (fun b hb => c b (List.mem_cons_of_mem _ hb)) r⟩
  | .scr ns, _, v, _, _, h => Rep.mono s (.scr ns) v h.2
  | .ob C nm ds, _, v, _, _, h => Rep.mono s (.ob C nm ds) v h.2
  | .dct ks ds, 0, v, _, _, h => Rep.mono s (.dct ks ds) v h.2
  | .dct ks ds, k + 1, _, fp, c, ⟨a, xs, fps, e, q, ef, r⟩ => by
    subst ef
    exact ⟨a, xs, e, (by rw [c a List.mem_cons_self]; exact q), OwnL.rep s ds k xs fps (fun b hb => c b (List.mem_cons_of_mem _ hb)) r⟩
theorem OwnL.rep (s : Same F F') : ∀ (ds : List D) (k : Nat) (vs : List V) (fp : List Addr), (∀ a ∈ fp, F' a = H a) → OwnL K H F ds k vs fp → RepL K F' ds vs
  | [], _, _, _, _, h => h.1
  | d :: ds, k, _, _, c, ⟨v, r, fp1, fp2, e, ef, h1, h2⟩ => by
    subst ef
    exact ⟨v, r, e, Own.rep s d k v fp1 (fun a h => c a (List.mem_append_left _ h)) h1, OwnL.rep s ds k r fp2 (fun a h => c a (List.mem_append_right _ h)) h2⟩
end
mutual
theorem Own.mono (s : Same F F') : ∀ (d : D) (k : Nat) (v : V) (fp : List Addr), (∀ a ∈ fp, H' a = H a) → Own K H F d k v fp → Own K H' F' d k v fp
  | .non, _, _, _, _, h => h
  | .bl _, _, _, _, _, h => h
  | .int _, _, _, _, _, h => h
  | .str _, _, _, _, _, h => h
  | .tup ds, k, _, fp, c, ⟨a, xs, e, q, r⟩ => ⟨a, xs, e, Same.sqt s q, OwnL.mono s ds k xs fp c r⟩
  | .lst ds, 0, v, _, _, h => ⟨h.1, Rep.mono s (.lst ds) v h.2⟩
  | .lst ds, k + 1, _, fp, c, ⟨a, xs, fps, e, q, ef, r⟩ => by
    subst ef
    exact ⟨a, xs, fps, e, by rw [c a List.mem_cons_self]; exact q, rfl, OwnL.mono s ds k xs fps (fun b hb => c b (List.mem_cons_of_mem _ hb)) r⟩
  | .scr ns, _, v, _, _, h => ⟨h.1, Rep.mono s (.scr ns) v h.2⟩
  | .ob C nm ds, _, v, _, _, h => ⟨h.1, Rep.mono s (.ob C nm ds) v h.2⟩
  | .dct ks ds, 0, v, _, _, h => ⟨h.1, Rep.mono s (.dct ks ds) v h.2⟩
  | .dct ks ds, k + 1, _, fp, c, ⟨a, xs, fps, e, q, ef, r⟩ => by
    subst ef
    exact ⟨a, xs, fps, e, by rw [c a List.mem_cons_self]; exact q, rfl, OwnL.mono s ds k xs fps (fun b hb => c b (List.mem_cons_of_mem _ hb)) r⟩
theorem OwnL.mono (s : Same F F') : ∀ (ds : List D) (k : Nat) (vs : List V) (fp : List Addr), (∀ a ∈ fp, H' a = H a) → OwnL K H F ds k vs fp → OwnL K H' F' ds k vs fp
  | [], _, _, _, _, h => h
  | d :: ds, k, _, _, c, ⟨v, r, fp1, fp2, e, ef, h1, h2⟩ => by
    subst ef
    exact ⟨v, r, fp1, fp2, e, rfl, Own.mono s d k v fp1 (fun a h => c a (List.mem_append_left _ h)) h1, OwnL.mono s ds k r fp2 (fun a h => c a (List.mem_append_right _ h)) h2⟩
end
mutual
/-- where lists stand in the upper k levels only: what lies below is read wherever the tuples stand -/
theorem Own.move (t : Keeps F F') : ∀ (d : D) (k : Nat) (v : V) (fp : List Addr), full d k = true → Own K H F d k v fp → Own K H F' d k v fp
  | .non, _, _, _, _, h => h
  | .bl _, _, _, _, _, h => h
  | .int _, _, _, _, _, h => h
  | .str _, _, _, _, _, h => h
  | .tup ds, k, _, fp, f, ⟨a, xs, e, q, r⟩ => ⟨a, xs, e, t.sqt q, OwnL.move t ds k xs fp f r⟩
  | .lst ds, 0, v, _, f, h => by cases f
  | .lst ds, k + 1, _, fp, f, ⟨a, xs, fps, e, q, ef, r⟩ => ⟨a, xs, fps, e, q, ef, OwnL.move t ds k xs fps f r⟩
  | .scr ns, _, v, _, f, h => ⟨h.1, Rep.flat t (.scr ns) v rfl h.2⟩
  | .ob C nm ds, _, v, _, f, h => ⟨h.1, Rep.flat t (.ob C nm ds) v f h.2⟩
  | .dct ks ds, 0, v, _, f, h => by cases f
  | .dct ks ds, k + 1, _, fp, f, ⟨a, xs, fps, e, q, ef, r⟩ => ⟨a, xs, fps, e, q, ef, OwnL.move t ds k xs fps f r⟩
theorem OwnL.move (t : Keeps F F') : ∀ (ds : List D) (k : Nat) (vs : List V) (fp : List Addr), fullL ds k = true → OwnL K H F ds k vs fp → OwnL K H F' ds k vs fp
  | [], _, _, _, _, h => h
  | d :: ds, k, _, _, f, ⟨v, r, fp1, fp2, e, ef, h1, h2⟩ => by
    have f' := Bool.and_eq_true_iff.mp f
    exact ⟨v, r, fp1, fp2, e, ef, Own.move t d k v fp1 f'.1 h1, OwnL.move t ds k r fp2 f'.2 h2⟩
end
mutual
theorem Own.isLst : ∀ (d : D) (k : Nat) (v : V) (fp : List Addr), Own K H F d k v fp → ∀ a ∈ fp, ∃ o, H a = some o ∧ MutO o
  | .non, _, _, _, h, a, m => by rw [h.1] at m; cases m
  | .bl _, _, _, _, h, a, m => by rw [h.1] at m; cases m
  | .int _, _, _, _, h, a, m => by rw [h.1] at m; cases m
  | .str _, _, _, _, h, a, m => by rw [h.1] at m; cases m
  | .tup ds, k, _, fp, ⟨_, xs, e, q, r⟩, a, m => OwnL.isLst ds k xs fp r a m
  | .lst ds, 0, v, _, h, a, m => by rw [h.1] at m; cases m
  | .lst ds, k + 1, _, fp, ⟨b, xs, fps, e, q, ef, r⟩, a, m => by
    subst ef
    rcases List.mem_cons.mp m with rfl | m
    · exact ⟨_, q, True.intro⟩
    · exact OwnL.isLst ds k xs fps r a m
  | .scr ns, _, v, _, h, a, m => by rw [h.1] at m; cases m
  | .ob C nm ds, _, v, _, h, a, m => by rw [h.1] at m; cases m
  | .dct ks ds, 0, v, _, h, a, m => by rw [h.1] at m; cases m
  | .dct ks ds, k + 1, _, fp, ⟨b, xs, fps, e, q, ef, r⟩, a, m => by
    subst ef
    rcases List.mem_cons.mp m with rfl | m
    · exact ⟨_, q, True.intro⟩
    · exact OwnL.isLst ds k xs fps r a m
theorem OwnL.isLst : ∀ (ds : List D) (k : Nat) (vs : List V) (fp : List Addr), OwnL K H F ds k vs fp → ∀ a ∈ fp, ∃ o, H a = some o ∧ MutO o
  | [], _, _, _, h, a, m => by rw [h.2] at m; cases m
  | d :: ds, k, _, _, ⟨v, r, fp1, fp2, e, ef, h1, h2⟩, a, m => by
    subst ef
    rcases List.mem_append.mp m with m | m
    · exact Own.isLst d k v fp1 h1 a m
    · exact OwnL.isLst ds k r fp2 h2 a m
end
mutual
theorem Own.zero : ∀ (d : D) (v : V) (fp : List Addr), Own K H F d 0 v fp → fp = [] ∧ Rep K F d v
  | .non, _, _, h => h
  | .bl _, _, _, h => h
  | .int _, _, _, h => h
  | .str _, _, _, h => h
  | .scr _, _, _, h => h
  | .ob _ _ _, _, _, h => h
  | .lst _, _, _, h => h
  | .dct _ _, _, _, h => h
  | .tup ds, _, fp, ⟨a, xs, e, q, r⟩ => let ⟨h1, h2⟩ := OwnL.zero ds xs fp r; ⟨h1, a, xs, e, q, h2⟩
theorem OwnL.zero : ∀ (ds : List D) (vs : List V) (fp : List Addr), OwnL K H F ds 0 vs fp → fp = [] ∧ RepL K F ds vs
  | [], _, _, h => ⟨h.2, h.1⟩
  | d :: ds, _, _, ⟨v, r, fp1, fp2, e, ef, h1, h2⟩ => by
    obtain ⟨a1, a2⟩ := Own.zero d v fp1 h1
    obtain ⟨b1, b2⟩ := OwnL.zero ds r fp2 h2
    exact ⟨by rw [ef, a1, b1]; rfl, v, r, e, a2, b2⟩
end
theorem OwnL.app {k : Nat} {ds es : List D} : ∀ {vs ws : List V} {fp fq : List Addr}, OwnL K H F ds k vs fp → OwnL K H F es k ws fq → OwnL K H F (ds ++ es) k (vs ++ ws) (fp ++ fq) := by
  induction ds with
  | nil =>
    intro vs ws fp fq h h'
    rw [h.1, h.2]
    exact h'
  | cons d ds ih =>
    intro vs ws fp fq h h'
    obtain ⟨v, r, fp1, fp2, e, ef, h1, h2⟩ := h
    subst e ef
    exact ⟨v, r ++ ws, fp1, fp2 ++ fq, rfl, by rw [List.append_assoc], h1, ih h2 h'⟩
theorem OwnL.one {k : Nat} {d : D} {v : V} {fp : List Addr} (h : Own K H F d k v fp) : OwnL K H F [d] k [v] fp :=
  ⟨v, [], fp, [], rfl, by rw [List.append_nil], h, rfl, rfl⟩
theorem OwnL.len {k : Nat} : ∀ {ds : List D} {vs : List V} {fp : List Addr}, OwnL K H F ds k vs fp → vs.length = ds.length
  | [], _, _, h => by rw [h.1]; rfl
  | d :: ds, _, _, ⟨v, r, fp1, fp2, e, ef, h1, h2⟩ => by rw [e, List.length_cons, List.length_cons, OwnL.len h2]
end
end FL

namespace FL
open PySem PySem.Spec PyProof.Rows L2
open Classical

/-! ### the heap without some places -/
noncomputable def hideP (H : Hp) (A : Addr → Prop) : Hp := fun a => if A a then none else H a
theorem hideP_some {H : Hp} {A : Addr → Prop} {a : Addr} {o : HO} : hideP H A a = some o ↔ ¬ A a ∧ H a = some o := by
  unfold hideP
  by_cases h : A a
  · simp [h]
  · simp [h]
theorem hideP_same {H : Hp} {A : Addr → Prop} : Same (hideP H A) H := fun _ _ h => (hideP_some.mp h).2
theorem hideP_mono {H H' : Hp} {A B : Addr → Prop} (s : Same H H') (h : ∀ a o, H a = some o → ¬ A a → ¬ B a) : Same (hideP H A) (hideP H' B) := fun a o q => by
  obtain ⟨q1, q2⟩ := hideP_some.mp q
  exact hideP_some.mpr ⟨h a o q2 q1, s a o q2⟩
theorem hideP_not {H : Hp} {A : Addr → Prop} {a : Addr} (h : ¬ A a) : hideP H A a = H a := by unfold hideP; rw [if_neg h]
/-- what is not changed in place stands where lists are hidden -/
theorem hideP_keeps {H : Hp} {A : Addr → Prop} (h : ∀ a, A a → ∃ o, H a = some o ∧ MutO o) : Keeps H (hideP H A) := fun a o q n =>
  hideP_some.mpr ⟨fun z => (by obtain ⟨o', e, m⟩ := h a z; rw [q] at e; cases e; exact n m), q⟩

abbrev Fps := Nat → List Addr
def own (fps : Fps) (a : Addr) : Prop := ∃ i, a ∈ fps i
def own2 (fps : Fps) (fp : List Addr) (a : Addr) : Prop := a ∈ fp ∨ ∃ i, a ∈ fps i

/-! ### a def's state: what each slot holds, and who owns it -/
inductive Slot where
  | un
  | va (k : Nat) (d : D)
  | io (k : Nat) (d : D)
abbrev Sl := List Slot
structure Fr where
  G : Hp
  pin : Nat → V
def SlotOk (K : PySem.W.Frag) (H F : Hp) (p : V) : Slot → Option (Option V) → List Addr → Prop
  | .un, _, fp => fp = []
  | .va k d, sv, fp => ∃ v, sv = some (some v) ∧ Own K H F d k v fp
  | .io k d, sv, fp => sv = some (some p) ∧ Own K H F d k p fp
structure StR (K : PySem.W.Frag) (F : Fr) (fps : Fps) (σ : L2.St) (H : Hp) (st : Sl) : Prop where
  fr : Same F.G (hideP H (own fps))
  nd : ∀ i, (fps i).Nodup
  dj : ∀ i j a, a ∈ fps i → a ∈ fps j → i = j
  len : σ.length = st.length
  ok : ∀ (i : Nat) sl, st[i]? = some sl → SlotOk K H (hideP H (own fps)) (F.pin i) sl σ[i]? (fps i)
  tmp : ∀ i a, st.length ≤ i → a ∈ fps i → ∃ o, H a = some o ∧ MutO o
  fin : ∃ m, ∀ i, m ≤ i → fps i = []
def StRep (K : PySem.W.Frag) (F : Fr) (σ : L2.St) (H : Hp) (st : Sl) : Prop := ∃ fps, StR K F fps σ H st

section
variable {K : PySem.W.Frag} {F : Fr} {fps : Fps} {σ : L2.St} {H H' : Hp} {st : Sl}
theorem SlotOk.isLst {p : V} {F : Hp} {sl : Slot} {sv : Option (Option V)} {fp : List Addr} (h : SlotOk K H F p sl sv fp) : ∀ a ∈ fp, ∃ o, H a = some o ∧ MutO o := by
  cases sl with
  | un => intro a m; rw [show fp = [] from h] at m; cases m
  | va k d => obtain ⟨v, _, q⟩ := h; exact Own.isLst d k v fp q
  | io k d => obtain ⟨_, q⟩ := h; exact Own.isLst d k p fp q
theorem SlotOk.mono {p : V} {F F' : Hp} {sl : Slot} {sv : Option (Option V)} {fp : List Addr} (s : Same F F') (c : ∀ a ∈ fp, H' a = H a) (h : SlotOk K H F p sl sv fp) : SlotOk K H' F' p sl sv fp := by
  cases sl with
  | un => exact h
  | va k d => obtain ⟨v, e, q⟩ := h; exact ⟨v, e, Own.mono s d k v fp c q⟩
  | io k d => obtain ⟨e, q⟩ := h; exact ⟨e, Own.mono s d k p fp c q⟩
theorem StR.isLst (r : StR K F fps σ H st) {a : Addr} (h : own fps a) : ∃ o, H a = some o ∧ MutO o := by
  obtain ⟨i, m⟩ := h
  by_cases hi : i < st.length
  · exact (r.ok i st[i] (by simp [hi])).isLst a m
  · exact r.tmp i a (by omega) m
theorem StR.there (r : StR K F fps σ H st) {a : Addr} (h : own fps a) : H a ≠ none := fun z => by
  obtain ⟨_, e, _⟩ := r.isLst h
  rw [z] at e; cases e
theorem StR.mono (r : StR K F fps σ H st) (s : Same H H') : StR K F fps σ H' st := by
  have hm : Same (hideP H (own fps)) (hideP H' (own fps)) := hideP_mono s fun _ _ _ h => h
  refine ⟨r.fr.trans hm, r.nd, r.dj, r.len, fun i sl e => (r.ok i sl e).mono hm fun a m => ?_, fun i a h m => ?_, r.fin⟩
  · obtain ⟨_, q, mq⟩ := r.isLst ⟨i, m⟩
    rw [q]; exact s _ _ q
  · obtain ⟨_, q, mq⟩ := r.tmp i a h m
    exact ⟨_, s _ _ q, mq⟩
theorem StR.keeps (r : StR K F fps σ H st) : Keeps H (hideP H (own fps)) := hideP_keeps fun a h => r.isLst h

/-! ### values -/
inductive Kd where
  | rd
  | ow (k : Nat)
/-- the value of an expression that began at H and ended at H' -/
def VR (K : PySem.W.Frag) (fps : Fps) (H H' : Hp) : Kd → D → V → Prop
  | .rd, d, v => Rep K H' d v
  | .ow k, d, v => ∃ fp, fp.Nodup ∧ (∀ a ∈ fp, H a = none) ∧ Own K H' (hideP H' (own2 fps fp)) d k v fp
def VRL (K : PySem.W.Frag) (fps : Fps) (H H' : Hp) : Kd → List D → List V → Prop
  | .rd, ds, vs => RepL K H' ds vs
  | .ow k, ds, vs => ∃ fp, fp.Nodup ∧ (∀ a ∈ fp, H a = none) ∧ OwnL K H' (hideP H' (own2 fps fp)) ds k vs fp

theorem VR.rd {kd : Kd} {d : D} {v : V} (h : VR K fps H H' kd d v) : Rep K H' d v := by
  cases kd with
  | rd => exact h
  | ow k => obtain ⟨fp, _, _, q⟩ := h; exact Own.rep hideP_same d k v fp (fun _ _ => rfl) q
theorem VRL.rd {kd : Kd} {d : List D} {v : List V} (h : VRL K fps H H' kd d v) : RepL K H' d v := by
  cases kd with
  | rd => exact h
  | ow k => obtain ⟨fp, _, _, q⟩ := h; exact OwnL.rep hideP_same d k v fp (fun _ _ => rfl) q
/-- from what is readable and has no lists -/
theorem VR.fl {kd : Kd} {d : D} {v : V} (r : StR K F fps σ H' st) (f : full d 0 = true) (h : Rep K H' d v) : VR K fps H H' kd d v := by
  cases kd with
  | rd => exact h
  | ow k =>
    refine ⟨[], List.nodup_nil, fun a m => (by cases m), Own.flat k d v f (Rep.flat (hideP_keeps fun b hb => ?_) d v f h)⟩
    rcases hb with m | hb
    · cases m
    · exact r.isLst hb
/-- scalars -/
def sc : D → Bool
  | .non => true
  | .bl _ => true
  | .int _ => true
  | .str _ => true
  | _ => false
def scV : D → V
  | .bl b => .bl b
  | .int i => .int i
  | .str x => .str x
  | _ => .non
theorem VR.sc {kd : Kd} {d : D} {v : V} (f : sc d = true) (e : v = scV d) : VR K fps H H' kd d v := by
  subst e
  cases kd with
  | rd => cases d <;> first | rfl | cases f
  | ow k => cases d <;> first | exact ⟨[], List.nodup_nil, fun a m => (by cases m), rfl, rfl⟩ | cases f
theorem Rep.int {i : Int} {v : V} (h : Rep K H (.int i) v) : v = .int i := h

/-- a temporary's heap grows -/
theorem VR.grow {H'' : Hp} {kd : Kd} {d : D} {v : V} (s : Same H' H'') (h : VR K fps H H' kd d v) : VR K fps H H'' kd d v := by
  cases kd with
  | rd => exact Rep.mono s d v h
  | ow k =>
    obtain ⟨fp, n, fr, q⟩ := h
    exact ⟨fp, n, fr, Own.mono (hideP_mono s fun _ _ _ h => h) d k v fp (fun a m => by
      obtain ⟨_, e, _⟩ := Own.isLst d k v fp q a m
      rw [e]; exact s _ _ e) q⟩
theorem VR.early {H0 : Hp} {kd : Kd} {d : D} {v : V} (s : Same H0 H) (h : VR K fps H H' kd d v) : VR K fps H0 H' kd d v := by
  cases kd with
  | rd => exact h
  | ow k => obtain ⟨fp, n, fr, q⟩ := h; exact ⟨fp, n, fun a m => s.free (fr a m), q⟩
theorem VRL.early {H0 : Hp} {kd : Kd} {d : List D} {v : List V} (s : Same H0 H) (h : VRL K fps H H' kd d v) : VRL K fps H0 H' kd d v := by
  cases kd with
  | rd => exact h
  | ow k => obtain ⟨fp, n, fr, q⟩ := h; exact ⟨fp, n, fun a m => s.free (fr a m), q⟩
theorem VRL.nil {kd : Kd} : VRL K fps H H' kd [] [] := by
  cases kd with
  | rd => rfl
  | ow k => exact ⟨[], List.nodup_nil, fun a m => (by cases m), rfl, rfl⟩
/-- the footprint at a place -/
def setF (fps : Fps) (i : Nat) (fp : List Addr) : Fps := fun j => if j = i then fp else fps j
theorem setF_same {i : Nat} {fp : List Addr} : setF fps i fp i = fp := if_pos rfl
theorem setF_ne {i j : Nat} {fp : List Addr} (h : j ≠ i) : setF fps i fp j = fps j := if_neg h
theorem own_setF {i : Nat} {fp : List Addr} {a : Addr} (h : own (setF fps i fp) a) : own2 fps fp a := by
  obtain ⟨j, m⟩ := h
  by_cases e : j = i
  · subst e; rw [setF_same] at m; exact .inl m
  · rw [setF_ne e] at m; exact .inr ⟨j, m⟩
theorem own_setF' {i : Nat} {fp : List Addr} {a : Addr} (hi : fps i = []) (h : own2 fps fp a) : own (setF fps i fp) a := by
  rcases h with m | ⟨j, m⟩
  · exact ⟨i, by rw [setF_same]; exact m⟩
  · refine ⟨j, ?_⟩
    rw [setF_ne]
    · exact m
    · intro e; subst e; rw [hi] at m; cases m
/-- a temporary joins the state -/
theorem StR.temp {H1 : Hp} {fp : List Addr} (r : StR K F fps σ H st) (s1 : Same H H1) (n : fp.Nodup) (fr : ∀ a ∈ fp, H a = none) (lst : ∀ a ∈ fp, ∃ o, H1 a = some o ∧ MutO o) :
    ∃ m, fps m = [] ∧ StR K F (setF fps m fp) σ H1 st := by
  obtain ⟨m0, hm0⟩ := r.fin
  have hm : fps (max m0 st.length) = [] := hm0 _ (Nat.le_max_left _ _)
  refine ⟨max m0 st.length, hm, ?_⟩
  have hide : Same (hideP H (own fps)) (hideP H1 (own (setF fps (max m0 st.length) fp))) := hideP_mono s1 fun a o e h z => by
    rcases own_setF z with z | z
    · rw [fr a z] at e; cases e
    · exact h z
  have hidx : ∀ {i}, i < st.length → i ≠ max m0 st.length := fun h => by have := Nat.le_max_right m0 st.length; omega
  refine ⟨r.fr.trans hide, fun i => ?_, fun i j a m1 m2 => ?_, r.len, fun i sl e => ?_, fun i a h m => ?_, max m0 st.length + 1, fun i h => ?_⟩
  · by_cases e : i = max m0 st.length
    · rw [e, setF_same]; exact n
    · rw [setF_ne e]; exact r.nd i
  · by_cases e1 : i = max m0 st.length <;> by_cases e2 : j = max m0 st.length
    · rw [e1, e2]
    · rw [e1, setF_same] at m1; rw [setF_ne e2] at m2
      exact absurd (fr a m1) (r.there ⟨j, m2⟩)
    · rw [setF_ne e1] at m1; rw [e2, setF_same] at m2
      exact absurd (fr a m2) (r.there ⟨i, m1⟩)
    · rw [setF_ne e1] at m1; rw [setF_ne e2] at m2
      exact r.dj i j a m1 m2
  · have hi : i < st.length := (List.getElem?_eq_some_iff.mp e).1
    rw [setF_ne (hidx hi)]
    exact (r.ok i sl e).mono hide fun a m => by
      obtain ⟨_, q, mq⟩ := r.isLst ⟨i, m⟩
      rw [q]; exact s1 _ _ q
  · by_cases e : i = max m0 st.length
    · rw [e, setF_same] at m; exact lst a m
    · rw [setF_ne e] at m
      obtain ⟨_, q, mq⟩ := r.tmp i a h m
      exact ⟨_, s1 _ _ q, mq⟩
  · rw [setF_ne (by omega)]
    exact hm0 i (by have := Nat.le_max_left m0 st.length; omega)
/-- one value, then the others -/
theorem VR.seq {H1 : Hp} {kd : Kd} {d : D} {v : V} (r : StR K F fps σ H st) (s1 : Same H H1) (h : VR K fps H H1 kd d v) :
    ∃ fps', StR K F fps' σ H1 st ∧ ∀ (H2 : Hp) (ds : List D) (vs : List V), Same H1 H2 → VRL K fps' H1 H2 kd ds vs → VRL K fps H H2 kd (d :: ds) (v :: vs) := by
  cases kd with
  | rd => exact ⟨fps, r.mono s1, fun H2 ds vs s2 t => ⟨v, vs, rfl, Rep.mono s2 d v h, t⟩⟩
  | ow k =>
    obtain ⟨fp, n, fr, q⟩ := h
    have lst1 := Own.isLst d k v fp q
    obtain ⟨m, hm, r1⟩ := r.temp s1 n fr lst1
    refine ⟨_, r1, fun H2 ds vs s2 t => ?_⟩
    obtain ⟨fq, n2, fr2, q2⟩ := t
    have dis : ∀ a, a ∈ fp → a ∈ fq → False := fun a m m2 => by
      obtain ⟨_, e, _⟩ := lst1 a m
      rw [fr2 a m2] at e; cases e
    refine ⟨fp ++ fq, List.nodup_append.mpr ⟨n, n2, fun a m b m2 e => dis a m (e ▸ m2)⟩, fun a m => ?_, v, vs, fp, fq, rfl, rfl, ?_, ?_⟩
    · rcases List.mem_append.mp m with m | m
      · exact fr a m
      · exact s1.free (fr2 a m)
    · refine Own.mono (hideP_mono s2 fun a o e h z => ?_) d k v fp (fun a m => ?_) q
      · rcases z with m | z
        · rcases List.mem_append.mp m with m | m
          · exact h (.inl m)
          · rw [fr2 a m] at e; cases e
        · exact h (.inr z)
      · obtain ⟨_, e, _⟩ := lst1 a m
        rw [e]; exact s2 _ _ e
    · refine OwnL.mono (fun a o e => ?_) ds k vs fq (fun _ _ => rfl) q2
      obtain ⟨h1, h2⟩ := hideP_some.mp e
      refine hideP_some.mpr ⟨fun z => h1 ?_, h2⟩
      rcases z with m' | z
      · rcases List.mem_append.mp m' with m' | m'
        · exact .inr (own_setF' hm (.inl m'))
        · exact .inl m'
      · exact .inr (own_setF' hm (.inr z))
/-- a new value at a slot -/
theorem StR.set {H1 : Hp} {k : Nat} {d : D} {v : V} {fp : List Addr} {i : Nat} (r : StR K F fps σ H st) (s1 : Same H H1) (hi : i < st.length)
    (n : fp.Nodup) (fr : ∀ a ∈ fp, H a = none) (q : Own K H1 (hideP H1 (own2 fps fp)) d k v fp) : StR K F (setF fps i fp) (σ.set i (some v)) H1 (st.set i (.va k d)) := by
  have hide : Same (hideP H (own fps)) (hideP H1 (own (setF fps i fp))) := hideP_mono s1 fun a o e h z => by
    rcases own_setF z with z | z
    · rw [fr a z] at e; cases e
    · exact h z
  have hide2 : Same (hideP H1 (own2 fps fp)) (hideP H1 (own (setF fps i fp))) := hideP_mono (Same.refl _) fun a o e h z => h (own_setF z)
  refine ⟨r.fr.trans hide, fun j => ?_, fun j j' a m1 m2 => ?_, by rw [List.length_set, List.length_set]; exact r.len, fun j sl e => ?_, fun j a h m => ?_, ?_⟩
  · by_cases e : j = i
    · rw [e, setF_same]; exact n
    · rw [setF_ne e]; exact r.nd j
  · by_cases e1 : j = i <;> by_cases e2 : j' = i
    · rw [e1, e2]
    · rw [e1, setF_same] at m1; rw [setF_ne e2] at m2
      exact absurd (fr a m1) (r.there ⟨j', m2⟩)
    · rw [setF_ne e1] at m1; rw [e2, setF_same] at m2
      exact absurd (fr a m2) (r.there ⟨j, m1⟩)
    · rw [setF_ne e1] at m1; rw [setF_ne e2] at m2
      exact r.dj j j' a m1 m2
  · by_cases e1 : j = i
    · subst e1
      rw [List.getElem?_set_self hi] at e
      cases e
      rw [setF_same]
      refine ⟨v, ?_, Own.mono hide2 d k v fp (fun _ _ => rfl) q⟩
      rw [List.getElem?_set_self (by rw [r.len]; exact hi)]
    · rw [List.getElem?_set_ne (Ne.symm e1)] at e
      rw [setF_ne e1, List.getElem?_set_ne (Ne.symm e1)]
      exact (r.ok j sl e).mono hide fun a m => by
        obtain ⟨_, q, mq⟩ := r.isLst ⟨j, m⟩
        rw [q]; exact s1 _ _ q
  · rw [List.length_set] at h
    rw [setF_ne (by omega)] at m
    obtain ⟨_, q, mq⟩ := r.tmp j a h m
    exact ⟨_, s1 _ _ q, mq⟩
  · obtain ⟨m, hm⟩ := r.fin
    refine ⟨max m (i + 1), fun j h => ?_⟩
    rw [setF_ne (by have := Nat.le_max_right m (i + 1); omega)]
    exact hm j (by have := Nat.le_max_left m (i + 1); omega)
/-- a slot forgotten -/
theorem StR.unset {i : Nat} (r : StR K F fps σ H st) : StR K F (setF fps i []) σ H (st.set i .un) := by
  have hide : Same (hideP H (own fps)) (hideP H (own (setF fps i []))) := hideP_mono (Same.refl _) fun a o e h z => by
    rcases own_setF z with z | z
    · cases z
    · exact h z
  refine ⟨r.fr.trans hide, fun j => ?_, fun j j' a m1 m2 => ?_, by rw [List.length_set]; exact r.len, fun j sl e => ?_, fun j a h m => ?_, ?_⟩
  · by_cases e : j = i
    · rw [e, setF_same]; exact List.nodup_nil
    · rw [setF_ne e]; exact r.nd j
  · by_cases e1 : j = i <;> by_cases e2 : j' = i
    · rw [e1, e2]
    · rw [e1, setF_same] at m1; cases m1
    · rw [e2, setF_same] at m2; cases m2
    · rw [setF_ne e1] at m1; rw [setF_ne e2] at m2
      exact r.dj j j' a m1 m2
  · by_cases e1 : j = i
    · subst e1
      rw [setF_same]
      by_cases hi : j < st.length
      · rw [List.getElem?_set_self hi] at e
        cases e
        exact rfl
      · rw [List.getElem?_eq_none (by rw [List.length_set]; omega)] at e; cases e
    · rw [List.getElem?_set_ne (Ne.symm e1)] at e
      rw [setF_ne e1]
      exact (r.ok j sl e).mono hide fun a m => rfl
  · rw [List.length_set] at h
    by_cases e1 : j = i
    · rw [e1, setF_same] at m; cases m
    · rw [setF_ne e1] at m
      exact r.tmp j a h m
  · obtain ⟨m, hm⟩ := r.fin
    refine ⟨max m (i + 1), fun j h => ?_⟩
    rw [setF_ne (by have := Nat.le_max_right m (i + 1); omega)]
    exact hm j (by have := Nat.le_max_left m (i + 1); omega)
/-- what a slot holds -/
theorem StR.va {i k : Nat} {d : D} (r : StR K F fps σ H st) (e : st[i]? = some (.va k d)) : ∃ v, σ[i]? = some (some v) ∧ Own K H (hideP H (own fps)) d k v (fps i) := r.ok i _ e
theorem StR.io {i k : Nat} {d : D} (r : StR K F fps σ H st) (e : st[i]? = some (.io k d)) : σ[i]? = some (some (F.pin i)) ∧ Own K H (hideP H (own fps)) d k (F.pin i) (fps i) := r.ok i _ e
end
end FL

namespace FL
open PySem PySem.Spec PyProof.Rows L2

abbrev EM := Sl → Option D
abbrev TM := Sl → Option Bool
abbrev AM := Sl → Option (List D)

theorem PE.weak {X : Cx} {e : Expr} {t t' : TE} (h : PE X e t) (hw : ∀ σ H Q, t' σ H Q → t σ H Q) : PE X e t' := ⟨fun pins s σ H Q I q => h.run pins s σ H Q I (hw σ H Q q)⟩
theorem PT.weak {X : Cx} {e : Expr} {t t' : TT} (h : PT X e t) (hw : ∀ σ H Q, t' σ H Q → t σ H Q) : PT X e t' := ⟨fun pins s σ H Q I q => h.run pins s σ H Q I (hw σ H Q q)⟩
theorem PW.weak {X : Cx} {e : Expr} {t t' : TT} (h : PW X e t) (hw : ∀ σ H Q, t' σ H Q → t σ H Q) : PW X e t' := ⟨fun wh pins s σ H Q I q => h.run wh pins s σ H Q I (hw σ H Q q)⟩
theorem PA.weak {X : Cx} {e : List Expr} {t t' : TA} (h : PA X e t) (hw : ∀ σ H Q, t' σ H Q → t σ H Q) : PA X e t' := ⟨fun pos pins s σ H Q I q => h.run pos pins s σ H Q I (hw σ H Q q)⟩

def tF (K : PySem.W.Frag) (kd : Kd) (f : EM) : TE := fun σ H Q => ∃ F fps st d, StR K F fps σ H st ∧ f st = some d ∧ ∀ v H', Same H H' → VR K fps H H' kd d v → Q v H'
def tFT (K : PySem.W.Frag) (f : TM) : TT := fun σ H Q => ∃ F fps st b, StR K F fps σ H st ∧ f st = some b ∧ ∀ H', Same H H' → Q b H'
def tFA (K : PySem.W.Frag) (kd : Kd) (f : AM) : TA := fun σ H Q => ∃ F fps st ds, StR K F fps σ H st ∧ f st = some ds ∧ ∀ vs H', Same H H' → VRL K fps H H' kd ds vs → Q vs H'
abbrev FE (X : Cx) (kd : Kd) (e : Expr) (f : EM) : Prop := PE X e (tF X.K kd f)
abbrev FT (X : Cx) (e : Expr) (f : TM) : Prop := PT X e (tFT X.K f)
abbrev FW (X : Cx) (e : Expr) (f : TM) : Prop := PW X e (tFT X.K f)
abbrev FA (X : Cx) (kd : Kd) (es : List Expr) (f : AM) : Prop := PA X es (tFA X.K kd f)

section
variable {X : Cx} {kd kd1 kd2 : Kd} {e a b c : Expr} {es : List Expr} {f g h : EM} {pos : Pos} {K : PySem.W.Frag}

/-! ### kinds -/
theorem fe_rd (he : FE X kd e f) : FE X .rd e f := PE.weak he fun σ H Q ⟨F, fps, st, d, r, ed, q⟩ => ⟨F, fps, st, d, r, ed, fun v H' s w => q v H' s w.rd⟩
def chk (k : Nat) (d : D) : Option D := if full d k = true then some d else none
def eFl (f : EM) : EM := fun st => (f st).bind (chk 0)
theorem chk_some {k : Nat} {o : Option D} {d : D} (h : o.bind (chk k) = some d) : o = some d ∧ full d k = true := by
  cases o with
  | none => cases h
  | some x =>
    have h' : (if full x k = true then some x else none) = some d := h
    split at h'
    · cases h'; exact ⟨rfl, by assumption⟩
    · cases h'
theorem fe_fl (he : FE X kd1 e f) : FE X kd e (eFl f) := PE.weak he fun σ H Q ⟨F, fps, st, d, r, ed, q⟩ => by
  obtain ⟨e1, e2⟩ := chk_some ed
  exact ⟨F, fps, st, d, r, e1, fun v H' s w => q v H' s ((r.mono s).mono (Same.refl _) |> fun r' => VR.fl r' e2 w.rd)⟩
theorem VR.ow0 {fps : Fps} {H H' : Hp} {d : D} {v : V} (h : VR K fps H H' (.ow 0) d v) : Rep K (hideP H' (own fps)) d v := by
  obtain ⟨fp, n, fr, q⟩ := h
  obtain ⟨e, q⟩ := Own.zero d v fp q
  subst e
  exact Rep.mono (hideP_mono (Same.refl _) fun a o _ h z => h (.inr z)) d v q
theorem VR.mk0 {fps : Fps} {H H' : Hp} {d : D} {v : V} (h : Rep K (hideP H' (own fps)) d v) : VR K fps H H' (.ow 0) d v :=
  ⟨[], List.nodup_nil, fun a m => (by cases m), Own.shared d v (Rep.mono (hideP_mono (Same.refl _) fun a o _ h z => h (z.resolve_left (fun m => by cases m))) d v h)⟩
theorem fe_fz {k : Nat} (he : FE X (.ow k) e f) : FE X (.ow 0) e f := PE.weak he fun σ H Q ⟨F, fps, st, d, r, ed, q⟩ => ⟨F, fps, st, d, r, ed, fun v H' s w => q v H' s (by
  obtain ⟨fp, n, fr, w⟩ := w
  refine VR.mk0 (Own.rep (hideP_mono (Same.refl _) fun a o _ h z => h (.inr z)) d k v fp (fun a m => hideP_not fun z => ?_) w)
  exact r.there z (fr a m))⟩

/-! ### names and constants -/
def eVar (i : Nat) : EM := fun st => match st[i]? with
  | some (.va _ d) => some d
  | some (.io _ d) => some d
  | _ => none
def eVarS (i : Nat) : EM := fun st => match st[i]? with
  | some (.va 0 d) => some d
  | some (.va (_ + 1) d) => chk 0 d
  | some (.io _ d) => chk 0 d
  | _ => none
theorem StR.look {F : Fr} {fps : Fps} {σ : L2.St} {H : Hp} {st : Sl} {i : Nat} {d : D} (r : StR K F fps σ H st) (e : eVar i st = some d) : ∃ v k, σ[i]? = some (some v) ∧ Own K H (hideP H (own fps)) d k v (fps i) := by
  unfold eVar at e
  split at e
  · cases e
    obtain ⟨v, h1, h2⟩ := r.va (by assumption)
    exact ⟨v, _, h1, h2⟩
  · cases e
    obtain ⟨h1, h2⟩ := r.io (by assumption)
    exact ⟨_, _, h1, h2⟩
  · cases e
theorem fe_var {i : Nat} (he : PE X e (tVar i)) : FE X .rd e (eVar i) := PE.weak he fun σ H Q ⟨F, fps, st, d, r, ed, q⟩ => by
  obtain ⟨v, k, e1, o⟩ := r.look ed
  exact ⟨v, e1, q v H (Same.refl H) (Own.rep hideP_same d k v _ (fun _ _ => rfl) o)⟩
theorem fe_varS {i : Nat} (he : PE X e (tVar i)) : FE X (.ow 0) e (eVarS i) := PE.weak he fun σ H Q ⟨F, fps, st, d, r, ed, q⟩ => by
  unfold eVarS at ed
  split at ed
  · rename_i hs
    cases ed
    obtain ⟨v, e1, o⟩ := r.va hs
    exact ⟨v, e1, q v H (Same.refl H) (VR.mk0 (Own.zero d v _ o).2)⟩
  · rename_i k d' hs
    obtain ⟨h1, h2⟩ := chk_some (o := some d') ed
    cases h1
    obtain ⟨v, e1, o⟩ := r.va hs
    exact ⟨v, e1, q v H (Same.refl H) (VR.fl r h2 (Own.rep hideP_same d _ v _ (fun _ _ => rfl) o))⟩
  · rename_i k d' hs
    obtain ⟨h1, h2⟩ := chk_some (o := some d') ed
    cases h1
    obtain ⟨e1, o⟩ := r.io hs
    exact ⟨_, e1, q _ H (Same.refl H) (VR.fl r h2 (Own.rep hideP_same d _ _ _ (fun _ _ => rfl) o))⟩
  · cases ed
def eC (d : D) : EM := fun _ => some d
theorem fe_c {d : D} (hd : sc d = true) (he : PE X e (tC (scV d))) : FE X kd e (eC d) := PE.weak he fun σ H Q ⟨F, fps, st, d', r, ed, q⟩ => by
  cases ed
  exact q _ H (Same.refl H) (VR.sc hd rfl)
theorem fe_int {i j pos} : FE X kd (.Constant (.int i) j pos) (eC (.int i)) := fe_c rfl pe_int
theorem fe_bl {b j pos} : FE X kd (.Constant (.bool b) j pos) (eC (.bl b)) := fe_c rfl pe_bl
theorem fe_non {j pos} : FE X kd (.Constant .none j pos) (eC .non) := fe_c rfl pe_non
theorem fe_str {x j pos} : FE X kd (.Constant (.str x) j pos) (eC (.str x)) := fe_c rfl pe_str

/-! ### operators whose answer is a scalar -/
def eBin (m : D → D → Option D) (f g : EM) : EM := fun st => (f st).bind fun x => (g st).bind fun y => m x y
theorem bind2 {α β γ : Type} {o : Option α} {p : Option β} {m : α → β → Option γ} {d : γ} (h : (o.bind fun x => p.bind fun y => m x y) = some d) : ∃ x y, o = some x ∧ p = some y ∧ m x y = some d := by
  cases o with
  | none => cases h
  | some x =>
    cases p with
    | none => cases h
    | some y => exact ⟨x, y, rfl, rfl, h⟩
/-- a rule on two values, a scalar comes -/
def ScR (K : PySem.W.Frag) (m : D → D → Option D) (r : R2) : Prop := ∀ (x y : V) (H : Hp) (Q : VK) (dx dy d : D), Rep K H dx x → Rep K H dy y → m dx dy = some d → sc d = true ∧ (Q (scV d) H → r x y H Q)
theorem tF_bin {m : D → D → Option D} {r : R2} (hr : ScR K m r) {σ : L2.St} {H : Hp} {Q : VK} (h : tF K kd (eBin m f g) σ H Q) : tOp r (tF K .rd f) (tF K .rd g) σ H Q := by
  obtain ⟨F, fps, st, d, rr, ed, q⟩ := h
  obtain ⟨x, y, e1, e2, e3⟩ := bind2 ed
  refine ⟨F, fps, st, x, rr, e1, fun v H1 s1 w1 => ⟨F, fps, st, y, rr.mono s1, e2, fun u H2 s2 w2 => ?_⟩⟩
  obtain ⟨h1, h2⟩ := hr v u H2 Q x y d (Rep.mono s2 x v w1) w2 e3
  exact h2 (q _ H2 (s1.trans s2) (VR.sc h1 rfl))
theorem fe_bin {op : Operator} {m : D → D → Option D} {r : R2} (ho : OpR X (binaryOp op) r) (hr : ScR X.K m r) (ha : FE X .rd a f) (hb : FE X .rd b g) : FE X kd (.BinOp a op b pos) (eBin m f g) :=
  PE.weak (pe_op ho ha hb) fun _ _ _ => tF_bin hr
theorem fe_cmpB {op : CmpOp} {m : D → D → Option D} {r : R2} (ho : OpR X (compareOp op) r) (hr : ScR X.K m r) (hm : behindInMarks op b = false) (ha : FE X .rd a f) (hb : FE X .rd b g) : FE X kd (.Compare a [op] [b] pos) (eBin m f g) :=
  PE.weak (pe_cmpR ho ha hb hm) fun _ _ _ => tF_bin hr
def qVal (f : EM) : TM := fun st => match f st with
  | some (.bl b) => some b
  | _ => none
theorem tVal_some {f : EM} {st : Sl} {b : Bool} (h : qVal f st = some b) : f st = some (.bl b) := by
  unfold qVal at h
  split at h
  · cases h; assumption
  · cases h
theorem tFT_of {t : TE} (ht : ∀ σ H Q, tF K .rd f σ H Q → t σ H Q) {σ : L2.St} {H : Hp} {Q : Bool → Hp → Prop} (h : tFT K (qVal f) σ H Q) : t σ H fun x H' => ∃ k, x = .bl k ∧ Q k H' := by
  obtain ⟨F, fps, st, d, rr, ed, q⟩ := h
  exact ht σ H _ ⟨F, fps, st, .bl d, rr, tVal_some ed, fun v H' s w => ⟨d, w, q H' s⟩⟩
theorem ft_cmpB {op : CmpOp} {m : D → D → Option D} {r : R2} (ho : OpR X (compareOp op) r) (hr : ScR X.K m r) (hm : behindInMarks op b = false) (ha : FE X .rd a f) (hb : FE X .rd b g) : FT X (.Compare a [op] [b] pos) (qVal (eBin m f g)) :=
  PT.weak (pt_cmpR ho ha hb hm) fun _ _ _ h => tFT_of (fun _ _ _ => tF_bin hr) h
theorem ft_val (he : FE X .rd e f) (hw : ∀ whole, isTrue e X.env whole = (do let v ← whole; standAt e.pos; holding [v] (truthy v)) := by intro _; rfl) : FT X e (qVal f) :=
  PT.weak (pt_val he hw) fun _ _ _ h => tFT_of (fun _ _ _ q => q) h

/-- two ints -/
def mI (c : Int → Int → Bool) (g : Int → Int → D) : D → D → Option D
  | .int i, .int j => if c i j = true then some (g i j) else none
  | _, _ => none
theorem mI_some {c : Int → Int → Bool} {g : Int → Int → D} {x y d : D} (h : mI c g x y = some d) : ∃ i j, x = .int i ∧ y = .int j ∧ c i j = true ∧ d = g i j := by
  unfold mI at h
  split at h
  · split at h
    · cases h; exact ⟨_, _, rfl, rfl, by assumption, rfl⟩
    · cases h
  · cases h
theorem scr_int0 {c : Int → Int → Bool} {g : Int → Int → D} {gv : Int → Int → V} (hs : ∀ i j, sc (g i j) = true ∧ scV (g i j) = gv i j) : ScR K (mI c g) (rI0 gv) := fun x y H Q dx dy d rx ry e => by
  obtain ⟨i, j, rfl, rfl, _, rfl⟩ := mI_some e
  refine ⟨(hs i j).1, fun q => ⟨i, j, rx, ry, ?_⟩⟩
  rw [← (hs i j).2]; exact q
theorem scr_int {C : Int → Int → Prop} {c : Int → Int → Bool} {g : Int → Int → D} {gv : Int → Int → V} (hc : ∀ i j, c i j = true → C i j) (hs : ∀ i j, sc (g i j) = true ∧ scV (g i j) = gv i j) : ScR K (mI c g) (rI C gv) := fun x y H Q dx dy d rx ry e => by
  obtain ⟨i, j, rfl, rfl, h, rfl⟩ := mI_some e
  refine ⟨(hs i j).1, fun q => ⟨i, j, rx, ry, hc i j h, ?_⟩⟩
  rw [← (hs i j).2]; exact q
def c0 (_ _ : Int) : Bool := true
def mulOk (i j : Int) : Bool := (decide (-(2 ^ 64) < i) && decide (i < 2 ^ 64)) || (decide (-(2 ^ 64) < j) && decide (j < 2 ^ 64))
def divOk (_ j : Int) : Bool := decide (0 < j) && decide (j.natAbs.log2 < 9000)
def modOk (_ j : Int) : Bool := decide (0 < j)
def powOk (i j : Int) : Bool := decide (0 ≤ j) && decide (j ≤ 1000000) && decide (i.natAbs < 2 ^ 64)
def mSub := mI c0 fun i j => .int (i - j)
def mMul := mI mulOk fun i j => .int (i * j)
def mDiv := mI divOk fun i j => .int (i / j)
def mMod := mI modOk fun i j => .int (i % j)
def mPow := mI powOk fun i j => .int (i ^ j.toNat)
def mXor := mI c0 fun i j => .int (Builtin.bitXor i j)
def mLt := mI c0 fun i j => .bl (decide (i < j))
def mLe := mI c0 fun i j => .bl (decide (i ≤ j))
def mGt := mI c0 fun i j => .bl (decide (j < i))
def mGe := mI c0 fun i j => .bl (decide (j ≤ i))
def mAddI := mI c0 fun i j => .int (i + j)
theorem fe_addI (ha : FE X .rd a f) (hb : FE X .rd b g) : FE X kd (.BinOp a .Add b pos) (eBin mAddI f g) := fe_bin op_add (scr_int0 fun _ _ => ⟨rfl, rfl⟩) ha hb
theorem fe_sub (ha : FE X .rd a f) (hb : FE X .rd b g) : FE X kd (.BinOp a .Sub b pos) (eBin mSub f g) := fe_bin op_sub (scr_int0 fun _ _ => ⟨rfl, rfl⟩) ha hb
theorem mulOk_ok (i j : Int) (h : mulOk i j = true) : CMul i j := by
  unfold mulOk at h
  simp only [Bool.or_eq_true, Bool.and_eq_true, decide_eq_true_eq] at h
  exact h
theorem fe_mul (ha : FE X .rd a f) (hb : FE X .rd b g) : FE X kd (.BinOp a .Mult b pos) (eBin mMul f g) := fe_bin op_mul (scr_int mulOk_ok fun _ _ => ⟨rfl, rfl⟩) ha hb
theorem fe_div (ha : FE X .rd a f) (hb : FE X .rd b g) : FE X kd (.BinOp a .FloorDiv b pos) (eBin mDiv f g) := fe_bin op_fdivW (scr_int (C := CDivW) (fun i j h => by
  unfold divOk at h
  simp only [Bool.and_eq_true, decide_eq_true_eq] at h
  exact h) fun _ _ => ⟨rfl, rfl⟩) ha hb
theorem fe_mod (ha : FE X .rd a f) (hb : FE X .rd b g) : FE X kd (.BinOp a .Mod b pos) (eBin mMod f g) := fe_bin op_mod (scr_int (fun i j h => of_decide_eq_true h) fun _ _ => ⟨rfl, rfl⟩) ha hb
theorem fe_pow (ha : FE X .rd a f) (hb : FE X .rd b g) : FE X kd (.BinOp a .Pow b pos) (eBin mPow f g) := fe_bin op_pow (scr_int (C := CPow) (fun i j h => by
  unfold powOk at h
  simp only [Bool.and_eq_true, decide_eq_true_eq] at h
  exact ⟨h.1.1, h.1.2, h.2⟩) fun _ _ => ⟨rfl, rfl⟩) ha hb
theorem fe_xor (ha : FE X .rd a f) (hb : FE X .rd b g) : FE X kd (.BinOp a .BitXor b pos) (eBin mXor f g) := fe_bin op_xor (scr_int0 fun _ _ => ⟨rfl, rfl⟩) ha hb
theorem fe_lt (ha : FE X .rd a f) (hb : FE X .rd b g) : FE X kd (.Compare a [.Lt] [b] pos) (eBin mLt f g) := fe_cmpB op_lt (scr_int0 fun _ _ => ⟨rfl, rfl⟩) (nomark _) ha hb
theorem fe_le (ha : FE X .rd a f) (hb : FE X .rd b g) : FE X kd (.Compare a [.LtE] [b] pos) (eBin mLe f g) := fe_cmpB op_le (scr_int0 fun _ _ => ⟨rfl, rfl⟩) (nomark _) ha hb
theorem fe_gt (ha : FE X .rd a f) (hb : FE X .rd b g) : FE X kd (.Compare a [.Gt] [b] pos) (eBin mGt f g) := fe_cmpB op_gt (scr_int0 fun _ _ => ⟨rfl, rfl⟩) (nomark _) ha hb
theorem fe_ge (ha : FE X .rd a f) (hb : FE X .rd b g) : FE X kd (.Compare a [.GtE] [b] pos) (eBin mGe f g) := fe_cmpB op_ge (scr_int0 fun _ _ => ⟨rfl, rfl⟩) (nomark _) ha hb
theorem ft_lt (ha : FE X .rd a f) (hb : FE X .rd b g) : FT X (.Compare a [.Lt] [b] pos) (qVal (eBin mLt f g)) := ft_cmpB op_lt (scr_int0 fun _ _ => ⟨rfl, rfl⟩) (nomark _) ha hb
theorem ft_le (ha : FE X .rd a f) (hb : FE X .rd b g) : FT X (.Compare a [.LtE] [b] pos) (qVal (eBin mLe f g)) := ft_cmpB op_le (scr_int0 fun _ _ => ⟨rfl, rfl⟩) (nomark _) ha hb
theorem ft_gt (ha : FE X .rd a f) (hb : FE X .rd b g) : FT X (.Compare a [.Gt] [b] pos) (qVal (eBin mGt f g)) := ft_cmpB op_gt (scr_int0 fun _ _ => ⟨rfl, rfl⟩) (nomark _) ha hb
theorem ft_ge (ha : FE X .rd a f) (hb : FE X .rd b g) : FT X (.Compare a [.GtE] [b] pos) (qVal (eBin mGe f g)) := ft_cmpB op_ge (scr_int0 fun _ _ => ⟨rfl, rfl⟩) (nomark _) ha hb

/-! ### == and != of data -/
mutual
def toPy : D → PyData
  | .non => .none
  | .bl b => .bool b
  | .int i => .int i
  | .str x => .str x
  | .tup ds => .tuple (toPyL ds)
  | .lst ds => .list (toPyL ds)
  | .scr ns => .list (ns.map PyData.int)
  | .ob _ _ _ => .dict []
  | .dct _ _ => .dict []
def toPyL : List D → List PyData
  | [] => []
  | d :: ds => toPy d :: toPyL ds
end
mutual
theorem toPy_dp {H : Hp} : ∀ (d : D) (v : V), (toPy d).canLay0 = true → Rep K H d v → Dp K H v (toPy d)
  | .non, v, _, h => by rw [show v = .non from h]; exact .non
  | .bl b, v, _, h => by rw [show v = .bl b from h]; exact .bl b
  | .int i, v, _, h => by rw [show v = .int i from h]; exact .int i
  | .str x, v, _, h => by rw [show v = .str x from h]; exact .str x
  | .tup ds, v, c, ⟨a, xs, e, q, r⟩ => by subst e; exact .tup q (toPyL_dp ds xs c r)
  | .lst ds, v, c, ⟨a, xs, e, q, r⟩ => by subst e; exact .lst (.inl (.inl q)) (toPyL_dp ds xs c r)
  | .scr ns, v, c, ⟨a, e, q⟩ => by
    subst e
    refine .lst q.sq ?_
    clear q c
    induction ns with
    | nil => exact .nil
    | cons n ns ih => exact .cons (.int n) ih
  | .ob _ _ _, v, c, h => by cases c
  | .dct _ _, v, c, h => by cases c
theorem toPyL_dp {H : Hp} : ∀ (ds : List D) (vs : List V), PyData.canLayAll0 (toPyL ds) = true → RepL K H ds vs → DpAll K H vs (toPyL ds)
  | [], vs, _, h => by rw [show vs = [] from h]; exact .nil
  | d :: ds, vs, c, ⟨v, r, e, h1, h2⟩ => by
    subst e
    have c' : ((toPy d).canLay0 && PyData.canLayAll0 (toPyL ds)) = true := c
    have c2 := Bool.and_eq_true_iff.mp c'
    exact .cons (toPy_dp d v c2.1 h1) (toPyL_dp ds r c2.2 h2)
end
def shp (d : D) : Bool := SeqAt.shaped (toPy d)
def deq (x y : D) : Bool := PyData.eqv (toPy x) (toPy y)
def mEq (x y : D) : Option D := if (shp x && shp y) = true then some (.bl (deq x y)) else none
def mNe (x y : D) : Option D := if (shp x && shp y) = true then some (.bl (!deq x y)) else none
theorem scr_eq : ScR K mEq (rEqD K) := fun x y H Q dx dy d rx ry e => by
  unfold mEq at e
  split at e
  · rename_i hs
    have hs := Bool.and_eq_true_iff.mp hs
    cases e
    exact ⟨rfl, fun q => ⟨toPy dx, toPy dy, toPy_dp dx x (SeqAt.canLay_of_shaped hs.1) rx, toPy_dp dy y (SeqAt.canLay_of_shaped hs.2) ry, hs.1, hs.2, q⟩⟩
  · cases e
theorem scr_ne : ScR K mNe (rNeD K) := fun x y H Q dx dy d rx ry e => by
  unfold mNe at e
  split at e
  · rename_i hs
    have hs := Bool.and_eq_true_iff.mp hs
    cases e
    exact ⟨rfl, fun q => ⟨toPy dx, toPy dy, toPy_dp dx x (SeqAt.canLay_of_shaped hs.1) rx, toPy_dp dy y (SeqAt.canLay_of_shaped hs.2) ry, hs.1, hs.2, q⟩⟩
  · cases e
theorem fe_eq (hu : X.A.units + 64 < cLine) (ha : FE X .rd a f) (hb : FE X .rd b g) : FE X kd (.Compare a [.Eq] [b] pos) (eBin mEq f g) := fe_cmpB (op_eqD hu) scr_eq (nomark _) ha hb
theorem fe_ne (hu : X.A.units + 64 < cLine) (ha : FE X .rd a f) (hb : FE X .rd b g) : FE X kd (.Compare a [.NotEq] [b] pos) (eBin mNe f g) := fe_cmpB (op_neD hu) scr_ne (nomark _) ha hb
theorem ft_eq (hu : X.A.units + 64 < cLine) (ha : FE X .rd a f) (hb : FE X .rd b g) : FT X (.Compare a [.Eq] [b] pos) (qVal (eBin mEq f g)) := ft_cmpB (op_eqD hu) scr_eq (nomark _) ha hb
theorem ft_ne (hu : X.A.units + 64 < cLine) (ha : FE X .rd a f) (hb : FE X .rd b g) : FT X (.Compare a [.NotEq] [b] pos) (qVal (eBin mNe f g)) := ft_cmpB (op_neD hu) scr_ne (nomark _) ha hb
/-- is None -/
def isN : D → Bool
  | .non => true
  | _ => false
def mIsN (x y : D) : Option D := match y with
  | .non => some (.bl (isN x))
  | _ => none
def mNotN (x y : D) : Option D := match y with
  | .non => some (.bl (!isN x))
  | _ => none
theorem isN_rep {H : Hp} {d : D} {v : V} (h : Rep K H d v) : decide (v = .non) = isN d := by
  cases d with
  | non => rw [show v = .non from h]; rfl
  | bl b => rw [show v = .bl b from h]; rfl
  | int i => rw [show v = .int i from h]; rfl
  | str x => rw [show v = .str x from h]; rfl
  | tup ds => obtain ⟨a, xs, e, _⟩ := h; rw [e]; rfl
  | lst ds => obtain ⟨a, xs, e, _⟩ := h; rw [e]; rfl
  | scr ns => obtain ⟨a, e, _⟩ := h; rw [e]; rfl
  | ob C nm ds => obtain ⟨Ca, a, dx, xs, _, e, _⟩ := h; rw [e]; rfl
  | dct ks ds => obtain ⟨a, xs, e, _⟩ := h; rw [e]; rfl
theorem scr_isN : ScR K mIsN (fun x y H Q => y = .non ∧ Q (.bl (decide (x = .non))) H) := fun x y H Q dx dy d rx ry e => by
  unfold mIsN at e
  split at e
  · cases e
    exact ⟨rfl, fun q => ⟨ry, by rw [isN_rep rx]; exact q⟩⟩
  · cases e
theorem scr_notN : ScR K mNotN (fun x y H Q => y = .non ∧ Q (.bl (!decide (x = .non))) H) := fun x y H Q dx dy d rx ry e => by
  unfold mNotN at e
  split at e
  · cases e
    exact ⟨rfl, fun q => ⟨ry, by rw [isN_rep rx]; exact q⟩⟩
  · cases e
theorem fe_isN (ha : FE X .rd a f) (hb : FE X .rd b g) : FE X kd (.Compare a [.Is] [b] pos) (eBin mIsN f g) := fe_cmpB op_isN scr_isN (nomark _) ha hb
theorem fe_notN (ha : FE X .rd a f) (hb : FE X .rd b g) : FE X kd (.Compare a [.IsNot] [b] pos) (eBin mNotN f g) := fe_cmpB op_notN scr_notN (nomark _) ha hb
theorem ft_isN (ha : FE X .rd a f) (hb : FE X .rd b g) : FT X (.Compare a [.Is] [b] pos) (qVal (eBin mIsN f g)) := ft_cmpB op_isN scr_isN (nomark _) ha hb
theorem ft_notN (ha : FE X .rd a f) (hb : FE X .rd b g) : FT X (.Compare a [.IsNot] [b] pos) (qVal (eBin mNotN f g)) := ft_cmpB op_notN scr_notN (nomark _) ha hb

/-! ### -x, and, or, not -/
def eNeg (f : EM) : EM := fun st => (f st).bind fun x => match x with
  | .int i => some (.int (-i))
  | _ => none
theorem fe_neg (ha : FE X .rd a f) : FE X kd (.UnaryOp .USub a pos) (eNeg f) := PE.weak (pe_un un_neg ha) fun σ H Q ⟨F, fps, st, d, r, ed, q⟩ => by
  unfold eNeg at ed
  cases ef : f st with
  | none => rw [ef] at ed; cases ed
  | some x =>
    rw [ef] at ed
    cases x with
    | int i =>
      cases ed
      exact ⟨F, fps, st, .int i, r, ef, fun v H1 s1 w => ⟨i, w, q _ H1 s1 (VR.sc (d := .int (-i)) rfl rfl)⟩⟩
    | _ => cases ed
def eAnd (f g : EM) : EM := fun st => (f st).bind fun x => match x with
  | .bl true => g st
  | .bl false => some (.bl false)
  | _ => none
def eOr (f g : EM) : EM := fun st => (f st).bind fun x => match x with
  | .bl true => some (.bl true)
  | .bl false => g st
  | _ => none
def eNot (f : EM) : EM := fun st => (f st).bind fun x => match x with
  | .bl b => some (.bl (!b))
  | _ => none
theorem fe_one {op} (ha : FE X kd a f) : FE X kd (.BoolOp op [a] pos) f := pe_one ha
theorem fe_and {rest : List Expr} (ha : FE X .rd a f) (hb : FE X kd (.BoolOp .And (b :: rest) pos) g) : FE X kd (.BoolOp .And (a :: b :: rest) pos) (eAnd f g) := PE.weak (pe_and ha hb) fun σ H Q ⟨F, fps, st, d, r, ed, q⟩ => by
  unfold eAnd at ed
  cases ef : f st with
  | none => rw [ef] at ed; cases ed
  | some x =>
    rw [ef] at ed
    cases x with
    | bl c =>
      refine ⟨F, fps, st, .bl c, r, ef, fun v H1 s1 w => ⟨c, w, ?_⟩⟩
      cases c with
      | true => exact ⟨F, fps, st, d, r.mono s1, ed, fun u H2 s2 w2 => q u H2 (s1.trans s2) (w2.early s1)⟩
      | false => cases ed; exact q _ H1 s1 (VR.sc (d := .bl false) rfl rfl)
    | _ => cases ed
theorem fe_or {rest : List Expr} (ha : FE X .rd a f) (hb : FE X kd (.BoolOp .Or (b :: rest) pos) g) : FE X kd (.BoolOp .Or (a :: b :: rest) pos) (eOr f g) := PE.weak (pe_or ha hb) fun σ H Q ⟨F, fps, st, d, r, ed, q⟩ => by
  unfold eOr at ed
  cases ef : f st with
  | none => rw [ef] at ed; cases ed
  | some x =>
    rw [ef] at ed
    cases x with
    | bl c =>
      refine ⟨F, fps, st, .bl c, r, ef, fun v H1 s1 w => ⟨c, w, ?_⟩⟩
      cases c with
      | false => exact ⟨F, fps, st, d, r.mono s1, ed, fun u H2 s2 w2 => q u H2 (s1.trans s2) (w2.early s1)⟩
      | true => cases ed; exact q _ H1 s1 (VR.sc (d := .bl true) rfl rfl)
    | _ => cases ed
theorem fe_not (ha : FE X .rd a f) : FE X kd (.UnaryOp .Not a pos) (eNot f) := PE.weak (pe_not ha) fun σ H Q ⟨F, fps, st, d, r, ed, q⟩ => by
  unfold eNot at ed
  cases ef : f st with
  | none => rw [ef] at ed; cases ed
  | some x =>
    rw [ef] at ed
    cases x with
    | bl c =>
      cases ed
      exact ⟨F, fps, st, .bl c, r, ef, fun v H1 s1 w => ⟨c, w, q _ H1 s1 (VR.sc (d := .bl (!c)) rfl rfl)⟩⟩
    | _ => cases ed
def qAnd (f g : TM) : TM := fun st => (f st).bind fun x => if x = true then g st else some false
def qOr (f g : TM) : TM := fun st => (f st).bind fun x => if x = true then some true else g st
def qNot (f : TM) : TM := fun st => (f st).map (!·)
theorem fw_and1 {t : TM} (ha : FT X a t) : FW X (.BoolOp .And [a] pos) t := pw_and1 ha
theorem fw_or1 {t : TM} (ha : FT X a t) : FW X (.BoolOp .Or [a] pos) t := pw_or1 ha
theorem fw_and {t u : TM} {rest : List Expr} (ha : FT X a t) (hb : FW X (.BoolOp .And (b :: rest) pos) u) : FW X (.BoolOp .And (a :: b :: rest) pos) (qAnd t u) := PW.weak (pw_and ha hb) fun σ H Q ⟨F, fps, st, d, r, ed, q⟩ => by
  unfold qAnd at ed
  cases ef : t st with
  | none => rw [ef] at ed; cases ed
  | some x =>
    rw [ef] at ed
    refine ⟨F, fps, st, x, r, ef, fun H1 s1 => ?_⟩
    cases x with
    | true => exact ⟨F, fps, st, d, r.mono s1, ed, fun H2 s2 => q H2 (s1.trans s2)⟩
    | false => cases ed; exact q H1 s1
theorem fw_or {t u : TM} {rest : List Expr} (ha : FT X a t) (hb : FW X (.BoolOp .Or (b :: rest) pos) u) : FW X (.BoolOp .Or (a :: b :: rest) pos) (qOr t u) := PW.weak (pw_or ha hb) fun σ H Q ⟨F, fps, st, d, r, ed, q⟩ => by
  unfold qOr at ed
  cases ef : t st with
  | none => rw [ef] at ed; cases ed
  | some x =>
    rw [ef] at ed
    refine ⟨F, fps, st, x, r, ef, fun H1 s1 => ?_⟩
    cases x with
    | false => exact ⟨F, fps, st, d, r.mono s1, ed, fun H2 s2 => q H2 (s1.trans s2)⟩
    | true => cases ed; exact q H1 s1
theorem ft_not {t : TM} (ha : FT X a t) : FT X (.UnaryOp .Not a pos) (qNot t) := PT.weak (pt_not ha) fun σ H Q ⟨F, fps, st, d, r, ed, q⟩ => by
  unfold qNot at ed
  cases ef : t st with
  | none => rw [ef] at ed; cases ed
  | some x =>
    rw [ef] at ed
    cases ed
    exact ⟨F, fps, st, x, r, ef, fun H1 s1 => q H1 s1⟩
def eIf (c : TM) (f g : EM) : EM := fun st => (c st).bind fun x => if x = true then f st else g st
theorem fe_if {t : TM} (hc : FT X c t) (ha : FE X kd a f) (hb : FE X kd b g) : FE X kd (.IfExp c a b pos) (eIf t f g) := PE.weak (pe_ifExp hc ha hb) fun σ H Q ⟨F, fps, st, d, r, ed, q⟩ => by
  unfold eIf at ed
  cases ef : t st with
  | none => rw [ef] at ed; cases ed
  | some x =>
    rw [ef] at ed
    refine ⟨F, fps, st, x, r, ef, fun H1 s1 => ?_⟩
    cases x with
    | true => exact ⟨F, fps, st, d, r.mono s1, ed, fun u H2 s2 w2 => q u H2 (s1.trans s2) (w2.early s1)⟩
    | false => exact ⟨F, fps, st, d, r.mono s1, ed, fun u H2 s2 w2 => q u H2 (s1.trans s2) (w2.early s1)⟩
end
end FL

namespace FL
open PySem PySem.Spec PyProof.Rows L2

section
variable {X : Cx} {kd kd1 kd2 : Kd} {e a b c : Expr} {es : List Expr} {f g h : EM} {pos : Pos} {K : PySem.W.Frag}

/-! ### argument lists, displays -/
def aNil : AM := fun _ => some []
def aCons (f : EM) (g : AM) : AM := fun st => (f st).bind fun x => (g st).bind fun xs => some (x :: xs)
theorem fa_nil : FA X kd [] aNil := PA.weak pa_nil fun σ H Q ⟨F, fps, st, d, r, ed, q⟩ => by
  cases ed
  exact q [] H (Same.refl H) VRL.nil
theorem fa_cons {g : AM} (ha : FE X kd e f) (hr : FA X kd es g) (hs : starEach (e :: es) X.env = (false, eval e X.env) :: starEach es X.env := by rfl) : FA X kd (e :: es) (aCons f g) := PA.weak (pa_cons ha hr hs) fun σ H Q ⟨F, fps, st, d, r, ed, q⟩ => by
  unfold aCons at ed
  obtain ⟨x, xs, e1, e2, e3⟩ := bind2 ed
  cases e3
  refine ⟨F, fps, st, x, r, e1, fun v H1 s1 w1 => ?_⟩
  obtain ⟨fps', r', w'⟩ := VR.seq r s1 w1
  exact ⟨F, fps', st, xs, r', e2, fun vs H2 s2 w2 => q (v :: vs) H2 (s1.trans s2) (w' H2 xs vs s2 w2)⟩
def lenOk (n : Nat) : Bool := decide (n ≤ 16777216)
theorem lenOk_le {n : Nat} (h : lenOk n = true) : n ≤ sizeLine := by
  have h := of_decide_eq_true h
  rw [sizeLine_eq]; exact h
def eTup (f : AM) : EM := fun st => (f st).bind fun ds => if lenOk ds.length = true then some (.tup ds) else none
def eLst (f : AM) : EM := fun st => (f st).bind fun ds => if lenOk ds.length = true then some (.lst ds) else none
theorem len_bind {m : List D → D} {o : Option (List D)} {d : D} (h : (o.bind fun ds => if lenOk ds.length = true then some (m ds) else none) = some d) : ∃ ds, o = some ds ∧ lenOk ds.length = true ∧ d = m ds := by
  cases o with
  | none => cases h
  | some ds =>
    have h' : (if lenOk ds.length = true then some (m ds) else none) = some d := h
    split at h'
    · cases h'; exact ⟨ds, rfl, by assumption, rfl⟩
    · cases h'
theorem same_upd {H : Hp} {p : Addr} {o : HO} (h : H p = none) : Same H (upd H p o) := fun b x e => by
  rw [upd_ne (ne_of_none e h)]
  exact e
theorem VRL.length {fps : Fps} {H H' : Hp} {ds : List D} {vs : List V} (h : VRL K fps H H' kd ds vs) : vs.length = ds.length := h.rd.length
/-- a tuple laid of values -/
theorem VR.newT {F : Fr} {fps : Fps} {σ : L2.St} {st : Sl} {H H1 : Hp} {ds : List D} {vs : List V} {p : Addr} (r : StR K F fps σ H st) (s1 : Same H H1) (w : VRL K fps H H1 kd ds vs) (np : H1 p = none) : VR K fps H (upd H1 p (.tup vs)) kd (.tup ds) (.ref p) := by
  cases kd with
  | rd => exact ⟨p, vs, rfl, .inl (.inl upd_same), RepL.mono (same_upd np) ds vs w⟩
  | ow k =>
    obtain ⟨fp, n, fr, w⟩ := w
    have hp : ∀ a, own2 fps fp a → a ≠ p := fun a z e => by
      subst e
      rcases z with m | z
      · obtain ⟨o, e, _⟩ := OwnL.isLst ds k vs fp w _ m
        rw [np] at e; cases e
      · exact (r.mono s1).there z np
    refine ⟨fp, n, fr, p, vs, rfl, .inl (.inl (hideP_some.mpr ⟨fun z => hp p z rfl, upd_same⟩)), OwnL.mono (hideP_mono (same_upd np) fun _ _ _ h => h) ds k vs fp (fun a m => upd_ne (hp a (.inl m))) w⟩
theorem fe_tup {es : List Expr} {f : AM} {x1} (ha : FA X kd es f) : FE X kd (.Tuple es x1 pos) (eTup f) := PE.weak (pe_tup ha) fun σ H Q ⟨F, fps, st, d, r, ed, q⟩ => by
  obtain ⟨ds, e1, e2, rfl⟩ := len_bind ed
  refine ⟨F, fps, st, ds, r, e1, fun vs H1 s1 w => ⟨by rw [VRL.length w]; exact lenOk_le e2, fun p np => q _ _ (s1.trans (same_upd np)) (VR.newT r s1 w np)⟩⟩
def Kd.up : Kd → Kd
  | .rd => .rd
  | .ow k => .ow (k + 1)
/-- a list laid of values -/
theorem VR.newL {F : Fr} {fps : Fps} {σ : L2.St} {st : Sl} {H H1 : Hp} {ds : List D} {vs : List V} {p : Addr} (r : StR K F fps σ H st) (s1 : Same H H1) (w : VRL K fps H H1 kd ds vs) (np : H1 p = none) : VR K fps H (upd H1 p (.lst vs)) kd.up (.lst ds) (.ref p) := by
  cases kd with
  | rd => exact ⟨p, vs, rfl, upd_same, RepL.mono (same_upd np) ds vs w⟩
  | ow k =>
    obtain ⟨fp, n, fr, w⟩ := w
    have hp : ∀ a, own2 fps fp a → a ≠ p := fun a z e => by
      subst e
      rcases z with m | z
      · obtain ⟨o, e, _⟩ := OwnL.isLst ds k vs fp w _ m
        rw [np] at e; cases e
      · exact (r.mono s1).there z np
    refine ⟨p :: fp, List.nodup_cons.mpr ⟨fun m => hp p (.inl m) rfl, n⟩, fun a m => ?_, p, vs, fp, rfl, upd_same, rfl, OwnL.mono (hideP_mono (same_upd np) fun a o e h z => ?_) ds k vs fp (fun a m => upd_ne (hp a (.inl m))) w⟩
    · rcases List.mem_cons.mp m with rfl | m
      · exact s1.free np
      · exact fr a m
    · rcases z with m | z
      · rcases List.mem_cons.mp m with rfl | m
        · rw [np] at e; cases e
        · exact h (.inl m)
      · exact h (.inr z)
theorem fe_lst {es : List Expr} {f : AM} (ha : FA X kd es f) : FE X kd.up (.List es pos) (eLst f) := PE.weak (pe_lst ha) fun σ H Q ⟨F, fps, st, d, r, ed, q⟩ => by
  obtain ⟨ds, e1, e2, rfl⟩ := len_bind ed
  refine ⟨F, fps, st, ds, r, e1, fun vs H1 s1 w => ⟨by rw [VRL.length w]; exact lenOk_le e2, fun p np => q _ _ (s1.trans (same_upd np)) (VR.newL r s1 w np)⟩⟩

/-! ### indices -/
def mIx : D → D → Option D
  | .lst ds, .int i => L2.atI ds i
  | .tup ds, .int i => L2.atI ds i
  | .scr ns, .int i => (L2.atI ns i).map D.int
  | .str z, .int i => if lenOk z.length = true then (L2.atI z.cps.toList i).map fun c => .str ⟨#[c]⟩ else none
  | _, _ => none
theorem atI_rep {H : Hp} {ds : List D} {vs : List V} {i : Int} {d : D} (r : RepL K H ds vs) (h : L2.atI ds i = some d) : ∃ v, L2.atI vs i = some v ∧ Rep K H d v := by
  unfold L2.atI at h ⊢
  rw [r.length]
  cases e : L2.ixN ds.length i with
  | none => rw [e] at h; cases h
  | some j =>
    rw [e] at h
    exact r.get h
theorem atI_map {α β : Type} {m : α → β} {ns : List α} {i : Int} : L2.atI (ns.map m) i = (L2.atI ns i).map m := by
  unfold L2.atI
  rw [List.length_map]
  cases L2.ixN ns.length i with
  | none => rfl
  | some j => exact List.getElem?_map
/-- what a read gives, in any part of the heap in which the whole is read -/
theorem mIx_rep {F H : Hp} (sF : Same F H) {x y : D} {vx vy : V} {d : D} (rx : Rep K F x vx) (ry : Rep K H y vy) (e : mIx x y = some d) : ∃ v, Rep K F d v ∧ ∀ Q : VK, Q v H → rIx K vx vy H Q := by
  unfold mIx at e
  split at e
  · rename_i ds i
    obtain ⟨a, xs, e1, e2, e3⟩ := rx
    obtain ⟨v, h1, h2⟩ := atI_rep e3 e
    exact ⟨v, h2, fun Q q => .inl ⟨a, xs, i, v, e1, ry, .inl (.inl (sF _ _ e2)), h1, q⟩⟩
  · rename_i ds i
    obtain ⟨a, xs, e1, e2, e3⟩ := rx
    obtain ⟨v, h1, h2⟩ := atI_rep e3 e
    exact ⟨v, h2, fun Q q => .inr (.inl ⟨a, xs, i, v, e1, ry, Same.sqt sF e2, h1, q⟩)⟩
  · rename_i ns i
    obtain ⟨a, e1, e2⟩ := rx
    cases en : L2.atI ns i with
    | none => rw [en] at e; cases e
    | some n =>
      rw [en] at e; cases e
      exact ⟨.int n, rfl, fun Q q => .inl ⟨a, ns.map V.int, i, .int n, e1, ry, (sF.sqf e2).sq, by rw [atI_map, en]; rfl, q⟩⟩
  · rename_i z i
    split at e
    · rename_i hl
      cases ec : L2.atI z.cps.toList i with
      | none => rw [ec] at e; cases e
      | some c =>
        rw [ec] at e; cases e
        exact ⟨.str ⟨#[c]⟩, rfl, fun Q q => .inr (.inr ⟨z, i, c, rx, ry, lenOk_le hl, ec, q⟩)⟩
    · cases e
  · cases e
theorem fe_ix (ha : FE X .rd a f) (hb : FE X .rd b g) (hs : PlainIx b := by intro _ _; rfl) : FE X .rd (.Subscript a b pos) (eBin mIx f g) := PE.weak (pe_ix ix_seq ha hb hs) fun σ H Q ⟨F, fps, st, d, r, ed, q⟩ => by
  obtain ⟨x, y, e1, e2, e3⟩ := bind2 ed
  refine ⟨F, fps, st, x, r, e1, fun v H1 s1 w1 => ⟨F, fps, st, y, r.mono s1, e2, fun u H2 s2 w2 => ?_⟩⟩
  obtain ⟨w, h1, h2⟩ := mIx_rep (Same.refl H2) (Rep.mono s2 x v w1) w2 e3
  exact h2 Q (q w H2 (s1.trans s2) h1)
theorem fe_ixS (ha : FE X (.ow 0) a f) (hb : FE X .rd b g) (hs : PlainIx b := by intro _ _; rfl) : FE X (.ow 0) (.Subscript a b pos) (eBin mIx f g) := PE.weak (pe_ix ix_seq ha hb hs) fun σ H Q ⟨F, fps, st, d, r, ed, q⟩ => by
  obtain ⟨x, y, e1, e2, e3⟩ := bind2 ed
  refine ⟨F, fps, st, x, r, e1, fun v H1 s1 w1 => ⟨F, fps, st, y, r.mono s1, e2, fun u H2 s2 w2 => ?_⟩⟩
  have w1 := VR.ow0 w1
  obtain ⟨w, h1, h2⟩ := mIx_rep hideP_same (Rep.mono (hideP_mono s2 fun _ _ _ h => h) x v w1) w2 e3
  exact h2 Q (q w H2 (s1.trans s2) (VR.mk0 h1))

/-! ### slices -/
abbrev OM := Sl → Option (Option Int)
def tFO (K : PySem.W.Frag) (f : OM) : TO := fun σ H Q => ∃ F fps st o, StR K F fps σ H st ∧ f st = some o ∧ ∀ H', Same H H' → Q o H'
abbrev FO (X : Cx) (e : Option Expr) (f : OM) : Prop := PO X e (tFO X.K f)
theorem PO.weak {X : Cx} {e : Option Expr} {t t' : TO} (h : PO X e t) (hw : ∀ σ H Q, t' σ H Q → t σ H Q) : PO X e t' := ⟨fun pins s σ H Q I q => h.run pins s σ H Q I (hw σ H Q q)⟩
def oNone : OM := fun _ => some none
def oSome (f : EM) : OM := fun st => (f st).bind fun x => match x with
  | .int i => some (some i)
  | _ => none
theorem fo_none : FO X none oNone := PO.weak po_none fun σ H Q ⟨F, fps, st, d, r, ed, q⟩ => by
  cases ed
  exact q H (Same.refl H)
theorem fo_some (he : FE X .rd e f) : FO X (some e) (oSome f) := PO.weak (po_some he) fun σ H Q ⟨F, fps, st, d, r, ed, q⟩ => by
  unfold oSome at ed
  cases ef : f st with
  | none => rw [ef] at ed; cases ed
  | some x =>
    rw [ef] at ed
    cases x with
    | int i => cases ed; exact ⟨F, fps, st, .int i, r, ef, fun v H1 s1 w => ⟨i, w, q H1 s1⟩⟩
    | _ => cases ed
def cutG {α : Type} (xs : List α) (lo hi : Option Int) : List α := (xs.drop (HT.sIx xs.length 0 lo)).take (HT.sIx xs.length xs.length hi - HT.sIx xs.length 0 lo)
def eSl (m : D → Option Int → Option Int → Option D) (f : EM) (lo hi : OM) : EM := fun st => (f st).bind fun x => (lo st).bind fun l => (hi st).bind fun u => m x l u
theorem bind3 {α β γ δ : Type} {o : Option α} {p : Option β} {s : Option γ} {m : α → β → γ → Option δ} {d : δ} (h : (o.bind fun x => p.bind fun y => s.bind fun z => m x y z) = some d) : ∃ x y z, o = some x ∧ p = some y ∧ s = some z ∧ m x y z = some d := by
  cases o with
  | none => cases h
  | some x =>
    cases p with
    | none => cases h
    | some y =>
      cases s with
      | none => cases h
      | some z => exact ⟨x, y, z, rfl, rfl, rfl, h⟩
def mSlL : D → Option Int → Option Int → Option D
  | .lst ds, lo, hi => some (.lst (cutG ds lo hi))
  | .scr ns, lo, hi => some (.lst ((cutG ns lo hi).map D.int))
  | _, _, _ => none
/-- .. whose items have no lists -/
def mSlF : D → Option Int → Option Int → Option D
  | .lst ds, lo, hi => if fullL (cutG ds lo hi) 0 = true then some (.lst (cutG ds lo hi)) else none
  | .scr ns, lo, hi => some (.lst ((cutG ns lo hi).map D.int))
  | _, _, _ => none
def mSlT : D → Option Int → Option Int → Option D
  | .tup ds, lo, hi => if HT.sIx ds.length 0 lo = 0 ∧ HT.sIx ds.length ds.length hi = ds.length then none else some (.tup (cutG ds lo hi))
  | _, _, _ => none
theorem cutG_map {α β : Type} {m : α → β} {ns : List α} {lo hi : Option Int} : cutG (ns.map m) lo hi = (cutG ns lo hi).map m := by
  unfold cutG
  rw [List.length_map, List.map_take, List.map_drop]
theorem RepL.cut {H : Hp} {ds : List D} {vs : List V} (r : RepL K H ds vs) (lo hi : Option Int) : RepL K H (cutG ds lo hi) (cutV vs lo hi) := by
  unfold cutG cutV
  rw [r.length]
  exact RepL.take _ (RepL.drop _ r)
theorem fullL_ints : ∀ (ns : List Int) (k : Nat), fullL (ns.map D.int) k = true
  | [], _ => rfl
  | _ :: ns, k => fullL_ints ns k
/-- a new list of shared items; of items without lists -/
theorem VR.newS {F : Fr} {fps : Fps} {σ : L2.St} {st : Sl} {H H1 : Hp} {ds : List D} {vs : List V} {p : Addr} (r : StR K F fps σ H st) (s1 : Same H H1) (w : RepL K (hideP H1 (own fps)) ds vs) (np : H1 p = none) : VR K fps H (upd H1 p (.lst vs)) (.ow 1) (.lst ds) (.ref p) :=
  VR.newL (kd := .ow 0) r s1 ⟨[], List.nodup_nil, fun a m => (by cases m), OwnL.shared ds vs (RepL.mono (hideP_mono (Same.refl _) fun a o _ h z => h (z.resolve_left fun m => by cases m)) ds vs w)⟩ np
theorem VR.newF {F : Fr} {fps : Fps} {σ : L2.St} {st : Sl} {H H1 : Hp} {ds : List D} {vs : List V} {p : Addr} (r : StR K F fps σ H st) (s1 : Same H H1) (w : RepL K H1 ds vs) (fl : fullL ds 0 = true) (np : H1 p = none) : VR K fps H (upd H1 p (.lst vs)) (.ow 1) (.lst ds) (.ref p) :=
  VR.newS r s1 (RepL.flat (r.mono s1).keeps ds vs fl w) np
theorem tF_sl {r : V → Option Int → Option Int → Hp → VK → Prop} {m : D → Option Int → Option Int → Option D} {lo hi : OM} {σ : L2.St} {H : Hp} {Q : VK}
    (hr : ∀ F fps st x v l u d H2, StR K F fps σ H st → Same H H2 → VR K fps H H2 kd1 x v → m x l u = some d → (∀ w H', Same H2 H' → VR K fps H H' kd d w → Q w H') → r v l u H2 Q)
    (h : tF K kd (eSl m f lo hi) σ H Q) : tSl r (tF K kd1 f) (tFO K lo) (tFO K hi) σ H Q := by
  obtain ⟨F, fps, st, d, rr, ed, q⟩ := h
  obtain ⟨x, l, u, e1, e2, e3, e4⟩ := bind3 ed
  exact ⟨F, fps, st, x, rr, e1, fun v H1 s1 w1 => ⟨F, fps, st, l, rr.mono s1, e2, fun H2 s2 => ⟨F, fps, st, u, rr.mono (s1.trans s2), e3, fun H3 s3 =>
    hr F fps st x v l u d H3 rr (s1.trans (s2.trans s3)) (w1.grow (s2.trans s3)) e4 fun w H' s' w' => q w H' ((s1.trans (s2.trans s3)).trans s') w'⟩⟩⟩
variable {lo hi : Option Expr} {fl fh : OM} {p2 : Pos}
theorem fe_sl (he : FE X .rd e f) (hl : FO X lo fl) (hh : FO X hi fh) : FE X .rd (.Subscript e (.Slice lo hi none p2) pos) (eSl mSlL f fl fh) := PE.weak (pe_slice sl_list he hl hh) fun σ H Q => tF_sl fun F fps st x v l u d H2 r s2 w e q => by
  unfold mSlL at e
  split at e
  · cases e
    obtain ⟨a, xs, e1, e2, e3⟩ := w
    exact ⟨a, xs, e1, .inl (.inl e2), fun p np => q _ _ (same_upd np) (VR.newL (kd := .rd) r s2 (e3.cut l u) np)⟩
  · cases e
    obtain ⟨a, e1, e2⟩ := w
    refine ⟨a, _, e1, e2.sq, fun p np => q _ _ (same_upd np) (VR.newL (kd := .rd) r s2 ?_ np)⟩
    rw [show cutV (List.map V.int _) l u = (cutG _ l u).map V.int from cutG_map]
    exact RepL.intsI _
  · cases e
theorem fe_slF (he : FE X .rd e f) (hl : FO X lo fl) (hh : FO X hi fh) : FE X (.ow 1) (.Subscript e (.Slice lo hi none p2) pos) (eSl mSlF f fl fh) := PE.weak (pe_slice sl_list he hl hh) fun σ H Q => tF_sl fun F fps st x v l u d H2 r s2 w e q => by
  unfold mSlF at e
  split at e
  · split at e
    · cases e
      obtain ⟨a, xs, e1, e2, e3⟩ := w
      exact ⟨a, xs, e1, .inl (.inl e2), fun p np => q _ _ (same_upd np) (VR.newF r s2 (e3.cut l u) (by assumption) np)⟩
    · cases e
  · cases e
    obtain ⟨a, e1, e2⟩ := w
    refine ⟨a, _, e1, e2.sq, fun p np => q _ _ (same_upd np) (VR.newF r s2 ?_ (fullL_ints _ _) np)⟩
    rw [show cutV (List.map V.int _) l u = (cutG _ l u).map V.int from cutG_map]
    exact RepL.intsI _
  · cases e
theorem fe_slS (he : FE X (.ow 0) e f) (hl : FO X lo fl) (hh : FO X hi fh) : FE X (.ow 1) (.Subscript e (.Slice lo hi none p2) pos) (eSl mSlL f fl fh) := PE.weak (pe_slice sl_list he hl hh) fun σ H Q => tF_sl fun F fps st x v l u d H2 r s2 w e q => by
  have w := VR.ow0 w
  unfold mSlL at e
  split at e
  · cases e
    obtain ⟨a, xs, e1, e2, e3⟩ := w
    exact ⟨a, xs, e1, .inl (.inl (hideP_same _ _ e2)), fun p np => q _ _ (same_upd np) (VR.newS r s2 (e3.cut l u) np)⟩
  · cases e
    obtain ⟨a, e1, e2⟩ := w
    refine ⟨a, _, e1, (hideP_same.sqf e2).sq, fun p np => q _ _ (same_upd np) (VR.newF r s2 ?_ (fullL_ints _ _) np)⟩
    rw [show cutV (List.map V.int _) l u = (cutG _ l u).map V.int from cutG_map]
    exact RepL.intsI _
  · cases e
/-- t[lo:hi] of a tuple -/
theorem fe_slT (he : FE X .rd e f) (hl : FO X lo fl) (hh : FO X hi fh) : FE X .rd (.Subscript e (.Slice lo hi none p2) pos) (eSl mSlT f fl fh) := PE.weak (pe_slice sl_tup he hl hh) fun σ H Q => tF_sl fun F fps st x v l u d H2 r s2 w e q => by
  unfold mSlT at e
  split at e
  · split at e
    · cases e
    · rename_i hn
      cases e
      obtain ⟨a, xs, e1, e2, e3⟩ := w
      exact ⟨a, xs, e1, e2, by rw [e3.length]; exact hn, fun p np => q _ _ (same_upd np) (VR.newT (kd := .rd) r s2 (e3.cut l u) np)⟩
  · cases e

/-! ### built-in calls -/
def eCB (m : List D → Option D) (f : AM) : EM := fun st => (f st).bind m
/-- a built-in whose answer is a scalar -/
def ScC (K : PySem.W.Frag) (m : List D → Option D) (r : List V → Hp → VK → Prop) : Prop := ∀ (xs : List V) (H : Hp) (Q : VK) (ds : List D) (d : D), RepL K H ds xs → m ds = some d → sc d = true ∧ (Q (scV d) H → r xs H Q)
theorem tF_cb {m : List D → Option D} {r : List V → Hp → VK → Prop} {f : AM} (hr : ScC K m r) {σ : L2.St} {H : Hp} {Q : VK} (h : tF K kd (eCB m f) σ H Q) : tCB r (tFA K .rd f) σ H Q := by
  obtain ⟨F, fps, st, d, rr, ed, q⟩ := h
  unfold eCB at ed
  cases ef : f st with
  | none => rw [ef] at ed; cases ed
  | some ds =>
    rw [ef] at ed
    refine ⟨F, fps, st, ds, rr, ef, fun vs H1 s1 w => ?_⟩
    obtain ⟨h1, h2⟩ := hr vs H1 Q ds d w ed
    exact h2 (q _ H1 s1 (VR.sc h1 rfl))
theorem RepL.one_inv {H : Hp} {d : D} {vs : List V} (h : RepL K H [d] vs) : ∃ v, vs = [v] ∧ Rep K H d v := by
  obtain ⟨v, r, e, h1, h2⟩ := h
  rw [show r = [] from h2] at e
  exact ⟨v, e, h1⟩
theorem RepL.two_inv {H : Hp} {d d' : D} {vs : List V} (h : RepL K H [d, d'] vs) : ∃ v v', vs = [v, v'] ∧ Rep K H d v ∧ Rep K H d' v' := by
  obtain ⟨v, r, e, h1, h2⟩ := h
  obtain ⟨v', e', h3⟩ := h2.one_inv
  subst e'
  exact ⟨v, v', e, h1, h3⟩
def mLen : List D → Option D
  | [.lst ds] => some (.int ds.length)
  | [.tup ds] => some (.int ds.length)
  | [.scr ns] => some (.int ns.length)
  | [.str z] => if lenOk z.length = true then some (.int z.length) else none
  | _ => none
theorem scc_len : ScC K mLen (fun xs H Q => ∃ x n, xs = [x] ∧ LenV K x H n ∧ Q (.int n) H) := fun xs H Q ds d r e => by
  unfold mLen at e
  split at e
  · cases e
    obtain ⟨v, ev, a, ys, e1, e2, e3⟩ := r.one_inv
    subst e1
    refine ⟨rfl, fun q => ⟨_, _, ev, .inl ⟨ys, .inl (.inl e2), ?_⟩, q⟩⟩
    exact e3.length.symm
  · cases e
    obtain ⟨v, ev, a, ys, e1, e2, e3⟩ := r.one_inv
    subst e1
    refine ⟨rfl, fun q => ⟨_, _, ev, .inr ⟨ys, e2, ?_⟩, q⟩⟩
    exact e3.length.symm
  · cases e
    obtain ⟨v, ev, a, e1, e2⟩ := r.one_inv
    subst e1
    refine ⟨rfl, fun q => ⟨_, _, ev, .inl ⟨_, e2.sq, ?_⟩, q⟩⟩
    exact (List.length_map _).symm
  · split at e
    · cases e
      obtain ⟨v, ev, e1⟩ := r.one_inv
      have e1 : v = .str _ := e1
      subst e1
      exact ⟨rfl, fun q => ⟨_, _, ev, ⟨lenOk_le (by assumption), rfl⟩, q⟩⟩
    · cases e
  · cases e
variable {p : Pos} {x : Str} {fa : AM}
theorem fe_len (hg : Gl X "len") (hm : X.mg "len" = none) (ha : FA X .rd (e :: es) fa) (he : starEach (e :: es) X.env = (false, eval e X.env) :: starEach es X.env := by rfl) (hpl : (backTo pos (starEach es X.env)).any (·.1) = false := by rfl) :
    FE X kd (.Call (.Name "len" p) (e :: es) [] pos) (eCB mLen fa) := PE.weak (pe_callB call_len hg hm PySem.boot_len ha (by decide) (by decide) he hpl) fun _ _ _ => tF_cb scc_len
def tyD : D → Option String
  | .non => some "NoneType"
  | .bl _ => some "bool"
  | .int _ => some "int"
  | .str _ => some "str"
  | .tup _ => some "tuple"
  | .lst _ => some "list"
  | .scr _ => some "list"
  | .dct _ _ => some "dict"
  | .ob _ _ _ => none
theorem tyD_ty {H : Hp} {d : D} {v : V} {t : String} (h : Rep K H d v) (e : tyD d = some t) : TyX K H v (.type t) := by
  cases d with
  | non => cases e; rw [show v = .non from h]; exact .base .non
  | bl b => cases e; rw [show v = .bl b from h]; exact .base (.bl b)
  | int i => cases e; rw [show v = .int i from h]; exact .base (.int i)
  | str x => cases e; rw [show v = .str x from h]; exact .base (.str x)
  | tup ds =>
    cases e
    obtain ⟨a, xs, e, q, _⟩ := h
    subst e
    rcases q with (q | ⟨o, q⟩) | ⟨o, its, n, q, hc, _⟩
    · exact .base (.tup q)
    · exact .fTuple q
    · exact .kTuple q hc
  | lst ds => cases e; obtain ⟨a, xs, e, q, _⟩ := h; subst e; exact .base (.lst q)
  | scr ns =>
    cases e
    obtain ⟨a, e, q⟩ := h
    subst e
    rcases q with ⟨o, q⟩ | ⟨o, its, n, q, hc, _⟩
    · exact .base (.frz q)
    · exact .kList q hc
  | ob C nm ds => cases e
  | dct ks ds => cases e; obtain ⟨a, xs, e, q, _⟩ := h; subst e; exact .base (.dK q)
/-- isinstance(x, T), T a built-in class -/
def eIsi (T : String) (f : EM) : EM := fun st => (f st).bind fun d => (tyD d).bind fun t => (kitB t T).map D.bl
theorem fe_isi {T : String} {pT : Pos} {y : Str} (hg : Gl X "isinstance") (hm : X.mg "isinstance" = none) (hy : PE X (.Name y pT) (tC (.ty T))) (ha : FE X .rd e f)
    (he : starEach [e, .Name y pT] X.env = (false, eval e X.env) :: starEach [.Name y pT] X.env := by rfl) (he2 : starEach [.Name y pT] X.env = (false, eval (.Name y pT) X.env) :: starEach [] X.env := by rfl) (hpl : (backTo pos (starEach [.Name y pT] X.env)).any (·.1) = false := by rfl) :
    FE X kd (.Call (.Name "isinstance" p) [e, .Name y pT] [] pos) (eIsi T f) := PE.weak (pe_callB call_isi hg hm (by decide +kernel) (pa_cons ha (pa_cons hy pa_nil he2) he) (by decide) (by decide) he hpl) fun σ H Q ⟨F, fps, st, d, r, ed, q⟩ => by
  unfold eIsi at ed
  cases ef : f st with
  | none => rw [ef] at ed; cases ed
  | some x =>
    rw [ef] at ed
    have ed : ((tyD x).bind fun t => (kitB t T).map D.bl) = some d := ed
    cases et : tyD x with
    | none => rw [et] at ed; cases ed
    | some t =>
      rw [et] at ed
      have ed : (kitB t T).map D.bl = some d := ed
      cases ek : kitB t T with
      | none => rw [ek] at ed; cases ed
      | some b =>
        rw [ek] at ed; cases ed
        exact ⟨F, fps, st, x, r, ef, fun v H1 s1 w => ⟨v, .ty T, .type t, .type T, b, rfl, .ty T, tyD_ty w et, kit_ty ek, q _ H1 s1 (VR.sc (d := .bl b) rfl rfl)⟩⟩
def eB (m : D → Option D) (f : EM) : EM := fun st => (f st).bind m
/-- list(x) -/
def mList : List D → Option D
  | [.lst ds] => some (.lst ds)
  | [.tup ds] => some (.lst ds)
  | [.scr ns] => some (.lst (ns.map D.int))
  | _ => none
def mListS (d : D) : Option D := mList [d]
def chkL : D → Option D
  | .lst ds => if fullL ds 0 = true then some (.lst ds) else none
  | _ => none
def mListF (d : D) : Option D := (mList [d]).bind chkL
theorem seq_of {F H : Hp} (sF : Same F H) {d d' : D} {v : V} (h : Rep K F d v) (e : mList [d] = some d') : ∃ p ys ds, v = .ref p ∧ (SqL K H p ys ∨ SqT K H p ys) ∧ d' = .lst ds ∧ RepL K F ds ys := by
  unfold mList at e
  split at e
  · rename_i h'; cases h'; cases e
    obtain ⟨a, xs, e, q, r⟩ := h
    exact ⟨a, xs, _, e, .inl (.inl (.inl (sF _ _ q))), rfl, r⟩
  · rename_i h'; cases h'; cases e
    obtain ⟨a, xs, e, q, r⟩ := h
    exact ⟨a, xs, _, e, .inr (Same.sqt sF q), rfl, r⟩
  · rename_i h'; cases h'; cases e
    obtain ⟨a, e, q⟩ := h
    exact ⟨a, _, _, e, .inl (sF.sqf q).sq, rfl, RepL.intsI _⟩
  · cases e
theorem fe_list (hg : Gl X "list") (hm : X.mg "list" = none) (ha : FE X .rd e f) (he : starEach [e] X.env = (false, eval e X.env) :: starEach [] X.env := by rfl) :
    FE X (.ow 1) (.Call (.Name "list" p) [e] [] pos) (eB mListF f) := PE.weak (pe_callTy call_list_of hg hm (by decide +kernel) (pa_cons ha pa_nil he) (by decide) (by decide) he rfl) fun σ H Q ⟨F, fps, st, d, r, ed, q⟩ => by
  unfold eB at ed
  cases ef : f st with
  | none => rw [ef] at ed; cases ed
  | some x =>
    rw [ef] at ed
    have ed : (mList [x]).bind chkL = some d := ed
    cases el : mList [x] with
    | none => rw [el] at ed; cases ed
    | some y =>
      rw [el] at ed
      refine ⟨F, fps, st, x, r, ef, fun v H1 s1 w => ?_⟩
      obtain ⟨p, ys, ds, e1, e2, e3, e4⟩ := seq_of (Same.refl H1) w el
      subst e3
      have ed : (if fullL ds 0 = true then some (D.lst ds) else none) = some d := ed
      split at ed
      · cases ed
        exact ⟨p, ys, by rw [e1], e2, fun l nl => q _ _ (s1.trans (same_upd nl)) (VR.newF r s1 e4 (by assumption) nl)⟩
      · cases ed
theorem fe_listS (hg : Gl X "list") (hm : X.mg "list" = none) (ha : FE X (.ow 0) e f) (he : starEach [e] X.env = (false, eval e X.env) :: starEach [] X.env := by rfl) :
    FE X (.ow 1) (.Call (.Name "list" p) [e] [] pos) (eB mListS f) := PE.weak (pe_callTy call_list_of hg hm (by decide +kernel) (pa_cons ha pa_nil he) (by decide) (by decide) he rfl) fun σ H Q ⟨F, fps, st, d, r, ed, q⟩ => by
  unfold eB at ed
  cases ef : f st with
  | none => rw [ef] at ed; cases ed
  | some x =>
    rw [ef] at ed
    refine ⟨F, fps, st, x, r, ef, fun v H1 s1 w => ?_⟩
    obtain ⟨p, ys, ds, e1, e2, e3, e4⟩ := seq_of hideP_same (VR.ow0 w) ed
    subst e3
    exact ⟨p, ys, by rw [e1], e2, fun l nl => q _ _ (s1.trans (same_upd nl)) (VR.newS r s1 e4 nl)⟩
/-- tuple(xs) of a list -/
def mTuple : D → Option D
  | .lst ds => some (.tup ds)
  | _ => none
theorem fe_tuple (hg : Gl X "tuple") (hm : X.mg "tuple" = none) (ha : FE X .rd e f) (he : starEach [e] X.env = (false, eval e X.env) :: starEach [] X.env := by rfl) :
    FE X .rd (.Call (.Name "tuple" p) [e] [] pos) (eB mTuple f) := PE.weak (pe_callTy call_tuple_of hg hm (by decide +kernel) (pa_cons ha pa_nil he) (by decide) (by decide) he rfl) fun σ H Q ⟨F, fps, st, d, r, ed, q⟩ => by
  unfold eB at ed
  cases ef : f st with
  | none => rw [ef] at ed; cases ed
  | some x =>
    rw [ef] at ed
    refine ⟨F, fps, st, x, r, ef, fun v H1 s1 w => ?_⟩
    have ed : mTuple x = some d := ed
    unfold mTuple at ed
    split at ed
    · cases ed
      obtain ⟨a, xs, e1, e2, e3⟩ := w
      exact ⟨a, xs, by rw [e1], .inl ⟨.inl (.inl e2), fun l nl => q _ _ (s1.trans (same_upd nl)) (VR.newT (kd := .rd) r s1 e3 nl)⟩⟩
    · cases ed
/-- xs + ys -/
def mCat (x y : D) : Option D := match x, y with
  | .lst ds, .lst es => if lenOk (ds.length + es.length) = true then some (.lst (ds ++ es)) else none
  | _, _ => none
theorem mCat_rep {F H : Hp} (sF : Same F H) {x y d : D} {vx vy : V} (rx : Rep K F x vx) (ry : Rep K F y vy) (e : mCat x y = some d) : ∃ l b xs zs ds, vx = .ref l ∧ vy = .ref b ∧ H l = some (.lst xs) ∧ H b = some (.lst zs) ∧ xs.length + zs.length ≤ sizeLine ∧ d = .lst ds ∧ RepL K F ds (xs ++ zs) := by
  unfold mCat at e
  split at e
  · split at e
    · rename_i hl
      cases e
      obtain ⟨a, xs, e1, e2, e3⟩ := rx
      obtain ⟨b, ys, f1, f2, f3⟩ := ry
      exact ⟨a, b, xs, ys, _, e1, f1, sF _ _ e2, sF _ _ f2, by rw [e3.length, f3.length]; exact lenOk_le hl, rfl, e3.app f3⟩
    · cases e
  · cases e
theorem fe_cat (ha : FE X .rd a f) (hb : FE X .rd b g) : FE X (.ow 1) (.BinOp a .Add b pos) (eB chkL (eBin mCat f g)) := PE.weak (pe_op op_cat ha hb) fun σ H Q ⟨F, fps, st, d, r, ed, q⟩ => by
  unfold eB at ed
  cases ef : eBin mCat f g st with
  | none => rw [ef] at ed; cases ed
  | some z =>
    rw [ef] at ed
    obtain ⟨x, y, e1, e2, e3⟩ := bind2 ef
    refine ⟨F, fps, st, x, r, e1, fun v H1 s1 w1 => ⟨F, fps, st, y, r.mono s1, e2, fun u H2 s2 w2 => ?_⟩⟩
    obtain ⟨l, b, xs, zs, ds, h1, h2, h3, h4, h5, h6, h7⟩ := mCat_rep (Same.refl H2) (Rep.mono s2 x v w1) w2 e3
    subst h6
    have ed : (if fullL ds 0 = true then some (D.lst ds) else none) = some d := ed
    split at ed
    · cases ed
      exact ⟨l, b, xs, zs, h1, h2, h3, h4, h5, fun p np => q _ _ ((s1.trans s2).trans (same_upd np)) (VR.newF r (s1.trans s2) h7 (by assumption) np)⟩
    · cases ed
theorem fe_catS (ha : FE X (.ow 0) a f) (hb : FE X (.ow 0) b g) : FE X (.ow 1) (.BinOp a .Add b pos) (eBin mCat f g) := PE.weak (pe_op op_cat ha hb) fun σ H Q ⟨F, fps, st, d, r, ed, q⟩ => by
  obtain ⟨x, y, e1, e2, e3⟩ := bind2 ed
  refine ⟨F, fps, st, x, r, e1, fun v H1 s1 w1 => ⟨F, fps, st, y, r.mono s1, e2, fun u H2 s2 w2 => ?_⟩⟩
  obtain ⟨l, b, xs, zs, ds, h1, h2, h3, h4, h5, h6, h7⟩ := mCat_rep hideP_same (Rep.mono (hideP_mono s2 fun _ _ _ h => h) x v (VR.ow0 w1)) (VR.ow0 w2) e3
  subst h6
  exact ⟨l, b, xs, zs, h1, h2, h3, h4, h5, fun p np => q _ _ ((s1.trans s2).trans (same_upd np)) (VR.newS r (s1.trans s2) h7 np)⟩
end
end FL

namespace FL
open PySem PySem.Spec PyProof.Rows L2

theorem PI.weak {X : Cx} {tg e : Expr} {t t' : TI} (h : PI X tg e t) (hw : ∀ σ H Q, t' σ H Q → t σ H Q) : PI X tg e t' := ⟨fun pins s σ H Q I q => h.run pins s σ H Q I (hw σ H Q q)⟩
theorem PS.weak {X : Cx} {e : Stmt} {t t' : TS} (h : PS X e t) (hw : ∀ D σ H, t' D σ H → t D σ H) : PS X e t' := ⟨fun pins s σ H D I q => h.run pins s σ H D I (hw D σ H q)⟩
theorem PSs.weak {X : Cx} {e : List Stmt} {t t' : TS} (h : PSs X e t) (hw : ∀ D σ H, t' D σ H → t D σ H) : PSs X e t' := ⟨fun pins s σ H D I q => h.run pins s σ H D I (hw D σ H q)⟩
theorem PG.weak {X : Cx} {e : Expr} {t t' : TG} (h : PG X e t) (hw : ∀ v σ H Q, t' v σ H Q → t v σ H Q) : PG X e t' := ⟨fun pins s σ H v u Q I r q => h.run pins s σ H v u Q I r (hw v σ H Q q)⟩
theorem PGs.weak {X : Cx} {e : List Expr} {t t' : TGs} (h : PGs X e t) (hw : ∀ v σ H Q, t' v σ H Q → t v σ H Q) : PGs X e t' := ⟨fun pins s σ H v u Q I r q => h.run pins s σ H v u Q I r (hw v σ H Q q)⟩

/-! ### what a loop walks -/
abbrev IM := Sl → Option (List D)
def Deliver (K : PySem.W.Frag) (G : Hp) (J : It) (ds : List D) : Prop := ∀ (i : Nat) (H : Hp) (A : Addr → Prop), (∀ a, A a → H a ≠ none) → Same G (hideP H A) →
  (ds.length ≤ i → J.stop i H) ∧ ∀ d, ds[i]? = some d → J.go i H ∧ ∀ x H', J.yld i H x H' → Same H H' ∧ Rep K (hideP H' A) d x
def tFI (K : PySem.W.Frag) (f : IM) : TI := fun σ H R => ∃ F fps st ds, StR K F fps σ H st ∧ f st = some ds ∧ ∀ J H', Same H H' → Deliver K (hideP H' (own fps)) J ds → R J H'
abbrev FI (X : Cx) (tg e : Expr) (f : IM) : Prop := PI X tg e (tFI X.K f)
section
variable {X : Cx} {kd kd1 kd2 : Kd} {e a b c tg : Expr} {es : List Expr} {f g h : EM} {fa : AM} {pos p : Pos} {K : PySem.W.Frag}
def itsL : D → Option (List D)
  | .lst ds => some ds
  | .scr ns => some (ns.map D.int)
  | _ => none
def itsT : D → Option (List D)
  | .tup ds => some ds
  | _ => none
def iB (m : D → Option (List D)) (f : EM) : IM := fun st => (f st).bind m
theorem fi_list (he : FE X (.ow 0) e f) : FI X tg e (iB itsL f) := PI.weak (pi_list he) fun σ H R ⟨F, fps, st, ds, r, ed, q⟩ => by
  unfold iB at ed
  cases ef : f st with
  | none => rw [ef] at ed; cases ed
  | some d =>
    rw [ef] at ed
    refine ⟨F, fps, st, d, r, ef, fun v H1 s1 w => ?_⟩
    replace w := VR.ow0 w
    replace ed : itsL d = some ds := ed
    unfold itsL at ed
    split at ed
    · cases ed
      obtain ⟨a, xs, e1, e2, e3⟩ := w
      refine ⟨a, e1, ⟨xs, .inl (.inl (hideP_same _ _ e2))⟩, q _ H1 s1 (fun i H A hA s => ?_)⟩
      have ea : H a = some (.lst xs) := (s.trans hideP_same) _ _ e2
      refine ⟨fun h => ⟨xs, .inl (.inl ea), by rw [e3.length]; exact h⟩, fun d e => ?_⟩
      obtain ⟨v, h1, h2⟩ := e3.get e
      exact ⟨⟨xs, v, .inl (.inl ea), h1⟩, fun x H' ⟨y1, y2⟩ => by
        subst y1
        have := y2 xs (.inl (.inl ea))
        rw [h1] at this; cases this
        exact ⟨Same.refl _, Rep.mono s d v h2⟩⟩
    · rename_i ns
      cases ed
      obtain ⟨a, e1, e2⟩ := w
      refine ⟨a, e1, ⟨ns.map V.int, (hideP_same.sqf e2).sq⟩, q _ H1 s1 (fun i H A hA s => ?_)⟩
      have ea : SqL X.K H a (ns.map V.int) := ((s.trans hideP_same).sqf e2).sq
      refine ⟨fun h => ⟨_, ea, by rw [List.length_map] at h ⊢; exact h⟩, fun d e => ?_⟩
      rw [List.getElem?_map] at e
      cases en : ns[i]? with
      | none => rw [en] at e; cases e
      | some n =>
        rw [en] at e; cases e
        have h1 : (ns.map V.int)[i]? = some (.int n) := by rw [List.getElem?_map, en]; rfl
        exact ⟨⟨_, _, ea, h1⟩, fun x H' ⟨y1, y2⟩ => by
          subst y1
          have := y2 _ ea
          rw [h1] at this; cases this
          exact ⟨Same.refl _, rfl⟩⟩
    · cases ed
theorem fi_tup (he : FE X (.ow 0) e f) : FI X tg e (iB itsT f) := PI.weak (pi_tup he) fun σ H R ⟨F, fps, st, ds, r, ed, q⟩ => by
  unfold iB at ed
  cases ef : f st with
  | none => rw [ef] at ed; cases ed
  | some d =>
    rw [ef] at ed
    refine ⟨F, fps, st, d, r, ef, fun v H1 s1 w => ?_⟩
    have w := VR.ow0 w
    have ed : itsT d = some ds := ed
    unfold itsT at ed
    split at ed
    · cases ed
      obtain ⟨a, xs, e1, e2, e3⟩ := w
      refine ⟨a, e1, ⟨xs, Same.sqt hideP_same e2⟩, q _ H1 s1 (fun i H A hA s => ?_)⟩
      have ea : SqT X.K H a xs := Same.sqt (s.trans hideP_same) e2
      refine ⟨fun h => ⟨xs, ea, by rw [e3.length]; exact h⟩, fun d e => ?_⟩
      obtain ⟨v, h1, h2⟩ := e3.get e
      exact ⟨⟨xs, v, ea, h1⟩, fun x H' ⟨y1, y2⟩ => by
        subst y1
        have := y2 xs ea
        rw [h1] at this; cases this
        exact ⟨Same.refl _, Rep.mono s d v h2⟩⟩
    · cases ed
theorem PI.or {wi wj : TI} (h1 : PI X tg e wi) (h2 : PI X tg e wj) : PI X tg e (fun σ H R => wi σ H R ∨ wj σ H R) := ⟨fun pins s σ H R I h => by
  rcases h with h | h
  · exact h1.run pins s σ H R I h
  · exact h2.run pins s σ H R I h⟩
def itsS : D → Option (List D)
  | .lst ds => some ds
  | .scr ns => some (ns.map D.int)
  | .tup ds => some ds
  | _ => none
/-- a list, a tuple, the script -/
theorem fi_seq (he : FE X (.ow 0) e f) : FI X tg e (iB itsS f) := PI.weak (PI.or (fi_list he) (fi_tup he)) fun σ H R ⟨F, fps, st, ds, r, ed, q⟩ => by
  unfold iB at ed
  cases ef : f st with
  | none => rw [ef] at ed; cases ed
  | some d =>
    rw [ef] at ed
    have ed : itsS d = some ds := ed
    cases d with
    | lst xs => exact .inl ⟨F, fps, st, ds, r, by unfold iB; rw [ef]; exact ed, q⟩
    | scr xs => exact .inl ⟨F, fps, st, ds, r, by unfold iB; rw [ef]; exact ed, q⟩
    | tup xs => exact .inr ⟨F, fps, st, ds, r, by unfold iB; rw [ef]; exact ed, q⟩
    | _ => cases ed
def rngOk (i : Int) : Bool := decide (-(2 ^ 62) ≤ i) && decide (i < 2 ^ 62)
def rngL (lo c : Int) (n : Nat) : List D := (List.range n).map fun (i : Nat) => D.int (lo + (i : Int) * c)
def mRng1 : D → Option (List D)
  | .int j => if rngOk j = true then some (rngL 0 1 j.toNat) else none
  | _ => none
def mRng2 (x y : D) : Option (List D) := match x, y with
  | .int i, .int j => if (rngOk i && rngOk j) = true then some (rngL i 1 (j - i).toNat) else none
  | _, _ => none
/-- range(i, j, -1) -/
def mRngD (x y : D) : Option (List D) := match x, y with
  | .int i, .int j => if (rngOk i && rngOk j) = true then some (rngL i (-1) (i - j).toNat) else none
  | _, _ => none
theorem rngOk_iff {i : Int} (h : rngOk i = true) : -(2 ^ 62) ≤ i ∧ i < 2 ^ 62 := by
  unfold rngOk at h
  simp only [Bool.and_eq_true, decide_eq_true_eq] at h
  exact h
theorem dl_rng {G : Hp} {lo : Int} {n : Nat} : Deliver K G (Itr lo n) (rngL lo 1 n) := fun i H A hA s => by
  unfold rngL
  refine ⟨fun h => ?_, fun d e => ?_⟩
  · rw [List.length_map, List.length_range] at h; exact h
  · rw [List.getElem?_map] at e
    by_cases hi : i < n
    · rw [List.getElem?_range hi] at e
      cases e
      refine ⟨hi, fun x H' ⟨y1, y2⟩ => ?_⟩
      subst y1 y2
      exact ⟨Same.refl _, by show V.int _ = V.int _; rw [Int.mul_one]⟩
    · rw [List.getElem?_eq_none (by rw [List.length_range]; omega)] at e; cases e
theorem dl_rngC {G : Hp} {lo c : Int} {n : Nat} : Deliver K G (Itc lo c n) (rngL lo c n) := fun i H A hA s => by
  unfold rngL
  refine ⟨fun h => ?_, fun d e => ?_⟩
  · rw [List.length_map, List.length_range] at h; exact h
  · rw [List.getElem?_map] at e
    by_cases hi : i < n
    · rw [List.getElem?_range hi] at e
      cases e
      refine ⟨hi, fun x H' ⟨y1, y2⟩ => ?_⟩
      subst y1 y2
      exact ⟨Same.refl _, rfl⟩
    · rw [List.getElem?_eq_none (by rw [List.length_range]; omega)] at e; cases e
def iBin (m : D → D → Option (List D)) (f g : EM) : IM := fun st => (f st).bind fun x => (g st).bind fun y => m x y
theorem fi_rng1 (hg : Gl X "range") (hm : X.mg "range" = none) (ha : FE X .rd a f) (hs : starEach [a] X.env = [(false, eval a X.env)] := by rfl) : FI X tg (.Call (.Name "range" p) [a] [] pos) (iB mRng1 f) := PI.weak (pi_range1 hg hm (pa_cons ha pa_nil hs) hs) fun σ H R ⟨F, fps, st, ds, r, ed, q⟩ => by
  unfold iB at ed
  cases ef : f st with
  | none => rw [ef] at ed; cases ed
  | some x =>
    rw [ef] at ed
    refine ⟨F, fps, st, x, r, ef, fun v H1 s1 w => ?_⟩
    have ed : mRng1 x = some ds := ed
    unfold mRng1 at ed
    split at ed
    · split at ed
      · rename_i hr
        cases ed
        have w : v = .int _ := w
        subst w
        exact ⟨_, rfl, (rngOk_iff hr).1, (rngOk_iff hr).2, q _ _ s1 dl_rng⟩
      · cases ed
    · cases ed
theorem fi_rng2 (hg : Gl X "range") (hm : X.mg "range" = none) (ha : FE X .rd a f) (hb : FE X .rd b g) (hs : starEach [a, b] X.env = (false, eval a X.env) :: starEach [b] X.env := by rfl) (hs2 : starEach [b] X.env = (false, eval b X.env) :: starEach [] X.env := by rfl)
    (h1 : starEach [a, b] X.env = [(false, eval a X.env), (false, eval b X.env)] := by rfl) (h2 : starEach [b] X.env = [(false, eval b X.env)] := by rfl) :
    FI X tg (.Call (.Name "range" p) [a, b] [] pos) (iBin mRng2 f g) := PI.weak (pi_range2 hg hm (pa_cons ha (pa_cons hb pa_nil hs2) hs) h1 h2) fun σ H R ⟨F, fps, st, ds, r, ed, q⟩ => by
  unfold iBin at ed
  obtain ⟨x, y, e1, e2, e3⟩ := bind2 ed
  refine ⟨F, fps, st, x, r, e1, fun v H1 s1 w => ⟨F, fps, st, y, r.mono s1, e2, fun u H2 s2 w2 => ?_⟩⟩
  unfold mRng2 at e3
  split at e3
  · split at e3
    · rename_i hr
      cases e3
      have hr := Bool.and_eq_true_iff.mp hr
      have w : v = .int _ := w
      have w2 : u = .int _ := w2
      subst w w2
      exact ⟨_, _, rfl, ⟨(rngOk_iff hr.1).1, (rngOk_iff hr.1).2, (rngOk_iff hr.2).1, (rngOk_iff hr.2).2⟩, q _ _ (s1.trans s2) dl_rng⟩
    · cases e3
  · cases e3
/-- range(a, b, -1): the step is written as -1 -/
theorem fi_rngD {k : Nat} {p1 p2 : Pos} (hg : Gl X "range") (hm : X.mg "range" = none) (ha : FE X .rd a f) (hb : FE X .rd b g) (hs : starEach [a, b, .UnaryOp .USub (.Constant (.int 1) k p1) p2] X.env = (false, eval a X.env) :: starEach [b, .UnaryOp .USub (.Constant (.int 1) k p1) p2] X.env := by rfl)
    (hs2 : starEach [b, .UnaryOp .USub (.Constant (.int 1) k p1) p2] X.env = (false, eval b X.env) :: starEach [.UnaryOp .USub (.Constant (.int 1) k p1) p2] X.env := by rfl)
    (hs3 : starEach [.UnaryOp .USub (.Constant (.int 1) k p1) p2] X.env = (false, eval (.UnaryOp .USub (.Constant (.int 1) k p1) p2) X.env) :: starEach [] X.env := by rfl)
    (hpl : (backTo pos (starEach [b, .UnaryOp .USub (.Constant (.int 1) k p1) p2] X.env)).any (·.1) = false := by rfl) :
    FI X tg (.Call (.Name "range" p) [a, b, .UnaryOp .USub (.Constant (.int 1) k p1) p2] [] pos) (iBin mRngD f g) := PI.weak (pi_range3 hg hm (pa_cons ha (pa_cons hb (pa_cons (pe_un un_neg pe_int) pa_nil hs3) hs2) hs) hs hpl) fun σ H R ⟨F, fps, st, ds, r, ed, q⟩ => by
  unfold iBin at ed
  obtain ⟨x, y, e1, e2, e3⟩ := bind2 ed
  refine ⟨F, fps, st, x, r, e1, fun v H1 s1 w => ⟨F, fps, st, y, r.mono s1, e2, fun u H2 s2 w2 => ?_⟩⟩
  unfold mRngD at e3
  split at e3
  · split at e3
    · rename_i hr
      cases e3
      have hr := Bool.and_eq_true_iff.mp hr
      have w : v = .int _ := w
      have w2 : u = .int _ := w2
      subst w w2
      exact ⟨1, rfl, _, _, _, _, rfl, RgC.neg (rngOk_iff hr.1).1 (rngOk_iff hr.1).2 (rngOk_iff hr.2).1 (rngOk_iff hr.2).2, q _ _ (s1.trans s2) dl_rngC⟩
    · cases e3
  · cases e3
/-- enumerate(xs) -/
def enumL : Nat → List D → List D
  | _, [] => []
  | i, d :: ds => .tup [.int i, d] :: enumL (i + 1) ds
theorem enumL_get : ∀ (ds : List D) (j i : Nat), (enumL j ds)[i]? = (ds[i]?).map fun d => D.tup [.int ((j + i : Nat) : Int), d]
  | [], j, i => by simp [enumL]
  | d :: ds, j, 0 => by simp [enumL]
  | d :: ds, j, i + 1 => by
    have := enumL_get ds (j + 1) i
    simp only [enumL, List.getElem?_cons_succ]
    rw [this]
    congr 1
    funext d
    rw [show j + 1 + i = j + (i + 1) by omega]
theorem enumL_len : ∀ (ds : List D) (j : Nat), (enumL j ds).length = ds.length
  | [], _ => rfl
  | d :: ds, j => by simp [enumL, enumL_len ds (j + 1)]
def mEnum : D → Option (List D)
  | .lst ds => some (enumL 0 ds)
  | _ => none
theorem fi_enum {elts : List Expr} {kk : Nat} {tpos : Pos} (hg : Gl X "enumerate") (hm : X.mg "enumerate" = none) (he : FE X (.ow 0) e f) (hs : starEach [e] X.env = [(false, eval e X.env)] := by rfl) :
    FI X (.Tuple elts kk tpos) (.Call (.Name "enumerate" p) [e] [] pos) (iB mEnum f) := PI.weak (pi_enum hg hm (pa_cons he pa_nil hs) hs) fun σ H R ⟨F, fps, st, ds, r, ed, q⟩ => by
  unfold iB at ed
  cases ef : f st with
  | none => rw [ef] at ed; cases ed
  | some d =>
    rw [ef] at ed
    refine ⟨F, fps, st, d, r, ef, fun v H1 s1 w => ?_⟩
    replace w := VR.ow0 w
    have ed : mEnum d = some ds := ed
    unfold mEnum at ed
    split at ed
    · cases ed
      obtain ⟨a, xs, e1, e2, e3⟩ := w
      subst e1
      refine ⟨a, xs, rfl, .inl (.inl (hideP_same _ _ e2)), q _ H1 s1 (fun i H A hA s => ?_)⟩
      have ea : H a = some (.lst xs) := (s.trans hideP_same) _ _ e2
      rw [enumL_len]
      refine ⟨fun h => ⟨xs, .inl (.inl ea), by rw [e3.length]; exact h⟩, fun d e => ?_⟩
      rw [enumL_get] at e
      cases en : (_ : List D)[i]? with
      | none => rw [en] at e; cases e
      | some d0 =>
        rw [en] at e; cases e
        obtain ⟨v, h1, h2⟩ := e3.get en
        refine ⟨⟨xs, v, .inl (.inl ea), h1⟩, fun x H' ⟨T, x1, y1, y2, y3, y4⟩ => ?_⟩
        subst y1 y3
        have := y4 xs (.inl (.inl ea))
        rw [h1] at this; cases this
        have sT : Same (hideP H A) (hideP (upd H T (.tup [.int ((i : Nat) : Int), v])) A) := hideP_mono (same_upd y2) fun _ _ _ h => h
        refine ⟨same_upd y2, T, _, rfl, .inl (.inl (hideP_some.mpr ⟨fun z => hA T z y2, upd_same⟩)), _, _, rfl, ?_, _, _, rfl, Rep.mono (s.trans sT) d0 v h2, rfl⟩
        show V.int _ = V.int _
        rw [Nat.zero_add]
    · cases ed
/-- zip(xs, ys) -/
def zipD : List D → List D → List D
  | x :: xs, y :: ys => .tup [x, y] :: zipD xs ys
  | _, _ => []
theorem zipD_get : ∀ (xs ys : List D) (i : Nat), (zipD xs ys)[i]? = (xs[i]?).bind fun x => (ys[i]?).map fun y => D.tup [x, y]
  | [], ys, i => by simp [zipD]
  | x :: xs, [], i => by
    simp only [zipD, List.getElem?_nil, Option.map_none]
    cases (x :: xs)[i]? <;> rfl
  | x :: xs, y :: ys, 0 => by simp [zipD]
  | x :: xs, y :: ys, i + 1 => by
    have := zipD_get xs ys i
    simp only [zipD, List.getElem?_cons_succ]
    exact this
theorem zipD_len : ∀ (xs ys : List D), (zipD xs ys).length = min xs.length ys.length
  | [], ys => by simp [zipD]
  | x :: xs, [] => by simp [zipD]
  | x :: xs, y :: ys => by simp only [zipD, List.length_cons, zipD_len xs ys]; omega
def mZip (x y : D) : Option (List D) := match x, y with
  | .lst xs, .lst ys => some (zipD xs ys)
  | _, _ => none
theorem fi_zip {elts : List Expr} {kk : Nat} {tpos : Pos} (hg : Gl X "zip") (hm : X.mg "zip" = none) (ha : FE X (.ow 0) a f) (hb : FE X (.ow 0) b g)
    (hs : starEach [a, b] X.env = (false, eval a X.env) :: starEach [b] X.env := by rfl) (hs2 : starEach [b] X.env = (false, eval b X.env) :: starEach [] X.env := by rfl) (hpl : (backTo pos (starEach [b] X.env)).any (·.1) = false := by rfl) :
    FI X (.Tuple elts kk tpos) (.Call (.Name "zip" p) [a, b] [] pos) (iBin mZip f g) := PI.weak (pi_zip hg hm (pa_cons ha (pa_cons hb pa_nil hs2) hs) hs hpl) fun σ H R ⟨F, fps, st, ds, r, ed, q⟩ => by
  unfold iBin at ed
  obtain ⟨x, y, e1, e2, e3⟩ := bind2 ed
  refine ⟨F, fps, st, x, r, e1, fun v H1 s1 w => ⟨F, fps, st, y, r.mono s1, e2, fun u H2 s2 w2 => ?_⟩⟩
  replace w := Rep.mono (hideP_mono s2 fun _ _ _ h => h) x v (VR.ow0 w)
  replace w2 := VR.ow0 w2
  unfold mZip at e3
  split at e3
  · cases e3
    obtain ⟨a, xs, a1, a2, a3⟩ := w
    obtain ⟨b, ys, b1, b2, b3⟩ := w2
    subst a1 b1
    refine ⟨a, b, xs, ys, rfl, .inl (.inl (hideP_same _ _ a2)), .inl (.inl (hideP_same _ _ b2)), q _ _ (s1.trans s2) (fun i H A hA s => ?_)⟩
    have ea : H a = some (.lst xs) := (s.trans hideP_same) _ _ a2
    have eb : H b = some (.lst ys) := (s.trans hideP_same) _ _ b2
    rw [zipD_len]
    refine ⟨fun h => ⟨xs, ys, .inl (.inl ea), .inl (.inl eb), by rw [a3.length, b3.length]; omega⟩, fun d e => ?_⟩
    rw [zipD_get] at e
    cases en : (_ : List D)[i]? with
    | none => rw [en] at e; cases e
    | some d1 =>
      rw [en] at e
      cases em : (_ : List D)[i]? with
      | none => rw [em] at e; cases e
      | some d2 =>
        rw [em] at e
        cases e
        obtain ⟨v, h1, h2⟩ := a3.get en
        obtain ⟨u, k1, k2⟩ := b3.get em
        refine ⟨⟨xs, ys, v, u, .inl (.inl ea), .inl (.inl eb), h1, k1⟩, fun x H' ⟨T, x1, z1, y1, y2, y3, y4, y5⟩ => ?_⟩
        subst y1 y3
        have := y4 xs (.inl (.inl ea))
        rw [h1] at this; cases this
        have := y5 ys (.inl (.inl eb))
        rw [k1] at this; cases this
        have sT : Same (hideP H A) (hideP (upd H T (.tup [v, u])) A) := hideP_mono (same_upd y2) fun _ _ _ h => h
        exact ⟨same_upd y2, T, _, rfl, .inl (.inl (hideP_some.mpr ⟨fun z => hA T z y2, upd_same⟩)), _, _, rfl, Rep.mono (s.trans sT) d1 v h2, _, _, rfl, Rep.mono (s.trans sT) d2 u k2, rfl⟩
  · cases e3
end
end FL

namespace FL
open PySem PySem.Spec PyProof.Rows L2

/-! ### statements -/
inductive Out where
  | nx (st : Sl) | bk (st : Sl) | ct (st : Sl) | rt (d : D) (st : Sl)
abbrev SM := Sl → Option Out
def RetOk (K : PySem.W.Frag) (F : Fr) (H : Hp) (k : Nat) (d : D) (v : V) (st : Sl) : Prop := ∃ (fps : Fps) (fp : List Addr), fp.Nodup ∧ (∀ i, (fps i).Nodup) ∧ (∀ i j a, a ∈ fps i → a ∈ fps j → i = j) ∧ (∀ i a, a ∈ fps i → a ∉ fp) ∧
  Same F.G (hideP H (own2 fps fp)) ∧ Own K H (hideP H (own2 fps fp)) d k v fp ∧ ∀ (i k' : Nat) (d' : D), st[i]? = some (.io k' d') → Own K H (hideP H (own2 fps fp)) d' k' (F.pin i) (fps i)
def Cont (K : PySem.W.Frag) (F : Fr) (k : Nat) (Dn : Ends) : Out → Prop
  | .nx st => ∀ σ H, StRep K F σ H st → Dn.nx σ H
  | .bk st => ∀ σ H, StRep K F σ H st → Dn.bk σ H
  | .ct st => ∀ σ H, StRep K F σ H st → Dn.ct σ H
  | .rt d st => ∀ v H, RetOk K F H k d v st → Dn.rt v H
def tFS (K : PySem.W.Frag) (k : Nat) (g : SM) : TS := fun Dn σ H => ∃ F st o, StRep K F σ H st ∧ g st = some o ∧ Cont K F k Dn o
abbrev FS (X : Cx) (k : Nat) (s : Stmt) (g : SM) : Prop := PS X s (tFS X.K k g)
abbrev FSs (X : Cx) (k : Nat) (s : List Stmt) (g : SM) : Prop := PSs X s (tFS X.K k g)

section
variable {X : Cx} {k : Nat} {kd : Kd} {e a b c tg : Expr} {es : List Expr} {f g h : EM} {t : TM} {s1 s2 s3 : SM} {st : Stmt} {rest as bs : List Stmt} {pos p : Pos} {K : PySem.W.Frag}
def sNil : SM := fun st => some (.nx st)
def sSeq (g1 g2 : SM) : SM := fun st => (g1 st).bind fun o => match o with
  | .nx st' => g2 st'
  | o => some o
theorem fss_nil : FSs X k [] sNil := PSs.weak pss_nil fun Dn σ H ⟨F, st, o, r, e, c⟩ => by
  cases e
  exact c σ H r
theorem fss_cons (h1 : FS X k st s1) (h2 : FSs X k rest s2) : FSs X k (st :: rest) (sSeq s1 s2) := PSs.weak (pss_cons h1 h2) fun Dn σ H ⟨F, st, o, r, e, c⟩ => by
  unfold sSeq at e
  cases e1 : s1 st with
  | none => rw [e1] at e; cases e
  | some o1 =>
    rw [e1] at e
    refine ⟨F, st, o1, r, e1, ?_⟩
    cases o1 with
    | nx st1 => exact fun σ' H' r' => ⟨F, st1, o, r', e, c⟩
    | bk _ => cases e; exact c
    | ct _ => cases e; exact c
    | rt _ _ => cases e; exact c
theorem fss_one (h1 : FS X k st s1) : FSs X k [st] s1 := pss_one h1
def sIf (t : TM) (g1 g2 : SM) : SM := fun st => (t st).bind fun b => if b = true then g1 st else g2 st
theorem fs_if (hc : FT X c t) (ha : FSs X k as s1) (hb : FSs X k bs s2) : FS X k (.If c as bs pos) (sIf t s1 s2) := PS.weak (ps_if hc ha hb) fun Dn σ H ⟨F, st, o, ⟨fps, r⟩, e, c⟩ => by
  unfold sIf at e
  cases e1 : t st with
  | none => rw [e1] at e; cases e
  | some b =>
    rw [e1] at e
    refine ⟨F, fps, st, b, r, e1, fun H1 q1 => ?_⟩
    cases b with
    | true => exact ⟨F, st, o, ⟨fps, r.mono q1⟩, e, c⟩
    | false => exact ⟨F, st, o, ⟨fps, r.mono q1⟩, e, c⟩
theorem fs_pass : FS X k (.Pass pos) sNil := PS.weak ps_pass fun Dn σ H ⟨F, st, o, r, e, c⟩ => by
  cases e
  exact c σ H r
def sBrk : SM := fun st => some (.bk st)
def sCt : SM := fun st => some (.ct st)
theorem fs_break : FS X k (.Break pos) sBrk := PS.weak ps_break fun Dn σ H ⟨F, st, o, r, e, c⟩ => by
  cases e
  exact c σ H r
theorem fs_continue : FS X k (.Continue pos) sCt := PS.weak ps_continue fun Dn σ H ⟨F, st, o, r, e, c⟩ => by
  cases e
  exact c σ H r
/-- a statement that is never come to (a raise) -/
def sNo : SM := fun _ => none
theorem fs_no : FS X k st sNo := ⟨fun _ _ σ H _ _ ⟨_, _, _, _, e, _⟩ => by cases e⟩
/-- an expression whose value is dropped -/
def sExp (f : EM) : SM := fun st => (f st).map fun _ => .nx st
theorem fs_exp (he : FE X kd e f) (hs : swapsWith e none pos.line X.env = pure false := by rfl) : FS X k (.Expr e pos) (sExp f) := PS.weak (ps_expr he hs) fun Dn σ H ⟨F, st, o, ⟨fps, r⟩, e, c⟩ => by
  unfold sExp at e
  cases e1 : f st with
  | none => rw [e1] at e; cases e
  | some b =>
    rw [e1] at e; cases e
    exact ⟨F, fps, st, b, r, e1, fun v H1 q1 w => c σ H1 ⟨fps, r.mono q1⟩⟩

/-! ### return -/
def sRet (f : EM) : SM := fun st => (f st).map fun d => .rt d st
theorem StR.ret {F : Fr} {fps : Fps} {σ : L2.St} {H H1 : Hp} {st : Sl} {d : D} {v : V} (r : StR K F fps σ H st) (q1 : Same H H1) (w : VR K fps H H1 (.ow k) d v) : RetOk K F H1 k d v st := by
  obtain ⟨fp, n, fr, w⟩ := w
  have r1 := r.mono q1
  have sm : Same (hideP H (own fps)) (hideP H1 (own2 fps fp)) := hideP_mono q1 fun a o e h z => by
    rcases z with m | z
    · rw [fr a m] at e; cases e
    · exact h z
  refine ⟨fps, fp, n, r.nd, r.dj, fun i a m m2 => r.there ⟨i, m⟩ (fr a m2), r.fr.trans sm, w, fun i k' d' e => ?_⟩
  obtain ⟨_, o⟩ := r.io e
  refine Own.mono sm d' k' _ _ (fun a m => ?_) o
  obtain ⟨_, e, _⟩ := r.isLst ⟨i, m⟩
  rw [e]; exact q1 _ _ e
theorem fs_ret (he : FE X (.ow k) e f) : FS X k (.Return (some e) pos) (sRet f) := PS.weak (ps_ret he) fun Dn σ H ⟨F, st, o, ⟨fps, r⟩, e, c⟩ => by
  unfold sRet at e
  cases e1 : f st with
  | none => rw [e1] at e; cases e
  | some d =>
    rw [e1] at e; cases e
    exact ⟨F, fps, st, d, r, e1, fun v H1 q1 w => c v H1 (r.ret q1 w)⟩
theorem fs_retN : FS X k (.Return none pos) (sRet (eC .non)) := PS.weak ps_retN fun Dn σ H ⟨F, st, o, ⟨fps, r⟩, e, c⟩ => by
  cases e
  exact c .non H (r.ret (Same.refl H) (VR.sc (d := .non) rfl rfl))
/-- return x, x's own lists handed over -/
def sRetV (k i : Nat) : SM := fun st => match st[i]? with
  | some (.va k' d) => if k' = k then some (.rt d (st.set i .un)) else none
  | _ => none
theorem fs_retV {i : Nat} (he : PE X e (tVar i)) : FS X k (.Return (some e) pos) (sRetV k i) := PS.weak (ps_ret he) fun Dn σ H ⟨F, st, o, ⟨fps, r⟩, e, c⟩ => by
  unfold sRetV at e
  split at e
  · rename_i k' d hs
    split at e
    · rename_i hk
      subst hk
      cases e
      obtain ⟨v, e1, w⟩ := r.va hs
      refine ⟨v, e1, c v H ?_⟩
      have r2 := r.unset (i := i)
      have sm : Same (hideP H (own fps)) (hideP H (own2 (setF fps i []) (fps i))) := hideP_mono (Same.refl _) fun a o e h z => by
        rcases z with m | z
        · exact h ⟨i, m⟩
        · rcases own_setF z with m | z
          · cases m
          · exact h z
      refine ⟨setF fps i [], fps i, r.nd i, r2.nd, r2.dj, fun j a m m2 => ?_, r.fr.trans sm, Own.mono sm d _ v _ (fun _ _ => rfl) w, fun j k' d' e => ?_⟩
      · by_cases ej : j = i
        · subst ej; rw [setF_same] at m; cases m
        · rw [setF_ne ej] at m
          exact ej (r.dj j i a m m2)
      · by_cases ej : j = i
        · subst ej
          rw [List.getElem?_set_self (List.getElem?_eq_some_iff.mp hs).1] at e; cases e
        · rw [List.getElem?_set_ne (Ne.symm ej)] at e
          rw [setF_ne ej]
          exact Own.mono sm d' k' _ _ (fun _ _ => rfl) (r.io e).2
    · cases e
  · cases e

/-! ### names stored -/
def isVa : Option Slot → Bool
  | some .un => true
  | some (.va _ _) => true
  | _ => false
def sSet (i k : Nat) (f : EM) : SM := fun st => if isVa st[i]? = true then (f st).map fun d => .nx (st.set i (.va k d)) else none
theorem isVa_lt {st : Sl} {i : Nat} (h : isVa st[i]? = true) : i < st.length := by
  by_cases hi : i < st.length
  · exact hi
  · rw [List.getElem?_eq_none (by omega)] at h; cases h
theorem tF_set {i k' : Nat} {Dn : Ends} {σ : L2.St} {H : Hp} (h : tFS K k (sSet i k' f) Dn σ H) : tAsg (tF K (.ow k') f) (gName i) Dn σ H := by
  obtain ⟨F, st, o, ⟨fps, r⟩, e, c⟩ := h
  unfold sSet at e
  split at e
  · rename_i hi
    cases e1 : f st with
    | none => rw [e1] at e; cases e
    | some d =>
      rw [e1] at e; cases e
      refine ⟨F, fps, st, d, r, e1, fun v H1 q1 w => ?_⟩
      obtain ⟨fp, n, fr, w⟩ := w
      exact c _ H1 ⟨_, r.set q1 (isVa_lt hi) n fr w⟩
  · cases e
theorem fs_set {i k' : Nat} {x : Str} {pos' : Pos} (hN : X.N.Nodup) (hi : X.N[i]? = some x) (hx : Loc X.env.scope x) (he : FE X (.ow k') e f) (hs : swapsWith e (some (.Name x pos')) pos.line X.env = pure false := by rfl) (hf : X.fn x = true ∨ X.env.scope.names.lookup x = some .local := by first | exact .inl rfl | exact .inr rfl | assumption) :
    FS X k (.Assign [.Name x pos'] e pos) (sSet i k' f) := PS.weak (ps_set hN hi hx he hs hf) fun _ _ _ => tF_set
/-- x op= e of ints -/
def sAug (m : D → D → Option D) (i : Nat) (f : EM) : SM := fun st => if isVa st[i]? = true then (eBin m (eVar i) f st).map fun d => .nx (st.set i (.va 0 d)) else none
def ScI (m : D → D → Option D) (ti : TIp) : Prop := ∀ (K : PySem.W.Frag) (x y : V) (H : Hp) (Q : VK) (dx dy d : D), Rep K H dx x → Rep K H dy y → m dx dy = some d → sc d = true ∧ (Q (scV d) H → ti x y H Q)
theorem fs_aug {i : Nat} {x : Str} {pos' : Pos} {op : Operator} {m : D → D → Option D} {ti : TIp} (ho : PIp X op ti) (hm : ScI m ti) (hN : X.N.Nodup) (hi : X.N[i]? = some x) (hx : Loc X.env.scope x) (he : FE X .rd e f) (hf : X.fn x = true ∨ X.env.scope.names.lookup x = some .local := by first | exact .inl rfl | exact .inr rfl | assumption) :
    FS X k (.AugAssign (.Name x pos') op e pos) (sAug m i f) := PS.weak (ps_aug hN hi hx he ho hf) fun Dn σ H ⟨F, st, o, ⟨fps, r⟩, e, c⟩ => by
  unfold sAug at e
  split at e
  · rename_i hv
    cases e1 : eBin m (eVar i) f st with
    | none => rw [e1] at e; cases e
    | some d =>
      rw [e1] at e; cases e
      obtain ⟨x, y, h1, h2, h3⟩ := bind2 e1
      obtain ⟨v, k', hv1, hv2⟩ := r.look h1
      refine ⟨v, hv1, F, fps, st, y, r, h2, fun u H1 q1 w => ?_⟩
      obtain ⟨z1, z2⟩ := hm X.K v u H1 (fun z H2 => Dn.nx (σ.set i (some z)) H2) x y d (Rep.mono q1 x v (Own.rep hideP_same x k' v _ (fun _ _ => rfl) hv2)) w h3
      refine z2 (c _ H1 ⟨_, r.set (fp := []) q1 (isVa_lt hv) List.nodup_nil (fun a m => (by cases m)) ?_⟩)
      cases d <;> first | exact ⟨rfl, rfl⟩ | cases z1
  · cases e
theorem sci_add : ScI mAddI (ipI fun i j => i + j) := fun K x y H Q dx dy d rx ry e => by
  obtain ⟨i, j, rfl, rfl, _, rfl⟩ := mI_some e
  exact ⟨rfl, fun q => ⟨i, j, rx, ry, q⟩⟩
theorem sci_sub : ScI mSub (ipI fun i j => i - j) := fun K x y H Q dx dy d rx ry e => by
  obtain ⟨i, j, rfl, rfl, _, rfl⟩ := mI_some e
  exact ⟨rfl, fun q => ⟨i, j, rx, ry, q⟩⟩

/-! ### targets of shared data -/
abbrev GM := D → Sl → Option Sl
abbrev GMs := List D → Sl → Option Sl
def But (I : List Nat) (σ σ' : L2.St) : Prop := σ'.length = σ.length ∧ ∀ j, j ∉ I → σ'[j]? = σ[j]?
/-- fps' is fps with nothing at I -/
def ButF (I : List Nat) (fps fps' : Fps) : Prop := ∀ j, fps' j = if j ∈ I then [] else fps j
def tFG (K : PySem.W.Frag) (I : List Nat) (m : GM) : TG := fun v σ H Q => ∃ F fps st d st', StR K F fps σ H st ∧ Rep K (hideP H (own fps)) d v ∧ m d st = some st' ∧ ∀ σ' fps', StR K F fps' σ' H st' → Same (hideP H (own fps)) (hideP H (own fps')) → But I σ σ' → ButF I fps fps' → Q σ' H
def tFGs (K : PySem.W.Frag) (I : List Nat) (m : GMs) : TGs := fun v σ H Q => ∃ F fps st d st', StR K F fps σ H st ∧ RepL K (hideP H (own fps)) d v ∧ m d st = some st' ∧ ∀ σ' fps', StR K F fps' σ' H st' → Same (hideP H (own fps)) (hideP H (own fps')) → But I σ σ' → ButF I fps fps' → Q σ' H
abbrev FG (X : Cx) (I : List Nat) (tg : Expr) (m : GM) : Prop := PG X tg (tFG X.K I m)
abbrev FGs (X : Cx) (I : List Nat) (tg : List Expr) (m : GMs) : Prop := PGs X tg (tFGs X.K I m)
variable {I J : List Nat}
def gNm (i : Nat) : GM := fun d st => if isVa st[i]? = true then some (st.set i (.va 0 d)) else none
theorem fg_name {i : Nat} {x : Str} (hN : X.N.Nodup) (hi : X.N[i]? = some x) (hx : Loc X.env.scope x) (hf : X.fn x = true ∨ X.env.scope.names.lookup x = some .local := by first | exact .inl rfl | exact .inr rfl | assumption) : FG X [i] (.Name x pos) (gNm i) :=
  PG.weak (pg_name hN hi hx hf) fun v σ H Q ⟨F, fps, st, d, st', r, w, e, q⟩ => by
    unfold gNm at e
    split at e
    · rename_i hv
      cases e
      refine q _ _ (r.set (fp := []) (Same.refl H) (isVa_lt hv) List.nodup_nil (fun a m => (by cases m)) (Own.shared d v (Rep.mono (hideP_mono (Same.refl _) fun a o _ h z => h (z.resolve_left fun m => by cases m)) d v w))) (hideP_mono (Same.refl _) fun a o _ h z => ?_) ⟨List.length_set, fun j hj => List.getElem?_set_ne (fun z => hj (by simp [z]))⟩ fun j => ?_
      · rcases own_setF z with m | z
        · cases m
        · exact h z
      · by_cases e : j = i
        · subst e; rw [setF_same, if_pos (by simp)]
        · rw [setF_ne e, if_neg (by simpa using e)]
    · cases e
def gsNil : GMs := fun ds st => match ds with
  | [] => some st
  | _ => none
def gsCons (m : GM) (n : GMs) : GMs := fun ds st => match ds with
  | d :: r => (m d st).bind fun st' => n r st'
  | _ => none
theorem fgs_nil : FGs X [] [] gsNil := PGs.weak pgs_nil fun v σ H Q ⟨F, fps, st, d, st', r, w, e, q⟩ => by
  unfold gsNil at e
  split at e
  · cases e
    exact ⟨w, q σ fps r (Same.refl _) ⟨rfl, fun _ _ => rfl⟩ fun j => (if_neg (by simp)).symm⟩
  · cases e
theorem fgs_cons {m : GM} {n : GMs} (h1 : FG X I e m) (h2 : FGs X J es n) (hs : (assignEach (e :: es) X.env).map (·.2) = assign e X.env :: (assignEach es X.env).map (·.2) := by rfl) : FGs X (I ++ J) (e :: es) (gsCons m n) := PGs.weak (pgs_cons h1 h2 hs) fun v σ H Q ⟨F, fps, st, d, st', r, w, e, q⟩ => by
  unfold gsCons at e
  split at e
  · rename_i d0 ds
    cases e1 : m d0 st with
    | none => rw [e1] at e; cases e
    | some st1 =>
      rw [e1] at e
      obtain ⟨v0, r0, ev, w1, w2⟩ := w
      exact ⟨v0, r0, ev, F, fps, st, d0, st1, r, w1, e1, fun σ1 fps1 r1 sm bt bf => ⟨F, fps1, st1, ds, st', r1, RepL.mono sm ds r0 w2, e, fun σ2 fps2 r2 sm2 bt2 bf2 => q σ2 fps2 r2 (sm.trans sm2) ⟨bt2.1.trans bt.1, fun j hj => (bt2.2 j fun z => hj (List.mem_append_right _ z)).trans (bt.2 j fun z => hj (List.mem_append_left _ z))⟩ fun j => by
        rw [bf2 j, bf j]
        by_cases h1 : j ∈ I <;> by_cases h2 : j ∈ J <;> simp [h1, h2]⟩⟩
  · cases e
def gTp (n : Nat) (m : GMs) : GM := fun d st => match d with
  | .tup ds => if ds.length = n then m ds st else none
  | _ => none
theorem fg_tup {es : List Expr} {kk : Nat} {m : GMs} {n : Nat} (hc : X.calm = true) (h : FGs X I es m) (hn : (assignEach es X.env).length = n := by rfl) (hst : (assignEach es X.env).findIdx? (·.1) = none := by rfl) : FG X I (.Tuple es kk pos) (gTp n m) :=
  PG.weak (pg_tup hc h hn hst) fun v σ H Q ⟨F, fps, st, d, st', r, w, e, q⟩ => by
    unfold gTp at e
    split at e
    · split at e
      · rename_i hl
        obtain ⟨a, xs, e1, e2, e3⟩ := w
        exact ⟨a, xs, e1, Same.sqt hideP_same e2, by rw [e3.length]; exact hl, F, fps, st, _, st', r, e3, e, q⟩
      · cases e
    · cases e
/-- target = e, shared -/
def sAsg (m : GM) (f : EM) : SM := fun st => (f st).bind fun d => (m d st).map .nx
theorem fs_asg {m : GM} (he : FE X (.ow 0) e f) (hg : FG X I tg m) (hs : swapsWithSole [tg] e pos.line X.env = pure false := by rfl) (hw : swappedStores [tg] e X.env = pure none := by rfl)
    (h1 : (assignEach [tg] X.env).map (·.2) = [assign tg X.env] := by rfl) : FS X k (.Assign [tg] e pos) (sAsg m f) := PS.weak (ps_asg he hg hs hw h1) fun Dn σ H ⟨F, st, o, ⟨fps, r⟩, e, c⟩ => by
  unfold sAsg at e
  cases e1 : f st with
  | none => rw [e1] at e; cases e
  | some d =>
    rw [e1] at e
    have e : (m d st).map Out.nx = some o := e
    cases e2 : m d st with
    | none => rw [e2] at e; cases e
    | some st' =>
      rw [e2] at e; cases e
      exact ⟨F, fps, st, d, r, e1, fun v H1 q1 w => ⟨F, fps, st, d, st', r.mono q1, VR.ow0 w, e2, fun σ' fps' r' _ _ _ => c σ' H1 ⟨fps', r'⟩⟩⟩

/-! ### for -/
def forL (m : GM) (body : SM) : List D → SM
  | [], st => some (.nx st)
  | d :: ds, st => (m d st).bind fun st1 => (body st1).bind fun o => match o with
    | .nx st2 => forL m body ds st2
    | .ct st2 => forL m body ds st2
    | .bk st2 => some (.nx st2)
    | .rt d st2 => some (.rt d st2)
def sFor (its : IM) (m : GM) (body : SM) : SM := fun st => (its st).bind fun ds => forL m body ds st
theorem fs_for {its : IM} {m : GM} {body : List Stmt} (hp : PassesOwn (model X.prog X.w) X.A X.env X.xe) (hc : X.calm = true) (hi : FI X tg e its) (hg : FG X I tg m) (hb : FSs X k body s1)
    (hs : ∀ x, foldedSetIterable e X.env x = pure x := by intro _; rfl) : FS X k (.For tg e body [] pos) (sFor its m s1) := PS.weak (ps_for hp hc hi hg hb hs) fun Dn σ H ⟨F, st, o, ⟨fps, r⟩, e, c⟩ => by
  unfold sFor at e
  cases e1 : its st with
  | none => rw [e1] at e; cases e
  | some ds =>
    rw [e1] at e
    have e : forL m s1 ds st = some o := e
    refine ⟨F, fps, st, ds, r, e1, fun J H1 q1 dl => ?_⟩
    have r1 := r.mono q1
    -- the frame whose base is all that is frozen here
    refine ⟨fun i n σ' H' => n = ds.length - i ∧ i ≤ ds.length ∧ ∃ fps' st', StR X.K ⟨hideP H1 (own fps), F.pin⟩ fps' σ' H' st' ∧ forL m s1 (ds.drop i) st' = some o, ⟨ds.length, by simp, Nat.zero_le _, fps, st, ⟨Same.refl _, r1.nd, r1.dj, r1.len, r1.ok, r1.tmp, r1.fin⟩, e⟩, ?_⟩
    rintro i n σ' H' ⟨rfl, hi, fps', st', r', e'⟩
    have weak : ∀ {fps2 : Fps} {σ2 : L2.St} {H2 : Hp} {st2 : Sl}, StR X.K ⟨hideP H1 (own fps), F.pin⟩ fps2 σ2 H2 st2 → StR X.K F fps2 σ2 H2 st2 := fun x => ⟨r1.fr.trans x.fr, x.nd, x.dj, x.len, x.ok, x.tmp, x.fin⟩
    have dl' := dl i H' (own fps') (fun a h => r'.there h) r'.fr
    by_cases hlt : i < ds.length
    · have ed : ds.drop i = ds[i] :: ds.drop (i + 1) := List.drop_eq_getElem_cons hlt
      rw [ed] at e'
      obtain ⟨hgo, hy⟩ := dl'.2 ds[i] (by simp [hlt])
      refine .inr ⟨hgo, fun σ2 H2 => ∃ fps2 st2, StR X.K ⟨hideP H1 (own fps), F.pin⟩ fps2 σ2 H2 st2 ∧ forL m s1 (ds.drop (i + 1)) st2 = some o, fun σ2 H2 ⟨fps2, st2, r2, e2⟩ => ⟨ds.length - (i + 1), by omega, rfl, hlt, fps2, st2, r2, e2⟩, fun x H2 y => ?_⟩
      obtain ⟨sx, rx⟩ := hy x H2 y
      have e' : ((m ds[i] st').bind fun st1 => (s1 st1).bind fun o => match o with
        | .nx st2 => forL m s1 (ds.drop (i + 1)) st2
        | .ct st2 => forL m s1 (ds.drop (i + 1)) st2
        | .bk st2 => some (.nx st2)
        | .rt d st2 => some (.rt d st2)) = some o := e'
      cases em : m ds[i] st' with
      | none => rw [em] at e'; cases e'
      | some st1 =>
        rw [em] at e'
        refine ⟨⟨hideP H1 (own fps), F.pin⟩, fps', st', ds[i], st1, r'.mono sx, rx, em, fun σ3 fps3 r3 _ _ _ => ?_⟩
        have e' : ((s1 st1).bind fun o => match o with
          | .nx st2 => forL m s1 (ds.drop (i + 1)) st2
          | .ct st2 => forL m s1 (ds.drop (i + 1)) st2
          | .bk st2 => some (.nx st2)
          | .rt d st2 => some (.rt d st2)) = some o := e'
        cases eb : s1 st1 with
        | none => rw [eb] at e'; cases e'
        | some ob =>
          rw [eb] at e'
          refine ⟨⟨hideP H1 (own fps), F.pin⟩, st1, ob, ⟨fps3, r3⟩, eb, ?_⟩
          cases ob with
          | nx st2 => exact fun σ4 H4 ⟨fps4, r4⟩ => ⟨fps4, st2, r4, e'⟩
          | ct st2 => exact fun σ4 H4 ⟨fps4, r4⟩ => ⟨fps4, st2, r4, e'⟩
          | bk st2 =>
            cases e'
            exact fun σ4 H4 ⟨fps4, r4⟩ => c σ4 H4 ⟨fps4, weak r4⟩
          | rt d st2 =>
            cases e'
            exact fun v H4 ⟨fps4, fp4, h1, h2, h3, h4, h5, h6, h7⟩ => c v H4 ⟨fps4, fp4, h1, h2, h3, h4, r1.fr.trans h5, h6, h7⟩
    · have hz : ds.length ≤ i := by omega
      rw [List.drop_eq_nil_of_le hz] at e'
      cases e'
      exact .inl ⟨dl'.1 hz, c σ' H' ⟨fps', weak r'⟩⟩

/-! ### while -/
def whileL (t : TM) (body : SM) : Nat → SM
  | 0, _ => none
  | n + 1, st => (t st).bind fun b => if b = true then ((body st).bind fun o => match o with
    | .nx st2 => whileL t body n st2
    | .ct st2 => whileL t body n st2
    | .bk st2 => some (.nx st2)
    | .rt d st2 => some (.rt d st2)) else some (.nx st)
/-- fuel: how many turns at most -/
def sWhile (fuel : Sl → Nat) (t : TM) (body : SM) : SM := fun st => whileL t body (fuel st) st
theorem fs_while {fuel : Sl → Nat} {body : List Stmt} (hp : PassesOwn (model X.prog X.w) X.A X.env X.xe) (hc : FT X c t) (hb : FSs X k body s1) : FS X k (.While c body [] pos) (sWhile fuel t s1) := PS.weak (ps_while hp hc hb) fun Dn σ H ⟨F, st, o, ⟨fps, r⟩, e, cc⟩ => by
  unfold sWhile at e
  refine ⟨fun n σ' H' => ∃ fps' st', StR X.K F fps' σ' H' st' ∧ whileL t s1 n st' = some o, ⟨fuel st, fps, st, r, e⟩, ?_⟩
  rintro n σ' H' ⟨fps', st', r', e'⟩
  cases n with
  | zero => cases e'
  | succ n =>
    have e' : ((t st').bind fun b => if b = true then ((s1 st').bind fun o => match o with
      | .nx st2 => whileL t s1 n st2
      | .ct st2 => whileL t s1 n st2
      | .bk st2 => some (.nx st2)
      | .rt d st2 => some (.rt d st2)) else some (.nx st')) = some o := e'
    cases et : t st' with
    | none => rw [et] at e'; cases e'
    | some b =>
      rw [et] at e'
      refine ⟨F, fps', st', b, r', et, fun H1 q1 => ?_⟩
      cases b with
      | false =>
        cases e'
        exact cc σ' H1 ⟨fps', r'.mono q1⟩
      | true =>
        have e' : ((s1 st').bind fun o => match o with
          | .nx st2 => whileL t s1 n st2
          | .ct st2 => whileL t s1 n st2
          | .bk st2 => some (.nx st2)
          | .rt d st2 => some (.rt d st2)) = some o := e'
        refine ⟨fun σ2 H2 => ∃ fps2 st2, StR X.K F fps2 σ2 H2 st2 ∧ whileL t s1 n st2 = some o, fun σ2 H2 ⟨fps2, st2, r2, e2⟩ => ⟨n, by omega, fps2, st2, r2, e2⟩, ?_⟩
        cases eb : s1 st' with
        | none => rw [eb] at e'; cases e'
        | some ob =>
          rw [eb] at e'
          refine ⟨F, st', ob, ⟨fps', r'.mono q1⟩, eb, ?_⟩
          cases ob with
          | nx st2 => exact fun σ4 H4 ⟨fps4, r4⟩ => ⟨fps4, st2, r4, e'⟩
          | ct st2 => exact fun σ4 H4 ⟨fps4, r4⟩ => ⟨fps4, st2, r4, e'⟩
          | bk st2 => cases e'; exact cc
          | rt d st2 => cases e'; exact cc
end
end FL

namespace FL
open PySem PySem.Spec PyProof.Rows L2

section
variable {K : PySem.W.Frag} {F : Fr} {fps : Fps} {σ : L2.St} {H H1 H' : Hp} {st : Sl}
/-- a list of one's own is changed in place (its node A), at the place i of the footprints -/
theorem StR.bump {i : Nat} {A : Addr} {o : HO} {fp' : List Addr} {st' : Sl} (r : StR K F fps σ H st) (s : Same H H1) (hA : A ∈ fps i) (mo : MutO o)
    (nd : fp'.Nodup) (sub : ∀ a ∈ fp', a ∈ fps i ∨ (H a = none ∧ ∃ o, H1 a = some o ∧ MutO o)) (hl : st'.length = st.length) (hs : ∀ j, j ≠ i → st'[j]? = st[j]?)
    (hok : ∀ sl, st'[i]? = some sl → (∀ B : Addr → Prop, (∀ a o', H a = some o' → ¬ own fps a → ¬ B a) → Same (hideP H (own fps)) (hideP (upd H1 A o) B)) → SlotOk K (upd H1 A o) (hideP (upd H1 A o) (own (setF fps i fp'))) (F.pin i) sl σ[i]? fp') :
    StR K F (setF fps i fp') σ (upd H1 A o) st' := by
  have gen : ∀ B : Addr → Prop, (∀ a o', H a = some o' → ¬ own fps a → ¬ B a) → Same (hideP H (own fps)) (hideP (upd H1 A o) B) := fun B hB a o' e => by
    obtain ⟨e1, e2⟩ := hideP_some.mp e
    refine hideP_some.mpr ⟨hB a o' e2 e1, ?_⟩
    rw [upd_ne (fun z => e1 ⟨i, by rw [z]; exact hA⟩)]
    exact s _ _ e2
  have hide : Same (hideP H (own fps)) (hideP (upd H1 A o) (own (setF fps i fp'))) := gen _ fun a o' e h z => by
    rcases own_setF z with m | z
    · rcases sub a m with m | ⟨m, _⟩
      · exact h ⟨i, m⟩
      · rw [m] at e; cases e
    · exact h z
  refine ⟨r.fr.trans hide, fun j => ?_, fun j j' a m1 m2 => ?_, by rw [hl]; exact r.len, fun j sl e => ?_, fun j a h m => ?_, ?_⟩
  · by_cases e : j = i
    · rw [e, setF_same]; exact nd
    · rw [setF_ne e]; exact r.nd j
  · by_cases e1 : j = i <;> by_cases e2 : j' = i
    · rw [e1, e2]
    · rw [e1, setF_same] at m1; rw [setF_ne e2] at m2
      rcases sub a m1 with m | ⟨m, _⟩
      · exact absurd (r.dj i j' a m m2) (Ne.symm e2)
      · exact absurd m (r.there ⟨j', m2⟩)
    · rw [setF_ne e1] at m1; rw [e2, setF_same] at m2
      rcases sub a m2 with m | ⟨m, _⟩
      · exact absurd (r.dj j i a m1 m) e1
      · exact absurd m (r.there ⟨j, m1⟩)
    · rw [setF_ne e1] at m1; rw [setF_ne e2] at m2
      exact r.dj j j' a m1 m2
  · by_cases e1 : j = i
    · subst e1
      rw [setF_same]
      exact hok sl e gen
    · rw [hs j e1] at e
      rw [setF_ne e1]
      exact (r.ok j sl e).mono hide fun a m => by
        rw [upd_ne (fun z => e1 (r.dj j i a m (by rw [z]; exact hA)))]
        obtain ⟨_, q, mq⟩ := r.isLst ⟨j, m⟩
        rw [q]; exact s _ _ q
  · rw [hl] at h
    by_cases eA : a = A
    · exact ⟨o, by rw [eA, upd_same], mo⟩
    · rw [upd_ne eA]
      by_cases e1 : j = i
      · rw [e1, setF_same] at m
        rcases sub a m with m | ⟨_, q⟩
        · obtain ⟨_, q, mq⟩ := r.isLst ⟨i, m⟩
          exact ⟨_, s _ _ q, mq⟩
        · exact q
      · rw [setF_ne e1] at m
        obtain ⟨_, q, mq⟩ := r.tmp j a h m
        exact ⟨_, s _ _ q, mq⟩
  · obtain ⟨m, hm⟩ := r.fin
    refine ⟨max m (i + 1), fun j h => ?_⟩
    rw [setF_ne (by have := Nat.le_max_right m (i + 1); omega)]
    exact hm j (by have := Nat.le_max_left m (i + 1); omega)

/-! ### list comprehensions -/
def wipeS (st : Sl) : List Nat → Sl
  | [] => st
  | v :: vs => (wipeS st vs).set v .un
def isV0 : Option Slot → Bool
  | some .un => true
  | some (.va 0 _) => true
  | _ => false
theorem wipeS_length (st : Sl) : ∀ vs : List Nat, (wipeS st vs).length = st.length
  | [] => rfl
  | v :: vs => by unfold wipeS; rw [List.length_set, wipeS_length st vs]
theorem wipeS_get {st : Sl} {i : Nat} : ∀ {vs : List Nat}, (wipeS st vs)[i]? = if i ∈ vs ∧ i < st.length then some .un else st[i]?
  | [] => by simp [wipeS]
  | v :: vs => by
    unfold wipeS
    by_cases hi : v = i
    · subst hi
      by_cases hv : v < st.length
      · rw [List.getElem?_set_self (by rw [wipeS_length]; exact hv), if_pos ⟨by simp, hv⟩]
      · rw [List.getElem?_eq_none (by rw [List.length_set, wipeS_length]; omega), if_neg (fun z => hv z.2), List.getElem?_eq_none (by omega)]
    · rw [List.getElem?_set_ne hi, wipeS_get]
      by_cases h : i ∈ vs ∧ i < st.length
      · rw [if_pos h, if_pos ⟨by simp [h.1], h.2⟩]
      · rw [if_neg h, if_neg (fun z => h ⟨(List.mem_cons.mp z.1).resolve_left (Ne.symm hi), z.2⟩)]
theorem wipe_get {σ : L2.St} {i : Nat} : ∀ {vs : List Nat}, (wipe σ vs)[i]? = if i ∈ vs ∧ i < σ.length then some none else σ[i]?
  | [] => by simp [wipe]
  | v :: vs => by
    unfold wipe
    by_cases hi : v = i
    · subst hi
      by_cases hv : v < σ.length
      · rw [List.getElem?_set_self (by rw [wipe_length]; exact hv), if_pos ⟨by simp, hv⟩]
      · rw [List.getElem?_eq_none (by rw [List.length_set, wipe_length]; omega), if_neg (fun z => hv z.2), List.getElem?_eq_none (by omega)]
    · rw [List.getElem?_set_ne hi, wipe_get]
      by_cases h : i ∈ vs ∧ i < σ.length
      · rw [if_pos h, if_pos ⟨by simp [h.1], h.2⟩]
      · rw [if_neg h, if_neg (fun z => h ⟨(List.mem_cons.mp z.1).resolve_left (Ne.symm hi), z.2⟩)]
theorem wipe_but {σ' : L2.St} {I vs : List Nat} (b : But I (wipe σ vs) σ') (hI : ∀ i ∈ I, i ∈ vs) : wipe σ' vs = wipe σ vs := by
  have hl : σ'.length = σ.length := by rw [b.1, wipe_length]
  apply List.ext_getElem?
  intro i
  rw [wipe_get, wipe_get, hl]
  by_cases h : i ∈ vs ∧ i < σ.length
  · rw [if_pos h, if_pos h]
  · rw [if_neg h, if_neg h]
    by_cases hm : i ∈ vs
    · have : σ.length ≤ i := by
        apply Nat.le_of_not_lt
        exact fun z => h ⟨hm, z⟩
      rw [List.getElem?_eq_none (by omega), List.getElem?_eq_none (by omega)]
    · rw [b.2 i fun z => hm (hI i z), wipe_get, if_neg (fun z => hm z.1)]
theorem StR.wipe {vs : List Nat} (r : StR K F fps σ H st) (h : ∀ v ∈ vs, isV0 st[v]? = true) : StR K F fps (L2.wipe σ vs) H (wipeS st vs) := by
  refine ⟨r.fr, r.nd, r.dj, by rw [wipe_length, wipeS_length]; exact r.len, fun i sl e => ?_, fun i a hi m => r.tmp i a (by rw [wipeS_length] at hi; exact hi) m, r.fin⟩
  rw [wipeS_get] at e
  split at e
  · rename_i hv
    cases e
    have h0 := h i hv.1
    cases es : st[i]? with
    | none => rw [es] at h0; cases h0
    | some sl =>
      rw [es] at h0
      cases sl with
      | un => exact r.ok i _ es
      | io k d => cases h0
      | va k d =>
        cases k with
        | zero =>
          obtain ⟨v, _, o⟩ := r.va es
          exact (Own.zero d v _ o).1
        | succ k => cases h0
  · rename_i hv
    have q := r.ok i sl e
    have hl := r.len
    have hi : i < st.length := (List.getElem?_eq_some_iff.mp e).1
    have hw : (L2.wipe σ vs)[i]? = σ[i]? := by
      rw [wipe_get, if_neg (fun z => hv ⟨z.1, by omega⟩)]
    rw [hw]; exact q
end

section
variable {X : Cx} {k : Nat} {kd : Kd} {e a b c tg el : Expr} {es : List Expr} {f g h : EM} {t : TM} {s1 s2 s3 : SM} {stm : Stmt} {rest as bs : List Stmt} {pos p : Pos} {K : PySem.W.Frag} {I : List Nat}
def lcL (m : GM) (t : TM) (f : EM) (st : Sl) : List D → Option (List D)
  | [] => some []
  | d :: ds => (m d st).bind fun st1 => (t st1).bind fun b => if b = true then (f st1).bind fun y => (lcL m t f st ds).map (y :: ·) else lcL m t f st ds
def eLc (vs : List Nat) (its : IM) (m : GM) (t : TM) (f : EM) : EM := fun st => (its st).bind fun ds => if (vs.all (fun v => isV0 st[v]?) && decide (ds.length < 16777216)) = true then (lcL m t f (wipeS st vs) ds).map .lst else none
theorem tF_lc {vs : List Nat} {its : IM} {m : GM} (hI : ∀ i ∈ I, i ∈ vs) {σ : L2.St} {H : Hp} {Q : VK} (hh : tF K (.ow (k + 1)) (eLc vs its m t f) σ H Q) : tLc (tFI K its) (tFG K I m) (tFT K t) (tF K (.ow k) f) vs σ H Q := by
  obtain ⟨F, fps, st, d, r, ed, q⟩ := hh
  unfold eLc at ed
  cases e1 : its st with
  | none => rw [e1] at ed; cases ed
  | some ds =>
    rw [e1] at ed
    have ed : (if (vs.all (fun v => isV0 st[v]?) && decide (ds.length < 16777216)) = true then (lcL m t f (wipeS st vs) ds).map D.lst else none) = some d := ed
    split at ed
    · rename_i hc
      have hc := Bool.and_eq_true_iff.mp hc
      have hv : ∀ v ∈ vs, isV0 st[v]? = true := List.all_eq_true.mp hc.1
      have hlen : ds.length < sizeLine := by rw [sizeLine_eq]; exact of_decide_eq_true hc.2
      cases el : lcL m t f (wipeS st vs) ds with
      | none => rw [el] at ed; cases ed
      | some tot =>
        rw [el] at ed; cases ed
        refine ⟨F, fps, st, ds, r, e1, fun J H1 q1 dl D nD => ?_⟩
        have r1 := r.mono q1
        have rw1 : StR K ⟨hideP H1 (own fps), F.pin⟩ fps (wipe σ vs) H1 (wipeS st vs) := by
          have x := r1.wipe hv
          exact ⟨Same.refl _, x.nd, x.dj, x.len, x.ok, x.tmp, x.fin⟩
        have sD : Same H1 (upd H1 D (.lst [])) := same_upd nD
        obtain ⟨n0, hn0, hn1, rD⟩ : ∃ n0, st.length ≤ n0 ∧ fps n0 = [] ∧ StR K ⟨hideP H1 (own fps), F.pin⟩ (setF fps n0 [D]) (wipe σ vs) (upd H1 D (.lst [])) (wipeS st vs) := by
          obtain ⟨m0, hm0⟩ := r.fin
          have ho : ∀ a, own fps a → H1 a ≠ none := fun a h => r1.there h
          have hide : Same (hideP H1 (own fps)) (hideP (upd H1 D (.lst [])) (own (setF fps (max m0 st.length) [D]))) := hideP_mono sD fun a o e h z => by
            rcases own_setF z with m | z
            · have : a = D := by simpa using m
              rw [this, nD] at e; cases e
            · exact h z
          have hz : fps (max m0 st.length) = [] := hm0 _ (Nat.le_max_left _ _)
          have hge := Nat.le_max_right m0 st.length
          refine ⟨max m0 st.length, hge, hz, hide, fun i => ?_, fun i j a m1 m2 => ?_, rw1.len, fun i sl e => ?_, fun i a h m => ?_, max m0 st.length + 1, fun i h => ?_⟩
          · by_cases e : i = max m0 st.length
            · rw [e, setF_same]; simp
            · rw [setF_ne e]; exact r.nd i
          · by_cases e1 : i = max m0 st.length <;> by_cases e2 : j = max m0 st.length
            · rw [e1, e2]
            · rw [e1, setF_same] at m1; rw [setF_ne e2] at m2
              have : a = D := by simpa using m1
              subst this
              exact absurd nD (ho _ ⟨j, m2⟩)
            · rw [setF_ne e1] at m1; rw [e2, setF_same] at m2
              have : a = D := by simpa using m2
              subst this
              exact absurd nD (ho _ ⟨i, m1⟩)
            · rw [setF_ne e1] at m1; rw [setF_ne e2] at m2
              exact r.dj i j a m1 m2
          · have hi : i < st.length := by have := (List.getElem?_eq_some_iff.mp e).1; rw [wipeS_length] at this; exact this
            rw [setF_ne (by omega)]
            exact (rw1.ok i sl e).mono hide fun a m => by
              obtain ⟨_, q, mq⟩ := rw1.isLst ⟨i, m⟩
              rw [q]; exact sD _ _ q
          · by_cases e : i = max m0 st.length
            · rw [e, setF_same] at m
              have : a = D := by simpa using m
              subst this
              exact ⟨_, upd_same, True.intro⟩
            · rw [setF_ne e] at m
              obtain ⟨_, q, mq⟩ := rw1.tmp i a h m
              exact ⟨_, sD _ _ q, mq⟩
          · rw [setF_ne (by omega)]
            exact hm0 i (by have := Nat.le_max_left m0 st.length; omega)
        refine ⟨fun i n H2 => n = ds.length - i ∧ i ≤ ds.length ∧ Same H1 H2 ∧ ∃ fp done tl, StR K ⟨hideP H1 (own fps), F.pin⟩ (setF fps n0 fp) (wipe σ vs) H2 (wipeS st vs) ∧ (∀ a ∈ fp, H1 a = none) ∧ Own K H2 (hideP H2 (own (setF fps n0 fp))) (.lst done) (k + 1) (.ref D) fp ∧
          done.length ≤ i ∧ lcL m t f (wipeS st vs) (ds.drop i) = some tl ∧ done ++ tl = tot, ⟨ds.length, by simp, Nat.zero_le _, sD, [D], [], tot, rD, fun a m => ?_, ⟨D, [], [], rfl, upd_same, rfl, rfl, rfl⟩, Nat.zero_le _, el, rfl⟩, ?_⟩
        · have : a = D := by simpa using m
          rw [this]; exact nD
        · rintro i n H2 ⟨rfl, hi, sH, fp, done, tl, r2, fr2, o2, hd, e2, et⟩
          have dl' := dl i H2 (own (setF fps n0 fp)) (fun a h => r2.there h) r2.fr
          by_cases hlt : i < ds.length
          · have ed : ds.drop i = ds[i] :: ds.drop (i + 1) := List.drop_eq_getElem_cons hlt
            rw [ed] at e2
            obtain ⟨hgo, hy⟩ := dl'.2 ds[i] (by simp [hlt])
            refine .inr ⟨hgo, fun H3 => Same H1 H3 ∧ ∃ fp done tl, StR K ⟨hideP H1 (own fps), F.pin⟩ (setF fps n0 fp) (wipe σ vs) H3 (wipeS st vs) ∧ (∀ a ∈ fp, H1 a = none) ∧ Own K H3 (hideP H3 (own (setF fps n0 fp))) (.lst done) (k + 1) (.ref D) fp ∧
              done.length ≤ i + 1 ∧ lcL m t f (wipeS st vs) (ds.drop (i + 1)) = some tl ∧ done ++ tl = tot, fun H3 h3 => ⟨ds.length - (i + 1), by omega, rfl, hlt, h3.1, h3.2⟩, fun x H3 y => ?_⟩
            obtain ⟨sx, rx⟩ := hy x H3 y
            have e2 : ((m ds[i] (wipeS st vs)).bind fun st1 => (t st1).bind fun b => if b = true then (f st1).bind fun y => (lcL m t f (wipeS st vs) (ds.drop (i + 1))).map (y :: ·) else lcL m t f (wipeS st vs) (ds.drop (i + 1))) = some tl := e2
            cases em : m ds[i] (wipeS st vs) with
            | none => rw [em] at e2; cases e2
            | some st1 =>
              rw [em] at e2
              refine ⟨_, _, _, ds[i], st1, r2.mono sx, rx, em, fun σ3 fps3 r3 sm bt bf => ⟨wipe_but bt hI, ?_⟩⟩
              have e2 : ((t st1).bind fun b => if b = true then (f st1).bind fun y => (lcL m t f (wipeS st vs) (ds.drop (i + 1))).map (y :: ·) else lcL m t f (wipeS st vs) (ds.drop (i + 1))) = some tl := e2
              cases etb : t st1 with
              | none => rw [etb] at e2; cases e2
              | some bb =>
                rw [etb] at e2
                refine ⟨_, fps3, st1, bb, r3, etb, fun H4 s4 => ?_⟩
                have s34 := sx.trans s4
                cases bb with
                | false =>
                  refine iteF ?_
                  have r4 := r2.mono s34
                  exact ⟨sH.trans s34, fp, done, tl, r4, fr2, Own.mono (hideP_mono s34 fun _ _ _ h => h) _ _ _ _ (fun a m => by
                    obtain ⟨_, q, _⟩ := r2.isLst ⟨n0, by rw [setF_same]; exact m⟩
                    rw [q]; exact s34 _ _ q) o2, by omega, e2, et⟩
                | true =>
                  refine iteT ?_
                  have e2 : ((f st1).bind fun y => (lcL m t f (wipeS st vs) (ds.drop (i + 1))).map (y :: ·)) = some tl := e2
                  cases ef : f st1 with
                  | none => rw [ef] at e2; cases e2
                  | some yd =>
                    rw [ef] at e2
                    refine ⟨_, fps3, st1, yd, r3.mono s4, ef, fun v H5 s5 w5 => ?_⟩
                    have s35 := s34.trans s5
                    obtain ⟨fq, nq, fq0, oq⟩ := w5
                    have e2 : (lcL m t f (wipeS st vs) (ds.drop (i + 1))).map (yd :: ·) = some tl := e2
                    cases er : lcL m t f (wipeS st vs) (ds.drop (i + 1)) with
                    | none => rw [er] at e2; cases e2
                    | some tl2 =>
                      rw [er] at e2; cases e2
                      obtain ⟨D', acc, fpa, hD', hacc, efp, oacc⟩ := o2
                      cases hD'
                      have hDm : D ∈ fp := by rw [efp]; exact List.mem_cons_self
                      have hD5 : H5 D = some (.lst acc) := s35 _ _ hacc
                      refine ⟨acc, hD5, by have := oacc.len; omega, ?_⟩
                      have fq2 : ∀ a ∈ fq, H2 a = none := fun a m => s34.free (fq0 a m)
                      have dis : ∀ a, a ∈ fp → a ∈ fq → False := fun a m m2 => by
                        obtain ⟨_, q, _⟩ := r2.isLst ⟨n0, by rw [setF_same]; exact m⟩
                        rw [fq2 a m2] at q; cases q
                      have hDq : ∀ a ∈ fq, a ≠ D := fun a m z => dis D hDm (z ▸ m)
                      have nfp : fp.Nodup := by have := r2.nd n0; rw [setF_same] at this; exact this
                      have nall : (fp ++ fq).Nodup := List.nodup_append.mpr ⟨nfp, nq, fun a m b m2 e => dis a m (e ▸ m2)⟩
                      have lstq := Own.isLst yd k v fq oq
                      have rB := r2.bump (i := n0) (A := D) (o := .lst (acc ++ [v])) (fp' := fp ++ fq) (st' := wipeS st vs) s35 (by rw [setF_same]; exact hDm) True.intro nall (fun a m => by
                        rcases List.mem_append.mp m with m | m
                        · rw [setF_same]; exact .inl m
                        · exact .inr ⟨fq2 a m, lstq a m⟩) rfl (fun _ _ => rfl) (fun sl e => by
                          exfalso
                          have := (List.getElem?_eq_some_iff.mp e).1
                          rw [wipeS_length] at this
                          omega)
                      have eset : setF (setF fps n0 fp) n0 (fp ++ fq) = setF fps n0 (fp ++ fq) := by
                        funext j
                        by_cases ej : j = n0
                        · subst ej; rw [setF_same, setF_same]
                        · rw [setF_ne ej, setF_ne ej, setF_ne ej]
                      rw [eset] at rB
                      have hideB : Same (hideP H2 (own (setF fps n0 fp))) (hideP (upd H5 D (.lst (acc ++ [v]))) (own (setF fps n0 (fp ++ fq)))) := fun a o e => by
                        obtain ⟨z1, z2⟩ := hideP_some.mp e
                        have aD : a ≠ D := fun z => z1 ⟨n0, by rw [setF_same, z]; exact hDm⟩
                        refine hideP_some.mpr ⟨fun z => ?_, by rw [upd_ne aD]; exact s35 _ _ z2⟩
                        rcases own_setF z with m | ⟨j, m⟩
                        · rcases List.mem_append.mp m with m | m
                          · exact z1 ⟨n0, by rw [setF_same]; exact m⟩
                          · rw [fq2 a m] at z2; cases z2
                        · by_cases ej : j = n0
                          · subst ej; rw [hn1] at m; cases m
                          · exact z1 ⟨j, by rw [setF_ne ej]; exact m⟩
                      refine ⟨fun a o e => ?_, fp ++ fq, done ++ [yd], tl2, rB, fun a m => ?_, ?_, ?_, rfl, ?_⟩
                      · have : a ≠ D := fun z => by rw [z, fr2 D hDm] at e; cases e
                        rw [upd_ne this]
                        exact s35 _ _ (sH _ _ e)
                      · rcases List.mem_append.mp m with m | m
                        · exact fr2 a m
                        · exact sH.free (fq2 a m)
                      · refine ⟨D, acc ++ [v], fpa ++ fq, rfl, upd_same, by rw [efp]; rfl, OwnL.app (OwnL.mono hideB done k acc fpa (fun a m => ?_) oacc) (OwnL.one (Own.mono (fun a o e => ?_) yd k v fq (fun a m => upd_ne (hDq a m)) oq))⟩
                        · have m' : a ∈ fp := by rw [efp]; exact List.mem_cons_of_mem _ m
                          have aD : a ≠ D := fun z => by
                            rw [efp] at nfp
                            exact (List.nodup_cons.mp nfp).1 (z ▸ m)
                          rw [upd_ne aD]
                          obtain ⟨_, q, _⟩ := r2.isLst ⟨n0, by rw [setF_same]; exact m'⟩
                          rw [q]; exact s35 _ _ q
                        · -- what the element reads
                          obtain ⟨z1, z2⟩ := hideP_some.mp e
                          have n3 : ∀ j, j ∉ I → fps3 j = setF fps n0 fp j := fun j hj => by rw [bf j, if_neg hj]
                          have hn0I : n0 ∉ I := fun z => by
                            have h0 := hv n0 (hI n0 z)
                            rw [List.getElem?_eq_none hn0] at h0; cases h0
                          have aD : a ≠ D := fun z => z1 (.inr ⟨n0, by rw [n3 n0 hn0I, setF_same, z]; exact hDm⟩)
                          refine hideP_some.mpr ⟨fun z => ?_, by rw [upd_ne aD]; exact z2⟩
                          rcases own_setF z with m | ⟨j, m⟩
                          · rcases List.mem_append.mp m with m | m
                            · exact z1 (.inr ⟨n0, by rw [n3 n0 hn0I, setF_same]; exact m⟩)
                            · exact z1 (.inl m)
                          · by_cases ej : j = n0
                            · subst ej; rw [hn1] at m; cases m
                            · by_cases hjI : j ∈ I
                              · -- a slot of the block: it had nothing
                                have h0 := hv j (hI j hjI)
                                cases es : st[j]? with
                                | none => rw [es] at h0; cases h0
                                | some sl =>
                                  rw [es] at h0
                                  cases sl with
                                  | un => rw [show fps j = [] from r.ok j _ es] at m; cases m
                                  | io k d => cases h0
                                  | va k d =>
                                    cases k with
                                    | zero =>
                                      obtain ⟨v', _, o⟩ := r.va es
                                      rw [(Own.zero d v' _ o).1] at m; cases m
                                    | succ k => cases h0
                              · exact z1 (.inr ⟨j, by rw [n3 j hjI, setF_ne ej]; exact m⟩)
                      · rw [List.length_append]; show done.length + 1 ≤ i + 1; omega
                      · rw [List.append_assoc]; exact et
          · have hz : ds.length ≤ i := by omega
            rw [List.drop_eq_nil_of_le hz] at e2
            cases e2
            rw [List.append_nil] at et
            subst et
            refine .inl ⟨dl'.1 hz, q _ H2 (q1.trans sH) ⟨fp, by have := r2.nd n0; rw [setF_same] at this; exact this, fun a m => q1.free (fr2 a m), Own.mono (hideP_mono (Same.refl _) fun a o _ h z => h ?_) _ _ _ _ (fun _ _ => rfl) o2⟩⟩
            exact own_setF' hn1 z
    · cases ed
theorem fe_lc {its : IM} {m : GM} {iter : Expr} {ifs : List Expr} {scope : Scope} {ow : List (Str × Nat)} (hc : X.calm = true) (hN : X.N.Nodup) (hi : FI X tg iter its) (ok : BlkOk X.N X.env.scope scope ow) (hI : ∀ i ∈ I, i ∈ ow.map (·.2))
    (hg : ∀ (s : Shared) (H : Hp) (C : Addr) (cl : List (Str × Addr)) (fp : List Addr), FG (X.blk s H scope (compEnvC scope cl C X.env) fp) I tg m) (ht : ∀ (s : Shared) (H : Hp) (C : Addr) (cl : List (Str × Addr)) (fp : List Addr), PTs (X.blk s H scope (compEnvC scope cl C X.env) fp) ifs (tFT X.K t))
    (he : ∀ (s : Shared) (H : Hp) (C : Addr) (cl : List (Str × Addr)) (fp : List Addr), FE (X.blk s H scope (compEnvC scope cl C X.env) fp) (.ow k) el f) (hs : ∀ x, foldedSetIterable iter X.env x = pure x := by intro _; rfl) :
    FE X (.ow (k + 1)) (.ListComp el [⟨tg, iter, ifs, 0⟩] scope pos) (eLc (ow.map (·.2)) its m t f) :=
  PE.weak (pe_lc hc hN hi ok hg ht he hs) fun _ _ _ => tF_lc hI
def qYes : TM := fun _ => some true
theorem pts_yes : PTs X [] (tFT X.K qYes) := ⟨fun pins s σ H Q I hw => pts_nil.run pins s σ H Q I (by
  obtain ⟨F, fps, st, b, r, e, q⟩ := hw
  cases e
  exact q H (Same.refl H))⟩
theorem pts_t (hc : FT X c t) : PTs X [c] (tFT X.K t) := pts_one hc
theorem fs_setLc {i : Nat} {y : Str} {py spos : Pos} {k' : Nat} {its : IM} {m : GM} {iter : Expr} {ifs : List Expr} {scope : Scope} {ow : List (Str × Nat)} (hc : X.calm = true) (hN : X.N.Nodup) (hy : X.N[i]? = some y) (hyl : X.env.scope.names.lookup y = some .local)
    (hsw : swapsWith (.ListComp el [⟨tg, iter, ifs, 0⟩] scope pos) (some (.Name y py)) spos.line X.env = pure true) (hi : FI X tg iter its) (ok : BlkOk X.N X.env.scope scope ow) (hI : ∀ i ∈ I, i ∈ ow.map (·.2))
    (hg : ∀ (s : Shared) (H : Hp) (C : Addr) (cl : List (Str × Addr)) (fp : List Addr), FG (X.blk s H scope (compEnvC scope cl C X.env) fp) I tg m) (ht : ∀ (s : Shared) (H : Hp) (C : Addr) (cl : List (Str × Addr)) (fp : List Addr), PTs (X.blk s H scope (compEnvC scope cl C X.env) fp) ifs (tFT X.K t))
    (he : ∀ (s : Shared) (H : Hp) (C : Addr) (cl : List (Str × Addr)) (fp : List Addr), FE (X.blk s H scope (compEnvC scope cl C X.env) fp) (.ow k') el f) (hs : ∀ x, foldedSetIterable iter X.env x = pure x := by intro _; rfl) :
    FS X k (.Assign [.Name y py] (.ListComp el [⟨tg, iter, ifs, 0⟩] scope pos) spos) (sSet i (k' + 1) (eLc (ow.map (·.2)) its m t f)) :=
  PS.weak (ps_setLc hc hN hy hyl hsw hi ok hg ht he hs) fun Dn σ H h => tF_lc (K := X.K) hI (tF_set h)
end
end FL

namespace FL
open PySem PySem.Spec PyProof.Rows L2

/-! ### defs -/
/-- a def of n parameters computes m; the lists of the upper k levels of what it hands back are new -/
def spF (K : PySem.W.Frag) (n k : Nat) (m : List D → Option D) : Sp := fun vs H Q _ => vs.length = n ∧ ∃ ds d, RepL K H ds vs ∧ m ds = some d ∧
  ∀ v H', Same H H' → (∃ fp : List Addr, fp.Nodup ∧ (∀ a ∈ fp, H a = none) ∧ Own K H' (hideP H' (· ∈ fp)) d k v fp) → Q v H'
def fnRun (n : Nat) (g : SM) : List D → Option D := fun ds => match g (ds.map (Slot.va 0) ++ List.replicate (n - ds.length) .un) with
  | some (.rt d _) => some d
  | some (.nx _) => some .non
  | _ => none
section
variable {P : Program} {w : World} {K : PySem.W.Frag} {mg : Str → Option Value} {base : Heap} {H : Hp}
theorem rep_start : ∀ {ds : List D} {vs : List V} {F : Hp} (i : Nat) (d : D), RepL K F ds vs → ds[i]? = some d → ∃ v, (vs.map some)[i]? = some (some v) ∧ Rep K F d v := fun i d r e => by
  obtain ⟨v, h1, h2⟩ := r.get e
  exact ⟨v, by rw [List.getElem?_map, h1]; rfl, h2⟩
theorem StR.init {N : List Str} {ds : List D} {vs : List V} (r : RepL K H ds vs) : StR K ⟨H, fun _ => .non⟩ (fun _ => []) (L2.start N vs) H (ds.map (Slot.va 0) ++ List.replicate (N.length - ds.length) .un) := by
  have hl := r.length
  have e0 : hideP H (own fun _ => []) = H := by
    funext a
    exact hideP_not fun ⟨_, m⟩ => by cases m
  refine ⟨by rw [e0]; exact Same.refl H, fun _ => List.nodup_nil, fun _ _ _ m => (by cases m), ?_, fun i sl e => ?_, fun i a _ m => (by cases m), 0, fun _ _ => rfl⟩
  · unfold L2.start
    simp only [List.length_append, List.length_map, List.length_replicate, hl]
  · rw [e0]
    by_cases hi : i < ds.length
    · rw [List.getElem?_append_left (by simpa using hi), List.getElem?_map] at e
      cases ed : ds[i]? with
      | none => rw [ed] at e; cases e
      | some d =>
        rw [ed] at e; cases e
        obtain ⟨v, h1, h2⟩ := r.get ed
        refine ⟨v, ?_, Own.shared d v h2⟩
        unfold L2.start
        rw [List.getElem?_append_left (by simpa [hl] using hi), List.getElem?_map, h1]
        rfl
    · rw [List.getElem?_append_right (by simpa using Nat.le_of_not_lt hi)] at e
      rw [List.getElem?_replicate] at e
      split at e
      · cases e; exact rfl
      · cases e
theorem RetOk.plain {F : Fr} {k : Nat} {d : D} {v : V} {st : Sl} {H' : Hp} (h : RetOk K F H' k d v st) : Same F.G H' ∧ ∃ fp : List Addr, fp.Nodup ∧ (∀ a ∈ fp, F.G a = none) ∧ Own K H' (hideP H' (· ∈ fp)) d k v fp := by
  obtain ⟨fps, fp, h1, _, _, _, h5, h6, _⟩ := h
  refine ⟨h5.trans hideP_same, fp, h1, fun a m => ?_, Own.mono (hideP_mono (Same.refl _) fun a o _ h z => h (.inl z)) d k v fp (fun _ _ => rfl) h6⟩
  cases e : F.G a with
  | none => rfl
  | some o => exact ((hideP_some.mp (h5 _ _ e)).1 (.inl m)).elim
theorem fn_ok {x qual : Str} {st : Stmt} {f : Addr} {fd : FuncData} {N ps : List Str} {k : Nat} (F : Fun K x qual st f fd) (S : FnScope N ps (defScope st)) (kr : Nat) (g : SM)
    (hb : ∀ (cdv : Value) (A : Around) (outer : List Env) (s : Shared) (H : Hp) (E : XK), Room k (A.deeper (envOfC qual (defScope st) s.heap.objs.size f cdv)) → FSs (cxOf CX0 P w K mg base N qual (defScope st) f cdv A outer s H E).nox kr (defBody st) g) :
    FnOk P w K mg base CX0 (k + 1) f fd ps (spF K ps.length kr (fnRun N.length g)) := by
  refine F.ok S (fun vs H Q E h => h.1) (fun cdv A outer s H vs Q E hr h => ⟨_, hb cdv A outer s H E hr, ?_⟩)
  obtain ⟨hl, ds, d, r, e, q⟩ := h
  unfold fnRun at e
  cases eg : g (ds.map (Slot.va 0) ++ List.replicate (N.length - ds.length) .un) with
  | none => rw [eg] at e; cases e
  | some o =>
    rw [eg] at e
    refine ⟨⟨H, fun _ => .non⟩, _, o, ⟨_, StR.init r⟩, eg, ?_⟩
    cases o with
    | nx st' =>
      cases e
      intro σ' H' ⟨fps', r'⟩
      obtain ⟨h1, h2⟩ := RetOk.plain (k := kr) (r'.ret (Same.refl H') (VR.sc (d := .non) rfl rfl))
      exact q .non H' h1 h2
    | rt d' st' =>
      cases e
      intro v H' h
      obtain ⟨h1, h2⟩ := h.plain
      exact q v H' h1 h2
    | bk _ => cases e
    | ct _ => cases e
end

section
variable {X : Cx} {k n j : Nat} {kd : Kd} {e a b c tg el : Expr} {es : List Expr} {f g h : EM} {fa : AM} {pos p : Pos} {x : Str} {K : PySem.W.Frag} {m : List D → Option D} {fn : Addr} {fd : FuncData} {ps : List Str}
def eCall (m : List D → Option D) (f : AM) : EM := fun st => (f st).bind m
theorem tF_call {σ : L2.St} {H : Hp} {Q : VK} {E : XK} {dds : List D} (hd : dds.all sc = true) (h : tF K .rd (eCall (fun ds => m (ds ++ dds)) fa) σ H Q) (hl : ∀ st ds, fa st = some ds → ds.length + dds.length = n) : tCall (spF K n k m) (dds.map scV) E (tFA K .rd fa) σ H Q := by
  obtain ⟨F, fps, st, d, r, ed, q⟩ := h
  unfold eCall at ed
  cases e1 : fa st with
  | none => rw [e1] at ed; cases ed
  | some ds =>
    rw [e1] at ed
    refine ⟨F, fps, st, ds, r, e1, fun vs H1 s1 w => ⟨?_, ds ++ dds, d, ?_, ed, fun v H2 s2 ⟨fp, _, _, o⟩ => q v H2 (s1.trans s2) (Own.rep hideP_same d k v fp (fun _ _ => rfl) o)⟩⟩
    · rw [List.length_append, List.length_map, VRL.length w]; exact hl st ds e1
    · refine RepL.app w ?_
      clear e1 ed hl
      induction dds with
      | nil => exact rfl
      | cons d0 r0 ih =>
        have hd' : (sc d0 && r0.all sc) = true := hd
        have h2 := Bool.and_eq_true_iff.mp hd'
        refine ⟨scV d0, r0.map scV, rfl, ?_, ih h2.2⟩
        have h1 := h2.1
        cases d0 <;> first | rfl | cases h1
/-- how many -/
def ALen (n : Nat) (f : AM) : Prop := ∀ st ds, f st = some ds → ds.length = n
theorem alen_nil : ALen 0 aNil := fun st ds e => by cases e; rfl
theorem alen_cons {f : EM} {g : AM} (h : ALen n g) : ALen (n + 1) (aCons f g) := fun st ds e => by
  unfold aCons at e
  obtain ⟨x, xs, _, e2, e3⟩ := bind2 e
  cases e3
  rw [List.length_cons, h st xs e2]
theorem fe_call (G : FnOk X.prog X.w X.K X.mg X.base CX0 j fn fd ps (spF X.K n k m)) (hr : Room j X.A) (hg : Gl X x) (hm : X.mg x = some (.ref fn)) (hk : PySem.W.keepIn X.K (.ref fn) = true) (hb : Binds X.K fd ps []) (ha : FA X .rd (e :: es) fa) (hl : ALen n fa) (hdb : (x == ("__debug__" : Str)) = false := by decide)
    (he : starEach (e :: es) X.env = (false, eval e X.env) :: starEach es X.env := by rfl) (hpl : (backTo pos (starEach es X.env)).any (·.1) = false := by rfl) : FE X .rd (.Call (.Name x p) (e :: es) [] pos) (eCall m fa) :=
  PE.weak (pe_call G hr hg hm hk hb .nil (pass0 (X := X)) ha hdb he hpl) fun σ H Q h => by
    have := tF_call (dds := []) (m := m) (k := k) (n := n) (E := E0) rfl (by simpa using h) (fun st ds e => by simpa using hl st ds e)
    simpa using this
def eCallO (k : Nat) (m : List D → Option D) (f : AM) : EM := fun st => ((f st).bind m).bind (chk k)
theorem Own.rebase {H : Hp} {d : D} {k : Nat} {v : V} {fp : List Addr} {B : Addr → Prop} (f : full d k = true) (hB : ∀ a, B a → ∃ o, H a = some o ∧ MutO o) (h : Own K H (hideP H (· ∈ fp)) d k v fp) : Own K H (hideP H B) d k v fp :=
  Own.move (fun a o e n => (hideP_keeps hB) a o (hideP_some.mp e).2 n) d k v fp f h
theorem fe_callO (G : FnOk X.prog X.w X.K X.mg X.base CX0 j fn fd ps (spF X.K n k m)) (hr : Room j X.A) (hg : Gl X x) (hm : X.mg x = some (.ref fn)) (hk : PySem.W.keepIn X.K (.ref fn) = true) (hb : Binds X.K fd ps []) (ha : FA X .rd (e :: es) fa) (hl : ALen n fa) (hdb : (x == ("__debug__" : Str)) = false := by decide)
    (he : starEach (e :: es) X.env = (false, eval e X.env) :: starEach es X.env := by rfl) (hpl : (backTo pos (starEach es X.env)).any (·.1) = false := by rfl) : FE X (.ow k) (.Call (.Name x p) (e :: es) [] pos) (eCallO k m fa) :=
  PE.weak (pe_call G hr hg hm hk hb .nil (pass0 (X := X)) ha hdb he hpl) fun σ H Q ⟨F, fps, st, d, r, ed, q⟩ => by
    unfold eCallO at ed
    obtain ⟨ed, fl⟩ := chk_some ed
    cases e1 : fa st with
    | none => rw [e1] at ed; cases ed
    | some ds =>
      rw [e1] at ed
      refine ⟨F, fps, st, ds, r, e1, fun vs H1 s1 w => ⟨by simpa using (VRL.length w).trans (hl st ds e1), ds, d, by rw [List.append_nil]; exact w, ed, fun v H2 s2 ⟨fp, n, fr, o⟩ => ?_⟩⟩
      refine q v H2 (s1.trans s2) ⟨fp, n, fun a m => s1.free (fr a m), Own.rebase fl (fun a z => ?_) o⟩
      rcases z with m | z
      · exact Own.isLst d k v fp o a m
      · exact (r.mono (s1.trans s2)).isLst z
/-- a call while no slot owns a list: what comes is shared -/
def noOwn : Sl → Bool
  | [] => true
  | .un :: r => noOwn r
  | .va 0 _ :: r => noOwn r
  | _ => false

/-! ### lists changed in place -/
def slD : Option Slot → Option (Nat × D)
  | some (.va k d) => some (k, d)
  | some (.io k d) => some (k, d)
  | _ => none
def putD (d : D) : Slot → Slot
  | .va k _ => .va k d
  | .io k _ => .io k d
  | .un => .un
/-- the datum of a slot replaced -/
def setD (st : Sl) (i : Nat) (d : D) : Sl := match st[i]? with
  | some s => st.set i (putD d s)
  | none => st
theorem setD_length {st : Sl} {i : Nat} {d : D} : (setD st i d).length = st.length := by
  unfold setD
  split
  · rw [List.length_set]
  · rfl
theorem setD_ne {st : Sl} {i j : Nat} {d : D} (h : j ≠ i) : (setD st i d)[j]? = st[j]? := by
  unfold setD
  split
  · rw [List.getElem?_set_ne (Ne.symm h)]
  · rfl
/-- the slot i holds d at level k, at v -/
theorem StR.sl {F : Fr} {fps : Fps} {σ : L2.St} {H : Hp} {st : Sl} {i k : Nat} {d : D} (r : StR K F fps σ H st) (e : slD st[i]? = some (k, d)) : ∃ v, σ[i]? = some (some v) ∧ Own K H (hideP H (own fps)) d k v (fps i) := by
  unfold slD at e
  split at e
  · cases e; exact r.va (by assumption)
  · cases e
    obtain ⟨h1, h2⟩ := r.io (by assumption)
    exact ⟨_, h1, h2⟩
  · cases e
theorem slD_put {F' H' : Hp} {p v : V} {st : Sl} {i k : Nat} {d d' : D} {sl : Slot} {sv : Option (Option V)} {fp : List Addr} {G G' : Hp} {fpo : List Addr} (e : slD st[i]? = some (k, d)) (h0 : ∀ s, st[i]? = some s → SlotOk K G G' p s sv fpo) (ev : sv = some (some v)) (e2 : (setD st i d')[i]? = some sl) (o : Own K H' F' d' k v fp) : SlotOk K H' F' p sl sv fp := by
  unfold setD at e2
  cases es : st[i]? with
  | none => rw [es] at e; cases e
  | some s =>
    rw [es] at e e2
    have e2 : (st.set i (putD d' s))[i]? = some sl := e2
    rw [List.getElem?_set_self (List.getElem?_eq_some_iff.mp es).1] at e2
    cases e2
    cases s with
    | un => cases e
    | va k' d0 =>
      cases e
      exact ⟨v, ev, o⟩
    | io k' d0 =>
      cases e
      obtain ⟨h1, _⟩ := h0 _ es
      rw [ev] at h1
      cases h1
      exact ⟨ev, o⟩
/-- x.append(e) -/
def sApp (i : Nat) (k : Nat) (f : EM) : SM := fun st => match slD st[i]? with
  | some (k', .lst ds) => if (k' == k + 1 && decide (ds.length < 16777216)) = true then (f st).map fun d => .nx (setD st i (.lst (ds ++ [d]))) else none
  | _ => none
theorem tF_app {i k kr : Nat} {Dn : Ends} {σ : L2.St} {H : Hp} (h : tFS K kr (sApp i k f) Dn σ H) : tDrop (tBM K "list" rAppend (tVar i) (tCons (tF K (.ow k) f) tNil)) Dn σ H := by
  obtain ⟨F, st, o, ⟨fps, r⟩, e, c⟩ := h
  unfold sApp at e
  split at e
  · rename_i k' ds hs
    split at e
    · rename_i hk
      have hk := Bool.and_eq_true_iff.mp hk
      have ek : k' = k + 1 := by simpa using hk.1
      subst ek
      have hlen : ds.length < sizeLine := by rw [sizeLine_eq]; exact of_decide_eq_true hk.2
      cases e1 : f st with
      | none => rw [e1] at e; cases e
      | some d =>
        rw [e1] at e; cases e
        obtain ⟨v0, ev, L, xs, fpa, eL, hL, efp, oL⟩ := r.sl hs
        subst eL
        refine ⟨.ref L, ev, .inl ⟨rfl, xs, .inl (.inl hL)⟩, F, fps, st, d, r, e1, fun v H1 s1 w => ?_⟩
        obtain ⟨fq, nq, fr, oq⟩ := w
        refine ⟨L, xs, v, rfl, rfl, s1 _ _ hL, by rw [oL.len]; exact hlen, ?_⟩
        have hm : L ∈ fps i := by rw [efp]; exact List.mem_cons_self
        have dis : ∀ a, a ∈ fps i → a ∈ fq → False := fun a m m2 => r.there ⟨i, m⟩ (fr a m2)
        have nall : (fps i ++ fq).Nodup := List.nodup_append.mpr ⟨r.nd i, nq, fun a m b m2 e => dis a m (e ▸ m2)⟩
        refine c σ _ ⟨setF fps i (fps i ++ fq), r.bump (A := L) (o := .lst (xs ++ [v])) (fp' := fps i ++ fq) s1 hm True.intro nall (fun a m => ?_) setD_length (fun j hj => setD_ne hj) fun sl e2 gen => ?_⟩
        · rcases List.mem_append.mp m with m | m
          · exact .inl m
          · exact .inr ⟨fr a m, Own.isLst d k v fq oq a m⟩
        · refine slD_put hs (fun s es => r.ok i s es) ev e2 ?_
          have nin : ∀ a o', H a = some o' → ¬ own fps a → ¬ own (setF fps i (fps i ++ fq)) a := fun a o' e h z => by
            rcases own_setF z with m | z
            · rcases List.mem_append.mp m with m | m
              · exact h ⟨i, m⟩
              · rw [fr a m] at e; cases e
            · exact h z
          refine ⟨L, xs ++ [v], fpa ++ fq, rfl, upd_same, by rw [efp]; rfl, OwnL.app (OwnL.mono (gen _ nin) ds k xs fpa (fun a m => ?_) oL) (OwnL.one (Own.mono (fun a o' e => ?_) d k v fq (fun a m => upd_ne fun z => dis L hm (z ▸ m)) oq))⟩
          · have m' : a ∈ fps i := by rw [efp]; exact List.mem_cons_of_mem _ m
            have aL : a ≠ L := fun z => by
              have := r.nd i
              rw [efp] at this
              exact (List.nodup_cons.mp this).1 (z ▸ m)
            rw [upd_ne aL]
            obtain ⟨_, q, _⟩ := r.isLst ⟨i, m'⟩
            rw [q]; exact s1 _ _ q
          · obtain ⟨z1, z2⟩ := hideP_some.mp e
            have aL : a ≠ L := fun z => z1 (.inr ⟨i, z ▸ hm⟩)
            refine hideP_some.mpr ⟨fun z => ?_, by rw [upd_ne aL]; exact z2⟩
            rcases own_setF z with m | z
            · rcases List.mem_append.mp m with m | m
              · exact z1 (.inr ⟨i, m⟩)
              · exact z1 (.inl m)
            · exact z1 (.inr z)
    · cases e
  · cases e
theorem fs_app {i kr : Nat} {ec : Expr} (hp : PE X ec (tBM X.K "list" rAppend (tVar i) (tCons (tF X.K (.ow k) f) tNil))) (hsw : swapsWith ec none pos.line X.env = pure false := by rfl) :
    FS X kr (.Expr ec pos) (sApp i k f) := PS.weak (ps_expr hp hsw) fun _ _ _ => tF_app
end
end FL

namespace FL
open PySem PySem.Spec PyProof.Rows L2
/-- the law's promise from its mirror's answer -/
theorem sp_of {K : PySem.W.Frag} {k : Nat} {m : List D → Option D} {H : Hp} {a : Addr} {ns : List Int} {E : XK} (hm : m [.scr ns] = some (.bl true)) (hO : Only H) (hS : SqL K H a (ns.map V.int)) : spF K 1 k m [.ref a] H (fun v _ => v = .bl true) E := by
  refine ⟨rfl, [.scr ns], .bl true, ⟨.ref a, [], rfl, ⟨a, rfl, ?_⟩, rfl⟩, hm, fun v H' _ ⟨fp, _, _, o⟩ => o.2⟩
  rcases hS with (h | ⟨o, h⟩) | h
  · rcases hO a with z | ⟨o, xs, z⟩
    · rw [h] at z; cases z
    · rw [h] at z; cases z
  · exact .inl ⟨o, h⟩
  · exact .inr h
end FL

namespace FL
open PySem PySem.Spec PyProof.Rows L2

/-! ### list(range(..)) -/
def PRgC (X : Cx) (e : Expr) (t : L2.St → Hp → (Int → Int → Int → Hp → Prop) → Prop) : Prop :=
  ∀ (pins : List (Addr × Obj)) (s : Shared) (σ : L2.St) (H : Hp) (Q : Int → Int → Int → Hp → Prop), Inv X pins σ H s → t σ H Q →
    wpAny (model X.prog X.w) X.A (eval e X.env) (fun x s' => ∃ r a b c t u v H', x = .ref r ∧ IsRange s'.heap r a b c t u v ∧ Inv X pins σ H' s' ∧ Q a b c H') X.xe s
def rgVC (a c : Int) (n : Nat) : List V := (List.range n).map fun i => V.int (a + (i : Nat) * c)
theorem vals_rgC {a c : Int} {n : Nat} {acc : Array Value} (h : ItemsOf (fun i v => ∃ t, v = .int (a + i * c) t) acc n) : Vals (rgVC a c n) acc.toList := by
  have e : acc.toList.length = n := by rw [Array.length_toList]; exact h.1
  unfold rgVC
  rw [← e]
  refine vals_of_get acc.toList _ fun j u hj => ?_
  obtain ⟨t, rfl⟩ := h.2 j u (by rw [← hj, Array.getElem?_toList])
  exact ⟨t, rfl⟩
def rgOkC (a b c : Int) : Bool := decide (c ≠ 0) && decide (c.natAbs < 1073741824) && Builtin.Range.small a b c && decide (0 ≤ Builtin.Range.rangeSize a b c) && decide (Builtin.Range.rangeSize a b c ≤ 16777216)
def mLR (a b c : Int) : Option D := if rgOkC a b c = true then some (.lst (rngL a c (Builtin.Range.rangeSize a b c).toNat)) else none
def mLRng1 : D → Option D
  | .int j => mLR 0 j 1
  | _ => none
def mLRng2 (x y : D) : Option D := match x, y with
  | .int i, .int j => mLR i j 1
  | _, _ => none
def mLRng3 (x y z : D) : Option D := match x, y, z with
  | .int i, .int j, .int c => mLR i j c
  | _, _, _ => none
def eTri (m : D → D → D → Option D) (f g h : EM) : EM := fun st => (f st).bind fun x => (g st).bind fun y => (h st).bind fun z => m x y z
section
variable {X : Cx} {k : Nat} {kd kd1 kd2 : Kd} {e a b c tg : Expr} {es : List Expr} {f g h : EM} {fa : AM} {pos p p2 : Pos} {K : PySem.W.Frag}
theorem rng_rep {H : Hp} (a c : Int) : ∀ l : List Nat, RepL K H (l.map fun (i : Nat) => D.int (a + (i : Int) * c)) (l.map fun i => V.int (a + (i : Nat) * c))
  | [] => rfl
  | i :: l => ⟨_, _, rfl, rfl, rng_rep a c l⟩
theorem rng_flat (a c : Int) : ∀ l : List Nat, fullL (l.map fun (i : Nat) => D.int (a + (i : Int) * c)) 0 = true
  | [] => rfl
  | _ :: l => rng_flat a c l
def tLR (te : L2.St → Hp → (Int → Int → Int → Hp → Prop) → Prop) : TE := fun σ H Q => te σ H fun a b c H1 => rgOkC a b c = true ∧ ∀ q, H1 q = none → Q (.ref q) (upd H1 q (.lst (rgVC a c (Builtin.Range.rangeSize a b c).toNat)))
theorem pe_lR {te : L2.St → Hp → (Int → Int → Int → Hp → Prop) → Prop} (hc : X.calm = true) (hg : Gl X "list") (hm : X.mg "list" = none) (he : PRgC X e te) (na : starEach [e] X.env = (false, eval e X.env) :: starEach [] X.env := by rfl) : PE X (.Call (.Name "list" p) [e] [] pos) (tLR te) := by
  refine ⟨fun pins s σ H Q I h => ?_⟩
  refine Call_ (ld_blt I hg hm boot_list (PyProof.Rows.callWith_type1 (args_cons (thn (he pins s σ H _ I h) fun x s1 ⟨r, a, b, c, t, u, v, H1, ex, hr, I1, ok, q⟩ => args_nil ?_) na) na))
  subst ex
  unfold rgOkC at ok
  simp only [Bool.and_eq_true, decide_eq_true_eq] at ok
  obtain ⟨⟨⟨⟨o1, o2⟩, o3⟩, o4⟩, o5⟩ := ok
  refine call_list_range (n := (Builtin.Range.rangeSize a b c).toNat) (I1.ok.hd hc) hr o3 (Int.toNat_of_nonneg o4).symm (by omega) fun h' tk acc c' hk e' hi => ?_
  refine ⟨.ref s1.heap.objs.size, upd H1 s1.heap.objs.size (.lst (rgVC a c (Builtin.Range.rangeSize a b c).toNat)), I1.laid hk (Nat.le_refl _) (show ObjOk X.prog X.w _ _ _ (.lst (rgVC a c _)) from ⟨?_, acc.toList, c', vals_rgC hi, ?_⟩), rfl, q _ (I1.hok.fresh (Nat.le_refl _))⟩
  · unfold rgVC; rw [List.length_map, List.length_range, sizeLine_eq]; omega
  · rw [Array.toArray_toList]; exact e'
theorem prgC_3 {ta : TA} (hg : Gl X "range") (hm : X.mg "range" = none) (ha : PA X [a, b, c] ta)
    (hs : starEach [a, b, c] X.env = (false, eval a X.env) :: starEach [b, c] X.env := by rfl) (hpl : (backTo p2 (starEach [b, c] X.env)).any (·.1) = false := by rfl) :
    PRgC X (.Call (.Name "range" p) [a, b, c] [] p2) (fun σ H Q => ta σ H fun vs H1 => ∃ i j k, vs = [.int i, .int j, .int k] ∧ rgOkC i j k = true ∧ Q i j k H1) := by
  intro pins s σ H Q I h
  refine Call_ (ld_blt I hg hm boot_range (PyProof.Rows.callWith_type1 (thn (ha.run p2 pins s σ H _ I h) fun us s1 ⟨vs, H1, I1, r1, q1⟩ => ?_) hs hpl))
  obtain ⟨i, j, k, e, ok, q⟩ := q1
  subst e
  unfold rgOkC at ok
  simp only [Bool.and_eq_true, decide_eq_true_eq] at ok
  obtain ⟨⟨⟨⟨o1, o2⟩, o3⟩, o4⟩, o5⟩ := ok
  cases r1 with
  | cons r rr =>
    cases rr with
    | cons r' rr =>
      cases rr with
      | cons r'' rr =>
        cases rr
        obtain ⟨t, rfl⟩ := r
        obtain ⟨t', rfl⟩ := r'
        obtain ⟨t'', rfl⟩ := r''
        exact call_range_3 o1 ⟨_, i, j, k, _, _, _, H1, rfl, IsRange.new _ _ _ _ _ _ _, I1.kept fun b u e => Heap.get?_push_of_some _ e, q⟩ (.inl (PyProof.noPylong_small o2))
theorem prgC_2 {t : L2.St → Hp → (Int → Int → Hp → Prop) → Prop} (h : PRg X e t) : PRgC X e (fun σ H Q => t σ H fun i j H1 => Q i j 1 H1) := fun pins s σ H Q I q =>
  thn (h pins s σ H _ I q) fun x s1 ⟨r, a, b, t, u, v, H', h1, h2, h3, h4⟩ => ⟨r, a, b, 1, t, u, v, H', h1, h2, h3, h4⟩
theorem mLR_some {i j c : Int} {d : D} (h : mLR i j c = some d) : rgOkC i j c = true ∧ d = .lst (rngL i c (Builtin.Range.rangeSize i j c).toNat) := by
  unfold mLR at h
  split at h
  · cases h; exact ⟨by assumption, rfl⟩
  · cases h
theorem fe_lrng1 (hg : Gl X "list") (hm : X.mg "list" = none) (hg2 : Gl X "range") (hm2 : X.mg "range" = none) (hc : X.calm = true := by rfl) (ha : FE X .rd a f) (na : starEach [a] X.env = (false, eval a X.env) :: starEach [] X.env := by rfl) (nb : starEach [.Call (.Name "range" p) [a] [] p2] X.env = (false, eval (.Call (.Name "range" p) [a] [] p2) X.env) :: starEach [] X.env := by rfl) {q : Pos} :
    FE X (.ow 1) (.Call (.Name "list" q) [.Call (.Name "range" p) [a] [] p2] [] pos) (eB mLRng1 f) := PE.weak (pe_lR hc hg hm (prgC_2 (prg_1 hg2 hm2 ha na)) nb) fun σ H Q ⟨F, fps, st, d, r, ed, q⟩ => by
  unfold eB at ed
  cases ef : f st with
  | none => rw [ef] at ed; cases ed
  | some x =>
    rw [ef] at ed
    cases x with
    | int j =>
      obtain ⟨h1, rfl⟩ := mLR_some ed
      exact ⟨F, fps, st, .int j, r, ef, fun v H1 s1 w => ⟨j, w, h1, fun p np => q _ _ (s1.trans (same_upd np)) (VR.newF r s1 (rng_rep 0 1 _) (rng_flat 0 1 _) np)⟩⟩
    | _ => cases ed
theorem fe_lrng2 (hg : Gl X "list") (hm : X.mg "list" = none) (hg2 : Gl X "range") (hm2 : X.mg "range" = none) (ha : FE X .rd a f) (hb : FE X .rd b g) (hc : X.calm = true := by rfl) (na : starEach [a, b] X.env = (false, eval a X.env) :: starEach [b] X.env := by rfl) (nc : starEach [b] X.env = (false, eval b X.env) :: starEach [] X.env := by rfl) (hp : (backTo p2 (starEach [b] X.env)).any (·.1) = false := by rfl)
    (nb : starEach [.Call (.Name "range" p) [a, b] [] p2] X.env = (false, eval (.Call (.Name "range" p) [a, b] [] p2) X.env) :: starEach [] X.env := by rfl) {q : Pos} :
    FE X (.ow 1) (.Call (.Name "list" q) [.Call (.Name "range" p) [a, b] [] p2] [] pos) (eBin mLRng2 f g) := PE.weak (pe_lR hc hg hm (prgC_2 (prg_2 hg2 hm2 ha hb na nc hp)) nb) fun σ H Q ⟨F, fps, st, d, r, ed, q⟩ => by
  obtain ⟨x, y, e1, e2, e3⟩ := bind2 ed
  unfold mLRng2 at e3
  split at e3
  · obtain ⟨h1, rfl⟩ := mLR_some e3
    exact ⟨F, fps, st, _, r, e1, fun v H1 s1 w => ⟨F, fps, st, _, r.mono s1, e2, fun u H2 s2 w2 => ⟨_, _, w, w2, h1, fun p np => q _ _ ((s1.trans s2).trans (same_upd np)) (VR.newF r (s1.trans s2) (rng_rep _ 1 _) (rng_flat _ 1 _) np)⟩⟩⟩
  · cases e3
theorem fe_lrng3 (hg : Gl X "list") (hm : X.mg "list" = none) (hg2 : Gl X "range") (hm2 : X.mg "range" = none) (ha : FE X .rd a f) (hb : FE X .rd b g) (hcc : FE X .rd c h) (hc : X.calm = true := by rfl) (na : starEach [a, b, c] X.env = (false, eval a X.env) :: starEach [b, c] X.env := by rfl) (nc : starEach [b, c] X.env = (false, eval b X.env) :: starEach [c] X.env := by rfl) (nd : starEach [c] X.env = (false, eval c X.env) :: starEach [] X.env := by rfl) (hp : (backTo p2 (starEach [b, c] X.env)).any (·.1) = false := by rfl)
    (nb : starEach [.Call (.Name "range" p) [a, b, c] [] p2] X.env = (false, eval (.Call (.Name "range" p) [a, b, c] [] p2) X.env) :: starEach [] X.env := by rfl) {q : Pos} :
    FE X (.ow 1) (.Call (.Name "list" q) [.Call (.Name "range" p) [a, b, c] [] p2] [] pos) (eTri mLRng3 f g h) := PE.weak (pe_lR hc hg hm (prgC_3 hg2 hm2 (pa_cons ha (pa_cons hb (pa_cons hcc pa_nil nd) nc) na) na hp) nb) fun σ H Q ⟨F, fps, st, d, r, ed, q⟩ => by
  unfold eTri at ed
  obtain ⟨x, y, z, e1, e2, e3, e4⟩ := bind3 ed
  unfold mLRng3 at e4
  split at e4
  · obtain ⟨h1, rfl⟩ := mLR_some e4
    refine ⟨F, fps, st, _, r, e1, fun v H1 s1 w => ⟨F, fps, st, _, r.mono s1, e2, fun u H2 s2 w2 => ⟨F, fps, st, _, r.mono (s1.trans s2), e3, fun u3 H3 s3 w3 => ⟨_, _, _, ?_, h1, h1, fun p np => q _ _ ((s1.trans (s2.trans s3)).trans (same_upd np)) (VR.newF r (s1.trans (s2.trans s3)) (rng_rep _ _ _) (rng_flat _ _ _) np)⟩⟩⟩⟩
    rw [show v = _ from w, show u = _ from w2, show u3 = _ from w3]
  · cases e4

/-! ### tuple + tuple -/
def mCatT (x y : D) : Option D := match x, y with
  | .tup (d :: ds), .tup (e :: es) => if lenOk ((d :: ds).length + (e :: es).length) = true then some (.tup ((d :: ds) ++ (e :: es))) else none
  | _, _ => none
theorem fe_catT (ha : FE X .rd a f) (hb : FE X .rd b g) : FE X .rd (.BinOp a .Add b pos) (eBin mCatT f g) := PE.weak (pe_op op_catT ha hb) fun σ H Q ⟨F, fps, st, d, r, ed, q⟩ => by
  obtain ⟨x, y, e1, e2, e3⟩ := bind2 ed
  refine ⟨F, fps, st, x, r, e1, fun v H1 s1 w1 => ⟨F, fps, st, y, r.mono s1, e2, fun u H2 s2 w2 => ?_⟩⟩
  unfold mCatT at e3
  split at e3
  · split at e3
    · rename_i hl
      cases e3
      obtain ⟨l, xs, l1, l2, l3⟩ := w1
      obtain ⟨m, ys, m1, m2, m3⟩ := w2
      have hx := l3.length
      have hy := m3.length
      refine ⟨l, m, xs, ys, l1, m1, Same.sqt s2 l2, m2, fun z => ?_, by rw [hx, hy]; exact lenOk_le hl, fun z => ?_, fun _ p np => q _ _ ((s1.trans s2).trans (same_upd np)) (VR.newT (kd := .rd) r (s1.trans s2) ((RepL.mono s2 _ _ l3).app m3) np)⟩
      · rw [z] at hx; simp at hx
      · rw [z] at hy; simp at hy
    · cases e3
  · cases e3

/-! ### min, max, int, abs -/
def mMin2 : List D → Option D
  | [.int i, .int j] => some (.int (if j < i then j else i))
  | _ => none
def mMax2 : List D → Option D
  | [.int i, .int j] => some (.int (if j > i then j else i))
  | _ => none
theorem fe_min2 (hg : Gl X "min") (hm : X.mg "min" = none) (ha : FA X .rd (e :: es) fa) (hc : X.calm = true := by rfl) (he : starEach (e :: es) X.env = (false, eval e X.env) :: starEach es X.env := by rfl) (hpl : (backTo pos (starEach es X.env)).any (·.1) = false := by rfl) :
    FE X kd (.Call (.Name "min" p) (e :: es) [] pos) (eCB mMin2 fa) := PE.weak (pe_callB (call_min2 hc) hg hm (by decide +kernel) ha (by decide) (by decide) he hpl) fun _ _ _ => tF_cb fun xs H Q ds d r e => by
  unfold mMin2 at e
  split at e
  · cases e
    obtain ⟨v, v', ev, w1, w2⟩ := r.two_inv
    rw [show v = .int _ from w1, show v' = .int _ from w2] at ev
    exact ⟨rfl, fun q => ⟨_, _, ev, q⟩⟩
  · cases e
theorem fe_max2 (hg : Gl X "max") (hm : X.mg "max" = none) (ha : FA X .rd (e :: es) fa) (hc : X.calm = true := by rfl) (he : starEach (e :: es) X.env = (false, eval e X.env) :: starEach es X.env := by rfl) (hpl : (backTo pos (starEach es X.env)).any (·.1) = false := by rfl) :
    FE X kd (.Call (.Name "max" p) (e :: es) [] pos) (eCB mMax2 fa) := PE.weak (pe_callB (call_max2 hc) hg hm (by decide +kernel) ha (by decide) (by decide) he hpl) fun _ _ _ => tF_cb fun xs H Q ds d r e => by
  unfold mMax2 at e
  split at e
  · cases e
    obtain ⟨v, v', ev, w1, w2⟩ := r.two_inv
    rw [show v = .int _ from w1, show v' = .int _ from w2] at ev
    exact ⟨rfl, fun q => ⟨_, _, ev, q⟩⟩
  · cases e
def mInt1 : List D → Option D
  | [.int i] => some (.int i)
  | [.bl b] => some (.int (if b then 1 else 0))
  | _ => none
theorem fe_int1 (hg : Gl X "int") (hm : X.mg "int" = none) (ha : FA X .rd (e :: es) fa) (he : starEach (e :: es) X.env = (false, eval e X.env) :: starEach es X.env := by rfl) (hpl : (backTo pos (starEach es X.env)).any (·.1) = false := by rfl) :
    FE X kd (.Call (.Name "int" p) (e :: es) [] pos) (eCB mInt1 fa) := PE.weak (pe_callTy call_int1 hg hm (by decide +kernel) ha (by decide) (by decide) he hpl) fun _ _ _ => tF_cb fun xs H Q ds d r e => by
  unfold mInt1 at e
  split at e
  · cases e
    obtain ⟨v, ev, w1⟩ := r.one_inv
    rw [show v = .int _ from w1] at ev
    exact ⟨rfl, fun q => .inl ⟨_, ev, q⟩⟩
  · cases e
    obtain ⟨v, ev, w1⟩ := r.one_inv
    rw [show v = .bl _ from w1] at ev
    exact ⟨rfl, fun q => .inr ⟨_, ev, q⟩⟩
  · cases e
def mAbs : List D → Option D
  | [.int i] => some (.int (if i < 0 then -i else i))
  | _ => none
theorem fe_abs (hg : Gl X "abs") (hm : X.mg "abs" = none) (ha : FA X .rd (e :: es) fa) (he : starEach (e :: es) X.env = (false, eval e X.env) :: starEach es X.env := by rfl) (hpl : (backTo pos (starEach es X.env)).any (·.1) = false := by rfl) :
    FE X kd (.Call (.Name "abs" p) (e :: es) [] pos) (eCB mAbs fa) := PE.weak (pe_callB call_abs hg hm (by decide +kernel) ha (by decide) (by decide) he hpl) fun _ _ _ => tF_cb fun xs H Q ds d r e => by
  unfold mAbs at e
  split at e
  · cases e
    obtain ⟨v, ev, w1⟩ := r.one_inv
    rw [show v = .int _ from w1] at ev
    exact ⟨rfl, fun q => ⟨_, ev, q⟩⟩
  · cases e
/-- min(xs), max(xs) of whole numbers -/
def intsOf : List D → Option (List Int)
  | [] => some []
  | .int i :: r => (intsOf r).map (i :: ·)
  | _ => none
def minL : List Int → Int
  | [] => 0
  | [x] => x
  | x :: y :: r => min x (minL (y :: r))
def maxL : List Int → Int
  | [] => 0
  | [x] => x
  | x :: y :: r => max x (maxL (y :: r))
theorem minL_mem : ∀ {l : List Int}, l ≠ [] → minL l ∈ l ∧ ∀ y ∈ l, minL l ≤ y
  | [], h => absurd rfl h
  | [x], _ => ⟨by simp [minL], fun y hy => by simp at hy; subst hy; exact Int.le_refl _⟩
  | x :: y :: r, _ => by
    obtain ⟨h1, h2⟩ := minL_mem (l := y :: r) (by simp)
    unfold minL
    refine ⟨?_, fun z hz => ?_⟩
    · by_cases h : x ≤ minL (y :: r)
      · rw [Int.min_eq_left h]; simp
      · rw [Int.min_eq_right (by omega)]; exact List.mem_cons_of_mem _ h1
    · rcases List.mem_cons.mp hz with rfl | hz
      · exact Int.min_le_left _ _
      · exact Int.le_trans (Int.min_le_right _ _) (h2 z hz)
theorem maxL_mem : ∀ {l : List Int}, l ≠ [] → maxL l ∈ l ∧ ∀ y ∈ l, y ≤ maxL l
  | [], h => absurd rfl h
  | [x], _ => ⟨by simp [maxL], fun y hy => by simp at hy; subst hy; exact Int.le_refl _⟩
  | x :: y :: r, _ => by
    obtain ⟨h1, h2⟩ := maxL_mem (l := y :: r) (by simp)
    unfold maxL
    refine ⟨?_, fun z hz => ?_⟩
    · by_cases h : x ≤ maxL (y :: r)
      · rw [Int.max_eq_right h]; exact List.mem_cons_of_mem _ h1
      · rw [Int.max_eq_left (by omega)]; simp
    · rcases List.mem_cons.mp hz with rfl | hz
      · exact Int.le_max_left _ _
      · exact Int.le_trans (h2 z hz) (Int.le_max_right _ _)
theorem intsOf_rep {H : Hp} : ∀ {ds : List D} {vs : List V} {l : List Int}, RepL K H ds vs → intsOf ds = some l → vs = l.map V.int ∧ ds = l.map D.int
  | [], vs, l, r, e => by cases e; exact ⟨r, rfl⟩
  | d :: ds, vs, l, ⟨v, r, e1, h1, h2⟩, e => by
    cases d with
    | int i =>
      have e : (intsOf ds).map (i :: ·) = some l := e
      cases er : intsOf ds with
      | none => rw [er] at e; cases e
      | some l' =>
        rw [er] at e; cases e
        obtain ⟨q1, q2⟩ := intsOf_rep h2 er
        rw [e1, q1, q2, show v = .int i from h1]
        exact ⟨rfl, rfl⟩
    | _ => cases e
def mMinL : List D → Option D
  | [.lst ds] => (intsOf ds).bind fun l => if l.isEmpty = true then none else some (.int (minL l))
  | _ => none
def mMaxL : List D → Option D
  | [.lst ds] => (intsOf ds).bind fun l => if l.isEmpty = true then none else some (.int (maxL l))
  | _ => none
theorem fe_minL (hg : Gl X "min") (hm : X.mg "min" = none) (ha : FA X .rd (e :: es) fa) (hc : X.calm = true := by rfl) (he : starEach (e :: es) X.env = (false, eval e X.env) :: starEach es X.env := by rfl) (hpl : (backTo pos (starEach es X.env)).any (·.1) = false := by rfl) :
    FE X kd (.Call (.Name "min" p) (e :: es) [] pos) (eCB mMinL fa) := PE.weak (pe_callB (cr_min hc) hg hm (by decide +kernel) ha (by decide) (by decide) he hpl) fun _ _ _ => tF_cb fun xs H Q ds d r e => by
  unfold mMinL at e
  split at e
  · rename_i xs'
    cases ei : intsOf xs' with
    | none => rw [ei] at e; cases e
    | some l =>
      rw [ei] at e
      have e : (if l.isEmpty = true then none else some (D.int (minL l))) = some d := e
      split at e
      · cases e
      · rename_i hl
        cases e
        obtain ⟨v, ev, a, ys, e1, e2, e3⟩ := r.one_inv
        obtain ⟨q1, q2⟩ := intsOf_rep e3 ei
        have hne : l ≠ [] := fun z => hl (by rw [z]; rfl)
        obtain ⟨m1, m2⟩ := minL_mem hne
        refine ⟨rfl, fun q => ⟨a, l, by rw [ev, e1], .inl (.inl (by rw [← q1]; exact e2)), List.length_pos_iff.mpr hne, fun m hm hall => ?_⟩⟩
        have : m = minL l := Int.le_antisymm (hall _ m1) (m2 m hm)
        rw [this]; exact q
  · cases e
theorem fe_maxL (hg : Gl X "max") (hm : X.mg "max" = none) (ha : FA X .rd (e :: es) fa) (hc : X.calm = true := by rfl) (he : starEach (e :: es) X.env = (false, eval e X.env) :: starEach es X.env := by rfl) (hpl : (backTo pos (starEach es X.env)).any (·.1) = false := by rfl) :
    FE X kd (.Call (.Name "max" p) (e :: es) [] pos) (eCB mMaxL fa) := PE.weak (pe_callB (cr_max hc) hg hm (by decide +kernel) ha (by decide) (by decide) he hpl) fun _ _ _ => tF_cb fun xs H Q ds d r e => by
  unfold mMaxL at e
  split at e
  · rename_i xs'
    cases ei : intsOf xs' with
    | none => rw [ei] at e; cases e
    | some l =>
      rw [ei] at e
      have e : (if l.isEmpty = true then none else some (D.int (maxL l))) = some d := e
      split at e
      · cases e
      · rename_i hl
        cases e
        obtain ⟨v, ev, a, ys, e1, e2, e3⟩ := r.one_inv
        obtain ⟨q1, q2⟩ := intsOf_rep e3 ei
        have hne : l ≠ [] := fun z => hl (by rw [z]; rfl)
        obtain ⟨m1, m2⟩ := maxL_mem hne
        refine ⟨rfl, fun q => ⟨a, l, by rw [ev, e1], .inl (.inl (by rw [← q1]; exact e2)), List.length_pos_iff.mpr hne, fun m hm hall => ?_⟩⟩
        have : m = maxL l := Int.le_antisymm (m2 m hm) (hall _ m1)
        rw [this]; exact q
  · cases e
end
end FL

namespace FL
open PySem PySem.Spec PyProof.Rows L2

section
variable {K : PySem.W.Frag} {F : Fr} {fps : Fps} {σ : L2.St} {H H1 H' G G' : Hp} {st : Sl}
/-- one item of one's own list, and how it is put in another's place -/
theorem OwnL.split {k : Nat} : ∀ {ds : List D} {xs : List V} {fp : List Addr} {j : Nat} {d : D}, OwnL K H G ds k xs fp → ds[j]? = some d → ∃ v A B C, xs[j]? = some v ∧ fp = A ++ (B ++ C) ∧ Own K H G d k v B ∧
    ∀ (H' G' : Hp) (d' : D) (v' : V) (B' : List Addr), (∀ a, a ∈ A ∨ a ∈ C → H' a = H a) → Same G G' → Own K H' G' d' k v' B' → OwnL K H' G' (ds.set j d') k (xs.set j v') (A ++ (B' ++ C))
  | [], _, _, _, _, _, e => by simp at e
  | d0 :: ds, _, _, 0, d, ⟨v, r, fp1, fp2, ev, ef, h1, h2⟩, e => by
    simp at e; subst e
    subst ev ef
    refine ⟨v, [], fp1, fp2, rfl, rfl, h1, fun H' G' d' v' B' hk hs o => ⟨v', r, B', fp2, rfl, rfl, o, OwnL.mono hs ds k r fp2 (fun a m => hk a (.inr m)) h2⟩⟩
  | d0 :: ds, _, _, j + 1, d, ⟨v, r, fp1, fp2, ev, ef, h1, h2⟩, e => by
    subst ev ef
    obtain ⟨w, A, B, C, e1, e2, o, put⟩ := OwnL.split (j := j) h2 (by simpa using e)
    subst e2
    refine ⟨w, fp1 ++ A, B, C, by simpa using e1, by simp [List.append_assoc], o, fun H' G' d' v' B' hk hs o' => ?_⟩
    refine ⟨v, r.set j v', fp1, A ++ (B' ++ C), rfl, by simp [List.append_assoc], Own.mono hs d0 k v fp1 (fun a m => hk a (.inl (List.mem_append_left _ m))) h1, ?_⟩
    exact put H' G' d' v' B' (fun a m => hk a (m.imp (fun z => List.mem_append_right _ z) id)) hs o'
theorem nodup_mid {A B B' C : List Addr} (h : (A ++ (B ++ C)).Nodup) (n : B'.Nodup) (d : ∀ a ∈ B', a ∉ A ∧ a ∉ C) : (A ++ (B' ++ C)).Nodup := by
  rw [List.nodup_append] at h ⊢
  obtain ⟨h1, h2, h3⟩ := h
  rw [List.nodup_append] at h2 ⊢
  obtain ⟨h4, h5, h6⟩ := h2
  refine ⟨h1, ⟨n, h5, fun a m b m2 e => (d a m).2 (e ▸ m2)⟩, fun a m b m2 e => ?_⟩
  rcases List.mem_append.mp m2 with m2 | m2
  · exact (d b m2).1 (e ▸ m)
  · exact h3 a m b (List.mem_append_right _ m2) e
end

section
variable {X : Cx} {k kr : Nat} {kd : Kd} {e a b c tg : Expr} {es : List Expr} {f g h : EM} {fa : AM} {pos p p2 : Pos} {K : PySem.W.Frag}
/-! ### x[i] = e -/
def sSub (i k : Nat) (g f : EM) : SM := fun st => match slD st[i]? with
  | some (k', .lst ds) => if k' = k + 1 then (f st).bind fun d => (g st).bind fun x => match x with
    | .int n => (L2.ixN ds.length n).map fun j => .nx (setD st i (.lst (ds.set j d)))
    | _ => none
    else none
  | _ => none
theorem ixN_lt {n : Nat} {i : Int} {j : Nat} (h : L2.ixN n i = some j) : j < n := (L2.ixN_seq h).2.1
theorem tF_sub {i : Nat} {Dn : Ends} {σ : L2.St} {H : Hp} (h : tFS K kr (sSub i k g f) Dn σ H) : tAsg (tF K (.ow k) f) (gSub (tVar i) (tF K .rd g) rSetL) Dn σ H := by
  obtain ⟨F, st, o, ⟨fps, r⟩, e, c⟩ := h
  unfold sSub at e
  split at e
  · rename_i k' ds hs
    split at e
    · rename_i hk
      subst hk
      cases e1 : f st with
      | none => rw [e1] at e; cases e
      | some d =>
        cases e2 : g st with
        | none => rw [e1, e2] at e; cases e
        | some x =>
          rw [e1, e2] at e
          cases x with
          | int n =>
            have e : (L2.ixN ds.length n).map (fun j => Out.nx (setD st i (.lst (ds.set j d)))) = some o := e
            cases ej : L2.ixN ds.length n with
            | none => rw [ej] at e; cases e
            | some j =>
              rw [ej] at e; cases e
              obtain ⟨v0, ev, L, xs, fpa, eL, hL, efp, oL⟩ := r.sl hs
              subst eL
              refine ⟨F, fps, st, d, r, e1, fun v H1 s1 w => ?_⟩
              refine ⟨.ref L, ev, F, fps, st, .int n, r.mono s1, e2, fun u H2 s2 w2 => ?_⟩
              have s12 := s1.trans s2
              obtain ⟨fq, nq, fr, oq⟩ := w.grow s2
              have hx : ds[j]? = some (ds[j]'(ixN_lt ej)) := List.getElem?_eq_getElem (ixN_lt ej)
              obtain ⟨vj, A, B, C, g1, g2, g3, put⟩ := oL.split hx
              have hm : L ∈ fps i := by rw [efp]; exact List.mem_cons_self
              refine ⟨L, xs, n, j, rfl, w2, s12 _ _ hL, by rw [oL.len]; exact ej, ?_⟩
              have dis : ∀ a, a ∈ fps i → a ∈ fq → False := fun a m m2 => r.there ⟨i, m⟩ (fr a m2)
              have nd0 := r.nd i
              rw [efp] at nd0
              obtain ⟨ndL, ndf⟩ := List.nodup_cons.mp nd0
              have inF : ∀ a, a ∈ A ∨ a ∈ C → a ∈ fps i := fun a m => by
                rw [efp, g2]
                refine List.mem_cons_of_mem _ (m.elim (fun m => List.mem_append_left _ m) fun m => List.mem_append_right _ (List.mem_append_right _ m))
              have nall : (L :: (A ++ (fq ++ C))).Nodup := by
                refine List.nodup_cons.mpr ⟨fun m => ?_, nodup_mid (g2 ▸ ndf) nq fun a m => ⟨fun z => dis a (inF a (.inl z)) m, fun z => dis a (inF a (.inr z)) m⟩⟩
                rcases List.mem_append.mp m with m | m
                · exact ndL (by rw [g2]; exact List.mem_append_left _ m)
                · rcases List.mem_append.mp m with m | m
                  · exact dis L hm m
                  · exact ndL (by rw [g2]; exact List.mem_append_right _ (List.mem_append_right _ m))
              have sub : ∀ a ∈ L :: (A ++ (fq ++ C)), a ∈ fps i ∨ a ∈ fq := fun a m => by
                rcases List.mem_cons.mp m with rfl | m
                · exact .inl hm
                · rcases List.mem_append.mp m with m | m
                  · exact .inl (inF a (.inl m))
                  · rcases List.mem_append.mp m with m | m
                    · exact .inr m
                    · exact .inl (inF a (.inr m))
              refine c σ _ ⟨_, r.bump (i := i) (A := L) (o := .lst (xs.set j v)) (fp' := L :: (A ++ (fq ++ C))) s12 hm True.intro nall (fun a m => ?_) setD_length (fun j hj => setD_ne hj) fun sl es gen => ?_⟩
              · exact (sub a m).imp id fun m => ⟨fr a m, Own.isLst d k v fq oq a m⟩
              · refine slD_put hs (fun s es => r.ok i s es) ev es ?_
                have nin : ∀ a o', H a = some o' → ¬ own fps a → ¬ own (setF fps i (L :: (A ++ (fq ++ C)))) a := fun a o' e h z => by
                  rcases own_setF z with m | z
                  · rcases sub a m with m | m
                    · exact h ⟨i, m⟩
                    · rw [fr a m] at e; cases e
                  · exact h z
                refine ⟨L, xs.set j v, A ++ (fq ++ C), rfl, upd_same, rfl, put _ _ d v fq (fun a m => ?_) (gen _ nin) (Own.mono (fun a o' e => ?_) d k v fq (fun a m => upd_ne fun z => dis L hm (z ▸ m)) oq)⟩
                · have m' := inF a m
                  have aL : a ≠ L := fun z => by
                    rw [z] at m
                    refine ndL ?_
                    rw [g2]
                    exact m.elim (fun m => List.mem_append_left _ m) fun m => List.mem_append_right _ (List.mem_append_right _ m)
                  rw [upd_ne aL]
                  obtain ⟨_, q, _⟩ := r.isLst ⟨i, m'⟩
                  rw [q]; exact s12 _ _ q
                · obtain ⟨z1, z2⟩ := hideP_some.mp e
                  have aL : a ≠ L := fun z => z1 (.inr ⟨i, z ▸ hm⟩)
                  refine hideP_some.mpr ⟨fun z => ?_, by rw [upd_ne aL]; exact z2⟩
                  rcases own_setF z with m | z
                  · rcases sub a m with m | m
                    · exact z1 (.inr ⟨i, m⟩)
                    · exact z1 (.inl m)
                  · exact z1 (.inr z)
          | _ => cases e
    · cases e
  · cases e
theorem fs_sub {i : Nat} {pt : Pos} (he : FE X (.ow k) e f) (hx : PE X a (tVar i)) (hi : FE X .rd b g)
    (ha : ∀ v, assign (.Subscript a b pt) X.env v = (do
      let ov ← holding [v] (eval a X.env)
      let iv ← holding [v, ov] (eval b X.env)
      standAt pt
      holding [v, ov, iv] (setItem ov iv v)
      release [v, ov, iv] []) := by intro _; rfl)
    (hs : swapsWithSole [.Subscript a b pt] e pos.line X.env = pure false := by rfl) (hw : swappedStores [.Subscript a b pt] e X.env = pure none := by rfl)
    (h1 : (assignEach [.Subscript a b pt] X.env).map (·.2) = [assign (.Subscript a b pt) X.env] := by rfl) : FS X kr (.Assign [.Subscript a b pt] e pos) (sSub i k g f) :=
  PS.weak (ps_asg he (pg_sub hx hi set_list ha) hs hw h1) fun _ _ _ => tF_sub

/-! ### x[i][j] = e -/
def sSub2 (i k : Nat) (g h f : EM) : SM := fun st => match slD st[i]? with
  | some (k', .lst ds) => if k' = k + 2 then (f st).bind fun d => (g st).bind fun x => (h st).bind fun y => match x, y with
    | .int n, .int n' => (L2.ixN ds.length n).bind fun j => match ds[j]? with
      | some (.lst es) => (L2.ixN es.length n').map fun j' => .nx (setD st i (.lst (ds.set j (.lst (es.set j' d)))))
      | _ => none
    | _, _ => none
    else none
  | _ => none
theorem atI_ixN {α : Type} {xs : List α} {i : Int} {j : Nat} {v : α} (h : L2.ixN xs.length i = some j) (e : xs[j]? = some v) : L2.atI xs i = some v := by
  unfold L2.atI; rw [h]; exact e
theorem tF_sub2 {i : Nat} {Dn : Ends} {σ : L2.St} {H : Hp} (hh : tFS K kr (sSub2 i k g h f) Dn σ H) : tAsg (tF K (.ow k) f) (gSub (tOp (rIx K) (tVar i) (tF K .rd g)) (tF K .rd h) rSetL) Dn σ H := by
  obtain ⟨F, st, o, ⟨fps, r⟩, e, c⟩ := hh
  unfold sSub2 at e
  split at e
  · rename_i k' ds hs
    split at e
    · rename_i hk
      subst hk
      obtain ⟨d, x, y, e1, e2, e3, e⟩ := bind3 e
      split at e
      · rename_i n n'
        cases ej : L2.ixN ds.length n with
        | none => rw [ej] at e; cases e
        | some j =>
          rw [ej] at e
          have e : (match ds[j]? with
            | some (.lst es) => (L2.ixN es.length n').map fun j' => Out.nx (setD st i (.lst (ds.set j (.lst (es.set j' d)))))
            | _ => none) = some o := e
          split at e
          · rename_i es hes
            cases ej' : L2.ixN es.length n' with
            | none => rw [ej'] at e; cases e
            | some j' =>
              rw [ej'] at e; cases e
              obtain ⟨v0, ev, L, xs, fpa, eL, hL, efp, oL⟩ := r.sl hs
              subst eL
              refine ⟨F, fps, st, d, r, e1, fun v H1 s1 w => ?_⟩
              refine ⟨.ref L, ev, F, fps, st, .int n, r.mono s1, e2, fun u H2 s2 w2 => ?_⟩
              obtain ⟨vj, A, B, C, g1, g2, g3, put⟩ := oL.split hes
              obtain ⟨M, ys, fpb, eM, hM, efB, oM⟩ := g3
              subst eM
              refine .inl ⟨L, xs, n, .ref M, rfl, w2, .inl (.inl ((s1.trans s2) _ _ hL)), atI_ixN (by rw [oL.len]; exact ej) g1, ?_⟩
              refine ⟨F, fps, st, .int n', (r.mono s1).mono s2, e3, fun u3 H3 s3 w3 => ?_⟩
              have s12 := (s1.trans s2).trans s3
              obtain ⟨fq, nq, fr, oq⟩ := w.grow (s2.trans s3)
              have hx : es[j']? = some (es[j']'(ixN_lt ej')) := List.getElem?_eq_getElem (ixN_lt ej')
              obtain ⟨vj', A2, B2, C2, p1, p2, p3, put2⟩ := oM.split hx
              subst efB p2
              have hm : M ∈ fps i := by rw [efp, g2]; exact List.mem_cons_of_mem _ (List.mem_append_right _ List.mem_cons_self)
              refine ⟨M, ys, n', j', rfl, w3, s12 _ _ hM, by rw [oM.len]; exact ej', ?_⟩
              have dis : ∀ a, a ∈ fps i → a ∈ fq → False := fun a m m2 => r.there ⟨i, m⟩ (fr a m2)
              have nd0 := r.nd i
              rw [efp, g2] at nd0
              have inF : ∀ a, a ∈ L :: (A ++ (M :: (A2 ++ (B2 ++ C2)) ++ C)) → a ∈ fps i := fun a m => by rw [efp, g2]; exact m
              -- the new footprint
              have sub : ∀ a ∈ L :: (A ++ (M :: (A2 ++ (fq ++ C2)) ++ C)), a ∈ fps i ∨ a ∈ fq := fun a m => by
                simp only [List.mem_cons, List.mem_append] at m
                have hh : a ∈ fq ∨ a ∈ L :: (A ++ (M :: (A2 ++ (B2 ++ C2)) ++ C)) := by
                  simp only [List.mem_cons, List.mem_append]
                  rcases m with m | m | (m | m | m | m) | m
                  · exact .inr (.inl m)
                  · exact .inr (.inr (.inl m))
                  · exact .inr (.inr (.inr (.inl (.inl m))))
                  · exact .inr (.inr (.inr (.inl (.inr (.inl m)))))
                  · exact .inl m
                  · exact .inr (.inr (.inr (.inl (.inr (.inr (.inr m))))))
                  · exact .inr (.inr (.inr (.inr m)))
                exact hh.elim .inr fun z => .inl (inF a z)
              obtain ⟨ndL, ndR⟩ := List.nodup_cons.mp nd0
              have nall : (L :: (A ++ (M :: (A2 ++ (fq ++ C2)) ++ C))).Nodup := by
                have nM : (M :: (A2 ++ (B2 ++ C2))).Nodup := (List.nodup_append.mp (List.nodup_append.mp ndR).2.1).1
                obtain ⟨ndM, ndM2⟩ := List.nodup_cons.mp nM
                have nM2 : (M :: (A2 ++ (fq ++ C2))).Nodup := by
                  refine List.nodup_cons.mpr ⟨fun m => ?_, nodup_mid ndM2 nq fun a m => ⟨fun z => dis a (inF a (by simp [z])) m, fun z => dis a (inF a (by simp [z])) m⟩⟩
                  simp only [List.mem_append] at m
                  rcases m with m | m | m
                  · exact ndM (by simp [m])
                  · exact dis M hm m
                  · exact ndM (by simp [m])
                refine List.nodup_cons.mpr ⟨fun m => ?_, nodup_mid ndR nM2 fun a m => ?_⟩
                · simp only [List.mem_cons, List.mem_append] at m
                  rcases m with m | (m | m | m | m) | m
                  · exact ndL (by simp [m])
                  · exact ndL (by simp [m])
                  · exact ndL (by simp [m])
                  · exact dis L (inF L (by simp)) m
                  · exact ndL (by simp [m])
                  · exact ndL (by simp [m])
                · have h3 := (List.nodup_append.mp ndR).2.2
                  have h4 := (List.nodup_append.mp (List.nodup_append.mp ndR).2.1).2.2
                  simp only [List.mem_cons, List.mem_append] at m
                  rcases m with m | m | m | m
                  · exact ⟨fun z => h3 a z a (by simp [m]) rfl, fun z => h4 a (by simp [m]) a z rfl⟩
                  · exact ⟨fun z => h3 a z a (by simp [m]) rfl, fun z => h4 a (by simp [m]) a z rfl⟩
                  · exact ⟨fun z => dis a (inF a (by simp [z])) m, fun z => dis a (inF a (by simp [z])) m⟩
                  · exact ⟨fun z => h3 a z a (by simp [m]) rfl, fun z => h4 a (by simp [m]) a z rfl⟩
              refine c σ _ ⟨_, r.bump (i := i) (A := M) (o := .lst (ys.set j' v)) (fp' := L :: (A ++ (M :: (A2 ++ (fq ++ C2)) ++ C))) s12 hm True.intro nall (fun a m => ?_) setD_length (fun j hj => setD_ne hj) fun sl es' gen => ?_⟩
              · exact (sub a m).imp id fun m => ⟨fr a m, Own.isLst d k v fq oq a m⟩
              · refine slD_put hs (fun s es => r.ok i s es) ev es' ?_
                have nin : ∀ a o', H a = some o' → ¬ own fps a → ¬ own (setF fps i (L :: (A ++ (M :: (A2 ++ (fq ++ C2)) ++ C)))) a := fun a o' e h z => by
                  rcases own_setF z with m | z
                  · rcases sub a m with m | m
                    · exact h ⟨i, m⟩
                    · rw [fr a m] at e; cases e
                  · exact h z
                have keepA : ∀ a, a ∈ fps i → a ≠ M → upd H3 M (.lst (ys.set j' v)) a = H a := fun a m aM => by
                  rw [upd_ne aM]
                  obtain ⟨_, q, _⟩ := r.isLst ⟨i, m⟩
                  rw [q]; exact s12 _ _ q
                have h3 := (List.nodup_append.mp ndR).2.2
                have h4 := (List.nodup_append.mp (List.nodup_append.mp ndR).2.1).2.2
                have nM : (M :: (A2 ++ (B2 ++ C2))).Nodup := (List.nodup_append.mp (List.nodup_append.mp ndR).2.1).1
                obtain ⟨ndM, ndM2⟩ := List.nodup_cons.mp nM
                have hset : xs.set j (V.ref M) = xs := by
                  apply List.ext_getElem?
                  intro q
                  by_cases hq : q = j
                  · subst hq
                    rw [List.getElem?_set_self (List.getElem?_eq_some_iff.mp g1).1, g1]
                  · rw [List.getElem?_set_ne (Ne.symm hq)]
                have LM : L ≠ M := fun z => ndL (by rw [z]; simp)
                refine ⟨L, xs, A ++ (M :: (A2 ++ (fq ++ C2)) ++ C), rfl, by rw [keepA L (inF L (by simp)) LM]; exact hL, rfl, ?_⟩
                rw [← hset]
                refine put _ _ _ (.ref M) (M :: (A2 ++ (fq ++ C2))) (fun a m => keepA a (inF a (m.elim (fun m => by simp [m]) fun m => by simp [m])) fun z => ?_) (gen _ nin) ?_
                · subst z
                  rcases m with m | m
                  · exact h3 a m a (by simp) rfl
                  · exact h4 a (by simp) a m rfl
                · refine ⟨M, ys.set j' v, A2 ++ (fq ++ C2), rfl, upd_same, rfl, put2 _ _ d v fq (fun a m => keepA a (inF a (m.elim (fun m => by simp [m]) fun m => by simp [m])) fun z => ?_) (gen _ nin) (Own.mono (fun a o' e => ?_) d k v fq (fun a m => upd_ne fun z => dis M hm (z ▸ m)) oq)⟩
                  · subst z
                    rcases m with m | m
                    · exact ndM (by simp [m])
                    · exact ndM (by simp [m])
                  · obtain ⟨z1, z2⟩ := hideP_some.mp e
                    have aM : a ≠ M := fun z => z1 (.inr ⟨i, z ▸ hm⟩)
                    refine hideP_some.mpr ⟨fun z => ?_, by rw [upd_ne aM]; exact z2⟩
                    rcases own_setF z with m | z
                    · rcases sub a m with m | m
                      · exact z1 (.inr ⟨i, m⟩)
                      · exact z1 (.inl m)
                    · exact z1 (.inr z)
          · cases e
      · cases e
    · cases e
  · cases e
theorem fs_sub2 {i : Nat} {pt p2 : Pos} (he : FE X (.ow k) e f) (hx : PE X a (tVar i)) (hi : FE X .rd b g) (hj : FE X .rd c h) (hpi : PlainIx b := by intro _ _; rfl)
    (ha : ∀ v, assign (.Subscript (.Subscript a b p2) c pt) X.env v = (do
      let ov ← holding [v] (eval (.Subscript a b p2) X.env)
      let iv ← holding [v, ov] (eval c X.env)
      standAt pt
      holding [v, ov, iv] (setItem ov iv v)
      release [v, ov, iv] []) := by intro _; rfl)
    (hs : swapsWithSole [.Subscript (.Subscript a b p2) c pt] e pos.line X.env = pure false := by rfl) (hw : swappedStores [.Subscript (.Subscript a b p2) c pt] e X.env = pure none := by rfl)
    (h1 : (assignEach [.Subscript (.Subscript a b p2) c pt] X.env).map (·.2) = [assign (.Subscript (.Subscript a b p2) c pt) X.env] := by rfl) : FS X kr (.Assign [.Subscript (.Subscript a b p2) c pt] e pos) (sSub2 i k g h f) :=
  PS.weak (ps_asg he (pg_sub (pe_ix ix_seq hx hi hpi) hj set_list ha) hs hw h1) fun _ _ _ => tF_sub2
end
end FL

namespace FL
open PySem PySem.Spec PyProof.Rows L2

section
variable {K : PySem.W.Frag} {F : Fr} {fps : Fps} {σ : L2.St} {H H1 H' G G' : Hp} {st : Sl}
/-- what a slot j owns goes into the list L of the slot i -/
theorem StR.into {i j : Nat} {L : Addr} {o : HO} {fp' : List Addr} {st' : Sl} (r : StR K F fps σ H st) (hij : i ≠ j) (hL : L ∈ fps i) (mo : MutO o)
    (nd : fp'.Nodup) (sub : ∀ a ∈ fp', a ∈ fps i ∨ a ∈ fps j) (hl : st'.length = st.length) (hs : ∀ q, q ≠ i → q ≠ j → st'[q]? = st[q]?) (hj : j < st.length → st'[j]? = some .un)
    (hok : ∀ sl, st'[i]? = some sl → Same (hideP H (own fps)) (hideP (upd H L o) (own (setF (setF fps j []) i fp'))) → SlotOk K (upd H L o) (hideP (upd H L o) (own (setF (setF fps j []) i fp'))) (F.pin i) sl σ[i]? fp') :
    StR K F (setF (setF fps j []) i fp') σ (upd H L o) st' := by
  have nin : ∀ a, ¬ own fps a → ¬ own (setF (setF fps j []) i fp') a := fun a h z => by
    rcases own_setF z with m | z
    · exact (sub a m).elim (fun m => h ⟨i, m⟩) fun m => h ⟨j, m⟩
    · rcases own_setF z with m | z
      · cases m
      · exact h z
  have hide : Same (hideP H (own fps)) (hideP (upd H L o) (own (setF (setF fps j []) i fp'))) := fun a o' e => by
    obtain ⟨e1, e2⟩ := hideP_some.mp e
    refine hideP_some.mpr ⟨nin a e1, ?_⟩
    rw [upd_ne (fun z => e1 ⟨i, by rw [z]; exact hL⟩)]
    exact e2
  have at' : ∀ q, q ≠ i → q ≠ j → setF (setF fps j []) i fp' q = fps q := fun q h1 h2 => by rw [setF_ne h1, setF_ne h2]
  have atj : setF (setF fps j []) i fp' j = [] := by rw [setF_ne (Ne.symm hij), setF_same]
  refine ⟨r.fr.trans hide, fun q => ?_, fun q q' a m1 m2 => ?_, by rw [hl]; exact r.len, fun q sl e => ?_, fun q a h m => ?_, ?_⟩
  · by_cases e : q = i
    · rw [e, setF_same]; exact nd
    · by_cases e2 : q = j
      · rw [e2, atj]; exact List.nodup_nil
      · rw [at' q e e2]; exact r.nd q
  · by_cases e1 : q = i <;> by_cases e2 : q' = i
    · rw [e1, e2]
    · exfalso
      rw [e1, setF_same] at m1
      by_cases e3 : q' = j
      · rw [e3, atj] at m2; cases m2
      · rw [at' q' e2 e3] at m2
        rcases sub a m1 with m | m
        · exact e2 (r.dj q' i a m2 m)
        · exact e3 (r.dj q' j a m2 m)
    · exfalso
      rw [e2, setF_same] at m2
      by_cases e3 : q = j
      · rw [e3, atj] at m1; cases m1
      · rw [at' q e1 e3] at m1
        rcases sub a m2 with m | m
        · exact e1 (r.dj q i a m1 m)
        · exact e3 (r.dj q j a m1 m)
    · by_cases e3 : q = j
      · rw [e3, atj] at m1; cases m1
      · by_cases e4 : q' = j
        · rw [e4, atj] at m2; cases m2
        · rw [at' q e1 e3] at m1; rw [at' q' e2 e4] at m2
          exact r.dj q q' a m1 m2
  · by_cases e1 : q = i
    · subst e1
      rw [setF_same]
      exact hok sl e hide
    · by_cases e2 : q = j
      · subst e2
        have hlt : q < st.length := by rw [← hl]; exact (List.getElem?_eq_some_iff.mp e).1
        rw [hj hlt] at e; cases e
        rw [atj]
        exact rfl
      · rw [hs q e1 e2] at e
        rw [at' q e1 e2]
        exact (r.ok q sl e).mono hide fun a m => by rw [upd_ne (fun z => e1 (r.dj q i a m (by rw [z]; exact hL)))]
  · rw [hl] at h
    by_cases eA : a = L
    · exact ⟨o, by rw [eA, upd_same], mo⟩
    · rw [upd_ne eA]
      by_cases e1 : q = i
      · rw [e1, setF_same] at m
        exact (sub a m).elim (fun m => r.isLst ⟨i, m⟩) fun m => r.isLst ⟨j, m⟩
      · by_cases e2 : q = j
        · rw [e2, atj] at m; cases m
        · rw [at' q e1 e2] at m
          exact r.tmp q a h m
  · obtain ⟨m, hm⟩ := r.fin
    refine ⟨max m (max i j + 1), fun q h => ?_⟩
    have h1 := Nat.le_max_right m (max i j + 1)
    have h2 := Nat.le_max_left i j
    have h3 := Nat.le_max_right i j
    rw [at' q (by omega) (by omega)]
    exact hm q (by have := Nat.le_max_left m (max i j + 1); omega)
end

section
variable {X : Cx} {k kr : Nat} {kd : Kd} {e a b c tg : Expr} {es : List Expr} {f g h : EM} {fa : AM} {pos p p2 : Pos} {K : PySem.W.Frag}
/-! ### x.append(y), y's own lists handed over -/
def sAppV (i k j : Nat) : SM := fun st => match slD st[i]?, st[j]? with
  | some (k', .lst ds), some (.va k2 d) => if (decide (k' = k + 1) && decide (k2 = k) && decide (i ≠ j) && decide (ds.length < 16777216)) = true then some (.nx ((setD st i (.lst (ds ++ [d]))).set j .un)) else none
  | _, _ => none
theorem tF_appV {i j : Nat} {Dn : Ends} {σ : L2.St} {H : Hp} (h : tFS K kr (sAppV i k j) Dn σ H) : tDrop (tBM K "list" rAppend (tVar i) (tCons (tVar j) tNil)) Dn σ H := by
  obtain ⟨F, st, o, ⟨fps, r⟩, e, c⟩ := h
  unfold sAppV at e
  split at e
  · rename_i k' ds k2 d hs hj
    split at e
    · rename_i hk
      simp only [Bool.and_eq_true, decide_eq_true_eq] at hk
      obtain ⟨⟨⟨rfl, rfl⟩, hij⟩, hlen⟩ := hk
      have hlen : ds.length < sizeLine := by rw [sizeLine_eq]; exact hlen
      cases e
      obtain ⟨v0, ev, L, xs, fpa, eL, hL, efp, oL⟩ := r.sl hs
      subst eL
      obtain ⟨v, ev2, oq⟩ := r.va hj
      refine ⟨.ref L, ev, .inl ⟨rfl, xs, .inl (.inl hL)⟩, v, ev2, L, xs, v, rfl, rfl, hL, by rw [oL.len]; exact hlen, ?_⟩
      have hm : L ∈ fps i := by rw [efp]; exact List.mem_cons_self
      have dis : ∀ a, a ∈ fps i → a ∈ fps j → False := fun a m m2 => hij (r.dj i j a m m2)
      have nall : (fps i ++ fps j).Nodup := List.nodup_append.mpr ⟨r.nd i, r.nd j, fun a m b m2 e => dis a m (e ▸ m2)⟩
      have hjl : j < st.length := (List.getElem?_eq_some_iff.mp hj).1
      refine c σ _ ⟨_, r.into (i := i) (j := j) (L := L) (o := .lst (xs ++ [v])) (fp' := fps i ++ fps j) hij hm True.intro nall (fun a m => List.mem_append.mp m) (by rw [List.length_set, setD_length]) (fun q h1 h2 => by rw [List.getElem?_set_ne (Ne.symm h2), setD_ne h1]) (fun _ => List.getElem?_set_self (by rw [setD_length]; exact hjl)) fun sl e2 gen => ?_⟩
      rw [List.getElem?_set_ne (Ne.symm hij)] at e2
      refine slD_put hs (fun s es => r.ok i s es) ev e2 ?_
      refine ⟨L, xs ++ [v], fpa ++ fps j, rfl, upd_same, by rw [efp]; rfl, OwnL.app (OwnL.mono gen ds _ xs fpa (fun a m => ?_) oL) (OwnL.one (Own.mono gen d _ v (fps j) (fun a m => upd_ne fun z => dis L hm (z ▸ m)) oq))⟩
      have aL : a ≠ L := fun z => by
        have := r.nd i
        rw [efp] at this
        exact (List.nodup_cons.mp this).1 (z ▸ m)
      rw [upd_ne aL]
    · cases e
  · cases e
theorem fs_appV {i j kr : Nat} {ec : Expr} (hp : PE X ec (tBM X.K "list" rAppend (tVar i) (tCons (tVar j) tNil))) (hsw : swapsWith ec none pos.line X.env = pure false := by rfl) :
    FS X kr (.Expr ec pos) (sAppV i k j) := PS.weak (ps_expr hp hsw) fun _ _ _ => tF_appV

/-! ### defs that change lists which are handed in -/
/-- the parameters: none a datum that is read, some k a list whose k levels are the callee's meanwhile -/
abbrev Io := List (Option Nat)
def ioArgs (K : PySem.W.Frag) (H F : Hp) : Io → List D → List V → List (List Addr) → Prop
  | [], ds, vs, fs => ds = [] ∧ vs = [] ∧ fs = []
  | none :: r, ds, vs, fs => ∃ d ds' v vs' fs', ds = d :: ds' ∧ vs = v :: vs' ∧ fs = [] :: fs' ∧ Rep K F d v ∧ ioArgs K H F r ds' vs' fs'
  | some k :: r, ds, vs, fs => ∃ d ds' v vs' fp fs', ds = d :: ds' ∧ vs = v :: vs' ∧ fs = fp :: fs' ∧ Own K H F d k v fp ∧ ioArgs K H F r ds' vs' fs'
/-- behind the call: only what was handed over counts -/
def ioBack (K : PySem.W.Frag) (H F : Hp) : Io → List D → List V → List (List Addr) → Prop
  | [], ds, vs, fs => ds = [] ∧ vs = [] ∧ fs = []
  | none :: r, ds, vs, fs => ∃ v vs' fs', vs = v :: vs' ∧ fs = [] :: fs' ∧ ioBack K H F r ds vs' fs'
  | some k :: r, ds, vs, fs => ∃ d ds' v vs' fp fs', ds = d :: ds' ∧ vs = v :: vs' ∧ fs = fp :: fs' ∧ Own K H F d k v fp ∧ ioBack K H F r ds' vs' fs'
def inF (fs : List (List Addr)) (a : Addr) : Prop := ∃ l ∈ fs, a ∈ l
def apart (fs : List (List Addr)) : Prop := (∀ l ∈ fs, l.Nodup) ∧ ∀ (i j : Nat) a, a ∈ fs.getD i [] → a ∈ fs.getD j [] → i = j
def spIO (K : PySem.W.Frag) (io : Io) (k : Nat) (m : List D → Option (D × List D)) : Sp := fun vs H Q _ => vs.length = io.length ∧ ∃ ds fs d ds', ioArgs K H (hideP H (inF fs)) io ds vs fs ∧ apart fs ∧ m ds = some (d, ds') ∧
  ∀ v H' fs' fp, (∀ a o, H a = some o → ¬ inF fs a → H' a = some o) → apart fs' → (∀ a, inF fs' a → inF fs a ∨ H a = none) → fp.Nodup → (∀ a ∈ fp, ¬ inF fs' a ∧ (inF fs a ∨ H a = none)) →
    ioBack K H' (hideP H' (fun a => a ∈ fp ∨ inF fs' a)) io ds' vs fs' → Own K H' (hideP H' (fun a => a ∈ fp ∨ inF fs' a)) d k v fp → Q v H'
/-- how a def with such parameters begins -/
def ioStart : Io → List D → Sl
  | none :: r, d :: ds => .va 0 d :: ioStart r ds
  | some k :: r, d :: ds => .io k d :: ioStart r ds
  | _, _ => []
def ioEnd : Io → Sl → Option (List D)
  | [], _ => some []
  | none :: r, _ :: st => ioEnd r st
  | some k :: r, .io k' d :: st => if k' = k then (ioEnd r st).map (d :: ·) else none
  | _, _ => none
def fnRunIO (n : Nat) (io : Io) (g : SM) : List D → Option (D × List D) := fun ds => match g (ioStart io ds ++ List.replicate (n - ds.length) .un) with
  | some (.rt d st) => (ioEnd io st).map fun ds' => (d, ds')
  | some (.nx st) => (ioEnd io st).map fun ds' => (.non, ds')
  | _ => none
theorem ioArgs.len {H F : Hp} : ∀ {io : Io} {ds : List D} {vs : List V} {fs : List (List Addr)}, ioArgs K H F io ds vs fs → ds.length = io.length ∧ vs.length = io.length ∧ fs.length = io.length
  | [], _, _, _, ⟨h1, h2, h3⟩ => by rw [h1, h2, h3]; exact ⟨rfl, rfl, rfl⟩
  | none :: r, _, _, _, ⟨d, ds', v, vs', fs', h1, h2, h3, _, h⟩ => by
    obtain ⟨a, b, c⟩ := ioArgs.len h
    rw [h1, h2, h3]; simp [a, b, c]
  | some k :: r, _, _, _, ⟨d, ds', v, vs', fp, fs', h1, h2, h3, _, h⟩ => by
    obtain ⟨a, b, c⟩ := ioArgs.len h
    rw [h1, h2, h3]; simp [a, b, c]
theorem ioStart_len : ∀ {io : Io} {ds : List D}, ds.length = io.length → (ioStart io ds).length = io.length
  | [], [], _ => rfl
  | none :: r, d :: ds, h => by simp only [ioStart, List.length_cons]; rw [ioStart_len (by simpa using h)]
  | some k :: r, d :: ds, h => by simp only [ioStart, List.length_cons]; rw [ioStart_len (by simpa using h)]
  | [], d :: ds, h => by simp at h
  | none :: r, [], h => by simp at h
  | some k :: r, [], h => by simp at h
theorem ioArgs.at {H F : Hp} : ∀ {io : Io} {ds : List D} {vs : List V} {fs : List (List Addr)} (i : Nat) (sl : Slot), ioArgs K H F io ds vs fs → (ioStart io ds)[i]? = some sl → ∃ v, vs[i]? = some v ∧ SlotOk K H F v sl (some (some v)) (fs.getD i [])
  | [], _, _, _, i, sl, ⟨h1, h2, h3⟩, e => by rw [h1] at e; simp [ioStart] at e
  | none :: r, _, _, _, 0, sl, ⟨d, ds', v, vs', fs', h1, h2, h3, h4, h⟩, e => by
    subst h1 h2 h3
    simp [ioStart] at e; subst e
    exact ⟨v, rfl, v, rfl, Own.shared d v h4⟩
  | none :: r, _, _, _, i + 1, sl, ⟨d, ds', v, vs', fs', h1, h2, h3, h4, h⟩, e => by
    subst h1 h2 h3
    obtain ⟨w, a, b⟩ := ioArgs.at i sl h (by simpa [ioStart] using e)
    exact ⟨w, by simpa using a, by simpa using b⟩
  | some k :: r, _, _, _, 0, sl, ⟨d, ds', v, vs', fp, fs', h1, h2, h3, h4, h⟩, e => by
    subst h1 h2 h3
    simp [ioStart] at e; subst e
    exact ⟨v, rfl, rfl, h4⟩
  | some k :: r, _, _, _, i + 1, sl, ⟨d, ds', v, vs', fp, fs', h1, h2, h3, h4, h⟩, e => by
    subst h1 h2 h3
    obtain ⟨w, a, b⟩ := ioArgs.at i sl h (by simpa [ioStart] using e)
    exact ⟨w, by simpa using a, by simpa using b⟩
theorem inF_iff {fs : List (List Addr)} {a : Addr} : inF fs a ↔ own (fun i => fs.getD i []) a := by
  constructor
  · rintro ⟨l, hl, m⟩
    obtain ⟨i, hi, e⟩ := List.getElem_of_mem hl
    exact ⟨i, by simp [hi, e, m]⟩
  · rintro ⟨i, m⟩
    by_cases hi : i < fs.length
    · exact ⟨fs[i], List.getElem_mem hi, by simpa [hi] using m⟩
    · simp [Nat.le_of_not_lt hi] at m
theorem StR.initIO {N : List Str} {io : Io} {H : Hp} {ds : List D} {vs : List V} {fs : List (List Addr)} (r : ioArgs K H (hideP H (inF fs)) io ds vs fs) (ap : apart fs) :
    StR K ⟨hideP H (inF fs), fun i => vs.getD i .non⟩ (fun i => fs.getD i []) (L2.start N vs) H (ioStart io ds ++ List.replicate (N.length - ds.length) .un) := by
  obtain ⟨l1, l2, l3⟩ := r.len
  have e0 : hideP H (own fun i => fs.getD i []) = hideP H (inF fs) := by
    funext a
    unfold hideP
    by_cases h : inF fs a
    · rw [if_pos h, if_pos (inF_iff.mp h)]
    · rw [if_neg h, if_neg fun z => h (inF_iff.mpr z)]
  refine ⟨by rw [e0]; exact Same.refl _, fun i => ?_, ap.2, ?_, fun i sl e => ?_, fun i a hi m => ?_, fs.length, fun i hi => by simp [hi]⟩
  · by_cases hi : i < fs.length
    · have := ap.1 fs[i] (List.getElem_mem hi)
      simpa [hi] using this
    · simp [Nat.le_of_not_lt hi]
  · unfold L2.start
    simp only [List.length_append, List.length_map, List.length_replicate, ioStart_len l1]
    omega
  · rw [e0]
    by_cases hi : i < io.length
    · rw [List.getElem?_append_left (by rw [ioStart_len l1]; exact hi)] at e
      obtain ⟨v, h1, h2⟩ := ioArgs.at i sl r e
      have e3 : (L2.start N vs)[i]? = some (some v) := by
        unfold L2.start
        rw [List.getElem?_append_left (by simpa [l2] using hi), List.getElem?_map, h1]
        rfl
      have e4 : vs.getD i V.non = v := by rw [List.getD_eq_getElem?_getD, h1]; rfl
      show SlotOk K H (hideP H (inF fs)) (vs.getD i V.non) sl (L2.start N vs)[i]? (fs.getD i [])
      rw [e3, e4]; exact h2
    · rw [List.getElem?_append_right (by rw [ioStart_len l1]; omega)] at e
      rw [List.getElem?_replicate] at e
      split at e
      · cases e
        show fs.getD i [] = []
        simp [show fs.length ≤ i by omega]
      · cases e
  · rw [List.length_append, ioStart_len l1, List.length_replicate] at hi
    simp [show fs.length ≤ i by omega] at m
theorem ioEnd.back {H F : Hp} {fps : Fps} {pin : Nat → V} : ∀ {io : Io} {st : Sl} {ds' : List D} (o : Nat), ioEnd io st = some ds' → (∀ (i k : Nat) (d : D), st[i]? = some (.io k d) → Own K H F d k (pin (o + i)) (fps (o + i))) →
    ioBack K H F io ds' ((List.range io.length).map fun i => pin (o + i)) ((List.range io.length).map fun i => if (io.getD i none).isSome = true then fps (o + i) else [])
  | [], st, ds', o, e, h => by
    cases e
    exact ⟨rfl, rfl, rfl⟩
  | none :: r, s :: st, ds', o, e, h => by
    have ih := ioEnd.back (io := r) (st := st) (ds' := ds') (o + 1) e fun i k d hi => by
      have := h (i + 1) k d (by simpa using hi)
      rw [show o + 1 + i = o + (i + 1) by omega]; exact this
    simp only [List.length_cons, List.range_succ_eq_map, List.map_cons, List.map_map]
    refine ⟨_, _, _, rfl, rfl, ?_⟩
    refine cast ?_ ih
    congr 1
    · apply List.map_congr_left; intro i _; show pin (o + 1 + i) = pin (o + (i + 1)); congr 1; omega
    · apply List.map_congr_left; intro i _
      show (if (r.getD i none).isSome = true then fps (o + 1 + i) else []) = if ((none :: r).getD (i + 1) none).isSome = true then fps (o + (i + 1)) else []
      rw [show o + 1 + i = o + (i + 1) by omega]; rfl
  | some k :: r, s :: st, ds', o, e, h => by
    cases s with
    | io k' d =>
      replace e : (if k' = k then (ioEnd r st).map (d :: ·) else none) = some ds' := e
      split at e
      · rename_i hk
        subst hk
        cases er : ioEnd r st with
        | none => rw [er] at e; cases e
        | some dr =>
          rw [er] at e; cases e
          have ih := ioEnd.back (io := r) (st := st) (ds' := dr) (o + 1) er fun i k d hi => by
            have := h (i + 1) k d (by simpa using hi)
            rw [show o + 1 + i = o + (i + 1) by omega]; exact this
          simp only [List.length_cons, List.range_succ_eq_map, List.map_cons, List.map_map]
          refine ⟨d, dr, _, _, fps (o + 0), _, rfl, rfl, rfl, h 0 k' d rfl, ?_⟩
          refine cast ?_ ih
          congr 1
          · apply List.map_congr_left; intro i _; show pin (o + 1 + i) = pin (o + (i + 1)); congr 1; omega
          · apply List.map_congr_left; intro i _
            show (if (r.getD i none).isSome = true then fps (o + 1 + i) else []) = if ((some k' :: r).getD (i + 1) none).isSome = true then fps (o + (i + 1)) else []
            rw [show o + 1 + i = o + (i + 1) by omega]; rfl
      · cases e
    | un => cases e
    | va k' d => cases e
  | none :: r, [], ds', o, e, h => by cases e
  | some k :: r, [], ds', o, e, h => by cases e
end
end FL

namespace FL
open PySem PySem.Spec PyProof.Rows L2

section
variable {P : Program} {w : World} {K : PySem.W.Frag} {mg : Str → Option Value} {base : Heap} {H : Hp}
theorem ioBack.mono {H F F' : Hp} (s : Same F F') : ∀ {io : Io} {ds : List D} {vs : List V} {fs : List (List Addr)}, ioBack K H F io ds vs fs → ioBack K H F' io ds vs fs
  | [], _, _, _, h => h
  | none :: r, _, _, _, ⟨v, vs', fs', h1, h2, h⟩ => ⟨v, vs', fs', h1, h2, ioBack.mono s h⟩
  | some k :: r, _, _, _, ⟨d, ds', v, vs', fp, fs', h1, h2, h3, h4, h⟩ => ⟨d, ds', v, vs', fp, fs', h1, h2, h3, Own.mono s d k v fp (fun _ _ => rfl) h4, ioBack.mono s h⟩
theorem fn_okIO {x qual : Str} {st : Stmt} {f : Addr} {fd : FuncData} {N ps : List Str} {k : Nat} (F : Fun K x qual st f fd) (S : FnScope N ps (defScope st)) (io : Io) (hio : io.length = ps.length) (kr : Nat) (g : SM)
    (hb : ∀ (cdv : Value) (A : Around) (outer : List Env) (s : Shared) (H : Hp) (E : XK), Room k (A.deeper (envOfC qual (defScope st) s.heap.objs.size f cdv)) → FSs (cxOf CX0 P w K mg base N qual (defScope st) f cdv A outer s H E).nox kr (defBody st) g) :
    FnOk P w K mg base CX0 (k + 1) f fd ps (spIO K io kr (fnRunIO N.length io g)) := by
  refine F.ok S (fun vs H Q E h => h.1.trans hio) (fun cdv A outer s H vs Q E hr h => ⟨_, hb cdv A outer s H E hr, ?_⟩)
  obtain ⟨hl, ds, fs, d, ds', r, ap, e, q⟩ := h
  obtain ⟨l1, l2, l3⟩ := r.len
  unfold fnRunIO at e
  have key : ∀ (d : D) (v : V) (H' : Hp) (st' : Sl), RetOk K ⟨hideP H (inF fs), fun i => vs.getD i .non⟩ H' kr d v st' → (ioEnd io st').map (fun ds' => (d, ds')) = some (d, ds') → (∀ v H' fs' fp, (∀ a o, H a = some o → ¬ inF fs a → H' a = some o) → apart fs' → (∀ a, inF fs' a → inF fs a ∨ H a = none) → fp.Nodup → (∀ a ∈ fp, ¬ inF fs' a ∧ (inF fs a ∨ H a = none)) →
    ioBack K H' (hideP H' (fun a => a ∈ fp ∨ inF fs' a)) io ds' vs fs' → Own K H' (hideP H' (fun a => a ∈ fp ∨ inF fs' a)) d kr v fp → Q v H') → Q v H' := by
    intro d v H' st' ⟨fps, fp, nfp, nd, dj, ds0, sg, od, oio⟩ ee q
    cases ei : ioEnd io st' with
    | none => rw [ei] at ee; cases ee
    | some dsx =>
      rw [ei] at ee; cases ee
      have hsee : ∀ a, own2 fps fp a → inF fs a ∨ H a = none := fun a z => by
        by_cases h1 : inF fs a
        · exact .inl h1
        · cases h2 : H a with
          | none => exact .inr rfl
          | some o => exact ((hideP_some.mp (sg a o (hideP_some.mpr ⟨h1, h2⟩))).1 z).elim
      have b := ioEnd.back (K := K) (H := H') (F := hideP H' (own2 fps fp)) (fps := fps) (pin := fun i => vs.getD i .non) 0 ei fun i k d hi => by
        rw [Nat.zero_add]; exact oio i k d hi
      have ev : ((List.range io.length).map fun i => vs.getD (0 + i) V.non) = vs := by
        apply List.ext_getElem?
        intro i
        rw [List.getElem?_map]
        by_cases hi : i < io.length
        · rw [List.getElem?_range hi]
          have : i < vs.length := by omega
          show some (vs.getD (0 + i) V.non) = _
          rw [Nat.zero_add, List.getD_eq_getElem?_getD, List.getElem?_eq_getElem this]; rfl
        · rw [List.getElem?_eq_none (by rw [List.length_range]; omega), List.getElem?_eq_none (by omega)]; rfl
      rw [ev] at b
      have inS : ∀ a, inF ((List.range io.length).map fun i => if (io.getD i none).isSome = true then fps (0 + i) else []) a → ∃ i, a ∈ fps i := by
        rintro a ⟨l, hl, m⟩
        obtain ⟨i, _, rfl⟩ := List.mem_map.mp hl
        split at m
        · exact ⟨_, m⟩
        · cases m
      have getS : ∀ i, ((List.range io.length).map fun i => if (io.getD i none).isSome = true then fps (0 + i) else []).getD i [] = fps i ∨ ((List.range io.length).map fun i => if (io.getD i none).isSome = true then fps (0 + i) else []).getD i [] = [] := by
        intro i
        rw [List.getD_eq_getElem?_getD, List.getElem?_map]
        by_cases hi : i < io.length
        · rw [List.getElem?_range hi]
          show (if (io.getD i none).isSome = true then fps (0 + i) else []) = _ ∨ (if (io.getD i none).isSome = true then fps (0 + i) else []) = _
          split
          · left; rw [Nat.zero_add]
          · right; rfl
        · rw [List.getElem?_eq_none (by rw [List.length_range]; omega)]; right; rfl
      have sub : ∀ a, (a ∈ fp ∨ inF ((List.range io.length).map fun i => if (io.getD i none).isSome = true then fps (0 + i) else []) a) → own2 fps fp a := fun a z => z.imp id (inS a)
      have sm : Same (hideP H' (own2 fps fp)) (hideP H' (fun a => a ∈ fp ∨ inF ((List.range io.length).map fun i => if (io.getD i none).isSome = true then fps (0 + i) else []) a)) := hideP_mono (Same.refl _) fun a o _ h z => h (sub a z)
      refine q v H' _ fp (fun a o h1 h2 => hideP_same _ _ (sg a o (hideP_some.mpr ⟨h2, h1⟩))) ⟨fun l hl => ?_, fun i j a m1 m2 => ?_⟩ (fun a z => hsee a (.inr (inS a z))) nfp (fun a m => ⟨fun z => ?_, hsee a (.inl m)⟩) (b.mono sm) (Own.mono sm d kr v fp (fun _ _ => rfl) od)
      · obtain ⟨i, _, rfl⟩ := List.mem_map.mp hl
        show (if _ then _ else _ : List Addr).Nodup
        split
        · exact nd _
        · exact List.nodup_nil
      · rcases getS i with e1 | e1 <;> rw [e1] at m1 <;> rcases getS j with e2 | e2 <;> rw [e2] at m2
        · exact dj i j a m1 m2
        · cases m2
        · cases m1
        · cases m1
      · obtain ⟨i, m2⟩ := inS a z
        exact ds0 i a m2 m
  cases eg : g (ioStart io ds ++ List.replicate (N.length - ds.length) .un) with
  | none => rw [eg] at e; cases e
  | some o =>
    rw [eg] at e
    refine ⟨_, _, o, ⟨_, StR.initIO r ap⟩, eg, ?_⟩
    cases o with
    | nx st' =>
      intro σ' H' ⟨fps', r'⟩
      have ed : d = .non := by
        have e : (ioEnd io st').map (fun ds' => (D.non, ds')) = some (d, ds') := e
        cases h : ioEnd io st' with
        | none => rw [h] at e; cases e
        | some x => rw [h] at e; cases e; rfl
      subst ed
      exact key .non .non H' st' (r'.ret (Same.refl H') (VR.sc (d := .non) rfl rfl)) e q
    | rt d' st' =>
      intro v H' h
      have ed : d = d' := by
        have e : (ioEnd io st').map (fun ds' => (d', ds')) = some (d, ds') := e
        cases h : ioEnd io st' with
        | none => rw [h] at e; cases e
        | some x => rw [h] at e; cases e; rfl
      subst ed
      exact key d v H' st' h e q
    | bk _ => cases e
    | ct _ => cases e
end

/-! ### calls that change lists of the caller's -/
abbrev XM := Sl → Option (D × Sl)
/-- a value that is the caller's own meanwhile: at a place beyond the slots -/
def VX (K : PySem.W.Frag) (fps : Fps) (n : Nat) (H : Hp) : Kd → D → V → Prop
  | .rd, d, v => Rep K H d v
  | .ow k, d, v => ∃ m, n ≤ m ∧ Own K H (hideP H (own fps)) d k v (fps m)
def tFX (K : PySem.W.Frag) (kd : Kd) (f : XM) : TE := fun σ H Q => ∃ F fps st d st', StR K F fps σ H st ∧ f st = some (d, st') ∧ ∀ v H' fps', StR K F fps' σ H' st' → VX K fps' st'.length H' kd d v → Q v H'
abbrev FX (X : Cx) (kd : Kd) (e : Expr) (f : XM) : Prop := PE X e (tFX X.K kd f)
/-- where the arguments come from: none an expression, some (j, k) the slot j, k levels of it -/
abbrev Src := List (Option (Nat × Nat))
def AV (K : PySem.W.Frag) (G : Hp) (σ : L2.St) (st : Sl) : Src → List D → List V → Prop
  | [], ds, vs => ds = [] ∧ vs = []
  | none :: r, ds, vs => ∃ d ds' v vs', ds = d :: ds' ∧ vs = v :: vs' ∧ Rep K G d v ∧ AV K G σ st r ds' vs'
  | some (j, k) :: r, ds, vs => ∃ d ds' v vs', ds = d :: ds' ∧ vs = v :: vs' ∧ slD st[j]? = some (k, d) ∧ σ[j]? = some (some v) ∧ AV K G σ st r ds' vs'
theorem AV.mono {K : PySem.W.Frag} {G G' : Hp} {σ : L2.St} {st : Sl} (s : Same G G') : ∀ {sp : Src} {ds : List D} {vs : List V}, AV K G σ st sp ds vs → AV K G' σ st sp ds vs
  | [], _, _, h => h
  | none :: r, _, _, ⟨d, ds', v, vs', h1, h2, h3, h⟩ => ⟨d, ds', v, vs', h1, h2, Rep.mono s d v h3, AV.mono s h⟩
  | some (j, k) :: r, _, _, ⟨d, ds', v, vs', h1, h2, h3, h4, h⟩ => ⟨d, ds', v, vs', h1, h2, h3, h4, AV.mono s h⟩
def tAX (K : PySem.W.Frag) (sp : Src) (f : AM) : TA := fun σ H Q => ∃ F fps st ds, StR K F fps σ H st ∧ f st = some ds ∧ ∀ vs H', Same H H' → AV K (hideP H' (own fps)) σ st sp ds vs → Q vs H'
abbrev AX (X : Cx) (sp : Src) (es : List Expr) (f : AM) : Prop := PA X es (tAX X.K sp f)
def aIo (j k : Nat) (g : AM) : AM := fun st => match slD st[j]? with
  | some (k', d) => if k' = k then (g st).map (d :: ·) else none
  | none => none
section
variable {X : Cx} {k kr : Nat} {kd : Kd} {e a b c tg : Expr} {es : List Expr} {f g h : EM} {fa : AM} {sp : Src} {pos p p2 : Pos} {K : PySem.W.Frag}
theorem ax_nil : AX X [] [] aNil := PA.weak pa_nil fun σ H Q ⟨F, fps, st, d, r, ed, q⟩ => by
  cases ed
  exact q [] H (Same.refl H) ⟨rfl, rfl⟩
theorem ax_cons (he : FE X (.ow 0) e f) (hr : AX X sp es fa) (hs : starEach (e :: es) X.env = (false, eval e X.env) :: starEach es X.env := by rfl) : AX X (none :: sp) (e :: es) (aCons f fa) := PA.weak (pa_cons he hr hs) fun σ H Q ⟨F, fps, st, d, r, ed, q⟩ => by
  unfold aCons at ed
  obtain ⟨x, xs, e1, e2, e3⟩ := bind2 ed
  cases e3
  exact ⟨F, fps, st, x, r, e1, fun v H1 s1 w1 => ⟨F, fps, st, xs, r.mono s1, e2, fun vs H2 s2 w2 => q (v :: vs) H2 (s1.trans s2) ⟨x, xs, v, vs, rfl, rfl, Rep.mono (hideP_mono s2 fun _ _ _ h => h) x v (VR.ow0 w1), w2⟩⟩⟩
theorem ax_io {j : Nat} (hv : PE X e (tVar j)) (hr : AX X sp es fa) (hs : starEach (e :: es) X.env = (false, eval e X.env) :: starEach es X.env := by rfl) : AX X (some (j, k) :: sp) (e :: es) (aIo j k fa) := PA.weak (pa_cons hv hr hs) fun σ H Q ⟨F, fps, st, d, r, ed, q⟩ => by
  unfold aIo at ed
  split at ed
  · rename_i k' d0 hsl
    split at ed
    · rename_i hk
      subst hk
      cases e2 : fa st with
      | none => rw [e2] at ed; cases ed
      | some xs =>
        rw [e2] at ed; cases ed
        obtain ⟨v, ev, _⟩ := r.sl hsl
        exact ⟨v, ev, F, fps, st, xs, r, e2, fun vs H2 s2 w2 => q (v :: vs) H2 s2 ⟨d0, xs, v, vs, rfl, rfl, hsl, ev, w2⟩⟩
    · cases ed
  · cases ed
def ioOf (sp : Src) : Io := sp.map fun o => o.map (·.2)
def jsOf : Src → List Nat
  | [] => []
  | none :: r => jsOf r
  | some (j, _) :: r => j :: jsOf r
def fsOf (fps : Fps) (sp : Src) : List (List Addr) := sp.map fun o => match o with
  | none => []
  | some (j, _) => fps j
def putF : Src → List (List Addr) → Fps → Fps
  | some (j, _) :: r, fp :: fs, fps => putF r fs (setF fps j fp)
  | none :: r, _ :: fs, fps => putF r fs fps
  | _, _, fps => fps
def putS : Src → List D → Sl → Sl
  | some (j, _) :: r, d :: ds, st => putS r ds (setD st j d)
  | none :: r, ds, st => putS r ds st
  | _, _, st => st
def fullIO : Src → List D → Bool
  | some (_, k) :: r, d :: ds => full d k && fullIO r ds
  | none :: r, ds => fullIO r ds
  | [], [] => true
  | _, _ => false
theorem putS_len : ∀ {sp : Src} {ds : List D} {st : Sl}, (putS sp ds st).length = st.length
  | [], _, _ => rfl
  | none :: r, ds, st => by show (putS r ds st).length = _; exact putS_len
  | some (j, k) :: r, [], st => rfl
  | some (j, k) :: r, d :: ds, st => by show (putS r ds (setD st j d)).length = _; rw [putS_len, setD_length]
theorem put_off {H : Hp} : ∀ {sp : Src} {ds : List D} {fs : List (List Addr)} {st : Sl} {fps : Fps} (j : Nat), j ∉ jsOf sp → putF sp fs fps j = fps j ∧ (putS sp ds st)[j]? = st[j]?
  | [], _, _, _, _, j, _ => ⟨by cases ‹List (List Addr)› <;> rfl, rfl⟩
  | none :: r, ds, [], st, fps, j, h => ⟨rfl, (put_off (H := H) (sp := r) (ds := ds) (fs := []) (st := st) (fps := fps) j h).2⟩
  | none :: r, ds, f :: fs, st, fps, j, h => put_off (H := H) (sp := r) (ds := ds) (fs := fs) (st := st) (fps := fps) j h
  | some (i, k) :: r, [], [], st, fps, j, h => ⟨rfl, rfl⟩
  | some (i, k) :: r, [], f :: fs, st, fps, j, h => by
    have h2 : j ≠ i ∧ j ∉ jsOf r := by simpa [jsOf] using h
    have := (put_off (H := H) (sp := r) (ds := []) (fs := fs) (st := st) (fps := setF fps i f) j h2.2).1
    exact ⟨this.trans (setF_ne h2.1), rfl⟩
  | some (i, k) :: r, d :: ds, [], st, fps, j, h => by
    have h2 : j ≠ i ∧ j ∉ jsOf r := by simpa [jsOf] using h
    have := (put_off (H := H) (sp := r) (ds := ds) (fs := []) (st := setD st i d) (fps := fps) j h2.2).2
    exact ⟨rfl, this.trans (setD_ne h2.1)⟩
  | some (i, k) :: r, d :: ds, f :: fs, st, fps, j, h => by
    have h2 : j ≠ i ∧ j ∉ jsOf r := by simpa [jsOf] using h
    have := put_off (H := H) (sp := r) (ds := ds) (fs := fs) (st := setD st i d) (fps := setF fps i f) j h2.2
    exact ⟨this.1.trans (setF_ne h2.1), this.2.trans (setD_ne h2.1)⟩
/-- the slot j that was handed over at the place q -/
theorem put_on {H G : Hp} : ∀ {sp : Src} {ds : List D} {fs : List (List Addr)} {vs : List V} {st : Sl} {fps : Fps} {q j k : Nat}, (jsOf sp).Nodup → ioBack K H G (ioOf sp) ds vs fs → fullIO sp ds = true → sp[q]? = some (some (j, k)) →
    ∃ d v, vs[q]? = some v ∧ Own K H G d k v (fs.getD q []) ∧ full d k = true ∧ putF sp fs fps j = fs.getD q [] ∧ (putS sp ds st)[j]? = (setD st j d)[j]?
  | [], _, _, _, _, _, q, j, k, _, _, _, e => by simp at e
  | none :: r, ds, _, _, st, fps, 0, j, k, _, _, _, e => by simp at e
  | none :: r, ds, _, _, st, fps, q + 1, j, k, nd, ⟨v, vs', fs', h1, h2, h⟩, fl, e => by
    subst h1 h2
    obtain ⟨d, w, a1, a2, a3, a4, a5⟩ := put_on (sp := r) (st := st) (fps := fps) nd h fl (by simpa using e)
    exact ⟨d, w, by simpa using a1, by simpa using a2, a3, by simpa [putF] using a4, a5⟩
  | some (i, k0) :: r, _, _, _, st, fps, 0, j, k, nd, ⟨d, ds', v, vs', fp, fs', h1, h2, h3, h4, h⟩, fl, e => by
    subst h1 h2 h3
    simp at e
    obtain ⟨rfl, rfl⟩ := e
    have nd2 : i ∉ jsOf r ∧ (jsOf r).Nodup := by simpa [jsOf] using nd
    have fl2 : (full d k0 && fullIO r ds') = true := fl
    obtain ⟨b1, b2⟩ := put_off (H := H) (sp := r) (ds := ds') (fs := fs') (st := setD st i d) (fps := setF fps i fp) i nd2.1
    exact ⟨d, v, rfl, h4, (Bool.and_eq_true_iff.mp fl2).1, b1.trans setF_same, b2⟩
  | some (i, k0) :: r, _, _, _, st, fps, q + 1, j, k, nd, ⟨d, ds', v, vs', fp, fs', h1, h2, h3, h4, h⟩, fl, e => by
    subst h1 h2 h3
    have nd2 : i ∉ jsOf r ∧ (jsOf r).Nodup := by simpa [jsOf] using nd
    have fl2 : (full d k0 && fullIO r ds') = true := fl
    obtain ⟨d', w, a1, a2, a3, a4, a5⟩ := put_on (sp := r) (st := setD st i d) (fps := setF fps i fp) nd2.2 h (Bool.and_eq_true_iff.mp fl2).2 (by simpa using e)
    have hm : ∀ {r : Src} {q : Nat}, r[q]? = some (some (j, k)) → j ∈ jsOf r := by
      intro r
      induction r with
      | nil => intro q e; simp at e
      | cons o r ih =>
        intro q e
        cases q with
        | zero => simp at e; subst e; simp [jsOf]
        | succ q =>
          have := ih (q := q) (by simpa using e)
          cases o with
          | none => exact this
          | some x => exact List.mem_cons_of_mem _ this
    have hji : j ≠ i := fun z => nd2.1 (z ▸ hm (by simpa using e))
    refine ⟨d', w, by simpa using a1, by simpa using a2, a3, by simpa [putF] using a4, a5.trans ?_⟩
    -- setD at j of setD at i
    unfold setD
    have ej := setD_ne (st := st) (i := i) (j := j) (d := d) hji
    unfold setD at ej
    rw [ej]
    cases es : st[j]? with
    | none => exact ej
    | some s =>
      have hl : j < st.length := (List.getElem?_eq_some_iff.mp es).1
      show (List.set _ j _)[j]? = (List.set st j _)[j]?
      rw [List.getElem?_set_self hl, List.getElem?_set_self]
      split
      · rw [List.length_set]; exact hl
      · exact hl
end
end FL

namespace FL
open PySem PySem.Spec PyProof.Rows L2

section
variable {K : PySem.W.Frag} {F : Fr} {fps : Fps} {σ : L2.St} {H H1 G : Hp} {st : Sl}
theorem jsOf_mem : ∀ {sp : Src} {q j k : Nat}, sp[q]? = some (some (j, k)) → j ∈ jsOf sp
  | [], q, j, k, e => by simp at e
  | none :: r, 0, j, k, e => by simp at e
  | some x :: r, 0, j, k, e => by simp at e; subst e; exact List.mem_cons_self
  | none :: r, q + 1, j, k, e => jsOf_mem (sp := r) (q := q) (by simpa using e)
  | some x :: r, q + 1, j, k, e => List.mem_cons_of_mem _ (jsOf_mem (sp := r) (q := q) (by simpa using e))
theorem jsOf_inv : ∀ {sp : Src} {j : Nat}, j ∈ jsOf sp → ∃ (q k : Nat), sp[q]? = some (some (j, k))
  | [], j, h => by cases h
  | none :: r, j, h => by
    obtain ⟨q, k, e⟩ := jsOf_inv (sp := r) h
    exact ⟨q + 1, k, by simpa using e⟩
  | some (i, k) :: r, j, h => by
    rcases List.mem_cons.mp h with e | h
    · exact ⟨0, k, by rw [e]; rfl⟩
    · obtain ⟨q, k, e⟩ := jsOf_inv (sp := r) h
      exact ⟨q + 1, k, by simpa using e⟩
theorem jsOf_inj : ∀ {sp : Src} {q q' j k k' : Nat}, (jsOf sp).Nodup → sp[q]? = some (some (j, k)) → sp[q']? = some (some (j, k')) → q = q'
  | [], q, q', j, k, k', nd, e, _ => by simp at e
  | none :: r, 0, q', j, k, k', nd, e, _ => by simp at e
  | none :: r, q + 1, 0, j, k, k', nd, _, e => by simp at e
  | none :: r, q + 1, q' + 1, j, k, k', nd, e, e' => congrArg (· + 1) (jsOf_inj (sp := r) nd (by simpa using e) (by simpa using e'))
  | some x :: r, 0, 0, j, k, k', nd, _, _ => rfl
  | some (i, k0) :: r, 0, q' + 1, j, k, k', nd, e, e' => by
    simp at e
    have := jsOf_mem (sp := r) (q := q') (by simpa using e')
    have nd2 : i ∉ jsOf r ∧ (jsOf r).Nodup := by simpa [jsOf] using nd
    exact absurd (e.1 ▸ this) nd2.1
  | some (i, k0) :: r, q + 1, 0, j, k, k', nd, e', e => by
    simp at e
    have := jsOf_mem (sp := r) (q := q) (by simpa using e')
    have nd2 : i ∉ jsOf r ∧ (jsOf r).Nodup := by simpa [jsOf] using nd
    exact absurd (e.1 ▸ this) nd2.1
  | some (i, k0) :: r, q + 1, q' + 1, j, k, k', nd, e, e' => by
    have nd2 : i ∉ jsOf r ∧ (jsOf r).Nodup := by simpa [jsOf] using nd
    exact congrArg (· + 1) (jsOf_inj (sp := r) nd2.2 (by simpa using e) (by simpa using e'))
theorem fsOf_at {sp : Src} {i : Nat} {a : Addr} (h : a ∈ (fsOf fps sp).getD i []) : ∃ (j k : Nat), sp[i]? = some (some (j, k)) ∧ a ∈ fps j := by
  rw [List.getD_eq_getElem?_getD] at h
  unfold fsOf at h
  rw [List.getElem?_map] at h
  cases e : sp[i]? with
  | none => rw [e] at h; cases h
  | some o =>
    rw [e] at h
    cases o with
    | none => cases h
    | some x => obtain ⟨j, k⟩ := x; exact ⟨j, k, rfl, h⟩
theorem fsOf_in {sp : Src} {j : Nat} {a : Addr} (hj : j ∈ jsOf sp) (h : a ∈ fps j) : inF (fsOf fps sp) a := by
  obtain ⟨q, k, e⟩ := jsOf_inv hj
  refine ⟨fps j, List.mem_map.mpr ⟨some (j, k), List.mem_of_getElem? e, rfl⟩, h⟩
theorem fsOf_own {sp : Src} {a : Addr} (h : inF (fsOf fps sp) a) : ∃ j, j ∈ jsOf sp ∧ a ∈ fps j := by
  obtain ⟨i, m⟩ := inF_iff.mp h
  obtain ⟨j, k, e, m⟩ := fsOf_at m
  exact ⟨j, jsOf_mem e, m⟩
theorem fsOf_apart {sp : Src} (r : StR K F fps σ H st) (nd : (jsOf sp).Nodup) : apart (fsOf fps sp) := by
  refine ⟨fun l hl => ?_, fun i j a m1 m2 => ?_⟩
  · obtain ⟨o, _, rfl⟩ := List.mem_map.mp hl
    cases o with
    | none => exact List.nodup_nil
    | some x => exact r.nd x.1
  · obtain ⟨j1, k1, e1, m1⟩ := fsOf_at m1
    obtain ⟨j2, k2, e2, m2⟩ := fsOf_at m2
    have := r.dj j1 j2 a m1 m2
    subst this
    exact jsOf_inj nd e1 e2
theorem AV.io (r : StR K F fps σ H st) {G' : Hp} (s : Same (hideP H (own fps)) G') : ∀ {sp : Src} {ds : List D} {vs : List V}, AV K (hideP H (own fps)) σ st sp ds vs → ioArgs K H G' (ioOf sp) ds vs (fsOf fps sp)
  | [], _, _, ⟨h1, h2⟩ => ⟨h1, h2, rfl⟩
  | none :: t, _, _, ⟨d, ds', v, vs', h1, h2, h3, h⟩ => ⟨d, ds', v, vs', _, h1, h2, rfl, Rep.mono s d v h3, AV.io r s h⟩
  | some (j, k) :: t, _, _, ⟨d, ds', v, vs', h1, h2, h3, h4, h⟩ => by
    obtain ⟨v', e1, o⟩ := r.sl h3
    rw [h4] at e1
    cases e1
    exact ⟨d, ds', v, vs', _, _, h1, h2, rfl, Own.mono s d k v _ (fun _ _ => rfl) o, AV.io r s h⟩
theorem AV.at : ∀ {sp : Src} {ds : List D} {vs : List V} {q j k : Nat}, AV K G σ st sp ds vs → sp[q]? = some (some (j, k)) → ∃ d v, vs[q]? = some v ∧ slD st[j]? = some (k, d) ∧ σ[j]? = some (some v)
  | [], _, _, q, j, k, _, e => by simp at e
  | none :: t, _, _, 0, j, k, _, e => by simp at e
  | none :: t, _, _, q + 1, j, k, ⟨d, ds', v, vs', h1, h2, h3, h⟩, e => by
    subst h2
    obtain ⟨d, v, a, b, c⟩ := AV.at (sp := t) (q := q) (j := j) (k := k) h (by simpa using e)
    exact ⟨d, v, by simpa using a, b, c⟩
  | some (j0, k0) :: t, _, _, 0, j, k, ⟨d, ds', v, vs', h1, h2, h3, h4, h⟩, e => by
    subst h2
    simp at e
    obtain ⟨rfl, rfl⟩ := e
    exact ⟨d, v, rfl, h3, h4⟩
  | some (j0, k0) :: t, _, _, q + 1, j, k, ⟨d, ds', v, vs', h1, h2, h3, h4, h⟩, e => by
    subst h2
    obtain ⟨d, v, a, b, c⟩ := AV.at (sp := t) (q := q) (j := j) (k := k) h (by simpa using e)
    exact ⟨d, v, by simpa using a, b, c⟩
theorem AV.len : ∀ {sp : Src} {ds : List D} {vs : List V}, AV K G σ st sp ds vs → vs.length = sp.length
  | [], _, _, ⟨_, h⟩ => by rw [h]; rfl
  | none :: t, _, _, ⟨d, ds', v, vs', h1, h2, h3, h⟩ => by rw [h2, List.length_cons, List.length_cons, AV.len h]
  | some (j, k) :: t, _, _, ⟨d, ds', v, vs', h1, h2, h3, h4, h⟩ => by rw [h2, List.length_cons, List.length_cons, AV.len h]
/-- behind the call: the state of slots with what came back -/
theorem StR.back {H2 : Hp} {sp : Src} {ds ds' : List D} {vs : List V} {fs' : List (List Addr)} {fp : List Addr} {d : D} {v : V} {kr : Nat} (r1 : StR K F fps σ H1 st) (nd : (jsOf sp).Nodup) (av : AV K (hideP H1 (own fps)) σ st sp ds vs)
    (hk : ∀ a o, H1 a = some o → ¬ inF (fsOf fps sp) a → H2 a = some o) (ap : apart fs') (hfs : ∀ a, inF fs' a → inF (fsOf fps sp) a ∨ H1 a = none) (nfp : fp.Nodup) (hfp : ∀ a ∈ fp, ¬ inF fs' a ∧ (inF (fsOf fps sp) a ∨ H1 a = none))
    (bk : ioBack K H2 (hideP H2 fun a => a ∈ fp ∨ inF fs' a) (ioOf sp) ds' vs fs') (od : Own K H2 (hideP H2 fun a => a ∈ fp ∨ inF fs' a) d kr v fp) (fd : full d kr = true) (fl : fullIO sp ds' = true) :
    ∃ fps3 m, st.length ≤ m ∧ StR K F fps3 σ H2 (putS sp ds' st) ∧ Own K H2 (hideP H2 (own fps3)) d kr v (fps3 m) := by
  obtain ⟨m0, hm0⟩ := r1.fin
  have e1 : ∀ j, j ∉ jsOf sp → putF sp fs' fps j = fps j ∧ (putS sp ds' st)[j]? = st[j]? := fun j h => put_off (H := H2) j h
  have jlt : ∀ j, j ∈ jsOf sp → j < st.length := fun j h => by
    obtain ⟨q, k, e⟩ := jsOf_inv h
    obtain ⟨d0, v0, _, b, _⟩ := AV.at (sp := sp) (q := q) (j := j) (k := k) av e
    unfold slD at b
    cases es : st[j]? with
    | none => rw [es] at b; cases b
    | some s => exact (List.getElem?_eq_some_iff.mp es).1
  let m := max m0 st.length
  have mm : m0 ≤ m ∧ st.length ≤ m := ⟨Nat.le_max_left _ _, Nat.le_max_right _ _⟩
  have mnot : m ∉ jsOf sp := fun h => by have := jlt m h; omega
  let fps3 : Fps := setF (putF sp fs' fps) m fp
  have at_m : fps3 m = fp := setF_same
  have at_off : ∀ j, j ≠ m → j ∉ jsOf sp → fps3 j = fps j := fun j h1 h2 => (setF_ne h1).trans (e1 j h2).1
  have at_on : ∀ q j k, sp[q]? = some (some (j, k)) → fps3 j = fs'.getD q [] := fun q j k e => by
    have hj := jsOf_mem e
    obtain ⟨_, _, _, _, _, h4, _⟩ := put_on (H := H2) (G := hideP H2 fun a => a ∈ fp ∨ inF fs' a) (st := st) (fps := fps) nd bk fl e
    exact (setF_ne fun (z : j = m) => mnot (z ▸ hj)).trans h4
  have inQ : ∀ (q : Nat) a, a ∈ fs'.getD q [] → inF fs' a := fun q a h => inF_iff.mpr ⟨q, h⟩
  -- where an address comes from
  have from3 : ∀ j a, a ∈ fps3 j → (j = m ∧ a ∈ fp) ∨ (j ≠ m ∧ j ∉ jsOf sp ∧ a ∈ fps j) ∨ (j ≠ m ∧ ∃ (q k : Nat), sp[q]? = some (some (j, k)) ∧ a ∈ fs'.getD q []) := fun j a h => by
    by_cases h1 : j = m
    · subst h1; exact .inl ⟨rfl, at_m ▸ h⟩
    · by_cases h2 : j ∈ jsOf sp
      · obtain ⟨q, k, e⟩ := jsOf_inv h2
        exact .inr (.inr ⟨h1, q, k, e, at_on q j k e ▸ h⟩)
      · exact .inr (.inl ⟨h1, h2, at_off j h1 h2 ▸ h⟩)
  have new_not : ∀ a, (inF (fsOf fps sp) a ∨ H1 a = none) → ∀ j, j ∉ jsOf sp → a ∉ fps j := fun a h j hj z => by
    rcases h with h | h
    · obtain ⟨j', hj', m'⟩ := fsOf_own h
      exact hj (r1.dj j j' a z m' ▸ hj')
    · exact r1.there ⟨j, z⟩ h
  have keep : ∀ j, j ∉ jsOf sp → ∀ a ∈ fps j, H2 a = H1 a := fun j hj a h => by
    obtain ⟨o, eo, _⟩ := r1.isLst ⟨j, h⟩
    rw [eo]
    exact hk a o eo fun z => new_not a (.inl z) j hj h
  have lst3 : ∀ a, own fps3 a → ∃ o, H2 a = some o ∧ MutO o := fun a ⟨j, h⟩ => by
    rcases from3 j a h with ⟨_, h⟩ | ⟨_, h2, h⟩ | ⟨_, q, k, e, h⟩
    · exact Own.isLst d kr v fp od a h
    · rw [keep j h2 a h]; exact r1.isLst ⟨j, h⟩
    · obtain ⟨d2, v2, _, h3, _⟩ := put_on (H := H2) (G := hideP H2 fun a => a ∈ fp ∨ inF fs' a) (st := st) (fps := fps) nd bk fl e
      exact Own.isLst d2 k v2 _ h3 a h
  have sub3 : ∀ a, own fps3 a → own fps a ∨ H1 a = none := fun a ⟨j, h⟩ => by
    rcases from3 j a h with ⟨_, h⟩ | ⟨_, h2, h⟩ | ⟨_, q, k, e, h⟩
    · exact ((hfp a h).2).imp (fun z => by obtain ⟨j', _, m'⟩ := fsOf_own z; exact ⟨j', m'⟩) id
    · exact .inl ⟨j, h⟩
    · exact (hfs a (inQ q a h)).imp (fun z => by obtain ⟨j', _, m'⟩ := fsOf_own z; exact ⟨j', m'⟩) id
  have hide : Same (hideP H1 (own fps)) (hideP H2 (own fps3)) := fun a o e => by
    obtain ⟨h1, h2⟩ := hideP_some.mp e
    refine hideP_some.mpr ⟨fun z => ?_, hk a o h2 fun z => ?_⟩
    · rcases sub3 a z with z | z
      · exact h1 z
      · rw [z] at h2; cases h2
    · obtain ⟨j', _, m'⟩ := fsOf_own z
      exact h1 ⟨j', m'⟩
  have kp : Keeps (hideP H2 fun a => a ∈ fp ∨ inF fs' a) (hideP H2 (own fps3)) := fun a o e n => (hideP_keeps lst3) a o (hideP_some.mp e).2 n
  refine ⟨fps3, m, mm.2, ⟨r1.fr.trans hide, fun i => ?_, fun i j a h1 h2 => ?_, by rw [putS_len]; exact r1.len, fun i sl e => ?_, fun i a _ h => lst3 a ⟨i, h⟩, m + 1, fun i hi => ?_⟩, by rw [at_m]; exact Own.move kp d kr v fp fd od⟩
  · by_cases h1 : i = m
    · subst h1; rw [at_m]; exact nfp
    · by_cases h2 : i ∈ jsOf sp
      · obtain ⟨q, k, e⟩ := jsOf_inv h2
        rw [at_on q i k e, List.getD_eq_getElem?_getD]
        cases eq : fs'[q]? with
        | none => exact List.nodup_nil
        | some l => exact ap.1 l (List.mem_of_getElem? eq)
      · rw [at_off i h1 h2]; exact r1.nd i
  · rcases from3 i a h1 with ⟨i1, h1⟩ | ⟨i1, i2, h1⟩ | ⟨i1, q1, k1, q2, h1⟩ <;> rcases from3 j a h2 with ⟨j1, h2⟩ | ⟨j1, j2, h2⟩ | ⟨j1, p1, l1, p2, h2⟩
    · rw [i1, j1]
    · exact (new_not a (hfp a h1).2 j j2 h2).elim
    · exact ((hfp a h1).1 (inQ p1 a h2)).elim
    · exact (new_not a (hfp a h2).2 i i2 h1).elim
    · exact r1.dj i j a h1 h2
    · exact (new_not a (hfs a (inQ p1 a h2)) i i2 h1).elim
    · exact ((hfp a h2).1 (inQ q1 a h1)).elim
    · exact (new_not a (hfs a (inQ q1 a h1)) j j2 h2).elim
    · have := ap.2 q1 p1 a h1 h2
      subst this
      rw [q2] at p2
      exact congrArg (·.1) (Option.some.inj (Option.some.inj p2))
  · have hlt : i < st.length := by
      have := (List.getElem?_eq_some_iff.mp e).1
      rwa [putS_len] at this
    have him : i ≠ m := by omega
    by_cases h2 : i ∈ jsOf sp
    · obtain ⟨q, k, eq⟩ := jsOf_inv h2
      obtain ⟨d0, v0, b1, b2, b3⟩ := AV.at (sp := sp) (q := q) (j := i) (k := k) av eq
      obtain ⟨d2, v2, c1, c2, c3, _, c5⟩ := put_on (H := H2) (G := hideP H2 fun a => a ∈ fp ∨ inF fs' a) (st := st) (fps := fps) nd bk fl eq
      rw [b1] at c1
      cases c1
      rw [at_on q i k eq]
      rw [c5] at e
      exact slD_put b2 (fun s es => r1.ok i s es) b3 e (Own.move kp d2 k v0 _ c3 c2)
    · rw [at_off i him h2]
      rw [(e1 i h2).2] at e
      exact (r1.ok i sl e).mono hide fun a h => keep i h2 a h
  · have hne : i ≠ m := by omega
    rw [at_off i hne fun z => by have := jlt i z; omega]
    exact hm0 i (by omega)
end

section
variable {X : Cx} {k kr j : Nat} {kd : Kd} {e a b c tg : Expr} {es : List Expr} {f g h : EM} {fa : AM} {sp : Src} {pos p p2 : Pos} {K : PySem.W.Frag} {x : Str} {fn : Addr} {fd : FuncData} {ps : List Str} {m : List D → Option (D × List D)} {fx : XM}
def xCall (sp : Src) (kr : Nat) (m : List D → Option (D × List D)) (fa : AM) : XM := fun st => match fa st with
  | some ds => match m ds with
    | some (d, ds') => if (full d kr && fullIO sp ds') = true then some (d, putS sp ds' st) else none
    | none => none
  | none => none
theorem fx_call (G : FnOk X.prog X.w X.K X.mg X.base CX0 j fn fd ps (spIO X.K (ioOf sp) kr m)) (hr : Room j X.A) (hg : Gl X x) (hm : X.mg x = some (.ref fn)) (hk : PySem.W.keepIn X.K (.ref fn) = true) (hb : Binds X.K fd ps []) (ha : AX X sp (e :: es) fa) (hjs : (jsOf sp).Nodup) (hdb : (x == ("__debug__" : Str)) = false := by decide)
    (he : starEach (e :: es) X.env = (false, eval e X.env) :: starEach es X.env := by rfl) (hpl : (backTo pos (starEach es X.env)).any (·.1) = false := by rfl) : FX X (.ow kr) (.Call (.Name x p) (e :: es) [] pos) (xCall sp kr m fa) :=
  PE.weak (pe_call G hr hg hm hk hb .nil (pass0 (X := X)) ha hdb he hpl) fun σ H Q ⟨F, fps, st, d, st', r, ed, q⟩ => by
    unfold xCall at ed
    cases e1 : fa st with
    | none => rw [e1] at ed; cases ed
    | some ds =>
      rw [e1] at ed
      simp only at ed
      cases e2 : m ds with
      | none => rw [e2] at ed; cases ed
      | some dd =>
        obtain ⟨d0, ds'⟩ := dd
        rw [e2] at ed
        simp only at ed
        split at ed
        · rename_i hf
          cases ed
          have hf := Bool.and_eq_true_iff.mp hf
          refine ⟨F, fps, st, ds, r, e1, fun vs H1 s1 av => ?_⟩
          have r1 := r.mono s1
          have sm : Same (hideP H1 (own fps)) (hideP H1 (inF (fsOf fps sp))) := hideP_mono (Same.refl _) fun a o _ h z => by
            obtain ⟨j', _, m'⟩ := fsOf_own z
            exact h ⟨j', m'⟩
          show spIO X.K (ioOf sp) kr m (vs ++ []) H1 Q E0
          rw [List.append_nil]
          refine ⟨?_, ds, fsOf fps sp, d, ds', AV.io r1 sm av, fsOf_apart r1 hjs, e2, fun v H2 fs' fp hkp ap' hfs nfp hfp bk od => ?_⟩
          · rw [AV.len av]; unfold ioOf; rw [List.length_map]
          · obtain ⟨fps3, m3, hm3, r3, o3⟩ := r1.back hjs av hkp ap' hfs nfp hfp bk od hf.1 hf.2
            exact q v H2 fps3 r3 ⟨m3, by rw [putS_len]; exact hm3, o3⟩
        · cases ed
/-! ### statements over such expressions -/
def sX (f : XM) : SM := fun st => (f st).map fun r => .nx r.2
theorem fs_exprX (he : FX X kd e fx) (hs : swapsWith e none pos.line X.env = pure false := by rfl) : FS X kr (.Expr e pos) (sX fx) := PS.weak (ps_expr he hs) fun Dn σ H ⟨F, st, o, ⟨fps, r⟩, eo, c⟩ => by
  unfold sX at eo
  cases e1 : fx st with
  | none => rw [e1] at eo; cases eo
  | some dd =>
    obtain ⟨d, st'⟩ := dd
    rw [e1] at eo; cases eo
    exact ⟨F, fps, st, d, st', r, e1, fun v H' fps' r' _ => c σ H' ⟨fps', r'⟩⟩
/-- the temp at m goes to the slot i -/
theorem StR.take {F : Fr} {fps : Fps} {σ : L2.St} {H : Hp} {st : Sl} {i m : Nat} {d : D} {v : V} (r : StR K F fps σ H st) (hi : i < st.length) (hm : st.length ≤ m) (o : Own K H (hideP H (own fps)) d k v (fps m)) :
    StR K F (setF (setF fps m []) i (fps m)) (σ.set i (some v)) H (st.set i (.va k d)) := by
  have him : i ≠ m := by omega
  have at_i : setF (setF fps m []) i (fps m) i = fps m := setF_same
  have at_m : setF (setF fps m []) i (fps m) m = [] := by rw [setF_ne (Ne.symm him), setF_same]
  have at_o : ∀ j, j ≠ i → j ≠ m → setF (setF fps m []) i (fps m) j = fps j := fun j h1 h2 => by rw [setF_ne h1, setF_ne h2]
  have from' : ∀ j a, a ∈ setF (setF fps m []) i (fps m) j → (j = i ∧ a ∈ fps m) ∨ (j ≠ i ∧ j ≠ m ∧ a ∈ fps j) := fun j a h => by
    by_cases h1 : j = i
    · subst h1; exact .inl ⟨rfl, at_i ▸ h⟩
    · by_cases h2 : j = m
      · subst h2; rw [at_m] at h; cases h
      · exact .inr ⟨h1, h2, at_o j h1 h2 ▸ h⟩
  have sub : ∀ a, own (setF (setF fps m []) i (fps m)) a → own fps a := fun a ⟨j, h⟩ => by
    rcases from' j a h with ⟨_, h⟩ | ⟨_, _, h⟩
    · exact ⟨m, h⟩
    · exact ⟨j, h⟩
  have hide : Same (hideP H (own fps)) (hideP H (own (setF (setF fps m []) i (fps m)))) := hideP_mono (Same.refl _) fun a _ _ h z => h (sub a z)
  refine ⟨r.fr.trans hide, fun j => ?_, fun j j' a h1 h2 => ?_, by rw [List.length_set, List.length_set]; exact r.len, fun j sl e => ?_, fun j a hj h => r.isLst (sub a ⟨j, h⟩), ?_⟩
  · by_cases h1 : j = i
    · subst h1; rw [at_i]; exact r.nd m
    · by_cases h2 : j = m
      · subst h2; rw [at_m]; exact List.nodup_nil
      · rw [at_o j h1 h2]; exact r.nd j
  · rcases from' j a h1 with ⟨e1, h1⟩ | ⟨n1, n1', h1⟩ <;> rcases from' j' a h2 with ⟨e2, h2⟩ | ⟨n2, n2', h2⟩
    · rw [e1, e2]
    · exact (n2' (r.dj j' m a h2 h1)).elim
    · exact (n1' (r.dj j m a h1 h2)).elim
    · exact r.dj j j' a h1 h2
  · by_cases h1 : j = i
    · subst h1
      rw [List.getElem?_set_self hi] at e
      cases e
      rw [at_i, List.getElem?_set_self (by rw [r.len]; exact hi)]
      exact ⟨v, rfl, Own.mono hide d k v _ (fun _ _ => rfl) o⟩
    · rw [List.getElem?_set_ne (Ne.symm h1)] at e
      have hj : j < st.length := (List.getElem?_eq_some_iff.mp e).1
      rw [at_o j h1 (by omega), List.getElem?_set_ne (Ne.symm h1)]
      exact (r.ok j sl e).mono hide fun _ _ => rfl
  · obtain ⟨m0, hm0⟩ := r.fin
    refine ⟨max m0 (max i m + 1), fun j hj => ?_⟩
    have h1 := Nat.le_max_left m0 (max i m + 1)
    have h2 := Nat.le_max_right m0 (max i m + 1)
    have h3 := Nat.le_max_left i m
    have h4 := Nat.le_max_right i m
    rw [at_o j (by omega) (by omega)]
    exact hm0 j (by omega)
def sSetX (i k : Nat) (f : XM) : SM := fun st => match f st with
  | some (d, st') => if isVa st'[i]? = true then some (.nx (st'.set i (.va k d))) else none
  | none => none
theorem fs_setX {i : Nat} {pos' : Pos} (hN : X.N.Nodup) (hi : X.N[i]? = some x) (hx : Loc X.env.scope x) (he : FX X (.ow k) e fx) (hs : swapsWith e (some (.Name x pos')) pos.line X.env = pure false := by rfl) (hf : X.fn x = true ∨ X.env.scope.names.lookup x = some .local := by first | exact .inl rfl | exact .inr rfl | assumption) :
    FS X kr (.Assign [.Name x pos'] e pos) (sSetX i k fx) := PS.weak (ps_set hN hi hx he hs hf) fun Dn σ H ⟨F, st, o, ⟨fps, r⟩, eo, c⟩ => by
  unfold sSetX at eo
  cases e1 : fx st with
  | none => rw [e1] at eo; cases eo
  | some dd =>
    obtain ⟨d, st'⟩ := dd
    rw [e1] at eo
    simp only at eo
    split at eo
    · rename_i hv
      cases eo
      refine ⟨F, fps, st, d, st', r, e1, fun v H' fps' r' ⟨m, hm, w⟩ => ?_⟩
      exact c _ H' ⟨_, r'.take (isVa_lt hv) hm w⟩
    · cases eo
def sRetX (f : XM) : SM := fun st => (f st).map fun r => .rt r.1 r.2
theorem fs_retX (he : FX X (.ow kr) e fx) : FS X kr (.Return (some e) pos) (sRetX fx) := PS.weak (ps_ret he) fun Dn σ H ⟨F, st, o, ⟨fps, r⟩, eo, c⟩ => by
  unfold sRetX at eo
  cases e1 : fx st with
  | none => rw [e1] at eo; cases eo
  | some dd =>
    obtain ⟨d, st'⟩ := dd
    rw [e1] at eo; cases eo
    refine ⟨F, fps, st, d, st', r, e1, fun v H' fps' r' ⟨m, hm, w⟩ => c v H' ?_⟩
    have at_o : ∀ j, j ≠ m → setF fps' m [] j = fps' j := fun j h => setF_ne h
    have sub : ∀ a, own2 (setF fps' m []) (fps' m) a → own fps' a := fun a z => by
      rcases z with h | ⟨j, h⟩
      · exact ⟨m, h⟩
      · by_cases hj : j = m
        · subst hj; rw [setF_same] at h; cases h
        · rw [at_o j hj] at h; exact ⟨j, h⟩
    have hide : Same (hideP H' (own fps')) (hideP H' (own2 (setF fps' m []) (fps' m))) := hideP_mono (Same.refl _) fun a _ _ h z => h (sub a z)
    refine ⟨setF fps' m [], fps' m, r'.nd m, fun j => ?_, fun i j a h1 h2 => ?_, fun i a h h2 => ?_, r'.fr.trans hide, Own.mono hide d kr v _ (fun _ _ => rfl) w, fun i k' d' e => ?_⟩
    · by_cases hj : j = m
      · subst hj; rw [setF_same]; exact List.nodup_nil
      · rw [at_o j hj]; exact r'.nd j
    · by_cases hi : i = m
      · subst hi; rw [setF_same] at h1; cases h1
      · by_cases hj : j = m
        · subst hj; rw [setF_same] at h2; cases h2
        · rw [at_o i hi] at h1; rw [at_o j hj] at h2; exact r'.dj i j a h1 h2
    · by_cases hi : i = m
      · subst hi; rw [setF_same] at h; cases h
      · rw [at_o i hi] at h
        exact hi (r'.dj i m a h h2)
    · obtain ⟨_, o⟩ := r'.io e
      have hlt : i < st'.length := (List.getElem?_eq_some_iff.mp e).1
      rw [at_o i (by omega)]
      exact Own.mono hide d' k' _ _ (fun _ _ => rfl) o
end
end FL

namespace FL
open PySem PySem.Spec PyProof.Rows L2

section
variable {X : Cx} {k kr j : Nat} {kd : Kd} {e a b c tg : Expr} {es : List Expr} {f g h : EM} {fa : AM} {pos p p2 : Pos} {K : PySem.W.Frag} {x : Str}
/-! ### is, is not of truths -/
def mIsB (x y : D) : Option D := match x, y with
  | .bl a, .bl b => some (.bl (decide (a = b)))
  | _, _ => none
def mNotB (x y : D) : Option D := match x, y with
  | .bl a, .bl b => some (.bl (!decide (a = b)))
  | _, _ => none
theorem scr_isB : ScR K mIsB rIsB := fun x y H Q dx dy d rx ry e => by
  unfold mIsB at e
  split at e
  · cases e
    exact ⟨rfl, fun q => ⟨_, _, rx, ry, q⟩⟩
  · cases e
theorem scr_notB : ScR K mNotB rNotB := fun x y H Q dx dy d rx ry e => by
  unfold mNotB at e
  split at e
  · cases e
    exact ⟨rfl, fun q => ⟨_, _, rx, ry, q⟩⟩
  · cases e
theorem fe_isB (ha : FE X .rd a f) (hb : FE X .rd b g) : FE X kd (.Compare a [.Is] [b] pos) (eBin mIsB f g) := fe_cmpB op_isBl scr_isB (nomark _) ha hb
theorem fe_notB (ha : FE X .rd a f) (hb : FE X .rd b g) : FE X kd (.Compare a [.IsNot] [b] pos) (eBin mNotB f g) := fe_cmpB op_notBl scr_notB (nomark _) ha hb
theorem ft_isB (ha : FE X .rd a f) (hb : FE X .rd b g) : FT X (.Compare a [.Is] [b] pos) (qVal (eBin mIsB f g)) := ft_cmpB op_isBl scr_isB (nomark _) ha hb
theorem ft_notB (ha : FE X .rd a f) (hb : FE X .rd b g) : FT X (.Compare a [.IsNot] [b] pos) (qVal (eBin mNotB f g)) := ft_cmpB op_notBl scr_notB (nomark _) ha hb
/-! ### tuple + tuple, t[lo:hi], of any length -/
def mCatTA (x y : D) : Option D := match x, y with
  | .tup ds, .tup es => if lenOk (ds.length + es.length) = true then some (.tup (ds ++ es)) else none
  | _, _ => none
theorem fe_catTA (ha : FE X .rd a f) (hb : FE X .rd b g) : FE X .rd (.BinOp a .Add b pos) (eBin mCatTA f g) := PE.weak (pe_op op_catA ha hb) fun σ H Q ⟨F, fps, st, d, r, ed, q⟩ => by
  obtain ⟨x, y, e1, e2, e3⟩ := bind2 ed
  refine ⟨F, fps, st, x, r, e1, fun v H1 s1 w1 => ⟨F, fps, st, y, r.mono s1, e2, fun u H2 s2 w2 => ?_⟩⟩
  unfold mCatTA at e3
  split at e3
  · split at e3
    · rename_i hl
      cases e3
      obtain ⟨l, xs, l1, l2, l3⟩ := w1
      obtain ⟨m, ys, m1, m2, m3⟩ := w2
      have hx := l3.length
      have hy := m3.length
      have l2' := Same.sqt s2 l2
      have l3' := RepL.mono s2 _ _ l3
      refine ⟨l, m, xs, ys, l1, m1, l2', m2, by rw [hx, hy]; exact lenOk_le hl, fun z => ?_, fun _ z => ?_, fun _ _ p np => q _ _ ((s1.trans s2).trans (same_upd np)) (VR.newT (kd := .rd) r (s1.trans s2) (l3'.app m3) np)⟩
      · refine q _ _ (s1.trans s2) ?_
        have := l3'.app m3
        rw [z, List.nil_append] at this
        exact ⟨m, ys, rfl, m2, this⟩
      · refine q _ _ (s1.trans s2) ?_
        have := l3'.app m3
        rw [z, List.append_nil] at this
        exact ⟨l, xs, rfl, l2', this⟩
    · cases e3
  · cases e3
def mSlTA : D → Option Int → Option Int → Option D
  | .tup ds, lo, hi => some (.tup (cutG ds lo hi))
  | _, _, _ => none
variable {lo hi : Option Expr} {fl fh : OM}
theorem fe_slTA (he : FE X .rd e f) (hl : FO X lo fl) (hh : FO X hi fh) : FE X .rd (.Subscript e (.Slice lo hi none p2) pos) (eSl mSlTA f fl fh) := PE.weak (pe_slice sl_tupA he hl hh) fun σ H Q => tF_sl fun F fps st x v l u d H2 r s2 w e q => by
  unfold mSlTA at e
  split at e
  · cases e
    obtain ⟨a, xs, e1, e2, e3⟩ := w
    refine ⟨a, xs, e1, e2, fun z => ?_, fun _ p np => q _ _ (same_upd np) (VR.newT (kd := .rd) r s2 (e3.cut l u) np)⟩
    refine q _ _ (Same.refl _) ?_
    have hc := e3.cut l u
    have : cutV xs l u = xs := by
      unfold cutV
      rw [z.1, z.2, List.drop_zero, Nat.sub_zero, List.take_length]
    rw [this] at hc
    exact ⟨a, xs, rfl, e2, hc⟩
  · cases e
/-! ### x = [..] frozen at once -/
theorem tF_fz {k : Nat} {σ : L2.St} {H : Hp} {Q : VK} (h : tF K (.ow 0) f σ H Q) : tF K (.ow k) f σ H Q := by
  obtain ⟨F, fps, st, d, r, ed, q⟩ := h
  refine ⟨F, fps, st, d, r, ed, fun v H' s w => q v H' s ?_⟩
  obtain ⟨fp, n, fr, o⟩ := w
  refine VR.mk0 (Own.rep (F := hideP H' (own2 fps fp)) (hideP_mono (Same.refl _) fun a o _ h z => h (.inr z)) d k v fp (fun a m => ?_) o)
  exact hideP_not fun ⟨i, z⟩ => r.there ⟨i, z⟩ (fr a m)
theorem fs_setLc0 {t : TM} {I : List Nat} {el : Expr} {kr i : Nat} {y : Str} {py spos : Pos} {k' : Nat} {its : IM} {m : GM} {iter : Expr} {ifs : List Expr} {scope : Scope} {ow : List (Str × Nat)} (hc : X.calm = true) (hN : X.N.Nodup) (hy : X.N[i]? = some y) (hyl : X.env.scope.names.lookup y = some .local)
    (hsw : swapsWith (.ListComp el [⟨tg, iter, ifs, 0⟩] scope pos) (some (.Name y py)) spos.line X.env = pure true) (hi : FI X tg iter its) (ok : BlkOk X.N X.env.scope scope ow) (hI : ∀ i ∈ I, i ∈ ow.map (·.2))
    (hg : ∀ (s : Shared) (H : Hp) (C : Addr) (cl : List (Str × Addr)) (fp : List Addr), FG (X.blk s H scope (compEnvC scope cl C X.env) fp) I tg m) (ht : ∀ (s : Shared) (H : Hp) (C : Addr) (cl : List (Str × Addr)) (fp : List Addr), PTs (X.blk s H scope (compEnvC scope cl C X.env) fp) ifs (tFT X.K t))
    (he : ∀ (s : Shared) (H : Hp) (C : Addr) (cl : List (Str × Addr)) (fp : List Addr), FE (X.blk s H scope (compEnvC scope cl C X.env) fp) (.ow k') el f) (hs : ∀ x, foldedSetIterable iter X.env x = pure x := by intro _; rfl) :
    FS X kr (.Assign [.Name y py] (.ListComp el [⟨tg, iter, ifs, 0⟩] scope pos) spos) (sSet i 0 (eLc (ow.map (·.2)) its m t f)) :=
  PS.weak (ps_setLc hc hN hy hyl hsw hi ok hg ht he hs) fun Dn σ H h => tF_lc (K := X.K) hI (tF_fz (tF_set h))
end
end FL

namespace FL
open PySem PySem.Spec PyProof.Rows L2

section
variable {X : Cx} {k kr j : Nat} {K : PySem.W.Frag}
/-- a slot's own lists become shared -/
theorem StR.freeze {F : Fr} {fps : Fps} {σ : L2.St} {H : Hp} {st : Sl} {i : Nat} {d : D} (r : StR K F fps σ H st) (e : st[i]? = some (.va k d)) : StR K F (setF fps i []) σ H (st.set i (.va 0 d)) := by
  have hi : i < st.length := (List.getElem?_eq_some_iff.mp e).1
  have at_o : ∀ j, j ≠ i → setF fps i [] j = fps j := fun j h => setF_ne h
  have sub : ∀ a, own (setF fps i []) a → own fps a := fun a ⟨j, h⟩ => by
    by_cases hj : j = i
    · subst hj; rw [setF_same] at h; cases h
    · rw [at_o j hj] at h; exact ⟨j, h⟩
  have hide : Same (hideP H (own fps)) (hideP H (own (setF fps i []))) := hideP_mono (Same.refl _) fun a _ _ h z => h (sub a z)
  refine ⟨r.fr.trans hide, fun j => ?_, fun j j' a h1 h2 => ?_, by rw [List.length_set]; exact r.len, fun j sl es => ?_, fun j a hj h => r.isLst (sub a ⟨j, h⟩), ?_⟩
  · by_cases hj : j = i
    · subst hj; rw [setF_same]; exact List.nodup_nil
    · rw [at_o j hj]; exact r.nd j
  · by_cases hj : j = i
    · subst hj; rw [setF_same] at h1; cases h1
    · by_cases hj' : j' = i
      · subst hj'; rw [setF_same] at h2; cases h2
      · rw [at_o j hj] at h1; rw [at_o j' hj'] at h2; exact r.dj j j' a h1 h2
  · by_cases hj : j = i
    · subst hj
      rw [List.getElem?_set_self hi] at es
      cases es
      obtain ⟨v, ev, o⟩ := r.va e
      rw [setF_same]
      refine ⟨v, ev, Own.shared d v (Own.rep hide d k v _ (fun a m => hideP_not fun ⟨q, z⟩ => ?_) o)⟩
      by_cases hq : q = j
      · subst hq; rw [setF_same] at z; cases z
      · rw [at_o q hq] at z
        exact hq (r.dj q j a z m)
    · rw [List.getElem?_set_ne (Ne.symm hj)] at es
      rw [at_o j hj]
      exact (r.ok j sl es).mono hide fun _ _ => rfl
  · obtain ⟨m, hm⟩ := r.fin
    refine ⟨max m (i + 1), fun j hj => ?_⟩
    have h1 := Nat.le_max_left m (i + 1)
    have h2 := Nat.le_max_right m (i + 1)
    rw [at_o j (by omega)]
    exact hm j (by omega)
def sFrz (i : Nat) (g : SM) : SM := fun st => match st[i]? with
  | some (.va _ d) => g (st.set i (.va 0 d))
  | _ => none
theorem tF_frz {i : Nat} {g : SM} {Dn : Ends} {σ : L2.St} {H : Hp} (h : tFS K kr (sFrz i g) Dn σ H) : tFS K kr g Dn σ H := by
  obtain ⟨F, st, o, ⟨fps, r⟩, e, c⟩ := h
  unfold sFrz at e
  split at e
  · rename_i k' d es
    exact ⟨F, _, o, ⟨_, r.freeze es⟩, e, c⟩
  · cases e
theorem fs_frz {s : Stmt} {g : SM} (i : Nat) (h : FS X kr s g) : FS X kr s (sFrz i g) := PS.weak h fun _ _ _ => tF_frz
end
end FL

namespace FL
open PySem PySem.Spec PyProof.Rows L2

section
variable {X : Cx} {k kr j : Nat} {K : PySem.W.Frag} {e a b c tg : Expr} {f g h : EM} {pos p p2 : Pos}
/-! ### an expression that reads a slot's own lists as if they were shared; what comes has none of them -/
def eThaw (i k : Nat) (f : EM) : EM := fun st => match st[i]? with
  | some (.va _ d) => (f (st.set i (.va 0 d))).bind (chk k)
  | _ => none
def eThawR (i : Nat) (f : EM) : EM := fun st => match st[i]? with
  | some (.va _ d) => f (st.set i (.va 0 d))
  | _ => none
theorem tF_thaw {i : Nat} {σ : L2.St} {H : Hp} {Q : VK} (h : tF K (.ow k) (eThaw i k f) σ H Q) : tF K (.ow k) f σ H Q := by
  obtain ⟨F, fps, st, d, r, ed, q⟩ := h
  unfold eThaw at ed
  split at ed
  · rename_i k' d0 es
    obtain ⟨ed, fl⟩ := chk_some ed
    refine ⟨F, _, _, d, r.freeze es, ed, fun v H' s w => q v H' s ?_⟩
    obtain ⟨fp, n, fr, o⟩ := w
    refine ⟨fp, n, fr, Own.move (fun a ob e2 nm => ?_) d k v fp fl o⟩
    obtain ⟨_, e3⟩ := hideP_some.mp e2
    refine hideP_some.mpr ⟨fun z => ?_, e3⟩
    have : ∃ o, H' a = some o ∧ MutO o := by
      rcases z with m | z
      · exact Own.isLst d k v fp o a m
      · obtain ⟨o2, e4, m4⟩ := r.isLst z
        exact ⟨o2, s a o2 e4, m4⟩
    obtain ⟨o2, e4, m4⟩ := this
    rw [e3] at e4
    cases e4
    exact nm m4
  · cases ed
theorem tF_thawR {i : Nat} {σ : L2.St} {H : Hp} {Q : VK} (h : tF K .rd (eThawR i f) σ H Q) : tF K .rd f σ H Q := by
  obtain ⟨F, fps, st, d, r, ed, q⟩ := h
  unfold eThawR at ed
  split at ed
  · rename_i k' d0 es
    exact ⟨F, _, _, d, r.freeze es, ed, fun v H' s w => q v H' s w⟩
  · cases ed
theorem fe_thaw (i : Nat) (he : FE X (.ow k) e f) : FE X (.ow k) e (eThaw i k f) := PE.weak he fun _ _ _ => tF_thaw
theorem fe_thawR (i : Nat) (he : FE X .rd e f) : FE X .rd e (eThawR i f) := PE.weak he fun _ _ _ => tF_thawR
theorem fs_setLcT {t : TM} {I : List Nat} {el : Expr} {kr i q : Nat} {y : Str} {py spos : Pos} {k' : Nat} {its : IM} {m : GM} {iter : Expr} {ifs : List Expr} {scope : Scope} {ow : List (Str × Nat)} (hc : X.calm = true) (hN : X.N.Nodup) (hy : X.N[i]? = some y) (hyl : X.env.scope.names.lookup y = some .local)
    (hsw : swapsWith (.ListComp el [⟨tg, iter, ifs, 0⟩] scope pos) (some (.Name y py)) spos.line X.env = pure true) (hi : FI X tg iter its) (ok : BlkOk X.N X.env.scope scope ow) (hI : ∀ i ∈ I, i ∈ ow.map (·.2))
    (hg : ∀ (s : Shared) (H : Hp) (C : Addr) (cl : List (Str × Addr)) (fp : List Addr), FG (X.blk s H scope (compEnvC scope cl C X.env) fp) I tg m) (ht : ∀ (s : Shared) (H : Hp) (C : Addr) (cl : List (Str × Addr)) (fp : List Addr), PTs (X.blk s H scope (compEnvC scope cl C X.env) fp) ifs (tFT X.K t))
    (he : ∀ (s : Shared) (H : Hp) (C : Addr) (cl : List (Str × Addr)) (fp : List Addr), FE (X.blk s H scope (compEnvC scope cl C X.env) fp) (.ow k') el f) (hs : ∀ x, foldedSetIterable iter X.env x = pure x := by intro _; rfl) :
    FS X kr (.Assign [.Name y py] (.ListComp el [⟨tg, iter, ifs, 0⟩] scope pos) spos) (sSet i (k' + 1) (eThaw q (k' + 1) (eLc (ow.map (·.2)) its m t f))) :=
  PS.weak (ps_setLc hc hN hy hyl hsw hi ok hg ht he hs) fun Dn σ H h => tF_lc (K := X.K) hI (tF_thaw (tF_set h))
theorem fs_setLc0T {t : TM} {I : List Nat} {el : Expr} {kr i q : Nat} {y : Str} {py spos : Pos} {k' : Nat} {its : IM} {m : GM} {iter : Expr} {ifs : List Expr} {scope : Scope} {ow : List (Str × Nat)} (hc : X.calm = true) (hN : X.N.Nodup) (hy : X.N[i]? = some y) (hyl : X.env.scope.names.lookup y = some .local)
    (hsw : swapsWith (.ListComp el [⟨tg, iter, ifs, 0⟩] scope pos) (some (.Name y py)) spos.line X.env = pure true) (hi : FI X tg iter its) (ok : BlkOk X.N X.env.scope scope ow) (hI : ∀ i ∈ I, i ∈ ow.map (·.2))
    (hg : ∀ (s : Shared) (H : Hp) (C : Addr) (cl : List (Str × Addr)) (fp : List Addr), FG (X.blk s H scope (compEnvC scope cl C X.env) fp) I tg m) (ht : ∀ (s : Shared) (H : Hp) (C : Addr) (cl : List (Str × Addr)) (fp : List Addr), PTs (X.blk s H scope (compEnvC scope cl C X.env) fp) ifs (tFT X.K t))
    (he : ∀ (s : Shared) (H : Hp) (C : Addr) (cl : List (Str × Addr)) (fp : List Addr), FE (X.blk s H scope (compEnvC scope cl C X.env) fp) (.ow k') el f) (hs : ∀ x, foldedSetIterable iter X.env x = pure x := by intro _; rfl) :
    FS X kr (.Assign [.Name y py] (.ListComp el [⟨tg, iter, ifs, 0⟩] scope pos) spos) (sSet i 0 (eThaw q (k' + 1) (eLc (ow.map (·.2)) its m t f))) :=
  PS.weak (ps_setLc hc hN hy hyl hsw hi ok hg ht he hs) fun Dn σ H h => tF_lc (K := X.K) hI (tF_thaw (tF_fz (tF_set h)))
end
end FL

namespace FL
open PySem PySem.Spec PyProof.Rows L2

section
variable {X : Cx} {k kr j : Nat} {K : PySem.W.Frag} {e a b c tg : Expr} {f g h : EM} {pos p p2 : Pos}
/-! ### x[i].append(e), e without lists of one's own -/
def sAppN (i : Nat) (g f : EM) : SM := fun st => match slD st[i]? with
  | some (k', .lst ds) => if k' = 2 then (g st).bind fun x => (f st).bind fun d => match x with
    | .int n => (L2.ixN ds.length n).bind fun j => match ds[j]? with
      | some (.lst es) => if decide (es.length < 16777216) = true then some (.nx (setD st i (.lst (ds.set j (.lst (es ++ [d])))))) else none
      | _ => none
    | _ => none
    else none
  | _ => none
theorem tF_appN {i : Nat} {Dn : Ends} {σ : L2.St} {H : Hp} (hh : tFS K kr (sAppN i g f) Dn σ H) : tDrop (tBM K "list" rAppend (tOp (rIx K) (tVar i) (tF K .rd g)) (tCons (tF K (.ow 0) f) tNil)) Dn σ H := by
  obtain ⟨F, st, o, ⟨fps, r⟩, e, c⟩ := hh
  unfold sAppN at e
  split at e
  · rename_i k' ds hs
    split at e
    · rename_i hk
      subst hk
      obtain ⟨x, d, e2, e1, e⟩ := bind2 e
      split at e
      · rename_i n
        cases ej : L2.ixN ds.length n with
        | none => rw [ej] at e; cases e
        | some j =>
          rw [ej] at e
          have e : (match ds[j]? with
            | some (.lst es) => if decide (es.length < 16777216) = true then some (Out.nx (setD st i (.lst (ds.set j (.lst (es ++ [d])))))) else none
            | _ => none) = some o := e
          split at e
          · rename_i es hes
            split at e
            · rename_i hlen
              have hlen : es.length < sizeLine := by rw [sizeLine_eq]; exact of_decide_eq_true hlen
              cases e
              obtain ⟨v0, ev, L, xs, fpa, eL, hL, efp, oL⟩ := r.sl hs
              subst eL
              refine ⟨.ref L, ev, F, fps, st, .int n, r, e2, fun u H2 s2 w2 => ?_⟩
              obtain ⟨vj, A, B, C, g1, g2, g3, put⟩ := oL.split hes
              obtain ⟨M, ys, fpb, eM, hM, efB, oM⟩ := g3
              subst eM
              refine .inl ⟨L, xs, n, .ref M, rfl, w2, .inl (.inl (s2 _ _ hL)), atI_ixN (by rw [oL.len]; exact ej) g1, ?_⟩
              refine ⟨.inl ⟨rfl, ys, .inl (.inl (s2 _ _ hM))⟩, F, fps, st, d, r.mono s2, e1, fun v H3 s3 w => ?_⟩
              have s12 := s2.trans s3
              have rv := w.ow0
              subst efB
              have hm : M ∈ fps i := by rw [efp, g2]; exact List.mem_cons_of_mem _ (List.mem_append_right _ List.mem_cons_self)
              refine ⟨M, ys, v, rfl, rfl, s12 _ _ hM, by rw [oM.len]; exact hlen, ?_⟩
              have nd0 := r.nd i
              rw [efp, g2] at nd0
              obtain ⟨ndL, ndR⟩ := List.nodup_cons.mp nd0
              have inF : ∀ a, a ∈ L :: (A ++ (M :: fpb ++ C)) → a ∈ fps i := fun a m => by rw [efp, g2]; exact m
              have nM : (M :: fpb).Nodup := (List.nodup_append.mp (List.nodup_append.mp ndR).2.1).1
              obtain ⟨ndM, ndM2⟩ := List.nodup_cons.mp nM
              refine c σ _ ⟨_, r.bump (i := i) (A := M) (o := .lst (ys ++ [v])) (fp' := L :: (A ++ (M :: fpb ++ C))) s12 hm True.intro nd0 (fun a m => .inl (inF a m)) setD_length (fun j hj => setD_ne hj) fun sl es' gen => ?_⟩
              refine slD_put hs (fun s es => r.ok i s es) ev es' ?_
              have nin : ∀ a o', H a = some o' → ¬ own fps a → ¬ own (setF fps i (L :: (A ++ (M :: fpb ++ C)))) a := fun a o' e h z => by
                rcases own_setF z with m | z
                · exact h ⟨i, inF a m⟩
                · exact h z
              have keepA : ∀ a, a ∈ fps i → a ≠ M → upd H3 M (.lst (ys ++ [v])) a = H a := fun a m aM => by
                rw [upd_ne aM]
                obtain ⟨_, q, _⟩ := r.isLst ⟨i, m⟩
                rw [q]; exact s12 _ _ q
              have h3 := (List.nodup_append.mp ndR).2.2
              have h4 := (List.nodup_append.mp (List.nodup_append.mp ndR).2.1).2.2
              have hset : xs.set j (V.ref M) = xs := by
                apply List.ext_getElem?
                intro q
                by_cases hq : q = j
                · subst hq
                  rw [List.getElem?_set_self (List.getElem?_eq_some_iff.mp g1).1, g1]
                · rw [List.getElem?_set_ne (Ne.symm hq)]
              have LM : L ≠ M := fun z => ndL (by rw [z]; simp)
              refine ⟨L, xs, A ++ (M :: fpb ++ C), rfl, by rw [keepA L (inF L (by simp)) LM]; exact hL, rfl, ?_⟩
              rw [← hset]
              refine put _ _ _ (.ref M) (M :: fpb) (fun a m => keepA a (inF a (m.elim (fun m => by simp [m]) fun m => by simp [m])) fun z => ?_) (gen _ nin) ?_
              · subst z
                rcases m with m | m
                · exact h3 a m a (by simp) rfl
                · exact h4 a (by simp) a m rfl
              · refine ⟨M, ys ++ [v], fpb, rfl, upd_same, rfl, ?_⟩
                have o2 : OwnL K (upd H3 M (.lst (ys ++ [v]))) _ es 0 ys fpb := OwnL.mono (gen _ nin) es 0 ys fpb (fun a m => keepA a (inF a (by simp [m])) fun z => ndM (z ▸ m)) oM
                have := OwnL.app o2 (OwnL.one (Own.shared d v (Rep.mono (fun a o' e => ?_) d v rv)))
                · rw [List.append_nil] at this
                  exact this
                · obtain ⟨z1, z2⟩ := hideP_some.mp e
                  have aM : a ≠ M := fun z => z1 ⟨i, z ▸ hm⟩
                  refine hideP_some.mpr ⟨fun z => ?_, by rw [upd_ne aM]; exact z2⟩
                  rcases own_setF z with m | z
                  · exact z1 ⟨i, inF a m⟩
                  · exact z1 z
            · cases e
          · cases e
      · cases e
    · cases e
  · cases e
theorem fs_appN {i kr : Nat} {ec : Expr} (hp : PE X ec (tBM X.K "list" rAppend (tOp (rIx X.K) (tVar i) (tF X.K .rd g)) (tCons (tF X.K (.ow 0) f) tNil))) (hsw : swapsWith ec none pos.line X.env = pure false := by rfl) :
    FS X kr (.Expr ec pos) (sAppN i g f) := PS.weak (ps_expr hp hsw) fun _ _ _ => tF_appN
end
end FL

namespace FL
open PySem PySem.Spec PyProof.Rows L2

/-! ### max(xs, default=d) of a list of whole numbers, perhaps empty -/
section
variable {P : Program} {w : World} {A : Around} {s : Shared} {I : Addr} {fp wr : List Addr} {n : Nat} {It : Nat → Value → Prop} {St : Nat → Heap → Prop}
def dKw (d : Value) : List (Str × Value) := [(Str.ofString "default", d)]
theorem max_go {R : Result → Shared → Prop} (d : Value) (W : Walks P w A.in1 I fp wr n It St) (bt : Nat → Nat → Bool) (hcmp : CmpOf P w A.in1 .Gt It bt) (b0 : Addr) (nf : b0 ∉ fp) :
    ∀ (m j : Nat) (s : Shared) (v0 : Value) (c : Nat), n - (j + 1) = m → j + 1 ≤ n → St (j + 1) s.heap → It (argBest bt j) v0 →
    s.heap.get? b0 = some { cls := .type "list", dict := none, data := .seq #[v0, v0] c, slots := #[] } →
    (∀ v h' tk, It (argBest bt (n - 1)) v → (∀ b o, b ∉ wr → b ≠ b0 → s.heap.get? b = some o → h'.get? b = some o) → R (.ok (.ret v)) { s with heap := h', toks := tk }) →
    codeAny (model P w) A (.builtin "max.loop" ⟨[.ref I, .none, .ref b0], dKw d⟩) R s := by
  have nw : b0 ∉ wr := fun h => nf (W.sub _ h)
  have nm : (toString "max" ++ toString ".loop" : String) = "max.loop" := by decide
  intro m
  induction m with
  | zero =>
    intro j s v0 c hm hj hst hb hS hR
    have jn : j + 1 = n := by omega
    refine codeAny_builtin F.entry_max_loop ?_
    rw [Around.under_plainId F.plain_max_loop _]
    show wpAny _ A.in1 (seqItems? (.ref b0) >>= _) _ _ s
    refine wpAny_bind (wpAny_seqItems hS rfl ?_)
    show wpAny _ A.in1 (tryCatch (pyNext (.ref I)) _ >>= _) _ _ s
    refine wpAny_bind (wpAny_tryCatch (W.done s _ _ (jn ▸ hst) fun h1 t1 k1 => ?_))
    have hS1 := k1 b0 _ nw hS
    show wpAny _ A.in1 (updateSeq b0 (fun _ => #[]) >>= _) _ _ _
    refine wpAny_bind (wpAny_updateSeq hS1 rfl (wpAny_bind (wpAny_letGo (wpAny_pure ?_))))
    exact hR v0 _ t1 (by rw [← jn]; exact hb) fun b o x1 x2 e => (Heap.get?_update_other _ _ (Ne.symm x2)).trans (k1 b o x1 e)
  | succ m ih =>
    intro j s v0 c hm hj hst hb hS hR
    have jn : j + 1 < n := by omega
    refine codeAny_builtin F.entry_max_loop ?_
    rw [Around.under_plainId F.plain_max_loop _]
    show wpAny _ A.in1 (seqItems? (.ref b0) >>= _) _ _ s
    refine wpAny_bind (wpAny_seqItems hS rfl ?_)
    show wpAny _ A.in1 (tryCatch (pyNext (.ref I)) _ >>= _) _ _ s
    refine wpAny_bind (wpAny_tryCatch (W.item (j + 1) s _ _ jn hst fun v h1 t1 i1 st1 k1 => ?_))
    have hS1 := k1 b0 _ nw hS
    show wpAny _ A.in1 (tryCatch (holding [v, v] (richCompare .Gt v v0 >>= _)) _ >>= _) _ _ _
    refine wpAny_bind (wpAny_tryCatch (wpAny_holding (wpAny_bind (hcmp (j + 1) (argBest bt j) v v0 _ _ _ i1 hb ?_))))
    refine wpAny_bind (wpAny_holding (wpAny_truthy_bool (wpAny_bind (wpAny_letGo (wpAny_pure ?_)))))
    cases ht : bt (j + 1) (argBest bt j) with
    | true =>
      simp only [if_true]
      refine wpAny_bind (wpAny_updateSeq hS1 rfl (wpAny_bind (wpAny_letGo ?_)))
      rw [nm]
      refine wpAny_pure ⟨plainId_quiet F.plain_max_loop _, ih (j + 1) _ v _ (by omega) jn (W.frame _ _ _ st1 fun b x1 o e => (Heap.get?_update_other _ _ (fun h : b0 = b => nf (by rw [h]; exact x1))).trans e)
        (by simp only [argBest, ht, if_true]; exact i1) (Heap.get?_update_self _ hS1 rfl) fun v' h2 t2 i2 k2 => ?_⟩
      exact hR v' h2 t2 i2 fun b o x1 x2 e => k2 b o x1 x2 ((Heap.get?_update_other _ _ (Ne.symm x2)).trans (k1 b o x1 e))
    | false =>
      simp only [Bool.false_eq_true, if_false]
      refine wpAny_bind (wpAny_letGo ?_)
      rw [nm]
      refine wpAny_pure ⟨plainId_quiet F.plain_max_loop _, ih (j + 1) _ v0 c (by omega) jn st1 (by simp only [argBest, ht, Bool.false_eq_true, if_false]; exact hb) hS1 fun v' h2 t2 i2 k2 => ?_⟩
      exact hR v' h2 t2 i2 fun b o x1 x2 e => k2 b o x1 x2 (k1 b o x1 e)
theorem max_start {R : Result → Shared → Prop} (d : Value) (W : Walks P w A.in1 I fp wr n It St) (bt : Nat → Nat → Bool) (hcmp : CmpOf P w A.in1 .Gt It bt) (b0 : Addr) (nf : b0 ∉ fp) {c : Nat} (hst : St 0 s.heap)
    (hS : s.heap.get? b0 = some { cls := .type "list", dict := none, data := .seq #[] c, slots := #[] })
    (h0 : n = 0 → ∀ h' tk, (∀ b o, b ∉ wr → b ≠ b0 → s.heap.get? b = some o → h'.get? b = some o) → R (.ok (.ret d)) { s with heap := h', toks := tk })
    (hR : 0 < n → ∀ v h' tk, It (argBest bt (n - 1)) v → (∀ b o, b ∉ wr → b ≠ b0 → s.heap.get? b = some o → h'.get? b = some o) → R (.ok (.ret v)) { s with heap := h', toks := tk }) :
    codeAny (model P w) A (.builtin "max.loop" ⟨[.ref I, .none, .ref b0], dKw d⟩) R s := by
  have nw : b0 ∉ wr := fun h => nf (W.sub _ h)
  have nm : (toString "max" ++ toString ".loop" : String) = "max.loop" := by decide
  refine codeAny_builtin F.entry_max_loop ?_
  rw [Around.under_plainId F.plain_max_loop _]
  show wpAny _ A.in1 (seqItems? (.ref b0) >>= _) _ _ s
  refine wpAny_bind (wpAny_seqItems hS rfl ?_)
  show wpAny _ A.in1 (tryCatch (pyNext (.ref I)) _ >>= _) _ _ s
  by_cases hn : n = 0
  · refine wpAny_bind (wpAny_tryCatch (W.done s _ _ (by rw [hn]; exact hst) fun h1 t1 k1 => ?_))
    refine wpAny_bind (wpAny_rule ?_)
    exact wpAny_pure (h0 hn h1 t1 fun b o x1 x2 e => k1 b o x1 e)
  · refine wpAny_bind (wpAny_tryCatch (W.item 0 s _ _ (by omega) hst fun v h1 t1 i1 st1 k1 => ?_))
    have hS1 := k1 b0 _ nw hS
    show wpAny _ A.in1 (updateSeq b0 (fun _ => #[v, v]) >>= _) _ _ _
    refine wpAny_bind (wpAny_updateSeq hS1 rfl ?_)
    rw [nm]
    refine wpAny_pure ⟨plainId_quiet F.plain_max_loop _, max_go d W bt hcmp b0 nf _ 0 _ v _ rfl (by omega) (W.frame _ _ _ st1 fun b x1 o e => (Heap.get?_update_other _ _ (fun h : b0 = b => nf (by rw [h]; exact x1))).trans e) i1 (Heap.get?_update_self _ hS1 rfl) fun v' h2 t2 i2 k2 => ?_⟩
    exact hR (by omega) v' h2 t2 i2 fun b o x1 x2 e => k2 b o x1 x2 ((Heap.get?_update_other _ _ (Ne.symm x2)).trans (k1 b o x1 e))
theorem args_maxD (a d : Value) : argsOk "max" ⟨[a], dKw d⟩ := by unfold argsOk dKw; kernel_rfl
theorem call_kw_tree {E : Value → Shared → Prop} {id : String} {b : Builtin} {args : List Value} {kw : List (Str × Value)} {Q : Value → Shared → Prop} (hk : builtinKind id = none) (hp : plainId id = true) (hb : entryFor table id = some b) (ha : argsOk id ⟨args, kw⟩)
    (hc : wpAny (model P w) A.in1 (b ⟨args, kw⟩) (fun fin s' => match fin with
      | .done f => (match (Except.ok f : Result) with | .ok (.ret v) => Q v s' | .ok _ => False | .error e => E e s')
      | .again c' => c'.quiet = true ∧ codeAny (model P w) A c' (fun r s' => match r with | .ok (.ret v) => Q v s' | .ok _ => False | .error e => E e s') s') E s) :
    wpAny (model P w) A (call (.builtin id) args kw) Q E s := by
  refine wpAny_call (codeAny_call_builtin hp hb ?_)
  simp only [checkBuiltinCall, hk]
  cases hg : Manifest.signature? id with
  | none => exact wpAny_pure hc
  | some sg =>
    have hz : Bind.checkArgs id sg ⟨args, kw⟩ = pure () := by simpa only [argsOk, hg] using ha
    simp only [hz]
    exact wpAny_pure hc
theorem max_dflt {E : Value → Shared → Prop} {Q : Value → Shared → Prop} {l : Addr} {xs : Array (Int × Tok)} (d : Value) (hh : A.handled = none) (hl : s.heap.IsList l (intItems xs))
    (h0 : xs.size = 0 → ∀ h' tk, (∀ b o, s.heap.get? b = some o → h'.get? b = some o) → Q d { s with heap := h', toks := tk })
    (h : 0 < xs.size → ∀ v h' tk, (intItems xs)[argBest (fun i j => decide (numAt xs i > numAt xs j)) (xs.size - 1)]? = some v → (∀ b o, s.heap.get? b = some o → h'.get? b = some o) → Q v { s with heap := h', toks := tk }) :
    wpAny (model P w) A (call (.builtin "max") [.ref l] (dKw d)) Q E s := by
  have nm : (toString "max" ++ toString ".loop" : String) = "max.loop" := by decide
  refine call_kw_tree F.kind_max F.plain_max F.entry_max (args_maxD _ _) ?_
  show wpAny _ A.in1 (Builtin.Builtins.bindParams "max" ["key", "default"] 0 ⟨[], dKw d⟩ >>= _) _ _ s
  refine wpAny_bind (wpAny_of_eq (show Builtin.Builtins.bindParams "max" ["key", "default"] 0 ⟨[], dKw d⟩ = pure [none, some d] from rfl) ?_)
  refine wpAny_bind (wpAny_pure (wpAny_bind (iter_intList hl fun s2 e st hfp hlI => ?_)))
  subst e
  refine wpAny_bind (wpAny_newObj_type ?_)
  have W := Walks.list (prog := P) (w := w) (A := A.in1) hh s.heap.objs.size l hlI (intItems xs)
  rw [nm]
  refine wpAny_pure ⟨plainId_quiet F.plain_max_loop _, ?_⟩
  have sz : (intItems xs).size = xs.size := by simp [intItems]
  refine max_start d W (fun i j => decide (numAt xs i > numAt xs j)) (CmpOf.ints_gt (numAt xs) fun _ _ => intItems_at) _ (fun m => Nat.lt_irrefl _ (hfp _ m)) (W.frame _ _ _ st fun b _ o e => Heap.get?_push_of_some _ e) (Heap.get?_push_size _ rfl)
    (fun hn h' tk hk => ?_) fun hn v h' tk hv hk => ?_
  · exact h0 (by omega) h' tk (old_kept fun b o hb e => hk b o hb (Nat.ne_of_lt (Heap.lt_size e)) (Heap.get?_push_of_some _ e))
  · exact h (by omega) v h' tk (by rw [sz] at hv; exact hv) (old_kept fun b o hb e => hk b o hb (Nat.ne_of_lt (Heap.lt_size e)) (Heap.get?_push_of_some _ e))
end
section
variable {X : Cx} {kd : Kd} {e : Expr} {es : List Expr} {fa : AM} {x : Str} {p pos : Pos} {kws : List Keyword} {K : PySem.W.Frag}
def rMaxD (K : PySem.W.Frag) (z : Int) : List V → List V → Hp → VK → Prop := fun vs zs H Q => ∃ (a : Addr) (ns : List Int), vs = [V.ref a] ∧ zs = [.int z] ∧ SqL K H a (ns.map V.int) ∧ Q (.int (if ns.isEmpty = true then z else maxL ns)) H
theorem cr_maxD (z : Int) (hc : X.calm = true) : CallRK X (.builtin "max") [Str.ofString "default"] (rMaxD X.K z) := by
  intro pins s σ H vs zs us ws Q I r rz h
  obtain ⟨a, ns, rfl, rfl, hs, q⟩ := h
  obtain rfl := Vals.ref1 r
  obtain ⟨w1, rfl, e1⟩ := vals1 rz
  obtain ⟨t0, rfl⟩ : ∃ t, w1 = Value.int z t := e1
  obtain ⟨its, rv, hl, hz⟩ := I.list hs
  have hi := rv.ints
  obtain ⟨xs, e⟩ := hi.allInts.items
  have hn : numsOf (intItems xs).toList = ns := by rw [← e]; exact hi.numsOf
  rw [nums_intItems] at hn
  subst hn
  have hl' := hl.isList
  rw [e] at hl'
  refine max_dflt (.int z t0) (I.ok.hd hc) hl' (fun hz h' tk hk => ?_) fun hp v h' tk hv hk => ?_
  · refine ⟨.int z, H, I.kept hk, ⟨_, rfl⟩, ?_⟩
    have e0 : (xs.toList.map (·.1)).isEmpty = true := by rw [List.isEmpty_iff, List.map_eq_nil_iff]; exact List.eq_nil_of_length_eq_zero (by simpa using hz)
    rw [if_pos e0] at q
    exact q
  · obtain ⟨t, rfl⟩ := intItems_at hv
    obtain ⟨h1, h2⟩ := argBest_gt (numAt xs) (xs.size - 1)
    have ne : xs.toList.map (·.1) ≠ [] := fun z => by
      have := congrArg List.length z
      simp only [List.length_map, Array.length_toList, List.length_nil] at this
      omega
    obtain ⟨m1, m2⟩ := maxL_mem ne
    have k1 : numAt xs (argBest (fun i j => decide (numAt xs i > numAt xs j)) (xs.size - 1)) ∈ xs.toList.map (·.1) := by
      have hb : argBest (fun i j => decide (numAt xs i > numAt xs j)) (xs.size - 1) < (xs.toList.map (·.1)).length := by
        rw [List.length_map, Array.length_toList]
        exact Nat.lt_of_le_of_lt h1 (by omega)
      rw [numAt_eq]
      exact PySem.getD_mem hb
    have k2 := m2 _ k1
    obtain ⟨j, hj, ej⟩ := mem_getD m1
    rw [List.length_map, Array.length_toList] at hj
    have k3 := h2 j (Nat.le_sub_one_of_lt hj)
    rw [numAt_eq, ej] at k3
    rw [if_neg (by rw [List.isEmpty_iff]; exact ne)] at q
    have ee : maxL (xs.toList.map (·.1)) = numAt xs (argBest (fun i j => decide (numAt xs i > numAt xs j)) (xs.size - 1)) := Int.le_antisymm k3 k2
    rw [ee] at q
    exact ⟨.int _, H, I.kept hk, ⟨_, rfl⟩, q⟩
def mMaxD (z : Int) : List D → Option D
  | [.lst ds] => (intsOf ds).map fun l => .int (if l.isEmpty = true then z else maxL l)
  | _ => none
theorem fe_maxD {z : Int} {nm : Option Str} {cp kp : Pos} {j : Nat} (hg : Gl X "max") (hm : X.mg "max" = none) (ha : FA X .rd (e :: es) fa) (hc : X.calm = true := by rfl)
    (he : backTo pos (starEach (e :: es) X.env) = (false, eval e X.env) :: backTo pos (starEach es X.env) := by rfl) (hpl : (backTo pos (starEach (e :: es) X.env)).any (·.1) = false := by rfl)
    (hall : (backToKw pos (keywordEach [⟨nm, .Constant (.int z) j cp, kp⟩] X.env)).all (·.1.isSome) = true := by rfl) (hnone : (backToKw pos (keywordEach [⟨nm, .Constant (.int z) j cp, kp⟩] X.env)).any (·.1.isNone) = false := by rfl) (hks : (backToKw pos (keywordEach [⟨nm, .Constant (.int z) j cp, kp⟩] X.env)).filterMap (·.1) = [Str.ofString "default"] := by rfl) :
    FE X kd (.Call (.Name "max" p) (e :: es) [⟨nm, .Constant (.int z) j cp, kp⟩] pos) (eCB (mMaxD z) fa) :=
  PE.weak (pe_callBK (cr_maxD z hc) hg hm (by decide +kernel) ha (pk_cons pe_int pk_nil) (by decide) (by decide) he hpl hall hnone hks) fun σ H Q h => by
    obtain ⟨F, fps, st, d, rr, ed, q⟩ := h
    unfold eCB at ed
    cases ef : fa st with
    | none => rw [ef] at ed; cases ed
    | some ds =>
      rw [ef] at ed
      refine ⟨F, fps, st, ds, rr, ef, fun vs H1 s1 w => ?_⟩
      replace ed : mMaxD z ds = some d := ed
      unfold mMaxD at ed
      split at ed
      · rename_i xs'
        cases ei : intsOf xs' with
        | none => rw [ei] at ed; cases ed
        | some l =>
          rw [ei] at ed
          cases ed
          have w : RepL X.K H1 [.lst xs'] vs := w
          obtain ⟨v, ev, a, ys, e1, e2, e3⟩ := w.one_inv
          obtain ⟨q1, q2⟩ := intsOf_rep e3 ei
          exact ⟨a, l, by rw [ev, e1], rfl, .inl (.inl (by rw [← q1]; exact e2)), q _ H1 s1 (VR.sc rfl rfl)⟩
      · cases ed
end
theorem fn_none {P : Program} {w : World} {K : PySem.W.Frag} {mg : Str → Option Value} {base : Heap} {j n kr : Nat} {f : Addr} {fd : FuncData} {ps : List Str} (hn : n = ps.length) : FnOk P w K mg base CX0 j f fd ps (spF K n kr fun _ => none) :=
  ⟨fun vs H Q E h => h.1.trans hn, fun A outer s H args us vs Q E _ _ _ _ h => by obtain ⟨_, ds, d, _, e, _⟩ := h; cases e⟩
end FL

namespace FL
open PySem PySem.Spec PyProof.Rows L2

section
variable {X : Cx} {k kr j : Nat} {K : PySem.W.Frag} {e a b c tg : Expr} {f g h : EM} {pos p p2 : Pos}
/-! ### x[i].clear() -/
def sClrN (i : Nat) (g : EM) : SM := fun st => match slD st[i]? with
  | some (k', .lst ds) => if k' = 2 then (g st).bind fun x => match x with
    | .int n => (L2.ixN ds.length n).bind fun j => match ds[j]? with
      | some (.lst _) => some (.nx (setD st i (.lst (ds.set j (.lst [])))))
      | _ => none
    | _ => none
    else none
  | _ => none
theorem tF_clrN {i : Nat} {Dn : Ends} {σ : L2.St} {H : Hp} (hh : tFS K kr (sClrN i g) Dn σ H) : tDrop (tBM0 K "list" rClear (tOp (rIx K) (tVar i) (tF K .rd g))) Dn σ H := by
  obtain ⟨F, st, o, ⟨fps, r⟩, e, c⟩ := hh
  unfold sClrN at e
  split at e
  · rename_i k' ds hs
    split at e
    · rename_i hk
      subst hk
      cases eg : g st with
      | none => rw [eg] at e; cases e
      | some x =>
        rw [eg] at e
        replace e : (match (generalizing := false) x with
          | .int n => (L2.ixN ds.length n).bind fun j => match ds[j]? with
            | some (.lst _) => some (Out.nx (setD st i (.lst (ds.set j (.lst [])))))
            | _ => none
          | _ => none) = some o := e
        split at e
        · rename_i n
          cases ej : L2.ixN ds.length n with
          | none => rw [ej] at e; cases e
          | some j =>
            rw [ej] at e
            replace e : (match ds[j]? with
              | some (.lst _) => some (Out.nx (setD st i (.lst (ds.set j (.lst [])))))
              | _ => none) = some o := e
            split at e
            · rename_i es hes
              cases e
              obtain ⟨v0, ev, L, xs, fpa, eL, hL, efp, oL⟩ := r.sl hs
              subst eL
              refine ⟨.ref L, ev, F, fps, st, .int n, r, eg, fun u H2 s2 w2 => ?_⟩
              obtain ⟨vj, A, B, C, g1, g2, g3, put⟩ := oL.split hes
              obtain ⟨M, ys, fpb, eM, hM, efB, oM⟩ := g3
              subst eM
              refine .inl ⟨L, xs, n, .ref M, rfl, w2, .inl (.inl (s2 _ _ hL)), atI_ixN (by rw [oL.len]; exact ej) g1, ?_⟩
              refine ⟨.inl ⟨rfl, ys, .inl (.inl (s2 _ _ hM))⟩, M, ys, rfl, rfl, s2 _ _ hM, ?_⟩
              subst efB
              have hm : M ∈ fps i := by rw [efp, g2]; exact List.mem_cons_of_mem _ (List.mem_append_right _ List.mem_cons_self)
              have nd0 := r.nd i
              rw [efp, g2] at nd0
              obtain ⟨ndL, ndR⟩ := List.nodup_cons.mp nd0
              have inF : ∀ a, a ∈ L :: (A ++ ([M] ++ C)) → a ∈ fps i := fun a m => by
                rw [efp, g2]
                simp only [List.mem_cons, List.mem_append, List.not_mem_nil, or_false] at m ⊢
                rcases m with m | m | m | m
                · exact .inl m
                · exact .inr (.inl m)
                · exact .inr (.inr (.inl (.inl m)))
                · exact .inr (.inr (.inr m))
              obtain ⟨ndA, ndMC, disA⟩ := List.nodup_append.mp ndR
              obtain ⟨ndM, ndC, disM⟩ := List.nodup_append.mp ndMC
              have nd1 : (L :: (A ++ ([M] ++ C))).Nodup := by
                refine List.nodup_cons.mpr ⟨fun m => ndL ?_, List.nodup_append.mpr ⟨ndA, List.nodup_append.mpr ⟨by simp, ndC, fun a m b m2 => ?_⟩, fun a m b m2 => ?_⟩⟩
                · simp only [List.mem_cons, List.mem_append, List.not_mem_nil, or_false] at m ⊢
                  rcases m with m | m | m
                  · exact .inl m
                  · exact .inr (.inl (.inl m))
                  · exact .inr (.inr m)
                · rw [List.mem_singleton.mp m]
                  exact disM M List.mem_cons_self b m2
                · refine disA a m b ?_
                  simp only [List.mem_cons, List.mem_append, List.not_mem_nil, or_false] at m2 ⊢
                  rcases m2 with m2 | m2
                  · exact .inl (.inl m2)
                  · exact .inr m2
              refine c σ _ ⟨_, r.bump (i := i) (A := M) (o := .lst []) (fp' := L :: (A ++ ([M] ++ C))) s2 hm True.intro nd1 (fun a m => .inl (inF a m)) setD_length (fun j hj => setD_ne hj) fun sl es' gen => ?_⟩
              refine slD_put hs (fun s es => r.ok i s es) ev es' ?_
              have nin : ∀ a o', H a = some o' → ¬ own fps a → ¬ own (setF fps i (L :: (A ++ ([M] ++ C)))) a := fun a o' e h z => by
                rcases own_setF z with m | z
                · exact h ⟨i, inF a m⟩
                · exact h z
              have keepA : ∀ a, a ∈ fps i → a ≠ M → upd H2 M (.lst []) a = H a := fun a m aM => by
                rw [upd_ne aM]
                obtain ⟨_, q, _⟩ := r.isLst ⟨i, m⟩
                rw [q]; exact s2 _ _ q
              have hset : xs.set j (V.ref M) = xs := by
                apply List.ext_getElem?
                intro q
                by_cases hq : q = j
                · subst hq
                  rw [List.getElem?_set_self (List.getElem?_eq_some_iff.mp g1).1, g1]
                · rw [List.getElem?_set_ne (Ne.symm hq)]
              have LM : L ≠ M := fun z => ndL (by rw [z]; simp)
              refine ⟨L, xs, A ++ ([M] ++ C), rfl, by rw [keepA L (inF L (by simp)) LM]; exact hL, rfl, ?_⟩
              rw [← hset]
              refine put _ _ _ (.ref M) [M] (fun a m => keepA a (inF a (m.elim (fun m => by simp [m]) fun m => by simp [m])) fun z => ?_) (gen _ nin) ⟨M, [], [], rfl, upd_same, rfl, rfl, rfl⟩
              subst z
              rcases m with m | m
              · exact disA a m a (by simp) rfl
              · exact disM a (by simp) a m rfl
            · cases e
        · cases e
    · cases e
  · cases e
theorem fs_clrN {i kr : Nat} {ec : Expr} (hp : PE X ec (tBM0 X.K "list" rClear (tOp (rIx X.K) (tVar i) (tF X.K .rd g)))) (hsw : swapsWith ec none pos.line X.env = pure false := by rfl) :
    FS X kr (.Expr ec pos) (sClrN i g) := PS.weak (ps_expr hp hsw) fun _ _ _ => tF_clrN
/-! ### x.clear() -/
def sClr (i : Nat) : SM := fun st => match slD st[i]? with
  | some (_ + 1, .lst _) => some (.nx (setD st i (.lst [])))
  | _ => none
theorem tF_clr {i : Nat} {Dn : Ends} {σ : L2.St} {H : Hp} (hh : tFS K kr (sClr i) Dn σ H) : tDrop (tBM0 K "list" rClear (tVar i)) Dn σ H := by
  obtain ⟨F, st, o, ⟨fps, r⟩, e, c⟩ := hh
  unfold sClr at e
  split at e
  · rename_i k' ds hs
    cases e
    obtain ⟨v0, ev, L, xs, fpa, eL, hL, efp, oL⟩ := r.sl hs
    subst eL
    refine ⟨.ref L, ev, .inl ⟨rfl, xs, .inl (.inl hL)⟩, L, xs, rfl, rfl, hL, ?_⟩
    have hm : L ∈ fps i := by rw [efp]; exact List.mem_cons_self
    have inF : ∀ a, a ∈ [L] → a ∈ fps i := fun a m => by rw [List.mem_singleton.mp m]; exact hm
    refine c σ _ ⟨_, r.bump (i := i) (A := L) (o := .lst []) (fp' := [L]) (Same.refl _) hm True.intro (by simp) (fun a m => .inl (inF a m)) setD_length (fun j hj => setD_ne hj) fun sl es' gen => ?_⟩
    refine slD_put hs (fun s es => r.ok i s es) ev es' ?_
    exact ⟨L, [], [], rfl, upd_same, rfl, rfl, rfl⟩
  · cases e
theorem fs_clr {i kr : Nat} {ec : Expr} (hp : PE X ec (tBM0 X.K "list" rClear (tVar i))) (hsw : swapsWith ec none pos.line X.env = pure false := by rfl) :
    FS X kr (.Expr ec pos) (sClr i) := PS.weak (ps_expr hp hsw) fun _ _ _ => tF_clr
end
end FL

namespace FL
open PySem PySem.Spec PyProof.Rows L2

section
variable {X : Cx} {k kr j : Nat} {K : PySem.W.Frag} {e a b c tg : Expr} {es : List Expr} {f g h : EM} {fa : AM} {pos p p2 : Pos}
/-- what a slot holds is carried on as a temporary -/
theorem StR.give {F : Fr} {fps : Fps} {σ : L2.St} {H : Hp} {st : Sl} {i : Nat} {d : D} (r : StR K F fps σ H st) (e : st[i]? = some (.va k d)) :
    ∃ (m : Nat) (fps' : Fps) (v : V), st.length ≤ m ∧ StR K F fps' σ H (st.set i .un) ∧ σ[i]? = some (some v) ∧ Own K H (hideP H (own fps')) d k v (fps' m) := by
  obtain ⟨m0, hm0⟩ := r.fin
  obtain ⟨v, ev, ow⟩ := r.va e
  have hi : i < st.length := (List.getElem?_eq_some_iff.mp e).1
  have hmi : i ≠ max m0 st.length := by have := Nat.le_max_right m0 st.length; omega
  let fps' : Fps := fun j => if j = max m0 st.length then fps i else if j = i then [] else fps j
  have fm : fps' (max m0 st.length) = fps i := if_pos rfl
  have fi : fps' i = [] := by show (if i = _ then _ else if i = i then _ else _) = _; rw [if_neg hmi, if_pos rfl]
  have fo : ∀ j, j ≠ max m0 st.length → j ≠ i → fps' j = fps j := fun j h1 h2 => by show (if j = _ then _ else if j = i then _ else _) = _; rw [if_neg h1, if_neg h2]
  have back : ∀ a, own fps' a → own fps a := fun a ⟨j, m⟩ => by
    by_cases h1 : j = max m0 st.length
    · rw [h1, fm] at m; exact ⟨i, m⟩
    · by_cases h2 : j = i
      · rw [h2, fi] at m; cases m
      · rw [fo j h1 h2] at m; exact ⟨j, m⟩
  have hide : Same (hideP H (own fps)) (hideP H (own fps')) := hideP_mono (Same.refl _) fun a _ _ h z => h (back a z)
  refine ⟨max m0 st.length, fps', v, Nat.le_max_right _ _, ⟨r.fr.trans hide, fun j => ?_, fun j j' a m1 m2 => ?_, by rw [List.length_set]; exact r.len, fun j sl es => ?_, fun j a h m => ?_, max m0 st.length + 1, fun j h => ?_⟩, ev, ?_⟩
  · by_cases h1 : j = max m0 st.length
    · rw [h1, fm]; exact r.nd i
    · by_cases h2 : j = i
      · rw [h2, fi]; exact List.nodup_nil
      · rw [fo j h1 h2]; exact r.nd j
  · have from' : ∀ j, a ∈ fps' j → (j = max m0 st.length ∧ a ∈ fps i) ∨ (j ≠ max m0 st.length ∧ j ≠ i ∧ a ∈ fps j) := fun j m => by
      by_cases h1 : j = max m0 st.length
      · rw [h1, fm] at m; exact .inl ⟨h1, m⟩
      · by_cases h2 : j = i
        · rw [h2, fi] at m; cases m
        · rw [fo j h1 h2] at m; exact .inr ⟨h1, h2, m⟩
    rcases from' j m1 with ⟨a1, a2⟩ | ⟨a1, a2, a3⟩
    · rcases from' j' m2 with ⟨b1, b2⟩ | ⟨b1, b2, b3⟩
      · rw [a1, b1]
      · exact (b2 (r.dj j' i a b3 a2)).elim
    · rcases from' j' m2 with ⟨b1, b2⟩ | ⟨b1, b2, b3⟩
      · exact (a2 (r.dj j i a a3 b2)).elim
      · exact r.dj j j' a a3 b3
  · by_cases h2 : j = i
    · subst h2
      rw [List.getElem?_set_self hi] at es
      cases es
      exact fi
    · rw [List.getElem?_set_ne (Ne.symm h2)] at es
      have h1 : j ≠ max m0 st.length := by
        have := (List.getElem?_eq_some_iff.mp es).1
        have := Nat.le_max_right m0 st.length
        omega
      rw [fo j h1 h2]
      exact (r.ok j sl es).mono hide fun a m => rfl
  · rw [List.length_set] at h
    by_cases h1 : j = max m0 st.length
    · rw [h1, fm] at m
      exact r.isLst ⟨i, m⟩
    · rw [fo j h1 (by omega)] at m
      exact r.tmp j a h m
  · rw [fo j (by omega) (by have := Nat.le_max_right m0 st.length; omega)]
    exact hm0 j (by have := Nat.le_max_left m0 st.length; omega)
  · rw [fm]
    exact Own.mono hide d k v _ (fun _ _ => rfl) ow
/-- (x, e, ..), x's lists handed over, e .. without lists -/
def xTupV (i k : Nat) (fa : AM) : XM := fun st => match st[i]? with
  | some (.va k' d) => if k' = k then (fa (st.set i .un)).bind fun ds => if (fullL ds 0 && lenOk (ds.length + 1)) = true then some (.tup (d :: ds), st.set i .un) else none
    else none
  | _ => none
theorem fx_tupV {i : Nat} {x1} (hx : PE X a (tVar i)) (ha : FA X .rd es fa) (hs : starEach (a :: es) X.env = (false, eval a X.env) :: starEach es X.env := by rfl) : FX X (.ow k) (.Tuple (a :: es) x1 pos) (xTupV i k fa) := PE.weak (pe_tup (pa_cons hx ha hs)) fun σ H Q ⟨F, fps, st, d, st', r, ed, q⟩ => by
  unfold xTupV at ed
  split at ed
  · rename_i k' d0 hs
    split at ed
    · rename_i hk
      subst hk
      obtain ⟨m, fps', v, hm, r', ev, ow⟩ := r.give hs
      cases e1 : fa (st.set i .un) with
      | none => rw [e1] at ed; cases ed
      | some ds =>
        rw [e1] at ed
        have ed : (if (fullL ds 0 && lenOk (ds.length + 1)) = true then some (D.tup (d0 :: ds), st.set i .un) else none) = some (d, st') := ed
        split at ed
        · rename_i hf
          cases ed
          have hf := Bool.and_eq_true_iff.mp hf
          refine ⟨v, ev, F, fps', st.set i .un, ds, r', e1, fun vs H1 s1 w => ?_⟩
          have w : RepL X.K H1 ds vs := w
          refine ⟨by rw [List.length_cons, w.length]; exact lenOk_le hf.2, fun p np => ?_⟩
          have s2 : Same H (upd H1 p (.tup (v :: vs))) := s1.trans (same_upd np)
          have r2 := r'.mono s2
          have r1 := r'.mono s1
          have hp : ∀ a, own fps' a → a ≠ p := fun a z e => by subst e; exact r1.there z np
          refine q _ _ fps' r2 ⟨m, by rw [List.length_set]; exact hm, p, v :: vs, rfl, .inl (.inl (hideP_some.mpr ⟨fun z => hp p z rfl, upd_same⟩)), v, vs, fps' m, [], rfl, by rw [List.append_nil], ?_, ?_⟩
          · refine Own.mono (hideP_mono s2 fun _ _ _ h => h) d0 _ v _ (fun a ma => ?_) ow
            obtain ⟨_, e, _⟩ := r'.isLst ⟨m, ma⟩
            rw [e]; exact s2 _ _ e
          · exact OwnL.flat _ ds vs hf.1 (RepL.flat (hideP_keeps fun b hb => r2.isLst hb) ds vs hf.1 (RepL.mono (same_upd np) ds vs w))
        · cases ed
    · cases ed
  · cases ed
/-! ### xs.pop() of what is no list -/
def xPop (i : Nat) : XM := fun st => match slD st[i]? with
  | some (_ + 1, .lst ds) => match ds[ds.length - 1]? with
    | some d => if sc d = true then some (d, setD st i (.lst ds.dropLast)) else none
    | none => none
  | _ => none
theorem sc_full {d : D} (h : sc d = true) : ∀ k, full d k = true := fun k => by cases d <;> first | rfl | cases h
theorem sc_own {H G : Hp} {d : D} {k : Nat} {v : V} {fp : List Addr} (h : sc d = true) (o : Own K H G d k v fp) : fp = [] ∧ v = scV d := by
  cases d <;> first | exact o | cases h
theorem OwnL.pop {k : Nat} {H G : Hp} : ∀ {ds : List D} {xs : List V} {fp : List Addr} {d : D}, OwnL K H G ds k xs fp → ds[ds.length - 1]? = some d → sc d = true → xs[xs.length - 1]? = some (scV d) ∧ OwnL K H G ds.dropLast k xs.dropLast fp
  | [], _, _, _, _, e, _ => by simp at e
  | [d0], _, _, d, ⟨v, r, fp1, fp2, ev, ef, h1, h2⟩, e, hd => by
    have e : some d0 = some d := e
    cases e
    obtain ⟨rfl, rfl⟩ := h2
    obtain ⟨rfl, rfl⟩ := sc_own hd h1
    subst ev ef
    exact ⟨rfl, rfl, rfl⟩
  | d0 :: d1 :: ds, _, _, d, ⟨v, r, fp1, fp2, ev, ef, h1, h2⟩, e, hd => by
    subst ev ef
    have e2 : (d1 :: ds)[(d1 :: ds).length - 1]? = some d := e
    obtain ⟨g1, g2⟩ := OwnL.pop h2 e2 hd
    have hr : r ≠ [] := fun z => by rw [z] at g1; cases g1
    obtain ⟨u, r', rfl⟩ := List.exists_cons_of_ne_nil hr
    refine ⟨g1, ?_⟩
    show OwnL K H G (d0 :: (d1 :: ds).dropLast) k (v :: (u :: r').dropLast) (fp1 ++ fp2)
    exact ⟨v, _, fp1, fp2, rfl, rfl, h1, g2⟩
theorem fx_pop {i : Nat} {ec : Expr} (hp : PE X ec (tBM0 X.K "list" rPop (tVar i))) : FX X (.ow k) ec (xPop i) := PE.weak hp fun σ H Q ⟨F, fps, st, d, st', r, ed, q⟩ => by
  unfold xPop at ed
  split at ed
  · rename_i k' ds hs
    split at ed
    · rename_i d0 hd
      split at ed
      · rename_i hsc
        cases ed
        obtain ⟨v0, ev, L, xs, fpa, eL, hL, efp, oL⟩ := r.sl hs
        subst eL
        obtain ⟨g1, g2⟩ := oL.pop hd hsc
        refine ⟨.ref L, ev, .inl ⟨rfl, xs, .inl (.inl hL)⟩, L, xs, scV d, rfl, rfl, hL, g1, ?_⟩
        have hm : L ∈ fps i := by rw [efp]; exact List.mem_cons_self
        have nd0 := r.nd i
        rw [efp] at nd0
        have nL := (List.nodup_cons.mp nd0).1
        have inF : ∀ a, a ∈ L :: fpa → a ∈ fps i := fun a m => by rw [efp]; exact m
        have rb := r.bump (i := i) (A := L) (o := .lst xs.dropLast) (fp' := L :: fpa) (st' := setD st i (.lst ds.dropLast)) (Same.refl _) hm True.intro nd0 (fun a m => .inl (inF a m)) setD_length (fun j hj => setD_ne hj) fun sl es' gen => (by
          refine slD_put hs (fun s es => r.ok i s es) ev es' ?_
          have nin : ∀ a o', H a = some o' → ¬ own fps a → ¬ own (setF fps i (L :: fpa)) a := fun a o' e h z => by
            rcases own_setF z with m | z
            · exact h ⟨i, inF a m⟩
            · exact h z
          refine ⟨L, xs.dropLast, fpa, rfl, upd_same, rfl, ?_⟩
          exact OwnL.mono (gen _ nin) ds.dropLast k' xs.dropLast fpa (fun a m => upd_ne fun z => nL (z ▸ m)) g2)
        refine q (scV d) _ _ rb ?_
        obtain ⟨m0, hm0⟩ := rb.fin
        refine ⟨max m0 (setD st i (.lst ds.dropLast)).length, Nat.le_max_right _ _, ?_⟩
        rw [hm0 _ (Nat.le_max_left _ _)]
        cases d <;> first | exact ⟨rfl, rfl⟩ | cases hsc
      · cases ed
    · cases ed
  · cases ed
end
end FL

namespace FL
open PySem PySem.Spec PyProof.Rows L2

/-! ### instances that stay as they are once they are made -/
/-- where a name stands -/
def posS (f : Str) : List Str → Option Nat
  | [] => none
  | x :: r => if x = f then some 0 else (posS f r).map (· + 1)
theorem posS_get {f : Str} : ∀ {l : List Str} {i : Nat}, posS f l = some i → l[i]? = some f
  | [], _, e => by cases e
  | x :: r, i, e => by
    unfold posS at e
    split at e
    · rename_i h; cases e; rw [h]; rfl
    · cases q : posS f r with
      | none => rw [q] at e; cases e
      | some j =>
        rw [q] at e; cases e
        simpa using posS_get q
theorem posS_look {α : Type} {f : Str} : ∀ {l : List Str} {i : Nat} {xs : List α}, posS f l = some i → (l.zip xs).lookup f = xs[i]?
  | [], _, _, e => by cases e
  | x :: r, i, [], e => by simp
  | x :: r, i, v :: xs, e => by
    unfold posS at e
    rw [List.zip_cons_cons]
    split at e
    · rename_i h; cases e; subst h
      simp [List.lookup]
    · rename_i h
      cases q : posS f r with
      | none => rw [q] at e; cases e
      | some j =>
        rw [q] at e; cases e
        have hb : (f == x) = false := beq_eq_false_iff_ne.mpr (fun z => h z.symm)
        simp only [List.lookup, hb]
        simpa using posS_look (xs := xs) q
theorem posS_no {α : Type} {f : Str} : ∀ {l : List Str} {xs : List α}, posS f l = none → (l.zip xs).lookup f = none
  | [], _, _ => by simp
  | x :: r, [], _ => by simp
  | x :: r, v :: xs, e => by
    unfold posS at e
    rw [List.zip_cons_cons]
    split at e
    · cases e
    · rename_i h
      have hb : (f == x) = false := beq_eq_false_iff_ne.mpr (fun z => h z.symm)
      simp only [List.lookup, hb]
      exact posS_no (xs := xs) (by cases q : posS f r with
        | none => rfl
        | some j => rw [q] at e; cases e)
theorem putF_new {f : Str} {v : V} : ∀ {l : List Str} {xs : List V}, posS f l = none → L2.putF f v (l.zip xs) = l.zip xs ++ [(f, v)]
  | [], _, _ => by simp [L2.putF]
  | x :: r, [], _ => by simp [L2.putF]
  | x :: r, w :: xs, e => by
    unfold posS at e
    rw [List.zip_cons_cons]
    split at e
    · cases e
    · rename_i h
      show (if x = f then (x, v) :: r.zip xs else (x, w) :: L2.putF f v (r.zip xs)) = _
      rw [if_neg h, putF_new (by cases q : posS f r with
        | none => rfl
        | some j => rw [q] at e; cases e)]
      rfl

/-- a class by its name: how it is read, and that no class of it has its fields -/
structure ClsT (K : PySem.W.Frag) (C : Str) (nm : List Str) : Prop where
  ok : ∀ Ca, PySem.W.nsIn K mainGlobals C = some (some (.ref Ca)) → Cls K Ca ∧ ∀ f ∈ nm, NoAttr K Ca f
theorem clsT_of {K : PySem.W.Frag} {C : Str} {nm : List Str} {Ca : Addr} (h : PySem.W.nsIn K mainGlobals C = some (some (.ref Ca))) (c : Cls K Ca) (n : ∀ f ∈ nm, NoAttr K Ca f) : ClsT K C nm :=
  ⟨fun Cb e => by rw [h] at e; cases e; exact ⟨c, n⟩⟩
def AllC (K : PySem.W.Frag) : List Str → List (List Str) → Prop
  | c :: cs, n :: ns => ClsT K c n ∧ AllC K cs ns
  | _, _ => True
theorem AllC.get {K : PySem.W.Frag} : ∀ {cs : List Str} {ns : List (List Str)} {j : Nat} {C : Str} {nm : List Str}, AllC K cs ns → cs[j]? = some C → ns[j]? = some nm → ClsT K C nm
  | [], _, _, _, _, _, e, _ => by simp at e
  | _ :: _, [], _, _, _, _, _, e => by simp at e
  | c :: cs, n :: ns, 0, _, _, h, e1, e2 => by simp at e1 e2; subst e1 e2; exact h.1
  | c :: cs, n :: ns, j + 1, _, _, h, e1, e2 => AllC.get (j := j) h.2 (by simpa using e1) (by simpa using e2)

/-- a field -/
def fldD (cs : List Str) (ns : List (List Str)) (f : Str) : D → Option D
  | .ob C nm ds => (posS C cs).bind fun j => if ns[j]? = some nm then (posS f nm).bind fun i => ds[i]? else none
  | _ => none
theorem fldD_of {cs : List Str} {ns : List (List Str)} {f C : Str} {nm : List Str} {ds : List D} {i j : Nat} (h1 : posS C cs = some j) (h2 : ns[j]? = some nm) (h3 : posS f nm = some i) : fldD cs ns f (.ob C nm ds) = ds[i]? := by
  show (posS C cs).bind (fun j => if ns[j]? = some nm then (posS f nm).bind fun i => ds[i]? else none) = ds[i]?
  rw [h1]
  show (if ns[j]? = some nm then _ else _) = _
  rw [if_pos h2, h3]
  rfl
section
variable {X : Cx} {k kr n j : Nat} {K : PySem.W.Frag} {e a b c tg o : Expr} {es : List Expr} {f g h : EM} {fa : AM} {pos p p2 apos : Pos} {kd : Kd}
theorem fe_fld {cs : List Str} {ns : List (List Str)} {x : Str} (ha : FE X .rd o f) (hc : AllC X.K cs ns) (hb : attributeBase o x X.env (eval o X.env) = eval o X.env := by rfl) :
    FE X .rd (.Attribute o x pos) (eB (fldD cs ns x) f) := PE.weak (pe_fld ha hb) fun σ H Q ⟨F, fps, st, d, r, ed, q⟩ => by
  unfold eB at ed
  cases e1 : f st with
  | none => rw [e1] at ed; cases ed
  | some d0 =>
    rw [e1] at ed
    refine ⟨F, fps, st, d0, r, e1, fun v H1 s1 w => ?_⟩
    cases d0 with
    | ob C nm ds =>
      change (posS C cs).bind (fun j => if ns[j]? = some nm then (posS x nm).bind fun i => ds[i]? else none) = some d at ed
      cases e2 : posS C cs with
      | none => rw [e2] at ed; cases ed
      | some jj =>
        rw [e2] at ed
        change (if ns[jj]? = some nm then (posS x nm).bind fun i => ds[i]? else none) = some d at ed
        split at ed
        · rename_i hn
          cases e3 : posS x nm with
          | none => rw [e3] at ed; cases ed
          | some i =>
            rw [e3] at ed
            obtain ⟨Ca, a, dx, xs, ec, ev, eh, rr⟩ := w
            have CT := (hc.get (posS_get e2) hn).ok Ca ec
            obtain ⟨u, h1, h2⟩ := rr.get (i := i) (d := d) ed
            refine ⟨a, Ca, dx, _, u, ev, eh, CT.1, CT.2 x ?_, ?_, q u H1 s1 h2⟩
            · exact List.mem_of_getElem? (posS_get e3)
            · rw [posS_look e3, h1]
        · cases ed
    | _ => cases ed

/-! ### methods -/
/-- the methods of a name, class by class -/
def meD (cs : List Str) (ms : List (List D → Option D)) (m : Str) : D → List D → Option D
  | .ob C nm ds, as => (posS C cs).bind fun j => if posS m nm = none then (ms[j]?).bind fun g => g (.ob C nm ds :: as) else none
  | _, _ => none
theorem meD_of {cs : List Str} {ms : List (List D → Option D)} {m C : Str} {nm : List Str} {ds as : List D} {j : Nat} {g : List D → Option D} (h1 : posS C cs = some j) (h2 : ms[j]? = some g) (h3 : posS m nm = none) : meD cs ms m (.ob C nm ds) as = g (.ob C nm ds :: as) := by
  show (posS C cs).bind (fun j => if posS m nm = none then (ms[j]?).bind fun g => g (.ob C nm ds :: as) else none) = g (.ob C nm ds :: as)
  rw [h1]
  show (if posS m nm = none then _ else _) = _
  rw [if_pos h3, h2]
  rfl
/-- a method of a class -/
structure MethT (P : Program) (w : World) (K : PySem.W.Frag) (mg : Str → Option Value) (base : Heap) (j n kr : Nat) (m C : Str) (g : List D → Option D) : Prop where
  ok : ∀ Ca, PySem.W.nsIn K mainGlobals C = some (some (.ref Ca)) → ∃ f fd ps, Cls K Ca ∧ Meth K Ca m f ∧ FnOk P w K mg base CX0 j f fd ps (spF K n kr g) ∧ Binds K fd ps []
theorem methT_of {P : Program} {w : World} {K : PySem.W.Frag} {mg : Str → Option Value} {base : Heap} {i j n kr : Nat} {m C : Str} {g : List D → Option D} {Ca f : Addr} {fd : FuncData} {ps : List Str}
    (h : PySem.W.nsIn K mainGlobals C = some (some (.ref Ca))) (c : Cls K Ca) (M : Meth K Ca m f) (F : FnOk P w K mg base CX0 i f fd ps (spF K n kr g)) (hij : i ≤ j) (b : Binds K fd ps []) : MethT P w K mg base j n kr m C g :=
  ⟨fun Cb e => by rw [h] at e; cases e; exact ⟨f, fd, ps, c, M, F.mono hij, b⟩⟩
def AllM (P : Program) (w : World) (K : PySem.W.Frag) (mg : Str → Option Value) (base : Heap) (j n kr : Nat) (m : Str) : List Str → List (List D → Option D) → Prop
  | c :: cs, g :: gs => MethT P w K mg base j n kr m c g ∧ AllM P w K mg base j n kr m cs gs
  | _, _ => True
theorem AllM.get {P : Program} {w : World} {mg : Str → Option Value} {base : Heap} {m : Str} : ∀ {cs : List Str} {ns : List (List D → Option D)} {i : Nat} {C : Str} {g : List D → Option D}, AllM P w K mg base j n kr m cs ns → cs[i]? = some C → ns[i]? = some g → MethT P w K mg base j n kr m C g
  | [], _, _, _, _, _, e, _ => by simp at e
  | _ :: _, [], _, _, _, _, _, e => by simp at e
  | c :: cs, n :: ns, 0, _, _, h, e1, e2 => by simp at e1 e2; subst e1 e2; exact h.1
  | c :: cs, n :: ns, j + 1, _, _, h, e1, e2 => AllM.get (i := j) h.2 (by simpa using e1) (by simpa using e2)

/-- o.m(..), whatever the class -/
def tMethT (X : Cx) (m : Str) (ta : TE) (t : TA) : TE := fun σ H Q => ta σ H fun x H1 => ∃ a C dx fs k f fd ps sp, x = .ref a ∧ H1 a = some (.ins C dx fs) ∧ fs.lookup m = none ∧ Cls X.K C ∧ Meth X.K C m f ∧
  Room k X.A ∧ FnOk X.prog X.w X.K X.mg X.base CX0 k f fd ps sp ∧ Binds X.K fd ps [] ∧ t σ H1 fun vs H2 => sp (x :: vs) H2 Q E0
theorem pe_methT {m : Str} {ta : TE} {t : TA} {pl : Sem Bool} (he : PE X o ta) (ha : PA X (e :: es) t)
    (hst : starEach (e :: es) X.env = (false, eval e X.env) :: starEach es X.env := by rfl) (hpl : (backTo pos (starEach es X.env)).any (·.1) = false := by rfl)
    (ht : eval (.Call (.Attribute o m apos) (e :: es) [] pos) X.env = (do
      let ov ← eval o X.env
      standAt apos.atName
      let (f, first) ← holding [ov] (getMethod ov m pl)
      callWith pos f first (backTo pos (starEach (e :: es) X.env)) (backToKw pos (keywordEach [] X.env))) := by rfl) :
    PE X (.Call (.Attribute o m apos) (e :: es) [] pos) (tMethT X m ta t) := by
  refine ⟨fun pins s σ H Q I h => ?_⟩
  refine PySem.W.methodCall_KW (pl := pl) (thn (he.run pins s σ H _ I h) fun u s1 ⟨x, H1, I1, rx, a, C, dx, fs, k, f, fd, ps, sp, ex, ea, l, c, hm, hr, F, hb, q⟩ => ?_) ht
  subst ex
  obtain rfl : u = Value.ref a := rx
  refine getmeth_ok I1 ea c hm l ?_
  refine PySem.W.callWith_K (first := [.ref a]) (h₀ := X.base) I.ok.mod.kin hm.kp (thn (ha.run pos pins s1 σ H1 _ I1 q) fun us s2 ⟨vs, H2, I2, r, q2⟩ => ⟨I2.kIn, ?_⟩) hst hpl
  exact run_fn (us := .ref a :: us) (vs := .ref a :: vs) (ds := []) (dvs := []) F hr hb .nil pass0 I2 (.cons rfl r) (by simpa using q2)
theorem pe_methT0 {m : Str} {ta : TE} {pl : Sem Bool} (he : PE X o ta)
    (ht : eval (.Call (.Attribute o m apos) [] [] pos) X.env = (do
      let ov ← eval o X.env
      standAt apos.atName
      let (f, first) ← holding [ov] (getMethod ov m pl)
      callWith pos f first (backTo pos (starEach [] X.env)) (backToKw pos (keywordEach [] X.env))) := by rfl) :
    PE X (.Call (.Attribute o m apos) [] [] pos) (tMethT X m ta tNil) := by
  refine ⟨fun pins s σ H Q I h => ?_⟩
  refine PySem.W.methodCall_KW (pl := pl) (thn (he.run pins s σ H _ I h) fun u s1 ⟨x, H1, I1, rx, a, C, dx, fs, k, f, fd, ps, sp, ex, ea, l, c, hm, hr, F, hb, q⟩ => ?_) ht
  subst ex
  obtain rfl : u = Value.ref a := rx
  refine getmeth_ok I1 ea c hm l ?_
  exact PySem.W.callWith_K0 (first := [.ref a]) I1.kIn hm.kp (run_fn (us := [.ref a]) (vs := [.ref a]) (ds := []) (dvs := []) F hr hb .nil pass0 I1 (.cons rfl .nil) (show sp (V.ref a :: ([] ++ [])) H1 Q E0 from q))

def eMeth (m : D → List D → Option D) (f : EM) (fa : AM) : EM := fun st => (f st).bind fun d => (fa st).bind fun as => m d as
def eMethO (k : Nat) (m : D → List D → Option D) (f : EM) (fa : AM) : EM := fun st => (eMeth m f fa st).bind (chk k)
theorem eMeth_some {m : D → List D → Option D} {st : Sl} {d : D} (h : eMeth m f fa st = some d) : ∃ x as, f st = some x ∧ fa st = some as ∧ m x as = some d := bind2 h
/-- what a call of a method makes of its parts -/
theorem meth_rd {m : Str} {cs : List Str} {ms : List (List D → Option D)} {t : TA} (hM : AllM X.prog X.w X.K X.mg X.base j (n + 1) kr m cs ms) (hr : Room j X.A) (hl : ALen n fa)
    (ht : ∀ σ H Q, tFA X.K .rd fa σ H Q → t σ H Q) {σ : L2.St} {H : Hp} {Q : VK} {F : Fr} {fps : Fps} {st : Sl} {d : D} (r : StR X.K F fps σ H st) (ed : eMeth (meD cs ms m) f fa st = some d)
    (q : ∀ v H', Same H H' → (∃ fp : List Addr, fp.Nodup ∧ (∀ a ∈ fp, H a = none) ∧ Own X.K H' (hideP H' (· ∈ fp)) d kr v fp) → Q v H') :
    tMethT X m (tF X.K .rd f) t σ H Q := by
  obtain ⟨d0, as, e1, e2, e3⟩ := eMeth_some ed
  refine ⟨F, fps, st, d0, r, e1, fun x H1 s1 w => ?_⟩
  cases d0 with
  | ob C nm ds =>
    obtain ⟨Ca, a, dx, xs, ec, ev, eh, rr⟩ := id w
    change (posS C cs).bind (fun j => if posS m nm = none then (ms[j]?).bind fun g => g (.ob C nm ds :: as) else none) = some d at e3
    cases e4 : posS C cs with
    | none => rw [e4] at e3; cases e3
    | some i =>
      rw [e4] at e3
      change (if posS m nm = none then (ms[i]?).bind fun g => g (.ob C nm ds :: as) else none) = some d at e3
      split at e3
      · rename_i hn
        cases e5 : ms[i]? with
        | none => rw [e5] at e3; cases e3
        | some g =>
          rw [e5] at e3
          change g (.ob C nm ds :: as) = some d at e3
          obtain ⟨fn, fd, ps, c, M, G, b⟩ := (hM.get (posS_get e4) e5).ok Ca ec
          refine ⟨a, Ca, dx, _, j, fn, fd, ps, _, ev, eh, posS_no hn, c, M, hr, G, b, ht _ _ _ ⟨F, fps, st, as, r.mono s1, e2, fun vs H2 s2 w2 => ⟨?_, .ob C nm ds :: as, d, ⟨x, vs, rfl, Rep.mono s2 _ _ w, w2⟩, e3, fun v H3 s3 ⟨fp, h1, h2, h3⟩ => ?_⟩⟩⟩
          · rw [List.length_cons, VRL.length w2, hl st as e2]
          · exact q v H3 ((s1.trans s2).trans s3) ⟨fp, h1, fun a m => (s1.trans s2).free (h2 a m), h3⟩
      · cases e3
  | _ => cases e3
theorem meth_pe {m : Str} {t : TA} {ta : TE} (hp : PE X o (tMethT X m (tF X.K .rd f) t)) (cs : List Str) (ms : List (List D → Option D)) (hM : AllM X.prog X.w X.K X.mg X.base j (n + 1) kr m cs ms) (hr : Room j X.A) (hl : ALen n fa)
    (ht : ∀ σ H Q, tFA X.K .rd fa σ H Q → t σ H Q) : FE X .rd o (eMeth (meD cs ms m) f fa) := PE.weak hp fun σ H Q ⟨F, fps, st, d, r, ed, q⟩ =>
  meth_rd hM hr hl ht r ed fun v H' s ⟨fp, _, _, ow⟩ => q v H' s (Own.rep hideP_same d kr v fp (fun _ _ => rfl) ow)
theorem meth_peO {m : Str} {t : TA} {ta : TE} (hp : PE X o (tMethT X m (tF X.K .rd f) t)) (cs : List Str) (ms : List (List D → Option D)) (hM : AllM X.prog X.w X.K X.mg X.base j (n + 1) kr m cs ms) (hr : Room j X.A) (hl : ALen n fa)
    (ht : ∀ σ H Q, tFA X.K .rd fa σ H Q → t σ H Q) : FE X (.ow kr) o (eMethO kr (meD cs ms m) f fa) := PE.weak hp fun σ H Q ⟨F, fps, st, d, r, ed, q⟩ => by
  obtain ⟨ed, fl⟩ := chk_some ed
  refine meth_rd hM hr hl ht r ed fun v H' s ⟨fp, n', fr, ow⟩ => q v H' s ⟨fp, n', fr, Own.rebase fl (fun a z => ?_) ow⟩
  rcases z with m' | z
  · exact Own.isLst d kr v fp ow a m'
  · exact (r.mono s).isLst z
theorem fe_meth {m : Str} {cs : List Str} {ms : List (List D → Option D)} {pl : Sem Bool} (hM : AllM X.prog X.w X.K X.mg X.base j (n + 1) kr m cs ms) (hr : Room j X.A) (he : FE X .rd o f) (ha : FA X .rd (e :: es) fa) (hl : ALen n fa)
    (hst : starEach (e :: es) X.env = (false, eval e X.env) :: starEach es X.env := by rfl) (hpl : (backTo pos (starEach es X.env)).any (·.1) = false := by rfl)
    (ht : eval (.Call (.Attribute o m apos) (e :: es) [] pos) X.env = (do
      let ov ← eval o X.env
      standAt apos.atName
      let (f, first) ← holding [ov] (getMethod ov m pl)
      callWith pos f first (backTo pos (starEach (e :: es) X.env)) (backToKw pos (keywordEach [] X.env))) := by rfl) :
    FE X .rd (.Call (.Attribute o m apos) (e :: es) [] pos) (eMeth (meD cs ms m) f fa) := meth_pe (ta := tF X.K .rd f) (pe_methT he ha hst hpl ht) cs ms hM hr hl fun _ _ _ h => h
theorem fe_methO {m : Str} {cs : List Str} {ms : List (List D → Option D)} {pl : Sem Bool} (hM : AllM X.prog X.w X.K X.mg X.base j (n + 1) kr m cs ms) (hr : Room j X.A) (he : FE X .rd o f) (ha : FA X .rd (e :: es) fa) (hl : ALen n fa)
    (hst : starEach (e :: es) X.env = (false, eval e X.env) :: starEach es X.env := by rfl) (hpl : (backTo pos (starEach es X.env)).any (·.1) = false := by rfl)
    (ht : eval (.Call (.Attribute o m apos) (e :: es) [] pos) X.env = (do
      let ov ← eval o X.env
      standAt apos.atName
      let (f, first) ← holding [ov] (getMethod ov m pl)
      callWith pos f first (backTo pos (starEach (e :: es) X.env)) (backToKw pos (keywordEach [] X.env))) := by rfl) :
    FE X (.ow kr) (.Call (.Attribute o m apos) (e :: es) [] pos) (eMethO kr (meD cs ms m) f fa) := meth_peO (ta := tF X.K .rd f) (pe_methT he ha hst hpl ht) cs ms hM hr hl fun _ _ _ h => h
theorem tnil_of {σ : L2.St} {H : Hp} {Q : List V → Hp → Prop} (h : tFA X.K .rd aNil σ H Q) : tNil σ H Q := by
  obtain ⟨F, fps, st, ds, r, e1, q⟩ := h
  cases e1
  exact q [] H (Same.refl H) VRL.nil
theorem fe_meth0 {m : Str} {cs : List Str} {ms : List (List D → Option D)} {pl : Sem Bool} (hM : AllM X.prog X.w X.K X.mg X.base j 1 kr m cs ms) (hr : Room j X.A) (he : FE X .rd o f)
    (ht : eval (.Call (.Attribute o m apos) [] [] pos) X.env = (do
      let ov ← eval o X.env
      standAt apos.atName
      let (f, first) ← holding [ov] (getMethod ov m pl)
      callWith pos f first (backTo pos (starEach [] X.env)) (backToKw pos (keywordEach [] X.env))) := by rfl) :
    FE X .rd (.Call (.Attribute o m apos) [] [] pos) (eMeth (meD cs ms m) f aNil) := meth_pe (ta := tF X.K .rd f) (n := 0) (pe_methT0 he ht) cs ms hM hr alen_nil fun _ _ _ h => tnil_of h
theorem fe_methO0 {m : Str} {cs : List Str} {ms : List (List D → Option D)} {pl : Sem Bool} (hM : AllM X.prog X.w X.K X.mg X.base j 1 kr m cs ms) (hr : Room j X.A) (he : FE X .rd o f)
    (ht : eval (.Call (.Attribute o m apos) [] [] pos) X.env = (do
      let ov ← eval o X.env
      standAt apos.atName
      let (f, first) ← holding [ov] (getMethod ov m pl)
      callWith pos f first (backTo pos (starEach [] X.env)) (backToKw pos (keywordEach [] X.env))) := by rfl) :
    FE X (.ow kr) (.Call (.Attribute o m apos) [] [] pos) (eMethO kr (meD cs ms m) f aNil) := meth_peO (ta := tF X.K .rd f) (n := 0) (pe_methT0 he ht) cs ms hM hr alen_nil fun _ _ _ h => tnil_of h

/-! ### making them -/
/-- __init__ puts its parameters into the fields of their names -/
def spI (Ca : Addr) (nm : List Str) : Sp := fun vs H Q _ => ∃ p dx ws, vs = .ref p :: ws ∧ ws.length = nm.length ∧ H p = some (.ins Ca dx []) ∧ Q .non (upd H p (.ins Ca dx (nm.zip ws)))
def eMk (C : Str) (nm : List Str) (fa : AM) : EM := fun st => (fa st).bind fun ds => if (fullL ds 0 && ds.length == nm.length) = true then some (.ob C nm ds) else none
theorem made_same {H : Hp} {x dx Ca : Addr} {fs : List (Str × V)} (h1 : H x = none) (h2 : H dx = none) (n : dx ≠ x) : Same H (upd (upd (upd H dx (.own x)) x (.ins Ca dx [])) x (.ins Ca dx fs)) := fun b o e => by
  have n1 : b ≠ x := fun z => by rw [z, h1] at e; cases e
  have n2 : b ≠ dx := fun z => by rw [z, h2] at e; cases e
  rw [upd_ne n1, upd_ne n1, upd_ne n2]; exact e
theorem fe_make {C : Str} {Ca f : Addr} {fd : FuncData} {ps : List Str} {nm : List Str} {p : Pos} (hC : PySem.W.nsIn X.K mainGlobals C = some (some (.ref Ca))) (M : Mk X.K Ca f) (G : FnOk X.prog X.w X.K X.mg X.base CX0 j f fd ps (spI Ca nm)) (hr : Room (j + 1) X.A) (hg : Gl X C) (hm : X.mg C = some (.ref Ca)) (hb : Binds X.K fd ps [])
    (ha : FA X .rd (e :: es) fa) (hdb : (C == ("__debug__" : Str)) = false := by decide) (he : starEach (e :: es) X.env = (false, eval e X.env) :: starEach es X.env := by rfl) (hpl : (backTo pos (starEach es X.env)).any (·.1) = false := by rfl) :
    FE X kd (.Call (.Name C p) (e :: es) [] pos) (eMk C nm fa) := PE.weak (pe_make M G hr hg hm hb .nil (pass0 (X := X)) ha hdb he hpl) fun σ H Q ⟨F, fps, st, d, r, ed, q⟩ => by
  unfold eMk at ed
  cases e1 : fa st with
  | none => rw [e1] at ed; cases ed
  | some ds =>
    rw [e1] at ed
    change (if (fullL ds 0 && ds.length == nm.length) = true then some (D.ob C nm ds) else none) = some d at ed
    split at ed
    · rename_i hf
      cases ed
      have hf' := Bool.and_eq_true_iff.mp hf
      refine ⟨F, fps, st, ds, r, e1, fun vs H1 s1 w x dx n1 n2 n3 => ⟨x, dx, vs, by rw [List.append_nil], ?_, upd_same, rfl, ?_⟩⟩
      · rw [VRL.length w]; exact beq_iff_eq.mp hf'.2
      · have s2 : Same H1 (upd (upd (upd H1 dx (.own x)) x (.ins Ca dx [])) x (.ins Ca dx (nm.zip vs))) := made_same n1 n2 n3
        refine q _ _ (s1.trans s2) (VR.fl (r.mono (s1.trans s2)) hf'.1 ⟨Ca, x, dx, vs, hC, rfl, upd_same, RepL.mono s2 _ _ w⟩)
    · cases ed

/-- a class without an __init__ of its own -/
structure Mk0 (K : PySem.W.Frag) (C : Addr) : Prop where
  makes : PySem.W.makesIn K C = true
  init : PySem.W.findIn K (.ref C) "__init__" = some (some (.builtin "object.__init__"))
  kp : PySem.W.keepIn K (.ref C) = true
def tMake0 (C : Addr) : TE := fun σ H Q => ∀ x dx, H x = none → H dx = none → dx ≠ x → Q (.ref x) (upd (upd H dx (.own x)) x (.ins C dx []))
theorem run_make00 {C : Addr} {pins : List (Addr × Obj)} {σ : L2.St} {H : Hp} {s : Shared} {Q : VK} (M : Mk0 X.K C) (I : Inv X pins σ H s)
    (h : ∀ x dx, H x = none → H dx = none → dx ≠ x → Q (.ref x) (upd (upd H dx (.own x)) x (.ins C dx []))) :
    wpAny (model X.prog X.w) X.A (call (.ref C) []) (EP X pins σ Q) X.xe s := by
  have hq := h (s.heap.objs.size + 1) s.heap.objs.size (I.hok.fresh (Nat.le_succ _)) (I.hok.fresh (Nat.le_refl _)) (Nat.ne_of_lt (Nat.lt_succ_self _))
  have I2 := Inv.made (C := C) I
  have Y := PySem.W.makes_of (M := model X.prog X.w) I.kIn M.makes
  have k : ∀ b o, s.heap.get? b = some o → ((s.heap.push PySem.W.emptyDict).push (PySem.W.instObj C s.heap.objs.size)).get? b = some o := fun b o e => Heap.get?_push_of_some _ (Heap.get?_push_of_some _ e)
  have hx : ((s.heap.push PySem.W.emptyDict).push (PySem.W.instObj C s.heap.objs.size)).get? (s.heap.objs.size + 1) = some (PySem.W.instObj C s.heap.objs.size) := by
    have := Heap.get?_push_size (s.heap.push PySem.W.emptyDict) (o := PySem.W.instObj C s.heap.objs.size) rfl
    rwa [Heap.size_push] at this
  have t1 : PySem.W.Looks (model X.prog X.w) ((s.heap.push PySem.W.emptyDict).push (PySem.W.instObj C s.heap.objs.size)) (typeOf (.ref (s.heap.objs.size + 1))) (.ref C) := (PySem.W.Looks.ld hx).andThen .now
  have t2 : PySem.W.Looks (model X.prog X.w) ((s.heap.push PySem.W.emptyDict).push (PySem.W.instObj C s.heap.objs.size)) (isInstance (.ref (s.heap.objs.size + 1)) (.type "object")) true := t1.andThen (Y.top.keeps k)
  refine wpAny_call (make_map0 I.kIn M.makes M.init (fun self => PySem.W.Looks.of_pure (PySem.W.oi_bind self)) ?_)
  refine codeAny_call_builtin PySem.W.oi_plain PySem.W.entry_oi (@PySem.W.check_slot (model X.prog X.w) _ _ _ "object.__init__" "object" "__init__" (.ref (s.heap.objs.size + 1)) [] [] _ PySem.W.oi_kind PySem.W.oi_split t2 (PySem.W.oi_args (.ref (s.heap.objs.size + 1))) ?_)
  rw [PySem.W.oi_run]
  exact wpAny_pure (And.intro rfl ⟨V.ref (s.heap.objs.size + 1), _, I2, rfl, hq⟩)
theorem pe_make00 {C : Addr} {x : Str} {p : Pos} (M : Mk0 X.K C) (hg : Gl X x) (hm : X.mg x = some (.ref C)) (hdb : (x == ("__debug__" : Str)) = false := by decide) : PE X (.Call (.Name x p) [] [] pos) (tMake0 C) := by
  refine ⟨fun pins s σ H Q I h => ?_⟩
  refine wpAny_Call_Name_kw (ld_glob I hg hm ?_ hdb)
  exact PySem.W.callWith_K0 I.kIn M.kp (run_make00 M I h)
theorem fe_make0 {C : Str} {Ca : Addr} {p : Pos} (hC : PySem.W.nsIn X.K mainGlobals C = some (some (.ref Ca))) (M : Mk0 X.K Ca) (hg : Gl X C) (hm : X.mg C = some (.ref Ca)) (hdb : (C == ("__debug__" : Str)) = false := by decide) :
    FE X kd (.Call (.Name C p) [] [] pos) (eC (.ob C [] [])) := PE.weak (pe_make00 M hg hm hdb) fun σ H Q ⟨F, fps, st, d, r, ed, q⟩ => by
  cases ed
  intro x dx n1 n2 n3
  have s2 : Same H (upd (upd H dx (.own x)) x (.ins Ca dx [])) := fun b o e => by
    have m1 : b ≠ x := fun z => by rw [z, n1] at e; cases e
    have m2 : b ≠ dx := fun z => by rw [z, n2] at e; cases e
    rw [upd_ne m1, upd_ne m2]; exact e
  exact q _ _ s2 (VR.fl (r.mono s2) rfl ⟨Ca, x, dx, [], hC, rfl, upd_same, rfl⟩)

/-! ### __init__ of up to three fields -/
theorem spI_len {Ca : Addr} {nm : List Str} {vs : List V} {H : Hp} {Q : VK} {E : XK} (h : spI Ca nm vs H Q E) : vs.length = nm.length + 1 := by
  obtain ⟨p, dx, ws, rfl, e, _⟩ := h
  rw [List.length_cons, e]
theorem init_fld {Ca p dx : Addr} {nm : List Str} {xs : List V} {v : V} {x : Str} {i : Nat} {Dn : Ends} {σ : L2.St} {H : Hp} (c : Cls K Ca) (n : NoAttr K Ca x) (hx : posS x nm = none) (hl : nm.length = xs.length) (h9 : nm.length < 1000)
    (h0 : σ[0]? = some (some (.ref p))) (hi : σ[i]? = some (some v)) (hp : H p = some (.ins Ca dx (nm.zip xs))) (q : Dn.nx σ (upd H p (.ins Ca dx ((nm ++ [x]).zip (xs ++ [v]))))) :
    sFld K (tVar 0) (tVar i) x Dn σ H := by
  refine ⟨v, hi, .ref p, h0, p, Ca, dx, _, rfl, hp, c, n, ?_, ?_⟩
  · rw [List.length_zip, hl, Nat.min_self, ← hl]; exact h9
  · rw [putF_new hx]
    rw [List.zip_append hl] at q
    exact q
end
end FL

namespace FL
open PySem PySem.Spec PyProof.Rows

/-! ### how mirrors are reckoned: every combinator in a form without binders -/
section
variable {α β : Type}
def ob2 (m : D → D → Option D) : Option D → Option D → Option D
  | some x, some y => m x y
  | _, _ => none
def ob3 (m : D → Option Int → Option Int → Option D) : Option D → Option (Option Int) → Option (Option Int) → Option D
  | some x, some y, some z => m x y z
  | _, _, _ => none
def obL (m : D → D → Option (List D)) : Option D → Option D → Option (List D)
  | some x, some y => m x y
  | _, _ => none
def ob1 (m : α → Option β) : Option α → Option β
  | some x => m x
  | none => none
def ocons : Option D → Option (List D) → Option (List D)
  | some x, some xs => some (x :: xs)
  | _, _ => none
def oval : Option D → Option Bool
  | some (.bl b) => some b
  | _ => none
def oneg : Option D → Option D
  | some (.int i) => some (.int (-i))
  | _ => none
def onot : Option D → Option D
  | some (.bl b) => some (.bl (!b))
  | _ => none
def oand : Option D → Option D → Option D
  | some (.bl true), y => y
  | some (.bl false), _ => some (.bl false)
  | _, _ => none
def oor : Option D → Option D → Option D
  | some (.bl true), _ => some (.bl true)
  | some (.bl false), y => y
  | _, _ => none
def oandB : Option Bool → Option Bool → Option Bool
  | some true, y => y
  | some false, _ => some false
  | none, _ => none
def oorB : Option Bool → Option Bool → Option Bool
  | some true, _ => some true
  | some false, y => y
  | none, _ => none
def onotB : Option Bool → Option Bool
  | some b => some (!b)
  | none => none
def oif : Option Bool → Option α → Option α → Option α
  | some true, x, _ => x
  | some false, _, y => y
  | none, _, _ => none
def oint : Option D → Option (Option Int)
  | some (.int i) => some (some i)
  | _ => none
def oset (i k : Nat) (st : Sl) : Option D → Option Out
  | some d => if isVa st[i]? = true then some (.nx (st.set i (.va k d))) else none
  | none => none
def oret (st : Sl) : Option D → Option Out
  | some d => some (.rt d st)
  | none => none
def oexp (st : Sl) : Option D → Option Out
  | some _ => some (.nx st)
  | none => none
def oseq (b : SM) : Option Out → Option Out
  | some (.nx st) => b st
  | some o => some o
  | none => none
def otup : Option (List D) → Option D
  | some ds => if lenOk ds.length = true then some (.tup ds) else none
  | none => none
def olst : Option (List D) → Option D
  | some ds => if lenOk ds.length = true then some (.lst ds) else none
  | none => none
def oisi (T : String) : Option D → Option D
  | some d => (tyD d).bind fun t => (L2.kitB t T).map D.bl
  | none => none
def oasg (m : GM) (st : Sl) : Option D → Option Out
  | some d => (m d st).map .nx
  | none => none
def ofor (m : GM) (body : SM) (st : Sl) : Option (List D) → Option Out
  | some ds => forL m body ds st
  | none => none
def orun : Option Out → Option D
  | some (.rt d _) => some d
  | some (.nx _) => some .non
  | _ => none
def oaug (i : Nat) (st : Sl) : Option D → Option Out
  | some d => if isVa st[i]? = true then some (.nx (st.set i (.va 0 d))) else none
  | none => none

theorem e_bin (m : D → D → Option D) (f g : EM) (st : Sl) : eBin m f g st = ob2 m (f st) (g st) := by
  unfold eBin; cases f st <;> cases g st <;> rfl
theorem e_binL (m : D → D → Option (List D)) (f g : EM) (st : Sl) : iBin m f g st = obL m (f st) (g st) := by
  unfold iBin; cases f st <;> cases g st <;> rfl
theorem e_sl (m : D → Option Int → Option Int → Option D) (f : EM) (g h : OM) (st : Sl) : eSl m f g h st = ob3 m (f st) (g st) (h st) := by
  unfold eSl; cases f st <;> cases g st <;> cases h st <;> rfl
theorem e_onone (st : Sl) : oNone st = some none := id rfl
theorem e_osome (f : EM) (st : Sl) : oSome f st = oint (f st) := by
  unfold oSome; cases f st with
  | none => rfl
  | some d => cases d <;> rfl
theorem e_fl (f : EM) (st : Sl) : eFl f st = ob1 (chk 0) (f st) := by unfold eFl; cases f st <;> rfl
theorem e_call (m : List D → Option D) (f : AM) (st : Sl) : eCall m f st = ob1 m (f st) := by unfold eCall; cases f st <;> rfl
theorem e_callO (k : Nat) (m : List D → Option D) (f : AM) (st : Sl) : eCallO k m f st = ob1 (chk k) (ob1 m (f st)) := by
  unfold eCallO; cases f st with
  | none => rfl
  | some x => show (m x).bind _ = ob1 _ (m x); cases m x <;> rfl
theorem e_cb (m : List D → Option D) (f : AM) (st : Sl) : eCB m f st = ob1 m (f st) := by unfold eCB; cases f st <;> rfl
theorem e_b (m : D → Option D) (f : EM) (st : Sl) : eB m f st = ob1 m (f st) := by unfold eB; cases f st <;> rfl
theorem e_ib (m : D → Option (List D)) (f : EM) (st : Sl) : iB m f st = ob1 m (f st) := by unfold iB; cases f st <;> rfl
theorem e_c (d : D) (st : Sl) : eC d st = some d := id rfl
theorem e_anil (st : Sl) : aNil st = some [] := id rfl
theorem e_acons (f : EM) (g : AM) (st : Sl) : aCons f g st = ocons (f st) (g st) := by unfold aCons; cases f st <;> cases g st <;> rfl
theorem e_val (f : EM) (st : Sl) : qVal f st = oval (f st) := by
  unfold qVal; cases f st with
  | none => rfl
  | some d => cases d <;> rfl
theorem e_neg (f : EM) (st : Sl) : eNeg f st = oneg (f st) := by
  unfold eNeg; cases f st with
  | none => rfl
  | some d => cases d <;> rfl
theorem e_not (f : EM) (st : Sl) : eNot f st = onot (f st) := by
  unfold eNot; cases f st with
  | none => rfl
  | some d => cases d <;> rfl
theorem e_and (f g : EM) (st : Sl) : eAnd f g st = oand (f st) (g st) := by
  unfold eAnd; cases f st with
  | none => rfl
  | some d => cases d with
    | bl b => cases b <;> rfl
    | _ => rfl
theorem e_or (f g : EM) (st : Sl) : eOr f g st = oor (f st) (g st) := by
  unfold eOr; cases f st with
  | none => rfl
  | some d => cases d with
    | bl b => cases b <;> rfl
    | _ => rfl
theorem e_qand (f g : TM) (st : Sl) : qAnd f g st = oandB (f st) (g st) := by
  unfold qAnd; cases f st with
  | none => rfl
  | some d => cases d <;> rfl
theorem e_qor (f g : TM) (st : Sl) : qOr f g st = oorB (f st) (g st) := by
  unfold qOr; cases f st with
  | none => rfl
  | some d => cases d <;> rfl
theorem e_qnot (f : TM) (st : Sl) : qNot f st = onotB (f st) := by unfold qNot; cases f st <;> rfl
theorem e_qyes (st : Sl) : qYes st = some true := id rfl
theorem e_eif (c : TM) (f g : EM) (st : Sl) : eIf c f g st = oif (c st) (f st) (g st) := by
  unfold eIf; cases c st with
  | none => rfl
  | some b => cases b <;> rfl
theorem e_tup (f : AM) (st : Sl) : eTup f st = otup (f st) := by unfold eTup; cases f st <;> rfl
theorem e_lst (f : AM) (st : Sl) : eLst f st = olst (f st) := by unfold eLst; cases f st <;> rfl
theorem e_isi (T : String) (f : EM) (st : Sl) : eIsi T f st = oisi T (f st) := by unfold eIsi; cases f st <;> rfl
theorem e_nil (st : Sl) : sNil st = some (.nx st) := id rfl
theorem e_seq (a b : SM) (st : Sl) : sSeq a b st = oseq b (a st) := by
  unfold sSeq; cases a st with
  | none => rfl
  | some o => cases o <;> rfl
theorem e_sif (c : TM) (f g : SM) (st : Sl) : sIf c f g st = oif (c st) (f st) (g st) := by
  unfold sIf; cases c st with
  | none => rfl
  | some b => cases b <;> rfl
theorem e_ret (f : EM) (st : Sl) : sRet f st = oret st (f st) := by unfold sRet; cases f st <;> rfl
theorem e_exp (f : EM) (st : Sl) : sExp f st = oexp st (f st) := by unfold sExp; cases f st <;> rfl
theorem e_set (i k : Nat) (f : EM) (st : Sl) : sSet i k f st = oset i k st (f st) := by
  unfold sSet; cases f st <;> simp [oset]
theorem e_aug (m : D → D → Option D) (i : Nat) (f : EM) (st : Sl) : sAug m i f st = oaug i st (ob2 m (eVar i st) (f st)) := by
  unfold sAug; rw [e_bin]; cases ob2 m (eVar i st) (f st) <;> simp [oaug]
theorem e_asg (m : GM) (f : EM) (st : Sl) : sAsg m f st = oasg m st (f st) := by unfold sAsg; cases f st <;> rfl
theorem e_for (its : IM) (m : GM) (b : SM) (st : Sl) : sFor its m b st = ofor m b st (its st) := by unfold sFor; cases its st <;> rfl
theorem e_run (n : Nat) (g : SM) (ds : List D) : fnRun n g ds = orun (g (ds.map (Slot.va 0) ++ List.replicate (n - ds.length) .un)) := by
  unfold fnRun; cases g _ with
  | none => rfl
  | some o => cases o <;> rfl
theorem e_var0 (k : Nat) (d : D) (st : Sl) : eVar 0 (.va k d :: st) = some d := id rfl
theorem e_varS0 (d : D) (st : Sl) : eVarS 0 (.va 0 d :: st) = some d := id rfl
theorem e_varS0' (k : Nat) (d : D) (st : Sl) : eVarS 0 (.va (k + 1) d :: st) = chk 0 d := id rfl
theorem e_var0i (k : Nat) (d : D) (st : Sl) : eVar 0 (.io k d :: st) = some d := id rfl
theorem e_varS (i : Nat) (s : Slot) (st : Sl) : eVar (i + 1) (s :: st) = eVar i st := id rfl
theorem e_varSS (i : Nat) (s : Slot) (st : Sl) : eVarS (i + 1) (s :: st) = eVarS i st := id rfl
-- with values
theorem ix_nat_ (ds : List D) (i : Nat) (d : D) (h : ds[i]? = some d) : mIx (.tup ds) (.int i) = some d := L2.atI_nat h
theorem ix_natL_ (ds : List D) (i : Nat) (d : D) (h : ds[i]? = some d) : mIx (.lst ds) (.int i) = some d := L2.atI_nat h
theorem o_b2 (m : D → D → Option D) (x y : D) : ob2 m (some x) (some y) = m x y := id rfl
theorem o_bL (m : D → D → Option (List D)) (x y : D) : obL m (some x) (some y) = m x y := id rfl
theorem o_b3 (m : D → Option Int → Option Int → Option D) (x : D) (y z : Option Int) : ob3 m (some x) (some y) (some z) = m x y z := id rfl
theorem o_b1 (m : α → Option β) (x : α) : ob1 m (some x) = m x := id rfl
theorem o_cons (x : D) (xs : List D) : ocons (some x) (some xs) = some (x :: xs) := id rfl
theorem o_val (b : Bool) : oval (some (.bl b)) = some b := id rfl
theorem o_neg (i : Int) : oneg (some (.int i)) = some (.int (-i)) := id rfl
theorem o_not (b : Bool) : onot (some (.bl b)) = some (.bl (!b)) := id rfl
theorem o_and1 (y : Option D) : oand (some (.bl true)) y = y := id rfl
theorem o_and0 (y : Option D) : oand (some (.bl false)) y = some (.bl false) := id rfl
theorem o_or1 (y : Option D) : oor (some (.bl true)) y = some (.bl true) := id rfl
theorem o_or0 (y : Option D) : oor (some (.bl false)) y = y := id rfl
theorem o_andB1 (y : Option Bool) : oandB (some true) y = y := id rfl
theorem o_andB0 (y : Option Bool) : oandB (some false) y = some false := id rfl
theorem o_orB1 (y : Option Bool) : oorB (some true) y = some true := id rfl
theorem o_orB0 (y : Option Bool) : oorB (some false) y = y := id rfl
theorem o_andB (a b : Bool) : oandB (some a) (some b) = some (a && b) := by cases a <;> rfl
theorem o_orB (a b : Bool) : oorB (some a) (some b) = some (a || b) := by cases a <;> rfl
theorem o_and (a b : Bool) : oand (some (.bl a)) (some (.bl b)) = some (.bl (a && b)) := by cases a <;> rfl
theorem o_or (a b : Bool) : oor (some (.bl a)) (some (.bl b)) = some (.bl (a || b)) := by cases a <;> rfl
theorem o_notB (b : Bool) : onotB (some b) = some (!b) := id rfl
theorem o_if1 (x y : Option α) : oif (some true) x y = x := id rfl
theorem o_if0 (x y : Option α) : oif (some false) x y = y := id rfl
theorem o_ifB (b : Bool) (x y : Option α) : oif (some b) x y = if b = true then x else y := by cases b <;> rfl
theorem o_int (i : Int) : oint (some (.int i)) = some (some i) := id rfl
theorem o_set (i k : Nat) (st : Sl) (d : D) : oset i k st (some d) = if isVa st[i]? = true then some (.nx (st.set i (.va k d))) else none := id rfl
theorem o_aug (i : Nat) (st : Sl) (d : D) : oaug i st (some d) = if isVa st[i]? = true then some (.nx (st.set i (.va 0 d))) else none := id rfl
theorem o_ret (st : Sl) (d : D) : oret st (some d) = some (.rt d st) := id rfl
theorem o_exp (st : Sl) (d : D) : oexp st (some d) = some (.nx st) := id rfl
theorem o_seq (b : SM) (st : Sl) : oseq b (some (.nx st)) = b st := id rfl
theorem o_seqR (b : SM) (d : D) (st : Sl) : oseq b (some (.rt d st)) = some (.rt d st) := id rfl
theorem o_seqB (b : SM) (st : Sl) : oseq b (some (.bk st)) = some (.bk st) := id rfl
theorem o_seqC (b : SM) (st : Sl) : oseq b (some (.ct st)) = some (.ct st) := id rfl
theorem o_seqI (b : SM) (c : Prop) [Decidable c] (x y : Option Out) : oseq b (if c then x else y) = if c then oseq b x else oseq b y := by split <;> rfl
theorem o_runI (c : Prop) [Decidable c] (x y : Option Out) : orun (if c then x else y) = if c then orun x else orun y := by split <;> rfl
theorem o_tup (ds : List D) : otup (some ds) = if lenOk ds.length = true then some (.tup ds) else none := id rfl
theorem o_lst (ds : List D) : olst (some ds) = if lenOk ds.length = true then some (.lst ds) else none := id rfl
theorem o_tup1 (a : D) : otup (some [a]) = some (.tup [a]) := id rfl
theorem o_tup2 (a b : D) : otup (some [a, b]) = some (.tup [a, b]) := id rfl
theorem o_tup3 (a b c : D) : otup (some [a, b, c]) = some (.tup [a, b, c]) := id rfl
theorem o_tup4 (a b c d : D) : otup (some [a, b, c, d]) = some (.tup [a, b, c, d]) := id rfl
theorem o_tup5 (a b c d e : D) : otup (some [a, b, c, d, e]) = some (.tup [a, b, c, d, e]) := id rfl
theorem o_lst0 : olst (some []) = some (.lst []) := id rfl
theorem o_lst1 (a : D) : olst (some [a]) = some (.lst [a]) := id rfl
theorem o_lst2 (a b : D) : olst (some [a, b]) = some (.lst [a, b]) := id rfl
theorem o_lst3 (a b c : D) : olst (some [a, b, c]) = some (.lst [a, b, c]) := id rfl
theorem o_lst4 (a b c d : D) : olst (some [a, b, c, d]) = some (.lst [a, b, c, d]) := id rfl
theorem o_lst5 (a b c d e : D) : olst (some [a, b, c, d, e]) = some (.lst [a, b, c, d, e]) := id rfl
theorem o_lst8 (a b c d e f g h : D) : olst (some [a, b, c, d, e, f, g, h]) = some (.lst [a, b, c, d, e, f, g, h]) := id rfl
theorem ix_t0 (a : D) (l : List D) : mIx (.tup (a :: l)) (.int 0) = some a := ix_nat_ (a :: l) 0 a rfl
theorem ix_t1 (a b : D) (l : List D) : mIx (.tup (a :: b :: l)) (.int 1) = some b := ix_nat_ (a :: b :: l) 1 b rfl
theorem ix_t2 (a b c : D) (l : List D) : mIx (.tup (a :: b :: c :: l)) (.int 2) = some c := ix_nat_ (a :: b :: c :: l) 2 c rfl
theorem ix_t3 (a b c d : D) (l : List D) : mIx (.tup (a :: b :: c :: d :: l)) (.int 3) = some d := ix_nat_ (a :: b :: c :: d :: l) 3 d rfl
theorem ix_t4 (a b c d e : D) (l : List D) : mIx (.tup (a :: b :: c :: d :: e :: l)) (.int 4) = some e := ix_nat_ (a :: b :: c :: d :: e :: l) 4 e rfl
theorem ix_l0 (a : D) (l : List D) : mIx (.lst (a :: l)) (.int 0) = some a := ix_natL_ (a :: l) 0 a rfl
theorem ix_l1 (a b : D) (l : List D) : mIx (.lst (a :: b :: l)) (.int 1) = some b := ix_natL_ (a :: b :: l) 1 b rfl
theorem chk_tup (k : Nat) (ds : List D) : chk k (.tup ds) = if fullL ds k = true then some (.tup ds) else none := id rfl
theorem chk_lst (k : Nat) (ds : List D) : chk (k + 1) (.lst ds) = if fullL ds k = true then some (.lst ds) else none := id rfl
theorem fl_nil (k : Nat) : fullL [] k = true := id rfl
theorem fl_cons (d : D) (ds : List D) (k : Nat) : fullL (d :: ds) k = (full d k && fullL ds k) := id rfl
theorem f_int (i : Int) (k : Nat) : full (.int i) k = true := id rfl
theorem f_bl (i : Bool) (k : Nat) : full (.bl i) k = true := id rfl
theorem f_str (i : Str) (k : Nat) : full (.str i) k = true := id rfl
theorem f_non (k : Nat) : full .non k = true := id rfl
theorem f_tup (ds : List D) (k : Nat) : full (.tup ds) k = fullL ds k := id rfl
theorem f_lst (ds : List D) (k : Nat) : full (.lst ds) (k + 1) = fullL ds k := id rfl
theorem o_asg (m : GM) (st : Sl) (d : D) : oasg m st (some d) = (m d st).map .nx := id rfl
theorem o_for (m : GM) (b : SM) (st : Sl) (ds : List D) : ofor m b st (some ds) = forL m b ds st := id rfl
theorem o_runR (d : D) (st : Sl) : orun (some (.rt d st)) = some d := id rfl
theorem o_runN (st : Sl) : orun (some (.nx st)) = some .non := id rfl
theorem bmap (x : α) (f : α → β) : (some x).map f = some (f x) := id rfl
theorem rep0 (x : α) : List.replicate 0 x = [] := id rfl
theorem repS (n : Nat) (x : α) : List.replicate (n + 1) x = x :: List.replicate n x := id rfl
theorem set0 (a b : α) (l : List α) : (a :: l).set 0 b = b :: l := id rfl
theorem setS (a b : α) (l : List α) (i : Nat) : (a :: l).set (i + 1) b = a :: l.set i b := id rfl
theorem get0 (a : α) (l : List α) : (a :: l)[0]? = some a := id rfl
theorem getS (a : α) (l : List α) (i : Nat) : (a :: l)[i + 1]? = l[i]? := id rfl
theorem isva (k : Nat) (d : D) : isVa (some (.va k d)) = true := id rfl
theorem isun : isVa (some .un) = true := id rfl
theorem isv0 (d : D) : isV0 (some (.va 0 d)) = true := id rfl
theorem isv0u : isV0 (some .un) = true := id rfl
theorem wipe_nil (st : Sl) : wipeS st [] = st := id rfl
theorem wipe_cons (st : Sl) (v : Nat) (vs : List Nat) : wipeS st (v :: vs) = (wipeS st vs).set v .un := id rfl
theorem chk_int (k : Nat) (i : Int) : chk k (.int i) = some (.int i) := id rfl
theorem chk_bl (k : Nat) (i : Bool) : chk k (.bl i) = some (.bl i) := id rfl
theorem chk_non (k : Nat) : chk k .non = some .non := id rfl
theorem chk_str (k : Nat) (i : Str) : chk k (.str i) = some (.str i) := id rfl
theorem isi_some (T : String) (d : D) : oisi T (some d) = (tyD d).bind fun t => (L2.kitB t T).map D.bl := id rfl
theorem isi_ii (i : Int) : oisi "int" (some (.int i)) = some (.bl true) := id rfl
theorem isi_ib (i : Int) : oisi "bool" (some (.int i)) = some (.bl false) := id rfl
theorem isi_bb (i : Bool) : oisi "bool" (some (.bl i)) = some (.bl true) := id rfl
theorem isi_tt (i : List D) : oisi "tuple" (some (.tup i)) = some (.bl true) := id rfl
theorem isi_ll (i : List D) : oisi "list" (some (.lst i)) = some (.bl true) := id rfl
theorem mod_ii (i j : Int) (h : 0 < j) : mMod (.int i) (.int j) = some (.int (i % j)) := by
  show (if modOk i j = true then _ else _) = _
  rw [if_pos (show modOk i j = true from decide_eq_true h)]
theorem div_ii (i j : Int) (h : 0 < j) (h2 : j.natAbs.log2 < 9000) : mDiv (.int i) (.int j) = some (.int (i / j)) := by
  show (if divOk i j = true then _ else _) = _
  rw [if_pos (by unfold divOk; rw [decide_eq_true h, decide_eq_true h2]; rfl)]
theorem add_ii (i j : Int) : mAddI (.int i) (.int j) = some (.int (i + j)) := id rfl
theorem sub_ii (i j : Int) : mSub (.int i) (.int j) = some (.int (i - j)) := id rfl
theorem mul_ii (i j : Int) (h : (-(2 ^ 64) < i ∧ i < 2 ^ 64) ∨ (-(2 ^ 64) < j ∧ j < 2 ^ 64)) : mMul (.int i) (.int j) = some (.int (i * j)) := by
  show (if mulOk i j = true then _ else _) = _
  rw [if_pos]
  unfold mulOk
  rcases h with h | h
  · rw [decide_eq_true h.1, decide_eq_true h.2]; rfl
  · rw [decide_eq_true h.1, decide_eq_true h.2]; simp
theorem pow_ii (i j : Int) (h : powOk i j = true) : mPow (.int i) (.int j) = some (.int (i ^ j.toNat)) := by
  show (if powOk i j = true then _ else _) = _
  rw [if_pos h]
theorem lt_ii (i j : Int) : mLt (.int i) (.int j) = some (.bl (decide (i < j))) := id rfl
theorem le_ii (i j : Int) : mLe (.int i) (.int j) = some (.bl (decide (i ≤ j))) := id rfl
theorem gt_ii (i j : Int) : mGt (.int i) (.int j) = some (.bl (decide (j < i))) := id rfl
theorem ge_ii (i j : Int) : mGe (.int i) (.int j) = some (.bl (decide (j ≤ i))) := id rfl
theorem shp_int (i : Int) : shp (.int i) = true := id rfl
theorem eq_ii (i j : Int) : mEq (.int i) (.int j) = some (.bl (decide (i = j))) := by
  have : deq (.int i) (.int j) = decide (i = j) := by
    show (i == j) = _
    rw [Bool.beq_eq_decide_eq]
  unfold mEq
  rw [if_pos (by rfl), this]
theorem ne_ii (i j : Int) : mNe (.int i) (.int j) = some (.bl (!decide (i = j))) := by
  have : deq (.int i) (.int j) = decide (i = j) := by
    show (i == j) = _
    rw [Bool.beq_eq_decide_eq]
  unfold mNe
  rw [if_pos (by rfl), this]
theorem eq_bb (i j : Bool) : mEq (.bl i) (.bl j) = some (.bl (i == j)) := by
  unfold mEq
  rw [if_pos (by rfl)]; rfl
theorem ne_bb (i j : Bool) : mNe (.bl i) (.bl j) = some (.bl (!(i == j))) := by
  unfold mNe
  rw [if_pos (by rfl)]; rfl
theorem isN_n : mIsN .non .non = some (.bl true) := id rfl
theorem isN_i (i : Int) : mIsN (.int i) .non = some (.bl false) := id rfl
theorem notN_n : mNotN .non .non = some (.bl false) := id rfl
theorem notN_i (i : Int) : mNotN (.int i) .non = some (.bl true) := id rfl
theorem len_scr (ns : List Int) : mLen [.scr ns] = some (.int ns.length) := id rfl
theorem len_lst (ns : List D) : mLen [.lst ns] = some (.int ns.length) := id rfl
theorem len_tup (ns : List D) : mLen [.tup ns] = some (.int ns.length) := id rfl
theorem ix_scr (ns : List Int) (i : Int) (h0 : 0 ≤ i) (h : i < ns.length) : mIx (.scr ns) (.int i) = some (.int (ns.getD i.toNat 0)) := by
  show (L2.atI ns i).map D.int = _
  have e : ns[i.toNat]? = some (ns.getD i.toNat 0) := by
    rw [List.getD_eq_getElem?_getD]
    have : i.toNat < ns.length := by omega
    rw [List.getElem?_eq_getElem this]; rfl
  have := L2.atI_nat e
  rw [Int.toNat_of_nonneg h0] at this
  rw [this]; rfl
theorem ix_nat (ds : List D) (i : Nat) (d : D) (h : ds[i]? = some d) : mIx (.tup ds) (.int i) = some d := L2.atI_nat h
theorem ix_tup (ds : List D) (i : Int) (d : D) (h0 : 0 ≤ i) (h : ds[i.toNat]? = some d) : mIx (.tup ds) (.int i) = some d := by
  have := L2.atI_nat h
  rw [Int.toNat_of_nonneg h0] at this
  exact this
theorem ix_lst (ds : List D) (i : Int) (d : D) (h0 : 0 ≤ i) (h : ds[i.toNat]? = some d) : mIx (.lst ds) (.int i) = some d := by
  have := L2.atI_nat h
  rw [Int.toNat_of_nonneg h0] at this
  exact this
/-- a tuple of whole numbers -/
def tupI (pt : List Int) : D := .tup (pt.map D.int)
def lstI (pt : List Int) : D := .lst (pt.map D.int)
theorem ix_ints (pt : List Int) (i : Int) (h0 : 0 ≤ i) (h : i < pt.length) : mIx (tupI pt) (.int i) = some (.int (pt.getD i.toNat 0)) := by
  refine ix_tup _ _ _ h0 ?_
  rw [List.getElem?_map, List.getD_eq_getElem?_getD]
  have : i.toNat < pt.length := by omega
  rw [List.getElem?_eq_getElem this]; rfl
theorem full_ints (pt : List Int) (k : Nat) : full (tupI pt) k = true := fullL_ints pt k
theorem chk_ints (pt : List Int) (k : Nat) : chk k (tupI pt) = some (tupI pt) := by
  unfold chk; rw [if_pos (full_ints pt k)]
theorem forL_nil (m : GM) (b : SM) (st : Sl) : forL m b [] st = some (.nx st) := id rfl
def oloop (k : Sl → Option Out) : Option Out → Option Out
  | some (.nx st) => k st
  | some (.ct st) => k st
  | some (.bk st) => some (.nx st)
  | some (.rt d st) => some (.rt d st)
  | none => none
def obody (b : SM) : Option Sl → Option Out
  | some st => b st
  | none => none
theorem forL_cons (m : GM) (b : SM) (d : D) (ds : List D) (st : Sl) : forL m b (d :: ds) st = oloop (forL m b ds) (obody b (m d st)) := by
  show ((m d st).bind fun st1 => (b st1).bind fun o => match o with
    | .nx st2 => forL m b ds st2
    | .ct st2 => forL m b ds st2
    | .bk st2 => some (.nx st2)
    | .rt d st2 => some (.rt d st2)) = _
  cases m d st with
  | none => rfl
  | some st1 =>
    show (b st1).bind _ = oloop _ (b st1)
    cases b st1 with
    | none => rfl
    | some o => cases o <;> rfl
theorem o_loopN (k : Sl → Option Out) (st : Sl) : oloop k (some (.nx st)) = k st := id rfl
theorem o_loopC (k : Sl → Option Out) (st : Sl) : oloop k (some (.ct st)) = k st := id rfl
theorem o_loopB (k : Sl → Option Out) (st : Sl) : oloop k (some (.bk st)) = some (.nx st) := id rfl
theorem o_loopR (k : Sl → Option Out) (d : D) (st : Sl) : oloop k (some (.rt d st)) = some (.rt d st) := id rfl
theorem o_loopI (k : Sl → Option Out) (c : Prop) [Decidable c] (x y : Option Out) : oloop k (if c then x else y) = if c then oloop k x else oloop k y := by split <;> rfl
theorem o_body (b : SM) (st : Sl) : obody b (some st) = b st := id rfl
theorem gnm (i : Nat) (d : D) (st : Sl) : gNm i d st = if isVa st[i]? = true then some (st.set i (.va 0 d)) else none := id rfl
end
end FL
namespace FL
theorem div_s (i j : Int) (h : 0 < j) (h2 : j < 18446744073709551616) : mDiv (.int i) (.int j) = some (.int (i / j)) := div_ii i j h (by
  have h3 : j.natAbs < 2 ^ 64 := by omega
  exact Nat.lt_trans (PySem.Flt.log2_lt_of (by decide) h3) (by decide))
theorem mul_l (i j : Int) (h : -18446744073709551616 < i) (h2 : i < 18446744073709551616) : mMul (.int i) (.int j) = some (.int (i * j)) := mul_ii i j (.inl ⟨by omega, by omega⟩)
theorem mul_r (i j : Int) (h : -18446744073709551616 < j) (h2 : j < 18446744073709551616) : mMul (.int i) (.int j) = some (.int (i * j)) := mul_ii i j (.inr ⟨by omega, by omega⟩)
theorem pow_n (i : Int) (n : Nat) (h : n ≤ 1000000) (h1 : -18446744073709551616 < i) (h2 : i < 18446744073709551616) : mPow (.int i) (.int n) = some (.int (i ^ n)) := by
  rw [pow_ii]
  · rfl
  · unfold powOk
    rw [decide_eq_true (show (0 : Int) ≤ n by omega), decide_eq_true (show (n : Int) ≤ 1000000 by omega), decide_eq_true (show i.natAbs < 2 ^ 64 by omega)]
    rfl
end FL
namespace FL
open PySem PySem.Spec PyProof.Rows
/-! ### loops and comprehensions over lists of data -/
theorem rng1_eq (n : Int) (h0 : 0 ≤ n) (h : n < 4611686018427387904) : mRng1 (.int n) = some ((List.range n.toNat).map fun (i : Nat) => D.int (i : Int)) := by
  show (if rngOk n = true then some (rngL 0 1 n.toNat) else none) = _
  rw [if_pos (by unfold rngOk; rw [decide_eq_true (show -(2 ^ 62) ≤ n by omega), decide_eq_true (show n < 2 ^ 62 by omega)]; rfl)]
  unfold rngL
  congr 1
  apply List.map_congr_left
  intro i _
  rw [Int.mul_one, Int.zero_add]
theorem rng2_eq (a b : Int) (h0 : -4611686018427387904 ≤ a) (h1 : a < 4611686018427387904) (h2 : -4611686018427387904 ≤ b) (h3 : b < 4611686018427387904) : mRng2 (.int a) (.int b) = some ((List.range (b - a).toNat).map fun (i : Nat) => D.int (a + i)) := by
  show (if (rngOk a && rngOk b) = true then some (rngL a 1 (b - a).toNat) else none) = _
  rw [if_pos (by unfold rngOk; rw [decide_eq_true (show -(2 ^ 62) ≤ a by omega), decide_eq_true (show a < 2 ^ 62 by omega), decide_eq_true (show -(2 ^ 62) ≤ b by omega), decide_eq_true (show b < 2 ^ 62 by omega)]; rfl)]
  unfold rngL
  congr 1
  apply List.map_congr_left
  intro i _
  rw [Int.mul_one]
theorem lc_filter {α : Type} {vs : List Nat} {its : IM} {m : GM} {t : TM} {f : EM} {st : Sl} (enc hf : α → D) (p : α → Bool) (l : List α) (hi : its st = some (l.map enc)) (hv : vs.all (fun v => isV0 st[v]?) = true) (hl : l.length < 16777216)
    (h : ∀ x ∈ l, ∃ st1, m (enc x) (wipeS st vs) = some st1 ∧ t st1 = some (p x) ∧ (p x = true → f st1 = some (hf x))) : eLc vs its m t f st = some (.lst ((l.filter p).map hf)) := by
  have core : ∀ l : List α, (∀ x ∈ l, ∃ st1, m (enc x) (wipeS st vs) = some st1 ∧ t st1 = some (p x) ∧ (p x = true → f st1 = some (hf x))) → lcL m t f (wipeS st vs) (l.map enc) = some ((l.filter p).map hf) := by
    intro l
    induction l with
    | nil => intro _; rfl
    | cons x l ih =>
      intro h
      obtain ⟨st1, h1, h2, h3⟩ := h x List.mem_cons_self
      have ih := ih fun y hy => h y (List.mem_cons_of_mem _ hy)
      show ((m (enc x) (wipeS st vs)).bind fun st1 => (t st1).bind fun b => if b = true then (f st1).bind fun y => (lcL m t f (wipeS st vs) (l.map enc)).map (y :: ·) else lcL m t f (wipeS st vs) (l.map enc)) = _
      rw [h1]
      show ((t st1).bind fun b => if b = true then (f st1).bind fun y => (lcL m t f (wipeS st vs) (l.map enc)).map (y :: ·) else lcL m t f (wipeS st vs) (l.map enc)) = _
      rw [h2]
      show (if p x = true then (f st1).bind fun y => (lcL m t f (wipeS st vs) (l.map enc)).map (y :: ·) else lcL m t f (wipeS st vs) (l.map enc)) = _
      by_cases hp : p x = true
      · rw [if_pos hp, h3 hp, ih, List.filter_cons_of_pos hp]; rfl
      · rw [if_neg hp, ih, List.filter_cons_of_neg hp]
  unfold eLc
  rw [hi]
  show (if (vs.all (fun v => isV0 st[v]?) && decide ((l.map enc).length < 16777216)) = true then _ else none) = _
  rw [if_pos (by rw [hv, List.length_map, decide_eq_true hl]; rfl), core l h]
  rfl
theorem lc_map {α : Type} {vs : List Nat} {its : IM} {m : GM} {t : TM} {f : EM} {st : Sl} (enc hf : α → D) (l : List α) (hi : its st = some (l.map enc)) (hv : vs.all (fun v => isV0 st[v]?) = true) (hl : l.length < 16777216)
    (h : ∀ x ∈ l, ∃ st1, m (enc x) (wipeS st vs) = some st1 ∧ t st1 = some true ∧ f st1 = some (hf x)) : eLc vs its m t f st = some (.lst (l.map hf)) := by
  have := lc_filter enc hf (fun _ => true) l hi hv hl fun x hx => by
    obtain ⟨st1, h1, h2, h3⟩ := h x hx
    exact ⟨st1, h1, h2, fun _ => h3⟩
  rw [this, List.filter_eq_self.mpr fun _ _ => rfl]
theorem forL_P {α : Type} {m : GM} {b : SM} (P : Sl → Prop) (enc : α → D) : ∀ (l : List α) (_ : ∀ x ∈ l, ∀ st, P st → ∃ st', (obody b (m (enc x) st) = some (.nx st') ∨ obody b (m (enc x) st) = some (.ct st')) ∧ P st') (st : Sl), P st → ∃ st', forL m b (l.map enc) st = some (.nx st') ∧ P st'
  | [], _, st, hp => ⟨st, rfl, hp⟩
  | x :: l, h, st, hp => by
    obtain ⟨st1, h1, p1⟩ := h x List.mem_cons_self st hp
    obtain ⟨st2, h2, p2⟩ := forL_P P enc l (fun y hy => h y (List.mem_cons_of_mem _ hy)) st1 p1
    refine ⟨st2, ?_, p2⟩
    rw [List.map_cons, forL_cons]
    rcases h1 with h1 | h1 <;> (rw [h1]; exact h2)
theorem forL_fold {α β : Type} {m : GM} {b : SM} (S : β → Sl) (g : β → α → β) (enc : α → D) : ∀ (l : List α) (_ : ∀ x ∈ l, ∀ s, obody b (m (enc x) (S s)) = some (.nx (S (g s x)))) (s : β), forL m b (l.map enc) (S s) = some (.nx (S (l.foldl g s)))
  | [], _, s => rfl
  | x :: l, h, s => by
    rw [List.map_cons, forL_cons, h x List.mem_cons_self s]
    exact forL_fold S g enc l (fun y hy => h y (List.mem_cons_of_mem _ hy)) (g s x)
end FL
namespace FL
open PySem PySem.Spec PyProof.Rows
/-! ### the words of rows and questions -/
inductive Wd where
  | most | least | same | unlike | set_ | ask | need | claim | if_ | while_ | else_ | end_ | plain | go | keep | put
  deriving DecidableEq
def wS : Wd → Str
  | .most => "most"
  | .least => "least"
  | .same => "same"
  | .unlike => "unlike"
  | .set_ => "set"
  | .ask => "ask"
  | .need => "need"
  | .claim => "claim"
  | .if_ => "if"
  | .while_ => "while"
  | .else_ => "else"
  | .end_ => "end"
  | .plain => "plain"
  | .go => "go"
  | .keep => "keep"
  | .put => "put"
def wD (w : Wd) : D := .str (wS w)
theorem l_most : D.str "most" = wD .most := id rfl
theorem l_least : D.str "least" = wD .least := id rfl
theorem l_same : D.str "same" = wD .same := id rfl
theorem l_unlike : D.str "unlike" = wD .unlike := id rfl
theorem l_set : D.str "set" = wD .set_ := id rfl
theorem l_ask : D.str "ask" = wD .ask := id rfl
theorem l_need : D.str "need" = wD .need := id rfl
theorem l_claim : D.str "claim" = wD .claim := id rfl
theorem l_if : D.str "if" = wD .if_ := id rfl
theorem l_while : D.str "while" = wD .while_ := id rfl
theorem l_else : D.str "else" = wD .else_ := id rfl
theorem l_end : D.str "end" = wD .end_ := id rfl
theorem l_plain : D.str "plain" = wD .plain := id rfl
theorem l_go : D.str "go" = wD .go := id rfl
theorem l_keep : D.str "keep" = wD .keep := id rfl
theorem l_put : D.str "put" = wD .put := id rfl
theorem wS_eq : ∀ a b : Wd, (wS a == wS b) = decide (a = b) := by intro a b; cases a <;> cases b <;> decide +kernel
theorem wS_ok : ∀ a : Wd, shp (wD a) = true := by intro a; cases a <;> decide +kernel
theorem deq_w (a b : Wd) : deq (wD a) (wD b) = decide (a = b) := by
  show (wS a == wS b) = _
  exact wS_eq a b
theorem mEq_w (a b : Wd) : mEq (wD a) (wD b) = some (.bl (decide (a = b))) := by
  unfold mEq
  rw [wS_ok, wS_ok, deq_w]; rfl
theorem mNe_w (a b : Wd) : mNe (wD a) (wD b) = some (.bl (!decide (a = b))) := by
  unfold mNe
  rw [wS_ok, wS_ok, deq_w]; rfl
theorem chk_w (k : Nat) (a : Wd) : chk k (wD a) = some (wD a) := id rfl
theorem isi_sw (a : Wd) : oisi "str" (some (wD a)) = some (.bl true) := id rfl
theorem isN_w (a : Wd) : mIsN (wD a) .non = some (.bl false) := id rfl
theorem notN_w (a : Wd) : mNotN (wD a) .non = some (.bl true) := id rfl
/-- None or a whole number -/
def oD : Option Int → D
  | none => .non
  | some i => .int i
theorem chk_o (k : Nat) (o : Option Int) : chk k (oD o) = some (oD o) := by cases o <;> rfl
theorem isN_o (o : Option Int) : mIsN (oD o) .non = some (.bl o.isNone) := by cases o <;> rfl
theorem notN_o (o : Option Int) : mNotN (oD o) .non = some (.bl o.isSome) := by cases o <;> rfl
theorem full_w (k : Nat) (a : Wd) : full (wD a) k = true := id rfl
theorem full_o (k : Nat) (o : Option Int) : full (oD o) k = true := by cases o <;> rfl
/-! ### equality of data by equality of what they stand for -/
theorem mEq_of {x y : D} {b : Bool} (hx : shp x = true) (hy : shp y = true) (h : deq x y = b) : mEq x y = some (.bl b) := by
  unfold mEq
  rw [hx, hy, h]; rfl
theorem mNe_of {x y : D} {b : Bool} (hx : shp x = true) (hy : shp y = true) (h : deq x y = b) : mNe x y = some (.bl (!b)) := by
  unfold mNe
  rw [hx, hy, h]; rfl
/-! no truths: so == is = -/
mutual
def nob : D → Bool
  | .bl _ => false
  | .tup ds => nobL ds
  | .lst ds => nobL ds
  | .ob _ _ _ => false
  | .dct _ _ => false
  | .scr _ => false
  | _ => true
def nobL : List D → Bool
  | [] => true
  | d :: ds => nob d && nobL ds
end
theorem str_beq (x y : Str) : (x == y) = decide (x = y) := by
  by_cases h : x = y
  · rw [h, decide_eq_true rfl]; simp
  · rw [decide_eq_false h]; simp [h]
mutual
theorem deq_nob : ∀ (x y : D), nob x = true → nob y = true → deq x y = true → x = y
  | .non, y, _, hy, h => by cases y <;> first | rfl | cases h | cases hy
  | .int i, y, _, hy, h => by
    cases y with
    | int j =>
      have h : (i == j) = true := h
      rw [eq_of_beq h]
    | _ => first | cases h | cases hy
  | .str s, y, _, hy, h => by
    cases y with
    | str t =>
      have h : (s == t) = true := h
      rw [str_beq] at h
      rw [of_decide_eq_true h]
    | _ => first | cases h | cases hy
  | .tup ds, y, hx, hy, h => by
    cases y with
    | tup es => rw [deqL_nob ds es hx hy h]
    | _ => first | cases h | cases hy
  | .lst ds, y, hx, hy, h => by
    cases y with
    | lst es => rw [deqL_nob ds es hx hy h]
    | _ => first | cases h | cases hy
  | .bl _, _, hx, _, _ => by cases hx
  | .scr _, _, hx, _, _ => by cases hx
  | .ob _ _ _, _, hx, _, _ => by cases hx
  | .dct _ _, _, hx, _, _ => by cases hx
theorem deqL_nob : ∀ (x y : List D), nobL x = true → nobL y = true → PyData.eqvAll (toPyL x) (toPyL y) = true → x = y
  | [], y, _, _, h => by cases y <;> first | rfl | cases h
  | d :: ds, y, hx, hy, h => by
    cases y with
    | nil => cases h
    | cons e es =>
      have h : (deq d e && PyData.eqvAll (toPyL ds) (toPyL es)) = true := h
      have h := Bool.and_eq_true_iff.mp h
      have hx : (nob d && nobL ds) = true := hx
      have hx := Bool.and_eq_true_iff.mp hx
      have hy : (nob e && nobL es) = true := hy
      have hy := Bool.and_eq_true_iff.mp hy
      rw [deq_nob d e hx.1 hy.1 h.1, deqL_nob ds es hx.2 hy.2 h.2]
end
mutual
theorem deq_refl : ∀ (x : D), nob x = true → deq x x = true
  | .non, _ => rfl
  | .int i, _ => by show (i == i) = true; simp
  | .str s, _ => by show (s == s) = true; rw [str_beq]; simp
  | .tup ds, h => deqL_refl ds h
  | .lst ds, h => deqL_refl ds h
  | .bl _, h => by cases h
  | .scr _, h => by cases h
  | .ob _ _ _, h => by cases h
  | .dct _ _, h => by cases h
theorem deqL_refl : ∀ (x : List D), nobL x = true → PyData.eqvAll (toPyL x) (toPyL x) = true
  | [], _ => rfl
  | d :: ds, h => by
    have h : (nob d && nobL ds) = true := h
    have h := Bool.and_eq_true_iff.mp h
    show (deq d d && PyData.eqvAll (toPyL ds) (toPyL ds)) = true
    rw [deq_refl d h.1, deqL_refl ds h.2]; rfl
end
theorem deq_iff {x y : D} (hx : nob x = true) (hy : nob y = true) : deq x y = true ↔ x = y :=
  ⟨deq_nob x y hx hy, fun h => by rw [← h]; exact deq_refl x hx⟩
open Classical in
theorem mEq_nob {x y : D} (hx : shp x = true) (hy : shp y = true) (nx : nob x = true) (ny : nob y = true) : mEq x y = some (.bl (decide (x = y))) :=
  mEq_of hx hy (by
    by_cases h : x = y
    · rw [decide_eq_true h]; exact (deq_iff nx ny).mpr h
    · rw [decide_eq_false h]
      cases e : deq x y with
      | false => rfl
      | true => exact absurd ((deq_iff nx ny).mp e) h)
open Classical in
theorem mNe_nob {x y : D} (hx : shp x = true) (hy : shp y = true) (nx : nob x = true) (ny : nob y = true) : mNe x y = some (.bl (!decide (x = y))) := by
  have := mEq_nob hx hy nx ny
  unfold mEq at this
  unfold mNe
  rw [hx, hy] at this ⊢
  have e : deq x y = decide (x = y) := D.bl.inj (Option.some.inj this)
  rw [e]; rfl
end FL
namespace FL
open PySem PySem.Spec PyProof.Rows
/-- data that == takes: texts in order, k levels deep at most -/
def okD (k : Nat) (d : D) : Prop := (toPy d).canLay0 = true ∧ (toPy d).depth ≤ k
theorem okD.mono {k j : Nat} {d : D} (h : okD k d) (hk : k ≤ j) : okD j d := ⟨h.1, Nat.le_trans h.2 hk⟩
theorem okD.shp {k : Nat} {d : D} (h : okD k d) (hk : k ≤ 64) : shp d = true := by
  unfold FL.shp SeqAt.shaped
  rw [h.1, decide_eq_true (Nat.le_trans h.2 hk)]; rfl
theorem ok_int (k : Nat) (i : Int) : okD k (.int i) := ⟨rfl, Nat.zero_le _⟩
theorem ok_bl (k : Nat) (i : Bool) : okD k (.bl i) := ⟨rfl, Nat.zero_le _⟩
theorem ok_non (k : Nat) : okD k .non := ⟨rfl, Nat.zero_le _⟩
theorem ok_w (k : Nat) (a : Wd) : okD k (wD a) := ⟨SeqAt.canLay_of_shaped (wS_ok a), Nat.zero_le _⟩
theorem ok_o (k : Nat) (o : Option Int) : okD k (oD o) := by cases o <;> first | exact ok_non k | exact ok_int k _
theorem ok_L {k : Nat} : ∀ {ds : List D}, (∀ d ∈ ds, okD k d) → PyData.canLayAll0 (toPyL ds) = true ∧ PyData.depthAll (toPyL ds) ≤ k
  | [], _ => ⟨rfl, Nat.zero_le _⟩
  | d :: ds, h => by
    obtain ⟨h1, h2⟩ := h d List.mem_cons_self
    obtain ⟨h3, h4⟩ := ok_L (ds := ds) fun e he => h e (List.mem_cons_of_mem _ he)
    refine ⟨?_, ?_⟩
    · show ((toPy d).canLay0 && PyData.canLayAll0 (toPyL ds)) = true
      rw [h1, h3]; rfl
    · show max (toPy d).depth (PyData.depthAll (toPyL ds)) ≤ k
      exact Nat.max_le.mpr ⟨h2, h4⟩
theorem ok_tup {k : Nat} {ds : List D} (h : ∀ d ∈ ds, okD k d) : okD (k + 1) (.tup ds) := by
  obtain ⟨h1, h2⟩ := ok_L h
  exact ⟨h1, Nat.succ_le_succ h2⟩
theorem ok_lst {k : Nat} {ds : List D} (h : ∀ d ∈ ds, okD k d) : okD (k + 1) (.lst ds) := by
  obtain ⟨h1, h2⟩ := ok_L h
  exact ⟨h1, Nat.succ_le_succ h2⟩
theorem nobL_of : ∀ {ds : List D}, (∀ d ∈ ds, nob d = true) → nobL ds = true
  | [], _ => rfl
  | d :: ds, h => by
    show (nob d && nobL ds) = true
    rw [h d List.mem_cons_self, nobL_of fun e he => h e (List.mem_cons_of_mem _ he)]; rfl
theorem fullL_of {k : Nat} : ∀ {ds : List D}, (∀ d ∈ ds, full d k = true) → fullL ds k = true
  | [], _ => rfl
  | d :: ds, h => by
    show (full d k && fullL ds k) = true
    rw [h d List.mem_cons_self, fullL_of fun e he => h e (List.mem_cons_of_mem _ he)]; rfl
theorem nob_o (o : Option Int) : nob (oD o) = true := by cases o <;> rfl
/-- == of data without truths -/
theorem mEq_self {x : D} {k : Nat} (h : okD k x) (hk : k ≤ 64) (n : nob x = true) : mEq x x = some (.bl true) :=
  mEq_of (h.shp hk) (h.shp hk) (deq_refl x n)
theorem mNe_self {x : D} {k : Nat} (h : okD k x) (hk : k ≤ 64) (n : nob x = true) : mNe x x = some (.bl false) :=
  mNe_of (h.shp hk) (h.shp hk) (deq_refl x n)
end FL
namespace FL
/-- a loop by what holds behind each part of its items -/
theorem forL_pre {α : Type} {m : GM} {b : SM} (P : List α → Sl → Prop) (enc : α → D) (l : List α) (h : ∀ pre x post, l = pre ++ x :: post → ∀ st, P pre st → ∃ st', (obody b (m (enc x) st) = some (.nx st') ∨ obody b (m (enc x) st) = some (.ct st')) ∧ P (pre ++ [x]) st') (st : Sl) (h0 : P [] st) :
    ∃ st', forL m b (l.map enc) st = some (.nx st') ∧ P l st' := by
  have core : ∀ (post pre : List α) (st : Sl), l = pre ++ post → P pre st → ∃ st', forL m b (post.map enc) st = some (.nx st') ∧ P l st' := by
    intro post
    induction post with
    | nil =>
      intro pre st e hp
      rw [List.append_nil] at e
      subst e
      exact ⟨st, rfl, hp⟩
    | cons x post ih =>
      intro pre st e hp
      obtain ⟨st1, h1, p1⟩ := h pre x post e st hp
      obtain ⟨st2, h2, p2⟩ := ih (pre ++ [x]) st1 (by rw [e, List.append_assoc]; rfl) p1
      refine ⟨st2, ?_, p2⟩
      rw [List.map_cons, forL_cons]
      rcases h1 with h1 | h1 <;> (rw [h1]; exact h2)
  exact core l [] st rfl h0
end FL
namespace FL
open PySem PySem.Spec PyProof.Rows
/-! ### lists by their places -/
def genI (n : Nat) (h : Int → D) : D := .lst ((List.range n).map fun (i : Nat) => h (i : Int))
def lineD (n : Nat) (L : Int → Option Int) : D := genI n fun g => oD (L g)
abbrev Tb := Int → Int → Option Int
def tabD (n : Nat) (T : Tb) : D := genI n fun f => lineD n (T f)
theorem gen_get {n : Nat} {h : Int → D} {i : Nat} (hi : i < n) : ((List.range n).map fun (i : Nat) => h (i : Int))[i]? = some (h i) := by
  rw [List.getElem?_map, List.getElem?_range hi]; rfl
theorem ix_gen (n : Nat) (h : Int → D) (i : Int) (h0 : 0 ≤ i) (h1 : i < n) : mIx (genI n h) (.int i) = some (h i) := by
  refine ix_lst _ _ _ h0 ?_
  have := gen_get (h := h) (i := i.toNat) (n := n) (by omega)
  rw [Int.toNat_of_nonneg h0] at this
  exact this
theorem ix_tab (n : Nat) (T : Tb) (i : Int) (h0 : 0 ≤ i) (h1 : i < n) : mIx (tabD n T) (.int i) = some (lineD n (T i)) := ix_gen n _ i h0 h1
theorem ix_line (n : Nat) (L : Int → Option Int) (i : Int) (h0 : 0 ≤ i) (h1 : i < n) : mIx (lineD n L) (.int i) = some (oD (L i)) := ix_gen n _ i h0 h1
theorem len_gen (n : Nat) (h : Int → D) : mLen [genI n h] = some (.int n) := by
  unfold genI; rw [len_lst, List.length_map, List.length_range]
theorem len_tabD (n : Nat) (T : Tb) : mLen [tabD n T] = some (.int n) := len_gen n _
theorem len_line (n : Nat) (L : Int → Option Int) : mLen [lineD n L] = some (.int n) := len_gen n _
theorem gen_congr {n : Nat} {h h' : Int → D} (e : ∀ i : Int, 0 ≤ i → i < n → h i = h' i) : genI n h = genI n h' := by
  unfold genI
  congr 1
  apply List.map_congr_left
  intro i hi
  have := List.mem_range.mp hi
  exact e i (by omega) (by omega)
theorem tab_congr {n : Nat} {T U : Tb} (e : ∀ f g : Int, 0 ≤ f → f < n → 0 ≤ g → g < n → T f g = U f g) : tabD n T = tabD n U := gen_congr fun f h0 h1 => gen_congr fun g h2 h3 => by rw [e f g h0 h1 h2 h3]
theorem gen_inj {n : Nat} {h h' : Int → D} (e : genI n h = genI n h') (i : Int) (h0 : 0 ≤ i) (h1 : i < n) : h i = h' i := by
  have := ix_gen n h i h0 h1
  rw [e, ix_gen n h' i h0 h1] at this
  exact (Option.some.inj this).symm
theorem oD_inj {a b : Option Int} (e : oD a = oD b) : a = b := by
  cases a <;> cases b <;> first | rfl | (cases e; rfl) | cases e
theorem tab_inj {n : Nat} {T U : Tb} (e : tabD n T = tabD n U) (f g : Int) (h0 : 0 ≤ f) (h1 : f < n) (h2 : 0 ≤ g) (h3 : g < n) : T f g = U f g :=
  oD_inj (gen_inj (gen_inj e f h0 h1) g h2 h3)
theorem gen_len {n m : Nat} {h h' : Int → D} (e : genI n h = genI m h') : n = m := by
  have : ((List.range n).map fun (i : Nat) => h (i : Int)).length = ((List.range m).map fun (i : Nat) => h' (i : Int)).length := by
    rw [D.lst.inj e]
  simpa using this
theorem gen_set {n : Nat} {h : Int → D} {i : Nat} {d : D} : ((List.range n).map fun (i : Nat) => h (i : Int)).set i d = (List.range n).map fun (j : Nat) => if (j : Int) = (i : Int) then d else h j := by
  apply List.ext_getElem?
  intro j
  by_cases hj : j < n
  · by_cases e : i = j
    · subst e
      rw [List.getElem?_set_self (by simpa using hj), List.getElem?_map, List.getElem?_range hj]
      simp
    · rw [List.getElem?_set_ne e, List.getElem?_map, List.getElem?_map, List.getElem?_range hj]
      show some (h j) = some (if (j : Int) = i then d else h j)
      rw [if_neg (by omega)]
  · rw [List.getElem?_eq_none (by simpa using hj), List.getElem?_eq_none (by simpa using hj)]
theorem setD0 (k : Nat) (x d : D) (st : Sl) : setD (.va k x :: st) 0 d = .va k d :: st := id rfl
theorem setD0i (k : Nat) (x d : D) (st : Sl) : setD (.io k x :: st) 0 d = .io k d :: st := id rfl
theorem setDS (s : Slot) (st : Sl) (i : Nat) (d : D) : setD (s :: st) (i + 1) d = s :: setD st i d := by
  unfold setD
  show (match st[i]? with | some s' => (s :: st).set (i + 1) (putD d s') | none => s :: st) = s :: (match st[i]? with | some s' => st.set i (putD d s') | none => st)
  cases st[i]? <;> rfl
theorem sld_va (k : Nat) (d : D) : slD (some (.va k d)) = some (k, d) := id rfl
theorem sld_io (k : Nat) (d : D) : slD (some (.io k d)) = some (k, d) := id rfl
theorem ixN_nat {n : Nat} {i : Int} (h0 : 0 ≤ i) (h1 : i < n) : L2.ixN n i = some i.toNat := by
  unfold L2.ixN
  rw [if_pos (by omega), if_pos (by omega)]
def ofrz (i : Nat) (g : SM) (st : Sl) : Option Slot → Option Out
  | some (.va _ d) => g (st.set i (.va 0 d))
  | _ => none
theorem e_frz (i : Nat) (g : SM) (st : Sl) : sFrz i g st = ofrz i g st st[i]? := by unfold sFrz ofrz; rfl
theorem o_frz (i k : Nat) (g : SM) (st : Sl) (d : D) : ofrz i g st (some (.va k d)) = g (st.set i (.va 0 d)) := id rfl
def oapp (i k : Nat) (st : Sl) : Option (Nat × D) → Option D → Option Out
  | some (k', .lst ds), some d => if (k' == k + 1 && decide (ds.length < 16777216)) = true then some (.nx (setD st i (.lst (ds ++ [d])))) else none
  | _, _ => none
theorem e_app (i k : Nat) (f : EM) (st : Sl) : sApp i k f st = oapp i k st (slD st[i]?) (f st) := by
  unfold sApp
  cases slD st[i]? with
  | none => cases f st <;> rfl
  | some x =>
    obtain ⟨k', d⟩ := x
    cases d with
    | lst ds =>
      show (if _ then (f st).map _ else none) = oapp i k st _ (f st)
      cases f st with
      | none =>
        show (if _ then none else none) = _
        simp [oapp]
      | some d => rfl
    | _ => cases f st <;> rfl
theorem o_app (i k : Nat) (st : Sl) (ds : List D) (d : D) (h : ds.length < 16777216) : oapp i k st (some (k + 1, .lst ds)) (some d) = some (.nx (setD st i (.lst (ds ++ [d])))) := by
  show (if (k + 1 == k + 1 && decide (ds.length < 16777216)) = true then _ else _) = _
  rw [if_pos (by simp [h])]
def oappV (i k j : Nat) (st : Sl) : Option (Nat × D) → Option Slot → Option Out
  | some (k', .lst ds), some (.va k2 d) => if (decide (k' = k + 1) && decide (k2 = k) && decide (i ≠ j) && decide (ds.length < 16777216)) = true then some (.nx ((setD st i (.lst (ds ++ [d]))).set j .un)) else none
  | _, _ => none
theorem e_appV (i k j : Nat) (st : Sl) : sAppV i k j st = oappV i k j st (slD st[i]?) st[j]? := by
  unfold sAppV oappV
  rfl
theorem o_appV (i k j : Nat) (st : Sl) (ds : List D) (d : D) (h : ds.length < 16777216) (hij : i ≠ j) : oappV i k j st (some (k + 1, .lst ds)) (some (.va k d)) = some (.nx ((setD st i (.lst (ds ++ [d]))).set j .un)) := by
  show (if (decide (k + 1 = k + 1) && decide (k = k) && decide (i ≠ j) && decide (ds.length < 16777216)) = true then _ else _) = _
  rw [if_pos (by simp [h, hij])]
theorem e_sub_gen {i k n : Nat} {h : Int → D} {g f : EM} {st : Sl} {d : D} {a : Int} (hs : slD st[i]? = some (k + 1, genI n h)) (hf : f st = some d) (hg : g st = some (.int a)) (h0 : 0 ≤ a) (h1 : a < n) :
    sSub i k g f st = some (.nx (setD st i (genI n fun x => if x = a then d else h x))) := by
  unfold sSub
  rw [hs]
  show (if k + 1 = k + 1 then (f st).bind _ else none) = _
  rw [if_pos rfl, hf]
  show (g st).bind _ = _
  rw [hg]
  show (L2.ixN ((List.range n).map fun (i : Nat) => h (i : Int)).length a).map _ = _
  rw [List.length_map, List.length_range, ixN_nat h0 h1]
  show some (Out.nx (setD st i (.lst (((List.range n).map fun (i : Nat) => h (i : Int)).set a.toNat d)))) = _
  rw [gen_set]
  unfold genI
  rw [Int.toNat_of_nonneg h0]
theorem e_sub2_gen {i k n m : Nat} {T : Int → Int → D} {g h f : EM} {st : Sl} {d : D} {a b : Int} (hs : slD st[i]? = some (k + 2, genI n fun x => genI m (T x))) (hf : f st = some d) (hg : g st = some (.int a)) (hh : h st = some (.int b)) (h0 : 0 ≤ a) (h1 : a < n) (h2 : 0 ≤ b) (h3 : b < m) :
    sSub2 i k g h f st = some (.nx (setD st i (genI n fun x => genI m fun y => if x = a ∧ y = b then d else T x y))) := by
  unfold sSub2
  rw [hs]
  show (if k + 2 = k + 2 then (f st).bind _ else none) = _
  rw [if_pos rfl, hf]
  show (g st).bind _ = _
  rw [hg]
  show (h st).bind _ = _
  rw [hh]
  show (L2.ixN ((List.range n).map fun (i : Nat) => genI m (T (i : Int))).length a).bind _ = _
  rw [List.length_map, List.length_range, ixN_nat h0 h1]
  show (match ((List.range n).map fun (i : Nat) => genI m (T (i : Int)))[a.toNat]? with
      | some (.lst es) => (L2.ixN es.length b).map fun j' => Out.nx (setD st i (.lst (((List.range n).map fun (i : Nat) => genI m (T (i : Int))).set a.toNat (.lst (es.set j' d)))))
      | _ => none) = _
  rw [gen_get (h := fun x => genI m (T x)) (by omega)]
  show (L2.ixN ((List.range m).map fun (j : Nat) => T ((a.toNat : Nat) : Int) (j : Int)).length b).map _ = _
  rw [List.length_map, List.length_range, ixN_nat h2 h3]
  show some (Out.nx (setD st i (.lst (((List.range n).map fun (i : Nat) => genI m (T (i : Int))).set a.toNat (.lst (((List.range m).map fun (j : Nat) => T ((a.toNat : Nat) : Int) (j : Int)).set b.toNat d)))))) = _
  rw [gen_set (h := fun x => genI m (T x)), gen_set (h := fun y => T ((a.toNat : Nat) : Int) y)]
  congr 4
  apply List.map_congr_left
  intro x _
  show (if (x : Int) = ((a.toNat : Nat) : Int) then _ else _) = _
  rw [Int.toNat_of_nonneg h0, Int.toNat_of_nonneg h2]
  by_cases e : (x : Int) = a
  · rw [if_pos e]
    unfold genI
    congr 1
    apply List.map_congr_left
    intro y _
    by_cases e2 : (y : Int) = b
    · show _ = if (x : Int) = a ∧ (y : Int) = b then d else T x y
      rw [if_pos e2, if_pos ⟨e, e2⟩]
    · show _ = if (x : Int) = a ∧ (y : Int) = b then d else T x y
      rw [if_neg e2, if_neg fun z => e2 z.2, e]
  · rw [if_neg e]
    unfold genI
    congr 1
    apply List.map_congr_left
    intro y _
    show _ = if (x : Int) = a ∧ (y : Int) = b then d else T x y
    rw [if_neg fun z => e z.1]
theorem e_sub2_tab {i n : Nat} {T : Tb} {g h f : EM} {st : Sl} {v : Option Int} {a b : Int} (hs : slD st[i]? = some (2, tabD n T)) (hf : f st = some (oD v)) (hg : g st = some (.int a)) (hh : h st = some (.int b)) (h0 : 0 ≤ a) (h1 : a < n) (h2 : 0 ≤ b) (h3 : b < n) :
    sSub2 i 0 g h f st = some (.nx (setD st i (tabD n fun x y => if x = a ∧ y = b then v else T x y))) := by
  rw [e_sub2_gen (k := 0) (T := fun x y => oD (T x y)) hs hf hg hh h0 h1 h2 h3]
  congr 4
  funext x
  show genI n _ = genI n _
  congr 1
  funext y
  show (if x = a ∧ y = b then oD v else oD (T x y)) = oD (if x = a ∧ y = b then v else T x y)
  split <;> rfl
theorem catT_ints (a b : List Int) (h : a.length + b.length < 16777216) : mCatTA (tupI a) (tupI b) = some (tupI (a ++ b)) := by
  show (if lenOk ((a.map D.int).length + (b.map D.int).length) = true then _ else _) = _
  rw [if_pos (by unfold lenOk; rw [List.length_map, List.length_map]; exact decide_eq_true (by omega))]
  unfold tupI
  rw [List.map_append]
theorem slT_lo (pt : List Int) (k : Int) (h0 : 0 ≤ k) : mSlTA (tupI pt) none (some k) = some (tupI (pt.take k.toNat)) := by
  unfold tupI mSlTA cutG
  have e1 : HT.sIx (pt.map D.int).length 0 none = 0 := rfl
  have e2 : HT.sIx (pt.map D.int).length (pt.map D.int).length (some k) = min k.toNat (pt.map D.int).length := by
    show (if k < 0 then _ else min k.toNat (pt.map D.int).length) = _
    rw [if_neg (by omega)]
  simp only
  rw [e1, e2, List.drop_zero, Nat.sub_zero, List.map_take]
  congr 2
  rw [← List.take_take, List.take_length]
theorem slT_hi (pt : List Int) (k : Int) (h0 : 0 ≤ k) : mSlTA (tupI pt) (some k) none = some (tupI (pt.drop k.toNat)) := by
  unfold tupI mSlTA cutG
  have e1 : HT.sIx (pt.map D.int).length 0 (some k) = min k.toNat (pt.map D.int).length := by
    show (if k < 0 then _ else min k.toNat (pt.map D.int).length) = _
    rw [if_neg (by omega)]
  have e2 : HT.sIx (pt.map D.int).length (pt.map D.int).length none = (pt.map D.int).length := rfl
  simp only
  rw [e1, e2, List.map_drop]
  congr 2
  rw [List.take_of_length_le (by rw [List.length_drop]; exact Nat.le_refl _)]
  by_cases h : k.toNat ≤ (pt.map D.int).length
  · rw [Nat.min_eq_left h]
  · rw [Nat.min_eq_right (by omega), List.drop_length, List.drop_eq_nil_of_le (by omega)]
theorem e_appN_tab {i n : Nat} {T : Tb} {g f : EM} {st : Sl} {d : D} {a : Int} (hs : slD st[i]? = some (2, tabD n T)) (hf : f st = some d) (hg : g st = some (.int a)) (h0 : 0 ≤ a) (h1 : a < n) (hn : n < 1000000) : ∃ d', sAppN i g f st = some (.nx (setD st i d')) := by
  unfold sAppN
  rw [hs]
  show ∃ d', (if 2 = 2 then (g st).bind _ else none) = _
  rw [if_pos rfl, hg]
  show ∃ d', (f st).bind _ = _
  rw [hf]
  show ∃ d', (L2.ixN ((List.range n).map fun (i : Nat) => lineD n (T (i : Int))).length a).bind _ = _
  rw [List.length_map, List.length_range, ixN_nat h0 h1]
  show ∃ d', (match ((List.range n).map fun (i : Nat) => lineD n (T (i : Int)))[a.toNat]? with
      | some (.lst es) => if decide (es.length < 16777216) = true then some (Out.nx (setD st i (.lst (((List.range n).map fun (i : Nat) => lineD n (T (i : Int))).set a.toNat (.lst (es ++ [d])))))) else none
      | _ => none) = _
  rw [gen_get (h := fun x => lineD n (T x)) (by omega)]
  show ∃ d', (if decide (((List.range n).map fun (j : Nat) => oD (T ((a.toNat : Nat) : Int) (j : Int))).length < 16777216) = true then _ else none) = _
  rw [if_pos (by rw [List.length_map, List.length_range]; exact decide_eq_true (by omega))]
  exact ⟨_, rfl⟩
/-- a slot that may be unset -/
def vS : Option D → Slot
  | none => .un
  | some d => .va 0 d
theorem isva_vS (o : Option D) : isVa (some (vS o)) = true := by cases o <;> rfl
theorem isv0_vS (o : Option D) : isV0 (some (vS o)) = true := by cases o <;> rfl
/-! ### calls that change lists -/
theorem e_aio {j k : Nat} {g : AM} {st : Sl} {d : D} {ds : List D} (h : slD st[j]? = some (k, d)) (hg : g st = some ds) : aIo j k g st = some (d :: ds) := by
  unfold aIo
  rw [h]
  show (if k = k then (g st).map (d :: ·) else none) = _
  rw [if_pos rfl, hg]; rfl
theorem e_xcall {sp : Src} {kr : Nat} {m : List D → Option (D × List D)} {fa : AM} {st : Sl} {ds ds' : List D} {d : D} (h1 : fa st = some ds) (h2 : m ds = some (d, ds')) (h3 : full d kr = true) (h4 : fullIO sp ds' = true) : xCall sp kr m fa st = some (d, putS sp ds' st) := by
  unfold xCall
  rw [h1]
  show (match m ds with | some (d, ds') => _ | none => none) = _
  rw [h2]
  show (if (full d kr && fullIO sp ds') = true then _ else _) = _
  rw [if_pos (by rw [h3, h4]; rfl)]
theorem e_sx {f : XM} {st st' : Sl} {d : D} (h : f st = some (d, st')) : sX f st = some (.nx st') := by unfold sX; rw [h]; rfl
theorem e_setx {f : XM} {st st' : Sl} {d : D} {i k : Nat} (h : f st = some (d, st')) (h2 : isVa st'[i]? = true) : sSetX i k f st = some (.nx (st'.set i (.va k d))) := by
  unfold sSetX
  rw [h]
  show (if isVa st'[i]? = true then _ else _) = _
  rw [if_pos h2]
theorem e_retx {f : XM} {st st' : Sl} {d : D} (h : f st = some (d, st')) : sRetX f st = some (.rt d st') := by unfold sRetX; rw [h]; rfl
theorem e_retv (k i : Nat) (st : Sl) (d : D) (h : st[i]? = some (.va k d)) : sRetV k i st = some (.rt d (st.set i .un)) := by
  unfold sRetV
  rw [h]
  show (if k = k then _ else _) = _
  rw [if_pos rfl]
theorem e_runIO_n {n : Nat} {io : Io} {g : SM} {ds ds' : List D} {st : Sl} (h : g (ioStart io ds ++ List.replicate (n - ds.length) .un) = some (.nx st)) (h2 : ioEnd io st = some ds') : fnRunIO n io g ds = some (.non, ds') := by
  unfold fnRunIO
  rw [h]
  show (ioEnd io st).map _ = _
  rw [h2]; rfl
theorem e_runIO_r {n : Nat} {io : Io} {g : SM} {ds ds' : List D} {d : D} {st : Sl} (h : g (ioStart io ds ++ List.replicate (n - ds.length) .un) = some (.rt d st)) (h2 : ioEnd io st = some ds') : fnRunIO n io g ds = some (d, ds') := by
  unfold fnRunIO
  rw [h]
  show (ioEnd io st).map _ = _
  rw [h2]; rfl
/-! ### loops that may hand back -/
theorem forL_find {α : Type} {m : GM} {b : SM} (P : Sl → Prop) (enc : α → D) (p : α → Bool) (r : α → D) : ∀ (l : List α) (_ : ∀ x ∈ l, ∀ st, P st → if p x = true then ∃ st', obody b (m (enc x) st) = some (.rt (r x) st') else ∃ st', obody b (m (enc x) st) = some (.nx st') ∧ P st') (st : Sl), P st →
    match l.find? p with
    | some x => ∃ st', forL m b (l.map enc) st = some (.rt (r x) st')
    | none => ∃ st', forL m b (l.map enc) st = some (.nx st') ∧ P st'
  | [], _, st, hp => ⟨st, rfl, hp⟩
  | x :: l, h, st, hp => by
    have h1 := h x List.mem_cons_self st hp
    cases e : p x with
    | true =>
      rw [if_pos e] at h1
      obtain ⟨st', h1⟩ := h1
      rw [List.find?_cons_of_pos e]
      refine ⟨st', ?_⟩
      rw [List.map_cons, forL_cons, h1]; rfl
    | false =>
      rw [if_neg (by rw [e]; decide)] at h1
      obtain ⟨st', h1, hp'⟩ := h1
      rw [List.find?_cons_of_neg (by rw [e]; decide)]
      have ih := forL_find P enc p r l (fun y hy => h y (List.mem_cons_of_mem _ hy)) st' hp'
      have e2 : forL m b ((x :: l).map enc) st = forL m b (l.map enc) st' := by rw [List.map_cons, forL_cons, h1]; rfl
      rw [e2]
      exact ih
/-- every item passes, or one hands back d -/
theorem forL_all {α : Type} {m : GM} {b : SM} (P : Sl → Prop) (enc : α → D) (p : α → Bool) (d : D) (l : List α) (h : ∀ x ∈ l, ∀ st, P st → if p x = true then ∃ st', obody b (m (enc x) st) = some (.nx st') ∧ P st' else ∃ st', obody b (m (enc x) st) = some (.rt d st')) (st : Sl) (hp : P st) :
    if l.all p = true then ∃ st', forL m b (l.map enc) st = some (.nx st') ∧ P st' else ∃ st', forL m b (l.map enc) st = some (.rt d st') := by
  have := forL_find P enc (fun x => !p x) (fun _ => d) l (fun x hx st hp => by
    have := h x hx st hp
    cases e : p x with
    | true => rw [e] at this; exact this
    | false => rw [e] at this; exact this) st hp
  cases e : l.find? fun x => !p x with
  | none =>
    rw [e] at this
    rw [if_pos (List.all_eq_true.mpr fun x hx => by simpa using List.find?_eq_none.mp e x hx)]
    exact this
  | some x =>
    rw [e] at this
    rw [if_neg fun z => by
      have h1 := List.find?_some e
      have h2 := List.all_eq_true.mp z x (List.mem_of_find?_eq_some e)
      rw [h2] at h1; cases h1]
    exact this
theorem oDs (i : Int) : oD (some i) = .int i := id rfl
theorem oDn : oD none = .non := id rfl
theorem slF_scr (ns : List Int) (lo hi : Option Int) : mSlF (.scr ns) lo hi = some (lstI (cutG ns lo hi)) := id rfl
theorem slL_scr (ns : List Int) (lo hi : Option Int) : mSlL (.scr ns) lo hi = some (lstI (cutG ns lo hi)) := id rfl
theorem itsS_ints (l : List Int) : itsS (lstI l) = some (l.map D.int) := id rfl
theorem cut_le {α : Type} (ns : List α) (lo hi : Option Int) : (cutG ns lo hi).length ≤ ns.length := by
  unfold cutG
  rw [List.length_take, List.length_drop]
  omega
theorem len_intsL (l : List Int) : mLen [lstI l] = some (.int l.length) := by unfold lstI; rw [len_lst, List.length_map]
theorem ix_intsL (l : List Int) (i : Int) (h0 : 0 ≤ i) (h1 : i < l.length) : mIx (lstI l) (.int i) = some (.int (l.getD i.toNat 0)) := by
  unfold lstI
  refine ix_lst _ _ _ h0 ?_
  rw [List.getElem?_map, List.getD_eq_getElem?_getD, List.getElem?_eq_getElem (by omega)]; rfl
theorem chk_intsL (l : List Int) (k : Nat) : chk (k + 1) (lstI l) = some (lstI l) := by
  unfold chk
  rw [if_pos (show full (lstI l) (k + 1) = true from fullL_ints l k)]
def othaw (i k : Nat) (f : EM) (st : Sl) : Option Slot → Option D
  | some (.va _ d) => ob1 (chk k) (f (st.set i (.va 0 d)))
  | _ => none
theorem e_thaw (i k : Nat) (f : EM) (st : Sl) : eThaw i k f st = othaw i k f st st[i]? := by
  unfold eThaw othaw
  cases st[i]? with
  | none => rfl
  | some s =>
    cases s with
    | va k' d => show (f (st.set i (.va 0 d))).bind (chk k) = ob1 (chk k) (f (st.set i (.va 0 d))); cases f (st.set i (.va 0 d)) <;> rfl
    | _ => rfl
theorem o_thaw (i k k' : Nat) (f : EM) (st : Sl) (d : D) : othaw i k f st (some (.va k' d)) = ob1 (chk k) (f (st.set i (.va 0 d))) := id rfl
def oretv (k i : Nat) (st : Sl) : Option Slot → Option Out
  | some (.va k' d) => if k' = k then some (.rt d (st.set i .un)) else none
  | _ => none
theorem e_retV (k i : Nat) (st : Sl) : sRetV k i st = oretv k i st st[i]? := by unfold sRetV oretv; rfl
theorem o_retV (k i : Nat) (st : Sl) (d : D) : oretv k i st (some (.va k d)) = some (.rt d (st.set i .un)) := by
  show (if k = k then _ else _) = _
  rw [if_pos rfl]
theorem range_split {n : Nat} {pre post : List Nat} {x : Nat} (e : List.range n = pre ++ x :: post) : x = pre.length ∧ x < n ∧ pre = List.range x := by
  have h1 : pre.length < n := by
    have := congrArg List.length e
    simp at this; omega
  have h2 : x = pre.length := by
    have := congrArg (·[pre.length]?) e
    simp [List.getElem?_range h1] at this
    omega
  refine ⟨h2, by omega, ?_⟩
  have := congrArg (List.take pre.length) e
  rw [List.take_left, List.take_range, Nat.min_eq_left (by omega)] at this
  rw [h2, this]
theorem itsS_tab (n : Nat) (T : Tb) : itsS (tabD n T) = some ((List.range n).map fun (i : Nat) => lineD n (T i)) := id rfl
theorem itsS_line (n : Nat) (L : Int → Option Int) : itsS (lineD n L) = some ((List.range n).map fun (i : Nat) => oD (L i)) := id rfl
theorem e_sub_line {i n : Nat} {L : Int → Option Int} {g f : EM} {st : Sl} {v : Option Int} {a : Int} (hs : slD st[i]? = some (1, lineD n L)) (hf : f st = some (oD v)) (hg : g st = some (.int a)) (h0 : 0 ≤ a) (h1 : a < n) :
    sSub i 0 g f st = some (.nx (setD st i (lineD n fun x => if x = a then v else L x))) := by
  rw [e_sub_gen (k := 0) (h := fun x => oD (L x)) hs hf hg h0 h1]
  congr 3
  show genI n _ = genI n _
  congr 1
  funext x
  show (if x = a then oD v else oD (L x)) = oD (if x = a then v else L x)
  split <;> rfl
theorem itsS_lst (ds : List D) : itsS (.lst ds) = some ds := id rfl
theorem itsS_tup (ds : List D) : itsS (.tup ds) = some ds := id rfl
theorem full_gen {n k : Nat} {h : Int → D} (e : ∀ i : Int, 0 ≤ i → i < n → full (h i) k = true) : full (genI n h) (k + 1) = true := by
  unfold genI
  rw [f_lst]
  refine fullL_of fun d hd => ?_
  obtain ⟨i, hi, rfl⟩ := List.mem_map.mp hd
  have := List.mem_range.mp hi
  exact e i (by omega) (by omega)
theorem full_line {n k : Nat} {L : Int → Option Int} : full (lineD n L) (k + 1) = true := full_gen fun _ _ _ => full_o k _
theorem full_tab {n k : Nat} {T : Tb} : full (tabD n T) (k + 2) = true := full_gen fun _ _ _ => full_line
theorem ok_gen {n k : Nat} {h : Int → D} (e : ∀ i : Int, okD k (h i)) : okD (k + 1) (genI n h) := ok_lst fun d hd => by
  obtain ⟨i, hi, rfl⟩ := List.mem_map.mp hd
  exact e i
theorem ok_line {n : Nat} {L : Int → Option Int} : okD 1 (lineD n L) := ok_gen fun _ => ok_o 0 _
theorem ok_tab {n : Nat} {T : Tb} : okD 2 (tabD n T) := ok_gen fun _ => ok_line
theorem nob_gen {n : Nat} {h : Int → D} (e : ∀ i : Int, nob (h i) = true) : nob (genI n h) = true := nobL_of fun d hd => by
  obtain ⟨i, hi, rfl⟩ := List.mem_map.mp hd
  exact e i
theorem nob_line {n : Nat} {L : Int → Option Int} : nob (lineD n L) = true := nob_gen fun _ => nob_o _
theorem nob_tab {n : Nat} {T : Tb} : nob (tabD n T) = true := nob_gen fun _ => nob_line
theorem chk_tab (n k : Nat) (T : Tb) : chk (k + 2) (tabD n T) = some (tabD n T) := by unfold chk; rw [if_pos full_tab]
theorem chk_line (n k : Nat) (T : Int → Option Int) : chk (k + 1) (lineD n T) = some (lineD n T) := by unfold chk; rw [if_pos full_line]
theorem listF_line (n : Nat) (L : Int → Option Int) : mListF (lineD n L) = some (lineD n L) := by
  show chkL (lineD n L) = _
  unfold lineD genI
  show (if fullL _ 0 = true then _ else _) = _
  rw [if_pos (fullL_of fun d hd => by
    obtain ⟨i, hi, rfl⟩ := List.mem_map.mp hd
    exact full_o 0 _)]
theorem listF_ints (l : List Int) : mListF (lstI l) = some (lstI l) := by
  show chkL (lstI l) = _
  unfold lstI
  show (if fullL _ 0 = true then _ else _) = _
  rw [if_pos (fullL_ints l 0)]
theorem ok_ints {l : List Int} : okD 1 (lstI l) := ok_lst fun d hd => by
  obtain ⟨i, hi, rfl⟩ := List.mem_map.mp hd
  exact ok_int 0 i
theorem nob_ints {l : List Int} : nob (lstI l) = true := nobL_of fun d hd => by
  obtain ⟨i, hi, rfl⟩ := List.mem_map.mp hd
  rfl
theorem isi_ln (n : Nat) (L : Int → Option Int) : oisi "list" (some (lineD n L)) = some (.bl true) := id rfl
theorem isi_tb (n : Nat) (T : Tb) : oisi "list" (some (tabD n T)) = some (.bl true) := id rfl
theorem isN_tb (n : Nat) (T : Tb) : mIsN (tabD n T) .non = some (.bl false) := id rfl
theorem notN_tb (n : Nat) (T : Tb) : mNotN (tabD n T) .non = some (.bl true) := id rfl
theorem isB_bb (a b : Bool) : mIsB (.bl a) (.bl b) = some (.bl (decide (a = b))) := id rfl
theorem notB_bb (a b : Bool) : mNotB (.bl a) (.bl b) = some (.bl (!decide (a = b))) := id rfl
theorem oval_i (a : Bool) : oval (some (.bl a)) = some a := id rfl
/-- a slot of level k that may be unset -/
def vK (k : Nat) : Option D → Slot
  | none => .un
  | some d => .va k d
theorem isva_vK (k : Nat) (o : Option D) : isVa (some (vK k o)) = true := by cases o <;> rfl
theorem e_appN_lst {i : Nat} {ds es : List D} {g f : EM} {st : Sl} {d : D} {a : Nat} (hs : slD st[i]? = some (2, .lst ds)) (hf : f st = some d) (hg : g st = some (.int a)) (hd : ds[a]? = some (.lst es)) (hn : es.length < 16777216) :
    sAppN i g f st = some (.nx (setD st i (.lst (ds.set a (.lst (es ++ [d])))))) := by
  unfold sAppN
  rw [hs]
  show (if 2 = 2 then (g st).bind _ else none) = _
  rw [if_pos rfl, hg]
  show (f st).bind _ = _
  rw [hf]
  have h1 : a < ds.length := (List.getElem?_eq_some_iff.mp hd).1
  show (L2.ixN ds.length a).bind _ = _
  rw [ixN_nat (by omega) (by omega)]
  show (match ds[(a : Int).toNat]? with
      | some (.lst es) => if decide (es.length < 16777216) = true then some (Out.nx (setD st i (.lst (ds.set (a : Int).toNat (.lst (es ++ [d])))))) else none
      | _ => none) = _
  rw [Int.toNat_natCast, hd]
  show (if decide (es.length < 16777216) = true then _ else none) = _
  rw [if_pos (decide_eq_true hn)]
theorem o_appI (i : Nat) (st : Sl) (l : List Int) (x : Int) (h : l.length < 16777216) : oapp i 0 st (some (1, lstI l)) (some (.int x)) = some (.nx (setD st i (lstI (l ++ [x])))) := by
  unfold lstI
  rw [o_app i 0 st (l.map D.int) (.int x) (by rw [List.length_map]; exact h), List.map_append]; rfl
theorem bq_tt : (true == true) = true := id rfl
theorem bq_ff : (false == false) = true := id rfl
theorem bq_tf : (true == false) = false := id rfl
theorem bq_ft : (false == true) = false := id rfl
theorem max2_ex (i j : Int) : ∃ m, mMax2 [.int i, .int j] = some (.int m) ∧ i ≤ m ∧ j ≤ m := ⟨if j > i then j else i, rfl, by split <;> omega, by split <;> omega⟩
theorem min2_ex (i j : Int) : ∃ m, mMin2 [.int i, .int j] = some (.int m) ∧ m ≤ i ∧ m ≤ j := ⟨if j < i then j else i, rfl, by split <;> omega, by split <;> omega⟩
theorem o_app1 (i k : Nat) (st : Sl) (a d : D) : oapp i k st (some (k + 1, .lst [a])) (some d) = some (.nx (setD st i (.lst [a, d]))) := o_app i k st [a] d (by show 1 < _; omega)
theorem o_app2 (i k : Nat) (st : Sl) (a b d : D) : oapp i k st (some (k + 1, .lst [a, b])) (some d) = some (.nx (setD st i (.lst [a, b, d]))) := o_app i k st [a, b] d (by show 2 < _; omega)
theorem o_app3 (i k : Nat) (st : Sl) (a b c d : D) : oapp i k st (some (k + 1, .lst [a, b, c])) (some d) = some (.nx (setD st i (.lst [a, b, c, d]))) := o_app i k st [a, b, c] d (by show 3 < _; omega)
theorem o_app4 (i k : Nat) (st : Sl) (a b c e d : D) : oapp i k st (some (k + 1, .lst [a, b, c, e])) (some d) = some (.nx (setD st i (.lst [a, b, c, e, d]))) := o_app i k st [a, b, c, e] d (by show 4 < _; omega)
theorem o_lst6 (x0 x1 x2 x3 x4 x5 : D) : olst (some [x0, x1, x2, x3, x4, x5]) = some (.lst [x0, x1, x2, x3, x4, x5]) := id rfl
theorem o_lst7 (x0 x1 x2 x3 x4 x5 x6 : D) : olst (some [x0, x1, x2, x3, x4, x5, x6]) = some (.lst [x0, x1, x2, x3, x4, x5, x6]) := id rfl
theorem o_lst9 (x0 x1 x2 x3 x4 x5 x6 x7 x8 : D) : olst (some [x0, x1, x2, x3, x4, x5, x6, x7, x8]) = some (.lst [x0, x1, x2, x3, x4, x5, x6, x7, x8]) := id rfl
theorem o_lst10 (x0 x1 x2 x3 x4 x5 x6 x7 x8 x9 : D) : olst (some [x0, x1, x2, x3, x4, x5, x6, x7, x8, x9]) = some (.lst [x0, x1, x2, x3, x4, x5, x6, x7, x8, x9]) := id rfl
theorem o_lst11 (x0 x1 x2 x3 x4 x5 x6 x7 x8 x9 x10 : D) : olst (some [x0, x1, x2, x3, x4, x5, x6, x7, x8, x9, x10]) = some (.lst [x0, x1, x2, x3, x4, x5, x6, x7, x8, x9, x10]) := id rfl
theorem o_lst12 (x0 x1 x2 x3 x4 x5 x6 x7 x8 x9 x10 x11 : D) : olst (some [x0, x1, x2, x3, x4, x5, x6, x7, x8, x9, x10, x11]) = some (.lst [x0, x1, x2, x3, x4, x5, x6, x7, x8, x9, x10, x11]) := id rfl
theorem o_lst16 (x0 x1 x2 x3 x4 x5 x6 x7 x8 x9 x10 x11 x12 x13 x14 x15 : D) : olst (some [x0, x1, x2, x3, x4, x5, x6, x7, x8, x9, x10, x11, x12, x13, x14, x15]) = some (.lst [x0, x1, x2, x3, x4, x5, x6, x7, x8, x9, x10, x11, x12, x13, x14, x15]) := id rfl
theorem o_tup6 (x0 x1 x2 x3 x4 x5 : D) : otup (some [x0, x1, x2, x3, x4, x5]) = some (.tup [x0, x1, x2, x3, x4, x5]) := id rfl
theorem o_tup7 (x0 x1 x2 x3 x4 x5 x6 : D) : otup (some [x0, x1, x2, x3, x4, x5, x6]) = some (.tup [x0, x1, x2, x3, x4, x5, x6]) := id rfl
theorem o_tup8 (x0 x1 x2 x3 x4 x5 x6 x7 : D) : otup (some [x0, x1, x2, x3, x4, x5, x6, x7]) = some (.tup [x0, x1, x2, x3, x4, x5, x6, x7]) := id rfl
/-- every item passes and leaves R, or one hands back what has Q -/
theorem forL_or {α : Type} {m : GM} {b : SM} (P : Sl → Prop) (R : α → Prop) (Q : D → Prop) (enc : α → D) : ∀ (l : List α) (_ : ∀ x ∈ l, ∀ st, P st → (∃ st', obody b (m (enc x) st) = some (.nx st') ∧ P st' ∧ R x) ∨ ∃ d st', obody b (m (enc x) st) = some (.rt d st') ∧ Q d) (st : Sl), P st →
    (∃ st', forL m b (l.map enc) st = some (.nx st') ∧ P st' ∧ ∀ x ∈ l, R x) ∨ ∃ d st', forL m b (l.map enc) st = some (.rt d st') ∧ Q d
  | [], _, st, hp => .inl ⟨st, rfl, hp, fun x hx => (by cases hx)⟩
  | x :: l, h, st, hp => by
    rcases h x List.mem_cons_self st hp with ⟨st1, e1, p1, r1⟩ | ⟨d, st1, e1, q1⟩
    · rcases forL_or P R Q enc l (fun y hy => h y (List.mem_cons_of_mem _ hy)) st1 p1 with ⟨st2, e2, p2, r2⟩ | ⟨d, st2, e2, q2⟩
      · refine .inl ⟨st2, ?_, p2, fun y hy => ?_⟩
        · rw [List.map_cons, forL_cons, e1]; exact e2
        · rcases List.mem_cons.mp hy with rfl | hy
          · exact r1
          · exact r2 y hy
      · refine .inr ⟨d, st2, ?_, q2⟩
        rw [List.map_cons, forL_cons, e1]; exact e2
    · refine .inr ⟨d, st1, ?_, q1⟩
      rw [List.map_cons, forL_cons, e1]; rfl
theorem e_clrN_tab {i n : Nat} {T : Tb} {g : EM} {st : Sl} {a : Int} (hs : slD st[i]? = some (2, tabD n T)) (hg : g st = some (.int a)) (h0 : 0 ≤ a) (h1 : a < n) : sClrN i g st = some (.nx (setD st i (.lst ((((List.range n).map fun (i : Nat) => lineD n (T (i : Int))).set a.toNat (.lst [])))))) := by
  unfold sClrN
  rw [hs]
  show (if 2 = 2 then (g st).bind _ else none) = _
  rw [if_pos rfl, hg]
  show (L2.ixN ((List.range n).map fun (i : Nat) => lineD n (T (i : Int))).length a).bind _ = _
  rw [List.length_map, List.length_range, ixN_nat h0 h1]
  show (match ((List.range n).map fun (i : Nat) => lineD n (T (i : Int)))[a.toNat]? with
      | some (.lst _) => some (Out.nx (setD st i (.lst (((List.range n).map fun (i : Nat) => lineD n (T (i : Int))).set a.toNat (.lst [])))))
      | _ => none) = _
  rw [gen_get (h := fun x => lineD n (T x)) (by omega)]
  rfl
def oxc (sp : Src) (kr : Nat) (st : Sl) : Option (D × List D) → Option (D × Sl)
  | some (d, ds') => if (full d kr && fullIO sp ds') = true then some (d, putS sp ds' st) else none
  | none => none
theorem e_xC (sp : Src) (kr : Nat) (m : List D → Option (D × List D)) (fa : AM) (st : Sl) : xCall sp kr m fa st = oxc sp kr st (ob1 m (fa st)) := by
  unfold xCall
  cases fa st with
  | none => rfl
  | some ds =>
    show (match m ds with | some (d, ds') => _ | none => none) = oxc sp kr st (m ds)
    cases m ds with
    | none => rfl
    | some r => rfl
theorem o_xc_t (j n : Nat) (T : Tb) (st : Sl) : oxc [some (j, 2), none, none, none] 0 st (some (.non, [tabD n T])) = some (.non, setD st j (tabD n T)) := by
  show (if (full D.non 0 && (full (tabD n T) 2 && true)) = true then _ else _) = _
  rw [full_tab]; rfl
def oaio (k : Nat) : Option (Nat × D) → Option (List D) → Option (List D)
  | some (k', d), some ds => if k' = k then some (d :: ds) else none
  | _, _ => none
theorem e_aIo (j k : Nat) (g : AM) (st : Sl) : aIo j k g st = oaio k (slD st[j]?) (g st) := by
  unfold aIo oaio
  cases slD st[j]? with
  | none => cases g st <;> rfl
  | some r =>
    obtain ⟨k', d⟩ := r
    cases g st with
    | none => show (if k' = k then none else none) = none; split <;> rfl
    | some ds => rfl
theorem o_aio (k : Nat) (d : D) (ds : List D) : oaio k (some (k, d)) (some ds) = some (d :: ds) := if_pos rfl
def osx : Option (D × Sl) → Option Out
  | some (_, st') => some (.nx st')
  | none => none
theorem e_sX (f : XM) (st : Sl) : sX f st = osx (f st) := by unfold sX; cases f st <;> rfl
theorem o_sx (d : D) (st : Sl) : osx (some (d, st)) = some (.nx st) := id rfl
def oretx : Option (D × Sl) → Option Out
  | some (d, st') => some (.rt d st')
  | none => none
theorem e_retX (f : XM) (st : Sl) : sRetX f st = oretx (f st) := by unfold sRetX; cases f st <;> rfl
theorem o_retx (d : D) (st : Sl) : oretx (some (d, st)) = some (.rt d st) := id rfl
def otupv (i k : Nat) (st : Sl) : Option Slot → Option (List D) → Option (D × Sl)
  | some (.va k' d), some ds => if k' = k then (if (fullL ds 0 && lenOk (ds.length + 1)) = true then some (.tup (d :: ds), st.set i .un) else none) else none
  | _, _ => none
theorem e_tupV (i k : Nat) (fa : AM) (st : Sl) : xTupV i k fa st = otupv i k st st[i]? (fa (st.set i .un)) := by
  unfold xTupV otupv
  cases st[i]? with
  | none => rfl
  | some s =>
    cases s with
    | va k' d =>
      cases fa (st.set i .un) with
      | none => show (if k' = k then none else none) = none; split <;> rfl
      | some ds => rfl
    | _ => rfl
theorem o_tupV1 (i k : Nat) (st : Sl) (d : D) (x : Int) : otupv i k st (some (.va k d)) (some [.int x]) = some (.tup [d, .int x], st.set i .un) := if_pos rfl
theorem g_tp2 (i j : Nat) (a b : D) (st : Sl) : gTp 2 (gsCons (gNm i) (gsCons (gNm j) gsNil)) (.tup [a, b]) st = (gNm i a st).bind fun st' => (gNm j b st').bind fun st'' => some st'' := id rfl
theorem bnd {α β : Type} (x : α) (f : α → Option β) : (some x).bind f = f x := id rfl
end FL
namespace FL
open PySem PySem.Spec PyProof.Rows
/-! ### instances -/
def ometh (m : D → List D → Option D) (a : Option D) (b : Option (List D)) : Option D := a.bind fun d => b.bind fun as => m d as
theorem e_meth (m : D → List D → Option D) (f : EM) (fa : AM) (st : Sl) : eMeth m f fa st = ometh m (f st) (fa st) := id rfl
theorem e_methO (k : Nat) (m : D → List D → Option D) (f : EM) (fa : AM) (st : Sl) : eMethO k m f fa st = ob1 (chk k) (ometh m (f st) (fa st)) := by
  show (ometh m (f st) (fa st)).bind (chk k) = _
  cases ometh m (f st) (fa st) <;> rfl
theorem o_meth (m : D → List D → Option D) (d : D) (as : List D) : ometh m (some d) (some as) = m d as := id rfl
def omk (C : Str) (nm : List Str) (a : Option (List D)) : Option D := a.bind fun ds => if (fullL ds 0 && ds.length == nm.length) = true then some (.ob C nm ds) else none
theorem e_mk (C : Str) (nm : List Str) (f : AM) (st : Sl) : eMk C nm f st = omk C nm (f st) := id rfl
theorem o_mk (C : Str) (nm : List Str) (ds : List D) (h : (fullL ds 0 && ds.length == nm.length) = true) : omk C nm (some ds) = some (.ob C nm ds) := by
  unfold omk
  show (if _ then _ else _) = _
  rw [if_pos h]
theorem ix_map {α : Type} (f : α → D) (l : List α) (i : Nat) {a : α} (h : l[i]? = some a) : mIx (.lst (l.map f)) (.int i) = some (f a) :=
  ix_lst _ _ _ (by omega) (by rw [Int.toNat_natCast, List.getElem?_map, h]; rfl)
theorem zipD_map {α : Type} (f g : α → D) : ∀ l : List α, zipD (l.map f) (l.map g) = l.map fun i => .tup [f i, g i]
  | [] => rfl
  | x :: l => by rw [List.map_cons, List.map_cons, List.map_cons, ← zipD_map f g l]; rfl
theorem zip_map {α : Type} (f g : α → D) (l : List α) : mZip (.lst (l.map f)) (.lst (l.map g)) = some (l.map fun i => .tup [f i, g i]) := by
  show some (zipD _ _) = _
  rw [zipD_map]
theorem zip_line (n : Nat) (L M : Int → Option Int) : mZip (lineD n L) (lineD n M) = some ((List.range n).map fun (i : Nat) => .tup [oD (L i), oD (M i)]) := zip_map _ _ _
theorem zip_tab (n : Nat) (T U : Tb) : mZip (tabD n T) (tabD n U) = some ((List.range n).map fun (i : Nat) => .tup [lineD n (T i), lineD n (U i)]) := zip_map _ _ _
end FL
namespace K28
open PySem PySem.Spec PyProof.Rows FL
def g_added : SM :=
  (sSeq (sIf (qOr (qVal (eBin mIsN (eVar 0) (eC .non))) (qVal (eBin mIsN (eVar 1) (eC .non)))) (sRet (eC .non)) sNil)
    (sRet (eBin mAddI (eVar 0) (eVar 1))))
def m_added : List D → Option D := fnRun 2 g_added
def g_lesser : SM :=
  (sSeq (sIf (qVal (eBin mIsN (eVar 0) (eC .non))) (sRet (eVarS 1)) sNil)
    (sSeq (sIf (qOr (qVal (eBin mIsN (eVar 1) (eC .non))) (qVal (eBin mLe (eVar 0) (eVar 1)))) (sRet (eVarS 0)) sNil)
    (sRet (eVarS 1))))
def m_lesser : List D → Option D := fnRun 2 g_lesser
def g_flipped : SM :=
  (sRet (eBin mXor (eVar 0) (eC (.int 1))))
def m_flipped : List D → Option D := fnRun 1 g_flipped
def g_worth : SM :=
  (sSeq (sIf (qVal (eBin mEq (eBin mMod (eVar 1) (eC (.int 2))) (eC (.int 1)))) (sRet (eNeg (eBin mIx (eVar 0) (eBin mDiv (eVar 1) (eC (.int 2)))))) sNil)
    (sRet (eBin mIx (eVarS 0) (eBin mDiv (eVar 1) (eC (.int 2))))))
def m_worth : List D → Option D := fnRun 2 g_worth
def c_wide_1 : EM := (eLc [4] (iB mRng1 (eBin mMul (eC (.int 2)) (eVar 0))) (gNm 4) qYes (eC .non))
def b_wide_1 : SM := (sSeq (sSet 3 1 c_wide_1)
    (sSeq (sSub 3 0 (eCall m_flipped (aCons (eVar 2) aNil)) (eC (.int 0)))
    (sAppV 1 1 3)))
def g_wide : SM :=
  (sSeq (sSet 1 2 (eLst aNil))
    (sSeq (sFor (iB mRng1 (eBin mMul (eC (.int 2)) (eVar 0))) (gNm 2) b_wide_1)
    (sRetV 2 1)))
def m_wide : List D → Option D := fnRun 5 g_wide
def c_copied_1 : EM := (eLc [1] (iB itsS (eVarS 0)) (gNm 1) qYes (eB mListF (eVar 1)))
def g_copied : SM :=
  (sRet c_copied_1)
def m_copied : List D → Option D := fnRun 2 g_copied
def b_led_1 : SM := (sSeq (sSet 7 0 (eCallO 0 m_added (aCons (eBin mIx (eVar 6) (eVar 4)) (aCons (eVar 3) aNil))))
    (sSeq (sSet 8 0 (eCallO 0 m_added (aCons (eCall m_added (aCons (eBin mIx (eVar 6) (eCall m_flipped (aCons (eVar 2) aNil))) (aCons (eBin mMul (eC (.int 2)) (eVar 3)) aNil))) (aCons (eBin mIx (eBin mIx (eVar 0) (eVar 4)) (eVar 4)) aNil))))
    (sApp 5 0 (eCallO 0 m_lesser (aCons (eVar 7) (aCons (eVar 8) aNil))))))
def g_led : SM :=
  (sSeq (sSet 4 0 (eCallO 0 m_flipped (aCons (eVar 1) aNil)))
    (sSeq (sSet 5 1 (eLst aNil))
    (sSeq (sFor (iB itsS (eVarS 0)) (gNm 6) b_led_1)
    (sRetV 1 5))))
def m_led : List D → Option D := fnRun 9 g_led
def b_relinked_1 : SM := (sSeq (sSet 12 0 (eCallO 0 m_lesser (aCons (eCall m_added (aCons (eBin mIx (eVar 4) (eVar 9)) (aCons (eBin mIx (eVar 6) (eVar 11)) aNil))) (aCons (eCall m_added (aCons (eBin mIx (eVar 5) (eVar 9)) (aCons (eBin mIx (eVar 7) (eVar 11)) aNil))) aNil))))
    (sApp 10 0 (eCallO 0 m_lesser (aCons (eBin mIx (eBin mIx (eVar 0) (eVar 9)) (eVar 11)) (aCons (eVar 12) aNil)))))
def b_relinked_2 : SM := (sSeq (sSet 10 1 (eLst aNil))
    (sSeq (sFor (iB mRng1 (eCB mLen (aCons (eVar 0) aNil))) (gNm 11) b_relinked_1)
    (sAppV 8 1 10)))
def t_relinked_8 : SM := (sRetV 2 8)
def t_relinked_7 : SM := (sSeq (sFor (iB mRng1 (eCB mLen (aCons (eVar 0) aNil))) (gNm 9) b_relinked_2) t_relinked_8)
def t_relinked_6 : SM := (sSeq (sSet 8 2 (eLst aNil)) t_relinked_7)
def t_relinked_5 : SM := (sSeq (sSet 7 0 (eBin mIx (eVarS 0) (eCall m_flipped (aCons (eVar 2) aNil)))) t_relinked_6)
def t_relinked_4 : SM := (sSeq (sSet 6 0 (eBin mIx (eVarS 0) (eCall m_flipped (aCons (eVar 3) aNil)))) t_relinked_5)
def t_relinked_3 : SM := (sSeq (sSet 5 0 (eCallO 1 m_led (aCons (eVar 0) (aCons (eVar 3) (aCons (eVar 2) (aCons (eBin mIx (eVar 1) (eC (.int 2))) aNil)))))) t_relinked_4)
def t_relinked_2 : SM := (sSeq (sSet 4 0 (eCallO 1 m_led (aCons (eVar 0) (aCons (eVar 2) (aCons (eVar 3) (aCons (eBin mIx (eVar 1) (eC (.int 2))) aNil)))))) t_relinked_3)
def t_relinked_1 : SM := (sSeq (sSet 3 0 (eBin mIx (eVarS 1) (eC (.int 1)))) t_relinked_2)
def g_relinked : SM :=
  (sSeq (sSet 2 0 (eBin mIx (eVarS 1) (eC (.int 0)))) t_relinked_1)
def m_relinked : List D → Option D := fnRun 13 g_relinked
def b_halve_1 : SM := (sIf (qVal (eBin mNotN (eBin mIx (eBin mIx (eVar 0) (eVar 1)) (eVar 1)) (eC .non))) (sSub2 0 0 (eVar 1) (eVar 1) (eBin mMul (eBin mDiv (eBin mIx (eBin mIx (eVar 0) (eVar 1)) (eVar 1)) (eC (.int 2))) (eC (.int 2)))) sNil)
def g_halve : SM :=
  (sFor (iB mRng1 (eCB mLen (aCons (eVar 0) aNil))) (gNm 1) b_halve_1)
def m_halve : List D → Option (D × List D) := fnRunIO 2 [some 2] g_halve
def b_has_none_1 : SM := (sSeq (sSet 2 0 (eBin mIx (eBin mIx (eVarS 0) (eVar 1)) (eVar 1)))
    (sSeq (sSet 3 0 (eBin mIx (eBin mIx (eVarS 0) (eCall m_flipped (aCons (eVar 1) aNil))) (eCall m_flipped (aCons (eVar 1) aNil))))
    (sIf (qAnd (qVal (eBin mNotN (eVar 2) (eC .non))) (qAnd (qVal (eBin mNotN (eVar 3) (eC .non))) (qVal (eBin mLt (eBin mAddI (eVar 2) (eVar 3)) (eC (.int 0)))))) (sRet (eC (.bl true))) sNil)))
def g_has_none : SM :=
  (sSeq (sFor (iB mRng1 (eCB mLen (aCons (eVar 0) aNil))) (gNm 1) b_has_none_1)
    (sRet (eC (.bl false))))
def m_has_none : List D → Option D := fnRun 4 g_has_none
def b_strengthen_1 : SM := (sSeq (sSet 3 0 (eCallO 0 m_added (aCons (eBin mIx (eBin mIx (eVar 0) (eVar 1)) (eVar 1)) (aCons (eBin mIx (eBin mIx (eVar 0) (eVar 2)) (eVar 2)) aNil))))
    (sIf (qVal (eBin mNotN (eVar 3) (eC .non))) (sSub2 0 0 (eVar 1) (eVar 2) (eCallO 0 m_lesser (aCons (eBin mIx (eBin mIx (eVar 0) (eVar 1)) (eVar 2)) (aCons (eBin mDiv (eVar 3) (eC (.int 2))) aNil)))) sNil))
def b_strengthen_2 : SM := (sFor (iB mRng1 (eCB mLen (aCons (eVar 0) aNil))) (gNm 2) b_strengthen_1)
def g_strengthen : SM :=
  (sFor (iB mRng1 (eCB mLen (aCons (eVar 0) aNil))) (gNm 1) b_strengthen_2)
def m_strengthen : List D → Option (D × List D) := fnRunIO 4 [some 2] g_strengthen
def t_held_9 : SM := (sRetV 2 4)
def t_held_8 : SM := (sSeq (sX (xCall [some (4, 2)] 0 m_strengthen (aIo 4 2 aNil))) t_held_9)
def t_held_7 : SM := (sSeq (sIf (qVal (eCall m_has_none (aCons (eVar 4) aNil))) (sRet (eC .non)) sNil) t_held_8)
def t_held_6 : SM := (sSeq (sX (xCall [some (4, 2)] 0 m_halve (aIo 4 2 aNil))) t_held_7)
def t_held_5 : SM := (sSeq (sSet 4 2 (eCallO 2 m_relinked (aCons (eVar 0) (aCons (eVar 1) aNil)))) t_held_6)
def t_held_4 : SM := (sSeq (sIf (qAnd (qVal (eBin mNotN (eVar 3) (eC .non))) (qVal (eBin mLt (eBin mAddI (eVar 3) (eBin mIx (eVar 1) (eC (.int 2)))) (eC (.int 0))))) (sRet (eC .non)) sNil) t_held_5)
def t_held_3 : SM := (sSeq (sSet 3 0 (eBin mIx (eBin mIx (eVarS 0) (eCall m_flipped (aCons (eBin mIx (eVar 1) (eC (.int 0))) aNil))) (eCall m_flipped (aCons (eBin mIx (eVar 1) (eC (.int 1))) aNil)))) t_held_4)
def t_held_2 : SM := (sSeq (sIf (qAnd (qVal (eBin mNotN (eVar 2) (eC .non))) (qVal (eBin mLe (eVar 2) (eBin mIx (eVar 1) (eC (.int 2)))))) (sRet (eCallO 2 m_copied (aCons (eVar 0) aNil))) sNil) t_held_3)
def t_held_1 : SM := (sSeq (sSet 2 0 (eBin mIx (eBin mIx (eVarS 0) (eBin mIx (eVar 1) (eC (.int 0)))) (eBin mIx (eVar 1) (eC (.int 1))))) t_held_2)
def g_held : SM :=
  (sSeq (sIf (qVal (eBin mIsN (eVar 0) (eC .non))) (sRet (eC .non)) sNil) t_held_1)
def m_held : List D → Option D := fnRun 5 g_held
def b_closed_1 : SM := (sSet 2 2 (eCallO 2 m_held (aCons (eVar 2) (aCons (eVar 3) aNil))))
def g_closed : SM :=
  (sSeq (sSet 2 2 (eCallO 2 m_wide (aCons (eVar 0) aNil)))
    (sSeq (sFor (iB itsS (eVarS 1)) (gNm 3) b_closed_1)
    (sRetV 2 2)))
def m_closed : List D → Option D := fnRun 4 g_closed
def g_halved_entry : SM :=
  (sSeq (sIf (qVal (eBin mIsN (eVar 0) (eC .non))) (sRet (eC .non)) sNil)
    (sRet (eBin mDiv (eVar 0) (eC (.int 2)))))
def m_halved_entry : List D → Option D := fnRun 1 g_halved_entry
def b_top_beside_1 : SM := (sSet 4 0 (eCallO 0 m_lesser (aCons (eVar 4) (aCons (eCall m_added (aCons (eBin mIx (eBin mIx (eVar 0) (eVar 1)) (eVar 6)) (aCons (eNeg (eCall m_worth (aCons (eVar 2) (aCons (eVar 6) aNil)))) aNil))) aNil))))
def b_top_beside_2 : SM := (sFor (iB itsS (eTup (aCons (eBin mMul (eC (.int 2)) (eVar 5)) (aCons (eBin mAddI (eBin mMul (eC (.int 2)) (eVar 5)) (eC (.int 1))) aNil)))) (gNm 6) b_top_beside_1)
def g_top_beside : SM :=
  (sSeq (sSet 4 0 (eCallO 0 m_halved_entry (aCons (eBin mIx (eBin mIx (eVar 0) (eVar 1)) (eVar 1)) aNil)))
    (sSeq (sFor (iB itsS (eVarS 3)) (gNm 5) b_top_beside_2)
    (sRet (eVarS 4))))
def m_top_beside : List D → Option D := fnRun 7 g_top_beside
def b_some_point_1 : SM := (sSeq (sSet 3 0 (eCallO 0 m_top_beside (aCons (eVar 0) (aCons (eBin mMul (eC (.int 2)) (eVar 2)) (aCons (eVar 1) (aCons (eB mLRng1 (eVar 2)) aNil))))))
    (sSeq (sSet 4 0 (eCallO 0 m_top_beside (aCons (eVar 0) (aCons (eBin mAddI (eBin mMul (eC (.int 2)) (eVar 2)) (eC (.int 1))) (aCons (eVar 1) (aCons (eB mLRng1 (eVar 2)) aNil))))))
    (sSeq (sSet 5 0 (eC (.int 0)))
    (sSeq (sIf (qAnd (qVal (eBin mNotN (eVar 3) (eC .non))) (qVal (eBin mLt (eVar 3) (eC (.int 0))))) (sSet 5 0 (eVarS 3)) sNil)
    (sSeq (sIf (qAnd (qVal (eBin mNotN (eVar 4) (eC .non))) (qVal (eBin mLt (eVar 4) (eC (.int 0))))) (sSet 5 0 (eNeg (eVar 4))) sNil)
    (sApp 1 0 (eVarS 5)))))))
def g_some_point : SM :=
  (sSeq (sIf (qVal (eBin mIsN (eVar 0) (eC .non))) (sRet (eC .non)) sNil)
    (sSeq (sSet 1 1 (eLst aNil))
    (sSeq (sFor (iB mRng1 (eBin mDiv (eCB mLen (aCons (eVar 0) aNil)) (eC (.int 2)))) (gNm 2) b_some_point_1)
    (sRet (eFl (eB mTuple (eVar 1)))))))
def m_some_point : List D → Option D := fnRun 6 g_some_point
def t_greatest_of_three_5 : SM := (sRet (eVarS 4))
def t_greatest_of_three_4 : SM := (sSeq (sIf (qVal (eBin mNotN (eVar 5) (eC .non))) (sSet 4 0 (eCallO 0 m_lesser (aCons (eVar 4) (aCons (eBin mDiv (eVar 5) (eC (.int 2))) aNil)))) sNil) t_greatest_of_three_5)
def t_greatest_of_three_3 : SM := (sSeq (sSet 5 0 (eCallO 0 m_added (aCons (eBin mIx (eBin mIx (eVar 0) (eVar 1)) (eVar 2)) (aCons (eCall m_added (aCons (eBin mIx (eBin mIx (eVar 0) (eVar 2)) (eVar 3)) (aCons (eBin mIx (eBin mIx (eVar 0) (eVar 1)) (eVar 3)) aNil))) aNil)))) t_greatest_of_three_4)
def t_greatest_of_three_2 : SM := (sSeq (sSet 4 0 (eCallO 0 m_lesser (aCons (eVar 4) (aCons (eCall m_added (aCons (eBin mIx (eBin mIx (eVar 0) (eVar 2)) (eVar 3)) (aCons (eCall m_halved_entry (aCons (eBin mIx (eBin mIx (eVar 0) (eVar 1)) (eVar 1)) aNil)) aNil))) aNil)))) t_greatest_of_three_3)
def t_greatest_of_three_1 : SM := (sSeq (sSet 4 0 (eCallO 0 m_lesser (aCons (eVar 4) (aCons (eCall m_added (aCons (eBin mIx (eBin mIx (eVar 0) (eVar 1)) (eVar 3)) (aCons (eCall m_halved_entry (aCons (eBin mIx (eBin mIx (eVar 0) (eVar 2)) (eVar 2)) aNil)) aNil))) aNil)))) t_greatest_of_three_2)
def g_greatest_of_three : SM :=
  (sSeq (sSet 4 0 (eCallO 0 m_added (aCons (eBin mIx (eBin mIx (eVar 0) (eVar 1)) (eVar 2)) (aCons (eCall m_halved_entry (aCons (eBin mIx (eBin mIx (eVar 0) (eVar 3)) (eVar 3)) aNil)) aNil)))) t_greatest_of_three_1)
def m_greatest_of_three : List D → Option D := fnRun 6 g_greatest_of_three
def g_greatest : SM :=
  (sSeq (sIf (qVal (eBin mEq (eCB mLen (aCons (eVar 1) aNil)) (eC (.int 0)))) (sRet (eC (.int 0))) sNil)
    (sSeq (sIf (qVal (eBin mEq (eCB mLen (aCons (eVar 1) aNil)) (eC (.int 1)))) (sRet (eCallO 0 m_halved_entry (aCons (eBin mIx (eBin mIx (eVar 0) (eBin mIx (eVar 1) (eC (.int 0)))) (eBin mIx (eVar 1) (eC (.int 0)))) aNil))) sNil)
    (sSeq (sIf (qVal (eBin mEq (eCB mLen (aCons (eVar 1) aNil)) (eC (.int 2)))) (sRet (eBin mIx (eBin mIx (eVarS 0) (eBin mIx (eVar 1) (eC (.int 0)))) (eBin mIx (eVar 1) (eC (.int 1))))) sNil)
    (sRet (eCallO 0 m_greatest_of_three (aCons (eVar 0) (aCons (eBin mIx (eVar 1) (eC (.int 0))) (aCons (eBin mIx (eVar 1) (eC (.int 1))) (aCons (eBin mIx (eVar 1) (eC (.int 2))) aNil)))))))))
def m_greatest : List D → Option D := fnRun 2 g_greatest
def b_least_for_1 : SM := (sSeq (sIf (qVal (eBin mIsN (eVar 4) (eC .non))) (sRet (eC .non)) sNil)
    (sAug mAddI 3 (eVar 4)))
def g_least_for : SM :=
  (sSeq (sSet 3 0 (eC (.int 0)))
    (sSeq (sFor (iB itsS (eVarS 1)) (gNm 4) b_least_for_1)
    (sRet (eNeg (eBin mDiv (eBin mSub (eVar 3) (eVar 2)) (eVar 0))))))
def m_least_for : List D → Option D := fnRun 5 g_least_for
def c_pinned_1 : EM := (eLc [9] (iB itsS (eVarS 8)) (gNm 9) (qVal (eBin mNotN (eVar 9) (eC .non))) (eVarS 9))
def t_pinned_9 : SM := (sRet (eCB (mMaxD 0) (aCons (eThaw 8 1 c_pinned_1) aNil)))
def t_pinned_8 : SM := (sSeq (sApp 8 0 (eCallO 0 m_least_for (aCons (eC (.int 3)) (aCons (eLst (aCons (eBin mIx (eBin mIx (eVar 0) (eVar 1)) (eVar 5)) (aCons (eBin mIx (eBin mIx (eVar 0) (eVar 2)) (eVar 5)) aNil))) (aCons (eVar 4) aNil))))) t_pinned_9)
def t_pinned_7 : SM := (sSeq (sApp 8 0 (eCallO 0 m_least_for (aCons (eC (.int 2)) (aCons (eLst (aCons (eCall m_halved_entry (aCons (eBin mIx (eBin mIx (eVar 0) (eVar 2)) (eVar 2)) aNil)) (aCons (eBin mIx (eBin mIx (eVar 0) (eVar 1)) (eVar 5)) aNil))) (aCons (eVar 4) aNil))))) t_pinned_8)
def t_pinned_6 : SM := (sSeq (sApp 8 0 (eCallO 0 m_least_for (aCons (eC (.int 2)) (aCons (eLst (aCons (eCall m_halved_entry (aCons (eBin mIx (eBin mIx (eVar 0) (eVar 1)) (eVar 1)) aNil)) (aCons (eBin mIx (eBin mIx (eVar 0) (eVar 2)) (eVar 5)) aNil))) (aCons (eVar 4) aNil))))) t_pinned_7)
def t_pinned_5 : SM := (sSeq (sSet 8 1 (eLst (aCons (eCallO 0 m_least_for (aCons (eC (.int 1)) (aCons (eLst (aCons (eCall m_halved_entry (aCons (eBin mIx (eBin mIx (eVar 0) (eVar 5)) (eVar 5)) aNil)) aNil)) (aCons (eC (.int 0)) aNil)))) (aCons (eCallO 0 m_least_for (aCons (eC (.int 1)) (aCons (eLst (aCons (eBin mIx (eBin mIx (eVar 0) (eVar 1)) (eVar 2)) aNil)) (aCons (eVar 4) aNil)))) aNil)))) t_pinned_6)
def t_pinned_4 : SM := (sSeq (sIf (qVal (eBin mNotN (eVar 6) (eC .non))) (sRet (eVarS 6)) sNil) t_pinned_5)
def t_pinned_3 : SM := (sSeq (sIf (qVal (eBin mNotN (eVar 7) (eC .non))) (sSet 6 0 (eCallO 0 m_lesser (aCons (eVar 6) (aCons (eBin mSub (eVar 7) (eVar 4)) aNil)))) sNil) t_pinned_4)
def t_pinned_2 : SM := (sSeq (sSet 7 0 (eCallO 0 m_added (aCons (eBin mIx (eBin mIx (eVar 0) (eVar 1)) (eVar 3)) (aCons (eBin mIx (eBin mIx (eVar 0) (eVar 2)) (eVar 3)) aNil)))) t_pinned_3)
def t_pinned_1 : SM := (sSeq (sSet 6 0 (eCallO 0 m_halved_entry (aCons (eBin mIx (eBin mIx (eVar 0) (eVar 3)) (eVar 3)) aNil))) t_pinned_2)
def g_pinned : SM :=
  (sSeq (sSet 5 0 (eCallO 0 m_flipped (aCons (eVar 3) aNil))) t_pinned_1)
def m_pinned : List D → Option D := fnRun 10 g_pinned
def t_reaching_three_5 (self : List D → Option D) : SM := (sRet (eCallO 2 m_held (aCons (eVar 6) (aCons (eTup (aCons (eCall m_flipped (aCons (eVar 1) aNil)) (aCons (eCall m_flipped (aCons (eVar 2) aNil)) (aCons (eBin mSub (eVar 5) (eVar 4)) aNil)))) aNil))))
def t_reaching_three_4 (self : List D → Option D) : SM := (sSeq (sSet 6 0 (eCallO 2 m_held (aCons (eCall m_held (aCons (eVar 0) (aCons (eTup (aCons (eVar 3) (aCons (eVar 3) (aCons (eBin mMul (eC (.int 2)) (eVar 5)) aNil)))) aNil))) (aCons (eTup (aCons (eCall m_flipped (aCons (eVar 3) aNil)) (aCons (eCall m_flipped (aCons (eVar 3) aNil)) (aCons (eBin mMul (eNeg (eC (.int 2))) (eVar 5)) aNil)))) aNil)))) (t_reaching_three_5 self))
def t_reaching_three_3 (self : List D → Option D) : SM := (sSeq (sSet 5 0 (eCallO 0 m_pinned (aCons (eVar 0) (aCons (eVar 1) (aCons (eVar 2) (aCons (eVar 3) (aCons (eVar 4) aNil))))))) (t_reaching_three_4 self))
def t_reaching_three_2 (self : List D → Option D) : SM := (sSeq (sIf (qVal (eBin mEq (eVar 2) (eVar 3))) (sRet (eCallO 2 self (aCons (eVar 0) (aCons (eVar 2) (aCons (eVar 3) (aCons (eVar 1) (aCons (eVar 4) aNil))))))) sNil) (t_reaching_three_3 self))
def t_reaching_three_1 (self : List D → Option D) : SM := (sSeq (sIf (qVal (eBin mEq (eVar 1) (eVar 3))) (sRet (eCallO 2 self (aCons (eVar 0) (aCons (eVar 1) (aCons (eVar 3) (aCons (eVar 2) (aCons (eVar 4) aNil))))))) sNil) (t_reaching_three_2 self))
def g_reaching_three (self : List D → Option D) : SM :=
  (sSeq (sIf (qAnd (qVal (eBin mEq (eVar 1) (eVar 2))) (qVal (eBin mEq (eVar 2) (eVar 3)))) (sRet (eCallO 2 m_held (aCons (eVar 0) (aCons (eTup (aCons (eCall m_flipped (aCons (eVar 1) aNil)) (aCons (eCall m_flipped (aCons (eVar 1) aNil)) (aCons (eBin mMul (eC (.int 2)) (eBin mDiv (eNeg (eVar 4)) (eC (.int 3)))) aNil)))) aNil)))) sNil) (t_reaching_three_1 self))
def r_reaching_three : Nat → List D → Option D
  | 0 => fun _ => none
  | k + 1 => fnRun 7 (g_reaching_three (r_reaching_three k))
def m_reaching_three : List D → Option D := r_reaching_three 2

def t_reaching_6 : SM := (sRet (eCallO 0 m_some_point (aCons (eCall m_reaching_three (aCons (eVar 0) (aCons (eBin mIx (eVar 1) (eC (.int 0))) (aCons (eBin mIx (eVar 1) (eC (.int 1))) (aCons (eBin mIx (eVar 1) (eC (.int 2))) (aCons (eVar 2) aNil)))))) aNil)))
def t_reaching_5 : SM := (sSeq (sIf (qVal (eBin mEq (eCB mLen (aCons (eVar 1) aNil)) (eC (.int 2)))) (sRet (eCallO 0 m_some_point (aCons (eCall m_held (aCons (eVar 0) (aCons (eTup (aCons (eCall m_flipped (aCons (eBin mIx (eVar 1) (eC (.int 0))) aNil)) (aCons (eCall m_flipped (aCons (eBin mIx (eVar 1) (eC (.int 1))) aNil)) (aCons (eNeg (eVar 2)) aNil)))) aNil))) aNil))) sNil) t_reaching_6)
def t_reaching_4 : SM := (sSeq (sIf (qVal (eBin mEq (eCB mLen (aCons (eVar 1) aNil)) (eC (.int 1)))) (sRet (eCallO 0 m_some_point (aCons (eCall m_held (aCons (eVar 0) (aCons (eTup (aCons (eCall m_flipped (aCons (eBin mIx (eVar 1) (eC (.int 0))) aNil)) (aCons (eCall m_flipped (aCons (eBin mIx (eVar 1) (eC (.int 0))) aNil)) (aCons (eBin mMul (eNeg (eC (.int 2))) (eVar 2)) aNil)))) aNil))) aNil))) sNil) t_reaching_5)
def t_reaching_3 : SM := (sSeq (sIf (qVal (eBin mEq (eCB mLen (aCons (eVar 1) aNil)) (eC (.int 0)))) (sRet (eCallO 0 m_some_point (aCons (eVar 0) aNil))) sNil) t_reaching_4)
def t_reaching_2 : SM := (sSeq (sIf (qAnd (qVal (eBin mNotN (eVar 3) (eC .non))) (qVal (eBin mLt (eVar 3) (eVar 2)))) (sRet (eC .non)) sNil) t_reaching_3)
def t_reaching_1 : SM := (sSeq (sSet 3 0 (eCallO 0 m_greatest (aCons (eVar 0) (aCons (eVar 1) aNil)))) t_reaching_2)
def g_reaching : SM :=
  (sSeq (sIf (qVal (eBin mIsN (eVar 0) (eC .non))) (sRet (eC .non)) sNil) t_reaching_1)
def m_reaching : List D → Option D := fnRun 4 g_reaching
def b_joined_line_1 : SM := (sIf (qOr (qVal (eBin mIsN (eVar 3) (eC .non))) (qVal (eBin mIsN (eVar 4) (eC .non)))) (sApp 2 0 (eC .non)) (sApp 2 0 (eCB mMax2 (aCons (eVar 3) (aCons (eVar 4) aNil)))))
def g_joined_line : SM :=
  (sSeq (sSet 2 1 (eLst aNil))
    (sSeq (sFor (iBin mZip (eVarS 0) (eVarS 1)) (gTp 2 (gsCons (gNm 3) (gsCons (gNm 4) gsNil))) b_joined_line_1)
    (sRetV 1 2)))
def m_joined_line : List D → Option D := fnRun 5 g_joined_line
def c_join_1 : EM := (eLc [2, 3] (iBin mZip (eVarS 0) (eVarS 1)) (gTp 2 (gsCons (gNm 2) (gsCons (gNm 3) gsNil))) qYes (eCallO 1 m_joined_line (aCons (eVar 2) (aCons (eVar 3) aNil))))
def g_join : SM :=
  (sSeq (sIf (qAnd (qVal (eBin mIsN (eVar 0) (eC .non))) (qVal (eBin mIsN (eVar 1) (eC .non)))) (sRet (eC .non)) sNil)
    (sSeq (sIf (qVal (eBin mIsN (eVar 0) (eC .non))) (sRet (eCallO 2 m_copied (aCons (eVar 1) aNil))) sNil)
    (sSeq (sIf (qVal (eBin mIsN (eVar 1) (eC .non))) (sRet (eCallO 2 m_copied (aCons (eVar 0) aNil))) sNil)
    (sRet c_join_1))))
def m_join : List D → Option D := fnRun 4 g_join
def g_turned : SM :=
  (sSeq (sSet 1 0 (eBin mIx (eVarS 0) (eC (.int 2))))
    (sSeq (sIf (qVal (eBin mEq (eVar 1) (eC (.str "most")))) (sRet (eTup (aCons (eBin mIx (eVarS 0) (eC (.int 0))) (aCons (eBin mIx (eVarS 0) (eC (.int 1))) (aCons (eC (.str "least")) (aCons (eBin mAddI (eBin mIx (eVar 0) (eC (.int 3))) (eC (.int 1))) aNil)))))) sNil)
    (sSeq (sIf (qVal (eBin mEq (eVar 1) (eC (.str "least")))) (sRet (eTup (aCons (eBin mIx (eVarS 0) (eC (.int 0))) (aCons (eBin mIx (eVarS 0) (eC (.int 1))) (aCons (eC (.str "most")) (aCons (eBin mSub (eBin mIx (eVar 0) (eC (.int 3))) (eC (.int 1))) aNil)))))) sNil)
    (sSeq (sIf (qVal (eBin mEq (eVar 1) (eC (.str "same")))) (sRet (eTup (aCons (eBin mIx (eVarS 0) (eC (.int 0))) (aCons (eBin mIx (eVarS 0) (eC (.int 1))) (aCons (eC (.str "unlike")) (aCons (eBin mIx (eVarS 0) (eC (.int 3))) aNil)))))) sNil)
    (sRet (eTup (aCons (eBin mIx (eVarS 0) (eC (.int 0))) (aCons (eBin mIx (eVarS 0) (eC (.int 1))) (aCons (eC (.str "same")) (aCons (eBin mIx (eVarS 0) (eC (.int 3))) aNil))))))))))
def m_turned : List D → Option D := fnRun 2 g_turned
def g_below : SM :=
  (sSeq (sIf (qVal (eBin mIsN (eVar 1) (eC .non))) (sRet (eTup (aCons (eVarS 0) (aCons (eVarS 0) (aCons (eBin mMul (eC (.int 2)) (eVar 2)) aNil))))) sNil)
    (sRet (eTup (aCons (eVarS 0) (aCons (eVarS 1) (aCons (eVarS 2) aNil))))))
def m_below : List D → Option D := fnRun 3 g_below
def g_above : SM :=
  (sSeq (sIf (qVal (eBin mIsN (eVar 1) (eC .non))) (sRet (eTup (aCons (eCallO 0 m_flipped (aCons (eVar 0) aNil)) (aCons (eCallO 0 m_flipped (aCons (eVar 0) aNil)) (aCons (eBin mMul (eNeg (eC (.int 2))) (eVar 2)) aNil))))) sNil)
    (sRet (eTup (aCons (eCallO 0 m_flipped (aCons (eVar 0) aNil)) (aCons (eCallO 0 m_flipped (aCons (eVar 1) aNil)) (aCons (eNeg (eVar 2)) aNil))))))
def m_above : List D → Option D := fnRun 3 g_above
def t_cases_7 : SM := (sRet (eLst (aCons (eLst (aCons (eCallO 0 m_below (aCons (eVar 1) (aCons (eVar 2) (aCons (eBin mSub (eVar 4) (eC (.int 1))) aNil)))) aNil)) (aCons (eLst (aCons (eCallO 0 m_above (aCons (eVar 1) (aCons (eVar 2) (aCons (eBin mAddI (eVar 4) (eC (.int 1))) aNil)))) aNil)) aNil))))
def t_cases_6 : SM := (sSeq (sIf (qVal (eBin mEq (eVar 3) (eC (.str "same")))) (sRet (eLst (aCons (eLst (aCons (eCallO 0 m_below (aCons (eVar 1) (aCons (eVar 2) (aCons (eVar 4) aNil)))) (aCons (eCallO 0 m_above (aCons (eVar 1) (aCons (eVar 2) (aCons (eVar 4) aNil)))) aNil))) aNil))) sNil) t_cases_7)
def t_cases_5 : SM := (sSeq (sIf (qVal (eBin mEq (eVar 3) (eC (.str "least")))) (sRet (eLst (aCons (eLst (aCons (eCallO 0 m_above (aCons (eVar 1) (aCons (eVar 2) (aCons (eVar 4) aNil)))) aNil)) aNil))) sNil) t_cases_6)
def t_cases_4 : SM := (sSeq (sIf (qVal (eBin mEq (eVar 3) (eC (.str "most")))) (sRet (eLst (aCons (eLst (aCons (eCallO 0 m_below (aCons (eVar 1) (aCons (eVar 2) (aCons (eVar 4) aNil)))) aNil)) aNil))) sNil) t_cases_5)
def t_cases_3 : SM := (sSeq (sSet 4 0 (eBin mIx (eVarS 0) (eC (.int 3)))) t_cases_4)
def t_cases_2 : SM := (sSeq (sSet 3 0 (eBin mIx (eVarS 0) (eC (.int 2)))) t_cases_3)
def t_cases_1 : SM := (sSeq (sSet 2 0 (eBin mIx (eVarS 0) (eC (.int 1)))) t_cases_2)
def g_cases : SM :=
  (sSeq (sSet 1 0 (eBin mIx (eVarS 0) (eC (.int 0)))) t_cases_1)
def m_cases : List D → Option D := fnRun 5 g_cases
def g_law_cell : SM :=
  (sSeq (sIf (qVal (eBin mLt (eVar 1) (eCB mLen (aCons (eVar 0) aNil)))) (sRet (eBin mIx (eVarS 0) (eVar 1))) sNil)
    (sSeq (sSet 2 0 (eBin mMul (eVar 1) (eC (.int 7919))))
    (sSeq (sIf (qVal (eBin mGt (eCB mLen (aCons (eVar 0) aNil)) (eC (.int 0)))) (sSet 2 0 (eBin mAddI (eVar 2) (eBin mMod (eBin mIx (eVar 0) (eBin mMod (eVar 1) (eCB mLen (aCons (eVar 0) aNil)))) (eC (.int 65537))))) sNil)
    (sSeq (sSet 3 0 (eBin mMod (eBin mMul (eVar 2) (eC (.int 48271))) (eC (.int 65537))))
    (sRet (eBin mMod (eBin mDiv (eBin mMul (eVar 3) (eBin mAddI (eBin mAddI (eVar 3) (eBin mMul (eC (.int 2)) (eVar 1))) (eC (.int 1)))) (eC (.int 7))) (eC (.int 65521))))))))
def m_law_cell : List D → Option D := fnRun 4 g_law_cell
def g_law_whole : SM :=
  (sRet (eAnd (eIsi "int" (eVar 0)) (eNot (eIsi "bool" (eVar 0)))))
def m_law_whole : List D → Option D := fnRun 1 g_law_whole
def g_law_worth : SM :=
  (sRet (eBin mMul (eBin mIx (eVar 0) (eBin mDiv (eVar 1) (eC (.int 2)))) (eBin mSub (eC (.int 1)) (eBin mMul (eBin mMod (eVar 1) (eC (.int 2))) (eC (.int 2))))))
def m_law_worth : List D → Option D := fnRun 2 g_law_worth
def b_law_sum_1 : SM := (sSet 2 0 (eBin mAddI (eVar 2) (eCall m_law_worth (aCons (eVar 0) (aCons (eVar 3) aNil)))))
def g_law_sum : SM :=
  (sSeq (sSet 2 0 (eC (.int 0)))
    (sSeq (sFor (iB itsS (eVarS 1)) (gNm 3) b_law_sum_1)
    (sRet (eVarS 2))))
def m_law_sum : List D → Option D := fnRun 4 g_law_sum
def b_law_keeps_1 : SM := (sIf (qVal (eBin mGt (eBin mAddI (eCall m_law_worth (aCons (eVar 0) (aCons (eBin mIx (eVar 2) (eC (.int 0))) aNil))) (eCall m_law_worth (aCons (eVar 0) (aCons (eBin mIx (eVar 2) (eC (.int 1))) aNil)))) (eBin mIx (eVar 2) (eC (.int 2))))) (sRet (eC (.bl false))) sNil)
def g_law_keeps : SM :=
  (sSeq (sFor (iB itsS (eVarS 1)) (gNm 2) b_law_keeps_1)
    (sRet (eC (.bl true))))
def m_law_keeps : List D → Option D := fnRun 3 g_law_keeps
def b_law_point_like_1 : SM := (sIf (qNot (qVal (eCall m_law_whole (aCons (eVar 2) aNil)))) (sRet (eC (.bl false))) sNil)
def g_law_point_like : SM :=
  (sSeq (sIf (qOr (qNot (qVal (eIsi "tuple" (eVar 0)))) (qVal (eBin mNe (eCB mLen (aCons (eVar 0) aNil)) (eVar 1)))) (sRet (eC (.bl false))) sNil)
    (sSeq (sFor (iB itsS (eVarS 0)) (gNm 2) b_law_point_like_1)
    (sRet (eC (.bl true)))))
def m_law_point_like : List D → Option D := fnRun 3 g_law_point_like
def c_law_copy_1 : EM := (eLc [1] (iB itsS (eVarS 0)) (gNm 1) qYes (eB mListF (eVar 1)))
def g_law_copy : SM :=
  (sSeq (sIf (qVal (eBin mIsN (eVar 0) (eC .non))) (sRet (eC .non)) sNil)
    (sRet c_law_copy_1))
def m_law_copy : List D → Option D := fnRun 2 g_law_copy
def b_law_lies_1 : SM := (sSeq (sSet 4 0 (eBin mIx (eBin mIx (eVarS 0) (eVar 2)) (eVar 3)))
    (sIf (qAnd (qVal (eBin mNotN (eVar 4) (eC .non))) (qVal (eBin mGt (eBin mAddI (eCall m_law_worth (aCons (eVar 1) (aCons (eVar 2) aNil))) (eCall m_law_worth (aCons (eVar 1) (aCons (eVar 3) aNil)))) (eVar 4)))) (sRet (eC (.bl false))) sNil))
def b_law_lies_2 : SM := (sFor (iB mRng1 (eCB mLen (aCons (eVar 0) aNil))) (gNm 3) b_law_lies_1)
def g_law_lies : SM :=
  (sSeq (sFor (iB mRng1 (eCB mLen (aCons (eVar 0) aNil))) (gNm 2) b_law_lies_2)
    (sRet (eC (.bl true))))
def m_law_lies : List D → Option D := fnRun 5 g_law_lies
def g_law_holds : SM :=
  (sSeq (sSet 2 0 (eCallO 0 m_law_worth (aCons (eVar 0) (aCons (eBin mIx (eVar 1) (eC (.int 0))) aNil))))
    (sSeq (sIf (qVal (eBin mNotN (eBin mIx (eVar 1) (eC (.int 1))) (eC .non))) (sSet 2 0 (eBin mAddI (eVar 2) (eCall m_law_worth (aCons (eVar 0) (aCons (eBin mIx (eVar 1) (eC (.int 1))) aNil))))) sNil)
    (sSeq (sIf (qVal (eBin mEq (eBin mIx (eVar 1) (eC (.int 2))) (eC (.str "most")))) (sRet (eBin mLe (eVar 2) (eBin mIx (eVar 1) (eC (.int 3))))) sNil)
    (sSeq (sIf (qVal (eBin mEq (eBin mIx (eVar 1) (eC (.int 2))) (eC (.str "least")))) (sRet (eBin mGe (eVar 2) (eBin mIx (eVar 1) (eC (.int 3))))) sNil)
    (sRet (eBin mEq (eBin mEq (eVar 2) (eBin mIx (eVar 1) (eC (.int 3)))) (eBin mEq (eBin mIx (eVar 1) (eC (.int 2))) (eC (.str "same")))))))))
def m_law_holds : List D → Option D := fnRun 3 g_law_holds
def g_law_number : SM :=
  (sSeq (sIf (qVal (eBin mEq (eBin mMod (eVar 0) (eC (.int 3))) (eC (.int 1)))) (sRet (eBin mMul (eBin mMod (eBin mDiv (eVar 0) (eC (.int 6))) (eBin mPow (eC (.int 10)) (eC (.int 30)))) (eBin mSub (eC (.int 1)) (eBin mMul (eBin mMod (eBin mDiv (eVar 0) (eC (.int 3))) (eC (.int 2))) (eC (.int 2)))))) sNil)
    (sRet (eBin mSub (eBin mMod (eBin mDiv (eVar 0) (eC (.int 3))) (eC (.int 21))) (eC (.int 10)))))
def m_law_number : List D → Option D := fnRun 1 g_law_number
def b_law_box_1 : SM := (sSeq (sSet 4 0 (eCallO 0 m_law_cell (aCons (eVar 0) (aCons (eBin mAddI (eC (.int 4)) (eVar 3)) aNil))))
    (sSeq (sSet 5 0 (eCallO 0 m_law_number (aCons (eCall m_law_cell (aCons (eVar 0) (aCons (eBin mAddI (eC (.int 1)) (eVar 3)) aNil))) aNil)))
    (sSeq (sIf (qVal (eBin mGt (eBin mMod (eVar 4) (eC (.int 8))) (eC (.int 0)))) (sApp 2 0 (eTup (aCons (eBin mAddI (eBin mMul (eC (.int 2)) (eVar 3)) (eC (.int 1))) (aCons (eBin mAddI (eBin mMul (eC (.int 2)) (eVar 3)) (eC (.int 1))) (aCons (eBin mMul (eNeg (eC (.int 2))) (eVar 5)) aNil))))) sNil)
    (sIf (qVal (eBin mGt (eBin mMod (eVar 4) (eC (.int 8))) (eC (.int 1)))) (sApp 2 0 (eTup (aCons (eBin mMul (eC (.int 2)) (eVar 3)) (aCons (eBin mMul (eC (.int 2)) (eVar 3)) (aCons (eBin mAddI (eBin mMul (eC (.int 2)) (eVar 5)) (eBin mMul (eC (.int 2)) (eBin mMod (eBin mDiv (eVar 4) (eC (.int 8))) (eC (.int 7))))) aNil))))) sNil))))
def g_law_box : SM :=
  (sSeq (sSet 2 1 (eLst aNil))
    (sSeq (sFor (iB mRng1 (eVar 1)) (gNm 3) b_law_box_1)
    (sRetV 1 2)))
def m_law_box : List D → Option D := fnRun 6 g_law_box
def c_law_more_1 : EM := (eLc [8] (iB mRng1 (eC (.int 3))) (gNm 8) qYes (eCallO 0 m_law_cell (aCons (eVar 0) (aCons (eBin mAddI (eC (.int 9)) (eVar 8)) aNil))))
def b_law_more_1 : SM := (sSeq (sSet 6 0 (eBin mMod (eVar 5) (eBin mMul (eC (.int 2)) (eVar 2))))
    (sSeq (sSet 7 0 (eBin mMod (eBin mDiv (eVar 5) (eC (.int 7))) (eBin mMul (eC (.int 2)) (eVar 2))))
    (sApp 4 0 (eTup (aCons (eVarS 6) (aCons (eVarS 7) (aCons (eBin mAddI (eCall m_law_sum (aCons (eVar 1) (aCons (eLst (aCons (eVar 6) (aCons (eVar 7) aNil))) aNil))) (eBin mMod (eBin mDiv (eVar 5) (eC (.int 43))) (eC (.int 9)))) aNil)))))))
def t_law_more_5 : SM := (sRetV 1 4)
def t_law_more_4 : SM := (sSeq (sFor (iB itsS (eVarS 3)) (gNm 5) b_law_more_1) t_law_more_5)
def t_law_more_3 : SM := (sSeq (sSet 4 1 (eLst aNil)) t_law_more_4)
def t_law_more_2 : SM := (sSeq (sIf (qVal (eBin mLt (eCB mLen (aCons (eVar 3) aNil)) (eC (.int 3)))) (sSet 3 0 c_law_more_1) sNil) t_law_more_3)
def t_law_more_1 : SM := (sSeq (sSet 3 0 (eSl mSlF (eVar 0) (oSome (eC (.int 9))) (oSome (eC (.int 17))))) t_law_more_2)
def g_law_more : SM :=
  (sSeq (sSet 2 0 (eCB mLen (aCons (eVar 1) aNil))) t_law_more_1)
def m_law_more : List D → Option D := fnRun 9 g_law_more
def c_law_points_1 : EM := (eLc [5] (iB mRng1 (eCB mLen (aCons (eVar 1) aNil))) (gNm 5) qYes (eBin mAddI (eBin mIx (eVar 1) (eVar 5)) (eBin mMod (eBin mDiv (eVar 4) (eBin mAddI (eBin mMul (eC (.int 49)) (eVar 5)) (eC (.int 1)))) (eC (.int 7)))))
def b_law_points_1 : SM := (sSeq (sSet 4 0 (eCallO 0 m_law_cell (aCons (eVar 0) (aCons (eBin mAddI (eC (.int 17)) (eVar 3)) aNil))))
    (sApp 2 0 (eFl (eB mTuple c_law_points_1))))
def g_law_points : SM :=
  (sSeq (sSet 2 1 (eLst (aCons (eVarS 1) aNil)))
    (sSeq (sFor (iB mRng1 (eC (.int 7))) (gNm 3) b_law_points_1)
    (sRetV 1 2)))
def m_law_points : List D → Option D := fnRun 6 g_law_points
def t_law_question_5 : SM := (sRet (eTup (aCons (eVarS 3) (aCons (eVarS 4) (aCons (eFl (eBin mIx (eLst (aCons (eC (.str "most")) (aCons (eC (.str "least")) (aCons (eC (.str "same")) (aCons (eC (.str "unlike")) aNil))))) (eBin mMod (eCall m_law_cell (aCons (eVar 0) (aCons (eC (.int 8)) aNil))) (eC (.int 4))))) (aCons (eVarS 5) aNil))))))
def t_law_question_4 : SM := (sSeq (sIf (qVal (eBin mEq (eBin mMod (eBin mDiv (eVar 2) (eC (.int 36))) (eC (.int 3))) (eC (.int 0)))) (sSeq (sSet 5 0 (eBin mSub (eVar 5) (eCall m_law_worth (aCons (eVar 1) (aCons (eVar 4) aNil)))))
    (sSet 4 0 (eC .non))) sNil) t_law_question_5)
def t_law_question_3 : SM := (sSeq (sSet 5 0 (eBin mSub (eBin mAddI (eCall m_law_sum (aCons (eVar 1) (aCons (eLst (aCons (eVar 3) (aCons (eVar 4) aNil))) aNil))) (eBin mMod (eBin mDiv (eCall m_law_cell (aCons (eVar 0) (aCons (eC (.int 8)) aNil))) (eC (.int 4))) (eC (.int 13)))) (eC (.int 3)))) t_law_question_4)
def t_law_question_2 : SM := (sSeq (sSet 4 0 (eBin mMod (eBin mDiv (eVar 2) (eC (.int 6))) (eBin mMul (eC (.int 2)) (eCB mLen (aCons (eVar 1) aNil))))) t_law_question_3)
def t_law_question_1 : SM := (sSeq (sSet 3 0 (eBin mMod (eVar 2) (eBin mMul (eC (.int 2)) (eCB mLen (aCons (eVar 1) aNil))))) t_law_question_2)
def g_law_question : SM :=
  (sSeq (sSet 2 0 (eCallO 0 m_law_cell (aCons (eVar 0) (aCons (eC (.int 7)) aNil)))) t_law_question_1)
def m_law_question : List D → Option D := fnRun 6 g_law_question
def b_law_no_larger_1 : SM := (sIf (qAnd (qVal (eBin mNotN (eVar 5) (eC .non))) (qOr (qVal (eBin mIsN (eVar 4) (eC .non))) (qVal (eBin mGt (eVar 4) (eVar 5))))) (sRet (eC (.bl false))) sNil)
def b_law_no_larger_2 : SM := (sFor (iBin mZip (eVarS 2) (eVarS 3)) (gTp 2 (gsCons (gNm 4) (gsCons (gNm 5) gsNil))) b_law_no_larger_1)
def g_law_no_larger : SM :=
  (sSeq (sIf (qVal (eBin mIsN (eVar 0) (eC .non))) (sRet (eC (.bl true))) sNil)
    (sSeq (sFor (iBin mZip (eVarS 0) (eVarS 1)) (gTp 2 (gsCons (gNm 2) (gsCons (gNm 3) gsNil))) b_law_no_larger_2)
    (sRet (eC (.bl true)))))
def m_law_no_larger : List D → Option D := fnRun 6 g_law_no_larger
def t_law_just_5 : SM := (sRet (eBin mEq (eCall m_law_holds (aCons (eVar 7) (aCons (eVar 2) aNil))) (eVar 3)))
def t_law_just_4 : SM := (sSeq (sIf (qOr (qNot (qVal (eCall m_law_point_like (aCons (eVar 7) (aCons (eVar 4) aNil))))) (qNot (qVal (eCall m_law_keeps (aCons (eVar 7) (aCons (eVar 1) aNil)))))) (sRet (eC (.bl false))) sNil) t_law_just_5)
def t_law_just_3 : SM := (sSeq (sSet 7 0 (eCallO 0 m_reaching (aCons (eVar 0) (aCons (eVar 5) (aCons (eVar 6) aNil))))) t_law_just_4)
def t_law_just_2 : SM := (sSeq (sIf (qVal (eBin mIsN (eVar 6) (eC .non))) (sSet 6 0 (eBin mPow (eC (.int 10)) (eC (.int 31)))) sNil) t_law_just_3)
def t_law_just_1 : SM := (sSeq (sSet 6 0 (eBin mIx (eBin mIx (eVarS 0) (eBin mIx (eVar 5) (eC (.int 0)))) (eBin mIx (eVar 5) (eC (.int 1))))) t_law_just_2)
def g_law_just : SM :=
  (sSeq (sIf (qVal (eBin mIsN (eVar 0) (eC .non))) (sRet (eC (.bl true))) sNil) t_law_just_1)
def m_law_just : List D → Option D := fnRun 8 g_law_just
def b_law_dealt_1 : SM := (sIf (qVal (eCall m_law_keeps (aCons (eVar 5) (aCons (eVar 3) aNil)))) (sSeq (sSet 6 0 (eVarS 1))
    (sSeq (sIf (qVal (eCall m_law_holds (aCons (eVar 5) (aCons (eVar 4) aNil)))) (sSet 6 0 (eVarS 0)) sNil)
    (sIf (qOr (qVal (eBin mIsN (eVar 6) (eC .non))) (qNot (qVal (eCall m_law_lies (aCons (eVar 6) (aCons (eVar 5) aNil)))))) (sRet (eC (.bl false))) sNil))) sNil)
def g_law_dealt : SM :=
  (sSeq (sFor (iB itsS (eVarS 2)) (gNm 5) b_law_dealt_1)
    (sRet (eC (.bl true))))
def m_law_dealt : List D → Option D := fnRun 7 g_law_dealt
def fl_question : D → Option D := fldD ["Keep"] [["question"]] "question"
theorem fl_question_Keep (ds : List D) : fl_question (.ob "Keep" ["question"] ds) = ds[0]? := fldD_of (j := 0) (by decide +kernel) rfl (by decide +kernel)
-- SIMP: fl_question_Keep
def b_Keep_parts_1 : SM := (sSet 4 2 (eCallO 2 m_held (aCons (eVar 4) (aCons (eVar 5) aNil))))
def b_Keep_parts_2 : SM := (sSeq (sSet 4 0 (eVarS 1))
    (sSeq (sFor (iB itsS (eVarS 3)) (gNm 5) b_Keep_parts_1)
    (sAppV 2 2 4)))
def g_Keep_parts : SM :=
  (sSeq (sSet 2 3 (eLst aNil))
    (sSeq (sFor (iB itsS (eCallO 2 m_cases (aCons (eB fl_question (eVar 0)) aNil))) (gNm 3) b_Keep_parts_2)
    (sRetV 3 2)))
def m_Keep_parts : List D → Option D := fnRun 6 g_Keep_parts
def me_parts : D → List D → Option D := meD ["Keep"] [m_Keep_parts] "parts"
theorem me_parts_Keep (ds as : List D) : me_parts (.ob "Keep" ["question"] ds) as = m_Keep_parts (.ob "Keep" ["question"] ds :: as) := meD_of (j := 0) (by decide +kernel) rfl (by decide +kernel)
-- SIMP: me_parts_Keep
def b_Keep_image_1 : SM := (sSet 2 2 (eCallO 2 m_join (aCons (eVar 2) (aCons (eVar 3) aNil))))
def g_Keep_image : SM :=
  (sSeq (sSet 2 0 (eC .non))
    (sSeq (sFor (iB itsS (eMethO 3 me_parts (eVar 0) (aCons (eVar 1) aNil))) (gNm 3) b_Keep_image_1)
    (sRetV 2 2)))
def m_Keep_image : List D → Option D := fnRun 4 g_Keep_image
def me_image : D → List D → Option D := meD ["Keep"] [m_Keep_image] "image"
theorem me_image_Keep (ds as : List D) : me_image (.ob "Keep" ["question"] ds) as = m_Keep_image (.ob "Keep" ["question"] ds :: as) := meD_of (j := 0) (by decide +kernel) rfl (by decide +kernel)
-- SIMP: me_image_Keep
def c_law_1 : EM := (eLc [10] (iB mRng1 (eVar 1)) (gNm 10) qYes (eCallO 0 m_law_number (aCons (eCall m_law_cell (aCons (eVar 0) (aCons (eBin mAddI (eC (.int 1)) (eVar 10)) aNil))) aNil)))
def t_law_13 : SM := (sRet (eBin mEq (eVar 5) (eVar 6)))
def t_law_12 : SM := (sSeq (sIf (qAnd (qVal (eBin mNe (eBin mIx (eVar 4) (eC (.int 2))) (eC (.str "same")))) (qNot (qVal (eCall m_law_just (aCons (eVar 8) (aCons (eVar 3) (aCons (eVar 4) (aCons (eC (.bl false)) (aCons (eVar 1) (aCons (eVar 9) aNil)))))))))) (sRet (eC (.bl false))) sNil) t_law_13)
def t_law_11 : SM := (sSeq (sIf (qAnd (qVal (eBin mNe (eBin mIx (eVar 4) (eC (.int 2))) (eC (.str "unlike")))) (qNot (qVal (eCall m_law_just (aCons (eVar 7) (aCons (eVar 3) (aCons (eVar 4) (aCons (eC (.bl true)) (aCons (eVar 1) (aCons (eVar 9) aNil)))))))))) (sRet (eC (.bl false))) sNil) t_law_12)
def t_law_10 : SM := (sSeq (sSet 9 0 (eLst (aCons (eBin mMod (eBin mDiv (eCall m_law_cell (aCons (eVar 0) (aCons (eC (.int 0)) aNil))) (eC (.int 2))) (eBin mMul (eC (.int 2)) (eVar 1))) (aCons (eBin mMod (eBin mDiv (eCall m_law_cell (aCons (eVar 0) (aCons (eC (.int 8)) aNil))) (eC (.int 52))) (eBin mMul (eC (.int 2)) (eVar 1))) aNil)))) t_law_11)
def t_law_9 : SM := (sSeq (sIf (qNot (qVal (eCall m_law_dealt (aCons (eVar 7) (aCons (eVar 8) (aCons (eCall m_law_points (aCons (eVar 0) (aCons (eVar 2) aNil))) (aCons (eVar 3) (aCons (eVar 4) aNil)))))))) (sRet (eC (.bl false))) sNil) t_law_10)
def t_law_8 : SM := (sSeq (sIf (qOr (qVal (eBin mNe (eCall m_join (aCons (eVar 7) (aCons (eVar 8) aNil))) (eVar 5))) (qOr (qNot (qVal (eCall m_law_no_larger (aCons (eVar 7) (aCons (eVar 5) aNil))))) (qNot (qVal (eCall m_law_no_larger (aCons (eVar 8) (aCons (eVar 5) aNil))))))) (sRet (eC (.bl false))) sNil) t_law_9)
def t_law_7 : SM := (sSeq (sSet 8 0 (eMethO 2 me_image (eMk "Keep" ["question"] (aCons (eCall m_turned (aCons (eVar 4) aNil)) aNil)) (aCons (eVar 5) aNil))) t_law_8)
def t_law_6 : SM := (sSeq (sSet 7 0 (eMethO 2 me_image (eMk "Keep" ["question"] (aCons (eVar 4) aNil)) (aCons (eVar 5) aNil))) t_law_7)
def t_law_5 : SM := (sSeq (sSet 6 0 (eCallO 2 m_law_copy (aCons (eVar 5) aNil))) t_law_6)
def t_law_4 : SM := (sSeq (sSet 5 0 (eCallO 2 m_closed (aCons (eVar 1) (aCons (eB mListF (eVar 3)) aNil)))) t_law_5)
def t_law_3 : SM := (sSeq (sSet 4 0 (eCallO 0 m_law_question (aCons (eVar 0) (aCons (eVar 2) aNil)))) t_law_4)
def t_law_2 : SM := (sSeq (sSet 3 0 (eB chkL (eBin mCat (eCall m_law_box (aCons (eVar 0) (aCons (eVar 1) aNil))) (eCall m_law_more (aCons (eVar 0) (aCons (eVar 2) aNil)))))) t_law_3)
def t_law_1 : SM := (sSeq (sSet 2 0 (eFl (eB mTuple c_law_1))) t_law_2)
def g_law : SM :=
  (sSeq (sSet 1 0 (eBin mAddI (eC (.int 2)) (eBin mMod (eCall m_law_cell (aCons (eVar 0) (aCons (eC (.int 0)) aNil))) (eC (.int 2))))) t_law_1)
def m_law : List D → Option D := fnRun 11 g_law
-- TB: e_meth e_methO o_meth e_mk ix_tab ix_line len_tabD len_line isN_tb notN_tb isB_bb notB_bb itsS_ints slF_scr slL_scr len_intsL ix_intsL chk_intsL itsS_tab itsS_line e_thaw o_thaw e_retV o_retV itsS_lst itsS_tup setD0 setD0i setDS sld_va sld_io e_frz o_frz e_xC o_xc_t e_aIo o_aio e_sX o_sx e_retX o_retx e_tupV o_tupV1 g_tp2 bnd e_app o_app o_appI o_app1 o_app2 o_app3 o_app4 o_lst6 o_lst7 o_lst9 o_lst10 o_lst11 o_lst12 o_lst16 o_tup6 o_tup7 o_tup8 e_appV o_appV chk_tab chk_line listF_line listF_ints isi_ln isi_tb rng1_eq rng2_eq oDs oDn Option.isSome_some Option.isSome_none Option.isNone_some Option.isNone_none isva_vS isv0_vS isva_vK bq_tt bq_ff bq_tf bq_ft Int.toNat_natCast
local macro_rules | `(tactic| walk_at "ev") => `(tactic| simp (disch := first | omega | assumption) only [e_run, e_seq, e_nil, e_sif, e_ret, e_exp, e_set, e_aug, e_asg, e_for, e_bin, e_binL, e_sl, e_onone, e_osome, e_fl, e_call, e_callO, e_cb, e_b, e_ib, e_c, e_anil, e_acons, e_val, e_neg, e_not, e_and, e_or, e_qand, e_qor, e_qnot, e_qyes, e_eif, e_tup, e_lst, e_isi, e_var0, e_varS0, e_varS0', e_var0i, e_varS, e_varSS, o_b2, o_bL, o_b3, o_b1, o_cons, o_val, o_neg, o_not, o_and1, o_and0, o_or1, o_or0, o_andB1, o_andB0, o_orB1, o_orB0, o_and, o_or, o_andB, o_orB, o_notB, o_if1, o_if0, o_ifB, o_int, o_set, o_aug, o_ret, o_exp, o_seq, o_seqR, o_seqB, o_seqC, o_seqI, o_runI, o_tup1, o_tup2, o_tup3, o_tup4, o_tup5, o_lst0, o_lst1, o_lst2, o_lst3, o_lst4, o_lst5, o_lst8, o_asg, o_for, o_runR, o_runN, bmap, rep0, repS, set0, setS, get0, getS, isva, isun, isv0, isv0u, ix_t0, ix_t1, ix_t2, ix_t3, ix_t4, ix_l0, ix_l1, chk_tup, chk_lst, fl_nil, fl_cons, f_int, f_bl, f_str, f_non, f_tup, f_lst, full_w, full_o, chk_int, chk_bl, chk_non, chk_str, chk_ints, isi_ii, isi_ib, isi_bb, isi_tt, isi_ll, add_ii, sub_ii, lt_ii, le_ii, gt_ii, ge_ii, eq_ii, ne_ii, eq_bb, ne_bb, isN_n, isN_i, notN_n, notN_i, len_scr, len_lst, len_tup, gnm, forL_cons, o_loopN, o_loopC, o_loopB, o_loopR, o_loopI, o_body, decide_true, decide_false, Bool.false_eq_true, eq_self, wipe_nil, wipe_cons, forL_nil, mod_ii, div_s, mul_l, mul_r, ix_scr, ix_ints, l_most, l_least, l_same, l_unlike, l_set, l_ask, l_need, l_claim, l_if, l_while, l_else, l_end, l_plain, l_go, l_keep, l_put, mEq_w, mNe_w, chk_w, isi_sw, isN_w, notN_w, chk_o, isN_o, notN_o, reduceCtorEq, Int.cast_ofNat_Int, Bool.not_not,  List.map_cons, List.map_nil, List.cons_append, List.nil_append, List.length_cons, List.length_nil, if_true, if_false, Bool.not_true, Bool.not_false, decide_eq_true_eq, Nat.add_zero, Nat.zero_add, Nat.reduceAdd, Nat.reduceSub, Nat.sub_self, Nat.add_sub_cancel, reduceIte, Bool.true_and, Bool.and_true, Bool.false_and, Bool.and_false, Bool.true_or, Bool.or_true, Bool.false_or, Bool.or_false])

local macro_rules | `(tactic| walk_at "tb") => `(tactic| simp (disch := first | omega | assumption) only [e_run, e_seq, e_nil, e_sif, e_ret, e_exp, e_set, e_aug, e_asg, e_for, e_bin, e_binL, e_sl, e_onone, e_osome, e_fl, e_call, e_callO, e_cb, e_b, e_ib, e_c, e_anil, e_acons, e_val, e_neg, e_not, e_and, e_or, e_qand, e_qor, e_qnot, e_qyes, e_eif, e_tup, e_lst, e_isi, e_var0, e_varS0, e_varS0', e_var0i, e_varS, e_varSS, o_b2, o_bL, o_b3, o_b1, o_cons, o_val, o_neg, o_not, o_and1, o_and0, o_or1, o_or0, o_andB1, o_andB0, o_orB1, o_orB0, o_and, o_or, o_andB, o_orB, o_notB, o_if1, o_if0, o_ifB, o_int, o_set, o_aug, o_ret, o_exp, o_seq, o_seqR, o_seqB, o_seqC, o_seqI, o_runI, o_tup1, o_tup2, o_tup3, o_tup4, o_tup5, o_lst0, o_lst1, o_lst2, o_lst3, o_lst4, o_lst5, o_lst8, o_asg, o_for, o_runR, o_runN, bmap, rep0, repS, set0, setS, get0, getS, isva, isun, isv0, isv0u, ix_t0, ix_t1, ix_t2, ix_t3, ix_t4, ix_l0, ix_l1, chk_tup, chk_lst, fl_nil, fl_cons, f_int, f_bl, f_str, f_non, f_tup, f_lst, full_w, full_o, chk_int, chk_bl, chk_non, chk_str, chk_ints, isi_ii, isi_ib, isi_bb, isi_tt, isi_ll, add_ii, sub_ii, lt_ii, le_ii, gt_ii, ge_ii, eq_ii, ne_ii, eq_bb, ne_bb, isN_n, isN_i, notN_n, notN_i, len_scr, len_lst, len_tup, gnm, forL_cons, o_loopN, o_loopC, o_loopB, o_loopR, o_loopI, o_body, decide_true, decide_false, Bool.false_eq_true, eq_self, wipe_nil, wipe_cons, forL_nil, mod_ii, div_s, mul_l, mul_r, ix_scr, ix_ints, l_most, l_least, l_same, l_unlike, l_set, l_ask, l_need, l_claim, l_if, l_while, l_else, l_end, l_plain, l_go, l_keep, l_put, mEq_w, mNe_w, chk_w, isi_sw, isN_w, notN_w, chk_o, isN_o, notN_o, reduceCtorEq, Int.cast_ofNat_Int, Bool.not_not,  List.map_cons, List.map_nil, List.cons_append, List.nil_append, List.length_cons, List.length_nil, if_true, if_false, Bool.not_true, Bool.not_false, decide_eq_true_eq, Nat.add_zero, Nat.zero_add, Nat.reduceAdd, Nat.reduceSub, Nat.sub_self, Nat.add_sub_cancel, reduceIte, Bool.true_and, Bool.and_true, Bool.false_and, Bool.and_false, Bool.true_or, Bool.or_true, Bool.false_or, Bool.or_false, e_meth, e_methO, o_meth, e_mk, ix_tab, ix_line, len_tabD, len_line, isN_tb, notN_tb, isB_bb, notB_bb, itsS_ints, slF_scr, slL_scr, len_intsL, ix_intsL, chk_intsL, itsS_tab, itsS_line, e_thaw, o_thaw, e_retV, o_retV, itsS_lst, itsS_tup, setD0, setD0i, setDS, sld_va, sld_io, e_frz, o_frz, e_xC, o_xc_t, e_aIo, o_aio, e_sX, o_sx, e_retX, o_retx, e_tupV, o_tupV1, g_tp2, bnd, e_app, o_app, o_appI, o_app1, o_app2, o_app3, o_app4, o_lst6, o_lst7, o_lst9, o_lst10, o_lst11, o_lst12, o_lst16, o_tup6, o_tup7, o_tup8, e_appV, o_appV, chk_tab, chk_line, listF_line, listF_ints, isi_ln, isi_tb, rng1_eq, rng2_eq, oDs, oDn, Option.isSome_some, Option.isSome_none, Option.isNone_some, Option.isNone_none, isva_vS, isv0_vS, isva_vK, bq_tt, bq_ff, bq_tf, bq_ft, Int.toNat_natCast, fl_question_Keep, me_parts_Keep, me_image_Keep])
local macro_rules | `(tactic| simp! [$ls,*]) => `(tactic| simp (disch := first | omega | assumption) only [e_run, e_seq, e_nil, e_sif, e_ret, e_exp, e_set, e_aug, e_asg, e_for, e_bin, e_binL, e_sl, e_onone, e_osome, e_fl, e_call, e_callO, e_cb, e_b, e_ib, e_c, e_anil, e_acons, e_val, e_neg, e_not, e_and, e_or, e_qand, e_qor, e_qnot, e_qyes, e_eif, e_tup, e_lst, e_isi, e_var0, e_varS0, e_varS0', e_var0i, e_varS, e_varSS, o_b2, o_bL, o_b3, o_b1, o_cons, o_val, o_neg, o_not, o_and1, o_and0, o_or1, o_or0, o_andB1, o_andB0, o_orB1, o_orB0, o_and, o_or, o_andB, o_orB, o_notB, o_if1, o_if0, o_ifB, o_int, o_set, o_aug, o_ret, o_exp, o_seq, o_seqR, o_seqB, o_seqC, o_seqI, o_runI, o_tup1, o_tup2, o_tup3, o_tup4, o_tup5, o_lst0, o_lst1, o_lst2, o_lst3, o_lst4, o_lst5, o_lst8, o_asg, o_for, o_runR, o_runN, bmap, rep0, repS, set0, setS, get0, getS, isva, isun, isv0, isv0u, ix_t0, ix_t1, ix_t2, ix_t3, ix_t4, ix_l0, ix_l1, chk_tup, chk_lst, fl_nil, fl_cons, f_int, f_bl, f_str, f_non, f_tup, f_lst, full_w, full_o, chk_int, chk_bl, chk_non, chk_str, chk_ints, isi_ii, isi_ib, isi_bb, isi_tt, isi_ll, add_ii, sub_ii, lt_ii, le_ii, gt_ii, ge_ii, eq_ii, ne_ii, eq_bb, ne_bb, isN_n, isN_i, notN_n, notN_i, len_scr, len_lst, len_tup, gnm, forL_cons, o_loopN, o_loopC, o_loopB, o_loopR, o_loopI, o_body, decide_true, decide_false, Bool.false_eq_true, eq_self, wipe_nil, wipe_cons, forL_nil, mod_ii, div_s, mul_l, mul_r, ix_scr, ix_ints, l_most, l_least, l_same, l_unlike, l_set, l_ask, l_need, l_claim, l_if, l_while, l_else, l_end, l_plain, l_go, l_keep, l_put, mEq_w, mNe_w, chk_w, isi_sw, isN_w, notN_w, chk_o, isN_o, notN_o, reduceCtorEq, Int.cast_ofNat_Int, Bool.not_not,  List.map_cons, List.map_nil, List.cons_append, List.nil_append, List.length_cons, List.length_nil, if_true, if_false, Bool.not_true, Bool.not_false, decide_eq_true_eq, Nat.add_zero, Nat.zero_add, Nat.reduceAdd, Nat.reduceSub, Nat.sub_self, Nat.add_sub_cancel, reduceIte, Bool.true_and, Bool.and_true, Bool.false_and, Bool.and_false, Bool.true_or, Bool.or_true, Bool.false_or, Bool.or_false, e_meth, e_methO, o_meth, e_mk, ix_tab, ix_line, len_tabD, len_line, isN_tb, notN_tb, isB_bb, notB_bb, itsS_ints, slF_scr, slL_scr, len_intsL, ix_intsL, chk_intsL, itsS_tab, itsS_line, e_thaw, o_thaw, e_retV, o_retV, itsS_lst, itsS_tup, setD0, setD0i, setDS, sld_va, sld_io, e_frz, o_frz, e_xC, o_xc_t, e_aIo, o_aio, e_sX, o_sx, e_retX, o_retx, e_tupV, o_tupV1, g_tp2, bnd, e_app, o_app, o_appI, o_app1, o_app2, o_app3, o_app4, o_lst6, o_lst7, o_lst9, o_lst10, o_lst11, o_lst12, o_lst16, o_tup6, o_tup7, o_tup8, e_appV, o_appV, chk_tab, chk_line, listF_line, listF_ints, isi_ln, isi_tb, rng1_eq, rng2_eq, oDs, oDn, Option.isSome_some, Option.isSome_none, Option.isNone_some, Option.isNone_none, isva_vS, isv0_vS, isva_vK, bq_tt, bq_ff, bq_tf, bq_ft, Int.toNat_natCast, fl_question_Keep, me_parts_Keep, me_image_Keep, $ls,*])

def worthI (pt : List Int) (f : Int) : Int := if f % 2 = 1 then -(pt.getD (f / 2).toNat 0) else pt.getD (f / 2).toNat 0
def flipI (f : Int) : Int := f + 1 - f % 2 * 2
theorem flipI_nn {f : Int} (h : 0 ≤ f) : 0 ≤ flipI f := by unfold flipI; omega
theorem flipI_lt {f n : Int} (h : f < 2 * n) : flipI f < 2 * n := by unfold flipI; omega
theorem flipI_flip (f : Int) : flipI (flipI f) = f := by unfold flipI; omega
theorem xor_flip (f : Int) (h : 0 ≤ f) : Builtin.bitXor f 1 = flipI f := by
  rw [Bits.bitXor_pp h (by decide)]
  have h1 : (f.toNat ^^^ 1) / 2 = f.toNat / 2 := by rw [Nat.xor_div_two]; simp
  have h2 : (f.toNat ^^^ 1) % 2 = (f.toNat + 1) % 2 := by
    have := Nat.xor_mod_two_eq_one (a := f.toNat) (b := 1)
    omega
  show ((f.toNat ^^^ 1 : Nat) : Int) = _
  unfold flipI
  omega
theorem flip_worth (pt : List Int) (f : Int) : worthI pt (flipI f) = -worthI pt f := by
  unfold worthI flipI
  have e : (f + 1 - f % 2 * 2) / 2 = f / 2 := by omega
  rw [e]
  rcases Int.emod_two_eq f with h | h
  · rw [if_pos (by omega), if_neg (by omega)]
  · rw [if_neg (by omega), if_pos (by omega)]; omega
abbrev sideD (f g c : Int) : D := .tup [.int f, .int g, .int c]
abbrev qD (f : Int) (g : Option Int) (w : Wd) (c : Int) : D := .tup [.int f, oD g, wD w, .int c]
def qSum (pt : List Int) (f : Int) (g : Option Int) : Int := worthI pt f + (match g with | none => 0 | some g => worthI pt g)
/-- whether a sum meets a word and a number -/
def wdHolds (w : Wd) (s c : Int) : Bool := match w with
  | .most => decide (s ≤ c)
  | .least => decide (c ≤ s)
  | .same => decide (s = c)
  | _ => !decide (s = c)
def fOk (n : Int) (f : Int) : Prop := 0 ≤ f ∧ f < 2 * n
def gOk (n : Int) (g : Option Int) : Prop := ∀ x, g = some x → 0 ≤ x ∧ x < 2 * n

def addO : Option Int → Option Int → Option Int
  | some a, some b => some (a + b)
  | _, _ => none
def lessO : Option Int → Option Int → Option Int
  | none, b => b
  | some a, none => some a
  | some a, some b => if a ≤ b then some a else some b
def wideT : Tb := fun f g => if g = flipI f then some 0 else none
def ledF (T : Tb) (f g c : Int) : Int → Option Int := fun i => lessO (addO (T i (flipI f)) (some c)) (addO (addO (T i (flipI g)) (some (2 * c))) (T (flipI f) (flipI f)))
def relF (T : Tb) (f g c : Int) : Tb := fun i j => lessO (T i j) (lessO (addO (ledF T f g c i) (T (flipI g) j)) (addO (ledF T g f c i) (T (flipI f) j)))
def halF (T : Tb) : Tb := fun i j => if i = j then (T i j).map fun x => x / 2 * 2 else T i j
def hnO : Option Int → Option Int → Bool
  | some a, some b => decide (a + b < 0)
  | _, _ => false
def noneB (n : Nat) (T : Tb) : Bool := (List.range n).any fun (f : Nat) => hnO (T f f) (T (flipI f) (flipI f))
def strF (T : Tb) : Tb := fun i j => match addO (T i i) (T j j) with
  | some t => lessO (T i j) (some (t / 2))
  | none => T i j
def leO : Option Int → Int → Bool
  | some t, c => decide (t ≤ c)
  | none, _ => false
def ltO : Option Int → Int → Bool
  | some b, c => decide (b + c < 0)
  | none, _ => false
def heldF (n : Nat) (T : Tb) (f g c : Int) : Option Tb :=
  if leO (T f g) c = true then some T
  else if ltO (T (flipI f) (flipI g)) c = true then none
  else if noneB n (halF (relF T f g c)) = true then none
  else some (strF (halF (relF T f g c)))
def shD (n : Nat) : Option Tb → D
  | none => .non
  | some T => tabD n T
abbrev Sd := Int × Int × Int
def sdD (s : Sd) : D := sideD s.1 s.2.1 s.2.2
def heldS (n : Nat) (s : Option Tb) (d : Sd) : Option Tb := s.bind fun T => heldF n T d.1 d.2.1 d.2.2
def closedF (n : Nat) (l : List Sd) : Option Tb := l.foldl (heldS n) (some wideT)
def sdOk (n : Nat) (s : Sd) : Prop := (0 ≤ s.1 ∧ s.1 < n) ∧ 0 ≤ s.2.1 ∧ s.2.1 < n
theorem flip_rng {n : Nat} {f : Int} (h0 : 0 ≤ f) (h1 : f < 2 * (n : Int)) : 0 ≤ flipI f ∧ flipI f < 2 * (n : Int) := ⟨flipI_nn h0, flipI_lt h1⟩

-- NEEDS: close
-- SIMP: added_eq added_i
theorem added_eq (a b : Option Int) : m_added [oD a, oD b] = some (oD (addO a b)) := by
  unfold m_added g_added
  cases a <;> cases b <;> walk_at "tb" <;> rfl
theorem added_i (a : Option Int) (b : Int) : m_added [oD a, .int b] = some (oD (addO a (some b))) := added_eq a (some b)

-- NEEDS: close
-- SIMP: lesser_eq lesser_i
theorem lesser_eq (a b : Option Int) : m_lesser [oD a, oD b] = some (oD (lessO a b)) := by
  unfold m_lesser g_lesser
  cases a with
  | none => walk_at "tb"; rfl
  | some a =>
    cases b with
    | none => walk_at "tb"; rfl
    | some b =>
      walk_at "tb"
      show _ = some (oD (if a ≤ b then some a else some b))
      by_cases h : a ≤ b
      · rw [if_pos h, if_pos h]; rfl
      · rw [if_neg h, if_neg h]; rfl
theorem lesser_i (a : Option Int) (b : Int) : m_lesser [oD a, .int b] = some (oD (lessO a (some b))) := lesser_eq a (some b)

-- SIMP: flipped_eq
theorem flipped_eq (f : Int) (h : 0 ≤ f) : m_flipped [.int f] = some (.int (flipI f)) := by
  unfold m_flipped g_flipped
  rw [← xor_flip f h]
  walk_at "ev"
  rfl

-- SIMP: worth_eq
theorem worth_eq (pt : List Int) (f : Int) (h0 : 0 ≤ f) (h : f < 2 * pt.length) : m_worth [tupI pt, .int f] = some (.int (worthI pt f)) := by
  unfold m_worth g_worth worthI
  walk_at "ev"
  split <;> rfl
theorem worth_eqL (pt : List Int) (f : Int) (h0 : 0 ≤ f) (h : f < 2 * pt.length) : m_worth [lstI pt, .int f] = some (.int (worthI pt f)) := by
  unfold m_worth g_worth worthI
  walk_at "tb"
  split <;> rfl

-- NEEDS: close
theorem wide_eq (n : Nat) (h1 : 1 ≤ n) (hn : n < 1000) : m_wide [.int n] = some (tabD (2 * n) wideT) := by
  unfold m_wide g_wide
  have hr : mRng1 (.int (2 * (n : Int))) = some ((List.range (2 * n)).map fun (i : Nat) => D.int (i : Int)) := by
    rw [rng1_eq _ (by omega) (by omega)]
    rw [show (2 * (n : Int)).toNat = 2 * n by omega]
  have lc : ∀ (A : D) (f : Nat), c_wide_1 [.va 0 (.int n), .va 2 A, .va 0 (.int f), .un, .un] = some (lineD (2 * n) fun _ => none) := by
    intro A f
    unfold c_wide_1
    refine lc_map (fun (i : Nat) => D.int i) _ (List.range (2 * n)) ?_ rfl (by rw [List.length_range]; omega) fun i hi => ?_
    · walk_at "ev"
      rw [hr]
    · exact ⟨_, rfl, rfl, rfl⟩
  have := forL_pre (m := gNm 2) (b := b_wide_1) (fun (pre : List Nat) st => ∃ o2 : Option D, st = [.va 0 (.int n), .va 2 (.lst (pre.map fun (f : Nat) => lineD (2 * n) (wideT f))), vS o2, .un, .un]) (fun (i : Nat) => D.int i) (List.range (2 * n)) (fun pre f post e st hst => by
    obtain ⟨o2, rfl⟩ := hst
    obtain ⟨e1, e2, e3⟩ := range_split e
    obtain ⟨f0, f1⟩ := flip_rng (n := n) (f := f) (by omega) (by omega)
    have hk : (pre.map fun (f : Nat) => lineD (2 * n) (wideT f)).length < 16777216 := by rw [List.length_map]; omega
    unfold b_wide_1
    walk_at "tb"
    simp only [lc]
    walk_at "tb"
    rw [e_sub_line (n := 2 * n) (L := fun _ => none) (v := some 0) (a := flipI f) rfl rfl ?_ f0 (by omega)]
    · walk_at "tb"
      refine ⟨_, .inl (id rfl), ?_⟩
      rw [show (pre ++ [f]).map (fun (f : Nat) => lineD (2 * n) (wideT f)) = pre.map (fun (f : Nat) => lineD (2 * n) (wideT f)) ++ [lineD (2 * n) (wideT f)] by rw [List.map_append]; rfl]
      exact ⟨some _, rfl⟩
    · walk_at "tb"
      rw [flipped_eq f (by omega)]) [.va 0 (.int n), .va 2 (.lst []), .un, .un, .un] ⟨none, rfl⟩
  obtain ⟨st', e, o2, rfl⟩ := this
  walk_at "ev"
  rw [hr]
  walk_at "ev"
  rw [e]
  walk_at "tb"
  rfl

-- NEEDS: close
theorem copied_eq (n : Nat) (T : Tb) (hn : n < 1000) : m_copied [tabD n T] = some (tabD n T) := by
  unfold m_copied g_copied
  have lc : c_copied_1 [.va 0 (tabD n T), .un] = some (tabD n T) := by
    unfold c_copied_1
    refine lc_map (fun (i : Nat) => lineD n (T i)) _ (List.range n) rfl rfl (by rw [List.length_range]; omega) fun i hi => ?_
    refine ⟨_, rfl, rfl, ?_⟩
    walk_at "tb"
  walk_at "tb"
  rw [lc]
  walk_at "tb"

-- NEEDS: close
theorem led_eq (n : Nat) (T : Tb) (f g c : Int) (hn : 2 * n < 1000) (hf : 0 ≤ f ∧ f < 2 * (n : Int)) (hg : 0 ≤ g ∧ g < 2 * (n : Int)) : m_led [tabD (2 * n) T, .int f, .int g, .int c] = some (lineD (2 * n) (ledF T f g c)) := by
  obtain ⟨f0, f1⟩ := flip_rng hf.1 hf.2
  obtain ⟨g0, g1⟩ := flip_rng hg.1 hg.2
  have q1 := flipped_eq f hf.1
  have q2 := flipped_eq g hg.1
  unfold m_led g_led
  have := forL_pre (m := gNm 6) (b := b_led_1) (fun (pre : List Nat) st => ∃ o6 o7 o8 : Option D, st = [.va 0 (tabD (2 * n) T), .va 0 (.int f), .va 0 (.int g), .va 0 (.int c), .va 0 (.int (flipI f)), .va 1 (.lst (pre.map fun (i : Nat) => oD (ledF T f g c i))), vS o6, vS o7, vS o8]) (fun (i : Nat) => lineD (2 * n) (T i)) (List.range (2 * n)) (fun pre i post e st hst => by
    obtain ⟨o6, o7, o8, rfl⟩ := hst
    obtain ⟨e1, e2, e3⟩ := range_split e
    have hk : (pre.map fun (i : Nat) => oD (ledF T f g c i)).length < 16777216 := by rw [List.length_map]; omega
    unfold b_led_1
    walk_at "tb"
    simp only [added_i]
    walk_at "tb"
    simp only [q2]
    walk_at "tb"
    simp only [added_i, added_eq]
    walk_at "tb"
    simp only [added_i, added_eq]
    walk_at "tb"
    simp only [lesser_eq]
    walk_at "tb"
    refine ⟨_, .inl (id rfl), ?_⟩
    rw [show (pre ++ [i]).map (fun (i : Nat) => oD (ledF T f g c i)) = pre.map (fun (i : Nat) => oD (ledF T f g c i)) ++ [oD (ledF T f g c i)] by rw [List.map_append]; rfl]
    exact ⟨some _, some _, some _, rfl⟩) [.va 0 (tabD (2 * n) T), .va 0 (.int f), .va 0 (.int g), .va 0 (.int c), .va 0 (.int (flipI f)), .va 1 (.lst []), .un, .un, .un] ⟨none, none, none, rfl⟩
  obtain ⟨st', e, o6, o7, o8, rfl⟩ := this
  walk_at "tb"
  simp only [q1]
  walk_at "tb"
  rw [e]
  walk_at "tb"
  rfl

-- NEEDS: close
theorem relinked_in (n : Nat) (T : Tb) (f g c : Int) (hn : 2 * n < 1000) (hf : 0 ≤ f ∧ f < 2 * (n : Int)) (hg : 0 ≤ g ∧ g < 2 * (n : Int)) (i : Nat) (hi : i < 2 * n) (A : D) (p11 p12 : Option D) :
    ∃ o11 o12 : Option D, forL (gNm 11) b_relinked_1 ((List.range (2 * n)).map fun (j : Nat) => D.int j) [.va 0 (tabD (2 * n) T), .va 0 (sideD f g c), .va 0 (.int f), .va 0 (.int g), .va 0 (lineD (2 * n) (ledF T f g c)), .va 0 (lineD (2 * n) (ledF T g f c)), .va 0 (lineD (2 * n) (T (flipI g))), .va 0 (lineD (2 * n) (T (flipI f))), .va 2 A, .va 0 (.int i), .va 1 (.lst []), vS p11, vS p12]
      = some (.nx [.va 0 (tabD (2 * n) T), .va 0 (sideD f g c), .va 0 (.int f), .va 0 (.int g), .va 0 (lineD (2 * n) (ledF T f g c)), .va 0 (lineD (2 * n) (ledF T g f c)), .va 0 (lineD (2 * n) (T (flipI g))), .va 0 (lineD (2 * n) (T (flipI f))), .va 2 A, .va 0 (.int i), .va 1 (lineD (2 * n) (relF T f g c i)), vS o11, vS o12]) := by
  have := forL_pre (m := gNm 11) (b := b_relinked_1) (fun (pre : List Nat) st => ∃ o11 o12 : Option D, st = [.va 0 (tabD (2 * n) T), .va 0 (sideD f g c), .va 0 (.int f), .va 0 (.int g), .va 0 (lineD (2 * n) (ledF T f g c)), .va 0 (lineD (2 * n) (ledF T g f c)), .va 0 (lineD (2 * n) (T (flipI g))), .va 0 (lineD (2 * n) (T (flipI f))), .va 2 A, .va 0 (.int i), .va 1 (.lst (pre.map fun (j : Nat) => oD (relF T f g c i j))), vS o11, vS o12]) (fun (j : Nat) => D.int j) (List.range (2 * n)) (fun pre j post e st hst => by
    obtain ⟨o11, o12, rfl⟩ := hst
    obtain ⟨e1, e2, e3⟩ := range_split e
    have hk : (pre.map fun (j : Nat) => oD (relF T f g c i j)).length < 16777216 := by rw [List.length_map]; omega
    unfold b_relinked_1
    walk_at "tb"
    simp only [added_eq]
    walk_at "tb"
    simp only [lesser_eq]
    walk_at "tb"
    simp only [lesser_eq]
    walk_at "tb"
    refine ⟨_, .inl (id rfl), ?_⟩
    rw [show (pre ++ [j]).map (fun (j : Nat) => oD (relF T f g c i j)) = pre.map (fun (j : Nat) => oD (relF T f g c i j)) ++ [oD (relF T f g c i j)] by rw [List.map_append]; rfl]
    exact ⟨some _, some _, rfl⟩) _ ⟨p11, p12, rfl⟩
  obtain ⟨st', e, o11, o12, rfl⟩ := this
  exact ⟨o11, o12, e⟩
theorem relinked_eq (n : Nat) (T : Tb) (f g c : Int) (hn : 2 * n < 1000) (hf : 0 ≤ f ∧ f < 2 * (n : Int)) (hg : 0 ≤ g ∧ g < 2 * (n : Int)) : m_relinked [tabD (2 * n) T, sideD f g c] = some (tabD (2 * n) (relF T f g c)) := by
  obtain ⟨f0, f1⟩ := flip_rng hf.1 hf.2
  obtain ⟨g0, g1⟩ := flip_rng hg.1 hg.2
  have q1 := flipped_eq f hf.1
  have q2 := flipped_eq g hg.1
  have l1 := led_eq n T f g c hn hf hg
  have l2 := led_eq n T g f c hn hg hf
  unfold m_relinked g_relinked t_relinked_1 t_relinked_2 t_relinked_3 t_relinked_4 t_relinked_5 t_relinked_6
  have := forL_pre (m := gNm 9) (b := b_relinked_2) (fun (pre : List Nat) st => ∃ o9 o11 o12 : Option D, st = [.va 0 (tabD (2 * n) T), .va 0 (sideD f g c), .va 0 (.int f), .va 0 (.int g), .va 0 (lineD (2 * n) (ledF T f g c)), .va 0 (lineD (2 * n) (ledF T g f c)), .va 0 (lineD (2 * n) (T (flipI g))), .va 0 (lineD (2 * n) (T (flipI f))), .va 2 (.lst (pre.map fun (i : Nat) => lineD (2 * n) (relF T f g c i))), vS o9, .un, vS o11, vS o12]) (fun (j : Nat) => D.int j) (List.range (2 * n)) (fun pre i post e st hst => by
    obtain ⟨o9, o11, o12, rfl⟩ := hst
    obtain ⟨e1, e2, e3⟩ := range_split e
    have hk : (pre.map fun (i : Nat) => lineD (2 * n) (relF T f g c i)).length < 16777216 := by rw [List.length_map]; omega
    obtain ⟨o11', o12', hin⟩ := relinked_in n T f g c hn hf hg i e2 (.lst (pre.map fun (i : Nat) => lineD (2 * n) (relF T f g c i))) o11 o12
    unfold b_relinked_2
    walk_at "tb"
    rw [hin]
    walk_at "tb"
    refine ⟨_, .inl (id rfl), ?_⟩
    rw [show (pre ++ [i]).map (fun (i : Nat) => lineD (2 * n) (relF T f g c i)) = pre.map (fun (i : Nat) => lineD (2 * n) (relF T f g c i)) ++ [lineD (2 * n) (relF T f g c i)] by rw [List.map_append]; rfl]
    exact ⟨some _, o11', o12', rfl⟩) [.va 0 (tabD (2 * n) T), .va 0 (sideD f g c), .va 0 (.int f), .va 0 (.int g), .va 0 (lineD (2 * n) (ledF T f g c)), .va 0 (lineD (2 * n) (ledF T g f c)), .va 0 (lineD (2 * n) (T (flipI g))), .va 0 (lineD (2 * n) (T (flipI f))), .va 2 (.lst []), .un, .un, .un, .un] ⟨none, none, none, rfl⟩
  obtain ⟨st', e, o9, o11, o12, rfl⟩ := this
  walk_at "tb"
  simp only [q1, q2, l1, l2]
  walk_at "tb"
  try simp only [q1, q2, l1, l2]
  try walk_at "tb"
  try simp only [q1, q2, l1, l2]
  try walk_at "tb"
  try simp only [q1, q2, l1, l2]
  try walk_at "tb"
  try simp only [q1, q2, l1, l2]
  try walk_at "tb"
  unfold t_relinked_7 t_relinked_8
  walk_at "tb"
  rw [e]
  try walk_at "tb"
  rfl

-- NEEDS: close
def halP (m : Nat) (T : Tb) : Tb := fun i j => if i < m then halF T i j else T i j
theorem halP_step (T : Tb) (i : Nat) (x y : Int) : halP (i + 1) T x y = if x = (i : Int) ∧ y = (i : Int) then (T i i).map (fun v => v / 2 * 2) else halP i T x y := by
  unfold halP
  by_cases h : x < (i : Int)
  · rw [if_pos (show x < ((i + 1 : Nat) : Int) by omega), if_neg (show ¬ (x = (i : Int) ∧ y = (i : Int)) by omega), if_pos h]
  · by_cases h2 : x = (i : Int)
    · subst h2
      rw [if_pos (show (i : Int) < ((i + 1 : Nat) : Int) by omega)]
      unfold halF
      by_cases h3 : (i : Int) = y
      · subst h3
        rw [if_pos rfl, if_pos ⟨rfl, rfl⟩]
      · rw [if_neg h3, if_neg (fun z => h3 z.2.symm), if_neg h]
    · rw [if_neg (show ¬ x < ((i + 1 : Nat) : Int) by omega), if_neg (fun z => h2 z.1), if_neg h]
theorem halve_eq (n : Nat) (T : Tb) (hn : n < 1000) : m_halve [tabD n T] = some (.non, [tabD n (halF T)]) := by
  unfold m_halve
  have := forL_pre (m := gNm 1) (b := b_halve_1) (fun (pre : List Nat) st => ∃ o1 : Option D, st = [.io 2 (tabD n (halP pre.length T)), vS o1]) (fun (j : Nat) => D.int j) (List.range n) (fun pre i post e st hst => by
    obtain ⟨o1, rfl⟩ := hst
    obtain ⟨e1, e2, e3⟩ := range_split e
    have he : halP pre.length T i i = T i i := by
      unfold halP
      rw [if_neg (by omega)]
    have he' : halP pre.length T (pre.length : Nat) (pre.length : Nat) = T i i := by rw [← e1] at he ⊢; exact he
    have hl : (pre ++ [i]).length = i + 1 := by simp; omega
    unfold b_halve_1
    walk_at "tb"
    rw [he]
    cases ht : T i i with
    | none =>
      walk_at "tb"
      refine ⟨_, .inl (id rfl), ?_⟩
      rw [show tabD n (halP pre.length T) = tabD n (halP (pre ++ [i]).length T) from tab_congr fun x y x0 x1 y0 y1 => by
        rw [hl, halP_step, ← e1, ht]
        split
        · rename_i h3
          rw [h3.1, h3.2, e1, he', ht]; rfl
        · rfl]
      exact ⟨some _, rfl⟩
    | some v =>
      walk_at "tb"
      rw [e_sub2_tab (n := n) (T := halP pre.length T) (v := some (v / 2 * 2)) (a := i) (b := i) rfl ?_ rfl rfl (by omega) (by omega) (by omega) (by omega)]
      · walk_at "tb"
        refine ⟨_, .inl (id rfl), ?_⟩
        rw [show tabD n (fun x y => if x = (i : Int) ∧ y = (i : Int) then some (v / 2 * 2) else halP pre.length T x y) = tabD n (halP (pre ++ [i]).length T) from tab_congr fun x y x0 x1 y0 y1 => by
          rw [hl, halP_step, ht, ← e1]; rfl]
        exact ⟨some _, rfl⟩
      · walk_at "tb"
        rw [he, ht]
        walk_at "tb") [.io 2 (tabD n T), .un] ⟨none, by
          rw [show tabD n T = tabD n (halP ([] : List Nat).length T) from tab_congr fun x y x0 x1 y0 y1 => by
            unfold halP
            rw [if_neg (show ¬ x < ((([] : List Nat).length : Nat) : Int) by simp; omega)]]
          rfl⟩
  obtain ⟨st', e, o1, rfl⟩ := this
  refine e_runIO_n (st := [.io 2 (tabD n (halP (List.range n).length T)), vS o1]) ?_ ?_
  · unfold g_halve
    show sFor _ _ _ [.io 2 (tabD n T), .un] = _
    walk_at "tb"
    exact e
  · show some [tabD n (halP (List.range n).length T)] = some [tabD n (halF T)]
    rw [List.length_range]
    congr 2
    exact tab_congr fun x y x0 x1 y0 y1 => by unfold halP; rw [if_pos (by omega)]

-- NEEDS: close
theorem has_none_eq (n : Nat) (T : Tb) (hn : 2 * n < 1000) : m_has_none [tabD (2 * n) T] = some (.bl (noneB (2 * n) T)) := by
  unfold m_has_none g_has_none
  have := forL_find (m := gNm 1) (b := b_has_none_1) (fun st => ∃ o1 o2 o3 : Option D, st = [.va 0 (tabD (2 * n) T), vS o1, vS o2, vS o3]) (fun (j : Nat) => D.int j) (fun (f : Nat) => hnO (T f f) (T (flipI f) (flipI f))) (fun _ => .bl true) (List.range (2 * n)) (fun f hf st hst => by
    obtain ⟨o1, o2, o3, rfl⟩ := hst
    have hf := List.mem_range.mp hf
    obtain ⟨f0, f1⟩ := flip_rng (n := n) (f := f) (by omega) (by omega)
    have q1 := flipped_eq f (by omega)
    unfold b_has_none_1
    walk_at "tb"
    simp only [q1]
    walk_at "tb"
    cases T f f with
    | none =>
      walk_at "tb"
      rw [if_neg (by show ¬ (false = true); decide)]
      exact ⟨_, rfl, some _, some _, some _, rfl⟩
    | some a =>
      cases T (flipI f) (flipI f) with
      | none =>
        walk_at "tb"
        rw [if_neg (by show ¬ (false = true); decide)]
        exact ⟨_, rfl, some _, some _, some _, rfl⟩
      | some b =>
        walk_at "tb"
        show if decide (a + b < 0) = true then _ else _
        simp only [decide_eq_true_eq]
        split
        · exact ⟨_, rfl⟩
        · exact ⟨_, rfl, some _, some _, some _, rfl⟩) [.va 0 (tabD (2 * n) T), .un, .un, .un] ⟨none, none, none, rfl⟩
  walk_at "tb"
  unfold noneB
  cases h : (List.range (2 * n)).find? fun (f : Nat) => hnO (T f f) (T (flipI f) (flipI f)) with
  | none =>
    rw [h] at this
    obtain ⟨st', e, o1, o2, o3, rfl⟩ := this
    rw [e]
    walk_at "tb"
    congr 2
    symm
    rw [Bool.eq_false_iff]
    intro z
    obtain ⟨x, hx, hp⟩ := List.any_eq_true.mp z
    exact List.find?_eq_none.mp h x hx hp
  | some x =>
    rw [h] at this
    obtain ⟨st', e⟩ := this
    rw [e]
    walk_at "tb"
    congr 2
    symm
    have h2 := List.find?_some h
    exact List.any_eq_true.mpr ⟨x, List.mem_of_find?_eq_some h, h2⟩

-- NEEDS: close
def strP (m l : Nat) (T : Tb) : Tb := fun i j => if i < m ∨ (i = m ∧ j < l) then strF T i j else T i j
theorem strF_diag (T : Tb) (i : Int) : strF T i i = T i i := by
  unfold strF
  cases T i i with
  | none => rfl
  | some a =>
    show lessO (some a) (some ((a + a) / 2)) = some a
    have : (a + a) / 2 = a := by omega
    rw [this]
    show (if a ≤ a then some a else some a) = _
    split <;> rfl
theorem strP_diag (m l : Nat) (T : Tb) (i : Int) : strP m l T i i = T i i := by
  unfold strP
  split
  · exact strF_diag T i
  · rfl
theorem strP_step (m l : Nat) (T : Tb) (x y : Int) : strP m (l + 1) T x y = if x = (m : Int) ∧ y = (l : Int) then strF T m l else strP m l T x y := by
  unfold strP
  by_cases h : x = (m : Int) ∧ y = (l : Int)
  · rw [if_pos h, if_pos (show x < (m : Int) ∨ (x = (m : Int) ∧ y < ((l + 1 : Nat) : Int)) by omega), h.1, h.2]
  · rw [if_neg h]
    by_cases h2 : x < (m : Int) ∨ (x = (m : Int) ∧ y < (l : Int))
    · rw [if_pos h2, if_pos (show x < (m : Int) ∨ (x = (m : Int) ∧ y < ((l + 1 : Nat) : Int)) by omega)]
    · rw [if_neg h2, if_neg (show ¬ (x < (m : Int) ∨ (x = (m : Int) ∧ y < ((l + 1 : Nat) : Int))) by omega)]
theorem strengthen_in (n : Nat) (T : Tb) (hn : n < 1000) (f : Nat) (hf : f < n) (p2 p3 : Option D) :
    ∃ o2 o3 : Option D, forL (gNm 2) b_strengthen_1 ((List.range n).map fun (j : Nat) => D.int j) [.io 2 (tabD n (strP f 0 T)), .va 0 (.int f), vS p2, vS p3] = some (.nx [.io 2 (tabD n (strP f n T)), .va 0 (.int f), vS o2, vS o3]) := by
  have := forL_pre (m := gNm 2) (b := b_strengthen_1) (fun (pre : List Nat) st => ∃ o2 o3 : Option D, st = [.io 2 (tabD n (strP f pre.length T)), .va 0 (.int f), vS o2, vS o3]) (fun (j : Nat) => D.int j) (List.range n) (fun pre g post e st hst => by
    obtain ⟨o2, o3, rfl⟩ := hst
    obtain ⟨e1, e2, e3⟩ := range_split e
    have hl : (pre ++ [g]).length = g + 1 := by simp; omega
    rw [hl, ← e1]
    unfold b_strengthen_1
    walk_at "tb"
    simp only [strP_diag]
    simp only [added_eq]
    walk_at "tb"
    cases ht : addO (T f f) (T g g) with
    | none =>
      walk_at "tb"
      refine ⟨_, .inl (id rfl), ?_⟩
      rw [show tabD n (strP f g T) = tabD n (strP f (g + 1) T) from tab_congr fun x y x0 x1 y0 y1 => by
        rw [strP_step]
        split
        · rename_i h3
          rw [h3.1, h3.2]
          unfold strP strF
          rw [if_neg (by omega), ht]
        · rfl]
      exact ⟨some _, some _, rfl⟩
    | some v =>
      walk_at "tb"
      rw [e_sub2_tab (n := n) (T := strP f g T) (v := strF T f g) (a := f) (b := g) rfl ?_ rfl rfl (by omega) (by omega) (by omega) (by omega)]
      · walk_at "tb"
        refine ⟨_, .inl (id rfl), ?_⟩
        rw [show tabD n (fun x y => if x = (f : Int) ∧ y = (g : Int) then strF T f g else strP f g T x y) = tabD n (strP f (g + 1) T) from tab_congr fun x y x0 x1 y0 y1 => by
          rw [strP_step]]
        exact ⟨some _, some _, rfl⟩
      · walk_at "tb"
        have e4 : strP f g T f g = T f g := by
          unfold strP
          rw [if_neg (by omega)]
        rw [e4, lesser_i]
        unfold strF
        rw [ht]
        walk_at "tb") _ ⟨p2, p3, rfl⟩
  obtain ⟨st', e, o2, o3, rfl⟩ := this
  rw [List.length_range] at e
  exact ⟨o2, o3, e⟩
theorem strengthen_eq (n : Nat) (T : Tb) (hn : n < 1000) : m_strengthen [tabD n T] = some (.non, [tabD n (strF T)]) := by
  unfold m_strengthen
  have := forL_pre (m := gNm 1) (b := b_strengthen_2) (fun (pre : List Nat) st => ∃ o1 o2 o3 : Option D, st = [.io 2 (tabD n (strP pre.length 0 T)), vS o1, vS o2, vS o3]) (fun (j : Nat) => D.int j) (List.range n) (fun pre f post e st hst => by
    obtain ⟨o1, o2, o3, rfl⟩ := hst
    obtain ⟨e1, e2, e3⟩ := range_split e
    have hl : (pre ++ [f]).length = f + 1 := by simp; omega
    obtain ⟨o2', o3', hin⟩ := strengthen_in n T hn f e2 o2 o3
    rw [hl, ← e1]
    unfold b_strengthen_2
    walk_at "tb"
    rw [hin]
    refine ⟨_, .inl (id rfl), ?_⟩
    rw [show tabD n (strP f n T) = tabD n (strP (f + 1) 0 T) from tab_congr fun x y x0 x1 y0 y1 => by
      unfold strP
      by_cases h : x < (f : Int) ∨ (x = (f : Int) ∧ y < (n : Int))
      · rw [if_pos h, if_pos (show x < ((f + 1 : Nat) : Int) ∨ (x = ((f + 1 : Nat) : Int) ∧ y < ((0 : Nat) : Int)) by omega)]
      · rw [if_neg h, if_neg (show ¬ (x < ((f + 1 : Nat) : Int) ∨ (x = ((f + 1 : Nat) : Int) ∧ y < ((0 : Nat) : Int))) by omega)]]
    exact ⟨some _, o2', o3', rfl⟩) [.io 2 (tabD n T), .un, .un, .un] ⟨none, none, none, by
      rw [show tabD n T = tabD n (strP ([] : List Nat).length 0 T) from tab_congr fun x y x0 x1 y0 y1 => by
        unfold strP
        rw [if_neg (show ¬ (x < ((([] : List Nat).length : Nat) : Int) ∨ (x = ((([] : List Nat).length : Nat) : Int) ∧ y < ((0 : Nat) : Int))) by simp; omega)]]
      rfl⟩
  obtain ⟨st', e, o1, o2, o3, rfl⟩ := this
  refine e_runIO_n (st := [.io 2 (tabD n (strP (List.range n).length 0 T)), vS o1, vS o2, vS o3]) ?_ ?_
  · unfold g_strengthen
    show sFor _ _ _ [.io 2 (tabD n T), .un, .un, .un] = _
    walk_at "tb"
    exact e
  · show some [tabD n (strP (List.range n).length 0 T)] = some [tabD n (strF T)]
    rw [List.length_range]
    congr 2
    exact tab_congr fun x y x0 x1 y0 y1 => by unfold strP; rw [if_pos (by omega)]

-- NEEDS: close
theorem held_none (n : Nat) (d : D) : m_held [shD n none, d] = some (shD n none) := by
  unfold m_held g_held shD
  walk_at "tb"
theorem held_eq (n : Nat) (T : Tb) (f g c : Int) (hn : 2 * n < 1000) (hf : 0 ≤ f ∧ f < 2 * (n : Int)) (hg : 0 ≤ g ∧ g < 2 * (n : Int)) : m_held [tabD (2 * n) T, sideD f g c] = some (shD (2 * n) (heldF (2 * n) T f g c)) := by
  obtain ⟨f0, f1⟩ := flip_rng hf.1 hf.2
  obtain ⟨g0, g1⟩ := flip_rng hg.1 hg.2
  have q1 := flipped_eq f hf.1
  have q2 := flipped_eq g hg.1
  have r1 := relinked_eq n T f g c hn hf hg
  have r2 := copied_eq (2 * n) T (by omega)
  have r3 := halve_eq (2 * n) (relF T f g c) (by omega)
  have r4 := has_none_eq n (halF (relF T f g c)) hn
  have r5 := strengthen_eq (2 * n) (halF (relF T f g c)) (by omega)
  unfold m_held g_held t_held_1
  walk_at "tb"
  have rest : ¬ leO (T f g) c = true → orun (t_held_3 [.va 0 (tabD (2 * n) T), .va 0 (sideD f g c), .va 0 (oD (T f g)), .un, .un]) = some (shD (2 * n) (heldF (2 * n) T f g c)) := by
    intro h1
    have rest2 : ¬ ltO (T (flipI f) (flipI g)) c = true → orun (t_held_5 [.va 0 (tabD (2 * n) T), .va 0 (sideD f g c), .va 0 (oD (T f g)), .va 0 (oD (T (flipI f) (flipI g))), .un]) = some (shD (2 * n) (heldF (2 * n) T f g c)) := by
      intro h2
      unfold t_held_5
      walk_at "tb"
      rw [r1]
      walk_at "tb"
      unfold t_held_6
      rw [e_seq, e_sx (e_xcall (e_aio (d := tabD (2 * n) (relF T f g c)) rfl rfl) r3 rfl ?_)]
      · show orun (oseq t_held_7 (some (.nx [.va 0 (tabD (2 * n) T), .va 0 (sideD f g c), .va 0 (oD (T f g)), .va 0 (oD (T (flipI f) (flipI g))), .va 2 (tabD (2 * n) (halF (relF T f g c)))]))) = _
        walk_at "tb"
        unfold t_held_7
        walk_at "tb"
        rw [r4]
        walk_at "tb"
        unfold heldF
        rw [if_neg h1, if_neg h2]
        split
        · rfl
        · unfold t_held_8
          rw [e_seq, e_sx (e_xcall (e_aio (d := tabD (2 * n) (halF (relF T f g c))) rfl rfl) r5 rfl ?_)]
          · show orun (oseq t_held_9 (some (.nx [.va 0 (tabD (2 * n) T), .va 0 (sideD f g c), .va 0 (oD (T f g)), .va 0 (oD (T (flipI f) (flipI g))), .va 2 (tabD (2 * n) (strF (halF (relF T f g c))))]))) = _
            walk_at "tb"
            unfold t_held_9
            walk_at "tb"
            rfl
          · show (full _ 2 && true) = true
            rw [full_tab]; rfl
      · show (full _ 2 && true) = true
        rw [full_tab]; rfl
    unfold t_held_3
    walk_at "tb"
    simp only [q1, q2]
    walk_at "tb"
    try simp only [q1, q2]
    try walk_at "tb"
    unfold t_held_4
    have e2 : ¬ leO (T f g) c = true → ltO (T (flipI f) (flipI g)) c = true → heldF (2 * n) T f g c = none := fun h1 h2 => by
      unfold heldF
      rw [if_neg h1, if_pos h2]
    cases hb : T (flipI f) (flipI g) with
    | none =>
      rw [hb] at rest2
      walk_at "tb"
      exact rest2 (by show ¬ (false = true); decide)
    | some b =>
      rw [hb] at rest2 e2
      walk_at "tb"
      split
      · rename_i h
        rw [e2 h1 (decide_eq_true h)]
        rfl
      · rename_i h
        exact rest2 (by show ¬ decide _ = true; rw [decide_eq_true_eq]; exact h)
  unfold t_held_2
  cases ht : T f g with
  | none =>
    rw [ht] at rest
    walk_at "tb"
    exact rest (by show ¬ (false = true); decide)
  | some t =>
    rw [ht] at rest
    walk_at "tb"
    split
    · rename_i h
      rw [r2]
      unfold heldF
      rw [if_pos (by rw [ht]; exact decide_eq_true h)]
      walk_at "tb"
      rfl
    · rename_i h
      exact rest (by show ¬ decide _ = true; rw [decide_eq_true_eq]; exact h)

-- NEEDS: close
theorem isN_sh (n : Nat) (s : Option Tb) : chk 2 (shD n s) = some (shD n s) := by
  cases s with
  | none => rfl
  | some T => exact chk_tab n 0 T
def sidesD (l : List Sd) : D := .lst (l.map sdD)
theorem itsS_sides (l : List Sd) : itsS (sidesD l) = some (l.map sdD) := id rfl
theorem heldS_eq (n : Nat) (hn : 2 * n < 1000) (s : Option Tb) (d : Sd) (hd : sdOk (2 * n) d) : m_held [shD (2 * n) s, sdD d] = some (shD (2 * n) (heldS (2 * n) s d)) := by
  obtain ⟨f, g, c⟩ := d
  cases s with
  | none => exact held_none _ _
  | some T =>
    obtain ⟨h1, h2, h3⟩ := hd
    have h1' : 0 ≤ f ∧ f < ((2 * n : Nat) : Int) := h1
    have h2' : 0 ≤ g := h2
    have h3' : g < ((2 * n : Nat) : Int) := h3
    exact held_eq n T f g c hn (by omega) (by omega)
theorem closed_eq (n : Nat) (l : List Sd) (h1 : 1 ≤ n) (hn : 2 * n < 1000) (hl : ∀ d ∈ l, sdOk (2 * n) d) : m_closed [.int n, sidesD l] = some (shD (2 * n) (closedF (2 * n) l)) := by
  unfold m_closed g_closed
  have hw := wide_eq n h1 (by omega)
  have e := forL_fold (m := gNm 3) (b := b_closed_1) (fun s : Option Tb × Option D => [.va 0 (.int n), .va 0 (sidesD l), .va 2 (shD (2 * n) s.1), vS s.2]) (fun s d => (heldS (2 * n) s.1 d, some (sdD d))) sdD l (fun d hd s => by
    have hs := heldS_eq n hn s.1 d (hl d hd)
    unfold b_closed_1
    walk_at "tb"
    rw [hs]
    walk_at "tb"
    rw [isN_sh]
    walk_at "tb"
    rfl) (some wideT, none)
  have e2 : ∀ (l : List Sd) (s : Option Tb) (o : Option D), (l.foldl (fun (s : Option Tb × Option D) d => (heldS (2 * n) s.1 d, some (sdD d))) (s, o)).1 = l.foldl (heldS (2 * n)) s := by
    intro l
    induction l with
    | nil => intro s o; rfl
    | cons x l ih => intro s o; exact ih _ _
  walk_at "tb"
  rw [hw]
  walk_at "tb"
  simp only [itsS_sides]
  walk_at "tb"
  rw [show ([.va 0 (.int n), .va 0 (sidesD l), .va 2 (tabD (2 * n) wideT), .un] : Sl) = [.va 0 (.int n), .va 0 (sidesD l), .va 2 (shD (2 * n) (some wideT)), vS none] from rfl]
  rw [e]
  walk_at "tb"
  rw [e2]
  rfl

-- NEEDS: close
theorem halved_entry_eq (o : Option Int) : m_halved_entry [oD o] = some (oD (o.map (· / 2))) := by
  unfold m_halved_entry g_halved_entry
  cases o with
  | none => walk_at "tb" <;> try rfl
  | some x => walk_at "tb" <;> try rfl

/-- an entry bounds a sum -/
def entOk : Option Int → Int → Bool
  | none, _ => true
  | some e, s => decide (s ≤ e)
def liesB (n : Nat) (T : Tb) (pt : List Int) : Bool := (List.range n).all fun (f : Nat) => (List.range n).all fun (g : Nat) => entOk (T f g) (worthI pt f + worthI pt g)

-- NEEDS: close tab
/-- an entry is there and no more than v -/
def bd (o : Option Int) (v : Int) : Prop := ∃ e, o = some e ∧ e ≤ v
theorem bd_ext {a b : Option Int} (h : ∀ v, bd a v ↔ bd b v) : a = b := by
  cases a with
  | none =>
    cases b with
    | none => rfl
    | some y => obtain ⟨e, h1, _⟩ := (h y).mpr ⟨y, rfl, Int.le_refl _⟩; cases h1
  | some x =>
    cases b with
    | none => obtain ⟨e, h1, _⟩ := (h x).mp ⟨x, rfl, Int.le_refl _⟩; cases h1
    | some y =>
      obtain ⟨e, h1, h2⟩ := (h x).mp ⟨x, rfl, Int.le_refl _⟩
      obtain ⟨e', h3, h4⟩ := (h y).mpr ⟨y, rfl, Int.le_refl _⟩
      cases h1; cases h3
      congr 1
      omega
theorem bd_less {a b : Option Int} {v : Int} : bd (lessO a b) v ↔ bd a v ∨ bd b v := by
  unfold bd
  cases a with
  | none => simp [lessO]
  | some a =>
    cases b with
    | none => simp [lessO]
    | some b =>
      unfold lessO
      constructor
      · rintro ⟨e, h1, h2⟩
        have h1 : (if a ≤ b then some a else some b) = some e := h1
        by_cases h : a ≤ b
        · rw [if_pos h] at h1; cases h1; exact .inl ⟨_, rfl, h2⟩
        · rw [if_neg h] at h1; cases h1; exact .inr ⟨_, rfl, h2⟩
      · rintro (⟨e, h1, h2⟩ | ⟨e, h1, h2⟩) <;> cases h1 <;> by_cases h : a ≤ b
        · exact ⟨a, if_pos h, h2⟩
        · exact ⟨b, if_neg h, by omega⟩
        · exact ⟨a, if_pos h, by omega⟩
        · exact ⟨b, if_neg h, h2⟩
theorem bd_add {a b : Option Int} {v : Int} : bd (addO a b) v ↔ ∃ x y, bd a x ∧ bd b y ∧ x + y ≤ v := by
  constructor
  · rintro ⟨e, h1, h2⟩
    cases a with
    | none => cases h1
    | some a =>
      cases b with
      | none => cases h1
      | some b => cases h1; exact ⟨a, b, ⟨a, rfl, Int.le_refl _⟩, ⟨b, rfl, Int.le_refl _⟩, h2⟩
  · rintro ⟨x, y, ⟨e, rfl, h1⟩, ⟨e', rfl, h2⟩, h3⟩
    exact ⟨e + e', rfl, by omega⟩
theorem bd_some {a v : Int} : bd (some a) v ↔ a ≤ v := ⟨fun ⟨e, h1, h2⟩ => by cases h1; exact h2, fun h => ⟨a, rfl, h⟩⟩
theorem bd.mono {o : Option Int} {v w : Int} (h : bd o v) (hw : v ≤ w) : bd o w := by
  obtain ⟨e, h1, h2⟩ := h
  exact ⟨e, h1, by omega⟩
theorem leO_bd {o : Option Int} {v : Int} : leO o v = true ↔ bd o v := by
  cases o with
  | none => exact ⟨fun h => (by cases h), fun ⟨e, h, _⟩ => (by cases h)⟩
  | some e => rw [bd_some]; exact decide_eq_true_iff
/-- the six ways to an entry of the relinked table -/
theorem bd_rel {T : Tb} {f g c i j v : Int} : bd (relF T f g c i j) v ↔ bd (T i j) v ∨
    (∃ x y, bd (T i (flipI f)) x ∧ bd (T (flipI g) j) y ∧ x + c + y ≤ v) ∨
    (∃ x y z, bd (T i (flipI g)) x ∧ bd (T (flipI f) (flipI f)) z ∧ bd (T (flipI g) j) y ∧ x + 2 * c + z + y ≤ v) ∨
    (∃ x y, bd (T i (flipI g)) x ∧ bd (T (flipI f) j) y ∧ x + c + y ≤ v) ∨
    (∃ x y z, bd (T i (flipI f)) x ∧ bd (T (flipI g) (flipI g)) z ∧ bd (T (flipI f) j) y ∧ x + 2 * c + z + y ≤ v) := by
  unfold relF ledF
  simp only [bd_less, bd_add, bd_some]
  constructor
  · rintro (h | ⟨x, y, h1, h2, h3⟩ | ⟨x, y, h1, h2, h3⟩)
    · exact .inl h
    · rcases h1 with ⟨p, q, k1, k2, k3⟩ | ⟨p, q, ⟨r, s, k4, k5, k6⟩, k2, k3⟩
      · exact .inr (.inl ⟨p, y, k1, h2, by omega⟩)
      · exact .inr (.inr (.inl ⟨r, y, q, k4, k2, h2, by omega⟩))
    · rcases h1 with ⟨p, q, k1, k2, k3⟩ | ⟨p, q, ⟨r, s, k4, k5, k6⟩, k2, k3⟩
      · exact .inr (.inr (.inr (.inl ⟨p, y, k1, h2, by omega⟩)))
      · exact .inr (.inr (.inr (.inr ⟨r, y, q, k4, k2, h2, by omega⟩)))
  · rintro (h | ⟨x, y, h1, h2, h3⟩ | ⟨x, y, z, h1, h2, h3, h4⟩ | ⟨x, y, h1, h2, h3⟩ | ⟨x, y, z, h1, h2, h3, h4⟩)
    · exact .inl h
    · exact .inr (.inl ⟨x + c, y, .inl ⟨x, c, h1, Int.le_refl _, Int.le_refl _⟩, h2, h3⟩)
    · exact .inr (.inl ⟨x + 2 * c + z, y, .inr ⟨x + 2 * c, z, ⟨x, 2 * c, h1, Int.le_refl _, Int.le_refl _⟩, h2, Int.le_refl _⟩, h3, h4⟩)
    · exact .inr (.inr ⟨x + c, y, .inl ⟨x, c, h1, Int.le_refl _, Int.le_refl _⟩, h2, h3⟩)
    · exact .inr (.inr ⟨x + 2 * c + z, y, .inr ⟨x + 2 * c, z, ⟨x, 2 * c, h1, Int.le_refl _, Int.le_refl _⟩, h2, Int.le_refl _⟩, h3, h4⟩)
def rg (N : Nat) (f : Int) : Prop := 0 ≤ f ∧ f < N
theorem rg_flip {n : Nat} {f : Int} (h : rg (2 * n) f) : rg (2 * n) (flipI f) := by
  unfold rg at *
  unfold flipI
  omega
theorem bd_half {o : Option Int} {v : Int} (h : bd o v) : bd (o.map fun x => x / 2 * 2) v := by
  obtain ⟨e, rfl, h2⟩ := h
  exact ⟨e / 2 * 2, rfl, by omega⟩
theorem bd_hal {T : Tb} {i j v : Int} (h : bd (T i j) v) : bd (halF T i j) v := by
  unfold halF
  split
  · exact bd_half h
  · exact h
theorem bd_str {T : Tb} {i j v : Int} : bd (strF T i j) v ↔ bd (T i j) v ∨ ∃ x y, T i i = some x ∧ T j j = some y ∧ (x + y) / 2 ≤ v := by
  unfold strF
  cases h1 : T i i with
  | none => exact ⟨.inl, fun h => h.elim id fun ⟨x, y, h, _⟩ => by cases h⟩
  | some x =>
    cases h2 : T j j with
    | none => exact ⟨.inl, fun h => h.elim id fun ⟨x, y, _, h, _⟩ => by cases h⟩
    | some y =>
      show bd (lessO (T i j) (some ((x + y) / 2))) v ↔ _
      rw [bd_less, bd_some]
      exact ⟨fun h => h.imp id fun h => ⟨x, y, rfl, rfl, h⟩, fun h => h.imp id fun ⟨x', y', e1, e2, h⟩ => by cases e1; cases e2; exact h⟩
/-- the table is the same from both sides, with 0 between a form and its flip -/
structure Sym (N : Nat) (T : Tb) : Prop where
  sym : ∀ f g, T f g = T g f
/-- a table that a point lies in -/
structure Lie (n : Nat) (pt : List Int) (T : Tb) : Prop where
  sym : ∀ f g, T f g = T g f
  zer : ∀ f, rg (2 * n) f → T f (flipI f) = some 0
  lie : ∀ f g, rg (2 * n) f → rg (2 * n) g → ∀ v, bd (T f g) v → worthI pt f + worthI pt g ≤ v
theorem rel_sym {T : Tb} (h : ∀ f g, T f g = T g f) (f g c i j : Int) : relF T f g c i j = relF T f g c j i := by
  have one : ∀ i j v, bd (relF T f g c i j) v → bd (relF T f g c j i) v := by
    intro i j v hv
    rw [bd_rel] at hv ⊢
    rcases hv with hv | ⟨x, y, h1, h2, h3⟩ | ⟨x, y, z, h1, h2, h3, h4⟩ | ⟨x, y, h1, h2, h3⟩ | ⟨x, y, z, h1, h2, h3, h4⟩
    · exact .inl (h i j ▸ hv)
    · exact .inr (.inr (.inr (.inl ⟨y, x, by rw [h]; exact h2, by rw [h]; exact h1, by omega⟩)))
    · exact .inr (.inr (.inl ⟨y, x, z, by rw [h]; exact h3, h2, by rw [h]; exact h1, by omega⟩))
    · exact .inr (.inl ⟨y, x, by rw [h]; exact h2, by rw [h]; exact h1, by omega⟩)
    · exact .inr (.inr (.inr (.inr ⟨y, x, z, by rw [h]; exact h3, h2, by rw [h]; exact h1, by omega⟩)))
  exact bd_ext fun v => ⟨one i j v, one j i v⟩
theorem hal_sym {T : Tb} (h : ∀ f g, T f g = T g f) (i j : Int) : halF T i j = halF T j i := by
  unfold halF
  by_cases e : i = j
  · subst e; rfl
  · rw [if_neg e, if_neg (Ne.symm e), h]
theorem str_sym {T : Tb} (h : ∀ f g, T f g = T g f) (i j : Int) : strF T i j = strF T j i := by
  have one : ∀ i j v, bd (strF T i j) v → bd (strF T j i) v := by
    intro i j v hv
    rw [bd_str] at hv ⊢
    rcases hv with hv | ⟨x, y, h1, h2, h3⟩
    · exact .inl (h i j ▸ hv)
    · exact .inr ⟨y, x, h2, h1, by rw [Int.add_comm]; exact h3⟩
  exact bd_ext fun v => ⟨one i j v, one j i v⟩
theorem wide_sym (f g : Int) : wideT f g = wideT g f := by
  unfold wideT
  by_cases h : g = flipI f
  · rw [if_pos h, if_pos (by rw [h, flipI_flip])]
  · rw [if_neg h, if_neg fun z => h (by rw [z, flipI_flip])]
/-- 0 or less, and no less than 0 -/
theorem zero_of {o : Option Int} (h1 : bd o 0) (h2 : ∀ v, bd o v → 0 ≤ v) : o = some 0 := by
  obtain ⟨e, rfl, h3⟩ := h1
  have := h2 e ⟨e, rfl, Int.le_refl _⟩
  congr 1
  omega
theorem wide_lie (n : Nat) (pt : List Int) : Lie n pt wideT := by
  refine ⟨wide_sym, fun f _ => if_pos rfl, fun f g _ _ v hv => ?_⟩
  unfold wideT at hv
  obtain ⟨e, h1, h2⟩ := hv
  split at h1
  · rename_i h
    cases h1
    rw [h, flip_worth]
    omega
  · cases h1
theorem held_lie {n : Nat} {pt : List Int} {T : Tb} {f g c : Int} (L : Lie n pt T) (hf : rg (2 * n) f) (hg : rg (2 * n) g) (hc : worthI pt f + worthI pt g ≤ c) :
    ∃ U, heldF (2 * n) T f g c = some U ∧ Lie n pt U ∧ bd (U f g) c ∧ ∀ i j v, bd (T i j) v → bd (U i j) v := by
  have hf' := rg_flip hf
  have hg' := rg_flip hg
  unfold heldF
  by_cases h1 : leO (T f g) c = true
  · rw [if_pos h1]
    exact ⟨T, rfl, L, leO_bd.mp h1, fun _ _ _ h => h⟩
  · rw [if_neg h1]
    have h2 : ¬ ltO (T (flipI f) (flipI g)) c = true := by
      intro z
      cases e : T (flipI f) (flipI g) with
      | none => rw [e] at z; cases z
      | some b =>
        rw [e] at z
        have z : b + c < 0 := of_decide_eq_true z
        have := L.lie _ _ hf' hg' b ⟨b, e, Int.le_refl _⟩
        rw [flip_worth, flip_worth] at this
        omega
    rw [if_neg h2]
    -- the point lies in the relinked table
    have rl : ∀ i j, rg (2 * n) i → rg (2 * n) j → ∀ v, bd (relF T f g c i j) v → worthI pt i + worthI pt j ≤ v := by
      intro i j hi hj v hv
      rw [bd_rel] at hv
      have w1 := flip_worth pt f
      have w2 := flip_worth pt g
      rcases hv with hv | ⟨x, y, k1, k2, k3⟩ | ⟨x, y, z, k1, k2, k3, k4⟩ | ⟨x, y, k1, k2, k3⟩ | ⟨x, y, z, k1, k2, k3, k4⟩
      · exact L.lie i j hi hj v hv
      · have a1 := L.lie _ _ hi hf' x k1
        have a2 := L.lie _ _ hg' hj y k2
        omega
      · have a1 := L.lie _ _ hi hg' x k1
        have a2 := L.lie _ _ hg' hj y k3
        have a3 := L.lie _ _ hf' hf' z k2
        omega
      · have a1 := L.lie _ _ hi hg' x k1
        have a2 := L.lie _ _ hf' hj y k2
        omega
      · have a1 := L.lie _ _ hi hf' x k1
        have a2 := L.lie _ _ hf' hj y k3
        have a3 := L.lie _ _ hg' hg' z k2
        omega
    have hl : ∀ i j, rg (2 * n) i → rg (2 * n) j → ∀ v, bd (halF (relF T f g c) i j) v → worthI pt i + worthI pt j ≤ v := by
      intro i j hi hj v hv
      unfold halF at hv
      split at hv
      · rename_i e
        subst e
        obtain ⟨e, h3, h4⟩ := hv
        cases h5 : relF T f g c i i with
        | none => rw [h5] at h3; cases h3
        | some x =>
          rw [h5] at h3
          cases h3
          have := rl i i hi hi x ⟨x, h5, Int.le_refl _⟩
          have h4 : x / 2 * 2 ≤ v := h4
          omega
      · exact rl i j hi hj v hv
    have sl : ∀ i j, rg (2 * n) i → rg (2 * n) j → ∀ v, bd (strF (halF (relF T f g c)) i j) v → worthI pt i + worthI pt j ≤ v := by
      intro i j hi hj v hv
      rw [bd_str] at hv
      rcases hv with hv | ⟨x, y, k1, k2, k3⟩
      · exact hl i j hi hj v hv
      · have a1 := hl i i hi hi x ⟨x, k1, Int.le_refl _⟩
        have a2 := hl j j hj hj y ⟨y, k2, Int.le_refl _⟩
        omega
    have h3 : ¬ noneB (2 * n) (halF (relF T f g c)) = true := by
      intro z
      obtain ⟨x, hx, hp⟩ := List.any_eq_true.mp z
      have hx := List.mem_range.mp hx
      have hr : rg (2 * n) x := ⟨by omega, by omega⟩
      cases e1 : halF (relF T f g c) x x with
      | none => rw [e1] at hp; cases hp
      | some a =>
        cases e2 : halF (relF T f g c) (flipI x) (flipI x) with
        | none => rw [e1, e2] at hp; cases hp
        | some b =>
          rw [e1, e2] at hp
          have hp : a + b < 0 := of_decide_eq_true hp
          have a1 := hl x x hr hr a ⟨a, e1, Int.le_refl _⟩
          have a2 := hl _ _ (rg_flip hr) (rg_flip hr) b ⟨b, e2, Int.le_refl _⟩
          rw [flip_worth] at a2
          omega
    rw [if_neg h3]
    have up : ∀ i j v, bd (T i j) v → bd (strF (halF (relF T f g c)) i j) v := fun i j v hv => bd_str.mpr (.inl (bd_hal (bd_rel.mpr (.inl hv))))
    refine ⟨_, rfl, ⟨str_sym (hal_sym fun i j => rel_sym L.sym f g c i j), fun x hx => ?_, sl⟩, ?_, up⟩
    · refine zero_of (up _ _ _ ⟨0, L.zer x hx, Int.le_refl _⟩) fun v hv => ?_
      have := sl _ _ hx (rg_flip hx) v hv
      rw [flip_worth] at this
      omega
    · refine bd_str.mpr (.inl (bd_hal (bd_rel.mpr (.inr (.inl ⟨0, 0, ⟨0, L.zer f hf, Int.le_refl _⟩, ⟨0, ?_, Int.le_refl _⟩, by omega⟩)))))
      have := L.zer (flipI g) hg'
      rw [flipI_flip] at this
      exact this
/-- sides that a point keeps: their table, which the point lies in and each of them bounds -/
theorem closed_lie (n : Nat) (pt : List Int) (l : List Sd) (hl : ∀ d ∈ l, sdOk (2 * n) d ∧ worthI pt d.1 + worthI pt d.2.1 ≤ d.2.2) : ∃ T, closedF (2 * n) l = some T ∧ Lie n pt T ∧ ∀ d ∈ l, bd (T d.1 d.2.1) d.2.2 := by
  unfold closedF
  have core : ∀ (l done : List Sd) (T : Tb), (∀ d ∈ l, sdOk (2 * n) d ∧ worthI pt d.1 + worthI pt d.2.1 ≤ d.2.2) → Lie n pt T → (∀ d ∈ done, bd (T d.1 d.2.1) d.2.2) → ∃ U, l.foldl (heldS (2 * n)) (some T) = some U ∧ Lie n pt U ∧ ∀ d ∈ done ++ l, bd (U d.1 d.2.1) d.2.2 := by
    intro l
    induction l with
    | nil => intro done T _ L hd; exact ⟨T, rfl, L, by simpa using hd⟩
    | cons x l ih =>
      intro done T hl L hd
      obtain ⟨⟨⟨a1, a2⟩, a3, a4⟩, hc⟩ := hl x List.mem_cons_self
      obtain ⟨U, e, LU, hb, up⟩ := held_lie L ⟨a1, a2⟩ ⟨a3, a4⟩ hc
      obtain ⟨V, e2, LV, hV⟩ := ih (done ++ [x]) U (fun d hd => hl d (List.mem_cons_of_mem _ hd)) LU fun d hd' => by
        rcases List.mem_append.mp hd' with h | h
        · exact up _ _ _ (hd d h)
        · rw [List.mem_singleton.mp h]; exact hb
      refine ⟨V, ?_, LV, by simpa using hV⟩
      show l.foldl (heldS (2 * n)) (heldF (2 * n) T x.1 x.2.1 x.2.2) = _
      rw [e]
      exact e2
  obtain ⟨U, e, LU, hU⟩ := core l [] wideT hl (wide_lie n pt) (fun d hd => by cases hd)
  exact ⟨U, e, LU, by simpa using hU⟩

-- NEEDS: points
/-- a closed table -/
structure Tight (n : Nat) (T : Tb) : Prop where
  sym : ∀ f g, T f g = T g f
  zer : ∀ f, rg (2 * n) f → T f (flipI f) = some 0
  link : ∀ f g h, rg (2 * n) f → rg (2 * n) g → rg (2 * n) h → ∀ v w, bd (T f g) v → bd (T (flipI g) h) w → bd (T f h) (v + w)
  half : ∀ f g, rg (2 * n) f → rg (2 * n) g → ∀ x y, bd (T f f) x → bd (T g g) y → bd (T f g) ((x + y) / 2)
  even : ∀ f, rg (2 * n) f → ∀ x, T f f = some x → x % 2 = 0
theorem wide_bd {f g v : Int} (h : bd (wideT f g) v) : g = flipI f ∧ 0 ≤ v := by
  obtain ⟨e, h1, h2⟩ := h
  unfold wideT at h1
  split at h1
  · rename_i h; cases h1; exact ⟨h, h2⟩
  · cases h1
theorem wide_tight (n : Nat) : Tight n wideT := by
  have nf : ∀ f : Int, ¬ f = flipI f := fun f h => by unfold flipI at h; omega
  refine ⟨wide_sym, fun f _ => if_pos rfl, fun f g h _ _ _ v w h1 h2 => ?_, fun f g _ _ x y h1 _ => (nf f (wide_bd h1).1).elim, fun f _ x h => (nf f (wide_bd ⟨x, h, Int.le_refl x⟩).1).elim⟩
  obtain ⟨e, h3⟩ := wide_bd h1
  rw [e, flipI_flip] at h2
  exact h2.mono (by omega)
section
variable {n : Nat} {T : Tb} {f g c : Int}
/-- no circle through the new side is below 0 -/
structure Circ (T : Tb) (f g c : Int) : Prop where
  one : ∀ v, bd (T (flipI g) (flipI f)) v → 0 ≤ v + c
  two : ∀ v w, bd (T (flipI g) (flipI g)) v → bd (T (flipI f) (flipI f)) w → 0 ≤ v + w + 2 * c
/-- one more entry behind -/
theorem rel_app (L : Tight n T) (hf : rg (2 * n) f) (hg : rg (2 * n) g) {i k h v w : Int} (hi : rg (2 * n) i) (hk : rg (2 * n) k) (hh : rg (2 * n) h) (p : bd (relF T f g c i k) v) (q : bd (T (flipI k) h) w) : bd (relF T f g c i h) (v + w) := by
  have hf' := rg_flip hf
  have hg' := rg_flip hg
  rw [bd_rel] at p ⊢
  rcases p with p | ⟨x, y, h1, h2, h3⟩ | ⟨x, y, z, h1, h2, h3, h4⟩ | ⟨x, y, h1, h2, h3⟩ | ⟨x, y, z, h1, h2, h3, h4⟩
  · exact .inl (L.link i k h hi hk hh v w p q)
  · exact .inr (.inl ⟨x, y + w, h1, L.link _ k h hg' hk hh y w h2 q, by omega⟩)
  · exact .inr (.inr (.inl ⟨x, y + w, z, h1, h2, L.link _ k h hg' hk hh y w h3 q, by omega⟩))
  · exact .inr (.inr (.inr (.inl ⟨x, y + w, h1, L.link _ k h hf' hk hh y w h2 q, by omega⟩)))
  · exact .inr (.inr (.inr (.inr ⟨x, y + w, z, h1, h2, L.link _ k h hf' hk hh y w h3 q, by omega⟩)))
theorem zer' (L : Tight n T) (hg : rg (2 * n) g) : bd (T (flipI g) g) 0 := by
  have := L.zer (flipI g) (rg_flip hg)
  rw [flipI_flip] at this
  exact ⟨0, this, Int.le_refl _⟩
/-- the new side behind -/
theorem rel_new (L : Tight n T) (C : Circ T f g c) (hf : rg (2 * n) f) (hg : rg (2 * n) g) {i v : Int} (p : bd (relF T f g c i (flipI f)) v) : bd (relF T f g c i g) (v + c) := by
  have zg := zer' L hg
  rw [bd_rel] at p ⊢
  rcases p with p | ⟨x, y, h1, h2, h3⟩ | ⟨x, y, z, h1, h2, h3, h4⟩ | ⟨x, y, h1, h2, h3⟩ | ⟨x, y, z, h1, h2, h3, h4⟩
  · exact .inr (.inl ⟨v, 0, p, zg, by omega⟩)
  · exact .inr (.inl ⟨x, 0, h1, zg, by have := C.one y h2; omega⟩)
  · exact .inr (.inr (.inl ⟨x, 0, z, h1, h2, zg, by have := C.one y h3; omega⟩))
  · exact .inr (.inr (.inl ⟨x, 0, y, h1, h2, zg, by omega⟩))
  · exact .inr (.inl ⟨x, 0, h1, zg, by have := C.two z y h2 h3; omega⟩)
theorem rel_swap (T : Tb) (f g c i j : Int) : relF T f g c i j = relF T g f c i j := by
  have one : ∀ f g v, bd (relF T f g c i j) v → bd (relF T g f c i j) v := by
    intro f g v p
    rw [bd_rel] at p ⊢
    rcases p with p | p | p | p | p
    · exact .inl p
    · exact .inr (.inr (.inr (.inl p)))
    · exact .inr (.inr (.inr (.inr p)))
    · exact .inr (.inl p)
    · exact .inr (.inr (.inl p))
  exact bd_ext fun v => ⟨one f g v, one g f v⟩
theorem Circ.swap (L : Tight n T) (C : Circ T f g c) : Circ T g f c :=
  ⟨fun v h => C.one v (by rw [L.sym]; exact h), fun v w h1 h2 => by have := C.two w v h2 h1; omega⟩
theorem rel_new' (L : Tight n T) (C : Circ T f g c) (hf : rg (2 * n) f) (hg : rg (2 * n) g) {i v : Int} (p : bd (relF T f g c i (flipI g)) v) : bd (relF T f g c i f) (v + c) := by
  rw [rel_swap] at p ⊢
  exact rel_new L (C.swap L) hg hf p
theorem rel_link (L : Tight n T) (C : Circ T f g c) (hf : rg (2 * n) f) (hg : rg (2 * n) g) {i k h v w : Int} (hi : rg (2 * n) i) (hk : rg (2 * n) k) (hh : rg (2 * n) h) (p : bd (relF T f g c i k) v) (q : bd (relF T f g c (flipI k) h) w) : bd (relF T f g c i h) (v + w) := by
  have hf' := rg_flip hf
  have hg' := rg_flip hg
  rw [bd_rel] at q
  have app : ∀ {k h v w}, rg (2 * n) k → rg (2 * n) h → bd (relF T f g c i k) v → bd (T (flipI k) h) w → bd (relF T f g c i h) (v + w) := fun hk hh p q => rel_app L hf hg hi hk hh p q
  rcases q with q | ⟨x, y, h1, h2, h3⟩ | ⟨x, y, z, h1, h2, h3, h4⟩ | ⟨x, y, h1, h2, h3⟩ | ⟨x, y, z, h1, h2, h3, h4⟩
  · exact app hk hh p q
  · exact (app hg hh (rel_new L C hf hg (app hk hf' p h1)) h2).mono (by omega)
  · have a := rel_new' L C hf hg (app hk hg' p h1)
    have b := app hf hf' a h2
    exact (app hg hh (rel_new L C hf hg b) h3).mono (by omega)
  · exact (app hf hh (rel_new' L C hf hg (app hk hg' p h1)) h2).mono (by omega)
  · have a := rel_new L C hf hg (app hk hf' p h1)
    have b := app hg hg' a h2
    exact (app hf hh (rel_new' L C hf hg b) h3).mono (by omega)
theorem rel_zer (L : Tight n T) (C : Circ T f g c) (hf : rg (2 * n) f) (hg : rg (2 * n) g) {x : Int} (hx : rg (2 * n) x) : relF T f g c x (flipI x) = some 0 := by
  have hf' := rg_flip hf
  have hg' := rg_flip hg
  have hx' := rg_flip hx
  refine zero_of (bd_rel.mpr (.inl ⟨0, L.zer x hx, Int.le_refl _⟩)) fun v p => ?_
  rw [bd_rel] at p
  have fl : ∀ a b s t, rg (2 * n) a → rg (2 * n) b → bd (T a (flipI x)) s → bd (T x b) t → bd (T a b) (s + t) := fun a b s t ha hb p q => L.link a (flipI x) b ha hx' hb s t p (by rw [flipI_flip]; exact q)
  rcases p with p | ⟨s, t, h1, h2, h3⟩ | ⟨s, t, z, h1, h2, h3, h4⟩ | ⟨s, t, h1, h2, h3⟩ | ⟨s, t, z, h1, h2, h3, h4⟩
  · obtain ⟨e, h1, h2⟩ := p
    rw [L.zer x hx] at h1
    cases h1
    exact h2
  · have := C.one _ (fl _ _ _ _ hg' hf' h2 h1)
    omega
  · have := C.two _ _ (fl _ _ _ _ hg' hg' h3 h1) h2
    omega
  · have := C.one _ (by rw [L.sym]; exact fl _ _ _ _ hf' hg' h2 h1)
    omega
  · have := C.two _ _ h2 (fl _ _ _ _ hf' hf' h3 h1)
    omega
end
/-- halving and strengthening a linked table -/
theorem str_tight {n : Nat} {R : Tb} (sy : ∀ f g, R f g = R g f) (ze : ∀ x, rg (2 * n) x → R x (flipI x) = some 0)
    (lk : ∀ i k h, rg (2 * n) i → rg (2 * n) k → rg (2 * n) h → ∀ v w, bd (R i k) v → bd (R (flipI k) h) w → bd (R i h) (v + w)) (nn : ¬ noneB (2 * n) (halF R) = true) : Tight n (strF (halF R)) := by
  have nf : ∀ f : Int, ¬ f = flipI f := fun f h => by unfold flipI at h; omega
  have hs := hal_sym sy
  have ev : ∀ i x, halF R i i = some x → x % 2 = 0 := fun i x h => by
    unfold halF at h
    rw [if_pos rfl] at h
    cases e : R i i with
    | none => rw [e] at h; cases h
    | some r =>
      rw [e] at h
      have h : r / 2 * 2 = x := Option.some.inj h
      omega
  have of_diag : ∀ i x, halF R i i = some x → ∃ r, R i i = some r ∧ x = r / 2 * 2 := fun i x h => by
    unfold halF at h
    rw [if_pos rfl] at h
    cases e : R i i with
    | none => rw [e] at h; cases h
    | some r =>
      rw [e] at h
      have h : r / 2 * 2 = x := Option.some.inj h
      exact ⟨r, rfl, h.symm⟩
  have off : ∀ i j, i ≠ j → halF R i j = R i j := fun i j h => if_neg h
  have le_diag : ∀ i v, bd (R i i) v → ∃ x, halF R i i = some x ∧ x ≤ v / 2 * 2 := fun i v ⟨r, h1, h2⟩ => ⟨r / 2 * 2, by unfold halF; rw [if_pos rfl, h1]; rfl, by omega⟩
  -- both diagonals
  have dd : ∀ i x y, rg (2 * n) i → halF R i i = some x → halF R (flipI i) (flipI i) = some y → 0 ≤ x + y := by
    intro i x y hi h1 h2
    by_cases h : 0 ≤ x + y
    · exact h
    · refine (nn (List.any_eq_true.mpr ⟨i.toNat, List.mem_range.mpr ?_, ?_⟩)).elim
      · have := hi.1; have := hi.2; omega
      · rw [Int.toNat_of_nonneg hi.1, h1, h2]
        exact decide_eq_true (by omega)
  -- the key: a half behind an entry
  have key : ∀ i h x w, rg (2 * n) i → rg (2 * n) h → halF R i i = some x → bd (halF R (flipI i) h) w → ∃ y, halF R h h = some y ∧ y ≤ x + 2 * w := by
    intro i h x w hi hh h1 h2
    by_cases e : flipI i = h
    · subst e
      obtain ⟨y, h3, h4⟩ := h2
      exact ⟨y, h3, by have := dd i x y hi h1 h3; omega⟩
    · rw [off _ _ e] at h2
      obtain ⟨r, h3, h4⟩ := of_diag i x h1
      have a := lk i i h hi hi hh r w ⟨r, h3, Int.le_refl _⟩ h2
      have b := lk h (flipI i) h hh (rg_flip hi) hh w (r + w) (by rw [sy]; exact h2) (by rw [flipI_flip]; exact a)
      obtain ⟨y, h5, h6⟩ := le_diag h _ b
      exact ⟨y, h5, by omega⟩
  have diag : ∀ i x, strF (halF R) i i = some x → halF R i i = some x := fun i x h => by
    obtain ⟨e, h1, h2⟩ := bd_str.mp ⟨x, h, Int.le_refl _⟩ |>.elim (fun z => z) fun ⟨p, q, h1, h2, h3⟩ => ⟨p, h1, by rw [h1] at h2; cases h2; omega⟩
    have : bd (strF (halF R) i i) e := bd_str.mpr (.inl ⟨e, h1, Int.le_refl _⟩)
    obtain ⟨e', h3, h4⟩ := this
    rw [h] at h3
    cases h3
    rw [h1]
    congr 1
    omega
  -- by halves
  have byh : ∀ i h x y v, halF R i i = some x → halF R h h = some y → (x + y) / 2 ≤ v → bd (strF (halF R) i h) v := fun i h x y v h1 h2 h3 => bd_str.mpr (.inr ⟨x, y, h1, h2, h3⟩)
  have half : ∀ f g, rg (2 * n) f → rg (2 * n) g → ∀ x y, bd (strF (halF R) f f) x → bd (strF (halF R) g g) y → bd (strF (halF R) f g) ((x + y) / 2) := by
    intro f g _ _ x y ⟨x', h1, h2⟩ ⟨y', h3, h4⟩
    exact byh f g x' y' _ (diag f x' h1) (diag g y' h3) (by omega)
  refine ⟨str_sym hs, fun x hx => ?_, ?_, half, fun i _ x h => ev i x (diag i x h)⟩
  · refine zero_of (bd_str.mpr (.inl ⟨0, by rw [off _ _ (nf x)]; exact ze x hx, Int.le_refl _⟩)) fun v p => ?_
    rcases bd_str.mp p with ⟨e, h1, h2⟩ | ⟨s, t, h1, h2, h3⟩
    · rw [off _ _ (nf x), ze x hx] at h1
      cases h1
      exact h2
    · have := dd x s t hx h1 h2
      have := ev _ _ h1
      have := ev _ _ h2
      omega
  · intro i k h hi hk hh v w p q
    have hk' := rg_flip hk
    rcases bd_str.mp p with p | ⟨x, y, h1, h2, h3⟩
    · rcases bd_str.mp q with q | ⟨x, y, h1, h2, h3⟩
      · by_cases e1 : i = k
        · subst e1
          obtain ⟨x, h1, h2⟩ := p
          obtain ⟨y, h3, h4⟩ := key i h x w hi hh h1 q
          have := ev _ _ h1
          exact byh i h x y _ h1 h3 (by omega)
        · by_cases e2 : flipI k = h
          · subst e2
            obtain ⟨y, h1, h2⟩ := q
            obtain ⟨x, h3, h4⟩ := key (flipI k) i y v hk' hi h1 (by rw [flipI_flip, hs]; exact p)
            have := ev _ _ h1
            exact byh i _ x y _ h3 h1 (by omega)
          · rw [off _ _ e1] at p
            rw [off _ _ e2] at q
            have := lk i k h hi hk hh v w p q
            by_cases e3 : i = h
            · subst e3
              obtain ⟨x, h1, h2⟩ := le_diag i _ this
              exact bd_str.mpr (.inl ⟨x, h1, by omega⟩)
            · exact bd_str.mpr (.inl (by rw [off _ _ e3]; exact this))
      · -- p an entry, q by halves of flip k and h
        obtain ⟨z, h4, h5⟩ := key (flipI k) i x v hk' hi h1 (by rw [flipI_flip, hs]; exact p)
        have := ev _ _ h1
        have := ev _ _ h2
        have := ev _ _ h4
        exact byh i h z y _ h4 h2 (by omega)
    · rcases bd_str.mp q with q | ⟨x', y', h4, h5, h6⟩
      · obtain ⟨z, h4, h5⟩ := key k h y w hk hh h2 q
        have := ev _ _ h1
        have := ev _ _ h2
        have := ev _ _ h4
        exact byh i h x z _ h1 h4 (by omega)
      · have := dd k y x' hk h2 h4
        have := ev _ _ h1
        have := ev _ _ h2
        have := ev _ _ h4
        have := ev _ _ h5
        exact byh i h x y' _ h1 h5 (by omega)
theorem held_tight {n : Nat} {T U : Tb} {f g c : Int} (L : Tight n T) (hf : rg (2 * n) f) (hg : rg (2 * n) g) (h : heldF (2 * n) T f g c = some U) : Tight n U := by
  have hf' := rg_flip hf
  have hg' := rg_flip hg
  unfold heldF at h
  split at h
  · cases h; exact L
  · split at h
    · cases h
    · rename_i h2
      split at h
      · cases h
      · rename_i h3
        cases h
        have C : Circ T f g c := by
          refine ⟨fun v ⟨e, h4, h5⟩ => ?_, fun v w ⟨a, a1, a2⟩ ⟨b, b1, b2⟩ => ?_⟩
          · rw [L.sym] at h4
            rw [h4] at h2
            have h2 : ¬ decide (e + c < 0) = true := h2
            rw [decide_eq_true_eq] at h2
            omega
          · -- R f f ≤ 2c + a, R f' f' ≤ b
            have r1 : bd (relF T f g c f f) (2 * c + a) := bd_rel.mpr (.inr (.inr (.inr (.inr ⟨0, 0, a, ⟨0, L.zer f hf, Int.le_refl _⟩, ⟨a, a1, Int.le_refl _⟩, zer' L hf, by omega⟩))))
            have r2 : bd (relF T f g c (flipI f) (flipI f)) b := bd_rel.mpr (.inl ⟨b, b1, Int.le_refl _⟩)
            obtain ⟨x, x1, x2⟩ := bd_hal r1
            obtain ⟨y, y1, y2⟩ := bd_hal r2
            by_cases hz : 0 ≤ x + y
            · omega
            · refine (h3 (List.any_eq_true.mpr ⟨f.toNat, List.mem_range.mpr ?_, ?_⟩)).elim
              · have := hf.1; have := hf.2; omega
              · rw [Int.toNat_of_nonneg hf.1, x1, y1]
                exact decide_eq_true (by omega)
        exact str_tight (fun i j => rel_sym L.sym f g c i j) (fun x hx => rel_zer L C hf hg hx) (fun i k h hi hk hh v w p q => rel_link L C hf hg hi hk hh p q) h3
theorem closed_tight {n : Nat} {l : List Sd} (hl : ∀ d ∈ l, sdOk (2 * n) d) {T : Tb} (h : closedF (2 * n) l = some T) : Tight n T := by
  have core : ∀ (l : List Sd) (s : Option Tb), (∀ d ∈ l, sdOk (2 * n) d) → (∀ T, s = some T → Tight n T) → ∀ T, l.foldl (heldS (2 * n)) s = some T → Tight n T := by
    intro l
    induction l with
    | nil => intro s _ hs T e; exact hs T e
    | cons d l ih =>
      intro s hl hs T e
      refine ih (heldS (2 * n) s d) (fun d hd => hl d (List.mem_cons_of_mem _ hd)) (fun U eU => ?_) T e
      cases s with
      | none => cases eU
      | some S =>
        obtain ⟨⟨a1, a2⟩, a3, a4⟩ := hl d List.mem_cons_self
        exact held_tight (hs S rfl) ⟨a1, a2⟩ ⟨a3, a4⟩ eU
  exact core l (some wideT) hl (fun T e => by cases e; exact wide_tight n) T h

-- NEEDS: tight
/-- whole numbers between bounds -/
theorem max_ex : ∀ (l : List Int), l ≠ [] → ∃ x ∈ l, ∀ y ∈ l, y ≤ x
  | [], h => (h rfl).elim
  | [a], _ => ⟨a, List.mem_singleton.mpr rfl, fun y hy => by rw [List.mem_singleton.mp hy]; exact Int.le_refl _⟩
  | a :: b :: l, _ => by
    obtain ⟨x, hx, h⟩ := max_ex (b :: l) (by simp)
    by_cases e : a ≤ x
    · exact ⟨x, List.mem_cons_of_mem _ hx, fun y hy => by
        rcases List.mem_cons.mp hy with rfl | hy
        · exact e
        · exact h y hy⟩
    · exact ⟨a, List.mem_cons_self, fun y hy => by
        rcases List.mem_cons.mp hy with rfl | hy
        · exact Int.le_refl _
        · have := h y hy; omega⟩
theorem low_ex : ∀ (l : List Int), ∃ x, ∀ y ∈ l, x ≤ y
  | [] => ⟨0, fun y hy => by cases hy⟩
  | a :: l => by
    obtain ⟨x, h⟩ := low_ex l
    by_cases e : a ≤ x
    · exact ⟨a, fun y hy => by
        rcases List.mem_cons.mp hy with rfl | hy
        · exact Int.le_refl _
        · have := h y hy; omega⟩
    · exact ⟨x, fun y hy => by
        rcases List.mem_cons.mp hy with rfl | hy
        · omega
        · exact h y hy⟩
theorem between (lows ups : List Int) (h : ∀ l ∈ lows, ∀ u ∈ ups, l ≤ u) : ∃ x, (∀ l ∈ lows, l ≤ x) ∧ ∀ u ∈ ups, x ≤ u := by
  by_cases e : lows = []
  · subst e
    obtain ⟨x, hx⟩ := low_ex ups
    exact ⟨x, fun l hl => (by cases hl), hx⟩
  · obtain ⟨x, hx, hm⟩ := max_ex lows e
    exact ⟨x, hm, h x hx⟩
def Keep (n : Nat) (T : Tb) (w : Int → Int) (S : Int → Bool) : Prop := ∀ f g, rg (2 * n) f → rg (2 * n) g → S f = true → S g = true → ∀ v, bd (T f g) v → w f + w g ≤ v
def boundsOf (n : Nat) (T : Tb) (S : Int → Bool) (h : Int) (m : Int → Int → Int) (m2 : Int → Int) : List Int :=
  (match T h h with | some v => [m2 v] | none => []) ++ (List.range (2 * n)).filterMap fun (g : Nat) => if S g = true then (T h g).map (m g) else none
theorem mem_bounds {n : Nat} {T : Tb} {S : Int → Bool} {h : Int} {m : Int → Int → Int} {m2 : Int → Int} {u : Int} : u ∈ boundsOf n T S h m m2 ↔ (∃ v, T h h = some v ∧ u = m2 v) ∨ ∃ g v, rg (2 * n) g ∧ S g = true ∧ T h g = some v ∧ u = m g v := by
  unfold boundsOf
  rw [List.mem_append, List.mem_filterMap]
  refine or_congr ?_ ?_
  · cases T h h with
    | none => simp
    | some v => simp
  · constructor
    · rintro ⟨g, hg, e⟩
      have hg := List.mem_range.mp hg
      split at e
      · rename_i hs
        cases ht : T h g with
        | none => rw [ht] at e; cases e
        | some v => rw [ht] at e; exact ⟨g, v, ⟨by omega, by omega⟩, hs, ht, (Option.some.inj e).symm⟩
      · cases e
    · rintro ⟨g, v, ⟨g0, g1⟩, hs, ht, rfl⟩
      refine ⟨g.toNat, List.mem_range.mpr (by omega), ?_⟩
      rw [Int.toNat_of_nonneg g0, if_pos hs, ht]; rfl
section
variable {n : Nat} {T : Tb}
theorem ext_point (L : Tight n T) {w : Int → Int} (fl : ∀ f, w (flipI f) = -w f) {S : Int → Bool} (hS : ∀ f, S (flipI f) = S f) (kp : Keep n T w S) {h : Int} (hh : rg (2 * n) h) (hn : S h = false) (lows : List Int)
    (h1 : ∀ l ∈ lows, ∀ v, bd (T h h) v → 2 * l ≤ v) (h2 : ∀ l ∈ lows, ∀ g, rg (2 * n) g → S g = true → ∀ v, bd (T h g) v → l + w g ≤ v) :
    ∃ w' : Int → Int, (∀ f, w' (flipI f) = -w' f) ∧ (∀ f, S f = true → w' f = w f) ∧ Keep n T w' (fun f => S f || decide (f = h) || decide (f = flipI h)) ∧ ∀ l ∈ lows, l ≤ w' h := by
  have hh' := rg_flip hh
  have hn' : S (flipI h) = false := by rw [hS]; exact hn
  have nf : ∀ f : Int, ¬ f = flipI f := fun f h => by unfold flipI at h; omega
  have E := L.even
  obtain ⟨x, hl, hu⟩ := between (lows ++ boundsOf n T S (flipI h) (fun g v => w g - v) (fun v => -(v / 2))) (boundsOf n T S h (fun g v => v - w g) (fun v => v / 2)) (fun l hl u hu => by
    rw [List.mem_append, mem_bounds] at hl
    rw [mem_bounds] at hu
    rcases hl with hl | ⟨v, e1, rfl⟩ | ⟨g, v, hg, hs, e1, rfl⟩ <;> rcases hu with ⟨u, e2, rfl⟩ | ⟨g', u, hg', hs', e2, rfl⟩
    · have := h1 l hl u ⟨u, e2, Int.le_refl _⟩
      omega
    · have := h2 l hl g' hg' hs' u ⟨u, e2, Int.le_refl _⟩
      omega
    · obtain ⟨z, z1, z2⟩ := L.half h (flipI h) hh hh' u v ⟨u, e2, Int.le_refl _⟩ ⟨v, e1, Int.le_refl _⟩
      rw [L.zer h hh] at z1
      cases z1
      have := E h hh u e2
      have := E _ hh' v e1
      omega
    · -- half of flip h against an entry of h
      have a := L.link g' h (flipI h) hg' hh hh' u v (by rw [L.sym]; exact ⟨u, e2, Int.le_refl _⟩) ⟨v, e1, Int.le_refl _⟩
      have b := L.link g' (flipI h) g' hg' hh' hg' (u + v) u a (by rw [flipI_flip]; exact ⟨u, e2, Int.le_refl _⟩)
      have := kp g' g' hg' hg' hs' hs' _ b
      have := E _ hh' v e1
      omega
    · have a := L.link g (flipI h) h hg hh' hh v u (by rw [L.sym]; exact ⟨v, e1, Int.le_refl _⟩) (by rw [flipI_flip]; exact ⟨u, e2, Int.le_refl _⟩)
      have b := L.link g h g hg hh hg (v + u) v a ⟨v, e1, Int.le_refl _⟩
      have := kp g g hg hg hs hs _ b
      have := E _ hh u e2
      omega
    · have a := L.link g' h g hg' hh hg u v (by rw [L.sym]; exact ⟨u, e2, Int.le_refl _⟩) ⟨v, e1, Int.le_refl _⟩
      have := kp g' g hg' hg hs' hs _ a
      omega)
  have lo1 : ∀ v, T (flipI h) (flipI h) = some v → -(v / 2) ≤ x := fun v e => hl _ (List.mem_append_right _ (mem_bounds.mpr (.inl ⟨v, e, rfl⟩)))
  have lo2 : ∀ g v, rg (2 * n) g → S g = true → T (flipI h) g = some v → w g - v ≤ x := fun g v a b e => hl _ (List.mem_append_right _ (mem_bounds.mpr (.inr ⟨g, v, a, b, e, rfl⟩)))
  have up1 : ∀ v, T h h = some v → x ≤ v / 2 := fun v e => hu _ (mem_bounds.mpr (.inl ⟨v, e, rfl⟩))
  have up2 : ∀ g v, rg (2 * n) g → S g = true → T h g = some v → x ≤ v - w g := fun g v a b e => hu _ (mem_bounds.mpr (.inr ⟨g, v, a, b, e, rfl⟩))
  let w' : Int → Int := fun f => if f = h then x else if f = flipI h then -x else w f
  have wh : w' h = x := if_pos rfl
  have wh' : w' (flipI h) = -x := by
    show (if flipI h = h then x else if flipI h = flipI h then -x else w (flipI h)) = -x
    rw [if_neg (fun z => nf h z.symm), if_pos rfl]
  have wo : ∀ f, f ≠ h → f ≠ flipI h → w' f = w f := fun f a b => by
    show (if f = h then x else if f = flipI h then -x else w f) = w f
    rw [if_neg a, if_neg b]
  have ws : ∀ f, S f = true → w' f = w f := fun f hs => wo f (fun z => by rw [z, hn] at hs; cases hs) (fun z => by rw [z, hn'] at hs; cases hs)
  have one : ∀ f g, rg (2 * n) f → rg (2 * n) g → (f = h ∨ f = flipI h) → (S g || decide (g = h) || decide (g = flipI h)) = true → ∀ v, bd (T f g) v → w' f + w' g ≤ v := by
    intro f g hf hg hf2 hg2 v ⟨e, h3, h4⟩
    simp only [Bool.or_eq_true, decide_eq_true_eq] at hg2
    rcases hf2 with rfl | rfl
    · rcases hg2 with (hs | rfl) | rfl
      · rw [wh, ws g hs]
        have := up2 g e hg hs h3
        omega
      · rw [wh]
        have := up1 e h3
        omega
      · rw [wh, wh']
        rw [L.zer _ hf] at h3
        cases h3
        omega
    · rcases hg2 with (hs | rfl) | rfl
      · rw [wh', ws g hs]
        have := lo2 g e hg hs h3
        omega
      · rw [wh, wh']
        rw [L.sym, L.zer _ hg] at h3
        cases h3
        omega
      · rw [wh']
        have := lo1 e h3
        omega
  refine ⟨w', fun f => ?_, ws, fun f g hf hg hsf hsg v hv => ?_, fun l hl' => by rw [wh]; exact hl l (List.mem_append_left _ hl')⟩
  · by_cases a : f = h
    · subst a; rw [wh, wh']
    · by_cases b : f = flipI h
      · subst b; rw [flipI_flip, wh, wh']; omega
      · rw [wo f a b, wo _ (fun z => b (by rw [← z, flipI_flip])) (fun z => a (by have := congrArg flipI z; rw [flipI_flip, flipI_flip] at this; exact this)), fl]
  · by_cases a : f = h ∨ f = flipI h
    · exact one f g hf hg a hsg v hv
    · by_cases b : g = h ∨ g = flipI h
      · rw [Int.add_comm]
        exact one g f hg hf b hsf v (by rw [L.sym]; exact hv)
      · have sf : S f = true := by
          simp only [Bool.or_eq_true, decide_eq_true_eq] at hsf
          rcases hsf with (h | h) | h
          · exact h
          · exact (a (.inl h)).elim
          · exact (a (.inr h)).elim
        have sg : S g = true := by
          simp only [Bool.or_eq_true, decide_eq_true_eq] at hsg
          rcases hsg with (h | h) | h
          · exact h
          · exact (b (.inl h)).elim
          · exact (b (.inr h)).elim
        rw [ws f sf, ws g sg]
        exact kp f g hf hg sf sg v hv
theorem fill_point (L : Tight n T) {w : Int → Int} (fl : ∀ f, w (flipI f) = -w f) {S : Int → Bool} (hS : ∀ f, S (flipI f) = S f) (kp : Keep n T w S) :
    ∃ w' : Int → Int, (∀ f, w' (flipI f) = -w' f) ∧ (∀ f, S f = true → w' f = w f) ∧ Keep n T w' (fun _ => true) := by
  have core : ∀ m : Nat, m ≤ n → ∃ w' : Int → Int, (∀ f, w' (flipI f) = -w' f) ∧ (∀ f, S f = true → w' f = w f) ∧ Keep n T w' (fun f => S f || decide (f / 2 < m)) := by
    intro m
    induction m with
    | zero =>
      intro _
      refine ⟨w, fl, fun _ _ => rfl, fun f g hf hg a b v hv => kp f g hf hg ?_ ?_ v hv⟩
      · simp only [Bool.or_eq_true, decide_eq_true_eq] at a
        rcases a with a | a
        · exact a
        · have := hf.1; omega
      · simp only [Bool.or_eq_true, decide_eq_true_eq] at b
        rcases b with b | b
        · exact b
        · have := hg.1; omega
    | succ m ih =>
      intro hm
      obtain ⟨w1, fl1, ag, kp1⟩ := ih (by omega)
      have cov : ∀ f : Int, f / 2 < ((m + 1 : Nat) : Int) ↔ f / 2 < (m : Int) ∨ f = 2 * (m : Int) ∨ f = flipI (2 * (m : Int)) := fun f => by unfold flipI; omega
      by_cases hs : (S (2 * (m : Int)) || decide (2 * (m : Int) / 2 < (m : Int))) = true
      · have hs1 : S (2 * (m : Int)) = true := by
          simp only [Bool.or_eq_true, decide_eq_true_eq] at hs
          rcases hs with h | h
          · exact h
          · omega
        have hs2 : S (flipI (2 * (m : Int))) = true := by rw [hS]; exact hs1
        have imp : ∀ f, (S f || decide (f / 2 < ((m + 1 : Nat) : Int))) = true → (S f || decide (f / 2 < (m : Int))) = true := fun f a => by
          simp only [Bool.or_eq_true, decide_eq_true_eq] at a ⊢
          rcases a with a | a
          · exact .inl a
          · rcases (cov f).mp a with b | b | b
            · exact .inr b
            · rw [b]; exact .inl hs1
            · rw [b]; exact .inl hs2
        exact ⟨w1, fl1, ag, fun f g hf hg a b v hv => kp1 f g hf hg (imp f a) (imp g b) v hv⟩
      · obtain ⟨w2, fl2, ag2, kp2, _⟩ := ext_point L fl1 (S := fun f => S f || decide (f / 2 < (m : Int))) (fun f => by
          show (S (flipI f) || decide (flipI f / 2 < (m : Int))) = (S f || decide (f / 2 < (m : Int)))
          rw [hS, show flipI f / 2 = f / 2 by unfold flipI; omega]) kp1 (h := 2 * (m : Int)) ⟨by omega, by omega⟩ (Bool.not_eq_true _ ▸ hs) [] (fun l hl => by cases hl) (fun l hl => by cases hl)
        have imp : ∀ f, (S f || decide (f / 2 < ((m + 1 : Nat) : Int))) = true → ((S f || decide (f / 2 < (m : Int))) || decide (f = 2 * (m : Int)) || decide (f = flipI (2 * (m : Int)))) = true := fun f a => by
          simp only [Bool.or_eq_true, decide_eq_true_eq] at a ⊢
          rcases a with a | a
          · exact .inl (.inl (.inl a))
          · rcases (cov f).mp a with b | b | b
            · exact .inl (.inl (.inr b))
            · exact .inl (.inr b)
            · exact .inr b
        refine ⟨w2, fl2, fun f hs => ?_, fun f g hf hg a b v hv => kp2 f g hf hg (imp f a) (imp g b) v hv⟩
        rw [ag2 f (by show (S f || decide (f / 2 < (m : Int))) = true; rw [hs]; rfl), ag f hs]
  obtain ⟨w1, fl1, ag, kp1⟩ := core n (Nat.le_refl _)
  refine ⟨w1, fl1, ag, fun f g hf hg _ _ v hv => kp1 f g hf hg ?_ ?_ v hv⟩
  · simp only [Bool.or_eq_true, decide_eq_true_eq]
    right
    have := hf.2
    omega
  · simp only [Bool.or_eq_true, decide_eq_true_eq]
    right
    have := hg.2
    omega
def Lies (n : Nat) (T : Tb) (pt : List Int) : Prop := pt.length = n ∧ ∀ f g, rg (2 * n) f → rg (2 * n) g → ∀ v, bd (T f g) v → worthI pt f + worthI pt g ≤ v
theorem pt_of {w : Int → Int} (fl : ∀ f, w (flipI f) = -w f) (kp : Keep n T w (fun _ => true)) : ∃ pt : List Int, Lies n T pt ∧ ∀ f, rg (2 * n) f → worthI pt f = w f := by
  have e : ∀ f, rg (2 * n) f → worthI ((List.range n).map fun (k : Nat) => w (2 * (k : Int))) f = w f := fun f hf => by
    have h0 := hf.1
    have h1 := hf.2
    have hl : (f / 2).toNat < n := by omega
    have g : ((List.range n).map fun (k : Nat) => w (2 * (k : Int))).getD (f / 2).toNat 0 = w (2 * (f / 2)) := by
      rw [List.getD_eq_getElem?_getD, List.getElem?_map, List.getElem?_range hl]
      show w (2 * (((f / 2).toNat : Nat) : Int)) = _
      rw [Int.toNat_of_nonneg (by omega)]
    unfold worthI
    rw [g]
    rcases Int.emod_two_eq f with h | h
    · rw [if_neg (by omega)]
      congr 1
      omega
    · rw [if_pos h, ← fl]
      congr 1
      unfold flipI
      omega
  exact ⟨_, ⟨by rw [List.length_map, List.length_range], fun f g hf hg v hv => by rw [e f hf, e g hg]; exact kp f g hf hg rfl rfl v hv⟩, e⟩
/-- a sum of two forms is met as far as the table leaves it open -/
theorem reach (L : Tight n T) {f g K : Int} (hf : rg (2 * n) f) (hg : rg (2 * n) g) (hK : ∀ v, bd (T f g) v → K ≤ v) : ∃ pt, Lies n T pt ∧ K ≤ worthI pt f + worthI pt g := by
  have hf' := rg_flip hf
  have nf : ∀ f : Int, ¬ f = flipI f := fun f h => by unfold flipI at h; omega
  have kp0 : Keep n T (fun _ => 0) (fun _ => false) := fun _ _ _ _ a => by cases a
  have fin : ∀ (w : Int → Int) (S : Int → Bool), (∀ f, w (flipI f) = -w f) → (∀ f, S (flipI f) = S f) → Keep n T w S → S f = true → S g = true → K ≤ w f + w g → ∃ pt, Lies n T pt ∧ K ≤ worthI pt f + worthI pt g := by
    intro w S fl hS kp sf sg hw
    obtain ⟨w', fl', ag, kp'⟩ := fill_point L fl hS kp
    obtain ⟨pt, hp, e⟩ := pt_of fl' kp'
    exact ⟨pt, hp, by rw [e f hf, e g hg, ag f sf, ag g sg]; exact hw⟩
  have sy : ∀ (S : Int → Bool) (h : Int), (∀ f, S (flipI f) = S f) → ∀ f, (S (flipI f) || decide (flipI f = h) || decide (flipI f = flipI h)) = (S f || decide (f = h) || decide (f = flipI h)) := by
    intro S h hS f
    have a : (flipI f = h) ↔ (f = flipI h) := ⟨fun z => by rw [← z, flipI_flip], fun z => by rw [z, flipI_flip]⟩
    have b : (flipI f = flipI h) ↔ (f = h) := ⟨fun z => by have := congrArg flipI z; rw [flipI_flip, flipI_flip] at this; exact this, fun z => by rw [z]⟩
    rw [hS]
    simp only [a, b]
    cases S f <;> cases decide (f = h) <;> cases decide (f = flipI h) <;> rfl
  by_cases e1 : g = f
  · subst e1
    obtain ⟨w1, fl1, _, kp1, hl⟩ := ext_point L (w := fun _ => 0) (fun _ => by simp) (S := fun _ => false) (fun _ => rfl) kp0 hf rfl [(K + 1) / 2] (fun l hl v ⟨v', a, b⟩ => by
      rw [List.mem_singleton.mp hl]
      have := L.even _ hf v' a
      have := hK v' ⟨v', a, Int.le_refl _⟩
      omega) (fun l hl g' _ hs => by cases hs)
    have := hl _ (List.mem_singleton.mpr rfl)
    exact fin w1 _ fl1 (sy (fun _ => false) g fun _ => rfl) kp1 (by simp) (by simp) (by omega)
  · by_cases e2 : g = flipI f
    · obtain ⟨w1, fl1, _, kp1, hl⟩ := ext_point L (w := fun _ => 0) (fun _ => by simp) (S := fun _ => false) (fun _ => rfl) kp0 hf rfl [] (fun l hl => by cases hl) (fun l hl => by cases hl)
      have := hK 0 ⟨0, by rw [e2]; exact L.zer f hf, Int.le_refl _⟩
      exact fin w1 _ fl1 (sy (fun _ => false) f fun _ => rfl) kp1 (by simp) (by simp [e2]) (by rw [e2, fl1]; omega)
    · let lows : List Int := (match T g g with | some v => [K - v / 2] | none => []) ++ (match T g (flipI f) with | some v => [(K - v + 1) / 2] | none => [])
      have ml : ∀ l, l ∈ lows ↔ (∃ v, T g g = some v ∧ l = K - v / 2) ∨ ∃ v, T g (flipI f) = some v ∧ l = (K - v + 1) / 2 := fun l => by
        show l ∈ (match T g g with | some v => [K - v / 2] | none => []) ++ (match T g (flipI f) with | some v => [(K - v + 1) / 2] | none => []) ↔ _
        rw [List.mem_append]
        refine or_congr ?_ ?_
        · cases T g g <;> simp
        · cases T g (flipI f) <;> simp
      obtain ⟨w1, fl1, _, kp1, hl⟩ := ext_point L (w := fun _ => 0) (fun _ => by simp) (S := fun _ => false) (fun _ => rfl) kp0 hf rfl lows (fun l hl v ⟨x, a, b⟩ => by
        have ex := L.even _ hf x a
        rcases (ml l).mp hl with ⟨v', c, rfl⟩ | ⟨v', c, rfl⟩
        · have := hK _ (L.half f g hf hg x v' ⟨x, a, Int.le_refl _⟩ ⟨v', c, Int.le_refl _⟩)
          have := L.even _ hg v' c
          omega
        · have := hK _ (L.link f f g hf hf hg x v' ⟨x, a, Int.le_refl _⟩ (by rw [L.sym]; exact ⟨v', c, Int.le_refl _⟩))
          omega) (fun l hl g' _ hs => by cases hs)
      obtain ⟨w2, fl2, ag2, kp2, hl2⟩ := ext_point L fl1 (sy (fun _ => false) f fun _ => rfl) kp1 hg (by simp [e1, e2]) [K - w1 f] (fun l hl' v ⟨x, a, b⟩ => by
        rw [List.mem_singleton.mp hl']
        have := hl _ ((ml _).mpr (.inl ⟨x, a, rfl⟩))
        have := L.even _ hg x a
        omega) (fun l hl' g' hg' hs v ⟨x, a, b⟩ => by
        rw [List.mem_singleton.mp hl']
        simp only [Bool.false_or, Bool.or_eq_true, decide_eq_true_eq] at hs
        rcases hs with rfl | rfl
        · have := hK x (by rw [L.sym]; exact ⟨x, a, Int.le_refl _⟩)
          omega
        · rw [fl1]
          have := hl _ ((ml _).mpr (.inr ⟨x, a, rfl⟩))
          omega)
      have h3 := hl2 _ (List.mem_singleton.mpr rfl)
      have h4 := ag2 f (by simp)
      exact fin w2 _ fl2 (sy (fun x => false || decide (x = f) || decide (x = flipI f)) g (sy (fun _ => false) f fun _ => rfl)) kp2 (by simp) (by simp) (by omega)
end
/-- closed tables that the same points lie in are the same -/
theorem tight_same {n : Nat} {T U : Tb} (L : Tight n T) (M : Tight n U) (h : ∀ pt, Lies n T pt ↔ Lies n U pt) {f g : Int} (hf : rg (2 * n) f) (hg : rg (2 * n) g) : T f g = U f g := by
  have one : ∀ {T U : Tb}, Tight n T → Tight n U → (∀ pt, Lies n T pt ↔ Lies n U pt) → ∀ v, bd (T f g) v → bd (U f g) v := by
    intro T U L M h v hv
    by_cases hu : bd (U f g) v
    · exact hu
    · obtain ⟨pt, hp, hk⟩ := reach M hf hg (K := v + 1) fun u ⟨e, a, b⟩ => by
        by_cases hh : v + 1 ≤ u
        · exact hh
        · exact (hu ⟨e, a, by omega⟩).elim
      have := ((h pt).mpr hp).2 f g hf hg v hv
      omega
  exact bd_ext fun v => ⟨one L M h v, one M L (fun pt => (h pt).symm) v⟩
theorem held_bd {n : Nat} {T U : Tb} {f g c : Int} (L : Tight n T) (hf : rg (2 * n) f) (hg : rg (2 * n) g) (h : heldF (2 * n) T f g c = some U) : bd (U f g) c ∧ ∀ i j v, bd (T i j) v → bd (U i j) v := by
  unfold heldF at h
  split at h
  · rename_i h1
    cases h
    exact ⟨leO_bd.mp h1, fun _ _ _ h => h⟩
  · split at h
    · cases h
    · split at h
      · cases h
      · cases h
        refine ⟨bd_str.mpr (.inl (bd_hal (bd_rel.mpr (.inr (.inl ⟨0, 0, ⟨0, L.zer f hf, Int.le_refl _⟩, zer' L hg, by omega⟩))))), fun i j v hv => bd_str.mpr (.inl (bd_hal (bd_rel.mpr (.inl hv))))⟩
theorem closed_bd {n : Nat} {l : List Sd} (hl : ∀ d ∈ l, sdOk (2 * n) d) {T : Tb} (h : closedF (2 * n) l = some T) : ∀ d ∈ l, bd (T d.1 d.2.1) d.2.2 := by
  have core : ∀ (l done : List Sd) (s : Option Tb), (∀ d ∈ l, sdOk (2 * n) d) → (∀ T, s = some T → Tight n T ∧ ∀ d ∈ done, bd (T d.1 d.2.1) d.2.2) → ∀ T, l.foldl (heldS (2 * n)) s = some T → ∀ d ∈ done ++ l, bd (T d.1 d.2.1) d.2.2 := by
    intro l
    induction l with
    | nil => intro done s _ hs T e; simpa using (hs T e).2
    | cons d l ih =>
      intro done s hl hs T e
      have := ih (done ++ [d]) (heldS (2 * n) s d) (fun d hd => hl d (List.mem_cons_of_mem _ hd)) (fun U eU => ?_) T e
      · simpa using this
      · cases s with
        | none => cases eU
        | some S =>
          obtain ⟨⟨a1, a2⟩, a3, a4⟩ := hl d List.mem_cons_self
          obtain ⟨LS, hd⟩ := hs S rfl
          have hb := held_bd LS ⟨a1, a2⟩ ⟨a3, a4⟩ eU
          refine ⟨held_tight LS ⟨a1, a2⟩ ⟨a3, a4⟩ eU, fun d' hd' => ?_⟩
          rcases List.mem_append.mp hd' with h | h
          · exact hb.2 _ _ _ (hd d' h)
          · rw [List.mem_singleton.mp h]; exact hb.1
  have := core l [] (some wideT) hl (fun T e => by cases e; exact ⟨wide_tight n, fun d hd => by cases hd⟩) T h
  simpa using this
def keepsL (pt : List Int) (l : List Sd) : Prop := ∀ d ∈ l, worthI pt d.1 + worthI pt d.2.1 ≤ d.2.2
theorem closed_points {n : Nat} {l : List Sd} (hl : ∀ d ∈ l, sdOk (2 * n) d) {T : Tb} (h : closedF (2 * n) l = some T) (pt : List Int) : Lies n T pt ↔ pt.length = n ∧ keepsL pt l := by
  constructor
  · rintro ⟨a, b⟩
    exact ⟨a, fun d hd => b _ _ (hl d hd).1 (hl d hd).2 _ (closed_bd hl h d hd)⟩
  · rintro ⟨a, b⟩
    obtain ⟨U, e, LU, _⟩ := closed_lie n pt l fun d hd => ⟨hl d hd, b d hd⟩
    rw [h] at e
    cases e
    exact ⟨a, LU.lie⟩
/-- two lists of sides that the same points keep -/
theorem closed_same {n : Nat} {l m : List Sd} (h0 : 1 ≤ n) (hl : ∀ d ∈ l, sdOk (2 * n) d) (hm : ∀ d ∈ m, sdOk (2 * n) d) (h : ∀ pt : List Int, pt.length = n → (keepsL pt l ↔ keepsL pt m)) :
    (closedF (2 * n) l = none ∧ closedF (2 * n) m = none) ∨ ∃ T U, closedF (2 * n) l = some T ∧ closedF (2 * n) m = some U ∧ ∀ f g, rg (2 * n) f → rg (2 * n) g → T f g = U f g := by
  have one : ∀ {l m : List Sd}, (∀ d ∈ l, sdOk (2 * n) d) → (∀ d ∈ m, sdOk (2 * n) d) → (∀ pt : List Int, pt.length = n → (keepsL pt l ↔ keepsL pt m)) → ∀ T, closedF (2 * n) l = some T → ∃ U, closedF (2 * n) m = some U := by
    intro l m hl hm h T e
    obtain ⟨pt, hp, _⟩ := reach (closed_tight hl e) (f := 0) (g := flipI 0) (K := 0) ⟨by omega, by omega⟩ (rg_flip ⟨by omega, by omega⟩) fun v ⟨x, a, b⟩ => by
      rw [(closed_tight hl e).zer 0 ⟨by omega, by omega⟩] at a
      cases a
      exact b
    obtain ⟨a, b⟩ := (closed_points hl e pt).mp hp
    obtain ⟨U, e2, _⟩ := closed_lie n pt m fun d hd => ⟨hm d hd, (h pt a).mp b d hd⟩
    exact ⟨U, e2⟩
  cases e : closedF (2 * n) l with
  | none =>
    left
    refine ⟨rfl, ?_⟩
    cases e2 : closedF (2 * n) m with
    | none => rfl
    | some U =>
      obtain ⟨T, e3⟩ := one hm hl (fun pt hp => (h pt hp).symm) U e2
      rw [e] at e3; cases e3
  | some T =>
    right
    obtain ⟨U, e2⟩ := one hl hm h T e
    refine ⟨T, U, rfl, e2, fun f g hf hg => tight_same (closed_tight hl e) (closed_tight hm e2) (fun pt => ?_) hf hg⟩
    rw [closed_points hl e, closed_points hm e2]
    exact ⟨fun ⟨a, b⟩ => ⟨a, (h pt a).mp b⟩, fun ⟨a, b⟩ => ⟨a, (h pt a).mpr b⟩⟩

-- NEEDS: reach
section
variable {n : Nat} {T : Tb}
/-- a number between the bounds goes on with a point -/
theorem ext_val (L : Tight n T) {w w' : Int → Int} {S : Int → Bool} (kp : Keep n T w S) {h x : Int} (hh : rg (2 * n) h) (wh : w' h = x) (wh' : w' (flipI h) = -x) (ws : ∀ f, rg (2 * n) f → S f = true → w' f = w f)
    (up1 : ∀ v, T h h = some v → 2 * x ≤ v) (lo1 : ∀ v, T (flipI h) (flipI h) = some v → -(2 * x) ≤ v) (up2 : ∀ g v, rg (2 * n) g → S g = true → T h g = some v → x + w g ≤ v) (lo2 : ∀ g v, rg (2 * n) g → S g = true → T (flipI h) g = some v → -x + w g ≤ v) :
    Keep n T w' (fun f => S f || decide (f = h) || decide (f = flipI h)) := by
  have one : ∀ f g, rg (2 * n) f → rg (2 * n) g → (f = h ∨ f = flipI h) → (S g || decide (g = h) || decide (g = flipI h)) = true → ∀ v, bd (T f g) v → w' f + w' g ≤ v := by
    intro f g hf hg hf2 hg2 v ⟨e, h3, h4⟩
    simp only [Bool.or_eq_true, decide_eq_true_eq] at hg2
    rcases hf2 with rfl | rfl
    · rcases hg2 with (hs | rfl) | rfl
      · rw [wh, ws g hg hs]
        have := up2 g e hg hs h3
        omega
      · rw [wh]
        have := up1 e h3
        omega
      · rw [wh, wh']
        rw [L.zer _ hf] at h3
        cases h3
        omega
    · rcases hg2 with (hs | rfl) | rfl
      · rw [wh', ws g hg hs]
        have := lo2 g e hg hs h3
        omega
      · rw [wh, wh']
        rw [L.sym, L.zer _ hg] at h3
        cases h3
        omega
      · rw [wh']
        have := lo1 e h3
        omega
  intro f g hf hg hsf hsg v hv
  by_cases a : f = h ∨ f = flipI h
  · exact one f g hf hg a hsg v hv
  · by_cases b : g = h ∨ g = flipI h
    · rw [Int.add_comm]
      exact one g f hg hf b hsf v (by rw [L.sym]; exact hv)
    · have sf : S f = true := by
        simp only [Bool.or_eq_true, decide_eq_true_eq] at hsf
        rcases hsf with (h | h) | h
        · exact h
        · exact (a (.inl h)).elim
        · exact (a (.inr h)).elim
      have sg : S g = true := by
        simp only [Bool.or_eq_true, decide_eq_true_eq] at hsg
        rcases hsg with (h | h) | h
        · exact h
        · exact (b (.inl h)).elim
        · exact (b (.inr h)).elim
      rw [ws f hf sf, ws g hg sg]
      exact kp f g hf hg sf sg v hv
/-- the least bound of a form beside known ones -/
def topStep (T : Tb) (f : Int) (pt : List Int) (t : Option Int) (k : Nat) : Option Int := lessO (lessO t (addO (T f (2 * (k : Int))) (some (-worthI pt (2 * (k : Int)))))) (addO (T f (2 * (k : Int) + 1)) (some (-worthI pt (2 * (k : Int) + 1))))
def topV (T : Tb) (f : Int) (pt : List Int) (ks : List Nat) : Option Int := ks.foldl (topStep T f pt) ((T f f).map (· / 2))
theorem bd_step {f v : Int} {pt : List Int} {t : Option Int} {k : Nat} : bd (topStep T f pt t k) v ↔ bd t v ∨ ∃ g, g / 2 = (k : Int) ∧ ∃ e, T f g = some e ∧ e - worthI pt g ≤ v := by
  unfold topStep
  have one : ∀ g, bd (addO (T f g) (some (-worthI pt g))) v ↔ ∃ e, T f g = some e ∧ e - worthI pt g ≤ v := by
    intro g
    cases T f g with
    | none => exact ⟨fun ⟨e, h, _⟩ => (by cases h), fun ⟨e, h, _⟩ => (by cases h)⟩
    | some x =>
      show bd (some (x + -worthI pt g)) v ↔ _
      rw [bd_some]
      exact ⟨fun h => ⟨x, rfl, by omega⟩, fun ⟨e, h1, h2⟩ => by cases h1; omega⟩
  rw [bd_less, bd_less, one, one]
  constructor
  · rintro ((h | h) | h)
    · exact .inl h
    · exact .inr ⟨_, by omega, h⟩
    · exact .inr ⟨_, by omega, h⟩
  · rintro (h | ⟨g, h1, h2⟩)
    · exact .inl (.inl h)
    · have : g = 2 * (k : Int) ∨ g = 2 * (k : Int) + 1 := by omega
      rcases this with rfl | rfl
      · exact .inl (.inr h2)
      · exact .inr h2
theorem bd_top {f v : Int} {pt : List Int} {m : Nat} : bd (topV T f pt (List.range m)) v ↔ (∃ x, T f f = some x ∧ x / 2 ≤ v) ∨ ∃ g, 0 ≤ g ∧ g / 2 < (m : Int) ∧ ∃ e, T f g = some e ∧ e - worthI pt g ≤ v := by
  unfold topV
  have core : ∀ (ks : List Nat) (t : Option Int), bd (ks.foldl (topStep T f pt) t) v ↔ bd t v ∨ ∃ g, (∃ k ∈ ks, g / 2 = (k : Int)) ∧ ∃ e, T f g = some e ∧ e - worthI pt g ≤ v := by
    intro ks
    induction ks with
    | nil => intro t; exact ⟨.inl, fun h => h.elim id fun ⟨g, ⟨k, hk, _⟩, _⟩ => (by cases hk)⟩
    | cons k ks ih =>
      intro t
      rw [List.foldl_cons, ih, bd_step]
      constructor
      · rintro ((h | ⟨g, h1, h2⟩) | ⟨g, ⟨k', h0, h1⟩, h2⟩)
        · exact .inl h
        · exact .inr ⟨g, ⟨k, List.mem_cons_self, h1⟩, h2⟩
        · exact .inr ⟨g, ⟨k', List.mem_cons_of_mem _ h0, h1⟩, h2⟩
      · rintro (h | ⟨g, ⟨k', h0, h1⟩, h2⟩)
        · exact .inl (.inl h)
        · rcases List.mem_cons.mp h0 with rfl | h0
          · exact .inl (.inr ⟨g, h1, h2⟩)
          · exact .inr ⟨g, ⟨k', h0, h1⟩, h2⟩
  rw [core]
  refine or_congr ?_ ?_
  · cases T f f with
    | none => exact ⟨fun ⟨e, h, _⟩ => (by cases h), fun ⟨e, h, _⟩ => (by cases h)⟩
    | some x =>
      show bd (some (x / 2)) v ↔ _
      rw [bd_some]
      exact ⟨fun h => ⟨x, rfl, h⟩, fun ⟨e, h1, h2⟩ => by cases h1; exact h2⟩
  · constructor
    · rintro ⟨g, ⟨k, hk, h1⟩, h2⟩
      have := List.mem_range.mp hk
      exact ⟨g, by omega, by omega, h2⟩
    · rintro ⟨g, h0, h1, h2⟩
      exact ⟨g, ⟨(g / 2).toNat, List.mem_range.mpr (by omega), by omega⟩, h2⟩
/-- the number nearest to 0 between the bounds -/
def numV (hi lo : Option Int) : Int := match lo with
  | some l => if l < 0 then -l else (match hi with | some u => if u < 0 then u else 0 | none => 0)
  | none => (match hi with | some u => if u < 0 then u else 0 | none => 0)
theorem num_ok {hi lo : Option Int} {x : Int} (h1 : ∀ u, hi = some u → x ≤ u) (h2 : ∀ l, lo = some l → -x ≤ l) : (∀ u, hi = some u → numV hi lo ≤ u) ∧ ∀ l, lo = some l → -(numV hi lo) ≤ l := by
  unfold numV
  cases hi with
  | none =>
    cases lo with
    | none => exact ⟨fun u e => (by cases e), fun u e => (by cases e)⟩
    | some l =>
      refine ⟨fun u e => (by cases e), fun u e => ?_⟩
      cases e
      simp only
      split <;> omega
  | some u =>
    have a1 := h1 u rfl
    cases lo with
    | none =>
      refine ⟨fun u e => ?_, fun u e => (by cases e)⟩
      cases e
      simp only
      split <;> omega
    | some l =>
      have a2 := h2 l rfl
      refine ⟨fun u e => ?_, fun u e => ?_⟩ <;> cases e <;> simp only <;> split <;> (try split) <;> omega
def nextV (T : Tb) (pt : List Int) (k : Nat) : List Int := pt ++ [numV (topV T (2 * (k : Int)) pt (List.range k)) (topV T (2 * (k : Int) + 1) pt (List.range k))]
def someV (T : Tb) (m : Nat) : List Int := (List.range m).foldl (nextV T) []
theorem someV_succ (m : Nat) : someV T (m + 1) = nextV T (someV T m) m := by
  unfold someV
  rw [List.range_succ, List.foldl_append]
  rfl
theorem someV_len (m : Nat) : (someV T m).length = m := by
  induction m with
  | zero => rfl
  | succ m ih => rw [someV_succ]; unfold nextV; rw [List.length_append, ih]; rfl
theorem worth_app {pt : List Int} {x f : Int} (h0 : 0 ≤ f) (h : f / 2 < (pt.length : Int)) : worthI (pt ++ [x]) f = worthI pt f := by
  unfold worthI
  have : (pt ++ [x]).getD (f / 2).toNat 0 = pt.getD (f / 2).toNat 0 := by
    rw [List.getD_eq_getElem?_getD, List.getD_eq_getElem?_getD, List.getElem?_append_left (by omega)]
  rw [this]
theorem worth_last {pt : List Int} {x : Int} : worthI (pt ++ [x]) (2 * (pt.length : Int)) = x := by
  unfold worthI
  rw [if_neg (by omega), show 2 * (pt.length : Int) / 2 = (pt.length : Int) by omega, List.getD_eq_getElem?_getD, Int.toNat_natCast, List.getElem?_append_right (Nat.le_refl _), Nat.sub_self]
  rfl
theorem some_keep (L : Tight n T) : ∀ m, m ≤ n → Keep n T (worthI (someV T m)) (fun f => decide (f / 2 < (m : Int))) := by
  intro m
  induction m with
  | zero =>
    intro _ f g hf hg a
    simp only [decide_eq_true_eq] at a
    have := hf.1
    omega
  | succ m ih =>
    intro hm
    have kp := ih (by omega)
    have hh : rg (2 * n) (2 * (m : Int)) := ⟨by omega, by omega⟩
    have fl := flip_worth (someV T m)
    have hfl : flipI (2 * (m : Int)) = 2 * (m : Int) + 1 := by unfold flipI; omega
    have hS : ∀ f : Int, decide (flipI f / 2 < (m : Int)) = decide (f / 2 < (m : Int)) := fun f => by rw [show flipI f / 2 = f / 2 by unfold flipI; omega]
    have hn : decide (2 * (m : Int) / 2 < (m : Int)) = false := decide_eq_false (by omega)
    obtain ⟨w', fl', ag, kp', _⟩ := ext_point L fl hS kp hh hn [] (fun l hl => (by cases hl)) (fun l hl => (by cases hl))
    -- the bounds
    have inS : ∀ f, (decide (f / 2 < (m : Int)) || decide (f = 2 * (m : Int)) || decide (f = flipI (2 * (m : Int)))) = true ↔ f / 2 < (m : Int) ∨ f = 2 * (m : Int) ∨ f = flipI (2 * (m : Int)) := fun f => by
      simp only [Bool.or_eq_true, decide_eq_true_eq, or_assoc]
    have up : ∀ u, topV T (2 * (m : Int)) (someV T m) (List.range m) = some u → w' (2 * (m : Int)) ≤ u := fun u e => by
      rcases bd_top.mp ⟨u, e, Int.le_refl _⟩ with ⟨x, h1, h2⟩ | ⟨g, g0, g1, e1, h1, h2⟩
      · have := kp' _ _ hh hh ((inS _).mpr (.inr (.inl rfl))) ((inS _).mpr (.inr (.inl rfl))) x ⟨x, h1, Int.le_refl _⟩
        omega
      · have := kp' _ g hh ⟨g0, by omega⟩ ((inS _).mpr (.inr (.inl rfl))) ((inS _).mpr (.inl g1)) e1 ⟨e1, h1, Int.le_refl _⟩
        rw [ag g (decide_eq_true g1)] at this
        omega
    have lo : ∀ u, topV T (2 * (m : Int) + 1) (someV T m) (List.range m) = some u → -(w' (2 * (m : Int))) ≤ u := fun u e => by
      rw [← hfl] at e
      rcases bd_top.mp ⟨u, e, Int.le_refl _⟩ with ⟨x, h1, h2⟩ | ⟨g, g0, g1, e1, h1, h2⟩
      · have := kp' _ _ (rg_flip hh) (rg_flip hh) ((inS _).mpr (.inr (.inr rfl))) ((inS _).mpr (.inr (.inr rfl))) x ⟨x, h1, Int.le_refl _⟩
        rw [fl'] at this
        omega
      · have := kp' _ g (rg_flip hh) ⟨g0, by omega⟩ ((inS _).mpr (.inr (.inr rfl))) ((inS _).mpr (.inl g1)) e1 ⟨e1, h1, Int.le_refl _⟩
        rw [ag g (decide_eq_true g1), fl'] at this
        omega
    obtain ⟨n1, n2⟩ := num_ok up lo
    have len := someV_len (T := T) m
    rw [someV_succ]
    unfold nextV
    generalize hx : numV (topV T (2 * (m : Int)) (someV T m) (List.range m)) (topV T (2 * (m : Int) + 1) (someV T m) (List.range m)) = x at *
    have t1 : ∀ v, bd (topV T (2 * (m : Int)) (someV T m) (List.range m)) v → x ≤ v := fun v ⟨u, h1, h2⟩ => by have := n1 u h1; omega
    have t2 : ∀ v, bd (topV T (2 * (m : Int) + 1) (someV T m) (List.range m)) v → -x ≤ v := fun v ⟨u, h1, h2⟩ => by have := n2 u h1; omega
    have wl : worthI (someV T m ++ [x]) (2 * (m : Int)) = x := by
      have := worth_last (pt := someV T m) (x := x)
      rw [len] at this
      exact this
    have E := L.even
    have := ext_val L kp (h := 2 * (m : Int)) (x := x) (w' := worthI (someV T m ++ [x])) hh wl (by rw [flip_worth, wl]) ?_ (fun v hv => ?_) (fun v hv => ?_) (fun g v hg hs hv => ?_) (fun g v hg hs hv => ?_)
    · intro f g hf hg a b v hv
      have cov : ∀ f : Int, decide (f / 2 < ((m + 1 : Nat) : Int)) = true → (decide (f / 2 < (m : Int)) || decide (f = 2 * (m : Int)) || decide (f = flipI (2 * (m : Int)))) = true := fun f h => by
        rw [inS]
        rw [decide_eq_true_eq] at h
        unfold flipI
        omega
      exact this f g hf hg (cov f a) (cov g b) v hv
    · intro f hf hs
      exact worth_app hf.1 (by rw [len]; exact of_decide_eq_true hs)
    · have := t1 _ (bd_top.mpr (.inl ⟨v, hv, Int.le_refl _⟩))
      have := E _ hh v hv
      omega
    · rw [hfl] at hv
      have := t2 _ (bd_top.mpr (.inl ⟨v, hv, Int.le_refl _⟩))
      have := E _ (by rw [← hfl]; exact rg_flip hh) v hv
      omega
    · have := t1 _ (bd_top.mpr (.inr ⟨g, hg.1, of_decide_eq_true hs, v, hv, Int.le_refl _⟩))
      omega
    · rw [hfl] at hv
      have := t2 _ (bd_top.mpr (.inr ⟨g, hg.1, of_decide_eq_true hs, v, hv, Int.le_refl _⟩))
      omega
end

-- NEEDS: some
theorem top_gen (n : Nat) (T : Tb) (f : Int) (P : D) (pt : List Int) (ks : List Nat) (hn : 2 * n < 1000) (hf : 0 ≤ f ∧ f < 2 * (n : Int)) (hm : ∀ k ∈ ks, k < n) (hw : ∀ k ∈ ks, m_worth [P, .int (2 * (k : Int))] = some (.int (worthI pt (2 * (k : Int)))) ∧ m_worth [P, .int (2 * (k : Int) + 1)] = some (.int (worthI pt (2 * (k : Int) + 1)))) :
    m_top_beside [tabD (2 * n) T, .int f, P, lstI (ks.map fun (i : Nat) => (i : Int))] = some (oD (topV T f pt ks)) := by
  unfold m_top_beside g_top_beside
  have e := forL_pre (m := gNm 5) (b := b_top_beside_2) (fun (pre : List Nat) st => ∃ o5 o6 : Option D, st = [.va 0 (tabD (2 * n) T), .va 0 (.int f), .va 0 P, .va 0 (lstI (ks.map fun (i : Nat) => (i : Int))), .va 0 (oD (topV T f pt pre)), vS o5, vS o6]) (fun (k : Nat) => D.int (k : Int)) ks (fun pre k post e st hst => by
    obtain ⟨o5, o6, rfl⟩ := hst
    have hk : k ∈ ks := by rw [e]; simp
    have hk2 := hm k hk
    obtain ⟨w1, w2⟩ := hw k hk
    have hs : topV T f pt (pre ++ [k]) = topStep T f pt (topV T f pt pre) k := by unfold topV; rw [List.foldl_append]; rfl
    refine ⟨[.va 0 (tabD (2 * n) T), .va 0 (.int f), .va 0 P, .va 0 (lstI (ks.map fun (i : Nat) => (i : Int))), .va 0 (oD (topStep T f pt (topV T f pt pre) k)), .va 0 (.int k), .va 0 (.int (2 * (k : Int) + 1))], .inl ?_, ⟨some _, some _, by rw [hs]; rfl⟩⟩
    unfold b_top_beside_2 b_top_beside_1
    simp! [isva_vS, w1, w2, added_i, lesser_eq]
    rfl) [.va 0 (tabD (2 * n) T), .va 0 (.int f), .va 0 P, .va 0 (lstI (ks.map fun (i : Nat) => (i : Int))), .va 0 (oD ((T f f).map (· / 2))), .un, .un] ⟨none, none, rfl⟩
  obtain ⟨st', e, o5, o6, rfl⟩ := e
  have he := halved_entry_eq (T f f)
  walk_at "tb"
  simp only [he]
  walk_at "tb"
  rw [List.map_map]
  have e' : forL (gNm 5) b_top_beside_2 (ks.map (D.int ∘ fun (i : Nat) => (i : Int))) [.va 0 (tabD (2 * n) T), .va 0 (.int f), .va 0 P, .va 0 (lstI (ks.map fun (i : Nat) => (i : Int))), .va 0 (oD ((T f f).map (· / 2))), .un, .un] = _ := e
  rw [e']
  walk_at "tb"
theorem top_beside_eq (n : Nat) (T : Tb) (f : Int) (pt : List Int) (hn : 2 * n < 1000) (hf : 0 ≤ f ∧ f < 2 * (n : Int)) (hm : pt.length ≤ n) :
    m_top_beside [tabD (2 * n) T, .int f, lstI pt, lstI ((List.range pt.length).map fun (i : Nat) => (i : Int))] = some (oD (topV T f pt (List.range pt.length))) :=
  top_gen n T f _ pt _ hn hf (fun k hk => by have := List.mem_range.mp hk; omega) fun k hk => by
    have := List.mem_range.mp hk
    exact ⟨worth_eqL pt _ (by omega) (by omega), worth_eqL pt _ (by omega) (by omega)⟩
theorem top_known_eq (n : Nat) (T : Tb) (f : Int) (pt : List Int) (ks : List Nat) (hn : 2 * n < 1000) (hf : 0 ≤ f ∧ f < 2 * (n : Int)) (hl : pt.length = n) (hm : ∀ k ∈ ks, k < n) :
    m_top_beside [tabD (2 * n) T, .int f, tupI pt, lstI (ks.map fun (i : Nat) => (i : Int))] = some (oD (topV T f pt ks)) :=
  top_gen n T f _ pt _ hn hf hm fun k hk => by
    have := hm k hk
    exact ⟨worth_eq pt _ (by omega) (by omega), worth_eq pt _ (by omega) (by omega)⟩

-- NEEDS: some
theorem lrng1_eq (k : Nat) (hk : k ≤ 6) : mLRng1 (.int k) = some (lstI ((List.range k).map fun (i : Nat) => (i : Int))) := by
  show mLR 0 k 1 = _
  unfold mLR
  have sz : Builtin.Range.rangeSize 0 (k : Int) 1 = k := by
    unfold Builtin.Range.rangeSize
    rw [if_pos (by decide)]
    split <;> omega
  have ok : rgOkC 0 (k : Int) 1 = true := by
    have : k = 0 ∨ k = 1 ∨ k = 2 ∨ k = 3 ∨ k = 4 ∨ k = 5 ∨ k = 6 := by omega
    rcases this with rfl | rfl | rfl | rfl | rfl | rfl | rfl <;> decide +kernel
  rw [if_pos ok, sz]
  unfold rngL lstI
  rw [List.map_map, Int.toNat_natCast]
  show some (D.lst ((List.range k).map fun (i : Nat) => D.int (0 + (i : Int) * 1))) = some (D.lst ((List.range k).map fun (i : Nat) => D.int (i : Int)))
  rw [show (fun (i : Nat) => D.int (0 + (i : Int) * 1)) = fun (i : Nat) => D.int (i : Int) from funext fun i => by rw [Int.mul_one, Int.zero_add]]
theorem some_point_eq (n : Nat) (T : Tb) (hn : n ≤ 6) : m_some_point [tabD (2 * n) T] = some (tupI (someV T n)) := by
  unfold m_some_point g_some_point
  have e := forL_pre (m := gNm 2) (b := b_some_point_1) (fun (pre : List Nat) st => ∃ o2 o3 o4 o5 : Option D, st = [.va 0 (tabD (2 * n) T), .va 1 (lstI (someV T pre.length)), vS o2, vS o3, vS o4, vS o5]) (fun (k : Nat) => D.int (k : Int)) (List.range n) (fun pre k post e st hst => by
    obtain ⟨o2, o3, o4, o5, rfl⟩ := hst
    obtain ⟨e1, e2, e3⟩ := range_split e
    have len := someV_len (T := T) k
    have hr := lrng1_eq k (by omega)
    have t1 := top_beside_eq n T (2 * (k : Int)) (someV T k) (by omega) ⟨by omega, by omega⟩ (by omega)
    have t2 := top_beside_eq n T (2 * (k : Int) + 1) (someV T k) (by omega) ⟨by omega, by omega⟩ (by omega)
    rw [len] at t1 t2
    have hk : ((someV T k).map D.int).length < 16777216 := by rw [List.length_map, len]; omega
    have hs : someV T (pre ++ [k]).length = nextV T (someV T k) k := by
      rw [show (pre ++ [k]).length = k + 1 by simp; omega, someV_succ]
    rw [hs, ← e1]
    unfold b_some_point_1 nextV
    generalize topV T (2 * (k : Int)) (someV T k) (List.range k) = hi at *
    generalize topV T (2 * (k : Int) + 1) (someV T k) (List.range k) = lo at *
    have app : ∀ x, (someV T k).map D.int ++ [D.int x] = (someV T k ++ [x]).map D.int := fun x => by rw [List.map_append]; rfl
    refine ⟨[.va 0 (tabD (2 * n) T), .va 1 (lstI (someV T k ++ [numV hi lo])), .va 0 (.int k), .va 0 (oD hi), .va 0 (oD lo), .va 0 (.int (numV hi lo))], .inl ?_, some _, some _, some _, some _, rfl⟩
    have hk2 : (someV T k).length < 16777216 := by omega
    cases hi with
    | none =>
      cases lo with
      | none =>
        simp! [isva_vS, hr, t1, t2, numV]
      | some l =>
        simp! [isva_vS, hr, t1, t2, numV]
        split <;> simp! []
    | some u =>
      cases lo with
      | none =>
        simp! [isva_vS, hr, t1, t2, numV]
        split <;> simp! []
      | some l =>
        simp! [isva_vS, hr, t1, t2, numV]
        split <;> split <;> simp! []) [.va 0 (tabD (2 * n) T), .va 1 (.lst []), .un, .un, .un, .un] ⟨none, none, none, none, rfl⟩
  obtain ⟨st', e, o2, o3, o4, o5, rfl⟩ := e
  rw [List.length_range] at e
  have hd : ((2 * n : Nat) : Int) / 2 = n := by omega
  have hr : mRng1 (.int (((2 * n : Nat) : Int) / 2)) = some ((List.range n).map fun (i : Nat) => D.int (i : Int)) := by
    rw [hd, rng1_eq _ (by omega) (by omega), Int.toNat_natCast]
  have ht : mTuple (lstI (someV T n)) = some (tupI (someV T n)) := rfl
  have hc := chk_ints (someV T n) 0
  simp! [hr, e, ht, hc]
theorem some_none : m_some_point [.non] = some .non := by
  unfold m_some_point g_some_point
  walk_at "tb"

-- NEEDS: some
section
variable {n : Nat} {T : Tb}
theorem bd_topL {f v : Int} {pt : List Int} (ks : List Nat) : bd (topV T f pt ks) v ↔ (∃ x, T f f = some x ∧ x / 2 ≤ v) ∨ ∃ g, (∃ k ∈ ks, g / 2 = (k : Int)) ∧ ∃ e, T f g = some e ∧ e - worthI pt g ≤ v := by
  unfold topV
  have core : ∀ (ks : List Nat) (t : Option Int), bd (ks.foldl (topStep T f pt) t) v ↔ bd t v ∨ ∃ g, (∃ k ∈ ks, g / 2 = (k : Int)) ∧ ∃ e, T f g = some e ∧ e - worthI pt g ≤ v := by
    intro ks
    induction ks with
    | nil => intro t; exact ⟨.inl, fun h => h.elim id fun ⟨g, ⟨k, hk, _⟩, _⟩ => (by cases hk)⟩
    | cons k ks ih =>
      intro t
      rw [List.foldl_cons, ih, bd_step]
      constructor
      · rintro ((h | ⟨g, h1, h2⟩) | ⟨g, ⟨k', h0, h1⟩, h2⟩)
        · exact .inl h
        · exact .inr ⟨g, ⟨k, List.mem_cons_self, h1⟩, h2⟩
        · exact .inr ⟨g, ⟨k', List.mem_cons_of_mem _ h0, h1⟩, h2⟩
      · rintro (h | ⟨g, ⟨k', h0, h1⟩, h2⟩)
        · exact .inl (.inl h)
        · rcases List.mem_cons.mp h0 with rfl | h0
          · exact .inl (.inr ⟨g, h1, h2⟩)
          · exact .inr ⟨g, ⟨k', h0, h1⟩, h2⟩
  rw [core]
  refine or_congr ?_ Iff.rfl
  cases T f f with
  | none => exact ⟨fun ⟨e, h, _⟩ => (by cases h), fun ⟨e, h, _⟩ => (by cases h)⟩
  | some x =>
    show bd (some (x / 2)) v ↔ _
    rw [bd_some]
    exact ⟨fun h => ⟨x, rfl, h⟩, fun ⟨e, h1, h2⟩ => by cases h1; exact h2⟩
def knownV (n k : Nat) : List Nat := (List.range n).filter fun j => !decide ((j : Int) = k)
theorem known_mem {n k j : Nat} : j ∈ knownV n k ↔ j < n ∧ j ≠ k := by
  unfold knownV
  rw [List.mem_filter, List.mem_range, Bool.not_eq_true', decide_eq_false_iff_not]
  omega
def withV (pt : List Int) (k : Nat) (x : Int) : List Int := pt.take k ++ x :: pt.drop (k + 1)
theorem with_len {pt : List Int} {k : Nat} {x : Int} (hk : k < pt.length) : (withV pt k x).length = pt.length := by
  unfold withV
  rw [List.length_append, List.length_take, List.length_cons, List.length_drop]; omega
theorem with_getD {pt : List Int} {k j : Nat} {x : Int} (hk : k < pt.length) : (withV pt k x).getD j 0 = if j = k then x else pt.getD j 0 := by
  unfold withV
  rw [List.getD_eq_getElem?_getD, List.getD_eq_getElem?_getD]
  by_cases h : j < k
  · rw [List.getElem?_append_left (by rw [List.length_take]; omega), if_neg (by omega), List.getElem?_take_of_lt h]
  · rw [List.getElem?_append_right (by rw [List.length_take]; omega), List.length_take, Nat.min_eq_left (by omega)]
    by_cases e : j = k
    · rw [if_pos e, e, Nat.sub_self]; rfl
    · rw [if_neg e, show j - k = (j - k - 1) + 1 by omega, List.getElem?_cons_succ, List.getElem?_drop]
      rw [show k + 1 + (j - k - 1) = j by omega]
theorem with_worth {pt : List Int} {k : Nat} {x f : Int} (hk : k < pt.length) (h0 : 0 ≤ f) : worthI (withV pt k x) f = if f / 2 = (k : Int) then (if f % 2 = 1 then -x else x) else worthI pt f := by
  unfold worthI
  rw [with_getD hk]
  by_cases e : f / 2 = (k : Int)
  · have e2 : (f / 2).toNat = k := by omega
    simp only [if_pos e, if_pos e2]
  · have e2 : ¬ (f / 2).toNat = k := by omega
    simp only [if_neg e, if_neg e2]
theorem with_with {pt : List Int} {k : Nat} {x y : Int} (hk : k < pt.length) : withV (withV pt k y) k x = withV pt k x := by
  apply List.ext_getElem?
  intro j
  have e : ∀ l : List Int, l[j]? = if j < l.length then some (l.getD j 0) else none := fun l => by
    by_cases h : j < l.length
    · rw [if_pos h, List.getD_eq_getElem?_getD, List.getElem?_eq_getElem h]; rfl
    · rw [if_neg h, List.getElem?_eq_none (by omega)]
  rw [e, e (withV pt k x), with_len (by rw [with_len hk]; exact hk), with_len hk, with_len hk, with_getD (by rw [with_len hk]; exact hk), with_getD hk, with_getD hk]
  by_cases h : j = k
  · rw [if_pos h, if_pos h]
  · rw [if_neg h, if_neg h, if_neg h]
theorem with_own {pt : List Int} {k : Nat} (hk : k < pt.length) : withV pt k (pt.getD k 0) = pt := by
  unfold withV
  rw [List.getD_eq_getElem?_getD, List.getElem?_eq_getElem hk]
  show pt.take k ++ pt[k] :: pt.drop (k + 1) = pt
  rw [← List.drop_eq_getElem_cons hk, List.take_append_drop]
def fillN (T : Tb) (pt : List Int) (n k : Nat) : Int := match topV T (2 * (k : Int)) pt (knownV n k) with
  | some v => v
  | none => match topV T (2 * (k : Int) + 1) pt (knownV n k) with
    | some b => -b
    | none => 0
/-- the bounds on a name's number beside the others -/
theorem fill_iff (L : Tight n T) {pt : List Int} {k : Nat} {x : Int} (hl : pt.length = n) (hk : k < n) :
    Lies n T (withV pt k x) ↔ (∀ f g, rg (2 * n) f → rg (2 * n) g → f / 2 ≠ (k : Int) → g / 2 ≠ (k : Int) → ∀ v, bd (T f g) v → worthI pt f + worthI pt g ≤ v) ∧ (∀ v, bd (topV T (2 * (k : Int)) pt (knownV n k)) v → x ≤ v) ∧ ∀ v, bd (topV T (2 * (k : Int) + 1) pt (knownV n k)) v → -x ≤ v := by
  have hkp : k < pt.length := by omega
  have hh : rg (2 * n) (2 * (k : Int)) := ⟨by omega, by omega⟩
  have hh' : rg (2 * n) (2 * (k : Int) + 1) := ⟨by omega, by omega⟩
  have w : ∀ f, 0 ≤ f → worthI (withV pt k x) f = if f / 2 = (k : Int) then (if f % 2 = 1 then -x else x) else worthI pt f := fun f h => with_worth hkp h
  have w0 : worthI (withV pt k x) (2 * (k : Int)) = x := by rw [w _ hh.1, if_pos (by omega), if_neg (by omega)]
  have w1 : worthI (withV pt k x) (2 * (k : Int) + 1) = -x := by rw [w _ hh'.1, if_pos (by omega), if_pos (by omega)]
  have w2 : ∀ f, 0 ≤ f → f / 2 ≠ (k : Int) → worthI (withV pt k x) f = worthI pt f := fun f h e => by rw [w f h, if_neg e]
  have E := L.even
  constructor
  · rintro ⟨_, h⟩
    refine ⟨fun f g hf hg ef eg v hv => ?_, fun v hv => ?_, fun v hv => ?_⟩
    · have := h f g hf hg v hv
      rwa [w2 f hf.1 ef, w2 g hg.1 eg] at this
    · rcases (bd_topL _).mp hv with ⟨y, h1, h2⟩ | ⟨g, ⟨j, hj, eg⟩, y, h1, h2⟩
      · have := h _ _ hh hh y ⟨y, h1, Int.le_refl _⟩
        rw [w0] at this; omega
      · obtain ⟨j1, j2⟩ := known_mem.mp hj
        have := h _ g hh ⟨by omega, by omega⟩ y ⟨y, h1, Int.le_refl _⟩
        rw [w0, w2 g (by omega) (by omega)] at this; omega
    · rcases (bd_topL _).mp hv with ⟨y, h1, h2⟩ | ⟨g, ⟨j, hj, eg⟩, y, h1, h2⟩
      · have := h _ _ hh' hh' y ⟨y, h1, Int.le_refl _⟩
        rw [w1] at this; omega
      · obtain ⟨j1, j2⟩ := known_mem.mp hj
        have := h _ g hh' ⟨by omega, by omega⟩ y ⟨y, h1, Int.le_refl _⟩
        rw [w1, w2 g (by omega) (by omega)] at this; omega
  · rintro ⟨a, b, c⟩
    have fk : ∀ f : Int, f / 2 = (k : Int) → f = 2 * (k : Int) ∨ f = 2 * (k : Int) + 1 := fun f e => by omega
    have one : ∀ f g, rg (2 * n) f → rg (2 * n) g → f / 2 = (k : Int) → ∀ v, bd (T f g) v → worthI (withV pt k x) f + worthI (withV pt k x) g ≤ v := by
      intro f g hf hg ef v ⟨y, h1, h2⟩
      rcases fk f ef with rfl | rfl
      · rw [w0]
        by_cases eg : g / 2 = (k : Int)
        · rcases fk g eg with rfl | rfl
          · rw [w0]
            have := b (y / 2) ((bd_topL _).mpr (.inl ⟨y, h1, Int.le_refl _⟩))
            have := E _ hh y h1
            omega
          · rw [w1]
            have hz := L.zer _ hh
            rw [show flipI (2 * (k : Int)) = 2 * (k : Int) + 1 by unfold flipI; omega, h1] at hz
            cases hz; omega
        · rw [w2 g hg.1 eg]
          have := b (y - worthI pt g) ((bd_topL _).mpr (.inr ⟨g, ⟨(g / 2).toNat, known_mem.mpr ⟨by have := hg.2; have := hg.1; omega, by have := hg.1; omega⟩, by have := hg.1; omega⟩, y, h1, Int.le_refl _⟩))
          omega
      · rw [w1]
        by_cases eg : g / 2 = (k : Int)
        · rcases fk g eg with rfl | rfl
          · rw [w0]
            have hz := L.zer _ hh'
            rw [show flipI (2 * (k : Int) + 1) = 2 * (k : Int) by unfold flipI; omega, h1] at hz
            cases hz; omega
          · rw [w1]
            have := c (y / 2) ((bd_topL _).mpr (.inl ⟨y, h1, Int.le_refl _⟩))
            have := E _ hh' y h1
            omega
        · rw [w2 g hg.1 eg]
          have := c (y - worthI pt g) ((bd_topL _).mpr (.inr ⟨g, ⟨(g / 2).toNat, known_mem.mpr ⟨by have := hg.2; have := hg.1; omega, by have := hg.1; omega⟩, by have := hg.1; omega⟩, y, h1, Int.le_refl _⟩))
          omega
    refine ⟨by rw [with_len hkp, hl], fun f g hf hg v hv => ?_⟩
    by_cases ef : f / 2 = (k : Int)
    · exact one f g hf hg ef v hv
    · by_cases eg : g / 2 = (k : Int)
      · rw [Int.add_comm]
        exact one g f hg hf eg v (by rw [L.sym]; exact hv)
      · rw [w2 f hf.1 ef, w2 g hg.1 eg]
        exact a f g hf hg ef eg v hv
theorem fill_lies (L : Tight n T) {pt : List Int} {k : Nat} {x : Int} (hl : pt.length = n) (hk : k < n) (h : Lies n T (withV pt k x)) : Lies n T (withV pt k (fillN T pt n k)) := by
  obtain ⟨a, b, c⟩ := (fill_iff L hl hk).mp h
  refine (fill_iff L hl hk).mpr ⟨a, ?_⟩
  unfold fillN
  cases e1 : topV T (2 * (k : Int)) pt (knownV n k) with
  | some u =>
    have h1 := b u ⟨u, e1, Int.le_refl _⟩
    exact ⟨fun v ⟨y, h, h2⟩ => by cases h; exact h2, fun v hv => by have := c v hv; show -u ≤ v; omega⟩
  | none =>
    refine ⟨fun v ⟨y, h, h2⟩ => (by cases h), fun v ⟨y, h, h2⟩ => ?_⟩
    rw [h]
    show -(-y) ≤ v
    omega
def fillV (n : Nat) (T : Tb) (pt : List Int) (k : Nat) : Option Int := if liesB (2 * n) T (withV pt k (fillN T pt n k)) = true then some (fillN T pt n k) else none
end
theorem lies_iff {n : Nat} {T : Tb} {pt : List Int} (hl : pt.length = n) : liesB (2 * n) T pt = true ↔ Lies n T pt := by
  unfold liesB
  rw [List.all_eq_true]
  constructor
  · intro h
    refine ⟨hl, fun f g hf hg v ⟨e, h1, h2⟩ => ?_⟩
    have := List.all_eq_true.mp (h f.toNat (List.mem_range.mpr (by have := hf.1; have := hf.2; omega))) g.toNat (List.mem_range.mpr (by have := hg.1; have := hg.2; omega))
    rw [show ((f.toNat : Nat) : Int) = f by have := hf.1; omega, show ((g.toNat : Nat) : Int) = g by have := hg.1; omega, h1] at this
    have := of_decide_eq_true this
    omega
  · rintro ⟨_, h⟩ f hf
    refine List.all_eq_true.mpr fun g hg => ?_
    have hf := List.mem_range.mp hf
    have hg := List.mem_range.mp hg
    cases e : T f g with
    | none => rfl
    | some x => exact decide_eq_true (h f g ⟨by omega, by omega⟩ ⟨by omega, by omega⟩ x ⟨x, e, Int.le_refl _⟩)
theorem top_with {T : Tb} {f : Int} {pt : List Int} {n k : Nat} {y : Int} (hk : k < pt.length) : topV T f (withV pt k y) (knownV n k) = topV T f pt (knownV n k) := by
  apply bd_ext
  intro v
  rw [bd_topL, bd_topL]
  refine or_congr Iff.rfl ⟨fun ⟨g, ⟨j, hj, eg⟩, e, h1, h2⟩ => ⟨g, ⟨j, hj, eg⟩, e, h1, ?_⟩, fun ⟨g, ⟨j, hj, eg⟩, e, h1, h2⟩ => ⟨g, ⟨j, hj, eg⟩, e, h1, ?_⟩⟩
  · obtain ⟨j1, j2⟩ := known_mem.mp hj
    rwa [with_worth hk (by omega), if_neg (by omega)] at h2
  · obtain ⟨j1, j2⟩ := known_mem.mp hj
    rwa [with_worth hk (by omega), if_neg (by omega)]
theorem fill_with {n : Nat} {T : Tb} {pt : List Int} {k : Nat} {y : Int} (hk : k < pt.length) : fillV n T (withV pt k y) k = fillV n T pt k := by
  have e : fillN T (withV pt k y) n k = fillN T pt n k := by unfold fillN; rw [top_with hk, top_with hk]
  unfold fillV
  rw [e, with_with hk]
theorem fill_some {n : Nat} {T : Tb} {pt : List Int} {k : Nat} {x : Int} (hl : pt.length = n) (hk : k < n) (h : fillV n T pt k = some x) : Lies n T (withV pt k x) := by
  unfold fillV at h
  split at h
  · rename_i hb
    cases h
    exact (lies_iff (by rw [with_len (by omega), hl])).mp hb
  · cases h
theorem fill_none {n : Nat} {T : Tb} (L : Tight n T) {pt : List Int} {k : Nat} {x : Int} (hl : pt.length = n) (hk : k < n) (h : fillV n T pt k = none) : ¬ Lies n T (withV pt k x) := fun z => by
  have := fill_lies L hl hk z
  unfold fillV at h
  rw [if_pos ((lies_iff (by rw [with_len (by omega), hl])).mpr this)] at h
  cases h

def totalI (pt : List Int) (fs : List Int) : Int := fs.foldl (fun s f => s + worthI pt f) 0

-- NEEDS: fill total
def sumW (pt : List Int) : List Int → Int
  | [] => 0
  | f :: fs => worthI pt f + sumW pt fs
theorem sumW_fold (pt : List Int) : ∀ (fs : List Int) (s : Int), fs.foldl (fun s f => s + worthI pt f) s = s + sumW pt fs
  | [], s => (Int.add_zero s).symm
  | f :: fs, s => by
    rw [List.foldl_cons, sumW_fold pt fs]
    show s + worthI pt f + sumW pt fs = s + (worthI pt f + sumW pt fs)
    omega
def halfO (o : Option Int) : Option Int := o.map (· / 2)
def great3 (T : Tb) (f g h : Int) : Option Int :=
  let best := lessO (lessO (addO (T f g) (halfO (T h h))) (addO (T f h) (halfO (T g g)))) (addO (T g h) (halfO (T f f)))
  match addO (T f g) (addO (T g h) (T f h)) with
  | none => best
  | some a => lessO best (some (a / 2))
def greatV (T : Tb) : List Int → Option Int
  | [] => some 0
  | [f] => halfO (T f f)
  | [f, g] => T f g
  | f :: g :: h :: _ => great3 T f g h
def sumO (es : List (Option Int)) : Option Int := es.foldl addO (some 0)
def leastV (s : Int) (es : List (Option Int)) (num : Int) : Option Int := (sumO es).map fun t => -((t - num) / s)
def lowsV (T : Tb) (f g h num : Int) : List (Option Int) := [leastV 1 [halfO (T (flipI h) (flipI h))] 0, leastV 1 [T f g] num, leastV 2 [halfO (T f f), T g (flipI h)] num, leastV 2 [halfO (T g g), T f (flipI h)] num, leastV 3 [T f (flipI h), T g (flipI h)] num]
def maxD (z : Int) (l : List Int) : Int := if l.isEmpty = true then z else maxL l
def topP (T : Tb) (f g h num : Int) : Option Int := match addO (T f h) (T g h) with
  | none => halfO (T h h)
  | some x => lessO (halfO (T h h)) (some (x - num))
def pinV (T : Tb) (f g h num : Int) : Int := match topP T f g h num with
  | some t => t
  | none => maxD 0 ((lowsV T f g h num).filterMap id)
def base3 (n : Nat) (T : Tb) (f g h num : Int) : Option Tb :=
  heldS (2 * n) (heldS (2 * n) (heldF (2 * n) T h h (2 * pinV T f g h num)) (flipI h, flipI h, -2 * pinV T f g h num)) (flipI f, flipI g, pinV T f g h num - num)
def reach3 (n : Nat) (T : Tb) (f g h num : Int) : Option Tb :=
  if f = g ∧ g = h then heldF (2 * n) T (flipI f) (flipI f) (2 * (-num / 3))
  else if f = h then base3 n T f h g num
  else if g = h then base3 n T g h f num
  else base3 n T f g h num
def reachSh (n : Nat) (T : Tb) (fs : List Int) (num : Int) : Option Tb := match fs with
  | [] => some T
  | [f] => heldF (2 * n) T (flipI f) (flipI f) (-2 * num)
  | [f, g] => heldF (2 * n) T (flipI f) (flipI g) (-num)
  | f :: g :: h :: _ => reach3 n T f g h num
def ptD : Option (List Int) → D
  | none => .non
  | some p => tupI p
def someO (n : Nat) (s : Option Tb) : Option (List Int) := s.map fun T => someV T n
def ltTop : Option Int → Int → Bool
  | some t, num => decide (t < num)
  | none, _ => false
def reachV (n : Nat) (T : Tb) (fs : List Int) (num : Int) : Option (List Int) := if ltTop (greatV T fs) num = true then none else someO n (reachSh n T fs num)
/-- what is told of a list of forms in a shape -/
structure ReachOk (n : Nat) (T : Tb) (fs : List Int) : Prop where
  up : ∀ pt, Lies n T pt → ∀ v, bd (greatV T fs) v → sumW pt fs ≤ v
  got : ∀ num, (∀ v, bd (greatV T fs) v → num ≤ v) → ∃ q, reachV n T fs num = some q ∧ Lies n T q ∧ num ≤ sumW q fs
  non : ∀ num, bd (greatV T fs) (num - 1) → reachV n T fs num = none
section
variable {n : Nat} {T : Tb}
theorem some_lies (L : Tight n T) : Lies n T (someV T n) := ⟨someV_len n, fun f g hf hg v hv => some_keep L n (Nat.le_refl _) f g hf hg (decide_eq_true (by have := hf.2; omega)) (decide_eq_true (by have := hg.2; omega)) v hv⟩
theorem Lies.lie (L : Tight n T) {pt : List Int} (h : Lies n T pt) : Lie n pt T := ⟨L.sym, L.zer, h.2⟩
/-- a side that a point of the shape keeps leaves a shape whose points lie there and keep it -/
theorem held_some (L : Tight n T) {pt : List Int} (hp : Lies n T pt) {f g c : Int} (hf : rg (2 * n) f) (hg : rg (2 * n) g) (h : worthI pt f + worthI pt g ≤ c) : ∃ U, heldF (2 * n) T f g c = some U ∧ Tight n U ∧ Lies n U pt ∧ ∀ q, Lies n U q ↔ Lies n T q ∧ worthI q f + worthI q g ≤ c := by
  obtain ⟨U, e, LU, b, m⟩ := held_lie (hp.lie L) hf hg h
  refine ⟨U, e, held_tight L hf hg e, ⟨hp.1, LU.lie⟩, fun q => ⟨fun hq => ⟨⟨hq.1, fun i j hi hj v hv => hq.2 i j hi hj v (m i j v hv)⟩, hq.2 f g hf hg c b⟩, fun ⟨hq, hk⟩ => ?_⟩⟩
  obtain ⟨V, e', LV, _, _⟩ := held_lie (hq.lie L) hf hg hk
  rw [e] at e'
  cases e'
  exact ⟨hq.1, LV.lie⟩
theorem total_sum (pt fs : List Int) : totalI pt fs = sumW pt fs := by
  unfold totalI
  rw [sumW_fold, Int.zero_add]
theorem non_of {fs : List Int} : ∀ num, bd (greatV T fs) (num - 1) → reachV n T fs num = none := fun num ⟨e, h1, h2⟩ => by
  unfold reachV
  rw [h1, if_pos (show ltTop (some e) num = true from decide_eq_true (by omega))]
theorem reachV_of {fs : List Int} {num : Int} (h : ∀ v, bd (greatV T fs) v → num ≤ v) : reachV n T fs num = someO n (reachSh n T fs num) := by
  unfold reachV
  rw [if_neg]
  intro z
  cases e : greatV T fs with
  | none => rw [e] at z; cases z
  | some t =>
    rw [e] at z
    have := of_decide_eq_true z
    have := h t ⟨t, e, Int.le_refl _⟩
    omega
theorem reach_two (L : Tight n T) {f g : Int} (hf : rg (2 * n) f) (hg : rg (2 * n) g) : ReachOk n T [f, g] := by
  refine ⟨fun pt h v hv => ?_, fun num h => ?_, non_of⟩
  · have := h.2 f g hf hg v hv
    show worthI pt f + (worthI pt g + 0) ≤ v
    omega
  · obtain ⟨pt, hp, hs⟩ := reach L hf hg (K := num) h
    obtain ⟨U, hU, LU, _, iff⟩ := held_some L hp (rg_flip hf) (rg_flip hg) (c := -num) (by rw [flip_worth, flip_worth]; omega)
    obtain ⟨k1, k2⟩ := (iff _).mp (some_lies LU)
    refine ⟨_, ?_, k1, ?_⟩
    · rw [reachV_of h]
      show (heldF (2 * n) T (flipI f) (flipI g) (-num)).map _ = _
      rw [hU]; rfl
    · rw [flip_worth, flip_worth] at k2
      show num ≤ worthI _ f + (worthI _ g + 0)
      omega
theorem reach_one (L : Tight n T) {f : Int} (hf : rg (2 * n) f) : ReachOk n T [f] := by
  have E := L.even f hf
  refine ⟨fun pt h v hv => ?_, fun num h => ?_, non_of⟩
  · obtain ⟨e, h1, h2⟩ := hv
    show worthI pt f + 0 ≤ v
    cases ef : T f f with
    | none => rw [show greatV T [f] = halfO (T f f) from rfl, ef] at h1; cases h1
    | some x =>
      rw [show greatV T [f] = halfO (T f f) from rfl, ef] at h1
      have h1 : x / 2 = e := Option.some.inj h1
      have := h.2 f f hf hf x ⟨x, ef, Int.le_refl _⟩
      omega
  · obtain ⟨pt, hp, hs⟩ := reach L hf hf (K := 2 * num) fun v ⟨x, e1, e2⟩ => by
      have := h (x / 2) ⟨x / 2, by show halfO (T f f) = _; rw [e1]; rfl, Int.le_refl _⟩
      have := E x e1
      omega
    obtain ⟨U, hU, LU, _, iff⟩ := held_some L hp (rg_flip hf) (rg_flip hf) (c := -2 * num) (by rw [flip_worth]; omega)
    obtain ⟨k1, k2⟩ := (iff _).mp (some_lies LU)
    refine ⟨_, ?_, k1, ?_⟩
    · rw [reachV_of h]
      show (heldF (2 * n) T (flipI f) (flipI f) (-2 * num)).map _ = _
      rw [hU]; rfl
    · rw [flip_worth] at k2
      show num ≤ worthI _ f + 0
      omega
theorem reach_nil (L : Tight n T) : ReachOk n T [] := by
  refine ⟨fun pt h v ⟨e, h1, h2⟩ => ?_, fun num h => ?_, non_of⟩
  · cases h1; exact h2
  · refine ⟨_, by rw [reachV_of h]; rfl, some_lies L, ?_⟩
    have := h 0 ⟨0, rfl, Int.le_refl _⟩
    exact this
end

-- NEEDS: reachv
theorem great3_eq (n : Nat) (T : Tb) (f g h : Int) (hn : n < 1000) (hf : 0 ≤ f ∧ f < n) (hg : 0 ≤ g ∧ g < n) (hh : 0 ≤ h ∧ h < n) : m_greatest_of_three [tabD n T, .int f, .int g, .int h] = some (oD (great3 T f g h)) := by
  unfold m_greatest_of_three g_greatest_of_three t_greatest_of_three_1 t_greatest_of_three_2 t_greatest_of_three_3 t_greatest_of_three_4 t_greatest_of_three_5
  have e1 := fun o => halved_entry_eq o
  have e2 := fun a b => added_eq a b
  have e3 := fun a b => lesser_eq a b
  have e4 := fun a b => lesser_i a b
  have e5 : ∀ o : Option Int, o.map (· / 2) = halfO o := fun _ => rfl
  unfold great3
  cases ea : addO (T f g) (addO (T g h) (T f h)) with
  | none => simp! [e1, e2, e3, e4, e5, ea]
  | some a => simp! [e1, e2, e3, e4, e5, ea]

theorem greatest_eq (n : Nat) (T : Tb) (fs : List Int) (hn : n < 1000) (hl : fs.length ≤ 3) (hf : ∀ f ∈ fs, 0 ≤ f ∧ f < (n : Int)) : m_greatest [tabD n T, lstI fs] = some (oD (greatV T fs)) := by
  unfold m_greatest g_greatest
  have e1 := fun o => halved_entry_eq o
  have hlen := len_intsL fs
  match fs, hl with
  | [], _ => simp! [hlen]; rfl
  | [f], _ =>
    have h1 := hf f List.mem_cons_self
    have i0 : mIx (lstI [f]) (.int 0) = some (.int f) := ix_l0 _ _
    have hlen : mLen [lstI [f]] = some (.int 1) := hlen
    simp! [hlen, i0, e1]
    rfl
  | [f, g], _ =>
    have h1 := hf f List.mem_cons_self
    have h2 := hf g (List.mem_cons_of_mem _ List.mem_cons_self)
    have i0 : mIx (lstI [f, g]) (.int 0) = some (.int f) := ix_l0 _ _
    have i1 : mIx (lstI [f, g]) (.int 1) = some (.int g) := ix_l1 _ _ _
    have hlen : mLen [lstI [f, g]] = some (.int 2) := hlen
    simp! [hlen, i0, i1]
    rfl
  | [f, g, h], _ =>
    have h1 := hf f List.mem_cons_self
    have h2 := hf g (List.mem_cons_of_mem _ List.mem_cons_self)
    have h3 := hf h (List.mem_cons_of_mem _ (List.mem_cons_of_mem _ List.mem_cons_self))
    have i0 : mIx (lstI [f, g, h]) (.int 0) = some (.int f) := ix_l0 _ _
    have i1 : mIx (lstI [f, g, h]) (.int 1) = some (.int g) := ix_l1 _ _ _
    have i2 : mIx (lstI [f, g, h]) (.int 2) = some (.int h) := ix_natL_ _ 2 _ rfl
    have hlen : mLen [lstI [f, g, h]] = some (.int 3) := hlen
    have e3 := great3_eq n T f g h hn h1 h2 h3
    simp! [hlen, i0, i1, i2, e3]
    rfl

theorem least_one (s : Int) (a : Option Int) (num : Int) (h0 : 0 < s) (h1 : s < 100) : m_least_for [.int s, .lst [oD a], .int num] = some (oD (leastV s [a] num)) := by
  unfold m_least_for g_least_for b_least_for_1
  cases a with
  | none => simp! [isva_vS]; rfl
  | some x => simp! [isva_vS]; rfl
theorem least_two (s : Int) (a b : Option Int) (num : Int) (h0 : 0 < s) (h1 : s < 100) : m_least_for [.int s, .lst [oD a, oD b], .int num] = some (oD (leastV s [a, b] num)) := by
  unfold m_least_for g_least_for b_least_for_1
  cases a with
  | none => cases b <;> simp! [isva_vS] <;> rfl
  | some x =>
    cases b with
    | none => simp! [isva_vS]; rfl
    | some y => simp! [isva_vS]; rfl

theorem ints_of : ∀ l : List Int, intsOf (l.map D.int) = some l
  | [] => rfl
  | x :: l => by
    show (intsOf (l.map D.int)).map (x :: ·) = _
    rw [ints_of l]; rfl
theorem maxD_eq (z : Int) (l : List Int) : mMaxD z [.lst (l.map D.int)] = some (.int (maxD z l)) := by
  show (intsOf (l.map D.int)).map _ = _
  rw [ints_of]; rfl
theorem lows_lst (l : List (Option Int)) : (l.filter fun o => o.isSome).map oD = (l.filterMap id).map D.int := by
  induction l with
  | nil => rfl
  | cons o l ih =>
    cases o with
    | none => exact ih
    | some x =>
      show oD (some x) :: (l.filter fun o => o.isSome).map oD = D.int x :: (l.filterMap id).map D.int
      rw [ih]; rfl
theorem pinned_eq (n : Nat) (T : Tb) (f g h num : Int) (hn : n < 500) (hf : 0 ≤ f ∧ f < 2 * (n : Int)) (hg : 0 ≤ g ∧ g < 2 * (n : Int)) (hh : 0 ≤ h ∧ h < 2 * (n : Int)) : m_pinned [tabD (2 * n) T, .int f, .int g, .int h, .int num] = some (.int (pinV T f g h num)) := by
  unfold m_pinned g_pinned t_pinned_1 t_pinned_2 t_pinned_3
  have e1 := fun o => halved_entry_eq o
  have e2 := fun a b => added_eq a b
  have e4 := fun a b => lesser_i a b
  have e5 : ∀ o : Option Int, o.map (· / 2) = halfO o := fun _ => rfl
  have q := flipped_eq h hh.1
  obtain ⟨b0, b1⟩ := flip_rng hh.1 hh.2
  have go : ∀ o6 o7 : Option Int, o6 = topP T f g h num → orun (t_pinned_4 [.va 0 (tabD (2 * n) T), .va 0 (.int f), .va 0 (.int g), .va 0 (.int h), .va 0 (.int num), .va 0 (.int (flipI h)), .va 0 (oD o6), .va 0 (oD o7), .un, .un]) = some (.int (pinV T f g h num)) := by
    intro o6 o7 ho
    unfold pinV
    rw [← ho]
    unfold t_pinned_4
    cases o6 with
    | some t => simp! []
    | none =>
      have l1 := fun s a num h0 h1 => least_one s a num h0 h1
      have l2 := fun s a b num h0 h1 => least_two s a b num h0 h1
      have lc2 : c_pinned_1 [.va 0 (tabD (2 * n) T), .va 0 (.int f), .va 0 (.int g), .va 0 (.int h), .va 0 (.int num), .va 0 (.int (flipI h)), .va 0 .non, .va 0 (oD o7), .va 0 (.lst ((lowsV T f g h num).map oD)), .un] = some (.lst (((lowsV T f g h num).filterMap id).map D.int)) := by
        unfold c_pinned_1
        rw [← lows_lst]
        refine lc_filter oD oD (fun o => o.isSome) (lowsV T f g h num) rfl rfl (by show 5 < _; omega) fun o ho => ⟨_, rfl, ?_, fun _ => ?_⟩
        · walk_at "tb"
        · cases o <;> rfl
      have hc : chk 1 (.lst (((lowsV T f g h num).filterMap id).map D.int)) = some (.lst (((lowsV T f g h num).filterMap id).map D.int)) := chk_intsL _ 0
      have mx := maxD_eq 0 ((lowsV T f g h num).filterMap id)
      have lw : [oD (leastV 1 [halfO (T (flipI h) (flipI h))] 0), oD (leastV 1 [T f g] num), oD (leastV 2 [halfO (T f f), T g (flipI h)] num), oD (leastV 2 [halfO (T g g), T f (flipI h)] num), oD (leastV 3 [T f (flipI h), T g (flipI h)] num)] = (lowsV T f g h num).map oD := rfl
      unfold t_pinned_5 t_pinned_6 t_pinned_7 t_pinned_8 t_pinned_9
      simp! [e1, e5, l1, l2, lw, lc2, hc, mx]
  unfold topP at go
  cases ea : addO (T f h) (T g h) with
  | none =>
    rw [ea] at go
    simp! [q, e1, e2, e4, e5, ea]
    exact go _ none rfl
  | some a =>
    rw [ea] at go
    simp! [q, e1, e2, e4, e5, ea]
    exact go _ (some a) rfl

theorem heldE_eq (n : Nat) (hn : 2 * n < 1000) (s : Option Tb) (f g c : Int) (hf : rg (2 * n) f) (hg : rg (2 * n) g) : m_held [shD (2 * n) s, .tup [.int f, .int g, .int c]] = some (shD (2 * n) (heldS (2 * n) s (f, g, c))) := heldS_eq n hn s (f, g, c) ⟨hf, hg.1, hg.2⟩
theorem heldT_eq (n : Nat) (hn : 2 * n < 1000) (T : Tb) (f g c : Int) (hf : rg (2 * n) f) (hg : rg (2 * n) g) : m_held [tabD (2 * n) T, .tup [.int f, .int g, .int c]] = some (shD (2 * n) (heldF (2 * n) T f g c)) := heldE_eq n hn (some T) f g c hf hg
theorem base3_eq (n : Nat) (hn : 2 * n < 1000) (T : Tb) (f g h num : Int) (hf : rg (2 * n) f) (hg : rg (2 * n) g) (hh : rg (2 * n) h) (k : Nat) (e1 : f ≠ h) (e2 : g ≠ h) : r_reaching_three (k + 1) [tabD (2 * n) T, .int f, .int g, .int h, .int num] = some (shD (2 * n) (base3 n T f g h num)) := by
  show fnRun 7 (g_reaching_three (r_reaching_three k)) _ = _
  unfold g_reaching_three t_reaching_three_1 t_reaching_three_2 t_reaching_three_3 t_reaching_three_4 t_reaching_three_5
  have p := pinned_eq n T f g h num (by omega) ⟨hf.1, by have := hf.2; omega⟩ ⟨hg.1, by have := hg.2; omega⟩ ⟨hh.1, by have := hh.2; omega⟩
  have q1 := flipped_eq f hf.1
  have q2 := flipped_eq g hg.1
  have q3 := flipped_eq h hh.1
  have c1 := heldT_eq n hn T h h (2 * pinV T f g h num) hh hh
  have c2 := heldE_eq n hn (heldF (2 * n) T h h (2 * pinV T f g h num)) (flipI h) (flipI h) (-2 * pinV T f g h num) (rg_flip hh) (rg_flip hh)
  have c3 := heldE_eq n hn (heldS (2 * n) (heldF (2 * n) T h h (2 * pinV T f g h num)) (flipI h, flipI h, -2 * pinV T f g h num)) (flipI f) (flipI g) (pinV T f g h num - num) (rg_flip hf) (rg_flip hg)
  have k2 := fun s => isN_sh (2 * n) s
  have r : base3 n T f g h num = heldS (2 * n) (heldS (2 * n) (heldF (2 * n) T h h (2 * pinV T f g h num)) (flipI h, flipI h, -2 * pinV T f g h num)) (flipI f, flipI g, pinV T f g h num - num) := rfl
  by_cases e3 : f = g
  · simp! [decide_eq_true e3, decide_eq_false e1, decide_eq_false e2, p, q1, q2, q3, c1, c2, c3, k2, r]
  · simp! [decide_eq_false e3, decide_eq_false e1, decide_eq_false e2, p, q1, q2, q3, c1, c2, c3, k2, r]
theorem reach3_eq (n : Nat) (hn : 2 * n < 1000) (T : Tb) (f g h num : Int) (hf : rg (2 * n) f) (hg : rg (2 * n) g) (hh : rg (2 * n) h) : m_reaching_three [tabD (2 * n) T, .int f, .int g, .int h, .int num] = some (shD (2 * n) (reach3 n T f g h num)) := by
  unfold m_reaching_three reach3
  have q1 := flipped_eq f hf.1
  have k2 := fun s => isN_sh (2 * n) s
  by_cases e1 : f = g ∧ g = h
  · rw [if_pos e1]
    show fnRun 7 (g_reaching_three (r_reaching_three 1)) _ = _
    unfold g_reaching_three
    have c1 := heldT_eq n hn T (flipI f) (flipI f) (2 * (-num / 3)) (rg_flip hf) (rg_flip hf)
    obtain ⟨a, b⟩ := e1
    have q1 := flipped_eq f hf.1
    simp! [decide_eq_true a, decide_eq_true b, q1, c1, k2]
  · rw [if_neg e1]
    by_cases e2 : f = h
    · have e3 : f ≠ g := fun z => e1 ⟨z, z ▸ e2⟩
      rw [if_pos e2]
      have b := base3_eq n hn T f h g num hf hh hg 0 e3 (by omega)
      show fnRun 7 (g_reaching_three (r_reaching_three 1)) _ = _
      unfold g_reaching_three t_reaching_three_1
      simp! [decide_eq_false e3, decide_eq_true e2, b, k2]
    · rw [if_neg e2]
      by_cases e3 : g = h
      · rw [if_pos e3]
        have e4 : f ≠ g := fun z => e2 (z.trans e3)
        have b := base3_eq n hn T g h f num hg hh hf 0 (by omega) (by omega)
        show fnRun 7 (g_reaching_three (r_reaching_three 1)) _ = _
        unfold g_reaching_three t_reaching_three_1 t_reaching_three_2
        simp! [decide_eq_false e4, decide_eq_false e2, decide_eq_true e3, b, k2]
      · rw [if_neg e3]
        exact base3_eq n hn T f g h num hf hg hh 1 e2 e3

theorem some_sh (n : Nat) (s : Option Tb) (hn : n ≤ 6) : m_some_point [shD (2 * n) s] = some (ptD (someO n s)) := by
  cases s with
  | none => exact some_none
  | some T => exact some_point_eq n T hn
theorem chk_pt (o : Option (List Int)) (k : Nat) : chk k (ptD o) = some (ptD o) := by
  cases o with
  | none => rfl
  | some p => exact chk_ints p k
theorem reaching_none (x y : D) : m_reaching [.non, x, y] = some .non := by
  unfold m_reaching g_reaching
  walk_at "tb"
theorem reaching_eq (n : Nat) (T : Tb) (fs : List Int) (num : Int) (hn : n ≤ 6) (hl : fs.length ≤ 3) (hf : ∀ f ∈ fs, rg (2 * n) f) : m_reaching [tabD (2 * n) T, lstI fs, .int num] = some (ptD (reachV n T fs num)) := by
  unfold m_reaching g_reaching t_reaching_1 t_reaching_2
  have hg := greatest_eq (2 * n) T fs (by omega) hl hf
  have sp := fun s => some_sh n s hn
  have cp := fun o => chk_pt o 0
  have hlen := len_intsL fs
  have rest : orun (t_reaching_3 [.va 0 (tabD (2 * n) T), .va 0 (lstI fs), .va 0 (.int num), .va 0 (oD (greatV T fs))]) = some (ptD (someO n (reachSh n T fs num))) := by
    unfold t_reaching_3 t_reaching_4 t_reaching_5 t_reaching_6
    match fs, hl with
    | [], _ =>
      have sp := sp (some T)
      have sp : m_some_point [tabD (2 * n) T] = some (ptD (someO n (some T))) := sp
      simp! [hlen, sp, cp]
      rfl
    | [f], _ =>
      have h1 := hf f List.mem_cons_self
      have q := flipped_eq f h1.1
      have c1 := heldT_eq n (by omega) T (flipI f) (flipI f) (-2 * num) (rg_flip h1) (rg_flip h1)
      have i0 : mIx (lstI [f]) (.int 0) = some (.int f) := ix_l0 _ _
      have hlen : mLen [lstI [f]] = some (.int 1) := hlen
      simp! [hlen, i0, q, c1, sp, cp]
      rfl
    | [f, g], _ =>
      have h1 := hf f List.mem_cons_self
      have h2 := hf g (List.mem_cons_of_mem _ List.mem_cons_self)
      have q := flipped_eq f h1.1
      have q2 := flipped_eq g h2.1
      have c1 := heldT_eq n (by omega) T (flipI f) (flipI g) (-num) (rg_flip h1) (rg_flip h2)
      have i0 : mIx (lstI [f, g]) (.int 0) = some (.int f) := ix_l0 _ _
      have i1 : mIx (lstI [f, g]) (.int 1) = some (.int g) := ix_l1 _ _ _
      have hlen : mLen [lstI [f, g]] = some (.int 2) := hlen
      simp! [hlen, i0, i1, q, q2, c1, sp, cp]
      rfl
    | [f, g, h], _ =>
      have h1 := hf f List.mem_cons_self
      have h2 := hf g (List.mem_cons_of_mem _ List.mem_cons_self)
      have h3 := hf h (List.mem_cons_of_mem _ (List.mem_cons_of_mem _ List.mem_cons_self))
      have c1 := reach3_eq n (by omega) T f g h num h1 h2 h3
      have i0 : mIx (lstI [f, g, h]) (.int 0) = some (.int f) := ix_l0 _ _
      have i1 : mIx (lstI [f, g, h]) (.int 1) = some (.int g) := ix_l1 _ _ _
      have i2 : mIx (lstI [f, g, h]) (.int 2) = some (.int h) := ix_natL_ _ 2 _ rfl
      have hlen : mLen [lstI [f, g, h]] = some (.int 3) := hlen
      simp! [hlen, i0, i1, i2, c1, sp, cp]
      rfl
  unfold reachV
  cases e : greatV T fs with
  | none =>
    rw [e] at hg rest
    simp! [hg]
    rw [if_neg (by simp [ltTop])]
    exact rest
  | some t =>
    rw [e] at hg rest
    simp! [hg]
    by_cases h : t < num
    · rw [if_pos h, if_pos (show ltTop (some t) num = true from decide_eq_true h)]; rfl
    · rw [if_neg h, if_neg (show ¬ ltTop (some t) num = true from fun z => h (of_decide_eq_true z))]
      exact rest

-- NEEDS: reachv
section
variable {n : Nat} {T : Tb}
def uO (T : Tb) (h z i : Int) : Option Int := lessO (lessO (halfO (T i i)) (addO (T i (flipI h)) (some z))) (addO (T i h) (some (-z)))
def pinT (T : Tb) (h z : Int) : Tb := fun i j => lessO (T i j) (addO (uO T h z i) (uO T h z j))
theorem bd_halfO {o : Option Int} {v : Int} : bd (halfO o) v ↔ ∃ e, o = some e ∧ e / 2 ≤ v := by
  cases o with
  | none => exact ⟨fun ⟨e, h, _⟩ => (by cases h), fun ⟨e, h, _⟩ => (by cases h)⟩
  | some x => exact ⟨fun ⟨e, h, h2⟩ => ⟨x, rfl, by cases h; exact h2⟩, fun ⟨e, h, h2⟩ => ⟨e / 2, by cases h; rfl, h2⟩⟩
theorem bd_addS {o : Option Int} {c v : Int} : bd (addO o (some c)) v ↔ bd o (v - c) := by
  rw [bd_add]
  constructor
  · rintro ⟨x, y, hx, hy, h⟩
    exact hx.mono (by have := bd_some.mp hy; omega)
  · intro h
    exact ⟨v - c, c, h, bd_some.mpr (Int.le_refl _), by omega⟩
theorem bd_u {h z i v : Int} : bd (uO T h z i) v ↔ (∃ e, T i i = some e ∧ e / 2 ≤ v) ∨ bd (T i (flipI h)) (v - z) ∨ bd (T i h) (v + z) := by
  unfold uO
  rw [bd_less, bd_less, bd_halfO, bd_addS, bd_addS, show v - -z = v + z by omega, or_assoc]
theorem bd_pin {h z i j v : Int} : bd (pinT T h z i j) v ↔ bd (T i j) v ∨ ∃ a b, bd (uO T h z i) a ∧ bd (uO T h z j) b ∧ a + b ≤ v := by
  unfold pinT
  rw [bd_less, bd_add]
theorem bd_zer (L : Tight n T) {i v : Int} (hi : rg (2 * n) i) (h : bd (T i (flipI i)) v) : 0 ≤ v := by
  obtain ⟨e, h1, h2⟩ := h
  rw [L.zer i hi] at h1
  cases h1; exact h2
theorem bd_sym (L : Tight n T) {i j v : Int} (h : bd (T i j) v) : bd (T j i) v := by rw [L.sym]; exact h
/-- a bound by way of a form -/
theorem lk (L : Tight n T) {i j k v w : Int} (hi : rg (2 * n) i) (hj : rg (2 * n) j) (hk : rg (2 * n) k) (p : bd (T i j) v) (q : bd (T (flipI j) k) w) : bd (T i k) (v + w) := L.link i j k hi hj hk v w p q
theorem u_step (L : Tight n T) {h z i j v w : Int} (hh : rg (2 * n) h) (hi : rg (2 * n) i) (hj : rg (2 * n) j) (p : bd (T i j) v) (q : bd (uO T h z (flipI j)) w) : bd (uO T h z i) (v + w) := by
  have hj' := rg_flip hj
  rcases bd_u.mp q with ⟨e, h1, h2⟩ | q | q
  · have a := lk L hi hj hj' p ⟨e, h1, Int.le_refl _⟩
    have b := lk L hi hj' hi a (by rw [flipI_flip]; exact bd_sym L p)
    obtain ⟨e', h3, h4⟩ := b
    have := L.even _ hi e' h3
    have := L.even _ hj' e h1
    exact bd_u.mpr (.inl ⟨e', h3, by omega⟩)
  · have a := lk L hi hj (rg_flip hh) p q
    exact bd_u.mpr (.inr (.inl (a.mono (by omega))))
  · have a := lk L hi hj hh p q
    exact bd_u.mpr (.inr (.inr (a.mono (by omega))))
theorem u_zero (L : Tight n T) {h z i a b : Int} (hh : rg (2 * n) h) (hi : rg (2 * n) i) (up : ∀ v, bd (T h h) v → 2 * z ≤ v) (lo : ∀ v, bd (T (flipI h) (flipI h)) v → -2 * z ≤ v) (p : bd (uO T h z i) a) (q : bd (uO T h z (flipI i)) b) : 0 ≤ a + b := by
  have hi' := rg_flip hi
  have hh' := rg_flip hh
  -- what is behind half of a bound on the form twice
  have half : ∀ {i : Int}, rg (2 * n) i → ∀ {e b : Int}, T i i = some e → bd (uO T h z (flipI i)) b → 0 ≤ e / 2 + b := by
    intro i hi e b he q
    have hi' := rg_flip hi
    have ev := L.even _ hi e he
    have be : bd (T i i) e := ⟨e, he, Int.le_refl _⟩
    rcases bd_u.mp q with ⟨e2, h1, h2⟩ | q | q
    · have := bd_zer L hi (lk L hi hi hi' be ⟨e2, h1, Int.le_refl _⟩)
      have := L.even _ hi' e2 h1
      omega
    · have a := bd_sym L (lk L hi hi hh' be q)
      have := lo _ (lk L hh' hi hh' a q)
      omega
    · have a := bd_sym L (lk L hi hi hh be q)
      have := up _ (lk L hh hi hh a q)
      omega
  rcases bd_u.mp p with ⟨e, h1, h2⟩ | p' | p'
  · have := half hi h1 q
    omega
  · rcases bd_u.mp q with ⟨e, h1, h2⟩ | q' | q'
    · have := half hi' h1 (by rw [flipI_flip]; exact p)
      omega
    · have := lo _ (lk L hh' hi hh' (bd_sym L p') q')
      omega
    · have := bd_zer L hh' (by rw [flipI_flip]; exact lk L hh' hi hh (bd_sym L p') q')
      omega
  · rcases bd_u.mp q with ⟨e, h1, h2⟩ | q' | q'
    · have := half hi' h1 (by rw [flipI_flip]; exact p)
      omega
    · have := bd_zer L hh (lk L hh hi hh' (bd_sym L p') q')
      omega
    · have := up _ (lk L hh hi hh (bd_sym L p') q')
      omega
theorem add_comm' (a b : Option Int) : addO a b = addO b a := by
  cases a <;> cases b <;> first | rfl | (show some _ = some _; rw [Int.add_comm])
/-- a closed table with a form held at a number is closed -/
theorem pin_tight (L : Tight n T) {h z : Int} (hh : rg (2 * n) h) (up : ∀ v, bd (T h h) v → 2 * z ≤ v) (lo : ∀ v, bd (T (flipI h) (flipI h)) v → -2 * z ≤ v) : Tight n (pinT T h z) := by
  have uh : ∀ {f x : Int}, rg (2 * n) f → bd (pinT T h z f f) x → bd (uO T h z f) (x / 2) := by
    intro f x hf p
    rcases bd_pin.mp p with ⟨e, h1, h2⟩ | ⟨a, b, ⟨e, h1, h2⟩, ⟨e', h3, h4⟩, h5⟩
    · exact bd_u.mpr (.inl ⟨e, h1, by omega⟩)
    · rw [h1] at h3
      cases h3
      exact ⟨e, h1, by omega⟩
  refine ⟨fun f g => ?_, fun f hf => ?_, fun f g k hf hg hk v w p q => ?_, fun f g hf hg x y p q => ?_, fun f hf x hx => ?_⟩
  · unfold pinT
    rw [L.sym f g, add_comm']
  · refine zero_of (bd_pin.mpr (.inl ⟨0, L.zer f hf, Int.le_refl _⟩)) fun v p => ?_
    rcases bd_pin.mp p with p | ⟨a, b, p, q, h1⟩
    · exact bd_zer L hf p
    · have := u_zero L hh hf up lo p q
      omega
  · rcases bd_pin.mp p with p | ⟨a, b, p1, p2, p3⟩
    · rcases bd_pin.mp q with q | ⟨c, d, q1, q2, q3⟩
      · exact bd_pin.mpr (.inl (lk L hf hg hk p q))
      · exact bd_pin.mpr (.inr ⟨v + c, d, u_step L hh hf hg p q1, q2, by omega⟩)
    · rcases bd_pin.mp q with q | ⟨c, d, q1, q2, q3⟩
      · have := u_step L hh hk (rg_flip hg) (bd_sym L q) (by rw [flipI_flip]; exact p2)
        exact bd_pin.mpr (.inr ⟨a, w + b, p1, this, by omega⟩)
      · have := u_zero L hh hg up lo p2 q1
        exact bd_pin.mpr (.inr ⟨a, d, p1, q2, by omega⟩)
  · exact bd_pin.mpr (.inr ⟨_, _, uh hf p, uh hg q, by omega⟩)
  · unfold pinT at hx
    have E := L.even f hf
    cases e1 : T f f with
    | none =>
      rw [e1] at hx
      cases e2 : uO T h z f with
      | none => rw [e2] at hx; cases hx
      | some u =>
        rw [e2] at hx
        have hx : some (u + u) = some x := hx
        cases hx; omega
    | some e =>
      rw [e1] at hx
      have := E e e1
      cases e2 : uO T h z f with
      | none =>
        rw [e2] at hx
        have hx : some e = some x := hx
        cases hx; exact this
      | some u =>
        rw [e2] at hx
        have hx : (if e ≤ u + u then some e else some (u + u)) = some x := hx
        split at hx
        · cases hx; exact this
        · cases hx; omega
theorem pin_point (L : Tight n T) {h z f g K : Int} (hh : rg (2 * n) h) (hf : rg (2 * n) f) (hg : rg (2 * n) g) (up : ∀ v, bd (T h h) v → 2 * z ≤ v) (lo : ∀ v, bd (T (flipI h) (flipI h)) v → -2 * z ≤ v)
    (k1 : ∀ v, bd (T f g) v → K ≤ v) (k2 : ∀ a b, bd (uO T h z f) a → bd (uO T h z g) b → K ≤ a + b) : ∃ pt, Lies n T pt ∧ worthI pt h = z ∧ K ≤ worthI pt f + worthI pt g := by
  have P := pin_tight L hh up lo
  obtain ⟨pt, hp, hk⟩ := reach P hf hg (K := K) fun v hv => by
    rcases bd_pin.mp hv with h | ⟨a, b, h1, h2, h3⟩
    · exact k1 v h
    · have := k2 a b h1 h2
      omega
  have hh' := rg_flip hh
  have b1 : bd (uO T h z h) z := bd_u.mpr (.inr (.inl ⟨0, L.zer h hh, by omega⟩))
  have b2 : bd (uO T h z (flipI h)) (-z) := bd_u.mpr (.inr (.inr ⟨0, by rw [L.sym]; exact L.zer h hh, by omega⟩))
  have w1 := hp.2 h h hh hh (2 * z) (bd_pin.mpr (.inr ⟨z, z, b1, b1, by omega⟩))
  have w2 := hp.2 _ _ hh' hh' (-2 * z) (bd_pin.mpr (.inr ⟨-z, -z, b2, b2, by omega⟩))
  rw [flip_worth] at w2
  exact ⟨pt, ⟨hp.1, fun i j hi hj v hv => hp.2 i j hi hj v (bd_pin.mpr (.inl hv))⟩, by omega, hk⟩
/-- the four bounds on the sum of three forms are not below a number -/
structure Up3 (T : Tb) (f g h num : Int) : Prop where
  a : ∀ p q, bd (T f g) p → bd (halfO (T h h)) q → num ≤ p + q
  b : ∀ p q, bd (T f h) p → bd (halfO (T g g)) q → num ≤ p + q
  c : ∀ p q, bd (T g h) p → bd (halfO (T f f)) q → num ≤ p + q
  d : ∀ p q r, bd (T f g) p → bd (T g h) q → bd (T f h) r → 2 * num ≤ p + q + r
theorem bd_great3 {f g h v : Int} : bd (great3 T f g h) v ↔ (∃ p q, bd (T f g) p ∧ bd (halfO (T h h)) q ∧ p + q ≤ v) ∨ (∃ p q, bd (T f h) p ∧ bd (halfO (T g g)) q ∧ p + q ≤ v) ∨ (∃ p q, bd (T g h) p ∧ bd (halfO (T f f)) q ∧ p + q ≤ v) ∨ ∃ p q r, bd (T f g) p ∧ bd (T g h) q ∧ bd (T f h) r ∧ (p + q + r) / 2 ≤ v := by
  have key : bd (great3 T f g h) v ↔ (bd (addO (T f g) (halfO (T h h))) v ∨ bd (addO (T f h) (halfO (T g g))) v ∨ bd (addO (T g h) (halfO (T f f))) v) ∨ ∃ a, addO (T f g) (addO (T g h) (T f h)) = some a ∧ a / 2 ≤ v := by
    unfold great3
    cases e : addO (T f g) (addO (T g h) (T f h)) with
    | none =>
      show bd (lessO (lessO _ _) _) v ↔ _
      rw [bd_less, bd_less, or_assoc]
      exact ⟨.inl, fun h => h.elim id fun ⟨a, h, _⟩ => (by cases h)⟩
    | some a =>
      show bd (lessO (lessO (lessO _ _) _) (some (a / 2))) v ↔ _
      rw [bd_less, bd_less, bd_less, bd_some, or_assoc (a := bd _ v)]
      exact or_congr Iff.rfl ⟨fun h => ⟨a, rfl, h⟩, fun ⟨b, h1, h2⟩ => by cases h1; exact h2⟩
  rw [key, bd_add, bd_add, bd_add, or_assoc, or_assoc]
  refine or_congr Iff.rfl (or_congr Iff.rfl (or_congr Iff.rfl ⟨?_, ?_⟩))
  · rintro ⟨a, h1, h2⟩
    cases e1 : T f g with
    | none => rw [e1] at h1; cases h1
    | some p =>
      cases e2 : T g h with
      | none => rw [e1, e2] at h1; cases h1
      | some q =>
        cases e3 : T f h with
        | none => rw [e1, e2, e3] at h1; cases h1
        | some r =>
          rw [e1, e2, e3] at h1
          have h1 : p + (q + r) = a := Option.some.inj h1
          exact ⟨p, q, r, ⟨p, rfl, Int.le_refl _⟩, ⟨q, rfl, Int.le_refl _⟩, ⟨r, rfl, Int.le_refl _⟩, by rw [Int.add_assoc, h1]; exact h2⟩
  · rintro ⟨p, q, r, ⟨p', e1, h1⟩, ⟨q', e2, h2⟩, ⟨r', e3, h3⟩, h4⟩
    exact ⟨p' + (q' + r'), by rw [e1, e2, e3]; rfl, by omega⟩
theorem up3_iff {f g h num : Int} : (∀ v, bd (great3 T f g h) v → num ≤ v) ↔ Up3 T f g h num := by
  constructor
  · intro H
    refine ⟨fun p q h1 h2 => H _ (bd_great3.mpr (.inl ⟨p, q, h1, h2, Int.le_refl _⟩)), fun p q h1 h2 => H _ (bd_great3.mpr (.inr (.inl ⟨p, q, h1, h2, Int.le_refl _⟩))), fun p q h1 h2 => H _ (bd_great3.mpr (.inr (.inr (.inl ⟨p, q, h1, h2, Int.le_refl _⟩)))), fun p q r h1 h2 h3 => ?_⟩
    have := H _ (bd_great3.mpr (.inr (.inr (.inr ⟨p, q, r, h1, h2, h3, Int.le_refl _⟩))))
    omega
  · intro U v hv
    rcases bd_great3.mp hv with ⟨p, q, h1, h2, h3⟩ | ⟨p, q, h1, h2, h3⟩ | ⟨p, q, h1, h2, h3⟩ | ⟨p, q, r, h1, h2, h3, h4⟩
    · have := U.a p q h1 h2; omega
    · have := U.b p q h1 h2; omega
    · have := U.c p q h1 h2; omega
    · have := U.d p q r h1 h2 h3; omega
theorem Up3.swap (L : Tight n T) {f g h num : Int} (U : Up3 T f g h num) : Up3 T f h g num :=
  ⟨U.b, U.a, fun p q h1 h2 => U.c p q (bd_sym L h1) h2, fun p q r h1 h2 h3 => by have := U.d r q p h3 (bd_sym L h2) h1; omega⟩
theorem Up3.rot (L : Tight n T) {f g h num : Int} (U : Up3 T f g h num) : Up3 T g h f num :=
  ⟨U.c, fun p q h1 h2 => U.a p q (bd_sym L h1) h2, fun p q h1 h2 => U.b p q (bd_sym L h1) h2, fun p q r h1 h2 h3 => by have := U.d r p q (bd_sym L h3) h1 (bd_sym L h2); omega⟩
/-- what z must not be below -/
structure Low3 (T : Tb) (f g h num z : Int) : Prop where
  l1 : ∀ v, bd (T (flipI h) (flipI h)) v → -2 * z ≤ v
  l2 : ∀ v, bd (T f g) v → num - z ≤ v
  l3 : ∀ x c, bd (halfO (T f f)) x → bd (T g (flipI h)) c → num ≤ 2 * z + x + c
  l4 : ∀ y a, bd (halfO (T g g)) y → bd (T f (flipI h)) a → num ≤ 2 * z + y + a
  l5 : ∀ a c, bd (T f (flipI h)) a → bd (T g (flipI h)) c → num ≤ 3 * z + a + c
theorem low_half (L : Tight n T) {f g h num e : Int} (hf : rg (2 * n) f) (hg : rg (2 * n) g) (hh : rg (2 * n) h) (U : Up3 T f g h num) (he : T h h = some e) : Low3 T f g h num (e / 2) := by
  have hh' := rg_flip hh
  have ev := L.even h hh e he
  have be : bd (T h h) e := ⟨e, he, Int.le_refl _⟩
  have bh : bd (halfO (T h h)) (e / 2) := bd_halfO.mpr ⟨e, he, Int.le_refl _⟩
  refine ⟨fun v p => ?_, fun v p => ?_, fun x c p q => ?_, fun y a p q => ?_, fun a c p q => ?_⟩
  · have := bd_zer L hh (lk L hh hh hh' be p)
    omega
  · have := U.a v _ p bh
    omega
  · have := U.c _ x (lk L hg hh' hh q (by rw [flipI_flip]; exact be)) p
    omega
  · have := U.b _ y (lk L hf hh' hh q (by rw [flipI_flip]; exact be)) p
    omega
  · have r := lk L hg hh' hh q (by rw [flipI_flip]; exact be)
    have := U.a _ _ (lk L hf hh' hg p (by rw [flipI_flip]; exact bd_sym L r)) bh
    omega
theorem low_fall (L : Tight n T) {f g h num b d : Int} (hf : rg (2 * n) f) (hg : rg (2 * n) g) (hh : rg (2 * n) h) (U : Up3 T f g h num) (hb : T f h = some b) (hd : T g h = some d) : Low3 T f g h num (b + d - num) := by
  have hh' := rg_flip hh
  have bb : bd (T f h) b := ⟨b, hb, Int.le_refl _⟩
  have bd' : bd (T g h) d := ⟨d, hd, Int.le_refl _⟩
  refine ⟨fun v p => ?_, fun v p => ?_, fun x c p q => ?_, fun y a p q => ?_, fun a c p q => ?_⟩
  · have r := lk L hg hh hh' bd' p
    have := U.d _ d b (lk L hf hh hg bb (bd_sym L r)) bd' bb
    omega
  · have := U.d v d b p bd' bb
    omega
  · have := U.d _ d b (lk L hf hh hg bb (bd_sym L q)) bd' bb
    have := U.c d x bd' p
    omega
  · have := U.d _ d b (lk L hf hh' hg q (by rw [flipI_flip]; exact bd_sym L bd')) bd' bb
    have := U.b b y bb p
    omega
  · have := U.d _ d b (lk L hf hh hg bb (bd_sym L q)) bd' bb
    have := U.d _ d b (lk L hf hh' hg p (by rw [flipI_flip]; exact bd_sym L bd')) bd' bb
    omega
theorem low_lo (L : Tight n T) {f g h num z : Int} (hz : ∀ m, some m ∈ lowsV T f g h num → m ≤ z) (hh : rg (2 * n) h) : Low3 T f g h num z := by
  have hh' := rg_flip hh
  have mem : ∀ o, o ∈ lowsV T f g h num → ∀ m, o = some m → m ≤ z := fun o ho m e => hz m (e ▸ ho)
  unfold lowsV at mem
  simp only [List.mem_cons, List.not_mem_nil, or_false, forall_eq_or_imp, forall_eq] at mem
  obtain ⟨m1, m2, m3, m4, m5⟩ := mem
  have dv2 : ∀ t : Int, -((t - num) / 2) ≤ z → num ≤ 2 * z + t := fun t h => by omega
  have dv3 : ∀ t : Int, -((t - num) / 3) ≤ z → num ≤ 3 * z + t := fun t h => by omega
  have dv1 : ∀ t num : Int, -((t - num) / 1) ≤ z → num ≤ z + t := fun t num h => by omega
  refine ⟨fun v ⟨e, h1, h2⟩ => ?_, fun v ⟨e, h1, h2⟩ => ?_, fun x c p ⟨e, h1, h2⟩ => ?_, fun y a p ⟨e, h1, h2⟩ => ?_, fun a c ⟨e, h1, h2⟩ ⟨e', h3, h4⟩ => ?_⟩
  · rw [h1] at m1
    have := dv1 (e / 2) 0 (m1 _ (by show some (-((0 + e / 2 - 0) / 1)) = _; rw [Int.zero_add]))
    have := L.even _ hh' e h1
    omega
  · rw [h1] at m2
    have := dv1 e num (m2 _ (by show some (-((0 + e - num) / 1)) = _; rw [Int.zero_add]))
    omega
  · obtain ⟨e0, h3, h4⟩ := bd_halfO.mp p
    rw [h1, h3] at m3
    have := dv2 (e0 / 2 + e) (m3 _ (by show some (-((0 + e0 / 2 + e - num) / 2)) = _; rw [Int.zero_add]))
    omega
  · obtain ⟨e0, h3, h4⟩ := bd_halfO.mp p
    rw [h1, h3] at m4
    have := dv2 (e0 / 2 + e) (m4 _ (by show some (-((0 + e0 / 2 + e - num) / 2)) = _; rw [Int.zero_add]))
    omega
  · rw [h1, h3] at m5
    have := dv3 (e + e') (m5 _ (by show some (-((0 + e + e' - num) / 3)) = _; rw [Int.zero_add]))
    omega
theorem maxD_ge {z : Int} {l : List Int} {m : Int} (h : m ∈ l) : m ≤ maxD z l := by
  unfold maxD
  have ne : l ≠ [] := fun e => by rw [e] at h; cases h
  rw [if_neg (by rw [List.isEmpty_iff]; exact ne)]
  exact (maxL_mem ne).2 m h
theorem bd_topP {f g h num v : Int} : bd (topP T f g h num) v ↔ bd (halfO (T h h)) v ∨ ∃ b d, bd (T f h) b ∧ bd (T g h) d ∧ b + d - num ≤ v := by
  unfold topP
  cases e1 : T f h with
  | none => exact ⟨.inl, fun h => h.elim id fun ⟨b, d, ⟨x, h1, _⟩, _⟩ => (by cases h1)⟩
  | some b =>
    cases e2 : T g h with
    | none => exact ⟨.inl, fun h => h.elim id fun ⟨b, d, _, ⟨x, h1, _⟩, _⟩ => (by cases h1)⟩
    | some d =>
      show bd (lessO (halfO (T h h)) (some (b + d - num))) v ↔ _
      rw [bd_less, bd_some]
      refine or_congr Iff.rfl ⟨fun h => ⟨b, d, ⟨b, rfl, Int.le_refl _⟩, ⟨d, rfl, Int.le_refl _⟩, h⟩, fun ⟨b', d', h1, h2, h3⟩ => ?_⟩
      have := bd_some.mp h1
      have := bd_some.mp h2
      omega
theorem pin_low (L : Tight n T) {f g h num : Int} (hf : rg (2 * n) f) (hg : rg (2 * n) g) (hh : rg (2 * n) h) (U : Up3 T f g h num) :
    Low3 T f g h num (pinV T f g h num) ∧ (∀ v, bd (T h h) v → 2 * pinV T f g h num ≤ v) ∧ ∀ b d, bd (T f h) b → bd (T g h) d → pinV T f g h num ≤ b + d - num := by
  unfold pinV
  cases e : topP T f g h num with
  | none =>
    have no : ∀ v, ¬ bd (topP T f g h num) v := fun v ⟨x, h, _⟩ => by rw [e] at h; cases h
    refine ⟨low_lo L (fun m hm => maxD_ge (List.mem_filterMap.mpr ⟨_, hm, rfl⟩)) hh, fun v ⟨x, h1, h2⟩ => ?_, fun b d p q => ?_⟩
    · exact (no (x / 2) (bd_topP.mpr (.inl (bd_halfO.mpr ⟨x, h1, Int.le_refl _⟩)))).elim
    · exact (no _ (bd_topP.mpr (.inr ⟨b, d, p, q, Int.le_refl _⟩))).elim
  | some t =>
    have ge : ∀ v, bd (topP T f g h num) v → t ≤ v := fun v ⟨x, h, h2⟩ => by rw [e] at h; cases h; exact h2
    have at' : bd (topP T f g h num) t := ⟨t, e, Int.le_refl _⟩
    refine ⟨?_, fun v ⟨x, h1, h2⟩ => ?_, fun b d p q => ge _ (bd_topP.mpr (.inr ⟨b, d, p, q, Int.le_refl _⟩))⟩
    · show Low3 T f g h num t
      rcases bd_topP.mp at' with p | ⟨b, d, ⟨b', p, p'⟩, ⟨d', q, q'⟩, r⟩
      · obtain ⟨x, h1, h2⟩ := bd_halfO.mp p
        have := ge _ (bd_topP.mpr (.inl (bd_halfO.mpr ⟨x, h1, Int.le_refl _⟩)))
        obtain rfl : t = x / 2 := by omega
        exact low_half L hf hg hh U h1
      · have := ge _ (bd_topP.mpr (.inr ⟨b', d', ⟨b', p, Int.le_refl _⟩, ⟨d', q, Int.le_refl _⟩, Int.le_refl _⟩))
        obtain rfl : t = b' + d' - num := by omega
        exact low_fall L hf hg hh U p q
    · have := ge _ (bd_topP.mpr (.inl (bd_halfO.mpr ⟨x, h1, Int.le_refl _⟩)))
      show 2 * t ≤ v
      have := L.even _ hh x h1
      omega
theorem base_some (L : Tight n T) {f g h num : Int} (hf : rg (2 * n) f) (hg : rg (2 * n) g) (hh : rg (2 * n) h) (U : Up3 T f g h num) : ∃ V, base3 n T f g h num = some V ∧ Tight n V ∧ ∀ q, Lies n V q → Lies n T q ∧ num ≤ worthI q f + worthI q g + worthI q h := by
  obtain ⟨lo, up, fall⟩ := pin_low L hf hg hh U
  unfold base3
  generalize pinV T f g h num = z at *
  have hh' := rg_flip hh
  obtain ⟨pt, hp, hz, hk⟩ := pin_point L (K := num - z) hh hf hg up lo.l1 lo.l2 fun a b p q => by
    have half : ∀ {i v : Int}, (∃ e, T i i = some e ∧ e / 2 ≤ v) → bd (halfO (T i i)) v := fun h => bd_halfO.mpr h
    rcases bd_u.mp p with p | p | p
    · rcases bd_u.mp q with q | q | q
      · obtain ⟨e1, p1, p2⟩ := p
        obtain ⟨e2, q1, q2⟩ := q
        have := lo.l2 _ (L.half f g hf hg e1 e2 ⟨e1, p1, Int.le_refl _⟩ ⟨e2, q1, Int.le_refl _⟩)
        have := L.even _ hf e1 p1
        omega
      · have := lo.l3 a (b - z) (half p) q
        omega
      · have := U.c (b + z) a q (half p)
        omega
    · rcases bd_u.mp q with q | q | q
      · have := lo.l4 b (a - z) (half q) p
        omega
      · have := lo.l5 (a - z) (b - z) p q
        omega
      · have := lo.l2 _ (lk L hf hh' hg p (by rw [flipI_flip]; exact bd_sym L q))
        omega
    · rcases bd_u.mp q with q | q | q
      · have := U.b (a + z) b p (half q)
        omega
      · have := lo.l2 _ (lk L hf hh hg p (bd_sym L q))
        omega
      · have := fall _ _ p q
        omega
  obtain ⟨V1, e1, L1, p1, i1⟩ := held_some L hp hh hh (c := 2 * z) (by omega)
  obtain ⟨V2, e2, L2, p2, i2⟩ := held_some L1 p1 hh' hh' (c := -2 * z) (by rw [flip_worth]; omega)
  obtain ⟨V3, e3, L3, p3, i3⟩ := held_some L2 p2 (rg_flip hf) (rg_flip hg) (c := z - num) (by rw [flip_worth, flip_worth]; omega)
  refine ⟨V3, ?_, L3, fun q hq => ?_⟩
  · rw [e1]
    show heldS (2 * n) (heldF (2 * n) V1 (flipI h) (flipI h) (-2 * z)) _ = _
    rw [e2]
    exact e3
  · obtain ⟨q2, k3⟩ := (i3 q).mp hq
    obtain ⟨q1, k2⟩ := (i2 q).mp q2
    obtain ⟨q0, k1⟩ := (i1 q).mp q1
    rw [flip_worth, flip_worth] at k3
    rw [flip_worth] at k2
    exact ⟨q0, by omega⟩
theorem reach3_some (L : Tight n T) {f g h num : Int} (hf : rg (2 * n) f) (hg : rg (2 * n) g) (hh : rg (2 * n) h) (U : Up3 T f g h num) : ∃ V, reach3 n T f g h num = some V ∧ Tight n V ∧ ∀ q, Lies n V q → Lies n T q ∧ num ≤ worthI q f + worthI q g + worthI q h := by
  unfold reach3
  by_cases e1 : f = g ∧ g = h
  · obtain ⟨rfl, rfl⟩ := e1
    rw [if_pos ⟨rfl, rfl⟩]
    obtain ⟨pt, hp, hk⟩ := reach L hf hf (K := 2 * -(-num / 3)) fun v ⟨e, p, p'⟩ => by
      have := U.a e (e / 2) ⟨e, p, Int.le_refl _⟩ (bd_halfO.mpr ⟨e, p, Int.le_refl _⟩)
      have := L.even _ hf e p
      omega
    obtain ⟨V, e, LV, _, iff⟩ := held_some L hp (rg_flip hf) (rg_flip hf) (c := 2 * (-num / 3)) (by rw [flip_worth]; omega)
    refine ⟨V, e, LV, fun q hq => ?_⟩
    obtain ⟨q0, k⟩ := (iff q).mp hq
    rw [flip_worth] at k
    exact ⟨q0, by omega⟩
  · rw [if_neg e1]
    by_cases e2 : f = h
    · rw [if_pos e2]
      obtain ⟨V, e, LV, k⟩ := base_some L hf hh hg (U.swap L)
      exact ⟨V, e, LV, fun q hq => ⟨(k q hq).1, by have := (k q hq).2; omega⟩⟩
    · rw [if_neg e2]
      by_cases e3 : g = h
      · rw [if_pos e3]
        obtain ⟨V, e, LV, k⟩ := base_some L hg hh hf (U.rot L)
        exact ⟨V, e, LV, fun q hq => ⟨(k q hq).1, by have := (k q hq).2; omega⟩⟩
      · rw [if_neg e3]
        exact base_some L hf hg hh U
theorem reach_three (L : Tight n T) {f g h : Int} (hf : rg (2 * n) f) (hg : rg (2 * n) g) (hh : rg (2 * n) h) : ReachOk n T [f, g, h] := by
  refine ⟨fun pt hp v hv => ?_, fun num H => ?_, non_of⟩
  · have s1 := fun i j hi hj v hv => hp.2 i j hi hj v hv
    have half : ∀ {i q : Int}, rg (2 * n) i → bd (halfO (T i i)) q → worthI pt i ≤ q := fun hi p => by
      obtain ⟨e, h1, h2⟩ := bd_halfO.mp p
      have := s1 _ _ hi hi e ⟨e, h1, Int.le_refl _⟩
      omega
    show worthI pt f + (worthI pt g + (worthI pt h + 0)) ≤ v
    rcases bd_great3.mp hv with ⟨p, q, h1, h2, h3⟩ | ⟨p, q, h1, h2, h3⟩ | ⟨p, q, h1, h2, h3⟩ | ⟨p, q, r, h1, h2, h3, h4⟩
    · have := s1 f g hf hg p h1
      have := half hh h2
      omega
    · have := s1 f h hf hh p h1
      have := half hg h2
      omega
    · have := s1 g h hg hh p h1
      have := half hf h2
      omega
    · have := s1 f g hf hg p h1
      have := s1 g h hg hh q h2
      have := s1 f h hf hh r h3
      omega
  · obtain ⟨V, e, LV, k⟩ := reach3_some L hf hg hh (up3_iff.mp H)
    obtain ⟨k1, k2⟩ := k _ (some_lies LV)
    refine ⟨_, ?_, k1, ?_⟩
    · rw [reachV_of H]
      show (reach3 n T f g h num).map _ = _
      rw [e]; rfl
    · show num ≤ worthI _ f + (worthI _ g + (worthI _ h + 0))
      omega
theorem reach_ok (L : Tight n T) {fs : List Int} (hl : fs.length ≤ 3) (hf : ∀ f ∈ fs, rg (2 * n) f) : ReachOk n T fs := by
  match fs, hl with
  | [], _ => exact reach_nil L
  | [f], _ => exact reach_one L (hf f List.mem_cons_self)
  | [f, g], _ => exact reach_two L (hf f List.mem_cons_self) (hf g (List.mem_cons_of_mem _ List.mem_cons_self))
  | [f, g, h], _ => exact reach_three L (hf f List.mem_cons_self) (hf g (List.mem_cons_of_mem _ List.mem_cons_self)) (hf h (List.mem_cons_of_mem _ (List.mem_cons_of_mem _ List.mem_cons_self)))
end
theorem low_ext {a b : Option Int} (h : ∀ num, (∀ v, bd a v → num ≤ v) ↔ ∀ v, bd b v → num ≤ v) : a = b := by
  cases a with
  | none =>
    cases b with
    | none => rfl
    | some y =>
      have := (h (y + 1)).mp (fun v ⟨e, p, _⟩ => by cases p) y ⟨y, rfl, Int.le_refl _⟩
      omega
  | some x =>
    cases b with
    | none =>
      have := (h (x + 1)).mpr (fun v ⟨e, p, _⟩ => by cases p) x ⟨x, rfl, Int.le_refl _⟩
      omega
    | some y =>
      have h1 := (h x).mp (fun v p => bd_some.mp p) y ⟨y, rfl, Int.le_refl _⟩
      have h2 := (h y).mpr (fun v p => bd_some.mp p) x ⟨x, rfl, Int.le_refl _⟩
      rw [show x = y by omega]
theorem great3_swap {n : Nat} {T : Tb} (L : Tight n T) (f g h : Int) : great3 T f h g = great3 T f g h := low_ext fun num => by
  rw [up3_iff, up3_iff]
  exact ⟨fun u => u.swap L, fun u => u.swap L⟩
theorem great3_rot {n : Nat} {T : Tb} (L : Tight n T) (f g h : Int) : great3 T g h f = great3 T f g h := low_ext fun num => by
  rw [up3_iff, up3_iff]
  exact ⟨fun u => (u.rot L).rot L, fun u => u.rot L⟩

-- NEEDS: reachv
section
variable {n : Nat} {T : Tb}
def setL (T : Tb) (f : Int) (own : Option Int) (b : Int → Option Int) : Tb := fun i j => if i = f ∧ j = f then own else if i = f ∧ j / 2 ≠ f / 2 then b j else if j = f ∧ i / 2 ≠ f / 2 then b i else T i j
def vA (T : Tb) (k : Nat) (lo hi : Option Int) (i : Int) : Option Int := if i = 2 * (k : Int) then hi else if i = 2 * (k : Int) + 1 then lo.map (-·) else halfO (T i i)
def askT (T : Tb) (k : Nat) (lo hi : Option Int) : Tb := fun i j => if i / 2 = (k : Int) ∨ j / 2 = (k : Int) then (if i / 2 = (k : Int) ∧ j / 2 = (k : Int) ∧ i ≠ j then T i j else addO (vA T k lo hi i) (vA T k lo hi j)) else T i j
theorem addO_comm (a b : Option Int) : addO a b = addO b a := by
  cases a <;> cases b <;> first | rfl | (show some _ = some _; rw [Int.add_comm])
/-- an amount asked for, within its ends -/
def clipV (lo hi : Option Int) (x : Int) : Int := match lo with
  | some l => if x < l then l else (match hi with | some h => if h < x then h else x | none => x)
  | none => (match hi with | some h => if h < x then h else x | none => x)
/-- low not above high -/
def EndsOk (lo hi : Option Int) : Prop := ∀ l h, lo = some l → hi = some h → l ≤ h
theorem bd_halfO' {o : Option Int} {v : Int} : bd (halfO o) v ↔ ∃ e, o = some e ∧ e / 2 ≤ v := by
  cases o with
  | none => exact ⟨fun ⟨e, h, _⟩ => (by cases h), fun ⟨e, h, _⟩ => (by cases h)⟩
  | some x => exact ⟨fun ⟨e, h, h2⟩ => ⟨x, rfl, by cases h; exact h2⟩, fun ⟨e, h, h2⟩ => ⟨e / 2, by cases h; rfl, h2⟩⟩
theorem vA_out {k : Nat} {lo hi : Option Int} {i : Int} (h : i / 2 ≠ (k : Int)) : vA T k lo hi i = halfO (T i i) := by
  unfold vA
  rw [if_neg (by omega), if_neg (by omega)]
theorem vA_zero (L : Tight n T) {k : Nat} {lo hi : Option Int} (he : EndsOk lo hi) {i a b : Int} (hi' : rg (2 * n) i) (p : bd (vA T k lo hi i) a) (q : bd (vA T k lo hi (flipI i)) b) : 0 ≤ a + b := by
  by_cases h : i / 2 = (k : Int)
  · have : i = 2 * (k : Int) ∨ i = 2 * (k : Int) + 1 := by omega
    rcases this with rfl | rfl
    · rw [show flipI (2 * (k : Int)) = 2 * (k : Int) + 1 by unfold flipI; omega] at q
      unfold vA at p q
      rw [if_pos rfl] at p
      rw [if_neg (by omega), if_pos rfl] at q
      obtain ⟨x, e1, h1⟩ := p
      cases lo with
      | none => obtain ⟨y, e2, _⟩ := q; cases e2
      | some l =>
        have := he l x rfl e1
        have : -l ≤ b := bd_some.mp q
        omega
    · rw [show flipI (2 * (k : Int) + 1) = 2 * (k : Int) by unfold flipI; omega] at q
      unfold vA at p q
      rw [if_pos rfl] at q
      rw [if_neg (by omega), if_pos rfl] at p
      obtain ⟨x, e1, h1⟩ := q
      cases lo with
      | none => obtain ⟨y, e2, _⟩ := p; cases e2
      | some l =>
        have := he l x rfl e1
        have : -l ≤ a := bd_some.mp p
        omega
  · have h' : flipI i / 2 ≠ (k : Int) := by unfold flipI; omega
    rw [vA_out h] at p
    rw [vA_out h'] at q
    obtain ⟨e1, p1, p2⟩ := bd_halfO'.mp p
    obtain ⟨e2, q1, q2⟩ := bd_halfO'.mp q
    have h1 := L.link i i (flipI i) hi' hi' (rg_flip hi') e1 e2 ⟨e1, p1, Int.le_refl _⟩ ⟨e2, q1, Int.le_refl _⟩
    obtain ⟨x, e, hx⟩ := h1
    rw [L.zer i hi'] at e
    cases e
    have := L.even i hi' e1 p1
    have := L.even _ (rg_flip hi') e2 q1
    omega
theorem vA_step (L : Tight n T) {k : Nat} {lo hi : Option Int} {i j v w : Int} (hi' : rg (2 * n) i) (hj : rg (2 * n) j) (ki : i / 2 ≠ (k : Int)) (kj : j / 2 ≠ (k : Int)) (p : bd (T i j) v) (q : bd (vA T k lo hi (flipI j)) w) : bd (vA T k lo hi i) (v + w) := by
  have kj' : flipI j / 2 ≠ (k : Int) := by unfold flipI; omega
  rw [vA_out kj'] at q
  rw [vA_out ki]
  obtain ⟨e, q1, q2⟩ := bd_halfO'.mp q
  have hj' := rg_flip hj
  have a := L.link i j (flipI j) hi' hj hj' v e p ⟨e, q1, Int.le_refl _⟩
  have b := L.link i (flipI j) i hi' hj' hi' _ v a (by rw [flipI_flip, L.sym]; exact p)
  obtain ⟨e', h1, h2⟩ := b
  have := L.even _ hi' e' h1
  have := L.even _ hj' e q1
  exact bd_halfO'.mpr ⟨e', h1, by omega⟩
theorem bd_ask (L : Tight n T) {k : Nat} {lo hi : Option Int} {i j v : Int} (hi' : rg (2 * n) i) (hj : rg (2 * n) j) : bd (askT T k lo hi i j) v ↔
    (i / 2 ≠ (k : Int) ∧ j / 2 ≠ (k : Int) ∧ bd (T i j) v) ∨ ((i / 2 = (k : Int) ∨ j / 2 = (k : Int)) ∧ ¬ (i / 2 = (k : Int) ∧ j / 2 = (k : Int) ∧ i ≠ j) ∧ ∃ a b, bd (vA T k lo hi i) a ∧ bd (vA T k lo hi j) b ∧ a + b ≤ v) ∨ (i / 2 = (k : Int) ∧ j = flipI i ∧ 0 ≤ v) := by
  unfold askT
  by_cases h : i / 2 = (k : Int) ∨ j / 2 = (k : Int)
  · rw [if_pos h]
    by_cases h2 : i / 2 = (k : Int) ∧ j / 2 = (k : Int) ∧ i ≠ j
    · rw [if_pos h2]
      have hf : j = flipI i := by unfold flipI; omega
      rw [hf, L.zer i hi']
      constructor
      · intro ⟨e, h3, h4⟩
        cases h3
        exact .inr (.inr ⟨h2.1, rfl, h4⟩)
      · rintro (⟨a, _⟩ | ⟨_, b, _⟩ | ⟨_, _, c⟩)
        · exact (a h2.1).elim
        · exact (b ⟨h2.1, by unfold flipI; omega, by unfold flipI; omega⟩).elim
        · exact ⟨0, rfl, c⟩
    · rw [if_neg h2, bd_add]
      constructor
      · intro h3
        exact .inr (.inl ⟨h, h2, h3⟩)
      · rintro (⟨a, b, _⟩ | ⟨_, _, c⟩ | ⟨a, b, _⟩)
        · exact (h.elim a b).elim
        · exact c
        · exact (h2 ⟨a, by rw [b]; unfold flipI; omega, by rw [b]; unfold flipI; omega⟩).elim
  · rw [if_neg h]
    constructor
    · intro h3
      exact .inl ⟨fun z => h (.inl z), fun z => h (.inr z), h3⟩
    · rintro (⟨_, _, c⟩ | ⟨a, _⟩ | ⟨a, _⟩)
      · exact c
      · exact (h a).elim
      · exact (h (.inl a)).elim
/-- two bounds together -/
theorem ask_two (L : Tight n T) {k : Nat} {lo hi : Option Int} (he : EndsOk lo hi) {i j a b : Int} (hi' : rg (2 * n) i) (hj : rg (2 * n) j) (p : bd (vA T k lo hi i) a) (q : bd (vA T k lo hi j) b) : bd (askT T k lo hi i j) (a + b) := by
  rw [bd_ask L hi' hj]
  by_cases h : i / 2 = (k : Int) ∨ j / 2 = (k : Int)
  · by_cases h2 : i / 2 = (k : Int) ∧ j / 2 = (k : Int) ∧ i ≠ j
    · have hf : j = flipI i := by unfold flipI; omega
      subst hf
      exact .inr (.inr ⟨h2.1, rfl, vA_zero L he hi' p q⟩)
    · exact .inr (.inl ⟨h, h2, a, b, p, q, Int.le_refl _⟩)
  · have h1 : i / 2 ≠ (k : Int) := fun z => h (.inl z)
    have h2 : j / 2 ≠ (k : Int) := fun z => h (.inr z)
    refine .inl ⟨h1, h2, ?_⟩
    rw [vA_out h1] at p
    rw [vA_out h2] at q
    obtain ⟨e1, p1, p2⟩ := bd_halfO'.mp p
    obtain ⟨e2, q1, q2⟩ := bd_halfO'.mp q
    have := L.even _ hi' e1 p1
    have := L.even _ hj e2 q1
    exact (L.half i j hi' hj e1 e2 ⟨e1, p1, Int.le_refl _⟩ ⟨e2, q1, Int.le_refl _⟩).mono (by omega)
theorem ask_tight (L : Tight n T) {k : Nat} {lo hi : Option Int} (he : EndsOk lo hi) : Tight n (askT T k lo hi) := by
  have sym : ∀ f g, askT T k lo hi f g = askT T k lo hi g f := fun f g => by
    unfold askT
    rw [L.sym f g, addO_comm]
    by_cases h : f / 2 = (k : Int) ∨ g / 2 = (k : Int)
    · rw [if_pos h, if_pos h.symm]
      by_cases h2 : f / 2 = (k : Int) ∧ g / 2 = (k : Int) ∧ f ≠ g
      · rw [if_pos h2, if_pos ⟨h2.2.1, h2.1, Ne.symm h2.2.2⟩]
      · rw [if_neg h2, if_neg fun z => h2 ⟨z.2.1, z.1, Ne.symm z.2.2⟩]
    · rw [if_neg h, if_neg fun z => h z.symm]
  have half : ∀ {f x : Int}, rg (2 * n) f → bd (askT T k lo hi f f) x → bd (vA T k lo hi f) (x / 2) := by
    intro f x hf p
    rcases (bd_ask L hf hf).mp p with ⟨h1, _, e, e1, e2⟩ | ⟨_, _, a, b, ⟨u, u1, u2⟩, ⟨u', u3, u4⟩, h3⟩ | ⟨_, h2, _⟩
    · rw [vA_out h1]
      exact bd_halfO'.mpr ⟨e, e1, by omega⟩
    · rw [u1] at u3
      cases u3
      exact ⟨u, u1, by omega⟩
    · unfold flipI at h2; omega
  refine ⟨sym, fun f hf => ?_, fun f g h hf hg hh v w p q => ?_, fun f g hf hg x y p q => ?_, fun f hf x hx => ?_⟩
  · unfold askT
    by_cases h : f / 2 = (k : Int)
    · rw [if_pos (.inl h), if_pos ⟨h, by unfold flipI; omega, by unfold flipI; omega⟩]
      exact L.zer f hf
    · rw [if_neg (by unfold flipI; omega)]
      exact L.zer f hf
  · have hg' := rg_flip hg
    rcases (bd_ask L hf hg).mp p with ⟨p1, p2, p3⟩ | ⟨p1, p2, a, b, p3, p4, p5⟩ | ⟨p1, p2, p3⟩
    · rcases (bd_ask L hg' hh).mp q with ⟨q1, q2, q3⟩ | ⟨q1, q2, c, d, q3, q4, q5⟩ | ⟨q1, q2, q3⟩
      · exact (bd_ask L hf hh).mpr (.inl ⟨p1, q2, L.link f g h hf hg hh v w p3 q3⟩)
      · exact (ask_two L he hf hh (vA_step L hf hg p1 p2 p3 q3) q4).mono (by omega)
      · exact (p2 (by unfold flipI at q1; omega)).elim
    · rcases (bd_ask L hg' hh).mp q with ⟨q1, q2, q3⟩ | ⟨q1, q2, c, d, q3, q4, q5⟩ | ⟨q1, q2, q3⟩
      · have := vA_step L hh hg' q2 q1 (by rw [L.sym]; exact q3) (by rw [flipI_flip]; exact p4)
        exact (ask_two L he hf hh p3 this).mono (by omega)
      · have := vA_zero L he hg p4 q3
        exact (ask_two L he hf hh p3 q4).mono (by omega)
      · rw [flipI_flip] at q2
        subst q2
        exact (ask_two L he hf hh p3 p4).mono (by omega)
    · subst p2
      rw [flipI_flip] at q
      exact q.mono (by omega)
  · exact (ask_two L he hf hg (half hf p) (half hg q)).mono (by omega)
  · unfold askT at hx
    by_cases h : f / 2 = (k : Int)
    · rw [if_pos (.inl h), if_neg fun z => z.2.2 rfl] at hx
      cases e : vA T k lo hi f with
      | none => rw [e] at hx; cases hx
      | some u =>
        rw [e] at hx
        have hx : some (u + u) = some x := hx
        cases hx; omega
    · rw [if_neg fun z => h (z.elim id id)] at hx
      exact L.even f hf x hx
/-- a number at a name that fits where the others do -/
theorem fill_ex (L : Tight n T) {q : List Int} {k : Nat} (hl : q.length = n) (hk : k < n) (h : ∀ f g, rg (2 * n) f → rg (2 * n) g → f / 2 ≠ (k : Int) → g / 2 ≠ (k : Int) → ∀ v, bd (T f g) v → worthI q f + worthI q g ≤ v) : ∃ x, Lies n T (withV q k x) := by
  have hh : rg (2 * n) (2 * (k : Int)) := ⟨by omega, by omega⟩
  obtain ⟨w', fl', ag, kp', _⟩ := ext_point L (w := worthI q) (flip_worth q) (S := fun f => !decide (f / 2 = (k : Int))) (fun f => by rw [show flipI f / 2 = f / 2 by unfold flipI; omega])
    (fun f g hf hg a b v hv => h f g hf hg (by simpa using a) (by simpa using b) v hv) hh (by simp) [] (fun l hl => (by cases hl)) (fun l hl => (by cases hl))
  refine ⟨w' (2 * (k : Int)), by rw [with_len (by omega), hl], fun f g hf hg v hv => ?_⟩
  have w : ∀ f, rg (2 * n) f → worthI (withV q k (w' (2 * (k : Int)))) f = w' f := fun f hf => by
    rw [with_worth (by omega) hf.1]
    by_cases e : f / 2 = (k : Int)
    · rw [if_pos e]
      have : f = 2 * (k : Int) ∨ f = 2 * (k : Int) + 1 := by omega
      rcases this with rfl | rfl
      · rw [if_neg (by omega)]
      · rw [if_pos (by omega), show 2 * (k : Int) + 1 = flipI (2 * (k : Int)) by unfold flipI; omega, fl']
    · rw [if_neg e, ag f (by simpa using e)]
  have cov : ∀ f : Int, ((!decide (f / 2 = (k : Int))) || decide (f = 2 * (k : Int)) || decide (f = flipI (2 * (k : Int)))) = true := fun f => by
    have : f / 2 ≠ (k : Int) ∨ f = 2 * (k : Int) ∨ f = flipI (2 * (k : Int)) := by unfold flipI; omega
    rcases this with h | h | h <;> simp [h]
  rw [w f hf, w g hg]
  exact kp' f g hf hg (cov f) (cov g) v hv
theorem ask_lies (L : Tight n T) {k : Nat} {lo hi : Option Int} {q : List Int} (hk : k < n) : Lies n (askT T k lo hi) q ↔ q.length = n ∧ (∀ l, lo = some l → l ≤ q.getD k 0) ∧ (∀ h, hi = some h → q.getD k 0 ≤ h) ∧ ∃ x, Lies n T (withV q k x) := by
  have k0 : rg (2 * n) (2 * (k : Int)) := ⟨by omega, by omega⟩
  have k1 : rg (2 * n) (2 * (k : Int) + 1) := ⟨by omega, by omega⟩
  have w0 : worthI q (2 * (k : Int)) = q.getD k 0 := by
    unfold worthI
    rw [if_neg (by omega), show (2 * (k : Int) / 2).toNat = k by omega]
  have w1 : worthI q (2 * (k : Int) + 1) = -(q.getD k 0) := by
    unfold worthI
    rw [if_pos (by omega), show ((2 * (k : Int) + 1) / 2).toNat = k by omega]
  constructor
  · rintro ⟨hl, h⟩
    refine ⟨hl, fun l e => ?_, fun u e => ?_, fill_ex L hl hk fun f g hf hg kf kg v hv => h f g hf hg v ((bd_ask L hf hg).mpr (.inl ⟨kf, kg, hv⟩))⟩
    · have b : bd (vA T k lo hi (2 * (k : Int) + 1)) (-l) := by
        unfold vA
        rw [if_neg (by omega), if_pos rfl, e]
        exact ⟨-l, rfl, Int.le_refl _⟩
      have := h _ _ k1 k1 (-l + -l) ((bd_ask L k1 k1).mpr (.inr (.inl ⟨.inl (by omega), fun z => z.2.2 rfl, _, _, b, b, Int.le_refl _⟩)))
      rw [w1] at this
      omega
    · have b : bd (vA T k lo hi (2 * (k : Int))) u := by
        unfold vA
        rw [if_pos rfl, e]
        exact ⟨u, rfl, Int.le_refl _⟩
      have := h _ _ k0 k0 (u + u) ((bd_ask L k0 k0).mpr (.inr (.inl ⟨.inl (by omega), fun z => z.2.2 rfl, _, _, b, b, Int.le_refl _⟩)))
      rw [w0] at this
      omega
  · rintro ⟨hl, h1, h2, x, hx⟩
    refine ⟨hl, fun f g hf hg v hv => ?_⟩
    have wx : ∀ f, rg (2 * n) f → f / 2 ≠ (k : Int) → worthI (withV q k x) f = worthI q f := fun f hf e => by rw [with_worth (by omega) hf.1, if_neg e]
    have one : ∀ {f a : Int}, rg (2 * n) f → bd (vA T k lo hi f) a → worthI q f ≤ a := by
      intro f a hf p
      by_cases e : f / 2 = (k : Int)
      · have : f = 2 * (k : Int) ∨ f = 2 * (k : Int) + 1 := by omega
        unfold vA at p
        rcases this with rfl | rfl
        · rw [if_pos rfl] at p
          obtain ⟨u, e1, e2⟩ := p
          have := h2 u e1
          rw [w0]; omega
        · rw [if_neg (by omega), if_pos rfl] at p
          cases lo with
          | none => obtain ⟨u, e1, e2⟩ := p; cases e1
          | some l =>
            have := h1 l rfl
            have : -l ≤ a := bd_some.mp p
            rw [w1]; omega
      · rw [vA_out e] at p
        obtain ⟨u, e1, e2⟩ := bd_halfO'.mp p
        have := hx.2 f f hf hf u ⟨u, e1, Int.le_refl _⟩
        rw [wx f hf e] at this
        omega
    rcases (bd_ask L hf hg).mp hv with ⟨a, b, p⟩ | ⟨_, _, a, b, p, r, s⟩ | ⟨_, e, p⟩
    · have := hx.2 f g hf hg v p
      rwa [wx f hf a, wx g hg b] at this
    · have := one hf p
      have := one hg r
      omega
    · rw [e, flip_worth]; omega
end

-- NEEDS: pin ask
/-- the forms that a form is ahead of a deed that puts an amount at a name, and the number beside -/
def aheadV (k : Int) (fs : List Int) (c f : Int) : List Int × Int := if f = 2 * k then (fs, c) else if f = 2 * k + 1 then (fs.map flipI, -c) else ([f], 0)
def addC (o : Option Int) (c : Int) : Option Int := addO o (some c)
/-- the entry of a pair whose first form is of the name -/
def putE (T : Tb) (k : Int) (fs : List Int) (c i j : Int) : Option Int := addC (greatV T ((aheadV k fs c i).1 ++ [j])) (aheadV k fs c i).2
def putO (T : Tb) (k : Int) (fs : List Int) (c i : Int) : Option Int := addC (greatV T (aheadV k fs c i).1) (aheadV k fs c i).2
def putT (T : Tb) (k : Int) (fs : List Int) (c : Int) : Tb := fun i j => if i / 2 = k ∧ j / 2 = k then (if i = j then addO (putO T k fs c i) (putO T k fs c i) else T i j) else if i / 2 = k then putE T k fs c i j else if j / 2 = k then putE T k fs c j i else T i j
def amtV (pt fs : List Int) (c : Int) : Int := sumW pt fs + c
theorem sumW_append (pt : List Int) : ∀ a b : List Int, sumW pt (a ++ b) = sumW pt a + sumW pt b
  | [], b => (Int.zero_add _).symm
  | x :: a, b => by
    show worthI pt x + sumW pt (a ++ b) = worthI pt x + sumW pt a + sumW pt b
    rw [sumW_append pt a b]; omega
theorem sumW_flip (pt : List Int) : ∀ a : List Int, sumW pt (a.map flipI) = -sumW pt a
  | [] => rfl
  | x :: a => by
    show worthI pt (flipI x) + sumW pt (a.map flipI) = -(worthI pt x + sumW pt a)
    rw [sumW_flip pt a, flip_worth]; omega
theorem bd_addC {o : Option Int} {c v : Int} : bd (addC o c) v ↔ bd o (v - c) := bd_addS
section
variable {n : Nat} {T : Tb}
/-- what a form is behind the deed -/
theorem put_worth {pt fs : List Int} {k c f : Int} (h0 : 0 ≤ k) (h1 : k < pt.length) (hf : 0 ≤ f) : worthI (withV pt k.toNat (amtV pt fs c)) f = sumW pt (aheadV k fs c f).1 + (aheadV k fs c f).2 := by
  rw [with_worth (by omega) hf, show ((k.toNat : Nat) : Int) = k by omega]
  unfold aheadV amtV
  by_cases e1 : f = 2 * k
  · rw [if_pos e1, if_pos (by omega), if_neg (by omega)]
  · by_cases e2 : f = 2 * k + 1
    · rw [if_neg e1, if_pos e2, if_pos (by omega), if_pos (by omega), sumW_flip]
      show -(sumW pt fs + c) = -sumW pt fs + -c
      omega
    · rw [if_neg e1, if_neg e2, if_neg (by omega)]
      show _ = worthI pt f + 0 + 0
      omega
theorem ahead_ok {k c f : Int} {fs : List Int} (hfs : ∀ x ∈ fs, rg (2 * n) x) (hf : rg (2 * n) f) : ∀ x ∈ (aheadV k fs c f).1, rg (2 * n) x := by
  unfold aheadV
  split
  · exact hfs
  · split
    · intro x hx
      obtain ⟨y, hy, rfl⟩ := List.mem_map.mp hx
      exact rg_flip (hfs y hy)
    · intro x hx
      rw [List.mem_singleton.mp hx]; exact hf
theorem ahead_len {k c f : Int} {fs : List Int} (hl : fs.length ≤ 2) (h : f / 2 = k) : (aheadV k fs c f).1.length = fs.length := by
  unfold aheadV
  by_cases e1 : f = 2 * k
  · rw [if_pos e1]
  · rw [if_neg e1, if_pos (by omega)]
    exact List.length_map _
theorem ahead_out {k c f : Int} {fs : List Int} (h : f / 2 ≠ k) : aheadV k fs c f = ([f], 0) := by
  unfold aheadV
  rw [if_neg (by omega), if_neg (by omega)]
theorem great_swap (L : Tight n T) {fs : List Int} (hl : fs.length ≤ 2) (f : Int) : greatV T ([f] ++ fs) = greatV T (fs ++ [f]) := by
  match fs, hl with
  | [], _ => rfl
  | [g], _ => exact L.sym f g
  | [g, h], _ => exact (great3_rot L f g h).symm
theorem put_lies (L : Tight n T) {pt fs : List Int} {k c : Int} (h0 : 0 ≤ k) (h1 : k < n) (hl : fs.length ≤ 2) (hfs : ∀ x ∈ fs, rg (2 * n) x) (hp : Lies n T pt) : Lies n (putT T k fs c) (withV pt k.toNat (amtV pt fs c)) := by
  have pl := hp.1
  refine ⟨by rw [with_len (by omega), pl], fun f g hf hg v hv => ?_⟩
  rw [put_worth h0 (by omega) hf.1, put_worth h0 (by omega) hg.1]
  have up : ∀ {ls : List Int} {c v : Int}, ls.length ≤ 3 → (∀ x ∈ ls, rg (2 * n) x) → bd (addC (greatV T ls) c) v → sumW pt ls + c ≤ v := fun hl ho p => by
    have := (reach_ok L hl ho).up pt hp _ (bd_addC.mp p)
    omega
  have own : ∀ {i a : Int}, rg (2 * n) i → i / 2 = k → bd (putO T k fs c i) a → sumW pt (aheadV k fs c i).1 + (aheadV k fs c i).2 ≤ a := fun hi e p => up (by rw [ahead_len hl e]; omega) (ahead_ok hfs hi) p
  have mix : ∀ {i j a : Int}, rg (2 * n) i → rg (2 * n) j → i / 2 = k → j / 2 ≠ k → bd (putE T k fs c i j) a → sumW pt (aheadV k fs c i).1 + (aheadV k fs c i).2 + (sumW pt (aheadV k fs c j).1 + (aheadV k fs c j).2) ≤ a := fun {i j a} hi hj ei ej p => by
    have := up (by rw [List.length_append, ahead_len hl ei]; simp; omega) (fun x hx => by
      rcases List.mem_append.mp hx with hx | hx
      · exact ahead_ok hfs hi x hx
      · rw [List.mem_singleton.mp hx]; exact hj) p
    rw [sumW_append] at this
    have e : sumW pt [j] = worthI pt j := Int.add_zero _
    rw [ahead_out ej]
    show _ + (sumW pt [j] + 0) ≤ a
    omega
  unfold putT at hv
  by_cases e1 : f / 2 = k ∧ g / 2 = k
  · rw [if_pos e1] at hv
    by_cases e2 : f = g
    · subst e2
      rw [if_pos rfl] at hv
      obtain ⟨a, b, p, q, r⟩ := bd_add.mp hv
      have := own hf e1.1 p
      have := own hf e1.1 q
      omega
    · rw [if_neg e2, show g = flipI f by unfold flipI; omega, L.zer f hf] at hv
      have := bd_some.mp hv
      have hg' : g = flipI f := by unfold flipI; omega
      have w1 := put_worth (pt := pt) (fs := fs) (c := c) h0 (by omega) hf.1
      have w2 := put_worth (pt := pt) (fs := fs) (c := c) h0 (by omega) hg.1
      rw [hg', flip_worth] at w2
      rw [hg']
      omega
  · rw [if_neg e1] at hv
    by_cases e2 : f / 2 = k
    · rw [if_pos e2] at hv
      exact mix hf hg e2 (fun z => e1 ⟨e2, z⟩) hv
    · rw [if_neg e2] at hv
      by_cases e3 : g / 2 = k
      · rw [if_pos e3] at hv
        have := mix hg hf e3 e2 hv
        omega
      · rw [if_neg e3] at hv
        have := hp.2 f g hf hg v hv
        rw [ahead_out e2, ahead_out e3]
        show worthI pt f + 0 + 0 + (worthI pt g + 0 + 0) ≤ v
        omega
/-- the forms and the number by which a pair's entry is met -/
def askF (k : Int) (fs : List Int) (c f g num : Int) : List Int × Int :=
  if f / 2 = k ∧ f = g then ((aheadV k fs c f).1, -(-num / 2) - (aheadV k fs c f).2)
  else if f = flipI g then ([f, g], num)
  else ((aheadV k fs c f).1 ++ (aheadV k fs c g).1, num - (aheadV k fs c f).2 - (aheadV k fs c g).2)
theorem askF_ok (L : Tight n T) {k c f g num : Int} {fs : List Int} (hl : fs.length ≤ 2) (hfs : ∀ x ∈ fs, rg (2 * n) x) (hf : rg (2 * n) f) (hg : rg (2 * n) g) : (askF k fs c f g num).1.length ≤ 3 ∧ ∀ x ∈ (askF k fs c f g num).1, rg (2 * n) x := by
  unfold askF
  split
  · rename_i h
    exact ⟨by show (aheadV k fs c f).1.length ≤ 3; rw [ahead_len hl h.1]; omega, ahead_ok hfs hf⟩
  · rename_i h1
    split
    · exact ⟨by show 2 ≤ 3; omega, fun x hx => by
        simp only [List.mem_cons, List.not_mem_nil, or_false] at hx
        rcases hx with rfl | rfl
        · exact hf
        · exact hg⟩
    · rename_i h2
      refine ⟨?_, fun x hx => ?_⟩
      · show ((aheadV k fs c f).1 ++ (aheadV k fs c g).1).length ≤ 3
        rw [List.length_append]
        by_cases e1 : f / 2 = k
        · have e2 : g / 2 ≠ k := fun z => by
            have : f ≠ g := fun y => h1 ⟨e1, y⟩
            exact h2 (by unfold flipI; omega)
          rw [ahead_len hl e1, ahead_out e2]
          show fs.length + 1 ≤ 3
          omega
        · rw [ahead_out e1]
          by_cases e2 : g / 2 = k
          · rw [ahead_len hl e2]
            show 1 + fs.length ≤ 3
            omega
          · rw [ahead_out e2]
            show 1 + 1 ≤ 3
            omega
      · rcases List.mem_append.mp hx with hx | hx
        · exact ahead_ok hfs hf x hx
        · exact ahead_ok hfs hg x hx
/-- a point that meets an entry, or a number where there is none -/
theorem put_met (L : Tight n T) {k c f g num : Int} {fs : List Int} (h0 : 0 ≤ k) (h1 : k < n) (hl : fs.length ≤ 2) (hfs : ∀ x ∈ fs, rg (2 * n) x) (hf : rg (2 * n) f) (hg : rg (2 * n) g) (hn : ∀ v, bd (putT T k fs c f g) v → num ≤ v) :
    ∃ p, reachV n T (askF k fs c f g num).1 (askF k fs c f g num).2 = some p ∧ Lies n T p ∧ num ≤ worthI (withV p k.toNat (amtV p fs c)) f + worthI (withV p k.toNat (amtV p fs c)) g := by
  obtain ⟨a1, a2⟩ := askF_ok (k := k) (c := c) (num := num) L hl hfs hf hg
  have R := reach_ok L a1 a2
  have fin : ∀ p, Lies n T p → (askF k fs c f g num).2 ≤ sumW p (askF k fs c f g num).1 → num ≤ worthI (withV p k.toNat (amtV p fs c)) f + worthI (withV p k.toNat (amtV p fs c)) g := by
    intro p hp hk
    have pl := hp.1
    rw [put_worth h0 (by omega) hf.1, put_worth h0 (by omega) hg.1]
    unfold askF at hk
    split at hk
    · rename_i h
      obtain ⟨_, rfl⟩ := h
      have hk : -(-num / 2) - (aheadV k fs c f).2 ≤ sumW p (aheadV k fs c f).1 := hk
      omega
    · split at hk
      · rename_i h
        have w1 := put_worth (pt := p) (fs := fs) (c := c) h0 (by omega) hf.1
        have w2 := put_worth (pt := p) (fs := fs) (c := c) h0 (by omega) hg.1
        have hk : num ≤ worthI p f + (worthI p g + 0) := hk
        rw [h, flip_worth] at w1 hk
        rw [h]
        omega
      · have hk : num - (aheadV k fs c f).2 - (aheadV k fs c g).2 ≤ sumW p ((aheadV k fs c f).1 ++ (aheadV k fs c g).1) := hk
        rw [sumW_append] at hk
        omega
  have low : ∀ v, bd (greatV T (askF k fs c f g num).1) v → (askF k fs c f g num).2 ≤ v := by
    intro v hv
    unfold putT at hn
    unfold askF at hv ⊢
    by_cases e1 : f / 2 = k ∧ f = g
    · obtain ⟨e, rfl⟩ := e1
      rw [if_pos ⟨e, rfl⟩] at hv ⊢
      rw [if_pos ⟨e, e⟩, if_pos rfl] at hn
      have b : bd (putO T k fs c f) (v + (aheadV k fs c f).2) := bd_addC.mpr (hv.mono (by omega))
      have := hn _ (bd_add.mpr ⟨_, _, b, b, Int.le_refl _⟩)
      show -(-num / 2) - (aheadV k fs c f).2 ≤ v
      omega
    · rw [if_neg e1] at hv ⊢
      by_cases e2 : f = flipI g
      · rw [if_pos e2] at hv ⊢
        have hz : T f g = some 0 := by rw [e2, L.sym]; exact L.zer g hg
        have hv : bd (T f g) v := hv
        rw [hz] at hv
        have v0 := bd_some.mp hv
        show num ≤ v
        have hf2 : f / 2 = g / 2 := by rw [e2]; unfold flipI; omega
        by_cases e3 : f / 2 = k
        · rw [if_pos ⟨e3, by omega⟩, if_neg (by rw [e2]; unfold flipI; omega), hz] at hn
          have := hn 0 ⟨0, rfl, Int.le_refl _⟩
          omega
        · rw [if_neg (fun z => e3 z.1), if_neg e3, if_neg (by omega), hz] at hn
          have := hn 0 ⟨0, rfl, Int.le_refl _⟩
          omega
      · rw [if_neg e2] at hv ⊢
        have ne : ¬ (f / 2 = k ∧ g / 2 = k) := fun z => by
          have : f ≠ g := fun y => e1 ⟨z.1, y⟩
          exact e2 (by unfold flipI; omega)
        rw [if_neg ne] at hn
        show num - (aheadV k fs c f).2 - (aheadV k fs c g).2 ≤ v
        have hv : bd (greatV T ((aheadV k fs c f).1 ++ (aheadV k fs c g).1)) v := hv
        by_cases e3 : f / 2 = k
        · have e4 : g / 2 ≠ k := fun z => ne ⟨e3, z⟩
          rw [if_pos e3] at hn
          rw [ahead_out e4] at hv ⊢
          have := hn (v + (aheadV k fs c f).2) (bd_addC.mpr (hv.mono (by omega)))
          show num - (aheadV k fs c f).2 - 0 ≤ v
          omega
        · rw [if_neg e3] at hn
          by_cases e4 : g / 2 = k
          · rw [if_pos e4] at hn
            rw [ahead_out e3] at hv ⊢
            have hv : bd (greatV T ([f] ++ (aheadV k fs c g).1)) v := hv
            rw [great_swap L (by rw [ahead_len hl e4]; exact hl)] at hv
            have := hn (v + (aheadV k fs c g).2) (bd_addC.mpr (hv.mono (by omega)))
            show num - 0 - (aheadV k fs c g).2 ≤ v
            omega
          · rw [if_neg e4] at hn
            rw [ahead_out e3, ahead_out e4] at hv ⊢
            have := hn v hv
            show num - 0 - 0 ≤ v
            omega
  obtain ⟨p, e, hp, hk⟩ := R.got _ low
  exact ⟨p, e, hp, fin p hp hk⟩
end

-- NEEDS: put
def amD (f g : Option Int) (c : Int) : D := .tup [oD f, oD g, .int c]
def formsV (f g : Option Int) : List Int := [f, g].filterMap id
/-- the second form only where there is a first one, both of the names -/
def amOk (n : Int) (f g : Option Int) : Prop := ∀ x ∈ formsV f g, 0 ≤ x ∧ x < 2 * n
theorem formsV_len (f g : Option Int) : (formsV f g).length ≤ 2 := List.length_filterMap_le _ _
theorem lows_lst2 (l : List (Option Int)) : (l.filter fun o => o.isSome).map oD = (l.filterMap id).map D.int := by
  induction l with
  | nil => rfl
  | cons o l ih =>
    cases o with
    | none => exact ih
    | some x =>
      show oD (some x) :: (l.filter fun o => o.isSome).map oD = D.int x :: (l.filterMap id).map D.int
      rw [ih]; rfl
theorem am_sl (f g : Option Int) (c : Int) : mSlTA (amD f g c) none (some 2) = some (.tup [oD f, oD g]) := id rfl
theorem am_i2 (f g : Option Int) (c : Int) : mIx (amD f g c) (.int 2) = some (.int c) := ix_t2 _ _ _ _
theorem chk_oo (f g : Option Int) : chk 0 (.tup [oD f, oD g]) = some (.tup [oD f, oD g]) := by cases f <;> cases g <;> rfl
theorem chk_am (f g : Option Int) (c : Int) (k : Nat) : chk k (amD f g c) = some (amD f g c) := by cases f <;> cases g <;> rfl

-- NEEDS: close
def belowS (f : Int) (g : Option Int) (c : Int) : Sd := match g with
  | none => (f, f, 2 * c)
  | some g => (f, g, c)
def aboveS (f : Int) (g : Option Int) (c : Int) : Sd := match g with
  | none => (flipI f, flipI f, -2 * c)
  | some g => (flipI f, flipI g, -c)
def casesV (f : Int) (g : Option Int) (w : Wd) (c : Int) : List (List Sd) := match w with
  | .most => [[belowS f g c]]
  | .least => [[aboveS f g c]]
  | .same => [[belowS f g c, aboveS f g c]]
  | _ => [[belowS f g (c - 1)], [aboveS f g (c + 1)]]
def caseD (cs : List (List Sd)) : D := .lst (cs.map fun l => .lst (l.map sdD))
theorem full_sd (s : Sd) (k : Nat) : full (sdD s) k = true := id rfl
theorem chk_sd (s : Sd) (k : Nat) : chk k (sdD s) = some (sdD s) := id rfl
def keepB (pt : List Int) (d : Sd) : Bool := decide (worthI pt d.1 + worthI pt d.2.1 ≤ d.2.2)
theorem below_keep (pt : List Int) (f : Int) (g : Option Int) (c : Int) : keepB pt (belowS f g c) = decide (qSum pt f g ≤ c) := by
  cases g with
  | none =>
    show decide (worthI pt f + worthI pt f ≤ 2 * c) = decide (worthI pt f + 0 ≤ c)
    rw [decide_eq_decide]; omega
  | some g => rfl
theorem above_keep (pt : List Int) (f : Int) (g : Option Int) (c : Int) : keepB pt (aboveS f g c) = decide (c ≤ qSum pt f g) := by
  cases g with
  | none =>
    show decide (worthI pt (flipI f) + worthI pt (flipI f) ≤ -2 * c) = decide (c ≤ worthI pt f + 0)
    rw [decide_eq_decide, flip_worth]; omega
  | some g =>
    show decide (worthI pt (flipI f) + worthI pt (flipI g) ≤ -c) = decide (c ≤ worthI pt f + worthI pt g)
    rw [decide_eq_decide, flip_worth, flip_worth]; omega
def caseB (pt : List Int) (cs : List (List Sd)) : Bool := cs.any fun l => l.all (keepB pt)
theorem cases_keep (pt : List Int) (f : Int) (g : Option Int) (w : Wd) (c : Int) : caseB pt (casesV f g w c) = wdHolds w (qSum pt f g) c := by
  have h1 := below_keep pt f g
  have h2 := above_keep pt f g
  cases w with
  | most => show ((keepB pt _ && true) || false) = _; rw [h1, Bool.and_true, Bool.or_false]; rfl
  | least => show ((keepB pt _ && true) || false) = _; rw [h2, Bool.and_true, Bool.or_false]; rfl
  | same =>
    show ((keepB pt _ && (keepB pt _ && true)) || false) = _
    rw [h1, h2, Bool.and_true, Bool.or_false]
    show _ = decide (qSum pt f g = c)
    rw [Bool.eq_iff_iff, Bool.and_eq_true, decide_eq_true_eq, decide_eq_true_eq, decide_eq_true_eq]
    omega
  | _ =>
    show ((keepB pt _ && true) || ((keepB pt _ && true) || false)) = _
    rw [h1, h2, Bool.and_true, Bool.and_true, Bool.or_false]
    show _ = !decide (qSum pt f g = c)
    rw [Bool.eq_iff_iff, Bool.or_eq_true, decide_eq_true_eq, decide_eq_true_eq, Bool.not_eq_true', decide_eq_false_iff_not]
    omega
theorem sd_mk {N : Nat} {f g c : Int} (h : 0 ≤ f ∧ f < N) (h2 : 0 ≤ g ∧ g < N) : sdOk N ((f, g, c) : Sd) := ⟨h, h2⟩
theorem belowS_ok {n : Int} {N : Nat} (hN : (N : Int) = 2 * n) {f : Int} {g : Option Int} {c : Int} (hf : fOk n f) (hg : gOk n g) : sdOk N (belowS f g c) := by
  obtain ⟨h1, h2⟩ := hf
  cases g with
  | none => exact sd_mk ⟨h1, by omega⟩ ⟨h1, by omega⟩
  | some g => obtain ⟨h3, h4⟩ := hg g rfl; exact sd_mk ⟨h1, by omega⟩ ⟨h3, by omega⟩
theorem aboveS_ok {n : Int} {N : Nat} (hN : (N : Int) = 2 * n) {f : Int} {g : Option Int} {c : Int} (hf : fOk n f) (hg : gOk n g) : sdOk N (aboveS f g c) := by
  obtain ⟨h1, h2⟩ := hf
  have a1 := flipI_nn h1
  have a2 := flipI_lt h2
  cases g with
  | none => exact sd_mk ⟨a1, by omega⟩ ⟨a1, by omega⟩
  | some g =>
    obtain ⟨h3, h4⟩ := hg g rfl
    have b1 := flipI_nn h3
    have b2 := flipI_lt h4
    exact sd_mk ⟨a1, by omega⟩ ⟨b1, by omega⟩
theorem casesV_ok {n : Int} {N : Nat} (hN : (N : Int) = 2 * n) {f : Int} {g : Option Int} {w : Wd} {c : Int} (hf : fOk n f) (hg : gOk n g) : ∀ l ∈ casesV f g w c, ∀ d ∈ l, sdOk N d := by
  have h1 := fun c => belowS_ok (c := c) hN hf hg
  have h2 := fun c => aboveS_ok (c := c) hN hf hg
  cases w <;> simp only [casesV, List.mem_cons, List.not_mem_nil, or_false, forall_eq_or_imp, forall_eq, h1, h2, and_self]
theorem casesV_len (f : Int) (g : Option Int) (w : Wd) (c : Int) : (casesV f g w c).length ≤ 2 ∧ ∀ l ∈ casesV f g w c, l.length ≤ 2 := by
  cases w <;> simp [casesV]
theorem chk_case (cs : List (List Sd)) (k : Nat) : chk (k + 2) (caseD cs) = some (caseD cs) := by
  unfold chk
  rw [if_pos]
  show fullL _ (k + 1) = true
  refine fullL_of fun d hd => ?_
  obtain ⟨l, _, rfl⟩ := List.mem_map.mp hd
  show fullL _ k = true
  refine fullL_of fun d hd => ?_
  obtain ⟨l, _, rfl⟩ := List.mem_map.mp hd
  rfl
theorem casesV_one (f : Int) (g : Option Int) (w : Wd) (c : Int) : ∃ d l cs, casesV f g w c = (d :: l) :: cs ∧ l.length ≤ 2 ∧ cs.length ≤ 2 := by
  cases w
  case most => exact ⟨_, _, _, rfl, by simp, by simp⟩
  case least => exact ⟨_, _, _, rfl, by simp, by simp⟩
  case same => exact ⟨_, _, _, rfl, by simp, by simp⟩
  all_goals exact ⟨_, _, _, rfl, by simp, by simp⟩

-- NEEDS: reachv
def exB : Option Int → Option Int → Bool
  | _, none => false
  | none, some _ => true
  | some x, some u => decide (u < x)
def NoEx (n : Nat) (T U : Tb) : Prop := ∀ f g : Nat, f ≤ g → g < n → exB (T f g) (U f g) = false
section
variable {n : Nat} {T U : Tb}
theorem noEx_bd (h : NoEx (2 * n) T U) (sT : ∀ f g, T f g = T g f) (sU : ∀ f g, U f g = U g f) {f g v : Int} (hf : rg (2 * n) f) (hg : rg (2 * n) g) (p : bd (U f g) v) : bd (T f g) v := by
  have core : ∀ f g : Nat, f ≤ g → g < 2 * n → ∀ v, bd (U f g) v → bd (T f g) v := fun f g h1 h2 v ⟨u, e, hu⟩ => by
    have := h f g h1 h2
    rw [e] at this
    cases eT : T f g with
    | none => rw [eT] at this; cases this
    | some x =>
      rw [eT] at this
      have := of_decide_eq_false this
      exact ⟨x, rfl, by omega⟩
  have a := hf.1
  have b := hf.2
  have c := hg.1
  have d := hg.2
  by_cases h1 : f ≤ g
  · have := core f.toNat g.toNat (by omega) (by omega) v
    rw [show ((f.toNat : Nat) : Int) = f by omega, show ((g.toNat : Nat) : Int) = g by omega] at this
    exact this p
  · have := core g.toNat f.toNat (by omega) (by omega) v
    rw [show ((f.toNat : Nat) : Int) = f by omega, show ((g.toNat : Nat) : Int) = g by omega, sU g f, sT g f] at this
    exact this p
theorem noEx_lies (h : NoEx (2 * n) T U) (sT : ∀ f g, T f g = T g f) (sU : ∀ f g, U f g = U g f) {pt : List Int} (hp : Lies n T pt) : Lies n U pt :=
  ⟨hp.1, fun f g hf hg v hv => hp.2 f g hf hg v (noEx_bd h sT sU hf hg hv)⟩
theorem ex_reach (L : Tight n T) {f g : Int} (hf : rg (2 * n) f) (hg : rg (2 * n) g) {u : Int} (hu : U f g = some u) (h : exB (T f g) (U f g) = true) : ∃ p, reachV n T [f, g] (u + 1) = some p ∧ Lies n T p ∧ ¬ Lies n U p := by
  obtain ⟨q, h1, h2, h3⟩ := (reach_two L hf hg).got (u + 1) fun v ⟨x, e, hx⟩ => by
    have e : T f g = some x := e
    rw [hu, e] at h
    have := of_decide_eq_true h
    omega
  refine ⟨q, h1, h2, fun z => ?_⟩
  have := z.2 f g hf hg u ⟨u, hu, Int.le_refl _⟩
  have h3 : u + 1 ≤ worthI q f + (worthI q g + 0) := h3
  omega
theorem noEx_of (L : Tight n T) (h : ∀ pt, Lies n T pt → Lies n U pt) : NoEx (2 * n) T U := fun f g h1 h2 => by
  cases e : exB (T f g) (U f g) with
  | false => rfl
  | true =>
    have hf : rg (2 * n) (f : Int) := ⟨by omega, by omega⟩
    have hg : rg (2 * n) (g : Int) := ⟨by omega, by omega⟩
    cases eU : U f g with
    | none => rw [eU] at e; cases T f g <;> cases e
    | some u =>
      obtain ⟨p, _, p1, p2⟩ := ex_reach L hf hg eU e
      exact (p2 (h p p1)).elim
theorem noEx_self (T : Tb) (n : Nat) : NoEx n T T := fun f g _ _ => by
  cases T f g with
  | none => rfl
  | some x => exact decide_eq_false (Int.lt_irrefl _)
end

-- NEEDS: amt ask cases apart
/-- a drawn deed -/
inductive Dd where
  | go | keep (f : Int) (g : Option Int) (w : Wd) (c : Int) | put (k : Int) (f g : Option Int) (c : Int) | ask (k : Int) (lo hi : Option Int)
def drD : Dd → D
  | .go => .tup [wD .go]
  | .keep f g w c => .tup [wD .keep, qD f g w c]
  | .put k f g c => .tup [wD .put, .int k, amD f g c]
  | .ask k lo hi => .tup [wD .ask, .int k, oD lo, oD hi]
def obD : Dd → D
  | .go => .ob "Go" [] []
  | .keep f g w c => .ob "Keep" ["question"] [qD f g w c]
  | .put k f g c => .ob "Put" ["k", "amount"] [.int k, amD f g c]
  | .ask k lo hi => .ob "Ask" ["k", "low", "high"] [.int k, oD lo, oD hi]
def fourW (w : Wd) : Prop := w = .most ∨ w = .least ∨ w = .same ∨ w = .unlike
def drOk (n : Nat) : Dd → Prop
  | .go => True
  | .keep f g w _ => fOk n f ∧ gOk n g ∧ fourW w
  | .put k f g _ => 0 ≤ k ∧ k < n ∧ amOk n f g
  | .ask k lo hi => 0 ≤ k ∧ k < n ∧ EndsOk lo hi
/-- what a deed makes of a point with a number asked -/
def stepV (pt : List Int) (x : Int) : Dd → Option (List Int)
  | .go => some pt
  | .keep f g w c => if wdHolds w (qSum pt f g) c then some pt else none
  | .put k f g c => some (withV pt k.toNat (amtV pt (formsV f g) c))
  | .ask k lo hi => some (withV pt k.toNat (clipV lo hi x))
theorem chk_dr (d : Dd) : chk 0 (drD d) = some (drD d) := by
  cases d with
  | go => rfl
  | keep f g w c => cases g <;> rfl
  | put k f g c => cases f <;> cases g <;> rfl
  | ask k lo hi => cases lo <;> cases hi <;> rfl
theorem chk_ob (d : Dd) : chk 0 (obD d) = some (obD d) := by
  cases d with
  | go => rfl
  | keep f g w c => cases g <;> rfl
  | put k f g c => cases f <;> cases g <;> rfl
  | ask k lo hi => cases lo <;> cases hi <;> rfl
theorem full_dr (d : Dd) : full (drD d) 0 = true := by
  cases d with
  | go => rfl
  | keep f g w c => cases g <;> rfl
  | put k f g c => cases f <;> cases g <;> rfl
  | ask k lo hi => cases lo <;> cases hi <;> rfl
theorem chk_q (f : Int) (g : Option Int) (w : Wd) (c : Int) (k : Nat) : chk k (qD f g w c) = some (qD f g w c) := by cases g <;> rfl
theorem cat_am (f g : Option Int) (c : Int) : mCatTA (.tup [oD f, oD g]) (.tup [.int c]) = some (amD f g c) := id rfl
theorem step_len {n : Nat} {pt q : List Int} {x : Int} {d : Dd} (hl : pt.length = n) (ok : drOk n d) (e : stepV pt x d = some q) : q.length = n := by
  cases d with
  | go => cases e; exact hl
  | keep f g w c =>
    change (if wdHolds w (qSum pt f g) c = true then some pt else none) = some q at e
    split at e
    · cases e; exact hl
    · cases e
  | put k f g c =>
    cases e
    rw [with_len (by have := ok.1; have := ok.2.1; omega)]; exact hl
  | ask k lo hi =>
    cases e
    rw [with_len (by have := ok.1; have := ok.2.1; omega)]; exact hl

/-! ### tables that are met by points -/
def Met (n : Nat) (T : Tb) (P : List Int → Prop) : Prop := ∀ f g, rg (2 * n) f → rg (2 * n) g → ∀ num, (∀ v, bd (T f g) v → num ≤ v) → ∃ p, P p ∧ num ≤ worthI p f + worthI p g
theorem not_bd {o : Option Int} {v : Int} (h : ¬ bd o v) : ∀ u, bd o u → v + 1 ≤ u := fun u hu => by
  apply Classical.byContradiction
  intro z
  exact h (hu.mono (by omega))
theorem tight_of {n : Nat} {T : Tb} {P : List Int → Prop} (sym : ∀ f g, T f g = T g f) (lie : ∀ p, P p → Lies n T p) (met : Met n T P) : Tight n T := by
  refine ⟨sym, fun f hf => ?_, fun f g h hf hg hh v w p q => ?_, fun f g hf hg x y p q => ?_, fun f hf x e => ?_⟩
  · have hf' := rg_flip hf
    cases e : T f (flipI f) with
    | none =>
      obtain ⟨p, _, h2⟩ := met f (flipI f) hf hf' 1 (fun v h => by obtain ⟨u, h1, _⟩ := h; rw [e] at h1; cases h1)
      rw [flip_worth] at h2; omega
    | some u =>
      obtain ⟨p, h1, h2⟩ := met f (flipI f) hf hf' u (fun v h => by obtain ⟨u', h1, h3⟩ := h; rw [e] at h1; cases h1; exact h3)
      have h3 := (lie p h1).2 f (flipI f) hf hf' u ⟨u, e, Int.le_refl _⟩
      rw [flip_worth] at h2 h3
      have : u = 0 := by omega
      rw [this]
  · apply Classical.byContradiction
    intro z
    obtain ⟨pt, h1, h2⟩ := met f h hf hh (v + w + 1) (not_bd z)
    have a := (lie pt h1).2 f g hf hg v p
    have b := (lie pt h1).2 (flipI g) h (rg_flip hg) hh w q
    rw [flip_worth] at b
    omega
  · apply Classical.byContradiction
    intro z
    obtain ⟨pt, h1, h2⟩ := met f g hf hg ((x + y) / 2 + 1) (not_bd z)
    have a := (lie pt h1).2 f f hf hf x p
    have b := (lie pt h1).2 g g hg hg y q
    omega
  · obtain ⟨pt, h1, h2⟩ := met f f hf hf x (fun v h => by obtain ⟨u, h3, h4⟩ := h; rw [e] at h3; cases h3; exact h4)
    have a := (lie pt h1).2 f f hf hf x ⟨x, e, Int.le_refl _⟩
    omega
/-- a shape, None or a table, is the least one of some points -/
structure Least (n : Nat) (S : Option Tb) (P : List Int → Prop) : Prop where
  inn : ∀ p, P p → ∃ T, S = some T ∧ Lies n T p
  met : ∀ T, S = some T → Met n T P
  sym : ∀ T, S = some T → ∀ f g, T f g = T g f
theorem Least.tight {n : Nat} {S : Option Tb} {P : List Int → Prop} (h : Least n S P) {T : Tb} (e : S = some T) : Tight n T :=
  tight_of (h.sym T e) (fun p hp => by obtain ⟨U, e2, q⟩ := h.inn p hp; rw [e] at e2; cases e2; exact q) (h.met T e)
/-- the points of a shape -/
def InS (n : Nat) (S : Option Tb) (p : List Int) : Prop := ∃ T, S = some T ∧ Lies n T p
theorem Tight.met {n : Nat} {T : Tb} (L : Tight n T) : Met n T (Lies n T) := fun f g hf hg num h => reach L hf hg h
theorem least_self {n : Nat} {S : Option Tb} (h : ∀ T, S = some T → Tight n T) : Least n S (InS n S) :=
  ⟨fun p hp => hp, fun T e f g hf hg num hn => by
    obtain ⟨p, h1, h2⟩ := (h T e).met f g hf hg num hn
    exact ⟨p, ⟨T, e, h1⟩, h2⟩, fun T e => (h T e).sym⟩
theorem Least.iff {n : Nat} {S : Option Tb} {P Q : List Int → Prop} (h : Least n S P) (e : ∀ p, P p ↔ Q p) : Least n S Q :=
  ⟨fun p hp => h.inn p ((e p).mpr hp), fun T eT f g hf hg num hn => by
    obtain ⟨p, h1, h2⟩ := h.met T eT f g hf hg num hn
    exact ⟨p, (e p).mp h1, h2⟩, h.sym⟩
/-! ### joined -/
def maxO : Option Int → Option Int → Option Int
  | some a, some b => some (max a b)
  | _, _ => none
theorem bd_max {a b : Option Int} {v : Int} : bd (maxO a b) v ↔ bd a v ∧ bd b v := by
  cases a with
  | none => exact ⟨fun ⟨e, h, _⟩ => (by cases h), fun ⟨⟨e, h, _⟩, _⟩ => (by cases h)⟩
  | some x =>
    cases b with
    | none => exact ⟨fun ⟨e, h, _⟩ => (by cases h), fun ⟨_, e, h, _⟩ => (by cases h)⟩
    | some y =>
      constructor
      · rintro ⟨e, h, h2⟩
        cases h
        exact ⟨⟨x, rfl, by omega⟩, y, rfl, by omega⟩
      · rintro ⟨⟨e, h, h2⟩, e', h', h2'⟩
        cases h; cases h'
        exact ⟨_, rfl, by omega⟩
def joinT (T U : Tb) : Tb := fun i j => maxO (T i j) (U i j)
def joinO : Option Tb → Option Tb → Option Tb
  | none, S => S
  | S, none => S
  | some T, some U => some (joinT T U)
theorem joinO_none (S : Option Tb) : joinO S none = S := by cases S <;> rfl
theorem join_least {n : Nat} {S R : Option Tb} {P Q : List Int → Prop} (h : Least n S P) (k : Least n R Q) : Least n (joinO S R) fun p => P p ∨ Q p := by
  cases S with
  | none =>
    refine ⟨fun p hp => ?_, fun T e f g hf hg num hn => ?_, k.sym⟩
    · rcases hp with hp | hp
      · obtain ⟨T, e, _⟩ := h.inn p hp; cases e
      · exact k.inn p hp
    · obtain ⟨p, h1, h2⟩ := k.met T e f g hf hg num hn
      exact ⟨p, .inr h1, h2⟩
  | some T =>
    cases R with
    | none =>
      refine ⟨fun p hp => ?_, fun U e f g hf hg num hn => ?_, h.sym⟩
      · rcases hp with hp | hp
        · exact h.inn p hp
        · obtain ⟨T, e, _⟩ := k.inn p hp; cases e
      · obtain ⟨p, h1, h2⟩ := h.met U e f g hf hg num hn
        exact ⟨p, .inl h1, h2⟩
    | some U =>
      refine ⟨fun p hp => ⟨_, rfl, ?_⟩, fun V e f g hf hg num hn => ?_, fun V e f g => ?_⟩
      · rcases hp with hp | hp
        · obtain ⟨T', e, q⟩ := h.inn p hp
          cases e
          exact ⟨q.1, fun f g hf hg v hv => q.2 f g hf hg v (bd_max.mp hv).1⟩
        · obtain ⟨T', e, q⟩ := k.inn p hp
          cases e
          exact ⟨q.1, fun f g hf hg v hv => q.2 f g hf hg v (bd_max.mp hv).2⟩
      · cases e
        by_cases c1 : ∀ v, bd (T f g) v → num ≤ v
        · obtain ⟨p, h1, h2⟩ := h.met T rfl f g hf hg num c1
          exact ⟨p, .inl h1, h2⟩
        · by_cases c2 : ∀ v, bd (U f g) v → num ≤ v
          · obtain ⟨p, h1, h2⟩ := k.met U rfl f g hf hg num c2
            exact ⟨p, .inr h1, h2⟩
          · exfalso
            obtain ⟨v1, c1⟩ := Classical.not_forall.mp c1
            obtain ⟨v2, c2⟩ := Classical.not_forall.mp c2
            have d1 := Classical.not_imp.mp c1
            have d2 := Classical.not_imp.mp c2
            have := hn (max v1 v2) (bd_max.mpr ⟨d1.1.mono (by omega), d2.1.mono (by omega)⟩)
            omega
      · cases e
        show maxO (T f g) (U f g) = maxO (T g f) (U g f)
        rw [h.sym T rfl f g, k.sym U rfl f g]
/-! ### held by the sides of a case -/
def heldO (n : Nat) (S : Option Tb) (d : Sd) : Option Tb := S.bind fun T => heldF (2 * n) T d.1 d.2.1 d.2.2
def TightO (n : Nat) (S : Option Tb) : Prop := ∀ T, S = some T → Tight n T
theorem heldO_ok {n : Nat} {S : Option Tb} {d : Sd} (h : TightO n S) (ok : sdOk (2 * n) d) : TightO n (heldO n S d) ∧ ∀ p, InS n (heldO n S d) p ↔ InS n S p ∧ keepB p d = true := by
  cases S with
  | none => exact ⟨fun T e => (by cases e), fun p => ⟨fun ⟨T, e, _⟩ => (by cases e), fun ⟨⟨T, e, _⟩, _⟩ => (by cases e)⟩⟩
  | some T =>
    have L := h T rfl
    have hd1 : rg (2 * n) d.1 := ⟨ok.1.1, ok.1.2⟩
    have hd2 : rg (2 * n) d.2.1 := ⟨ok.2.1, ok.2.2⟩
    show TightO n (heldF (2 * n) T d.1 d.2.1 d.2.2) ∧ ∀ p, InS n (heldF (2 * n) T d.1 d.2.1 d.2.2) p ↔ _
    have hs : ∀ p, InS n (some T) p ∧ keepB p d = true → InS n (heldF (2 * n) T d.1 d.2.1 d.2.2) p := by
      rintro p ⟨⟨T', e, lp⟩, kp⟩
      cases e
      obtain ⟨U, e, M, q, _⟩ := held_some L lp hd1 hd2 (of_decide_eq_true kp)
      exact ⟨U, e, q⟩
    cases e : heldF (2 * n) T d.1 d.2.1 d.2.2 with
    | none =>
      rw [e] at hs
      exact ⟨fun U z => (by cases z), fun p => ⟨fun ⟨U, z, _⟩ => (by cases z), hs p⟩⟩
    | some U =>
      rw [e] at hs
      have M := held_tight L hd1 hd2 e
      obtain ⟨b1, b2⟩ := held_bd L hd1 hd2 e
      refine ⟨fun V z => by cases z; exact M, fun p => ⟨fun ⟨V, z, lp⟩ => ?_, hs p⟩⟩
      cases z
      exact ⟨⟨T, rfl, lp.1, fun f g hf hg v hv => lp.2 f g hf hg v (b2 f g v hv)⟩, decide_eq_true (lp.2 d.1 d.2.1 hd1 hd2 _ b1)⟩
def partO (n : Nat) (S : Option Tb) (l : List Sd) : Option Tb := l.foldl (heldO n) S
theorem partO_ok {n : Nat} : ∀ (l : List Sd) {S : Option Tb}, TightO n S → (∀ d ∈ l, sdOk (2 * n) d) → TightO n (partO n S l) ∧ ∀ p, InS n (partO n S l) p ↔ InS n S p ∧ l.all (keepB p) = true
  | [], S, h, _ => ⟨h, fun p => ⟨fun q => ⟨q, rfl⟩, fun q => q.1⟩⟩
  | d :: l, S, h, ok => by
    obtain ⟨h1, e1⟩ := heldO_ok h (ok d List.mem_cons_self)
    obtain ⟨h2, e2⟩ := partO_ok l h1 fun x hx => ok x (List.mem_cons_of_mem _ hx)
    refine ⟨h2, fun p => (e2 p).trans ?_⟩
    rw [e1 p, List.all_cons, Bool.and_eq_true, and_assoc]
def partsO (n : Nat) (S : Option Tb) (cs : List (List Sd)) : List (Option Tb) := cs.map (partO n S)
def joinsO (l : List (Option Tb)) : Option Tb := l.foldl joinO none
theorem joins_least {n : Nat} {S : Option Tb} (h : TightO n S) : ∀ (cs : List (List Sd)) (ok : ∀ l ∈ cs, ∀ d ∈ l, sdOk (2 * n) d) {R : Option Tb} {P : List Int → Prop}, Least n R P → Least n ((partsO n S cs).foldl joinO R) fun p => P p ∨ (InS n S p ∧ caseB p cs = true)
  | [], _, R, P, k => k.iff fun p => ⟨.inl, fun q => q.elim id fun q => (by cases q.2)⟩
  | l :: cs, ok, R, P, k => by
    obtain ⟨h1, e1⟩ := partO_ok l h (ok l List.mem_cons_self)
    have k2 := join_least k ((least_self h1).iff e1)
    refine (joins_least h cs (fun x hx => ok x (List.mem_cons_of_mem _ hx)) k2).iff fun p => ?_
    unfold caseB
    rw [List.any_cons, Bool.or_eq_true]
    constructor
    · rintro ((a | a) | a)
      · exact .inl a
      · exact .inr ⟨a.1, .inl a.2⟩
      · exact .inr ⟨a.1, .inr a.2⟩
    · rintro (a | ⟨a, b | b⟩)
      · exact .inl (.inl a)
      · exact .inl (.inr ⟨a, b⟩)
      · exact .inr ⟨a, b⟩
/-! ### images -/
def imageV (n : Nat) (S : Option Tb) : Dd → Option Tb
  | .go => S
  | .keep f g w c => joinsO (partsO n S (casesV f g w c))
  | .put k f g c => S.map fun T => putT T k (formsV f g) c
  | .ask k lo hi => S.map fun T => askT T k.toNat lo hi
theorem none_least {n : Nat} : Least n none fun _ => False := ⟨fun p hp => hp.elim, fun T e => (by cases e), fun T e => (by cases e)⟩
theorem put_sym {T : Tb} (h : ∀ f g, T f g = T g f) (k : Int) (fs : List Int) (c f g : Int) : putT T k fs c f g = putT T k fs c g f := by
  unfold putT
  by_cases a : f / 2 = k <;> by_cases b : g / 2 = k
  · by_cases e : f = g
    · subst e; rfl
    · simp only [a, b, e, fun z => e (Eq.symm z), and_self, if_true, if_false, h g f]
      rw [if_neg (fun z => e z.symm)]
  · simp only [a, b, and_false, false_and, if_true, if_false]
  · simp only [a, b, and_false, false_and, if_true, if_false]
  · simp only [a, b, and_false, if_false, h g f]
theorem clip_ok {lo hi : Option Int} (he : EndsOk lo hi) (x : Int) : (∀ l, lo = some l → l ≤ clipV lo hi x) ∧ ∀ h, hi = some h → clipV lo hi x ≤ h := by
  unfold clipV
  cases lo with
  | none =>
    cases hi with
    | none => exact ⟨fun l e => (by cases e), fun l e => (by cases e)⟩
    | some h =>
      refine ⟨fun l e => (by cases e), fun l e => ?_⟩
      cases e
      simp only
      split <;> omega
  | some l =>
    cases hi with
    | none =>
      refine ⟨fun l e => ?_, fun l e => (by cases e)⟩
      cases e
      simp only
      split <;> omega
    | some h =>
      have := he l h rfl rfl
      refine ⟨fun l e => ?_, fun l e => ?_⟩
      · cases e
        simp only
        split
        · omega
        · split <;> omega
      · cases e
        simp only
        split
        · omega
        · split <;> omega
theorem clip_in {lo hi : Option Int} {x : Int} (h1 : ∀ l, lo = some l → l ≤ x) (h2 : ∀ h, hi = some h → x ≤ h) : clipV lo hi x = x := by
  unfold clipV
  cases lo with
  | none =>
    cases hi with
    | none => rfl
    | some h => simp only; rw [if_neg (by have := h2 h rfl; omega)]
  | some l =>
    have := h1 l rfl
    cases hi with
    | none => simp only; rw [if_neg (by omega)]
    | some h => simp only; rw [if_neg (by omega), if_neg (by have := h2 h rfl; omega)]
/-- the image of a shape is the least one of what comes of its points -/
theorem image_least {n : Nat} {S : Option Tb} (h : TightO n S) {d : Dd} (ok : drOk n d) : Least n (imageV n S d) fun q => ∃ p x, InS n S p ∧ stepV p x d = some q := by
  cases d with
  | go => exact (least_self h).iff fun p => ⟨fun q => ⟨p, 0, q, rfl⟩, fun ⟨p, x, q, e⟩ => by cases e; exact q⟩
  | keep f g w c =>
    refine (joins_least h (casesV f g w c) (casesV_ok (n := (n : Int)) (by omega) ok.1 ok.2.1) none_least).iff fun q => ?_
    constructor
    · rintro (z | ⟨a, b⟩)
      · exact z.elim
      · rw [cases_keep] at b
        exact ⟨q, 0, a, by show (if _ then _ else _) = _; rw [if_pos b]⟩
    · rintro ⟨p, x, a, e⟩
      change (if wdHolds w (qSum p f g) c = true then some p else none) = some q at e
      split at e
      · rename_i b
        cases e
        exact .inr ⟨a, by rw [cases_keep]; exact b⟩
      · cases e
  | put k f g c =>
    obtain ⟨h0, h1, am⟩ := ok
    have ho : ∀ x ∈ formsV f g, rg (2 * n) x := fun x hx => ⟨(am x hx).1, by have := (am x hx).2; omega⟩
    cases S with
    | none => exact ⟨fun q ⟨p, x, ⟨T, e, _⟩, _⟩ => (by cases e), fun T e => (by cases e), fun T e => (by cases e)⟩
    | some T =>
      have L := h T rfl
      refine ⟨fun q ⟨p, x, ⟨T', e, lp⟩, e2⟩ => ?_, fun T' e i j hi hj num hn => ?_, fun T' e => ?_⟩
      · cases e; cases e2
        exact ⟨_, rfl, put_lies L h0 h1 (formsV_len f g) ho lp⟩
      · cases e
        obtain ⟨p, _, lp, hp⟩ := put_met L h0 h1 (formsV_len f g) ho hi hj hn
        exact ⟨_, ⟨p, 0, ⟨T, rfl, lp⟩, rfl⟩, hp⟩
      · cases e
        exact put_sym L.sym k _ c
  | ask k lo hi =>
    obtain ⟨h0, h1, he⟩ := ok
    cases S with
    | none => exact ⟨fun q ⟨p, x, ⟨T, e, _⟩, _⟩ => (by cases e), fun T e => (by cases e), fun T e => (by cases e)⟩
    | some T =>
      have L := h T rfl
      have hk : k.toNat < n := by omega
      refine ⟨fun q ⟨p, x, ⟨T', e, lp⟩, e2⟩ => ?_, fun T' e i j hi' hj num hn => ?_, fun T' e => ?_⟩
      · cases e; cases e2
        have hl : k.toNat < p.length := by have := lp.1; omega
        have gd : (withV p k.toNat (clipV lo hi x)).getD k.toNat 0 = clipV lo hi x := by rw [with_getD hl, if_pos rfl]
        refine ⟨_, rfl, (ask_lies L hk).mpr ⟨by rw [with_len hl]; exact lp.1, ?_, ?_, p.getD k.toNat 0, ?_⟩⟩
        · rw [gd]; exact (clip_ok he x).1
        · rw [gd]; exact (clip_ok he x).2
        · rw [with_with hl, with_own hl]; exact lp
      · cases e
        obtain ⟨q, lq, hq⟩ := reach (ask_tight L he) hi' hj hn
        obtain ⟨a1, a2, a3, x, a4⟩ := (ask_lies L hk).mp lq
        have hl : k.toNat < q.length := by omega
        refine ⟨q, ⟨withV q k.toNat x, q.getD k.toNat 0, ⟨T, rfl, a4⟩, ?_⟩, hq⟩
        show some (withV (withV q k.toNat x) k.toNat (clipV lo hi (q.getD k.toNat 0))) = some q
        rw [clip_in a2 a3, with_with hl, with_own hl]
      · cases e
        exact (ask_tight L he).sym
theorem image_tight {n : Nat} {S : Option Tb} (h : TightO n S) {d : Dd} (ok : drOk n d) : TightO n (imageV n S d) := fun _ e => (image_least h ok).tight e
theorem image_in {n : Nat} {S : Option Tb} (h : TightO n S) {d : Dd} (ok : drOk n d) {p q : List Int} {x : Int} (hp : InS n S p) (e : stepV p x d = some q) : InS n (imageV n S d) q := by
  obtain ⟨T, e1, lq⟩ := (image_least h ok).inn q ⟨p, x, hp, e⟩
  exact ⟨T, e1, lq⟩
theorem image_none {n : Nat} (d : Dd) : imageV n none d = none := by
  cases d with
  | go => rfl
  | keep f g w c =>
    have : ∀ l : List Sd, partO n none l = none := by
      intro l
      induction l with
      | nil => rfl
      | cons d l ih => exact ih
    have e : ∀ cs : List (List Sd), (partsO n none cs).foldl joinO none = none := by
      intro cs
      induction cs with
      | nil => rfl
      | cons l cs ih =>
        show ((partsO n none cs).foldl joinO (joinO none (partO n none l))) = none
        rw [this]; exact ih
    exact e _
  | put k f g c => rfl
  | ask k lo hi => rfl

-- NEEDS: deeds
theorem joined_line_eq (n : Nat) (L M : Int → Option Int) (hn : n < 1000) : m_joined_line [lineD n L, lineD n M] = some (lineD n fun i => maxO (L i) (M i)) := by
  unfold m_joined_line g_joined_line
  obtain ⟨st', e, o3, o4, rfl⟩ := forL_pre (m := gTp 2 (gsCons (gNm 3) (gsCons (gNm 4) gsNil))) (b := b_joined_line_1) (fun (pre : List Nat) st => ∃ o3 o4 : Option D, st = [.va 0 (lineD n L), .va 0 (lineD n M), .va 1 (.lst (pre.map fun (i : Nat) => oD (maxO (L i) (M i)))), vS o3, vS o4]) (fun (i : Nat) => .tup [oD (L i), oD (M i)]) (List.range n) (fun pre i post hs st ⟨o3, o4, hst⟩ => by
    subst hst
    obtain ⟨e1, e2, e3⟩ := range_split hs
    have ea := fun st : Sl => o_app 2 0 st (pre.map fun (i : Nat) => oD (maxO (L i) (M i))) (oD (maxO (L i) (M i))) (by rw [List.length_map]; omega)
    have ea : ∀ st : Sl, oapp 2 0 st (some (1, .lst (pre.map fun (i : Nat) => oD (maxO (L i) (M i))))) (some (oD (maxO (L i) (M i)))) = some (.nx (setD st 2 (.lst ((pre.map fun (i : Nat) => oD (maxO (L i) (M i))) ++ [oD (maxO (L i) (M i))])))) := ea
    refine ⟨[.va 0 (lineD n L), .va 0 (lineD n M), .va 1 (.lst ((pre ++ [i]).map fun (i : Nat) => oD (maxO (L i) (M i)))), .va 0 (oD (L i)), .va 0 (oD (M i))], .inl ?_, some _, some _, rfl⟩
    rw [show (pre ++ [i]).map (fun (i : Nat) => oD (maxO (L i) (M i))) = pre.map (fun (i : Nat) => oD (maxO (L i) (M i))) ++ [oD (maxO (L i) (M i))] by rw [List.map_append]; rfl]
    unfold b_joined_line_1
    generalize hA : oD (maxO (L i) (M i)) = A at *
    cases hl : L i with
    | none =>
      rw [hl] at hA
      have hA : D.non = A := hA
      subst hA
      simp! [ea]
    | some a =>
      cases hm : M i with
      | none =>
        rw [hl, hm] at hA
        have hA : D.non = A := hA
        subst hA
        simp! [ea]
      | some b =>
        rw [hl, hm] at hA
        have hA : D.int (max a b) = A := hA
        subst hA
        have mx : mMax2 [.int a, .int b] = some (.int (max a b)) := by
          show some (D.int (if b > a then b else a)) = _
          congr 2
          split <;> omega
        simp! [ea, mx]) [.va 0 (lineD n L), .va 0 (lineD n M), .va 1 (.lst []), .un, .un] ⟨none, none, rfl⟩
  have z := zip_line n L M
  simp! [z, e]
  rfl

theorem join_tabs (n : Nat) (T U : Tb) (hn : n < 1000) : m_join [tabD n T, tabD n U] = some (tabD n (joinT T U)) := by
  unfold m_join g_join
  have lc : c_join_1 [.va 0 (tabD n T), .va 0 (tabD n U), .un, .un] = some (tabD n (joinT T U)) := by
    unfold c_join_1
    refine lc_map (fun (i : Nat) => .tup [lineD n (T i), lineD n (U i)]) _ (List.range n) ?_ rfl (by rw [List.length_range]; omega) fun i hi => ?_
    · have z := zip_tab n T U
      simp! [z]
    · refine ⟨_, rfl, rfl, ?_⟩
      have e := joined_line_eq n (T i) (U i) hn
      simp! [e]
      rfl
  have i1 : mIsN (tabD n T) .non = some (.bl false) := rfl
  have i2 : mIsN (tabD n U) .non = some (.bl false) := rfl
  simp! [i1, i2, lc]
theorem join_eq (n : Nat) (S R : Option Tb) (hn : n < 1000) : m_join [shD n S, shD n R] = some (shD n (joinO S R)) := by
  cases S with
  | none =>
    cases R with
    | none =>
      show m_join [.non, .non] = some .non
      unfold m_join g_join
      simp! []
    | some U =>
      show m_join [.non, tabD n U] = some (tabD n U)
      have c := copied_eq n U hn
      have i2 : mIsN (tabD n U) .non = some (.bl false) := rfl
      unfold m_join g_join
      simp! [i2, c]
  | some T =>
    cases R with
    | none =>
      show m_join [tabD n T, .non] = some (tabD n T)
      have c := copied_eq n T hn
      have i2 : mIsN (tabD n T) .non = some (.bl false) := rfl
      unfold m_join g_join
      simp! [i2, c]
    | some U => exact join_tabs n T U hn

-- SIMP: turned_eq
def turnW : Wd → Wd
  | .most => .least
  | .least => .most
  | .same => .unlike
  | _ => .same
def turnC (w : Wd) (c : Int) : Int := match w with
  | .most => c + 1
  | .least => c - 1
  | _ => c
theorem turned_eq (f : Int) (g : Option Int) (w : Wd) (c : Int) : m_turned [qD f g w c] = some (qD f g (turnW w) (turnC w c)) := by
  unfold m_turned g_turned
  walk_at "ev"
  cases w <;> rfl
theorem turn_holds (w : Wd) (s c : Int) (h : w = .most ∨ w = .least ∨ w = .same ∨ w = .unlike) : wdHolds (turnW w) s (turnC w c) = !wdHolds w s c := by
  rcases h with rfl | rfl | rfl | rfl
  · show decide (c + 1 ≤ s) = !decide (s ≤ c)
    by_cases h : s ≤ c
    · rw [decide_eq_true h, decide_eq_false (by omega)]; rfl
    · rw [decide_eq_false h, decide_eq_true (by omega)]; rfl
  · show decide (s ≤ c - 1) = !decide (c ≤ s)
    by_cases h : c ≤ s
    · rw [decide_eq_true h, decide_eq_false (by omega)]; rfl
    · rw [decide_eq_false h, decide_eq_true (by omega)]; rfl
  · rfl
  · show decide (s = c) = !!decide (s = c)
    rw [Bool.not_not]
theorem turn_turn (f : Int) (g : Option Int) (w : Wd) (c : Int) (h : w = .most ∨ w = .least ∨ w = .same ∨ w = .unlike) : qD f g (turnW (turnW w)) (turnC (turnW w) (turnC w c)) = qD f g w c := by
  rcases h with rfl | rfl | rfl | rfl
  · show qD f g .most (c + 1 - 1) = _
    rw [Int.add_sub_cancel]
  · show qD f g .least (c - 1 + 1) = _
    rw [Int.sub_add_cancel]
  · rfl
  · rfl

-- NEEDS: cases
theorem below_eq (f : Int) (g : Option Int) (c : Int) : m_below [.int f, oD g, .int c] = some (sdD (belowS f g c)) := by
  unfold m_below g_below
  cases g with
  | none => walk_at "tb"; rfl
  | some g => walk_at "tb"; rfl

-- NEEDS: cases
theorem above_eq (f : Int) (g : Option Int) (c : Int) (hf : 0 ≤ f) (hg : ∀ x, g = some x → 0 ≤ x) : m_above [.int f, oD g, .int c] = some (sdD (aboveS f g c)) := by
  unfold m_above g_above
  have q := flipped_eq f hf
  cases g with
  | none => simp! [q]; rfl
  | some g =>
    have q2 := flipped_eq g (hg g rfl)
    simp! [q, q2]; rfl

-- NEEDS: cases
theorem cases_eq (f : Int) (g : Option Int) (w : Wd) (c : Int) (hf : 0 ≤ f) (hg : ∀ x, g = some x → 0 ≤ x) : m_cases [qD f g w c] = some (caseD (casesV f g w c)) := by
  unfold m_cases g_cases t_cases_1 t_cases_2 t_cases_3 t_cases_4 t_cases_5 t_cases_6 t_cases_7
  have h1 := below_eq f g
  have h2 := fun c => above_eq f g c hf hg
  have e1 : ∀ c, chk 0 (.int c) = some (.int c) := fun _ => rfl
  cases w <;> simp! [h1, h2, full_sd, chk_sd, decide_true, decide_false] <;> rfl

-- SIMP: cell_eq
def cellV (ns : List Int) (k : Int) : Int :=
  if k < ns.length then ns.getD k.toNat 0 else
    let seed := if 0 < (ns.length : Int) then k * 7919 + ns.getD (k % ns.length).toNat 0 % 65537 else k * 7919
    let some := seed * 48271 % 65537
    some * (some + 2 * k + 1) / 7 % 65521
theorem cell_eq (ns : List Int) (k : Int) (hk : 0 ≤ k) : m_law_cell [.scr ns, .int k] = some (.int (cellV ns k)) := by
  unfold m_law_cell g_law_cell cellV
  by_cases h1 : k < ns.length
  · rw [if_pos h1]
    walk_at "ev"
    rw [if_pos h1]
  · rw [if_neg h1]
    by_cases h2 : 0 < (ns.length : Int)
    · have h3 := Int.emod_nonneg k (show (ns.length : Int) ≠ 0 by omega)
      have h4 := Int.emod_lt_of_pos k h2
      walk_at "ev"
      simp only [if_neg h1, if_pos h2]
    · walk_at "ev"
      simp only [if_neg h1, if_neg h2]

-- SIMP: whole_int
theorem whole_int (i : Int) : m_law_whole [.int i] = some (.bl true) := by
  unfold m_law_whole g_law_whole
  walk_at "ev"

-- SIMP: lworth_eq
theorem lworth_eq (pt : List Int) (f : Int) (h0 : 0 ≤ f) (h : f < 2 * pt.length) : m_law_worth [tupI pt, .int f] = some (.int (worthI pt f)) := by
  unfold m_law_worth g_law_worth worthI
  walk_at "ev"
  congr 2
  rcases Int.emod_two_eq f with e | e
  · rw [e, if_neg (by decide)]; omega
  · rw [e, if_pos rfl]; omega

-- NEEDS: total
-- SIMP: sum_eq
theorem sum_eq (pt fs : List Int) (h : ∀ f ∈ fs, 0 ≤ f ∧ f < 2 * (pt.length : Int)) : m_law_sum [tupI pt, lstI fs] = some (.int (totalI pt fs)) := by
  unfold m_law_sum g_law_sum
  have e := forL_fold (m := gNm 3) (b := b_law_sum_1) (fun s : Int × Option D => [.va 0 (tupI pt), .va 0 (lstI fs), .va 0 (.int s.1), vS s.2]) (fun s f => (s.1 + worthI pt f, some (.int f))) D.int fs (fun f hf s => by
    obtain ⟨h1, h2⟩ := h f hf
    have hw := lworth_eq pt f h1 h2
    unfold b_law_sum_1
    walk_at "tb"
    simp only [hw]
    walk_at "tb"
    rfl) (0, none)
  have e2 : ∀ (fs : List Int) (s : Int) (o : Option D), (fs.foldl (fun (s : Int × Option D) f => (s.1 + worthI pt f, some (D.int f))) (s, o)).1 = fs.foldl (fun s f => s + worthI pt f) s := by
    intro fs
    induction fs with
    | nil => intro s o; rfl
    | cons x l ih => intro s o; exact ih _ _
  walk_at "tb"
  rw [show ([.va 0 (tupI pt), .va 0 (lstI fs), .va 0 (.int 0), .un] : Sl) = [.va 0 (tupI pt), .va 0 (lstI fs), .va 0 (.int 0), vS none] from rfl]
  rw [e]
  walk_at "tb"
  rw [e2]
  rfl

-- NEEDS: reach
def keepsB (pt : List Int) (l : List Sd) : Bool := l.all fun d => decide (worthI pt d.1 + worthI pt d.2.1 ≤ d.2.2)
theorem keepsB_iff {pt : List Int} {l : List Sd} : keepsB pt l = true ↔ keepsL pt l := by
  unfold keepsB keepsL
  rw [List.all_eq_true]
  exact ⟨fun h d hd => of_decide_eq_true (h d hd), fun h d hd => decide_eq_true (h d hd)⟩
theorem keeps_all (pt : List Int) (l : List Sd) (ok : ∀ d ∈ l, sdOk (2 * pt.length) d) : m_law_keeps [tupI pt, .lst (l.map sdD)] = some (.bl (keepsB pt l)) := by
  unfold m_law_keeps g_law_keeps
  have := forL_all (m := gNm 2) (b := b_law_keeps_1) (fun st => ∃ o2 : Option D, st = [.va 0 (tupI pt), .va 0 (.lst (l.map sdD)), vS o2]) sdD (fun d => decide (worthI pt d.1 + worthI pt d.2.1 ≤ d.2.2)) (.bl false) l (fun d hd st hst => by
    obtain ⟨o2, rfl⟩ := hst
    obtain ⟨f, g, c⟩ := d
    obtain ⟨⟨a0, a1⟩, b0, b1⟩ := ok _ hd
    have a0 : 0 ≤ f := a0
    have a1 : f < ((2 * pt.length : Nat) : Int) := a1
    have b0 : 0 ≤ g := b0
    have b1 : g < ((2 * pt.length : Nat) : Int) := b1
    have w1 := lworth_eq pt f a0 (by omega)
    have w2 := lworth_eq pt g b0 (by omega)
    have e : obody b_law_keeps_1 (gNm 2 (sideD f g c) [.va 0 (tupI pt), .va 0 (.lst (l.map sdD)), vS o2]) = if c < worthI pt f + worthI pt g then some (.rt (.bl false) [.va 0 (tupI pt), .va 0 (.lst (l.map sdD)), .va 0 (sideD f g c)]) else some (.nx [.va 0 (tupI pt), .va 0 (.lst (l.map sdD)), .va 0 (sideD f g c)]) := by
      unfold b_law_keeps_1
      walk_at "tb"
      simp only [w1, w2]
      walk_at "tb"
    show if decide (worthI pt f + worthI pt g ≤ c) = true then ∃ st', obody b_law_keeps_1 (gNm 2 (sideD f g c) _) = _ ∧ _ else ∃ st', obody b_law_keeps_1 (gNm 2 (sideD f g c) _) = _
    rw [e]
    by_cases h : worthI pt f + worthI pt g ≤ c
    · rw [if_pos (decide_eq_true h), if_neg (by omega)]
      exact ⟨_, rfl, some _, rfl⟩
    · rw [if_neg (by simpa using h), if_pos (by omega)]
      exact ⟨_, rfl⟩) [.va 0 (tupI pt), .va 0 (.lst (l.map sdD)), .un] ⟨none, rfl⟩
  walk_at "tb"
  unfold keepsB
  split at this
  · rename_i h
    obtain ⟨st', e, o2, rfl⟩ := this
    rw [e, h]
    walk_at "tb"
  · rename_i h
    obtain ⟨st', e⟩ := this
    rw [e]
    walk_at "tb"
    rw [Bool.not_eq_true] at h
    rw [h]

theorem point_like_eq (pt : List Int) (hn : pt.length < 1000) : m_law_point_like [tupI pt, .int pt.length] = some (.bl true) := by
  unfold m_law_point_like g_law_point_like
  obtain ⟨st', e, o2, rfl⟩ := forL_P (m := gNm 2) (b := b_law_point_like_1) (fun st => ∃ o2 : Option D, st = [.va 0 (tupI pt), .va 0 (.int pt.length), vS o2]) D.int pt (fun x hx st hst => by
    obtain ⟨o2, rfl⟩ := hst
    refine ⟨[.va 0 (tupI pt), .va 0 (.int pt.length), .va 0 (.int x)], .inl ?_, some _, rfl⟩
    unfold b_law_point_like_1
    walk_at "tb"
    simp only [whole_int]
    walk_at "tb") [.va 0 (tupI pt), .va 0 (.int pt.length), .un] ⟨none, rfl⟩
  have hl : mLen [tupI pt] = some (.int pt.length) := by unfold tupI; rw [len_tup, List.length_map]
  have ht : oisi "tuple" (some (tupI pt)) = some (.bl true) := rfl
  have hi : itsS (tupI pt) = some (pt.map D.int) := rfl
  walk_at "tb"
  simp only [ht, hl]
  walk_at "tb"
  simp only [hi]
  walk_at "tb"
  rw [e]
  walk_at "tb"

-- NEEDS: close
theorem copy_eq (n : Nat) (s : Option Tb) (hn : n < 1000) : m_law_copy [shD n s] = some (shD n s) := by
  unfold m_law_copy g_law_copy
  cases s with
  | none =>
    show fnRun 2 _ [.non] = _
    walk_at "tb"
    rfl
  | some T =>
    have lc : c_law_copy_1 [.va 0 (tabD n T), .un] = some (tabD n T) := by
      unfold c_law_copy_1
      refine lc_map (fun (i : Nat) => lineD n (T i)) _ (List.range n) rfl rfl (by rw [List.length_range]; omega) fun i hi => ?_
      refine ⟨_, rfl, rfl, ?_⟩
      walk_at "tb"
    show fnRun 2 _ [tabD n T] = _
    walk_at "tb"
    rw [lc]
    walk_at "tb"
    rfl

-- NEEDS: tab
-- SIMP: law_lies_eq
theorem law_lies_in (n : Nat) (T : Tb) (pt : List Int) (hn : n ≤ 2 * pt.length) (f : Nat) (hf : f < n) (o3 o4 : Option D) :
    if ((List.range n).all fun (g : Nat) => entOk (T f g) (worthI pt f + worthI pt g)) = true then ∃ st', forL (gNm 3) b_law_lies_1 ((List.range n).map fun (i : Nat) => D.int i) [.va 0 (tabD n T), .va 0 (tupI pt), .va 0 (.int f), vS o3, vS o4] = some (.nx st') ∧ ∃ o o', st' = [.va 0 (tabD n T), .va 0 (tupI pt), .va 0 (.int f), vS o, vS o']
    else ∃ st', forL (gNm 3) b_law_lies_1 ((List.range n).map fun (i : Nat) => D.int i) [.va 0 (tabD n T), .va 0 (tupI pt), .va 0 (.int f), vS o3, vS o4] = some (.rt (.bl false) st') := by
  refine forL_all (fun st => ∃ o o', st = [.va 0 (tabD n T), .va 0 (tupI pt), .va 0 (.int f), vS o, vS o']) (fun (i : Nat) => D.int i) _ (.bl false) (List.range n) (fun g hg st hst => ?_) _ ⟨o3, o4, rfl⟩
  obtain ⟨o, o', rfl⟩ := hst
  have hg := List.mem_range.mp hg
  unfold b_law_lies_1
  walk_at "tb"
  cases e : T f g with
  | none =>
    rw [if_pos (by rfl)]
    simp only [oD, Option.isSome_none]
    walk_at "tb"
    exact ⟨_, rfl, some _, some _, rfl⟩
  | some x =>
    simp only [oD, Option.isSome_some]
    have h1 := lworth_eq pt f (by omega) (by omega)
    have h2 := lworth_eq pt g (by omega) (by omega)
    simp only [h1, h2]
    walk_at "tb"
    unfold entOk
    by_cases h : worthI pt f + worthI pt g ≤ x
    · rw [if_pos (decide_eq_true h), if_neg (by omega)]
      exact ⟨_, rfl, some _, some _, rfl⟩
    · rw [if_neg (by simpa using h), if_pos (by omega)]
      exact ⟨_, rfl⟩
theorem law_lies_eq (n : Nat) (T : Tb) (pt : List Int) (hn : n ≤ 2 * pt.length) (hs : n < 1000000) : m_law_lies [tabD n T, tupI pt] = some (.bl (liesB n T pt)) := by
  unfold m_law_lies g_law_lies
  walk_at "tb"
  have := forL_all (m := gNm 2) (b := b_law_lies_2) (fun st => ∃ o2 o3 o4, st = [.va 0 (tabD n T), .va 0 (tupI pt), vS o2, vS o3, vS o4]) (fun (i : Nat) => D.int i) (fun (f : Nat) => (List.range n).all fun (g : Nat) => entOk (T f g) (worthI pt f + worthI pt g)) (.bl false) (List.range n) (fun f hf st hst => by
    obtain ⟨o2, o3, o4, rfl⟩ := hst
    have hf := List.mem_range.mp hf
    unfold b_law_lies_2
    walk_at "tb"
    have := law_lies_in n T pt hn f hf o3 o4
    split at this
    · rename_i h
      rw [if_pos h]
      obtain ⟨st', e, o, o', rfl⟩ := this
      exact ⟨_, e, some _, o, o', rfl⟩
    · rename_i h
      rw [if_neg h]
      exact this) [.va 0 (tabD n T), .va 0 (tupI pt), .un, .un, .un] ⟨none, none, none, rfl⟩
  unfold liesB
  split at this
  · rename_i h
    obtain ⟨st', e, o2, o3, o4, rfl⟩ := this
    rw [e, h]
    walk_at "tb"
  · rename_i h
    obtain ⟨st', e⟩ := this
    rw [e]
    walk_at "tb"
    rw [Bool.not_eq_true] at h
    rw [h]

-- NEEDS: fill
theorem lholds_eq (pt : List Int) (f : Int) (g : Option Int) (w : Wd) (c : Int) (hf : fOk pt.length f) (hg : gOk pt.length g) (hw : w = .most ∨ w = .least ∨ w = .same ∨ w = .unlike) : m_law_holds [tupI pt, qD f g w c] = some (.bl (wdHolds w (qSum pt f g) c)) := by
  obtain ⟨f0, f1⟩ := hf
  unfold m_law_holds g_law_holds
  have w1 := lworth_eq pt f f0 f1
  cases g with
  | none =>
    have e : qSum pt f none = worthI pt f := by unfold qSum; simp
    rw [e]
    generalize worthI pt f = s at *
    rcases hw with rfl | rfl | rfl | rfl <;> simp! [w1, wdHolds] <;> (cases decide (s = c) <;> rfl)
  | some g =>
    obtain ⟨g0, g1⟩ := hg g rfl
    have w2 := lworth_eq pt g g0 g1
    have e : qSum pt f (some g) = worthI pt f + worthI pt g := rfl
    rw [e]
    generalize worthI pt f = s at *
    generalize worthI pt g = t at *
    rcases hw with rfl | rfl | rfl | rfl <;> simp! [w1, w2, wdHolds] <;> (cases decide (s + t = c) <;> rfl)

theorem number_ex (c : Int) : ∃ x : Int, m_law_number [.int c] = some (.int x) := by
  unfold m_law_number g_law_number
  have p30 : mPow (.int 10) (.int 30) = some (.int (10 ^ 30)) := pow_n 10 30 (by decide) (by decide) (by decide)
  have hm : mMod (.int (c / 6)) (.int (10 ^ 30)) = some (.int (c / 6 % 10 ^ 30)) := mod_ii _ _ (by decide)
  by_cases h : c % 3 = 1
  · have hu : ∃ x : Int, mMul (.int (c / 6 % 10 ^ 30)) (.int (1 - c / 3 % 2 * 2)) = some (.int x) := ⟨_, mul_r _ _ (by omega) (by omega)⟩
    obtain ⟨x, hx⟩ := hu
    refine ⟨x, ?_⟩
    simp! [decide_eq_true h, p30, hm, hx]
  · refine ⟨c / 3 % 21 - 10, ?_⟩
    simp! [decide_eq_false h]

-- NEEDS: deeds
/-- a shape within another -/
def leS (n : Nat) (S R : Option Tb) : Prop := ∀ T, S = some T → ∃ U, R = some U ∧ ∀ f g, rg (2 * n) f → rg (2 * n) g → ∀ v, bd (U f g) v → bd (T f g) v
theorem Least.ex {n : Nat} {S : Option Tb} {P : List Int → Prop} (h : Least n S P) (h1 : 1 ≤ n) {T : Tb} (e : S = some T) : ∃ p, P p := by
  have L := h.tight e
  have hf : rg (2 * n) 0 := ⟨by omega, by omega⟩
  obtain ⟨p, hp, _⟩ := h.met T e 0 (flipI 0) hf (rg_flip hf) 0 fun v ⟨u, e2, h2⟩ => by
    rw [L.zer 0 hf] at e2; cases e2; exact h2
  exact ⟨p, hp⟩
theorem least_le {n : Nat} {S R : Option Tb} {P Q : List Int → Prop} (h1 : 1 ≤ n) (hS : Least n S P) (hR : Least n R Q) (h : ∀ p, P p → Q p) : leS n S R := by
  intro T e
  obtain ⟨p, hp⟩ := hS.ex h1 e
  obtain ⟨U, eU, _⟩ := hR.inn p (h p hp)
  refine ⟨U, eU, fun f g hf hg v hv => ?_⟩
  apply Classical.byContradiction
  intro z
  obtain ⟨q, hq, h2⟩ := hS.met T e f g hf hg (v + 1) (not_bd z)
  obtain ⟨U', eU', lq⟩ := hR.inn q (h q hq)
  rw [eU] at eU'; cases eU'
  have := lq.2 f g hf hg v hv
  omega
theorem leS_in {n : Nat} {S R : Option Tb} (h : leS n S R) {p : List Int} (hp : InS n S p) : InS n R p := by
  obtain ⟨T, e, lp⟩ := hp
  obtain ⟨U, e2, h2⟩ := h T e
  exact ⟨U, e2, lp.1, fun f g hf hg v hv => lp.2 f g hf hg v (h2 f g hf hg v hv)⟩
theorem image_le {n : Nat} {S R : Option Tb} (h1 : 1 ≤ n) (hS : TightO n S) (hR : TightO n R) (h : leS n S R) {d : Dd} (ok : drOk n d) : leS n (imageV n S d) (imageV n R d) :=
  least_le h1 (image_least hS ok) (image_least hR ok) fun _ ⟨p, x, hp, e⟩ => ⟨p, x, leS_in h hp, e⟩
/-- the points of a closed table -/
theorem closed_in {n : Nat} {l : List Sd} (hl : ∀ d ∈ l, sdOk (2 * n) d) (p : List Int) : InS n (closedF (2 * n) l) p ↔ p.length = n ∧ keepsL p l := by
  constructor
  · rintro ⟨T, e, lp⟩
    exact (closed_points hl e p).mp lp
  · rintro ⟨h1, h2⟩
    obtain ⟨T, e, _⟩ := closed_lie n p l fun d hd => ⟨hl d hd, h2 d hd⟩
    exact ⟨T, e, (closed_points hl e p).mpr ⟨h1, h2⟩⟩
theorem closed_tightO {n : Nat} {l : List Sd} (hl : ∀ d ∈ l, sdOk (2 * n) d) : TightO n (closedF (2 * n) l) := fun _ e => closed_tight hl e
theorem closed_le {n : Nat} {l m : List Sd} (h1 : 1 ≤ n) (hl : ∀ d ∈ l, sdOk (2 * n) d) (hm : ∀ d ∈ m, sdOk (2 * n) d) (h : ∀ p, keepsL p l → keepsL p m) : leS n (closedF (2 * n) l) (closedF (2 * n) m) :=
  least_le h1 (least_self (closed_tightO hl)) (least_self (closed_tightO hm)) fun p hp => by
    rw [closed_in hl] at hp
    rw [closed_in hm]
    exact ⟨hp.1, h p hp.2⟩

-- NEEDS: grow
theorem tabD_ext {N : Nat} {T U : Tb} (h : ∀ i j : Nat, i < N → j < N → T i j = U i j) : tabD N T = tabD N U := by
  show D.lst _ = D.lst _
  congr 1
  refine List.map_congr_left fun i hi => ?_
  show lineD N (T i) = lineD N (U i)
  show D.lst _ = D.lst _
  congr 1
  refine List.map_congr_left fun j hj => ?_
  show oD _ = oD _
  rw [h i j (List.mem_range.mp hi) (List.mem_range.mp hj)]
theorem least_same {n : Nat} {S R : Option Tb} {P : List Int → Prop} (h1 : 1 ≤ n) (hS : Least n S P) (hR : Least n R P) : shD (2 * n) S = shD (2 * n) R := by
  have a := least_le h1 hS hR fun _ h => h
  have b := least_le h1 hR hS fun _ h => h
  cases S with
  | none =>
    cases R with
    | none => rfl
    | some U => obtain ⟨T, e, _⟩ := b U rfl; cases e
  | some T =>
    obtain ⟨U, e, h2⟩ := a T rfl
    subst e
    obtain ⟨T', e', h3⟩ := b U rfl
    cases e'
    refine tabD_ext fun i j hi hj => ?_
    have ri : rg (2 * n) (i : Int) := ⟨by omega, by omega⟩
    have rj : rg (2 * n) (j : Int) := ⟨by omega, by omega⟩
    exact bd_ext fun v => ⟨h3 i j ri rj v, h2 i j ri rj v⟩
/-- the points of the image of a question with one case -/
theorem one_case {n : Nat} {S : Option Tb} (h : TightO n S) {f : Int} {g : Option Int} {w : Wd} {c : Int} (ok : drOk n (.keep f g w c)) (hw : w = .most ∨ w = .least ∨ w = .same) (p : List Int) :
    InS n (imageV n S (.keep f g w c)) p ↔ InS n S p ∧ wdHolds w (qSum p f g) c = true := by
  obtain ⟨l, e⟩ : ∃ l, casesV f g w c = [l] := by
    rcases hw with rfl | rfl | rfl <;> exact ⟨_, rfl⟩
  have okl := casesV_ok (n := (n : Int)) (N := 2 * n) (w := w) (c := c) (by omega) ok.1 ok.2.1
  rw [← cases_keep]
  show InS n (joinsO (partsO n S (casesV f g w c))) p ↔ _
  rw [e] at okl ⊢
  obtain ⟨_, h2⟩ := partO_ok l h (okl l List.mem_cons_self)
  show InS n (partO n S l) p ↔ _
  rw [h2]
  unfold caseB
  rw [List.any_cons, List.any_nil, Bool.or_false]
theorem image_sub {n : Nat} {S : Option Tb} (h1 : 1 ≤ n) (h : TightO n S) {f : Int} {g : Option Int} {w : Wd} {c : Int} (ok : drOk n (.keep f g w c)) : leS n (imageV n S (.keep f g w c)) S :=
  least_le h1 (image_least h ok) (least_self h) fun q ⟨p, x, hp, e⟩ => by
    change (if wdHolds w (qSum p f g) c = true then some p else none) = some q at e
    split at e
    · cases e; exact hp
    · cases e
theorem keep_step {p : List Int} {x f : Int} {g : Option Int} {w : Wd} {c : Int} : stepV p x (.keep f g w c) = if wdHolds w (qSum p f g) c = true then some p else none := rfl
/-- both sides of a question joined -/
theorem parts_join {n : Nat} {S : Option Tb} (h1 : 1 ≤ n) (h : TightO n S) {f : Int} {g : Option Int} {w w' : Wd} {c c' : Int} (ok : drOk n (.keep f g w c)) (ok' : drOk n (.keep f g w' c')) (ht : ∀ s, wdHolds w' s c' = !wdHolds w s c) :
    shD (2 * n) (joinO (imageV n S (.keep f g w c)) (imageV n S (.keep f g w' c'))) = shD (2 * n) S := by
  refine least_same (P := InS n S) h1 ((join_least (image_least h ok) (image_least h ok')).iff fun q => ?_) (least_self h)
  constructor
  · rintro (⟨p, x, hp, e⟩ | ⟨p, x, hp, e⟩)
    · rw [keep_step] at e
      split at e
      · cases e; exact hp
      · cases e
    · rw [keep_step] at e
      split at e
      · cases e; exact hp
      · cases e
  · intro hp
    cases hb : wdHolds w (qSum q f g) c with
    | true => exact .inl ⟨q, 0, hp, by rw [keep_step, if_pos hb]⟩
    | false => exact .inr ⟨q, 0, hp, by rw [keep_step, if_pos (by rw [ht, hb]; rfl)]⟩

-- NEEDS: parts
theorem box_ex (ns : List Int) (n : Nat) (h1 : 1 ≤ n) (hn : n ≤ 6) : ∃ l : List Sd, m_law_box [.scr ns, .int n] = some (.lst (l.map sdD)) ∧ (∀ d ∈ l, sdOk (2 * n) d) ∧ l.length ≤ 12 := by
  unfold m_law_box g_law_box
  obtain ⟨st', e, l, o3, o4, o5, rfl, hok, hl⟩ := forL_pre (m := gNm 3) (b := b_law_box_1) (fun pre st => ∃ (l : List Sd) (o3 o4 o5 : Option D), st = [.va 0 (.scr ns), .va 0 (.int n), .va 1 (.lst (l.map sdD)), vS o3, vS o4, vS o5] ∧ (∀ d ∈ l, sdOk (2 * n) d) ∧ l.length ≤ 2 * pre.length) (fun (i : Nat) => D.int (i : Int)) (List.range n) (fun pre i post hs st ⟨l, o3, o4, o5, hst, hok, hl⟩ => by
    subst hst
    obtain ⟨e1, e2, e3⟩ := range_split hs
    have c4 := cell_eq ns (4 + (i : Int)) (by omega)
    have c1 := cell_eq ns (1 + (i : Int)) (by omega)
    obtain ⟨x, hx⟩ := number_ex (cellV ns (1 + (i : Int)))
    generalize cellV ns (4 + (i : Int)) = z at *
    have ea := fun (st : Sl) (l : List Sd) (d : Sd) (h : l.length ≤ 20) => o_app 2 0 st (l.map sdD) (sdD d) (by rw [List.length_map]; omega)
    have s1 : sdOk (2 * n) ((2 * (i : Int) + 1, 2 * (i : Int) + 1, -2 * x) : Sd) := sd_mk ⟨by omega, by omega⟩ ⟨by omega, by omega⟩
    have s2 : sdOk (2 * n) ((2 * (i : Int), 2 * (i : Int), 2 * x + 2 * (z / 8 % 7)) : Sd) := sd_mk ⟨by omega, by omega⟩ ⟨by omega, by omega⟩
    have hl6 : l.length ≤ 12 := by omega
    rw [List.length_append, List.length_singleton]
    have a1 := ea
    by_cases h0 : 0 < z % 8
    · by_cases h1 : 1 < z % 8
      · refine ⟨[.va 0 (.scr ns), .va 0 (.int n), .va 1 (.lst ((l ++ [((2 * (i : Int) + 1, 2 * (i : Int) + 1, -2 * x) : Sd)] ++ [((2 * (i : Int), 2 * (i : Int), 2 * x + 2 * (z / 8 % 7)) : Sd)]).map sdD)), .va 0 (.int i), .va 0 (.int z), .va 0 (.int x)], .inl ?_, _, some _, some _, some _, rfl, fun d hd => ?_, by rw [List.length_append, List.length_append, List.length_singleton, List.length_singleton]; omega⟩
        · have b1 := fun st => ea st l ((2 * (i : Int) + 1, 2 * (i : Int) + 1, -2 * x) : Sd) (by omega)
          have b2 := fun st => ea st (l ++ [((2 * (i : Int) + 1, 2 * (i : Int) + 1, -2 * x) : Sd)]) ((2 * (i : Int), 2 * (i : Int), 2 * x + 2 * (z / 8 % 7)) : Sd) (by rw [List.length_append, List.length_singleton]; omega)
          have b1 : ∀ st : Sl, oapp 2 0 st (some (1, .lst (l.map sdD))) (some (.tup [.int (2 * (i : Int) + 1), .int (2 * (i : Int) + 1), .int (-2 * x)])) = some (.nx (setD st 2 (.lst (l.map sdD ++ [.tup [.int (2 * (i : Int) + 1), .int (2 * (i : Int) + 1), .int (-2 * x)]])))) := b1
          rw [List.map_append] at b2
          have b2 : ∀ st : Sl, oapp 2 0 st (some (1, .lst (l.map sdD ++ [.tup [.int (2 * (i : Int) + 1), .int (2 * (i : Int) + 1), .int (-2 * x)]]))) (some (.tup [.int (2 * (i : Int)), .int (2 * (i : Int)), .int (2 * x + 2 * (z / 8 % 7))])) = some (.nx (setD st 2 (.lst ((l.map sdD ++ [.tup [.int (2 * (i : Int) + 1), .int (2 * (i : Int) + 1), .int (-2 * x)]]) ++ [.tup [.int (2 * (i : Int)), .int (2 * (i : Int)), .int (2 * x + 2 * (z / 8 % 7))]])))) := b2
          rw [List.map_append, List.map_append]
          unfold b_law_box_1
          simp! [c4, c1, hx, decide_eq_true h0, decide_eq_true h1, b1, b2]
          rfl
        · rcases List.mem_append.mp hd with hd | hd
          · rcases List.mem_append.mp hd with hd | hd
            · exact hok d hd
            · rw [List.mem_singleton.mp hd]; exact s1
          · rw [List.mem_singleton.mp hd]; exact s2
      · refine ⟨[.va 0 (.scr ns), .va 0 (.int n), .va 1 (.lst ((l ++ [((2 * (i : Int) + 1, 2 * (i : Int) + 1, -2 * x) : Sd)]).map sdD)), .va 0 (.int i), .va 0 (.int z), .va 0 (.int x)], .inl ?_, _, some _, some _, some _, rfl, fun d hd => ?_, by rw [List.length_append, List.length_singleton]; omega⟩
        · have b1 := fun st => ea st l ((2 * (i : Int) + 1, 2 * (i : Int) + 1, -2 * x) : Sd) (by omega)
          have b1 : ∀ st : Sl, oapp 2 0 st (some (1, .lst (l.map sdD))) (some (.tup [.int (2 * (i : Int) + 1), .int (2 * (i : Int) + 1), .int (-2 * x)])) = some (.nx (setD st 2 (.lst (l.map sdD ++ [.tup [.int (2 * (i : Int) + 1), .int (2 * (i : Int) + 1), .int (-2 * x)]])))) := b1
          rw [List.map_append]
          unfold b_law_box_1
          simp! [c4, c1, hx, decide_eq_true h0, decide_eq_false h1, b1]
          rfl
        · rcases List.mem_append.mp hd with hd | hd
          · exact hok d hd
          · rw [List.mem_singleton.mp hd]; exact s1
    · have h1 : ¬ 1 < z % 8 := by omega
      refine ⟨[.va 0 (.scr ns), .va 0 (.int n), .va 1 (.lst (l.map sdD)), .va 0 (.int i), .va 0 (.int z), .va 0 (.int x)], .inl ?_, l, some _, some _, some _, rfl, hok, by omega⟩
      unfold b_law_box_1
      simp! [c4, c1, hx, decide_eq_false h0, decide_eq_false h1]) [.va 0 (.scr ns), .va 0 (.int n), .va 1 (.lst []), .un, .un, .un] ⟨[], none, none, none, rfl, fun d h => (by cases h), Nat.le_refl _⟩
  rw [List.length_range] at hl
  refine ⟨l, ?_, hok, by omega⟩
  have hr : mRng1 (.int n) = some ((List.range n).map fun (i : Nat) => D.int (i : Int)) := by
    rw [rng1_eq n (by omega) (by omega), Int.toNat_natCast]
  simp! [hr, e]

theorem more_ex (ns pt : List Int) (h1 : 1 ≤ pt.length) (h6 : pt.length ≤ 6) (hn : ns.length ≤ 63) : ∃ l : List Sd, m_law_more [.scr ns, tupI pt] = some (.lst (l.map sdD)) ∧ (∀ d ∈ l, sdOk (2 * pt.length) d) ∧ l.length ≤ 63 := by
  unfold m_law_more g_law_more
  have hl : mLen [tupI pt] = some (.int pt.length) := by unfold tupI; rw [len_tup, List.length_map]
  have hcut := cut_le ns (some 9) (some 17)
  have loop : ∀ cs : List Int, cs.length ≤ 63 → ∃ l : List Sd, orun (t_law_more_3 [.va 0 (.scr ns), .va 0 (tupI pt), .va 0 (.int pt.length), .va 0 (lstI cs), .un, .un, .un, .un, .un]) = some (.lst (l.map sdD)) ∧ (∀ d ∈ l, sdOk (2 * pt.length) d) ∧ l.length ≤ 63 := by
    intro cs hcs
    obtain ⟨st', e, l, o5, o6, o7, rfl, hok, hle⟩ := forL_pre (m := gNm 5) (b := b_law_more_1) (fun (pre : List Int) st => ∃ (l : List Sd) (o5 o6 o7 : Option D), st = [.va 0 (.scr ns), .va 0 (tupI pt), .va 0 (.int pt.length), .va 0 (lstI cs), .va 1 (.lst (l.map sdD)), vS o5, vS o6, vS o7, .un] ∧ (∀ d ∈ l, sdOk (2 * pt.length) d) ∧ l.length ≤ pre.length) D.int cs (fun pre c post hs st ⟨l, o5, o6, o7, hst, hok, hle⟩ => by
      subst hst
      have hlen : pre.length < 63 := by
        have := congrArg List.length hs
        rw [List.length_append, List.length_cons] at this
        omega
      have f0 := Int.emod_nonneg c (show 2 * (pt.length : Int) ≠ 0 by omega)
      have f1 := Int.emod_lt_of_pos c (show 0 < 2 * (pt.length : Int) by omega)
      have g0 := Int.emod_nonneg (c / 7) (show 2 * (pt.length : Int) ≠ 0 by omega)
      have g1 := Int.emod_lt_of_pos (c / 7) (show 0 < 2 * (pt.length : Int) by omega)
      generalize hf : c % (2 * (pt.length : Int)) = f at *
      generalize hg : c / 7 % (2 * (pt.length : Int)) = g at *
      have sm := sum_eq pt [f, g] (fun x hx => by
        simp only [List.mem_cons, List.not_mem_nil, or_false] at hx
        rcases hx with rfl | rfl
        · exact ⟨f0, f1⟩
        · exact ⟨g0, g1⟩)
      have sm : m_law_sum [tupI pt, .lst [.int f, .int g]] = _ := sm
      generalize totalI pt [f, g] = s at *
      have ea := fun st : Sl => o_app 4 0 st (l.map sdD) (sdD (f, g, s + c / 43 % 9)) (by rw [List.length_map]; omega)
      have ea : ∀ st : Sl, oapp 4 0 st (some (1, .lst (l.map sdD))) (some (.tup [.int f, .int g, .int (s + c / 43 % 9)])) = some (.nx (setD st 4 (.lst (l.map sdD ++ [.tup [.int f, .int g, .int (s + c / 43 % 9)]])))) := ea
      refine ⟨[.va 0 (.scr ns), .va 0 (tupI pt), .va 0 (.int pt.length), .va 0 (lstI cs), .va 1 (.lst ((l ++ [((f, g, s + c / 43 % 9) : Sd)]).map sdD)), .va 0 (.int c), .va 0 (.int f), .va 0 (.int g), .un], .inl ?_, l ++ [((f, g, s + c / 43 % 9) : Sd)], some _, some _, some _, rfl, fun d hd => ?_, by rw [List.length_append, List.length_append]; exact Nat.add_le_add_right hle _⟩
      · rw [List.map_append]
        unfold b_law_more_1
        simp! [hf, hg, sm, ea]
        rfl
      · rcases List.mem_append.mp hd with hd | hd
        · exact hok d hd
        · rw [List.mem_singleton.mp hd]
          exact ⟨⟨f0, by show f < ((2 * pt.length : Nat) : Int); omega⟩, g0, by show g < ((2 * pt.length : Nat) : Int); omega⟩) [.va 0 (.scr ns), .va 0 (tupI pt), .va 0 (.int pt.length), .va 0 (lstI cs), .va 1 (.lst []), .un, .un, .un, .un] ⟨[], none, none, none, rfl, fun d h => (by cases h), Nat.le_refl _⟩
    refine ⟨l, ?_, hok, by omega⟩
    have it : itsS (lstI cs) = some (cs.map D.int) := rfl
    unfold t_law_more_3 t_law_more_4 t_law_more_5
    simp! [it, e]
  simp! [hl]
  unfold t_law_more_1
  simp! []
  generalize cutG ns (some 9) (some 17) = cs at *
  unfold t_law_more_2
  have hlc : mLen [lstI cs] = some (.int cs.length) := by unfold lstI; rw [len_lst, List.length_map]
  by_cases h3 : (cs.length : Int) < 3
  · have lc : c_law_more_1 [.va 0 (.scr ns), .va 0 (tupI pt), .va 0 (.int pt.length), .va 0 (lstI cs), .un, .un, .un, .un, .un] = some (lstI ((List.range 3).map fun (i : Nat) => cellV ns (9 + i))) := by
      unfold c_law_more_1 lstI
      rw [List.map_map]
      refine lc_map (fun (j : Nat) => D.int j) (fun (j : Nat) => D.int (cellV ns (9 + j))) (List.range 3) ?_ rfl (by decide) fun j hj => ⟨_, rfl, rfl, ?_⟩
      · simp! [rng1_eq 3 (by omega) (by omega)]
        rfl
      · have c := cell_eq ns (9 + (j : Int)) (by omega)
        simp! [c]
    simp! [hlc, decide_eq_true h3, lc]
    exact loop _ (by rw [List.length_map, List.length_range]; omega)
  · simp! [hlc, decide_eq_false h3]
    exact loop _ (by omega)

theorem points_ex (ns pt : List Int) (h6 : pt.length ≤ 6) : ∃ ps : List (List Int), m_law_points [.scr ns, tupI pt] = some (.lst (ps.map tupI)) ∧ ∀ p ∈ ps, p.length = pt.length := by
  unfold m_law_points g_law_points
  have hl : mLen [tupI pt] = some (.int pt.length) := by unfold tupI; rw [len_tup, List.length_map]
  obtain ⟨st', e, ps, o3, o4, rfl, hok, hle⟩ := forL_pre (m := gNm 3) (b := b_law_points_1) (fun (pre : List Nat) st => ∃ (ps : List (List Int)) (o3 o4 : Option D), st = [.va 0 (.scr ns), .va 0 (tupI pt), .va 1 (.lst (ps.map tupI)), vS o3, vS o4, .un] ∧ (∀ p ∈ ps, p.length = pt.length) ∧ ps.length ≤ 1 + pre.length) (fun (i : Nat) => D.int (i : Int)) (List.range 7) (fun pre i post hs st ⟨ps, o3, o4, hst, hok, hle⟩ => by
    subst hst
    have hlen : pre.length < 7 := by
      have := congrArg List.length hs
      rw [List.length_range, List.length_append, List.length_cons] at this
      omega
    have c17 := cell_eq ns (17 + (i : Int)) (by omega)
    generalize cellV ns (17 + (i : Int)) = z at *
    have lc : c_law_points_1 [.va 0 (.scr ns), .va 0 (tupI pt), .va 1 (.lst (ps.map tupI)), .va 0 (.int i), .va 0 (.int z), .un] = some (lstI ((List.range pt.length).map fun (j : Nat) => pt.getD j 0 + z / (49 * j + 1) % 7)) := by
      unfold c_law_points_1 lstI
      rw [List.map_map]
      refine lc_map (fun (j : Nat) => D.int j) (fun (j : Nat) => D.int (pt.getD j 0 + z / (49 * (j : Int) + 1) % 7)) (List.range pt.length) ?_ rfl (by rw [List.length_range]; omega) fun j hj => ?_
      · simp! [hl, rng1_eq pt.length (by omega) (by omega)]
      · have hj := List.mem_range.mp hj
        refine ⟨_, rfl, rfl, ?_⟩
        simp! []
    have tm : ∀ l : List Int, mTuple (lstI l) = some (tupI l) := fun _ => rfl
    have cp := fun l : List Int => chk_ints l 0
    have ea := fun (st : Sl) (q : List Int) => o_app 2 0 st (ps.map tupI) (tupI q) (by rw [List.length_map]; omega)
    have ea : ∀ (st : Sl) (q : List Int), oapp 2 0 st (some (1, .lst (ps.map tupI))) (some (tupI q)) = some (.nx (setD st 2 (.lst (ps.map tupI ++ [tupI q])))) := ea
    refine ⟨[.va 0 (.scr ns), .va 0 (tupI pt), .va 1 (.lst ((ps ++ [(List.range pt.length).map fun (j : Nat) => pt.getD j 0 + z / (49 * j + 1) % 7]).map tupI)), .va 0 (.int i), .va 0 (.int z), .un], .inl ?_, _, some _, some _, rfl, fun p hp => ?_, by rw [List.length_append, List.length_append, List.length_singleton, List.length_singleton]; omega⟩
    · rw [List.map_append]
      unfold b_law_points_1
      simp! [c17, lc, tm, cp, ea]
    · rcases List.mem_append.mp hp with hp | hp
      · exact hok p hp
      · rw [List.mem_singleton.mp hp, List.length_map, List.length_range]) [.va 0 (.scr ns), .va 0 (tupI pt), .va 1 (.lst [tupI pt]), .un, .un, .un] ⟨[pt], none, none, rfl, fun p hp => (by rw [List.mem_singleton.mp hp]), Nat.le_refl _⟩
  refine ⟨ps, ?_, hok⟩
  have hr : mRng1 (.int 7) = some ((List.range 7).map fun (i : Nat) => D.int (i : Int)) := by
    rw [rng1_eq 7 (by omega) (by omega)]
    rfl
  simp! [hr, e]

theorem word_ex (i : Int) : ∃ w : Wd, mIx (.lst [wD .most, wD .least, wD .same, wD .unlike]) (.int (i % 4)) = some (wD w) ∧ (w = .most ∨ w = .least ∨ w = .same ∨ w = .unlike) := by
  have h : i % 4 = 0 ∨ i % 4 = 1 ∨ i % 4 = 2 ∨ i % 4 = 3 := by omega
  rcases h with h | h | h | h <;> rw [h]
  · exact ⟨_, rfl, .inl rfl⟩
  · exact ⟨_, rfl, .inr (.inl rfl)⟩
  · exact ⟨_, rfl, .inr (.inr (.inl rfl))⟩
  · exact ⟨_, rfl, .inr (.inr (.inr rfl))⟩
theorem question_ex (ns pt : List Int) (h1 : 1 ≤ pt.length) : ∃ (f : Int) (g : Option Int) (w : Wd) (c : Int), m_law_question [.scr ns, tupI pt] = some (qD f g w c) ∧ fOk pt.length f ∧ gOk pt.length g ∧ (w = .most ∨ w = .least ∨ w = .same ∨ w = .unlike) := by
  unfold m_law_question g_law_question
  have hl : mLen [tupI pt] = some (.int pt.length) := by unfold tupI; rw [len_tup, List.length_map]
  have c7 := cell_eq ns 7 (by omega)
  have c8 := cell_eq ns 8 (by omega)
  generalize cellV ns 7 = a at *
  generalize cellV ns 8 = b at *
  have f0 := Int.emod_nonneg a (show 2 * (pt.length : Int) ≠ 0 by omega)
  have f1 := Int.emod_lt_of_pos a (show 0 < 2 * (pt.length : Int) by omega)
  have g0 := Int.emod_nonneg (a / 6) (show 2 * (pt.length : Int) ≠ 0 by omega)
  have g1 := Int.emod_lt_of_pos (a / 6) (show 0 < 2 * (pt.length : Int) by omega)
  generalize hf : a % (2 * (pt.length : Int)) = f at *
  generalize hg : a / 6 % (2 * (pt.length : Int)) = g at *
  have sm := sum_eq pt [f, g] (fun x hx => by
    simp only [List.mem_cons, List.not_mem_nil, or_false] at hx
    rcases hx with rfl | rfl
    · exact ⟨f0, f1⟩
    · exact ⟨g0, g1⟩)
  have sm : m_law_sum [tupI pt, .lst [.int f, .int g]] = _ := sm
  have wg := lworth_eq pt g g0 g1
  obtain ⟨w, hw, hw4⟩ := word_ex b
  unfold t_law_question_1 t_law_question_2 t_law_question_3 t_law_question_4 t_law_question_5
  by_cases h : a / 36 % 3 = 0
  · refine ⟨f, none, w, totalI pt [f, g] + b / 4 % 13 - 3 - worthI pt g, ?_, ⟨f0, f1⟩, fun x hx => by (cases hx), hw4⟩
    simp! [hl, c7, c8, hf, hg, sm, wg, decide_eq_true h, hw]
    rfl
  · refine ⟨f, some g, w, totalI pt [f, g] + b / 4 % 13 - 3, ?_, ⟨f0, f1⟩, fun x hx => by (cases hx; exact ⟨g0, g1⟩), hw4⟩
    simp! [hl, c7, c8, hf, hg, sm, wg, decide_eq_false h, hw]
    rfl

theorem no_larger_tabs (n : Nat) (T U : Tb) (hn : 2 * n < 1000) (h : ∀ f g, rg (2 * n) f → rg (2 * n) g → ∀ v, bd (U f g) v → bd (T f g) v) : m_law_no_larger [tabD (2 * n) T, tabD (2 * n) U] = some (.bl true) := by
  unfold m_law_no_larger g_law_no_larger
  have inner : ∀ (f : Nat) (o4 o5 : Option D), f < 2 * n → ∃ o4' o5', forL (gTp 2 (gsCons (gNm 4) (gsCons (gNm 5) gsNil))) b_law_no_larger_1 ((List.range (2 * n)).map fun (i : Nat) => D.tup [oD (T f i), oD (U f i)]) [.va 0 (tabD (2 * n) T), .va 0 (tabD (2 * n) U), .va 0 (lineD (2 * n) (T f)), .va 0 (lineD (2 * n) (U f)), vS o4, vS o5] = some (.nx [.va 0 (tabD (2 * n) T), .va 0 (tabD (2 * n) U), .va 0 (lineD (2 * n) (T f)), .va 0 (lineD (2 * n) (U f)), vS o4', vS o5']) := by
    intro f o4 o5 hf
    obtain ⟨st', e, o4', o5', rfl⟩ := forL_P (m := gTp 2 (gsCons (gNm 4) (gsCons (gNm 5) gsNil))) (b := b_law_no_larger_1) (fun st => ∃ o4 o5 : Option D, st = [.va 0 (tabD (2 * n) T), .va 0 (tabD (2 * n) U), .va 0 (lineD (2 * n) (T f)), .va 0 (lineD (2 * n) (U f)), vS o4, vS o5]) (fun (i : Nat) => D.tup [oD (T f i), oD (U f i)]) (List.range (2 * n)) (fun g hg st ⟨o4, o5, hst⟩ => by
      subst hst
      have hg := List.mem_range.mp hg
      have hb := h f g ⟨by omega, by omega⟩ ⟨by omega, by omega⟩
      refine ⟨[.va 0 (tabD (2 * n) T), .va 0 (tabD (2 * n) U), .va 0 (lineD (2 * n) (T f)), .va 0 (lineD (2 * n) (U f)), .va 0 (oD (T f g)), .va 0 (oD (U f g))], .inl ?_, some _, some _, rfl⟩
      unfold b_law_no_larger_1
      cases hu : U f g with
      | none => simp! []
      | some u =>
        obtain ⟨t, ht, htu⟩ := hb u ⟨u, hu, Int.le_refl _⟩
        rw [ht]
        have hd : ¬ u < t := by omega
        simp! [decide_eq_false hd]) _ ⟨o4, o5, rfl⟩
    exact ⟨o4', o5', e⟩
  obtain ⟨st', e, o2, o3, o4, o5, rfl⟩ := forL_P (m := gTp 2 (gsCons (gNm 2) (gsCons (gNm 3) gsNil))) (b := b_law_no_larger_2) (fun st => ∃ o2 o3 o4 o5 : Option D, st = [.va 0 (tabD (2 * n) T), .va 0 (tabD (2 * n) U), vS o2, vS o3, vS o4, vS o5]) (fun (i : Nat) => D.tup [lineD (2 * n) (T i), lineD (2 * n) (U i)]) (List.range (2 * n)) (fun f hf st ⟨o2, o3, o4, o5, hst⟩ => by
    subst hst
    have hf := List.mem_range.mp hf
    obtain ⟨o4', o5', e⟩ := inner f o4 o5 hf
    have z := zip_line (2 * n) (T f) (U f)
    refine ⟨[.va 0 (tabD (2 * n) T), .va 0 (tabD (2 * n) U), .va 0 (lineD (2 * n) (T f)), .va 0 (lineD (2 * n) (U f)), vS o4', vS o5'], .inl ?_, some _, some _, o4', o5', rfl⟩
    unfold b_law_no_larger_2
    simp! [z, e]) [.va 0 (tabD (2 * n) T), .va 0 (tabD (2 * n) U), .un, .un, .un, .un] ⟨none, none, none, none, rfl⟩
  have z := zip_tab (2 * n) T U
  have i1 : mIsN (tabD (2 * n) T) .non = some (.bl false) := rfl
  simp! [i1, z, e]
theorem no_larger_eq (n : Nat) (S R : Option Tb) (hn : 2 * n < 1000) (h : leS n S R) : m_law_no_larger [shD (2 * n) S, shD (2 * n) R] = some (.bl true) := by
  cases S with
  | none =>
    show m_law_no_larger [.non, shD (2 * n) R] = _
    unfold m_law_no_larger g_law_no_larger
    simp! []
  | some T =>
    obtain ⟨U, e, h2⟩ := h T rfl
    rw [e]
    exact no_larger_tabs n T U hn h2

-- NEEDS: parts
theorem just_eq (n : Nat) (A : Option Tb) (l : List Sd) (f : Int) (g : Option Int) (w : Wd) (c i j : Int) (b : Bool) (h1 : 1 ≤ n) (h6 : n ≤ 6) (tA : TightO n A) (hl : ∀ d ∈ l, sdOk (2 * n) d) (hf : fOk n f) (hg : gOk n g) (hw : w = .most ∨ w = .least ∨ w = .same ∨ w = .unlike) (hi : rg (2 * n) i) (hj : rg (2 * n) j)
    (hp : ∀ p, InS n A p → keepsL p l ∧ wdHolds w (qSum p f g) c = b) : m_law_just [shD (2 * n) A, .lst (l.map sdD), qD f g w c, .bl b, .int n, lstI [i, j]] = some (.bl true) := by
  unfold m_law_just g_law_just
  cases A with
  | none =>
    show fnRun 8 _ [.non, _, _, _, _, _] = _
    simp! []
  | some T =>
    have L := tA T rfl
    have i0 : mIx (lstI [i, j]) (.int 0) = some (.int i) := ix_l0 _ _
    have i1 : mIx (lstI [i, j]) (.int 1) = some (.int j) := ix_l1 _ _ _
    have n1 : mIsN (tabD (2 * n) T) .non = some (.bl false) := rfl
    obtain ⟨i2, i3⟩ := hi
    obtain ⟨j2, j3⟩ := hj
    have x1 : mIx (tabD (2 * n) T) (.int i) = some (lineD (2 * n) (T i)) := ix_tab _ _ _ i2 i3
    have x2 : mIx (lineD (2 * n) (T i)) (.int j) = some (oD (T i j)) := ix_line _ _ _ j2 j3
    have rt := reach_two L ⟨i2, i3⟩ ⟨j2, j3⟩
    have p31 : mPow (.int 10) (.int 31) = some (.int (10 ^ 31)) := pow_n 10 31 (by decide) (by decide) (by decide)
    have rest : ∀ num : Int, (∀ v, bd (T i j) v → num ≤ v) → orun (t_law_just_3 [.va 0 (tabD (2 * n) T), .va 0 (.lst (l.map sdD)), .va 0 (qD f g w c), .va 0 (.bl b), .va 0 (.int n), .va 0 (lstI [i, j]), .va 0 (.int num), .un]) = some (.bl true) := by
      intro num hn
      obtain ⟨q, e1, lq, _⟩ := rt.got num hn
      have re := reaching_eq n T [i, j] num h6 (by show 2 ≤ 3; omega) (fun x hx => by
        simp only [List.mem_cons, List.not_mem_nil, or_false] at hx
        rcases hx with rfl | rfl
        · exact ⟨i2, i3⟩
        · exact ⟨j2, j3⟩)
      rw [e1] at re
      have re : m_reaching [tabD (2 * n) T, lstI [i, j], .int num] = some (tupI q) := re
      have hq := lq.1
      have cq := chk_ints q 0
      have pl := point_like_eq q (by omega)
      rw [hq] at pl
      obtain ⟨k1, k2⟩ := hp q ⟨T, rfl, lq⟩
      have kp := keeps_all q l (by rw [hq]; exact hl)
      rw [keepsB_iff.mpr k1] at kp
      have hh := lholds_eq q f g w c (by rw [hq]; exact hf) (by rw [hq]; exact hg) hw
      rw [k2] at hh
      unfold t_law_just_3 t_law_just_4 t_law_just_5
      simp! [re, cq, pl, kp, hh]
      cases b <;> rfl
    show fnRun 8 _ [tabD (2 * n) T, _, _, _, _, _] = _
    unfold t_law_just_1 t_law_just_2
    cases hT : T i j with
    | none =>
      rw [hT] at x2 rest
      simp! [n1, i0, i1, x1, x2, p31]
      exact rest _ fun v ⟨u, h, _⟩ => by cases h
    | some t =>
      rw [hT] at x2 rest
      simp! [n1, i0, i1, x1, x2]
      exact rest _ fun v ⟨u, h, h2⟩ => by cases h; exact h2

-- NEEDS: parts
theorem dealt_eq (n : Nat) (Y N : Option Tb) (ps : List (List Int)) (l : List Sd) (f : Int) (g : Option Int) (w : Wd) (c : Int) (hn : 2 * n < 1000) (hps : ∀ p ∈ ps, p.length = n) (hl : ∀ d ∈ l, sdOk (2 * n) d) (hf : fOk n f) (hg : gOk n g) (hw : w = .most ∨ w = .least ∨ w = .same ∨ w = .unlike)
    (hy : ∀ p, p.length = n → keepsL p l → wdHolds w (qSum p f g) c = true → InS n Y p) (hno : ∀ p, p.length = n → keepsL p l → wdHolds w (qSum p f g) c = false → InS n N p) : m_law_dealt [shD (2 * n) Y, shD (2 * n) N, .lst (ps.map tupI), .lst (l.map sdD), qD f g w c] = some (.bl true) := by
  unfold m_law_dealt g_law_dealt
  have ls : ∀ (S : Option Tb) (p : List Int), InS n S p → ∃ T, S = some T ∧ m_law_lies [tabD (2 * n) T, tupI p] = some (.bl true) := by
    rintro S p ⟨T, e, lp⟩
    refine ⟨T, e, ?_⟩
    have hB : liesB (2 * n) T p = true := (lies_iff lp.1).mpr lp
    rw [law_lies_eq (2 * n) T p (by rw [lp.1]; omega) (by omega), hB]
  obtain ⟨st', e, o5, o6, rfl⟩ := forL_P (m := gNm 5) (b := b_law_dealt_1) (fun st => ∃ o5 o6 : Option D, st = [.va 0 (shD (2 * n) Y), .va 0 (shD (2 * n) N), .va 0 (.lst (ps.map tupI)), .va 0 (.lst (l.map sdD)), .va 0 (qD f g w c), vS o5, vS o6]) tupI ps (fun p hp st ⟨o5, o6, hst⟩ => by
    subst hst
    have hq := hps p hp
    have kp := keeps_all p l (by rw [hq]; exact hl)
    have hh := lholds_eq p f g w c (by rw [hq]; exact hf) (by rw [hq]; exact hg) hw
    unfold b_law_dealt_1
    cases hk : keepsB p l with
    | false =>
      rw [hk] at kp
      refine ⟨[.va 0 (shD (2 * n) Y), .va 0 (shD (2 * n) N), .va 0 (.lst (ps.map tupI)), .va 0 (.lst (l.map sdD)), .va 0 (qD f g w c), .va 0 (tupI p), vS o6], .inl ?_, some _, o6, rfl⟩
      simp! [kp]
    | true =>
      rw [hk] at kp
      have hk := keepsB_iff.mp hk
      cases hb : wdHolds w (qSum p f g) c with
      | true =>
        rw [hb] at hh
        obtain ⟨T, e, ll⟩ := ls Y p (hy p hq hk hb)
        subst e
        have nn : mIsN (tabD (2 * n) T) .non = some (.bl false) := rfl
        refine ⟨[.va 0 (tabD (2 * n) T), .va 0 (shD (2 * n) N), .va 0 (.lst (ps.map tupI)), .va 0 (.lst (l.map sdD)), .va 0 (qD f g w c), .va 0 (tupI p), .va 0 (tabD (2 * n) T)], .inl ?_, some _, some _, rfl⟩
        show obody _ (gNm 5 (tupI p) [.va 0 (tabD (2 * n) T), _, _, _, _, _, _]) = _
        simp! [kp, hh, nn, ll]
      | false =>
        rw [hb] at hh
        obtain ⟨T, e, ll⟩ := ls N p (hno p hq hk hb)
        subst e
        have nn : mIsN (tabD (2 * n) T) .non = some (.bl false) := rfl
        refine ⟨[.va 0 (shD (2 * n) Y), .va 0 (tabD (2 * n) T), .va 0 (.lst (ps.map tupI)), .va 0 (.lst (l.map sdD)), .va 0 (qD f g w c), .va 0 (tupI p), .va 0 (tabD (2 * n) T)], .inl ?_, some _, some _, rfl⟩
        show obody _ (gNm 5 (tupI p) [_, .va 0 (tabD (2 * n) T), _, _, _, _, _]) = _
        simp! [kp, hh, nn, ll]) [.va 0 (shD (2 * n) Y), .va 0 (shD (2 * n) N), .va 0 (.lst (ps.map tupI)), .va 0 (.lst (l.map sdD)), .va 0 (qD f g w c), .un, .un] ⟨none, none, rfl⟩
  have it : itsS (.lst (ps.map tupI)) = some (ps.map tupI) := rfl
  simp! [it, e]

-- NEEDS: deeds
theorem full_sh (n : Nat) (S : Option Tb) (k : Nat) : full (shD n S) (k + 2) = true := by
  cases S with
  | none => rfl
  | some T =>
    exact fullL_of fun d hd => by
      obtain ⟨i, _, rfl⟩ := List.mem_map.mp hd
      exact fullL_of fun d hd => by
        obtain ⟨j, _, rfl⟩ := List.mem_map.mp hd
        exact full_o _ _
theorem chk_sh (n : Nat) (S : Option Tb) : chk 2 (shD n S) = some (shD n S) := by
  unfold chk
  rw [if_pos (full_sh n S 0)]
theorem held_sh (n : Nat) (S : Option Tb) (d : Sd) (hn : 2 * n < 1000) (ok : sdOk (2 * n) d) : m_held [shD (2 * n) S, sdD d] = some (shD (2 * n) (heldO n S d)) := by
  obtain ⟨f, g, c⟩ := d
  cases S with
  | none => exact held_none (2 * n) _
  | some T => 
    have h1 : f < ((2 * n : Nat) : Int) := ok.1.2
    have h2 : g < ((2 * n : Nat) : Int) := ok.2.2
    exact held_eq n T f g c hn ⟨ok.1.1, by omega⟩ ⟨ok.2.1, by omega⟩
theorem casesV_ne (f : Int) (g : Option Int) (w : Wd) (c : Int) : ∀ l ∈ casesV f g w c, l ≠ [] := by
  intro l hl e
  subst e
  cases w <;> simp [casesV] at hl
theorem parts_eq (n : Nat) (S : Option Tb) (f : Int) (g : Option Int) (w : Wd) (c : Int) (hn : 2 * n < 1000) (hf : fOk n f) (hg : gOk n g) :
    m_Keep_parts [.ob "Keep" ["question"] [qD f g w c], shD (2 * n) S] = some (.lst ((partsO n S (casesV f g w c)).map (shD (2 * n)))) := by
  unfold m_Keep_parts g_Keep_parts
  have fq := fl_question_Keep [qD f g w c]
  have cs := cases_eq f g w c hf.1 fun x hx => (hg x hx).1
  have ck := chk_case (casesV f g w c) 0
  have ok := casesV_ok (n := (n : Int)) (N := 2 * n) (w := w) (c := c) (by omega) hf hg
  obtain ⟨l1, l2⟩ := casesV_len f g w c
  have ne := casesV_ne f g w c
  generalize casesV f g w c = C at *
  have inner : ∀ (l : List Sd) (k : Nat) (R : Option Tb) (o5 : Option D) (s2 s3 : Slot), (∀ d ∈ l, sdOk (2 * n) d) → ∃ o, forL (gNm 5) b_Keep_parts_1 (l.map sdD) [.va 0 (.ob "Keep" ["question"] [qD f g w c]), .va 0 (shD (2 * n) S), s2, s3, .va k (shD (2 * n) R), vS o5] = some (.nx [.va 0 (.ob "Keep" ["question"] [qD f g w c]), .va 0 (shD (2 * n) S), s2, s3, .va (if l = [] then k else 2) (shD (2 * n) (partO n R l)), vS o]) := by
    intro l
    induction l with
    | nil => intro k R o5 s2 s3 _; exact ⟨o5, rfl⟩
    | cons d l ih =>
      intro k R o5 s2 s3 hd
      have e := held_sh n R d hn (hd d List.mem_cons_self)
      have ck := chk_sh (2 * n) (heldO n R d)
      obtain ⟨o, eo⟩ := ih 2 (heldO n R d) (some (sdD d)) s2 s3 fun x hx => hd x (List.mem_cons_of_mem _ hx)
      refine ⟨o, ?_⟩
      rw [List.map_cons, forL_cons]
      have one : obody b_Keep_parts_1 (gNm 5 (sdD d) [.va 0 (.ob "Keep" ["question"] [qD f g w c]), .va 0 (shD (2 * n) S), s2, s3, .va k (shD (2 * n) R), vS o5]) = some (.nx [.va 0 (.ob "Keep" ["question"] [qD f g w c]), .va 0 (shD (2 * n) S), s2, s3, .va 2 (shD (2 * n) (heldO n R d)), vS (some (sdD d))]) := by
        unfold b_Keep_parts_1
        simp! [e, ck]
        rfl
      rw [one]
      have e2 : (if l = [] then 2 else 2) = 2 := by split <;> rfl
      rw [e2] at eo
      rw [if_neg (List.cons_ne_nil d l)]
      exact eo
  obtain ⟨st', e, o3, o5, o4, hv, rfl⟩ := forL_pre (m := gNm 3) (b := b_Keep_parts_2) (fun (pre : List (List Sd)) st => ∃ o3 o5 : Option D, ∃ s4 : Slot, (isVa (some s4) = true ∧ st = [.va 0 (.ob "Keep" ["question"] [qD f g w c]), .va 0 (shD (2 * n) S), .va 3 (.lst ((partsO n S pre).map (shD (2 * n)))), vS o3, s4, vS o5])) (fun l : List Sd => .lst (l.map sdD)) C (fun pre l post hs st ⟨o3, o5, s4, hv, hst⟩ => by
    subst hst
    have hl : l ∈ C := by rw [hs]; exact List.mem_append_right _ List.mem_cons_self
    have hlen : pre.length ≤ 2 := by
      have := congrArg List.length hs
      rw [List.length_append, List.length_cons] at this
      omega
    obtain ⟨o, eo⟩ := inner l 0 S o5 (.va 3 (.lst ((partsO n S pre).map (shD (2 * n))))) (.va 0 (.lst (l.map sdD))) (ok l hl)
    rw [if_neg (ne l hl)] at eo
    have ea := fun st : Sl => o_appV 2 2 4 st ((partsO n S pre).map (shD (2 * n))) (shD (2 * n) (partO n S l)) (by rw [List.length_map]; unfold partsO; rw [List.length_map]; omega) (by decide)
    have ea : ∀ st : Sl, oappV 2 2 4 st (some (3, .lst ((partsO n S pre).map (shD (2 * n))))) (some (.va 2 (shD (2 * n) (partO n S l)))) = some (.nx ((setD st 2 (.lst ((partsO n S pre).map (shD (2 * n)) ++ [shD (2 * n) (partO n S l)]))).set 4 .un)) := ea
    refine ⟨[.va 0 (.ob "Keep" ["question"] [qD f g w c]), .va 0 (shD (2 * n) S), .va 3 (.lst ((partsO n S (pre ++ [l])).map (shD (2 * n)))), .va 0 (.lst (l.map sdD)), .un, vS o], .inl ?_, some _, o, _, rfl, rfl⟩
    unfold b_Keep_parts_2
    have it : itsS (.lst (l.map sdD)) = some (l.map sdD) := rfl
    have ep : (partsO n S (pre ++ [l])).map (shD (2 * n)) = (partsO n S pre).map (shD (2 * n)) ++ [shD (2 * n) (partO n S l)] := by
      unfold partsO
      rw [List.map_append, List.map_append]
      rfl
    rw [ep]
    simp! [it, eo, ea, hv]) [.va 0 (.ob "Keep" ["question"] [qD f g w c]), .va 0 (shD (2 * n) S), .va 3 (.lst []), .un, .un, .un] ⟨none, none, .un, rfl, rfl⟩
  have it : itsS (caseD C) = some (C.map fun l : List Sd => .lst (l.map sdD)) := rfl
  simp! [fq, cs, ck, it, e]

theorem keep_image (n : Nat) (S : Option Tb) (f : Int) (g : Option Int) (w : Wd) (c : Int) (hn : 2 * n < 1000) (ok : drOk n (.keep f g w c)) : m_Keep_image [obD (.keep f g w c), shD (2 * n) S] = some (shD (2 * n) (imageV n S (.keep f g w c))) := by
  show m_Keep_image [.ob "Keep" ["question"] [qD f g w c], shD (2 * n) S] = some (shD (2 * n) (joinsO (partsO n S (casesV f g w c))))
  unfold m_Keep_image g_Keep_image
  have mp := (me_parts_Keep [qD f g w c] [shD (2 * n) S]).trans (parts_eq n S f g w c hn ok.1 ok.2.1)
  have ck : ∀ L : List (Option Tb), chk 3 (.lst (L.map (shD (2 * n)))) = some (.lst (L.map (shD (2 * n)))) := fun L => by
    unfold chk
    rw [if_pos (show full (.lst (L.map (shD (2 * n)))) 3 = true from fullL_of fun d hd => by
      obtain ⟨R, _, rfl⟩ := List.mem_map.mp hd
      exact full_sh (2 * n) R 0)]
  have ne : partsO n S (casesV f g w c) ≠ [] := by
    obtain ⟨d, l, cs, e, _⟩ := casesV_one f g w c
    rw [e]
    exact List.cons_ne_nil _ _
  generalize partsO n S (casesV f g w c) = L at *
  have loop : ∀ (L : List (Option Tb)) (k : Nat) (R : Option Tb) (o3 : Option D), ∃ o, forL (gNm 3) b_Keep_image_1 (L.map (shD (2 * n))) [.va 0 (.ob "Keep" ["question"] [qD f g w c]), .va 0 (shD (2 * n) S), .va k (shD (2 * n) R), vS o3] = some (.nx [.va 0 (.ob "Keep" ["question"] [qD f g w c]), .va 0 (shD (2 * n) S), .va (if L = [] then k else 2) (shD (2 * n) (L.foldl joinO R)), vS o]) := by
    intro L
    induction L with
    | nil => intro k R o3; exact ⟨o3, rfl⟩
    | cons P L ih =>
      intro k R o3
      obtain ⟨o, eo⟩ := ih 2 (joinO R P) (some (shD (2 * n) P))
      have ej := join_eq (2 * n) R P hn
      have cj := chk_sh (2 * n) (joinO R P)
      refine ⟨o, ?_⟩
      rw [List.map_cons, forL_cons]
      have one : obody b_Keep_image_1 (gNm 3 (shD (2 * n) P) [.va 0 (.ob "Keep" ["question"] [qD f g w c]), .va 0 (shD (2 * n) S), .va k (shD (2 * n) R), vS o3]) = some (.nx [.va 0 (.ob "Keep" ["question"] [qD f g w c]), .va 0 (shD (2 * n) S), .va 2 (shD (2 * n) (joinO R P)), vS (some (shD (2 * n) P))]) := by
        unfold b_Keep_image_1
        simp! [ej, cj]
        rfl
      rw [one]
      have e2 : (if L = [] then 2 else 2) = 2 := by split <;> rfl
      rw [e2] at eo
      rw [if_neg (List.cons_ne_nil P L)]
      exact eo
  obtain ⟨o, eo⟩ := loop L 0 none none
  rw [if_neg ne] at eo
  have ck := ck L
  have it : itsS (.lst (L.map (shD (2 * n)))) = some (L.map (shD (2 * n))) := rfl
  have e1 : forL (gNm 3) b_Keep_image_1 (L.map (shD (2 * n))) [.va 0 (.ob "Keep" ["question"] [qD f g w c]), .va 0 (shD (2 * n) S), .va 0 .non, .un] = some (.nx [.va 0 (.ob "Keep" ["question"] [qD f g w c]), .va 0 (shD (2 * n) S), .va 2 (shD (2 * n) (L.foldl joinO none)), vS o]) := eo
  simp! [mp, ck, it, e1]
  rfl

end K28
namespace K28
open PySem PySem.Spec PyProof.Rows FL
local macro_rules | `(tactic| walk_at "ev") => `(tactic| simp (disch := first | omega | assumption) only [e_run, e_seq, e_nil, e_sif, e_ret, e_exp, e_set, e_aug, e_asg, e_for, e_bin, e_binL, e_sl, e_onone, e_osome, e_fl, e_call, e_callO, e_cb, e_b, e_ib, e_c, e_anil, e_acons, e_val, e_neg, e_not, e_and, e_or, e_qand, e_qor, e_qnot, e_qyes, e_eif, e_tup, e_lst, e_isi, e_var0, e_varS0, e_varS0', e_var0i, e_varS, e_varSS, o_b2, o_bL, o_b3, o_b1, o_cons, o_val, o_neg, o_not, o_and1, o_and0, o_or1, o_or0, o_andB1, o_andB0, o_orB1, o_orB0, o_and, o_or, o_andB, o_orB, o_notB, o_if1, o_if0, o_ifB, o_int, o_set, o_aug, o_ret, o_exp, o_seq, o_seqR, o_seqB, o_seqC, o_seqI, o_runI, o_tup1, o_tup2, o_tup3, o_tup4, o_tup5, o_lst0, o_lst1, o_lst2, o_lst3, o_lst4, o_lst5, o_lst8, o_asg, o_for, o_runR, o_runN, bmap, rep0, repS, set0, setS, get0, getS, isva, isun, isv0, isv0u, ix_t0, ix_t1, ix_t2, ix_t3, ix_t4, ix_l0, ix_l1, chk_tup, chk_lst, fl_nil, fl_cons, f_int, f_bl, f_str, f_non, f_tup, f_lst, full_w, full_o, chk_int, chk_bl, chk_non, chk_str, chk_ints, isi_ii, isi_ib, isi_bb, isi_tt, isi_ll, add_ii, sub_ii, lt_ii, le_ii, gt_ii, ge_ii, eq_ii, ne_ii, eq_bb, ne_bb, isN_n, isN_i, notN_n, notN_i, len_scr, len_lst, len_tup, gnm, forL_cons, o_loopN, o_loopC, o_loopB, o_loopR, o_loopI, o_body, decide_true, decide_false, Bool.false_eq_true, eq_self, wipe_nil, wipe_cons, forL_nil, mod_ii, div_s, mul_l, mul_r, ix_scr, ix_ints, l_most, l_least, l_same, l_unlike, l_set, l_ask, l_need, l_claim, l_if, l_while, l_else, l_end, l_plain, l_go, l_keep, l_put, mEq_w, mNe_w, chk_w, isi_sw, isN_w, notN_w, chk_o, isN_o, notN_o, reduceCtorEq, Int.cast_ofNat_Int, Bool.not_not,  List.map_cons, List.map_nil, List.cons_append, List.nil_append, List.length_cons, List.length_nil, if_true, if_false, Bool.not_true, Bool.not_false, decide_eq_true_eq, Nat.add_zero, Nat.zero_add, Nat.reduceAdd, Nat.reduceSub, Nat.sub_self, Nat.add_sub_cancel, reduceIte, Bool.true_and, Bool.and_true, Bool.false_and, Bool.and_false, Bool.true_or, Bool.or_true, Bool.false_or, Bool.or_false])
local macro_rules | `(tactic| walk_at "tb") => `(tactic| simp (disch := first | omega | assumption) only [e_run, e_seq, e_nil, e_sif, e_ret, e_exp, e_set, e_aug, e_asg, e_for, e_bin, e_binL, e_sl, e_onone, e_osome, e_fl, e_call, e_callO, e_cb, e_b, e_ib, e_c, e_anil, e_acons, e_val, e_neg, e_not, e_and, e_or, e_qand, e_qor, e_qnot, e_qyes, e_eif, e_tup, e_lst, e_isi, e_var0, e_varS0, e_varS0', e_var0i, e_varS, e_varSS, o_b2, o_bL, o_b3, o_b1, o_cons, o_val, o_neg, o_not, o_and1, o_and0, o_or1, o_or0, o_andB1, o_andB0, o_orB1, o_orB0, o_and, o_or, o_andB, o_orB, o_notB, o_if1, o_if0, o_ifB, o_int, o_set, o_aug, o_ret, o_exp, o_seq, o_seqR, o_seqB, o_seqC, o_seqI, o_runI, o_tup1, o_tup2, o_tup3, o_tup4, o_tup5, o_lst0, o_lst1, o_lst2, o_lst3, o_lst4, o_lst5, o_lst8, o_asg, o_for, o_runR, o_runN, bmap, rep0, repS, set0, setS, get0, getS, isva, isun, isv0, isv0u, ix_t0, ix_t1, ix_t2, ix_t3, ix_t4, ix_l0, ix_l1, chk_tup, chk_lst, fl_nil, fl_cons, f_int, f_bl, f_str, f_non, f_tup, f_lst, full_w, full_o, chk_int, chk_bl, chk_non, chk_str, chk_ints, isi_ii, isi_ib, isi_bb, isi_tt, isi_ll, add_ii, sub_ii, lt_ii, le_ii, gt_ii, ge_ii, eq_ii, ne_ii, eq_bb, ne_bb, isN_n, isN_i, notN_n, notN_i, len_scr, len_lst, len_tup, gnm, forL_cons, o_loopN, o_loopC, o_loopB, o_loopR, o_loopI, o_body, decide_true, decide_false, Bool.false_eq_true, eq_self, wipe_nil, wipe_cons, forL_nil, mod_ii, div_s, mul_l, mul_r, ix_scr, ix_ints, l_most, l_least, l_same, l_unlike, l_set, l_ask, l_need, l_claim, l_if, l_while, l_else, l_end, l_plain, l_go, l_keep, l_put, mEq_w, mNe_w, chk_w, isi_sw, isN_w, notN_w, chk_o, isN_o, notN_o, reduceCtorEq, Int.cast_ofNat_Int, Bool.not_not,  List.map_cons, List.map_nil, List.cons_append, List.nil_append, List.length_cons, List.length_nil, if_true, if_false, Bool.not_true, Bool.not_false, decide_eq_true_eq, Nat.add_zero, Nat.zero_add, Nat.reduceAdd, Nat.reduceSub, Nat.sub_self, Nat.add_sub_cancel, reduceIte, Bool.true_and, Bool.and_true, Bool.false_and, Bool.and_false, Bool.true_or, Bool.or_true, Bool.false_or, Bool.or_false, e_meth, e_methO, o_meth, e_mk, ix_tab, ix_line, len_tabD, len_line, isN_tb, notN_tb, isB_bb, notB_bb, itsS_ints, slF_scr, slL_scr, len_intsL, ix_intsL, chk_intsL, itsS_tab, itsS_line, e_thaw, o_thaw, e_retV, o_retV, itsS_lst, itsS_tup, setD0, setD0i, setDS, sld_va, sld_io, e_frz, o_frz, e_xC, o_xc_t, e_aIo, o_aio, e_sX, o_sx, e_retX, o_retx, e_tupV, o_tupV1, g_tp2, bnd, e_app, o_app, o_appI, o_app1, o_app2, o_app3, o_app4, o_lst6, o_lst7, o_lst9, o_lst10, o_lst11, o_lst12, o_lst16, o_tup6, o_tup7, o_tup8, e_appV, o_appV, chk_tab, chk_line, listF_line, listF_ints, isi_ln, isi_tb, rng1_eq, rng2_eq, oDs, oDn, Option.isSome_some, Option.isSome_none, Option.isNone_some, Option.isNone_none, isva_vS, isv0_vS, isva_vK, bq_tt, bq_ff, bq_tf, bq_ft, Int.toNat_natCast, fl_question_Keep, me_parts_Keep, me_image_Keep])
local macro_rules | `(tactic| simp! [$ls,*]) => `(tactic| simp (disch := first | omega | assumption) only [e_run, e_seq, e_nil, e_sif, e_ret, e_exp, e_set, e_aug, e_asg, e_for, e_bin, e_binL, e_sl, e_onone, e_osome, e_fl, e_call, e_callO, e_cb, e_b, e_ib, e_c, e_anil, e_acons, e_val, e_neg, e_not, e_and, e_or, e_qand, e_qor, e_qnot, e_qyes, e_eif, e_tup, e_lst, e_isi, e_var0, e_varS0, e_varS0', e_var0i, e_varS, e_varSS, o_b2, o_bL, o_b3, o_b1, o_cons, o_val, o_neg, o_not, o_and1, o_and0, o_or1, o_or0, o_andB1, o_andB0, o_orB1, o_orB0, o_and, o_or, o_andB, o_orB, o_notB, o_if1, o_if0, o_ifB, o_int, o_set, o_aug, o_ret, o_exp, o_seq, o_seqR, o_seqB, o_seqC, o_seqI, o_runI, o_tup1, o_tup2, o_tup3, o_tup4, o_tup5, o_lst0, o_lst1, o_lst2, o_lst3, o_lst4, o_lst5, o_lst8, o_asg, o_for, o_runR, o_runN, bmap, rep0, repS, set0, setS, get0, getS, isva, isun, isv0, isv0u, ix_t0, ix_t1, ix_t2, ix_t3, ix_t4, ix_l0, ix_l1, chk_tup, chk_lst, fl_nil, fl_cons, f_int, f_bl, f_str, f_non, f_tup, f_lst, full_w, full_o, chk_int, chk_bl, chk_non, chk_str, chk_ints, isi_ii, isi_ib, isi_bb, isi_tt, isi_ll, add_ii, sub_ii, lt_ii, le_ii, gt_ii, ge_ii, eq_ii, ne_ii, eq_bb, ne_bb, isN_n, isN_i, notN_n, notN_i, len_scr, len_lst, len_tup, gnm, forL_cons, o_loopN, o_loopC, o_loopB, o_loopR, o_loopI, o_body, decide_true, decide_false, Bool.false_eq_true, eq_self, wipe_nil, wipe_cons, forL_nil, mod_ii, div_s, mul_l, mul_r, ix_scr, ix_ints, l_most, l_least, l_same, l_unlike, l_set, l_ask, l_need, l_claim, l_if, l_while, l_else, l_end, l_plain, l_go, l_keep, l_put, mEq_w, mNe_w, chk_w, isi_sw, isN_w, notN_w, chk_o, isN_o, notN_o, reduceCtorEq, Int.cast_ofNat_Int, Bool.not_not,  List.map_cons, List.map_nil, List.cons_append, List.nil_append, List.length_cons, List.length_nil, if_true, if_false, Bool.not_true, Bool.not_false, decide_eq_true_eq, Nat.add_zero, Nat.zero_add, Nat.reduceAdd, Nat.reduceSub, Nat.sub_self, Nat.add_sub_cancel, reduceIte, Bool.true_and, Bool.and_true, Bool.false_and, Bool.and_false, Bool.true_or, Bool.or_true, Bool.false_or, Bool.or_false, e_meth, e_methO, o_meth, e_mk, ix_tab, ix_line, len_tabD, len_line, isN_tb, notN_tb, isB_bb, notB_bb, itsS_ints, slF_scr, slL_scr, len_intsL, ix_intsL, chk_intsL, itsS_tab, itsS_line, e_thaw, o_thaw, e_retV, o_retV, itsS_lst, itsS_tup, setD0, setD0i, setDS, sld_va, sld_io, e_frz, o_frz, e_xC, o_xc_t, e_aIo, o_aio, e_sX, o_sx, e_retX, o_retx, e_tupV, o_tupV1, g_tp2, bnd, e_app, o_app, o_appI, o_app1, o_app2, o_app3, o_app4, o_lst6, o_lst7, o_lst9, o_lst10, o_lst11, o_lst12, o_lst16, o_tup6, o_tup7, o_tup8, e_appV, o_appV, chk_tab, chk_line, listF_line, listF_ints, isi_ln, isi_tb, rng1_eq, rng2_eq, oDs, oDn, Option.isSome_some, Option.isSome_none, Option.isNone_some, Option.isNone_none, isva_vS, isv0_vS, isva_vK, bq_tt, bq_ff, bq_tf, bq_ft, Int.toNat_natCast, fl_question_Keep, me_parts_Keep, me_image_Keep, $ls,*])

local macro_rules | `(tactic| walk_at "lw") => `(tactic| simp (disch := first | omega | assumption) only [e_run, e_seq, e_nil, e_sif, e_ret, e_exp, e_set, e_aug, e_asg, e_for, e_bin, e_binL, e_sl, e_onone, e_osome, e_fl, e_call, e_callO, e_cb, e_b, e_ib, e_c, e_anil, e_acons, e_val, e_neg, e_not, e_and, e_or, e_qand, e_qor, e_qnot, e_qyes, e_eif, e_tup, e_lst, e_isi, e_var0, e_varS0, e_varS0', e_var0i, e_varS, e_varSS, o_b2, o_bL, o_b3, o_b1, o_cons, o_val, o_neg, o_not, o_and1, o_and0, o_or1, o_or0, o_andB1, o_andB0, o_orB1, o_orB0, o_and, o_or, o_andB, o_orB, o_notB, o_if1, o_if0, o_ifB, o_int, o_set, o_aug, o_ret, o_exp, o_seq, o_seqR, o_seqB, o_seqC, o_seqI, o_runI, o_tup1, o_tup2, o_tup3, o_tup4, o_tup5, o_lst0, o_lst1, o_lst2, o_lst3, o_lst4, o_lst5, o_lst8, o_asg, o_for, o_runR, o_runN, bmap, rep0, repS, set0, setS, get0, getS, isva, isun, isv0, isv0u, ix_t0, ix_t1, ix_t2, ix_t3, ix_t4, ix_l0, ix_l1, chk_tup, chk_lst, fl_nil, fl_cons, f_int, f_bl, f_str, f_non, f_tup, f_lst, full_w, full_o, chk_int, chk_bl, chk_non, chk_str, chk_ints, isi_ii, isi_ib, isi_bb, isi_tt, isi_ll, add_ii, sub_ii, lt_ii, le_ii, gt_ii, ge_ii, eq_ii, ne_ii, eq_bb, ne_bb, isN_n, isN_i, notN_n, notN_i, len_scr, len_lst, len_tup, gnm, forL_cons, o_loopN, o_loopC, o_loopB, o_loopR, o_loopI, o_body, decide_true, decide_false, Bool.false_eq_true, eq_self, wipe_nil, wipe_cons, forL_nil, mod_ii, div_s, mul_l, mul_r, ix_scr, ix_ints, l_most, l_least, l_same, l_unlike, l_set, l_ask, l_need, l_claim, l_if, l_while, l_else, l_end, l_plain, l_go, l_keep, l_put, mEq_w, mNe_w, chk_w, isi_sw, isN_w, notN_w, chk_o, isN_o, notN_o, reduceCtorEq, Int.cast_ofNat_Int, Bool.not_not,  List.map_cons, List.map_nil, List.cons_append, List.nil_append, List.length_cons, List.length_nil, if_true, if_false, Bool.not_true, Bool.not_false, decide_eq_true_eq, Nat.add_zero, Nat.zero_add, Nat.reduceAdd, Nat.reduceSub, Nat.sub_self, Nat.add_sub_cancel, reduceIte, Bool.true_and, Bool.and_true, Bool.false_and, Bool.and_false, Bool.true_or, Bool.or_true, Bool.false_or, Bool.or_false, e_meth, e_methO, o_meth, e_mk, ix_tab, ix_line, len_tabD, len_line, isN_tb, notN_tb, isB_bb, notB_bb, itsS_ints, slF_scr, slL_scr, len_intsL, ix_intsL, chk_intsL, itsS_tab, itsS_line, e_thaw, o_thaw, e_retV, o_retV, itsS_lst, itsS_tup, setD0, setD0i, setDS, sld_va, sld_io, e_frz, o_frz, e_xC, o_xc_t, e_aIo, o_aio, e_sX, o_sx, e_retX, o_retx, e_tupV, o_tupV1, g_tp2, bnd, e_app, o_app, o_appI, o_app1, o_app2, o_app3, o_app4, o_lst6, o_lst7, o_lst9, o_lst10, o_lst11, o_lst12, o_lst16, o_tup6, o_tup7, o_tup8, e_appV, o_appV, chk_tab, chk_line, listF_line, listF_ints, isi_ln, isi_tb, rng1_eq, rng2_eq, oDs, oDn, Option.isSome_some, Option.isSome_none, Option.isNone_some, Option.isNone_none, isva_vS, isv0_vS, isva_vK, bq_tt, bq_ff, bq_tf, bq_ft, Int.toNat_natCast, fl_question_Keep, me_parts_Keep, me_image_Keep, added_eq, added_i, lesser_eq, lesser_i, flipped_eq, worth_eq, turned_eq, cell_eq, whole_int, lworth_eq, sum_eq, law_lies_eq])
local macro_rules | `(tactic| simp! [$ls,*]) => `(tactic| simp (disch := first | omega | assumption) only [e_run, e_seq, e_nil, e_sif, e_ret, e_exp, e_set, e_aug, e_asg, e_for, e_bin, e_binL, e_sl, e_onone, e_osome, e_fl, e_call, e_callO, e_cb, e_b, e_ib, e_c, e_anil, e_acons, e_val, e_neg, e_not, e_and, e_or, e_qand, e_qor, e_qnot, e_qyes, e_eif, e_tup, e_lst, e_isi, e_var0, e_varS0, e_varS0', e_var0i, e_varS, e_varSS, o_b2, o_bL, o_b3, o_b1, o_cons, o_val, o_neg, o_not, o_and1, o_and0, o_or1, o_or0, o_andB1, o_andB0, o_orB1, o_orB0, o_and, o_or, o_andB, o_orB, o_notB, o_if1, o_if0, o_ifB, o_int, o_set, o_aug, o_ret, o_exp, o_seq, o_seqR, o_seqB, o_seqC, o_seqI, o_runI, o_tup1, o_tup2, o_tup3, o_tup4, o_tup5, o_lst0, o_lst1, o_lst2, o_lst3, o_lst4, o_lst5, o_lst8, o_asg, o_for, o_runR, o_runN, bmap, rep0, repS, set0, setS, get0, getS, isva, isun, isv0, isv0u, ix_t0, ix_t1, ix_t2, ix_t3, ix_t4, ix_l0, ix_l1, chk_tup, chk_lst, fl_nil, fl_cons, f_int, f_bl, f_str, f_non, f_tup, f_lst, full_w, full_o, chk_int, chk_bl, chk_non, chk_str, chk_ints, isi_ii, isi_ib, isi_bb, isi_tt, isi_ll, add_ii, sub_ii, lt_ii, le_ii, gt_ii, ge_ii, eq_ii, ne_ii, eq_bb, ne_bb, isN_n, isN_i, notN_n, notN_i, len_scr, len_lst, len_tup, gnm, forL_cons, o_loopN, o_loopC, o_loopB, o_loopR, o_loopI, o_body, decide_true, decide_false, Bool.false_eq_true, eq_self, wipe_nil, wipe_cons, forL_nil, mod_ii, div_s, mul_l, mul_r, ix_scr, ix_ints, l_most, l_least, l_same, l_unlike, l_set, l_ask, l_need, l_claim, l_if, l_while, l_else, l_end, l_plain, l_go, l_keep, l_put, mEq_w, mNe_w, chk_w, isi_sw, isN_w, notN_w, chk_o, isN_o, notN_o, reduceCtorEq, Int.cast_ofNat_Int, Bool.not_not,  List.map_cons, List.map_nil, List.cons_append, List.nil_append, List.length_cons, List.length_nil, if_true, if_false, Bool.not_true, Bool.not_false, decide_eq_true_eq, Nat.add_zero, Nat.zero_add, Nat.reduceAdd, Nat.reduceSub, Nat.sub_self, Nat.add_sub_cancel, reduceIte, Bool.true_and, Bool.and_true, Bool.false_and, Bool.and_false, Bool.true_or, Bool.or_true, Bool.false_or, Bool.or_false, e_meth, e_methO, o_meth, e_mk, ix_tab, ix_line, len_tabD, len_line, isN_tb, notN_tb, isB_bb, notB_bb, itsS_ints, slF_scr, slL_scr, len_intsL, ix_intsL, chk_intsL, itsS_tab, itsS_line, e_thaw, o_thaw, e_retV, o_retV, itsS_lst, itsS_tup, setD0, setD0i, setDS, sld_va, sld_io, e_frz, o_frz, e_xC, o_xc_t, e_aIo, o_aio, e_sX, o_sx, e_retX, o_retx, e_tupV, o_tupV1, g_tp2, bnd, e_app, o_app, o_appI, o_app1, o_app2, o_app3, o_app4, o_lst6, o_lst7, o_lst9, o_lst10, o_lst11, o_lst12, o_lst16, o_tup6, o_tup7, o_tup8, e_appV, o_appV, chk_tab, chk_line, listF_line, listF_ints, isi_ln, isi_tb, rng1_eq, rng2_eq, oDs, oDn, Option.isSome_some, Option.isSome_none, Option.isNone_some, Option.isNone_none, isva_vS, isv0_vS, isva_vK, bq_tt, bq_ff, bq_tf, bq_ft, Int.toNat_natCast, fl_question_Keep, me_parts_Keep, me_image_Keep, added_eq, added_i, lesser_eq, lesser_i, flipped_eq, worth_eq, turned_eq, cell_eq, whole_int, lworth_eq, sum_eq, law_lies_eq, $ls,*])
theorem ok_sh (n : Nat) (s : Option Tb) : okD 2 (shD n s) := by
  cases s with
  | none => exact ok_non 2
  | some T => exact ok_tab
theorem nob_sh (n : Nat) (s : Option Tb) : nob (shD n s) = true := by
  cases s with
  | none => rfl
  | some T => exact nob_tab
theorem full_sides {l : List Sd} : fullL (l.map sdD) 0 = true := fullL_of fun d hd => by
  obtain ⟨s, _, rfl⟩ := List.mem_map.mp hd
  rfl
theorem list_sides (l : List Sd) : mListF (.lst (l.map sdD)) = some (.lst (l.map sdD)) := by
  show (if fullL (l.map sdD) 0 = true then _ else _) = _
  rw [if_pos full_sides]
theorem turn_four {w : Wd} (h : w = .most ∨ w = .least ∨ w = .same ∨ w = .unlike) : turnW w = .most ∨ turnW w = .least ∨ turnW w = .same ∨ turnW w = .unlike := by
  rcases h with rfl | rfl | rfl | rfl
  · exact .inr (.inl rfl)
  · exact .inl rfl
  · exact .inr (.inr (.inr rfl))
  · exact .inr (.inr (.inl rfl))
theorem law_true (ns : List Int) (h : ns.length ≤ 63) : m_law [.scr ns] = some (.bl true) := by
  unfold m_law g_law
  have c0 := cell_eq ns 0 (by omega)
  have c8 := cell_eq ns 8 (by omega)
  simp! [c0]
  have hN : ∃ n : Nat, (2 + cellV ns 0 % 2 : Int) = n ∧ 2 ≤ n ∧ n ≤ 3 := ⟨(2 + cellV ns 0 % 2).toNat, by omega, by omega, by omega⟩
  obtain ⟨n, en, n2, n3⟩ := hN
  rw [en]
  have hx : ∃ pt : List Int, c_law_1 [.va 0 (.scr ns), .va 0 (.int n), .un, .un, .un, .un, .un, .un, .un, .un, .un] = some (lstI pt) ∧ pt.length = n := by
    have hc := fun i : Nat => number_ex (cellV ns (1 + (i : Int)))
    refine ⟨(List.range n).map fun i : Nat => (hc i).choose, ?_, by rw [List.length_map, List.length_range]⟩
    unfold c_law_1 lstI
    rw [List.map_map]
    refine lc_map (fun (i : Nat) => D.int i) (fun i : Nat => D.int (hc i).choose) (List.range n) ?_ rfl (by rw [List.length_range]; omega) fun i hi => ⟨_, rfl, rfl, ?_⟩
    · simp! [rng1_eq n (by omega) (by omega)]
    · have c := cell_eq ns (1 + (i : Int)) (by omega)
      have hs := (hc i).choose_spec
      generalize (hc i).choose = x at hs ⊢
      simp! [c, hs]
  obtain ⟨pt, hpt, hl⟩ := hx
  have tm : mTuple (lstI pt) = some (tupI pt) := rfl
  have cpt := chk_ints pt 0
  unfold t_law_1
  simp! [hpt, tm, cpt]
  obtain ⟨lb, hb, okb, lenb⟩ := box_ex ns n (by omega) (by omega)
  obtain ⟨lm, hm, okm, lenm⟩ := more_ex ns pt (by omega) (by omega) h
  rw [hl] at okm
  have cat : mCat (.lst (lb.map sdD)) (.lst (lm.map sdD)) = some (.lst ((lb ++ lm).map sdD)) := by
    unfold mCat
    simp only
    rw [if_pos (by unfold lenOk; rw [List.length_map, List.length_map]; exact decide_eq_true (by omega)), List.map_append]
  have cch : chkL (.lst ((lb ++ lm).map sdD)) = some (.lst ((lb ++ lm).map sdD)) := by
    show (if fullL _ 0 = true then _ else _) = _
    rw [if_pos full_sides]
  have ok : ∀ d ∈ lb ++ lm, sdOk (2 * n) d := fun d hd => by
    rcases List.mem_append.mp hd with hd | hd
    · exact okb d hd
    · exact okm d hd
  obtain ⟨f, g, w, c, hq, hf, hg, hw⟩ := question_ex ns pt (by omega)
  rw [hl] at hf hg
  have cq := chk_q f g w c 0
  have cl := closed_eq n (lb ++ lm) (by omega) (by omega) ok
  have cl : m_closed [.int n, .lst ((lb ++ lm).map sdD)] = some (shD (2 * n) (closedF (2 * n) (lb ++ lm))) := cl
  have inS := closed_in ok
  have LS := closed_tightO ok
  obtain ⟨ps, hps, lps⟩ := points_ex ns pt (by omega)
  rw [hl] at lps
  generalize lb ++ lm = l at *
  generalize closedF (2 * n) l = S at *
  have okY : drOk n (.keep f g w c) := ⟨hf, hg, hw⟩
  have okN : drOk n (.keep f g (turnW w) (turnC w c)) := ⟨hf, hg, turn_four hw⟩
  have ht : ∀ s, wdHolds (turnW w) s (turnC w c) = !wdHolds w s c := fun s => turn_holds w s c hw
  have tu := turned_eq f g w c
  have cqN := chk_q f g (turnW w) (turnC w c) 0
  have mkY := o_mk "Keep" ["question"] [qD f g w c] (by cases g <;> rfl)
  have mkN := o_mk "Keep" ["question"] [qD f g (turnW w) (turnC w c)] (by cases g <;> rfl)
  have imY : me_image (.ob "Keep" ["question"] [qD f g w c]) [shD (2 * n) S] = some (shD (2 * n) (imageV n S (.keep f g w c))) := (me_image_Keep _ _).trans (keep_image n S f g w c (by omega) okY)
  have imN : me_image (.ob "Keep" ["question"] [qD f g (turnW w) (turnC w c)]) [shD (2 * n) S] = some (shD (2 * n) (imageV n S (.keep f g (turnW w) (turnC w c)))) := (me_image_Keep _ _).trans (keep_image n S f g (turnW w) (turnC w c) (by omega) okN)
  have pj := parts_join (by omega) LS okY okN ht
  have jn := join_eq (2 * n) (imageV n S (.keep f g w c)) (imageV n S (.keep f g (turnW w) (turnC w c))) (by omega)
  rw [pj] at jn
  have nlY := no_larger_eq n _ _ (by omega) (image_sub (by omega) LS okY)
  have nlN := no_larger_eq n _ _ (by omega) (image_sub (by omega) LS okN)
  have dl := dealt_eq n (imageV n S (.keep f g w c)) (imageV n S (.keep f g (turnW w) (turnC w c))) ps l f g w c (by omega) lps ok hf hg hw
    (fun p hp kp hh => image_in LS okY (x := 0) ((inS p).mpr ⟨hp, kp⟩) (by rw [keep_step, if_pos hh]))
    (fun p hp kp hh => image_in LS okN (x := 0) ((inS p).mpr ⟨hp, kp⟩) (by rw [keep_step, if_pos (by rw [ht, hh]; rfl)]))
  have i0 := Int.emod_nonneg (cellV ns 0 / 2) (show 2 * (n : Int) ≠ 0 by omega)
  have i1 := Int.emod_lt_of_pos (cellV ns 0 / 2) (show 0 < 2 * (n : Int) by omega)
  have j0 := Int.emod_nonneg (cellV ns 8 / 52) (show 2 * (n : Int) ≠ 0 by omega)
  have j1 := Int.emod_lt_of_pos (cellV ns 8 / 52) (show 0 < 2 * (n : Int) by omega)
  generalize hi : cellV ns 0 / 2 % (2 * (n : Int)) = i at *
  generalize hj : cellV ns 8 / 52 % (2 * (n : Int)) = j at *
  have ri : rg (2 * n) i := ⟨i0, by omega⟩
  have rj : rg (2 * n) j := ⟨j0, by omega⟩
  have jY : w ≠ .unlike → m_law_just [shD (2 * n) (imageV n S (.keep f g w c)), .lst (l.map sdD), qD f g w c, .bl true, .int n, .lst [.int i, .int j]] = some (.bl true) := fun hu => by
    refine just_eq n _ l f g w c i j true (by omega) (by omega) (image_tight LS okY) ok hf hg hw ri rj fun p hp => ?_
    obtain ⟨a, b⟩ := (one_case LS okY (by rcases hw with z | z | z | z <;> first | exact .inl z | exact .inr (.inl z) | exact .inr (.inr z) | exact (hu z).elim) p).mp hp
    exact ⟨((inS p).mp a).2, b⟩
  have jN : w ≠ .same → m_law_just [shD (2 * n) (imageV n S (.keep f g (turnW w) (turnC w c))), .lst (l.map sdD), qD f g w c, .bl false, .int n, .lst [.int i, .int j]] = some (.bl true) := fun hu => by
    refine just_eq n _ l f g w c i j false (by omega) (by omega) (image_tight LS okN) ok hf hg hw ri rj fun p hp => ?_
    obtain ⟨a, b⟩ := (one_case LS okN (by rcases hw with rfl | rfl | rfl | rfl <;> first | exact .inr (.inl rfl) | exact .inl rfl | exact (hu rfl).elim | exact .inr (.inr rfl)) p).mp hp
    rw [ht] at b
    exact ⟨((inS p).mp a).2, by simpa using b⟩
  have cp := copy_eq (2 * n) S (by omega)
  have ck := fun s => chk_sh (2 * n) s
  have qn := mNe_self (ok_sh (2 * n) S) (by decide) (nob_sh (2 * n) S)
  have q1 := mEq_self (ok_sh (2 * n) S) (by decide) (nob_sh (2 * n) S)
  have w2 : mIx (qD f g w c) (.int 2) = some (wD w) := rfl
  generalize imageV n S (.keep f g w c) = Y at *
  generalize imageV n S (.keep f g (turnW w) (turnC w c)) = N at *
  generalize hqd : qD f g w c = q at *
  generalize hqn : qD f g (turnW w) (turnC w c) = qN at *
  unfold t_law_2
  simp! [hb, hm, cat, cch]
  unfold t_law_3
  simp! [hq, cq]
  unfold t_law_4
  simp! [list_sides, cl, ck]
  unfold t_law_5
  simp! [cp, ck]
  unfold t_law_6
  simp! [mkY, imY, ck]
  unfold t_law_7
  simp! [tu, mkN, imN, ck]
  unfold t_law_8
  simp! [jn, qn, nlY, nlN]
  unfold t_law_9
  simp! [hps, dl]
  unfold t_law_10
  simp! [c0, c8, hi, hj]
  unfold t_law_11
  have last : orun (t_law_12 [.va 0 (.scr ns), .va 0 (.int n), .va 0 (tupI pt), .va 0 (.lst (l.map sdD)), .va 0 q, .va 0 (shD (2 * n) S), .va 0 (shD (2 * n) S), .va 0 (shD (2 * n) Y), .va 0 (shD (2 * n) N), .va 0 (.lst [.int i, .int j]), .un]) = some (.bl true) := by
    unfold t_law_12 t_law_13
    by_cases hu : w = .same
    · simp! [w2, hu, q1]
    · simp! [w2, hu, jN hu, q1]
  by_cases hu : w = .unlike
  · simp! [w2, hu]
    exact last
  · simp! [w2, hu, jY hu]
    exact last

end K28
namespace K28
open PySem PySem.Spec PyProof.Rows L2 FL
def topS (i : Nat) : Stmt := PySem.Challenge.pw_eightsides_k28_questions_part.main.body.getD i (.Pass ⟨0, 0, 0, 0⟩)
abbrev s_added : Stmt := topS 2
def N_added : List Str := ["one", "other"]
theorem sc_added : FnScope ["one", "other"] ["one", "other"] (defScope s_added) := ⟨rfl, rfl, rfl, by decide +kernel, rfl, by decide +kernel, by decide +kernel⟩
abbrev s_lesser : Stmt := topS 3
def N_lesser : List Str := ["one", "other"]
theorem sc_lesser : FnScope ["one", "other"] ["one", "other"] (defScope s_lesser) := ⟨rfl, rfl, rfl, by decide +kernel, rfl, by decide +kernel, by decide +kernel⟩
abbrev s_flipped : Stmt := topS 5
def N_flipped : List Str := ["f"]
theorem sc_flipped : FnScope ["f"] ["f"] (defScope s_flipped) := ⟨rfl, rfl, rfl, by decide +kernel, rfl, by decide +kernel, by decide +kernel⟩
abbrev s_worth : Stmt := topS 6
def N_worth : List Str := ["point", "f"]
theorem sc_worth : FnScope ["point", "f"] ["point", "f"] (defScope s_worth) := ⟨rfl, rfl, rfl, by decide +kernel, rfl, by decide +kernel, by decide +kernel⟩
abbrev s_wide : Stmt := topS 8
def N_wide : List Str := ["count", "table", "f", "line", "g"]
theorem sc_wide : FnScope ["count", "table", "f", "line", "g"] ["count"] (defScope s_wide) := ⟨rfl, rfl, rfl, by decide +kernel, rfl, by decide +kernel, by decide +kernel⟩
abbrev s_copied : Stmt := topS 9
def N_copied : List Str := ["table", "line"]
theorem sc_copied : FnScope ["table", "line"] ["table"] (defScope s_copied) := ⟨rfl, rfl, rfl, by decide +kernel, rfl, by decide +kernel, by decide +kernel⟩
abbrev s_led : Stmt := topS 10
def N_led : List Str := ["table", "f", "g", "number", "back", "come", "line", "once", "twice"]
theorem sc_led : FnScope ["table", "f", "g", "number", "back", "come", "line", "once", "twice"] ["table", "f", "g", "number"] (defScope s_led) := ⟨rfl, rfl, rfl, by decide +kernel, rfl, by decide +kernel, by decide +kernel⟩
abbrev s_relinked : Stmt := topS 11
def N_relinked : List Str := ["table", "side", "f", "g", "to_g", "to_f", "behind_g", "behind_f", "come", "i", "line", "j", "through"]
theorem sc_relinked : FnScope ["table", "side", "f", "g", "to_g", "to_f", "behind_g", "behind_f", "come", "i", "line", "j", "through"] ["table", "side"] (defScope s_relinked) := ⟨rfl, rfl, rfl, by decide +kernel, rfl, by decide +kernel, by decide +kernel⟩
abbrev s_halve : Stmt := topS 12
def N_halve : List Str := ["table", "f"]
theorem sc_halve : FnScope ["table", "f"] ["table"] (defScope s_halve) := ⟨rfl, rfl, rfl, by decide +kernel, rfl, by decide +kernel, by decide +kernel⟩
abbrev s_has_none : Stmt := topS 13
def N_has_none : List Str := ["table", "f", "there", "back"]
theorem sc_has_none : FnScope ["table", "f", "there", "back"] ["table"] (defScope s_has_none) := ⟨rfl, rfl, rfl, by decide +kernel, rfl, by decide +kernel, by decide +kernel⟩
abbrev s_strengthen : Stmt := topS 14
def N_strengthen : List Str := ["table", "f", "g", "twice"]
theorem sc_strengthen : FnScope ["table", "f", "g", "twice"] ["table"] (defScope s_strengthen) := ⟨rfl, rfl, rfl, by decide +kernel, rfl, by decide +kernel, by decide +kernel⟩
abbrev s_held : Stmt := topS 15
def N_held : List Str := ["shape", "side", "told", "back", "table"]
theorem sc_held : FnScope ["shape", "side", "told", "back", "table"] ["shape", "side"] (defScope s_held) := ⟨rfl, rfl, rfl, by decide +kernel, rfl, by decide +kernel, by decide +kernel⟩
abbrev s_closed : Stmt := topS 16
def N_closed : List Str := ["count", "sides", "shape", "side"]
theorem sc_closed : FnScope ["count", "sides", "shape", "side"] ["count", "sides"] (defScope s_closed) := ⟨rfl, rfl, rfl, by decide +kernel, rfl, by decide +kernel, by decide +kernel⟩
abbrev s_halved_entry : Stmt := topS 18
def N_halved_entry : List Str := ["entry"]
theorem sc_halved_entry : FnScope ["entry"] ["entry"] (defScope s_halved_entry) := ⟨rfl, rfl, rfl, by decide +kernel, rfl, by decide +kernel, by decide +kernel⟩
abbrev s_top_beside : Stmt := topS 19
def N_top_beside : List Str := ["shape", "f", "point", "known", "top", "k", "g"]
theorem sc_top_beside : FnScope ["shape", "f", "point", "known", "top", "k", "g"] ["shape", "f", "point", "known"] (defScope s_top_beside) := ⟨rfl, rfl, rfl, by decide +kernel, rfl, by decide +kernel, by decide +kernel⟩
abbrev s_some_point : Stmt := topS 20
def N_some_point : List Str := ["shape", "point", "k", "high", "low", "number"]
theorem sc_some_point : FnScope ["shape", "point", "k", "high", "low", "number"] ["shape"] (defScope s_some_point) := ⟨rfl, rfl, rfl, by decide +kernel, rfl, by decide +kernel, by decide +kernel⟩
abbrev s_greatest_of_three : Stmt := topS 21
def N_greatest_of_three : List Str := ["shape", "f", "g", "h", "best", "around"]
theorem sc_greatest_of_three : FnScope ["shape", "f", "g", "h", "best", "around"] ["shape", "f", "g", "h"] (defScope s_greatest_of_three) := ⟨rfl, rfl, rfl, by decide +kernel, rfl, by decide +kernel, by decide +kernel⟩
abbrev s_greatest : Stmt := topS 22
def N_greatest : List Str := ["shape", "forms"]
theorem sc_greatest : FnScope ["shape", "forms"] ["shape", "forms"] (defScope s_greatest) := ⟨rfl, rfl, rfl, by decide +kernel, rfl, by decide +kernel, by decide +kernel⟩
abbrev s_least_for : Stmt := topS 23
def N_least_for : List Str := ["slope", "entries", "number", "some", "entry"]
theorem sc_least_for : FnScope ["slope", "entries", "number", "some", "entry"] ["slope", "entries", "number"] (defScope s_least_for) := ⟨rfl, rfl, rfl, by decide +kernel, rfl, by decide +kernel, by decide +kernel⟩
abbrev s_pinned : Stmt := topS 24
def N_pinned : List Str := ["shape", "f", "g", "h", "number", "back", "top", "falling", "low", "z"]
theorem sc_pinned : FnScope ["shape", "f", "g", "h", "number", "back", "top", "falling", "low", "z"] ["shape", "f", "g", "h", "number"] (defScope s_pinned) := ⟨rfl, rfl, rfl, by decide +kernel, rfl, by decide +kernel, by decide +kernel⟩
abbrev s_reaching_three : Stmt := topS 25
def N_reaching_three : List Str := ["shape", "f", "g", "h", "number", "z", "part"]
theorem sc_reaching_three : FnScope ["shape", "f", "g", "h", "number", "z", "part"] ["shape", "f", "g", "h", "number"] (defScope s_reaching_three) := ⟨rfl, rfl, rfl, by decide +kernel, rfl, by decide +kernel, by decide +kernel⟩
abbrev s_reaching : Stmt := topS 26
def N_reaching : List Str := ["shape", "forms", "number", "top"]
theorem sc_reaching : FnScope ["shape", "forms", "number", "top"] ["shape", "forms", "number"] (defScope s_reaching) := ⟨rfl, rfl, rfl, by decide +kernel, rfl, by decide +kernel, by decide +kernel⟩
abbrev s_joined_line : Stmt := topS 28
def N_joined_line : List Str := ["one", "other", "line", "a", "b"]
theorem sc_joined_line : FnScope ["one", "other", "line", "a", "b"] ["one", "other"] (defScope s_joined_line) := ⟨rfl, rfl, rfl, by decide +kernel, rfl, by decide +kernel, by decide +kernel⟩
abbrev s_join : Stmt := topS 29
def N_join : List Str := ["one", "other", "a", "b"]
theorem sc_join : FnScope ["one", "other", "a", "b"] ["one", "other"] (defScope s_join) := ⟨rfl, rfl, rfl, by decide +kernel, rfl, by decide +kernel, by decide +kernel⟩
abbrev s_turned : Stmt := topS 31
def N_turned : List Str := ["question", "word"]
theorem sc_turned : FnScope ["question", "word"] ["question"] (defScope s_turned) := ⟨rfl, rfl, rfl, by decide +kernel, rfl, by decide +kernel, by decide +kernel⟩
abbrev s_below : Stmt := topS 32
def N_below : List Str := ["f", "g", "number"]
theorem sc_below : FnScope ["f", "g", "number"] ["f", "g", "number"] (defScope s_below) := ⟨rfl, rfl, rfl, by decide +kernel, rfl, by decide +kernel, by decide +kernel⟩
abbrev s_above : Stmt := topS 33
def N_above : List Str := ["f", "g", "number"]
theorem sc_above : FnScope ["f", "g", "number"] ["f", "g", "number"] (defScope s_above) := ⟨rfl, rfl, rfl, by decide +kernel, rfl, by decide +kernel, by decide +kernel⟩
abbrev s_cases : Stmt := topS 34
def N_cases : List Str := ["question", "f", "g", "word", "number"]
theorem sc_cases : FnScope ["question", "f", "g", "word", "number"] ["question"] (defScope s_cases) := ⟨rfl, rfl, rfl, by decide +kernel, rfl, by decide +kernel, by decide +kernel⟩
abbrev s_law_cell : Stmt := topS 39
def N_law_cell : List Str := ["_law_script", "_law_k", "_law_seed", "_law_some"]
theorem sc_law_cell : FnScope ["_law_script", "_law_k", "_law_seed", "_law_some"] ["_law_script", "_law_k"] (defScope s_law_cell) := ⟨rfl, rfl, rfl, by decide +kernel, rfl, by decide +kernel, by decide +kernel⟩
abbrev s_law_whole : Stmt := topS 40
def N_law_whole : List Str := ["_law_found"]
theorem sc_law_whole : FnScope ["_law_found"] ["_law_found"] (defScope s_law_whole) := ⟨rfl, rfl, rfl, by decide +kernel, rfl, by decide +kernel, by decide +kernel⟩
abbrev s_law_worth : Stmt := topS 41
def N_law_worth : List Str := ["_law_point", "_law_f"]
theorem sc_law_worth : FnScope ["_law_point", "_law_f"] ["_law_point", "_law_f"] (defScope s_law_worth) := ⟨rfl, rfl, rfl, by decide +kernel, rfl, by decide +kernel, by decide +kernel⟩
abbrev s_law_sum : Stmt := topS 42
def N_law_sum : List Str := ["_law_point", "_law_forms", "_law_some", "_law_f"]
theorem sc_law_sum : FnScope ["_law_point", "_law_forms", "_law_some", "_law_f"] ["_law_point", "_law_forms"] (defScope s_law_sum) := ⟨rfl, rfl, rfl, by decide +kernel, rfl, by decide +kernel, by decide +kernel⟩
abbrev s_law_keeps : Stmt := topS 43
def N_law_keeps : List Str := ["_law_point", "_law_sides", "_law_side"]
theorem sc_law_keeps : FnScope ["_law_point", "_law_sides", "_law_side"] ["_law_point", "_law_sides"] (defScope s_law_keeps) := ⟨rfl, rfl, rfl, by decide +kernel, rfl, by decide +kernel, by decide +kernel⟩
abbrev s_law_point_like : Stmt := topS 44
def N_law_point_like : List Str := ["_law_found", "_law_count", "_law_part"]
theorem sc_law_point_like : FnScope ["_law_found", "_law_count", "_law_part"] ["_law_found", "_law_count"] (defScope s_law_point_like) := ⟨rfl, rfl, rfl, by decide +kernel, rfl, by decide +kernel, by decide +kernel⟩
abbrev s_law_copy : Stmt := topS 45
def N_law_copy : List Str := ["_law_shape", "_law_line"]
theorem sc_law_copy : FnScope ["_law_shape", "_law_line"] ["_law_shape"] (defScope s_law_copy) := ⟨rfl, rfl, rfl, by decide +kernel, rfl, by decide +kernel, by decide +kernel⟩
abbrev s_law_lies : Stmt := topS 46
def N_law_lies : List Str := ["_law_table", "_law_point", "_law_f", "_law_g", "_law_entry"]
theorem sc_law_lies : FnScope ["_law_table", "_law_point", "_law_f", "_law_g", "_law_entry"] ["_law_table", "_law_point"] (defScope s_law_lies) := ⟨rfl, rfl, rfl, by decide +kernel, rfl, by decide +kernel, by decide +kernel⟩
abbrev s_law_holds : Stmt := topS 47
def N_law_holds : List Str := ["_law_point", "_law_question_here", "_law_some"]
theorem sc_law_holds : FnScope ["_law_point", "_law_question_here", "_law_some"] ["_law_point", "_law_question_here"] (defScope s_law_holds) := ⟨rfl, rfl, rfl, by decide +kernel, rfl, by decide +kernel, by decide +kernel⟩
abbrev s_law_number : Stmt := topS 48
def N_law_number : List Str := ["_law_cell_here"]
theorem sc_law_number : FnScope ["_law_cell_here"] ["_law_cell_here"] (defScope s_law_number) := ⟨rfl, rfl, rfl, by decide +kernel, rfl, by decide +kernel, by decide +kernel⟩
abbrev s_law_box : Stmt := topS 49
def N_law_box : List Str := ["_law_script", "_law_count", "_law_sides", "_law_k", "_law_cell_here", "_law_low"]
theorem sc_law_box : FnScope ["_law_script", "_law_count", "_law_sides", "_law_k", "_law_cell_here", "_law_low"] ["_law_script", "_law_count"] (defScope s_law_box) := ⟨rfl, rfl, rfl, by decide +kernel, rfl, by decide +kernel, by decide +kernel⟩
abbrev s_law_more : Stmt := topS 50
def N_law_more : List Str := ["_law_script", "_law_corner", "_law_count", "_law_cells", "_law_sides", "_law_cell_here", "_law_f", "_law_g", "_law_k"]
theorem sc_law_more : FnScope ["_law_script", "_law_corner", "_law_count", "_law_cells", "_law_sides", "_law_cell_here", "_law_f", "_law_g", "_law_k"] ["_law_script", "_law_corner"] (defScope s_law_more) := ⟨rfl, rfl, rfl, by decide +kernel, rfl, by decide +kernel, by decide +kernel⟩
abbrev s_law_points : Stmt := topS 51
def N_law_points : List Str := ["_law_script", "_law_corner", "_law_points_here", "_law_k", "_law_cell_here", "_law_j"]
theorem sc_law_points : FnScope ["_law_script", "_law_corner", "_law_points_here", "_law_k", "_law_cell_here", "_law_j"] ["_law_script", "_law_corner"] (defScope s_law_points) := ⟨rfl, rfl, rfl, by decide +kernel, rfl, by decide +kernel, by decide +kernel⟩
abbrev s_law_question : Stmt := topS 52
def N_law_question : List Str := ["_law_script", "_law_corner", "_law_cell_here", "_law_f", "_law_g", "_law_number_here"]
theorem sc_law_question : FnScope ["_law_script", "_law_corner", "_law_cell_here", "_law_f", "_law_g", "_law_number_here"] ["_law_script", "_law_corner"] (defScope s_law_question) := ⟨rfl, rfl, rfl, by decide +kernel, rfl, by decide +kernel, by decide +kernel⟩
abbrev s_law_no_larger : Stmt := topS 53
def N_law_no_larger : List Str := ["_law_one", "_law_shape", "_law_a", "_law_b", "_law_entry", "_law_top"]
theorem sc_law_no_larger : FnScope ["_law_one", "_law_shape", "_law_a", "_law_b", "_law_entry", "_law_top"] ["_law_one", "_law_shape"] (defScope s_law_no_larger) := ⟨rfl, rfl, rfl, by decide +kernel, rfl, by decide +kernel, by decide +kernel⟩
abbrev s_law_just : Stmt := topS 54
def N_law_just : List Str := ["_law_one", "_law_sides", "_law_question_here", "_law_there", "_law_count", "_law_pair", "_law_number_here", "_law_found"]
theorem sc_law_just : FnScope ["_law_one", "_law_sides", "_law_question_here", "_law_there", "_law_count", "_law_pair", "_law_number_here", "_law_found"] ["_law_one", "_law_sides", "_law_question_here", "_law_there", "_law_count", "_law_pair"] (defScope s_law_just) := ⟨rfl, rfl, rfl, by decide +kernel, rfl, by decide +kernel, by decide +kernel⟩
abbrev s_law_dealt : Stmt := topS 55
def N_law_dealt : List Str := ["_law_yes", "_law_no", "_law_points_here", "_law_sides", "_law_question_here", "_law_point", "_law_part"]
theorem sc_law_dealt : FnScope ["_law_yes", "_law_no", "_law_points_here", "_law_sides", "_law_question_here", "_law_point", "_law_part"] ["_law_yes", "_law_no", "_law_points_here", "_law_sides", "_law_question_here"] (defScope s_law_dealt) := ⟨rfl, rfl, rfl, by decide +kernel, rfl, by decide +kernel, by decide +kernel⟩
abbrev s_Keep_parts : Stmt := inClass (topS 37) 1
def N_Keep_parts : List Str := ["self", "shape", "some", "case", "part", "side"]
theorem sc_Keep_parts : FnScope ["self", "shape", "some", "case", "part", "side"] ["self", "shape"] (defScope s_Keep_parts) := ⟨rfl, rfl, rfl, by decide +kernel, rfl, by decide +kernel, by decide +kernel⟩
abbrev s_Keep_image : Stmt := inClass (topS 37) 3
def N_Keep_image : List Str := ["self", "shape", "come", "part"]
theorem sc_Keep_image : FnScope ["self", "shape", "come", "part"] ["self", "shape"] (defScope s_Keep_image) := ⟨rfl, rfl, rfl, by decide +kernel, rfl, by decide +kernel, by decide +kernel⟩
abbrev s_law : Stmt := topS 56
def N_law : List Str := ["_law_script", "_law_count", "_law_corner", "_law_sides", "_law_question_here", "_law_shape", "_law_kept", "_law_yes", "_law_no", "_law_pair", "_law_k"]
theorem sc_law : FnScope ["_law_script", "_law_count", "_law_corner", "_law_sides", "_law_question_here", "_law_shape", "_law_kept", "_law_yes", "_law_no", "_law_pair", "_law_k"] ["_law_script"] (defScope s_law) := ⟨rfl, rfl, rfl, by decide +kernel, rfl, by decide +kernel, by decide +kernel⟩
abbrev s_Keep_init : Stmt := inClass (topS 37) 0
theorem sc_Keep_init : FnScope ["self", "question"] ["self", "question"] (defScope s_Keep_init) := ⟨rfl, rfl, rfl, by decide +kernel, rfl, by decide +kernel, by decide +kernel⟩
structure Txt (K : PySem.W.Frag) (mg : Str → Option Value) where
  a_added : Addr
  d_added : FuncData
  F_added : Fun K "added" "added" s_added a_added d_added
  g_added : mg "added" = some (.ref a_added)
  b_added : Binds K d_added ["one", "other"] []
  a_lesser : Addr
  d_lesser : FuncData
  F_lesser : Fun K "lesser" "lesser" s_lesser a_lesser d_lesser
  g_lesser : mg "lesser" = some (.ref a_lesser)
  b_lesser : Binds K d_lesser ["one", "other"] []
  a_flipped : Addr
  d_flipped : FuncData
  F_flipped : Fun K "flipped" "flipped" s_flipped a_flipped d_flipped
  g_flipped : mg "flipped" = some (.ref a_flipped)
  b_flipped : Binds K d_flipped ["f"] []
  a_worth : Addr
  d_worth : FuncData
  F_worth : Fun K "worth" "worth" s_worth a_worth d_worth
  g_worth : mg "worth" = some (.ref a_worth)
  b_worth : Binds K d_worth ["point", "f"] []
  a_wide : Addr
  d_wide : FuncData
  F_wide : Fun K "wide" "wide" s_wide a_wide d_wide
  g_wide : mg "wide" = some (.ref a_wide)
  b_wide : Binds K d_wide ["count"] []
  a_copied : Addr
  d_copied : FuncData
  F_copied : Fun K "copied" "copied" s_copied a_copied d_copied
  g_copied : mg "copied" = some (.ref a_copied)
  b_copied : Binds K d_copied ["table"] []
  a_led : Addr
  d_led : FuncData
  F_led : Fun K "led" "led" s_led a_led d_led
  g_led : mg "led" = some (.ref a_led)
  b_led : Binds K d_led ["table", "f", "g", "number"] []
  a_relinked : Addr
  d_relinked : FuncData
  F_relinked : Fun K "relinked" "relinked" s_relinked a_relinked d_relinked
  g_relinked : mg "relinked" = some (.ref a_relinked)
  b_relinked : Binds K d_relinked ["table", "side"] []
  a_halve : Addr
  d_halve : FuncData
  F_halve : Fun K "halve" "halve" s_halve a_halve d_halve
  g_halve : mg "halve" = some (.ref a_halve)
  b_halve : Binds K d_halve ["table"] []
  a_has_none : Addr
  d_has_none : FuncData
  F_has_none : Fun K "has_none" "has_none" s_has_none a_has_none d_has_none
  g_has_none : mg "has_none" = some (.ref a_has_none)
  b_has_none : Binds K d_has_none ["table"] []
  a_strengthen : Addr
  d_strengthen : FuncData
  F_strengthen : Fun K "strengthen" "strengthen" s_strengthen a_strengthen d_strengthen
  g_strengthen : mg "strengthen" = some (.ref a_strengthen)
  b_strengthen : Binds K d_strengthen ["table"] []
  a_held : Addr
  d_held : FuncData
  F_held : Fun K "held" "held" s_held a_held d_held
  g_held : mg "held" = some (.ref a_held)
  b_held : Binds K d_held ["shape", "side"] []
  a_closed : Addr
  d_closed : FuncData
  F_closed : Fun K "closed" "closed" s_closed a_closed d_closed
  g_closed : mg "closed" = some (.ref a_closed)
  b_closed : Binds K d_closed ["count", "sides"] []
  a_halved_entry : Addr
  d_halved_entry : FuncData
  F_halved_entry : Fun K "halved_entry" "halved_entry" s_halved_entry a_halved_entry d_halved_entry
  g_halved_entry : mg "halved_entry" = some (.ref a_halved_entry)
  b_halved_entry : Binds K d_halved_entry ["entry"] []
  a_top_beside : Addr
  d_top_beside : FuncData
  F_top_beside : Fun K "top_beside" "top_beside" s_top_beside a_top_beside d_top_beside
  g_top_beside : mg "top_beside" = some (.ref a_top_beside)
  b_top_beside : Binds K d_top_beside ["shape", "f", "point", "known"] []
  a_some_point : Addr
  d_some_point : FuncData
  F_some_point : Fun K "some_point" "some_point" s_some_point a_some_point d_some_point
  g_some_point : mg "some_point" = some (.ref a_some_point)
  b_some_point : Binds K d_some_point ["shape"] []
  a_greatest_of_three : Addr
  d_greatest_of_three : FuncData
  F_greatest_of_three : Fun K "greatest_of_three" "greatest_of_three" s_greatest_of_three a_greatest_of_three d_greatest_of_three
  g_greatest_of_three : mg "greatest_of_three" = some (.ref a_greatest_of_three)
  b_greatest_of_three : Binds K d_greatest_of_three ["shape", "f", "g", "h"] []
  a_greatest : Addr
  d_greatest : FuncData
  F_greatest : Fun K "greatest" "greatest" s_greatest a_greatest d_greatest
  g_greatest : mg "greatest" = some (.ref a_greatest)
  b_greatest : Binds K d_greatest ["shape", "forms"] []
  a_least_for : Addr
  d_least_for : FuncData
  F_least_for : Fun K "least_for" "least_for" s_least_for a_least_for d_least_for
  g_least_for : mg "least_for" = some (.ref a_least_for)
  b_least_for : Binds K d_least_for ["slope", "entries", "number"] []
  a_pinned : Addr
  d_pinned : FuncData
  F_pinned : Fun K "pinned" "pinned" s_pinned a_pinned d_pinned
  g_pinned : mg "pinned" = some (.ref a_pinned)
  b_pinned : Binds K d_pinned ["shape", "f", "g", "h", "number"] []
  a_reaching_three : Addr
  d_reaching_three : FuncData
  F_reaching_three : Fun K "reaching_three" "reaching_three" s_reaching_three a_reaching_three d_reaching_three
  g_reaching_three : mg "reaching_three" = some (.ref a_reaching_three)
  b_reaching_three : Binds K d_reaching_three ["shape", "f", "g", "h", "number"] []
  a_reaching : Addr
  d_reaching : FuncData
  F_reaching : Fun K "reaching" "reaching" s_reaching a_reaching d_reaching
  g_reaching : mg "reaching" = some (.ref a_reaching)
  b_reaching : Binds K d_reaching ["shape", "forms", "number"] []
  a_joined_line : Addr
  d_joined_line : FuncData
  F_joined_line : Fun K "joined_line" "joined_line" s_joined_line a_joined_line d_joined_line
  g_joined_line : mg "joined_line" = some (.ref a_joined_line)
  b_joined_line : Binds K d_joined_line ["one", "other"] []
  a_join : Addr
  d_join : FuncData
  F_join : Fun K "join" "join" s_join a_join d_join
  g_join : mg "join" = some (.ref a_join)
  b_join : Binds K d_join ["one", "other"] []
  a_turned : Addr
  d_turned : FuncData
  F_turned : Fun K "turned" "turned" s_turned a_turned d_turned
  g_turned : mg "turned" = some (.ref a_turned)
  b_turned : Binds K d_turned ["question"] []
  a_below : Addr
  d_below : FuncData
  F_below : Fun K "below" "below" s_below a_below d_below
  g_below : mg "below" = some (.ref a_below)
  b_below : Binds K d_below ["f", "g", "number"] []
  a_above : Addr
  d_above : FuncData
  F_above : Fun K "above" "above" s_above a_above d_above
  g_above : mg "above" = some (.ref a_above)
  b_above : Binds K d_above ["f", "g", "number"] []
  a_cases : Addr
  d_cases : FuncData
  F_cases : Fun K "cases" "cases" s_cases a_cases d_cases
  g_cases : mg "cases" = some (.ref a_cases)
  b_cases : Binds K d_cases ["question"] []
  a_law_cell : Addr
  d_law_cell : FuncData
  F_law_cell : Fun K "_law_cell" "_law_cell" s_law_cell a_law_cell d_law_cell
  g_law_cell : mg "_law_cell" = some (.ref a_law_cell)
  b_law_cell : Binds K d_law_cell ["_law_script", "_law_k"] []
  a_law_whole : Addr
  d_law_whole : FuncData
  F_law_whole : Fun K "_law_whole" "_law_whole" s_law_whole a_law_whole d_law_whole
  g_law_whole : mg "_law_whole" = some (.ref a_law_whole)
  b_law_whole : Binds K d_law_whole ["_law_found"] []
  a_law_worth : Addr
  d_law_worth : FuncData
  F_law_worth : Fun K "_law_worth" "_law_worth" s_law_worth a_law_worth d_law_worth
  g_law_worth : mg "_law_worth" = some (.ref a_law_worth)
  b_law_worth : Binds K d_law_worth ["_law_point", "_law_f"] []
  a_law_sum : Addr
  d_law_sum : FuncData
  F_law_sum : Fun K "_law_sum" "_law_sum" s_law_sum a_law_sum d_law_sum
  g_law_sum : mg "_law_sum" = some (.ref a_law_sum)
  b_law_sum : Binds K d_law_sum ["_law_point", "_law_forms"] []
  a_law_keeps : Addr
  d_law_keeps : FuncData
  F_law_keeps : Fun K "_law_keeps" "_law_keeps" s_law_keeps a_law_keeps d_law_keeps
  g_law_keeps : mg "_law_keeps" = some (.ref a_law_keeps)
  b_law_keeps : Binds K d_law_keeps ["_law_point", "_law_sides"] []
  a_law_point_like : Addr
  d_law_point_like : FuncData
  F_law_point_like : Fun K "_law_point_like" "_law_point_like" s_law_point_like a_law_point_like d_law_point_like
  g_law_point_like : mg "_law_point_like" = some (.ref a_law_point_like)
  b_law_point_like : Binds K d_law_point_like ["_law_found", "_law_count"] []
  a_law_copy : Addr
  d_law_copy : FuncData
  F_law_copy : Fun K "_law_copy" "_law_copy" s_law_copy a_law_copy d_law_copy
  g_law_copy : mg "_law_copy" = some (.ref a_law_copy)
  b_law_copy : Binds K d_law_copy ["_law_shape"] []
  a_law_lies : Addr
  d_law_lies : FuncData
  F_law_lies : Fun K "_law_lies" "_law_lies" s_law_lies a_law_lies d_law_lies
  g_law_lies : mg "_law_lies" = some (.ref a_law_lies)
  b_law_lies : Binds K d_law_lies ["_law_table", "_law_point"] []
  a_law_holds : Addr
  d_law_holds : FuncData
  F_law_holds : Fun K "_law_holds" "_law_holds" s_law_holds a_law_holds d_law_holds
  g_law_holds : mg "_law_holds" = some (.ref a_law_holds)
  b_law_holds : Binds K d_law_holds ["_law_point", "_law_question_here"] []
  a_law_number : Addr
  d_law_number : FuncData
  F_law_number : Fun K "_law_number" "_law_number" s_law_number a_law_number d_law_number
  g_law_number : mg "_law_number" = some (.ref a_law_number)
  b_law_number : Binds K d_law_number ["_law_cell_here"] []
  a_law_box : Addr
  d_law_box : FuncData
  F_law_box : Fun K "_law_box" "_law_box" s_law_box a_law_box d_law_box
  g_law_box : mg "_law_box" = some (.ref a_law_box)
  b_law_box : Binds K d_law_box ["_law_script", "_law_count"] []
  a_law_more : Addr
  d_law_more : FuncData
  F_law_more : Fun K "_law_more" "_law_more" s_law_more a_law_more d_law_more
  g_law_more : mg "_law_more" = some (.ref a_law_more)
  b_law_more : Binds K d_law_more ["_law_script", "_law_corner"] []
  a_law_points : Addr
  d_law_points : FuncData
  F_law_points : Fun K "_law_points" "_law_points" s_law_points a_law_points d_law_points
  g_law_points : mg "_law_points" = some (.ref a_law_points)
  b_law_points : Binds K d_law_points ["_law_script", "_law_corner"] []
  a_law_question : Addr
  d_law_question : FuncData
  F_law_question : Fun K "_law_question" "_law_question" s_law_question a_law_question d_law_question
  g_law_question : mg "_law_question" = some (.ref a_law_question)
  b_law_question : Binds K d_law_question ["_law_script", "_law_corner"] []
  a_law_no_larger : Addr
  d_law_no_larger : FuncData
  F_law_no_larger : Fun K "_law_no_larger" "_law_no_larger" s_law_no_larger a_law_no_larger d_law_no_larger
  g_law_no_larger : mg "_law_no_larger" = some (.ref a_law_no_larger)
  b_law_no_larger : Binds K d_law_no_larger ["_law_one", "_law_shape"] []
  a_law_just : Addr
  d_law_just : FuncData
  F_law_just : Fun K "_law_just" "_law_just" s_law_just a_law_just d_law_just
  g_law_just : mg "_law_just" = some (.ref a_law_just)
  b_law_just : Binds K d_law_just ["_law_one", "_law_sides", "_law_question_here", "_law_there", "_law_count", "_law_pair"] []
  a_law_dealt : Addr
  d_law_dealt : FuncData
  F_law_dealt : Fun K "_law_dealt" "_law_dealt" s_law_dealt a_law_dealt d_law_dealt
  g_law_dealt : mg "_law_dealt" = some (.ref a_law_dealt)
  b_law_dealt : Binds K d_law_dealt ["_law_yes", "_law_no", "_law_points_here", "_law_sides", "_law_question_here"] []
  a_Keep_parts : Addr
  d_Keep_parts : FuncData
  F_Keep_parts : Fun K "parts" "Keep.parts" s_Keep_parts a_Keep_parts d_Keep_parts
  b_Keep_parts : Binds K d_Keep_parts ["self", "shape"] []
  a_Keep_image : Addr
  d_Keep_image : FuncData
  F_Keep_image : Fun K "image" "Keep.image" s_Keep_image a_Keep_image d_Keep_image
  b_Keep_image : Binds K d_Keep_image ["self", "shape"] []
  a_law : Addr
  d_law : FuncData
  F_law : Fun K "law" "law" s_law a_law d_law
  g_law : mg "law" = some (.ref a_law)
  b_law : Binds K d_law ["_law_script"] []
  m_bool : mg "bool" = none
  m_int : mg "int" = none
  m_isinstance : mg "isinstance" = none
  m_len : mg "len" = none
  m_list : mg "list" = none
  m_max : mg "max" = none
  m_range : mg "range" = none
  m_tuple : mg "tuple" = none
  m_zip : mg "zip" = none
  c_Keep : Addr
  n_Keep : PySem.W.nsIn K mainGlobals "Keep" = some (some (.ref c_Keep))
  g_Keep : mg "Keep" = some (.ref c_Keep)
  K_Keep : Cls K c_Keep
  N_Keep : ∀ f ∈ (["question"] : List Str), NoAttr K c_Keep f
  M_Keep_image : Meth K c_Keep "image" a_Keep_image
  M_Keep_parts : Meth K c_Keep "parts" a_Keep_parts
  a_Keep_init : Addr
  d_Keep_init : FuncData
  F_Keep_init : Fun K "__init__" "Keep.__init__" s_Keep_init a_Keep_init d_Keep_init
  b_Keep_init : Binds K d_Keep_init ["self", "question"] []
  I_Keep : Mk K c_Keep a_Keep_init
section
variable {P : Program} {w : World} {K : PySem.W.Frag} {mg : Str → Option Value} {base : Heap}
theorem ok_Keep_init (T : Txt K mg) : FnOk P w K mg base CX0 1 T.a_Keep_init T.d_Keep_init ["self", "question"] (spI T.c_Keep ["question"]) := by
  refine T.F_Keep_init.ok sc_Keep_init (fun vs H Q E h => spI_len h) (fun cdv A outer s H vs Q E hr h => ?_)
  obtain ⟨p, dx, ws, rfl, hl, hp, q⟩ := h
  match ws, hl with
  | [w1], _ =>
    refine ⟨_, (pss_one (ps_fld (pv 0) (pv 1) rfl)), ?_⟩
    refine init_fld (nm := []) (xs := []) T.K_Keep (T.N_Keep "question" (by simp)) (by decide +kernel) rfl (by decide) rfl rfl hp ?_
    exact q
theorem ok_added (T : Txt K mg) : FnOk P w K mg base CX0 1 T.a_added T.d_added ["one", "other"] (spF K 2 0 m_added) :=
  fn_ok (N := ["one", "other"]) T.F_added sc_added 0 g_added fun cdv A outer s H E hr => by
    have nd := sc_added.nd
    have v0 : ∀ pos : Pos, PE (cxOf CX0 P w K mg base ["one", "other"] "added" (defScope s_added) T.a_added cdv A outer s H E).nox (.Name "one" pos) (tVar 0) := fun _ => pv 0
    have v1 : ∀ pos : Pos, PE (cxOf CX0 P w K mg base ["one", "other"] "added" (defScope s_added) T.a_added cdv A outer s H E).nox (.Name "other" pos) (tVar 1) := fun _ => pv 1
    exact (fss_cons (fs_if (PW.pt (fw_or (ft_isN (fe_var (v0 _)) fe_non) (fw_or1 (ft_isN (fe_var (v1 _)) fe_non)))) (fss_one (fs_ret fe_non)) fss_nil)
      (fss_one (fs_ret (fe_addI (fe_var (v0 _)) (fe_var (v1 _))))))
theorem ok_lesser (T : Txt K mg) : FnOk P w K mg base CX0 1 T.a_lesser T.d_lesser ["one", "other"] (spF K 2 0 m_lesser) :=
  fn_ok (N := ["one", "other"]) T.F_lesser sc_lesser 0 g_lesser fun cdv A outer s H E hr => by
    have nd := sc_lesser.nd
    have v0 : ∀ pos : Pos, PE (cxOf CX0 P w K mg base ["one", "other"] "lesser" (defScope s_lesser) T.a_lesser cdv A outer s H E).nox (.Name "one" pos) (tVar 0) := fun _ => pv 0
    have v1 : ∀ pos : Pos, PE (cxOf CX0 P w K mg base ["one", "other"] "lesser" (defScope s_lesser) T.a_lesser cdv A outer s H E).nox (.Name "other" pos) (tVar 1) := fun _ => pv 1
    exact (fss_cons (fs_if (ft_isN (fe_var (v0 _)) fe_non) (fss_one (fs_ret (fe_varS (v1 _)))) fss_nil)
      (fss_cons (fs_if (PW.pt (fw_or (ft_isN (fe_var (v1 _)) fe_non) (fw_or1 (ft_le (fe_var (v0 _)) (fe_var (v1 _)))))) (fss_one (fs_ret (fe_varS (v0 _)))) fss_nil)
      (fss_one (fs_ret (fe_varS (v1 _))))))
theorem ok_flipped (T : Txt K mg) : FnOk P w K mg base CX0 1 T.a_flipped T.d_flipped ["f"] (spF K 1 0 m_flipped) :=
  fn_ok (N := ["f"]) T.F_flipped sc_flipped 0 g_flipped fun cdv A outer s H E hr => by
    have nd := sc_flipped.nd
    have v0 : ∀ pos : Pos, PE (cxOf CX0 P w K mg base ["f"] "flipped" (defScope s_flipped) T.a_flipped cdv A outer s H E).nox (.Name "f" pos) (tVar 0) := fun _ => pv 0
    exact (fss_one (fs_ret (fe_xor (fe_var (v0 _)) fe_int)))
theorem ok_worth (T : Txt K mg) : FnOk P w K mg base CX0 1 T.a_worth T.d_worth ["point", "f"] (spF K 2 0 m_worth) :=
  fn_ok (N := ["point", "f"]) T.F_worth sc_worth 0 g_worth fun cdv A outer s H E hr => by
    have nd := sc_worth.nd
    have v0 : ∀ pos : Pos, PE (cxOf CX0 P w K mg base ["point", "f"] "worth" (defScope s_worth) T.a_worth cdv A outer s H E).nox (.Name "point" pos) (tVar 0) := fun _ => pv 0
    have v1 : ∀ pos : Pos, PE (cxOf CX0 P w K mg base ["point", "f"] "worth" (defScope s_worth) T.a_worth cdv A outer s H E).nox (.Name "f" pos) (tVar 1) := fun _ => pv 1
    exact (fss_cons (fs_if (ft_eq hr.units (fe_mod (fe_var (v1 _)) fe_int) fe_int) (fss_one (fs_ret (fe_neg (fe_ix (fe_var (v0 _)) (fe_div (fe_var (v1 _)) fe_int))))) fss_nil)
      (fss_one (fs_ret (fe_ixS (fe_varS (v0 _)) (fe_div (fe_var (v1 _)) fe_int)))))
theorem ok_wide (T : Txt K mg) : FnOk P w K mg base CX0 2 T.a_wide T.d_wide ["count"] (spF K 1 2 m_wide) :=
  fn_ok (N := ["count", "table", "f", "line", "g"]) T.F_wide sc_wide 2 g_wide fun cdv A outer s H E hr => by
    have nd := sc_wide.nd
    have v0 : ∀ pos : Pos, PE (cxOf CX0 P w K mg base ["count", "table", "f", "line", "g"] "wide" (defScope s_wide) T.a_wide cdv A outer s H E).nox (.Name "count" pos) (tVar 0) := fun _ => pv 0
    have v1 : ∀ pos : Pos, PE (cxOf CX0 P w K mg base ["count", "table", "f", "line", "g"] "wide" (defScope s_wide) T.a_wide cdv A outer s H E).nox (.Name "table" pos) (tVar 1) := fun _ => pv 1
    have v2 : ∀ pos : Pos, PE (cxOf CX0 P w K mg base ["count", "table", "f", "line", "g"] "wide" (defScope s_wide) T.a_wide cdv A outer s H E).nox (.Name "f" pos) (tVar 2) := fun _ => pv 2
    have v3 : ∀ pos : Pos, PE (cxOf CX0 P w K mg base ["count", "table", "f", "line", "g"] "wide" (defScope s_wide) T.a_wide cdv A outer s H E).nox (.Name "line" pos) (tVar 3) := fun _ => pv 3
    exact (fss_cons (fs_set (i := 1) nd rfl (.inl rfl) (fe_lst (kd := .ow 1) fa_nil))
      (fss_cons (fs_for PassesOwn.never rfl (fi_rng1 (by rfl) T.m_range (fe_mul fe_int (fe_var (v0 _)))) (fg_name (i := 2) nd rfl (.inl rfl)) (fss_cons (fs_setLc (i := 3) (k' := 0) (ow := [("g", 4)]) rfl nd rfl rfl (sw_true rfl rfl rfl (by decide +kernel)) (fi_rng1 (by rfl) T.m_range (fe_mul fe_int (fe_var (v0 _)))) (blkOk_by (N := ["count", "table", "f", "line", "g"]) (sc := defScope s_wide) (by decide +kernel)) (by decide) (fun _ _ _ _ _ => (fg_name (i := 4) nd rfl (.inl rfl))) (fun _ _ _ _ _ => pts_yes) (fun _ _ _ _ _ => fe_non))
      (fss_cons (fs_sub (i := 3) (k := 0) fe_int (v3 _) (fe_call (ok_flipped T) (hr.mono (by decide)) (by rfl) T.g_flipped T.F_flipped.kp T.b_flipped (fa_cons (fe_var (v2 _)) fa_nil) (alen_cons alen_nil)))
      (fss_one (fs_appV (k := 1) (j := 3) (pe_bm PySem.F.plainAttrs_list PySem.F.slot_list_append PySem.F.type_list_append mt_append (v1 _) (pa_cons (v3 _) pa_nil)))))))
      (fss_one (fs_retV (v1 _)))))
theorem ok_copied (T : Txt K mg) : FnOk P w K mg base CX0 1 T.a_copied T.d_copied ["table"] (spF K 1 2 m_copied) :=
  fn_ok (N := ["table", "line"]) T.F_copied sc_copied 2 g_copied fun cdv A outer s H E hr => by
    have nd := sc_copied.nd
    have v0 : ∀ pos : Pos, PE (cxOf CX0 P w K mg base ["table", "line"] "copied" (defScope s_copied) T.a_copied cdv A outer s H E).nox (.Name "table" pos) (tVar 0) := fun _ => pv 0
    exact (fss_one (fs_ret (fe_lc (k := 1) (ow := [("line", 1)]) rfl nd (fi_seq (fe_varS (v0 _))) (blkOk_by (N := ["table", "line"]) (sc := defScope s_copied) (by decide +kernel)) (by decide) (fun _ _ _ _ _ => (fg_name (i := 1) nd rfl (.inl rfl))) (fun _ _ _ _ _ => pts_yes) (fun _ _ _ _ _ => (fe_list (by rfl) T.m_list (fe_var (pv 1)))))))
theorem ok_led (T : Txt K mg) : FnOk P w K mg base CX0 2 T.a_led T.d_led ["table", "f", "g", "number"] (spF K 4 1 m_led) :=
  fn_ok (N := ["table", "f", "g", "number", "back", "come", "line", "once", "twice"]) T.F_led sc_led 1 g_led fun cdv A outer s H E hr => by
    have nd := sc_led.nd
    have v0 : ∀ pos : Pos, PE (cxOf CX0 P w K mg base ["table", "f", "g", "number", "back", "come", "line", "once", "twice"] "led" (defScope s_led) T.a_led cdv A outer s H E).nox (.Name "table" pos) (tVar 0) := fun _ => pv 0
    have v1 : ∀ pos : Pos, PE (cxOf CX0 P w K mg base ["table", "f", "g", "number", "back", "come", "line", "once", "twice"] "led" (defScope s_led) T.a_led cdv A outer s H E).nox (.Name "f" pos) (tVar 1) := fun _ => pv 1
    have v2 : ∀ pos : Pos, PE (cxOf CX0 P w K mg base ["table", "f", "g", "number", "back", "come", "line", "once", "twice"] "led" (defScope s_led) T.a_led cdv A outer s H E).nox (.Name "g" pos) (tVar 2) := fun _ => pv 2
    have v3 : ∀ pos : Pos, PE (cxOf CX0 P w K mg base ["table", "f", "g", "number", "back", "come", "line", "once", "twice"] "led" (defScope s_led) T.a_led cdv A outer s H E).nox (.Name "number" pos) (tVar 3) := fun _ => pv 3
    have v4 : ∀ pos : Pos, PE (cxOf CX0 P w K mg base ["table", "f", "g", "number", "back", "come", "line", "once", "twice"] "led" (defScope s_led) T.a_led cdv A outer s H E).nox (.Name "back" pos) (tVar 4) := fun _ => pv 4
    have v5 : ∀ pos : Pos, PE (cxOf CX0 P w K mg base ["table", "f", "g", "number", "back", "come", "line", "once", "twice"] "led" (defScope s_led) T.a_led cdv A outer s H E).nox (.Name "come" pos) (tVar 5) := fun _ => pv 5
    have v6 : ∀ pos : Pos, PE (cxOf CX0 P w K mg base ["table", "f", "g", "number", "back", "come", "line", "once", "twice"] "led" (defScope s_led) T.a_led cdv A outer s H E).nox (.Name "line" pos) (tVar 6) := fun _ => pv 6
    have v7 : ∀ pos : Pos, PE (cxOf CX0 P w K mg base ["table", "f", "g", "number", "back", "come", "line", "once", "twice"] "led" (defScope s_led) T.a_led cdv A outer s H E).nox (.Name "once" pos) (tVar 7) := fun _ => pv 7
    have v8 : ∀ pos : Pos, PE (cxOf CX0 P w K mg base ["table", "f", "g", "number", "back", "come", "line", "once", "twice"] "led" (defScope s_led) T.a_led cdv A outer s H E).nox (.Name "twice" pos) (tVar 8) := fun _ => pv 8
    exact (fss_cons (fs_set (i := 4) nd rfl (.inl rfl) (fe_callO (ok_flipped T) (hr.mono (by decide)) (by rfl) T.g_flipped T.F_flipped.kp T.b_flipped (fa_cons (fe_var (v1 _)) fa_nil) (alen_cons alen_nil)))
      (fss_cons (fs_set (i := 5) nd rfl (.inl rfl) (fe_lst (kd := .ow 0) fa_nil))
      (fss_cons (fs_for PassesOwn.never rfl (fi_seq (fe_varS (v0 _))) (fg_name (i := 6) nd rfl (.inl rfl)) (fss_cons (fs_set (i := 7) nd rfl (.inl rfl) (fe_callO (ok_added T) (hr.mono (by decide)) (by rfl) T.g_added T.F_added.kp T.b_added (fa_cons (fe_ix (fe_var (v6 _)) (fe_var (v4 _))) (fa_cons (fe_var (v3 _)) fa_nil)) (alen_cons (alen_cons alen_nil))))
      (fss_cons (fs_set (i := 8) nd rfl (.inl rfl) (fe_callO (ok_added T) (hr.mono (by decide)) (by rfl) T.g_added T.F_added.kp T.b_added (fa_cons (fe_call (ok_added T) (hr.mono (by decide)) (by rfl) T.g_added T.F_added.kp T.b_added (fa_cons (fe_ix (fe_var (v6 _)) (fe_call (ok_flipped T) (hr.mono (by decide)) (by rfl) T.g_flipped T.F_flipped.kp T.b_flipped (fa_cons (fe_var (v2 _)) fa_nil) (alen_cons alen_nil))) (fa_cons (fe_mul fe_int (fe_var (v3 _))) fa_nil)) (alen_cons (alen_cons alen_nil))) (fa_cons (fe_ix (fe_ix (fe_var (v0 _)) (fe_var (v4 _))) (fe_var (v4 _))) fa_nil)) (alen_cons (alen_cons alen_nil))))
      (fss_one (fs_app (pe_bm PySem.F.plainAttrs_list PySem.F.slot_list_append PySem.F.type_list_append mt_append (v5 _) (pa_cons (fe_callO (ok_lesser T) (hr.mono (by decide)) (by rfl) T.g_lesser T.F_lesser.kp T.b_lesser (fa_cons (fe_var (v7 _)) (fa_cons (fe_var (v8 _)) fa_nil)) (alen_cons (alen_cons alen_nil))) pa_nil)))))))
      (fss_one (fs_retV (v5 _))))))
theorem ok_relinked (T : Txt K mg) : FnOk P w K mg base CX0 3 T.a_relinked T.d_relinked ["table", "side"] (spF K 2 2 m_relinked) :=
  fn_ok (N := ["table", "side", "f", "g", "to_g", "to_f", "behind_g", "behind_f", "come", "i", "line", "j", "through"]) T.F_relinked sc_relinked 2 g_relinked fun cdv A outer s H E hr => by
    have nd := sc_relinked.nd
    have v0 : ∀ pos : Pos, PE (cxOf CX0 P w K mg base ["table", "side", "f", "g", "to_g", "to_f", "behind_g", "behind_f", "come", "i", "line", "j", "through"] "relinked" (defScope s_relinked) T.a_relinked cdv A outer s H E).nox (.Name "table" pos) (tVar 0) := fun _ => pv 0
    have v1 : ∀ pos : Pos, PE (cxOf CX0 P w K mg base ["table", "side", "f", "g", "to_g", "to_f", "behind_g", "behind_f", "come", "i", "line", "j", "through"] "relinked" (defScope s_relinked) T.a_relinked cdv A outer s H E).nox (.Name "side" pos) (tVar 1) := fun _ => pv 1
    have v2 : ∀ pos : Pos, PE (cxOf CX0 P w K mg base ["table", "side", "f", "g", "to_g", "to_f", "behind_g", "behind_f", "come", "i", "line", "j", "through"] "relinked" (defScope s_relinked) T.a_relinked cdv A outer s H E).nox (.Name "f" pos) (tVar 2) := fun _ => pv 2
    have v3 : ∀ pos : Pos, PE (cxOf CX0 P w K mg base ["table", "side", "f", "g", "to_g", "to_f", "behind_g", "behind_f", "come", "i", "line", "j", "through"] "relinked" (defScope s_relinked) T.a_relinked cdv A outer s H E).nox (.Name "g" pos) (tVar 3) := fun _ => pv 3
    have v4 : ∀ pos : Pos, PE (cxOf CX0 P w K mg base ["table", "side", "f", "g", "to_g", "to_f", "behind_g", "behind_f", "come", "i", "line", "j", "through"] "relinked" (defScope s_relinked) T.a_relinked cdv A outer s H E).nox (.Name "to_g" pos) (tVar 4) := fun _ => pv 4
    have v5 : ∀ pos : Pos, PE (cxOf CX0 P w K mg base ["table", "side", "f", "g", "to_g", "to_f", "behind_g", "behind_f", "come", "i", "line", "j", "through"] "relinked" (defScope s_relinked) T.a_relinked cdv A outer s H E).nox (.Name "to_f" pos) (tVar 5) := fun _ => pv 5
    have v6 : ∀ pos : Pos, PE (cxOf CX0 P w K mg base ["table", "side", "f", "g", "to_g", "to_f", "behind_g", "behind_f", "come", "i", "line", "j", "through"] "relinked" (defScope s_relinked) T.a_relinked cdv A outer s H E).nox (.Name "behind_g" pos) (tVar 6) := fun _ => pv 6
    have v7 : ∀ pos : Pos, PE (cxOf CX0 P w K mg base ["table", "side", "f", "g", "to_g", "to_f", "behind_g", "behind_f", "come", "i", "line", "j", "through"] "relinked" (defScope s_relinked) T.a_relinked cdv A outer s H E).nox (.Name "behind_f" pos) (tVar 7) := fun _ => pv 7
    have v8 : ∀ pos : Pos, PE (cxOf CX0 P w K mg base ["table", "side", "f", "g", "to_g", "to_f", "behind_g", "behind_f", "come", "i", "line", "j", "through"] "relinked" (defScope s_relinked) T.a_relinked cdv A outer s H E).nox (.Name "come" pos) (tVar 8) := fun _ => pv 8
    have v9 : ∀ pos : Pos, PE (cxOf CX0 P w K mg base ["table", "side", "f", "g", "to_g", "to_f", "behind_g", "behind_f", "come", "i", "line", "j", "through"] "relinked" (defScope s_relinked) T.a_relinked cdv A outer s H E).nox (.Name "i" pos) (tVar 9) := fun _ => pv 9
    have v10 : ∀ pos : Pos, PE (cxOf CX0 P w K mg base ["table", "side", "f", "g", "to_g", "to_f", "behind_g", "behind_f", "come", "i", "line", "j", "through"] "relinked" (defScope s_relinked) T.a_relinked cdv A outer s H E).nox (.Name "line" pos) (tVar 10) := fun _ => pv 10
    have v11 : ∀ pos : Pos, PE (cxOf CX0 P w K mg base ["table", "side", "f", "g", "to_g", "to_f", "behind_g", "behind_f", "come", "i", "line", "j", "through"] "relinked" (defScope s_relinked) T.a_relinked cdv A outer s H E).nox (.Name "j" pos) (tVar 11) := fun _ => pv 11
    have v12 : ∀ pos : Pos, PE (cxOf CX0 P w K mg base ["table", "side", "f", "g", "to_g", "to_f", "behind_g", "behind_f", "come", "i", "line", "j", "through"] "relinked" (defScope s_relinked) T.a_relinked cdv A outer s H E).nox (.Name "through" pos) (tVar 12) := fun _ => pv 12
    exact (fss_cons (fs_set (i := 2) nd rfl (.inl rfl) (fe_ixS (fe_varS (v1 _)) fe_int))
      (fss_cons (fs_set (i := 3) nd rfl (.inl rfl) (fe_ixS (fe_varS (v1 _)) fe_int))
      (fss_cons (fs_set (i := 4) nd rfl (.inl rfl) (fe_fz (fe_callO (ok_led T) (hr.mono (by decide)) (by rfl) T.g_led T.F_led.kp T.b_led (fa_cons (fe_var (v0 _)) (fa_cons (fe_var (v2 _)) (fa_cons (fe_var (v3 _)) (fa_cons (fe_ix (fe_var (v1 _)) fe_int) fa_nil)))) (alen_cons (alen_cons (alen_cons (alen_cons alen_nil)))))))
      (fss_cons (fs_set (i := 5) nd rfl (.inl rfl) (fe_fz (fe_callO (ok_led T) (hr.mono (by decide)) (by rfl) T.g_led T.F_led.kp T.b_led (fa_cons (fe_var (v0 _)) (fa_cons (fe_var (v3 _)) (fa_cons (fe_var (v2 _)) (fa_cons (fe_ix (fe_var (v1 _)) fe_int) fa_nil)))) (alen_cons (alen_cons (alen_cons (alen_cons alen_nil)))))))
      (fss_cons (fs_set (i := 6) nd rfl (.inl rfl) (fe_ixS (fe_varS (v0 _)) (fe_call (ok_flipped T) (hr.mono (by decide)) (by rfl) T.g_flipped T.F_flipped.kp T.b_flipped (fa_cons (fe_var (v3 _)) fa_nil) (alen_cons alen_nil))))
      (fss_cons (fs_set (i := 7) nd rfl (.inl rfl) (fe_ixS (fe_varS (v0 _)) (fe_call (ok_flipped T) (hr.mono (by decide)) (by rfl) T.g_flipped T.F_flipped.kp T.b_flipped (fa_cons (fe_var (v2 _)) fa_nil) (alen_cons alen_nil))))
      (fss_cons (fs_set (i := 8) nd rfl (.inl rfl) (fe_lst (kd := .ow 1) fa_nil))
      (fss_cons (fs_for PassesOwn.never rfl (fi_rng1 (by rfl) T.m_range (fe_len (by rfl) T.m_len (fa_cons (fe_var (v0 _)) fa_nil))) (fg_name (i := 9) nd rfl (.inl rfl)) (fss_cons (fs_set (i := 10) nd rfl (.inl rfl) (fe_lst (kd := .ow 0) fa_nil))
      (fss_cons (fs_for PassesOwn.never rfl (fi_rng1 (by rfl) T.m_range (fe_len (by rfl) T.m_len (fa_cons (fe_var (v0 _)) fa_nil))) (fg_name (i := 11) nd rfl (.inl rfl)) (fss_cons (fs_set (i := 12) nd rfl (.inl rfl) (fe_callO (ok_lesser T) (hr.mono (by decide)) (by rfl) T.g_lesser T.F_lesser.kp T.b_lesser (fa_cons (fe_call (ok_added T) (hr.mono (by decide)) (by rfl) T.g_added T.F_added.kp T.b_added (fa_cons (fe_ix (fe_var (v4 _)) (fe_var (v9 _))) (fa_cons (fe_ix (fe_var (v6 _)) (fe_var (v11 _))) fa_nil)) (alen_cons (alen_cons alen_nil))) (fa_cons (fe_call (ok_added T) (hr.mono (by decide)) (by rfl) T.g_added T.F_added.kp T.b_added (fa_cons (fe_ix (fe_var (v5 _)) (fe_var (v9 _))) (fa_cons (fe_ix (fe_var (v7 _)) (fe_var (v11 _))) fa_nil)) (alen_cons (alen_cons alen_nil))) fa_nil)) (alen_cons (alen_cons alen_nil))))
      (fss_one (fs_app (pe_bm PySem.F.plainAttrs_list PySem.F.slot_list_append PySem.F.type_list_append mt_append (v10 _) (pa_cons (fe_callO (ok_lesser T) (hr.mono (by decide)) (by rfl) T.g_lesser T.F_lesser.kp T.b_lesser (fa_cons (fe_ix (fe_ix (fe_var (v0 _)) (fe_var (v9 _))) (fe_var (v11 _))) (fa_cons (fe_var (v12 _)) fa_nil)) (alen_cons (alen_cons alen_nil))) pa_nil))))))
      (fss_one (fs_appV (k := 1) (j := 10) (pe_bm PySem.F.plainAttrs_list PySem.F.slot_list_append PySem.F.type_list_append mt_append (v8 _) (pa_cons (v10 _) pa_nil)))))))
      (fss_one (fs_retV (v8 _)))))))))))
theorem ok_halve (T : Txt K mg) : FnOk P w K mg base CX0 1 T.a_halve T.d_halve ["table"] (spIO K [some 2] 0 m_halve) :=
  fn_okIO (N := ["table", "f"]) T.F_halve sc_halve [some 2] rfl 0 g_halve fun cdv A outer s H E hr => by
    have nd := sc_halve.nd
    have v0 : ∀ pos : Pos, PE (cxOf CX0 P w K mg base ["table", "f"] "halve" (defScope s_halve) T.a_halve cdv A outer s H E).nox (.Name "table" pos) (tVar 0) := fun _ => pv 0
    have v1 : ∀ pos : Pos, PE (cxOf CX0 P w K mg base ["table", "f"] "halve" (defScope s_halve) T.a_halve cdv A outer s H E).nox (.Name "f" pos) (tVar 1) := fun _ => pv 1
    exact (fss_one (fs_for PassesOwn.never rfl (fi_rng1 (by rfl) T.m_range (fe_len (by rfl) T.m_len (fa_cons (fe_var (v0 _)) fa_nil))) (fg_name (i := 1) nd rfl (.inl rfl)) (fss_one (fs_if (ft_notN (fe_ix (fe_ix (fe_var (v0 _)) (fe_var (v1 _))) (fe_var (v1 _))) fe_non) (fss_one (fs_sub2 (i := 0) (k := 0) (fe_mul (fe_div (fe_ix (fe_ix (fe_var (v0 _)) (fe_var (v1 _))) (fe_var (v1 _))) fe_int) fe_int) (v0 _) (fe_var (v1 _)) (fe_var (v1 _)))) fss_nil))))
theorem ok_has_none (T : Txt K mg) : FnOk P w K mg base CX0 2 T.a_has_none T.d_has_none ["table"] (spF K 1 0 m_has_none) :=
  fn_ok (N := ["table", "f", "there", "back"]) T.F_has_none sc_has_none 0 g_has_none fun cdv A outer s H E hr => by
    have nd := sc_has_none.nd
    have v0 : ∀ pos : Pos, PE (cxOf CX0 P w K mg base ["table", "f", "there", "back"] "has_none" (defScope s_has_none) T.a_has_none cdv A outer s H E).nox (.Name "table" pos) (tVar 0) := fun _ => pv 0
    have v1 : ∀ pos : Pos, PE (cxOf CX0 P w K mg base ["table", "f", "there", "back"] "has_none" (defScope s_has_none) T.a_has_none cdv A outer s H E).nox (.Name "f" pos) (tVar 1) := fun _ => pv 1
    have v2 : ∀ pos : Pos, PE (cxOf CX0 P w K mg base ["table", "f", "there", "back"] "has_none" (defScope s_has_none) T.a_has_none cdv A outer s H E).nox (.Name "there" pos) (tVar 2) := fun _ => pv 2
    have v3 : ∀ pos : Pos, PE (cxOf CX0 P w K mg base ["table", "f", "there", "back"] "has_none" (defScope s_has_none) T.a_has_none cdv A outer s H E).nox (.Name "back" pos) (tVar 3) := fun _ => pv 3
    exact (fss_cons (fs_for PassesOwn.never rfl (fi_rng1 (by rfl) T.m_range (fe_len (by rfl) T.m_len (fa_cons (fe_var (v0 _)) fa_nil))) (fg_name (i := 1) nd rfl (.inl rfl)) (fss_cons (fs_set (i := 2) nd rfl (.inl rfl) (fe_ixS (fe_ixS (fe_varS (v0 _)) (fe_var (v1 _))) (fe_var (v1 _))))
      (fss_cons (fs_set (i := 3) nd rfl (.inl rfl) (fe_ixS (fe_ixS (fe_varS (v0 _)) (fe_call (ok_flipped T) (hr.mono (by decide)) (by rfl) T.g_flipped T.F_flipped.kp T.b_flipped (fa_cons (fe_var (v1 _)) fa_nil) (alen_cons alen_nil))) (fe_call (ok_flipped T) (hr.mono (by decide)) (by rfl) T.g_flipped T.F_flipped.kp T.b_flipped (fa_cons (fe_var (v1 _)) fa_nil) (alen_cons alen_nil))))
      (fss_one (fs_if (PW.pt (fw_and (ft_notN (fe_var (v2 _)) fe_non) (fw_and (ft_notN (fe_var (v3 _)) fe_non) (fw_and1 (ft_lt (fe_addI (fe_var (v2 _)) (fe_var (v3 _))) fe_int))))) (fss_one (fs_ret fe_bl)) fss_nil)))))
      (fss_one (fs_ret fe_bl)))
theorem ok_strengthen (T : Txt K mg) : FnOk P w K mg base CX0 2 T.a_strengthen T.d_strengthen ["table"] (spIO K [some 2] 0 m_strengthen) :=
  fn_okIO (N := ["table", "f", "g", "twice"]) T.F_strengthen sc_strengthen [some 2] rfl 0 g_strengthen fun cdv A outer s H E hr => by
    have nd := sc_strengthen.nd
    have v0 : ∀ pos : Pos, PE (cxOf CX0 P w K mg base ["table", "f", "g", "twice"] "strengthen" (defScope s_strengthen) T.a_strengthen cdv A outer s H E).nox (.Name "table" pos) (tVar 0) := fun _ => pv 0
    have v1 : ∀ pos : Pos, PE (cxOf CX0 P w K mg base ["table", "f", "g", "twice"] "strengthen" (defScope s_strengthen) T.a_strengthen cdv A outer s H E).nox (.Name "f" pos) (tVar 1) := fun _ => pv 1
    have v2 : ∀ pos : Pos, PE (cxOf CX0 P w K mg base ["table", "f", "g", "twice"] "strengthen" (defScope s_strengthen) T.a_strengthen cdv A outer s H E).nox (.Name "g" pos) (tVar 2) := fun _ => pv 2
    have v3 : ∀ pos : Pos, PE (cxOf CX0 P w K mg base ["table", "f", "g", "twice"] "strengthen" (defScope s_strengthen) T.a_strengthen cdv A outer s H E).nox (.Name "twice" pos) (tVar 3) := fun _ => pv 3
    exact (fss_one (fs_for PassesOwn.never rfl (fi_rng1 (by rfl) T.m_range (fe_len (by rfl) T.m_len (fa_cons (fe_var (v0 _)) fa_nil))) (fg_name (i := 1) nd rfl (.inl rfl)) (fss_one (fs_for PassesOwn.never rfl (fi_rng1 (by rfl) T.m_range (fe_len (by rfl) T.m_len (fa_cons (fe_var (v0 _)) fa_nil))) (fg_name (i := 2) nd rfl (.inl rfl)) (fss_cons (fs_set (i := 3) nd rfl (.inl rfl) (fe_callO (ok_added T) (hr.mono (by decide)) (by rfl) T.g_added T.F_added.kp T.b_added (fa_cons (fe_ix (fe_ix (fe_var (v0 _)) (fe_var (v1 _))) (fe_var (v1 _))) (fa_cons (fe_ix (fe_ix (fe_var (v0 _)) (fe_var (v2 _))) (fe_var (v2 _))) fa_nil)) (alen_cons (alen_cons alen_nil))))
      (fss_one (fs_if (ft_notN (fe_var (v3 _)) fe_non) (fss_one (fs_sub2 (i := 0) (k := 0) (fe_callO (ok_lesser T) (hr.mono (by decide)) (by rfl) T.g_lesser T.F_lesser.kp T.b_lesser (fa_cons (fe_ix (fe_ix (fe_var (v0 _)) (fe_var (v1 _))) (fe_var (v2 _))) (fa_cons (fe_div (fe_var (v3 _)) fe_int) fa_nil)) (alen_cons (alen_cons alen_nil))) (v0 _) (fe_var (v1 _)) (fe_var (v2 _)))) fss_nil)))))))
theorem ok_held (T : Txt K mg) : FnOk P w K mg base CX0 4 T.a_held T.d_held ["shape", "side"] (spF K 2 2 m_held) :=
  fn_ok (N := ["shape", "side", "told", "back", "table"]) T.F_held sc_held 2 g_held fun cdv A outer s H E hr => by
    have nd := sc_held.nd
    have v0 : ∀ pos : Pos, PE (cxOf CX0 P w K mg base ["shape", "side", "told", "back", "table"] "held" (defScope s_held) T.a_held cdv A outer s H E).nox (.Name "shape" pos) (tVar 0) := fun _ => pv 0
    have v1 : ∀ pos : Pos, PE (cxOf CX0 P w K mg base ["shape", "side", "told", "back", "table"] "held" (defScope s_held) T.a_held cdv A outer s H E).nox (.Name "side" pos) (tVar 1) := fun _ => pv 1
    have v2 : ∀ pos : Pos, PE (cxOf CX0 P w K mg base ["shape", "side", "told", "back", "table"] "held" (defScope s_held) T.a_held cdv A outer s H E).nox (.Name "told" pos) (tVar 2) := fun _ => pv 2
    have v3 : ∀ pos : Pos, PE (cxOf CX0 P w K mg base ["shape", "side", "told", "back", "table"] "held" (defScope s_held) T.a_held cdv A outer s H E).nox (.Name "back" pos) (tVar 3) := fun _ => pv 3
    have v4 : ∀ pos : Pos, PE (cxOf CX0 P w K mg base ["shape", "side", "told", "back", "table"] "held" (defScope s_held) T.a_held cdv A outer s H E).nox (.Name "table" pos) (tVar 4) := fun _ => pv 4
    exact (fss_cons (fs_if (ft_isN (fe_var (v0 _)) fe_non) (fss_one (fs_ret fe_non)) fss_nil)
      (fss_cons (fs_set (i := 2) nd rfl (.inl rfl) (fe_ixS (fe_ixS (fe_varS (v0 _)) (fe_ix (fe_var (v1 _)) fe_int)) (fe_ix (fe_var (v1 _)) fe_int)))
      (fss_cons (fs_if (PW.pt (fw_and (ft_notN (fe_var (v2 _)) fe_non) (fw_and1 (ft_le (fe_var (v2 _)) (fe_ix (fe_var (v1 _)) fe_int))))) (fss_one (fs_ret (fe_callO (ok_copied T) (hr.mono (by decide)) (by rfl) T.g_copied T.F_copied.kp T.b_copied (fa_cons (fe_var (v0 _)) fa_nil) (alen_cons alen_nil)))) fss_nil)
      (fss_cons (fs_set (i := 3) nd rfl (.inl rfl) (fe_ixS (fe_ixS (fe_varS (v0 _)) (fe_call (ok_flipped T) (hr.mono (by decide)) (by rfl) T.g_flipped T.F_flipped.kp T.b_flipped (fa_cons (fe_ix (fe_var (v1 _)) fe_int) fa_nil) (alen_cons alen_nil))) (fe_call (ok_flipped T) (hr.mono (by decide)) (by rfl) T.g_flipped T.F_flipped.kp T.b_flipped (fa_cons (fe_ix (fe_var (v1 _)) fe_int) fa_nil) (alen_cons alen_nil))))
      (fss_cons (fs_if (PW.pt (fw_and (ft_notN (fe_var (v3 _)) fe_non) (fw_and1 (ft_lt (fe_addI (fe_var (v3 _)) (fe_ix (fe_var (v1 _)) fe_int)) fe_int)))) (fss_one (fs_ret fe_non)) fss_nil)
      (fss_cons (fs_set (i := 4) nd rfl (.inl rfl) (fe_callO (ok_relinked T) (hr.mono (by decide)) (by rfl) T.g_relinked T.F_relinked.kp T.b_relinked (fa_cons (fe_var (v0 _)) (fa_cons (fe_var (v1 _)) fa_nil)) (alen_cons (alen_cons alen_nil))))
      (fss_cons (fs_exprX (fx_call (sp := [some (4, 2)]) (kr := 0) (ok_halve T) (hr.mono (by decide)) (by rfl) T.g_halve T.F_halve.kp T.b_halve (ax_io (j := 4) (k := 2) (v4 _) ax_nil) (by decide)))
      (fss_cons (fs_if (ft_val (fe_call (ok_has_none T) (hr.mono (by decide)) (by rfl) T.g_has_none T.F_has_none.kp T.b_has_none (fa_cons (fe_var (v4 _)) fa_nil) (alen_cons alen_nil))) (fss_one (fs_ret fe_non)) fss_nil)
      (fss_cons (fs_exprX (fx_call (sp := [some (4, 2)]) (kr := 0) (ok_strengthen T) (hr.mono (by decide)) (by rfl) T.g_strengthen T.F_strengthen.kp T.b_strengthen (ax_io (j := 4) (k := 2) (v4 _) ax_nil) (by decide)))
      (fss_one (fs_retV (v4 _))))))))))))
theorem ok_closed (T : Txt K mg) : FnOk P w K mg base CX0 5 T.a_closed T.d_closed ["count", "sides"] (spF K 2 2 m_closed) :=
  fn_ok (N := ["count", "sides", "shape", "side"]) T.F_closed sc_closed 2 g_closed fun cdv A outer s H E hr => by
    have nd := sc_closed.nd
    have v0 : ∀ pos : Pos, PE (cxOf CX0 P w K mg base ["count", "sides", "shape", "side"] "closed" (defScope s_closed) T.a_closed cdv A outer s H E).nox (.Name "count" pos) (tVar 0) := fun _ => pv 0
    have v1 : ∀ pos : Pos, PE (cxOf CX0 P w K mg base ["count", "sides", "shape", "side"] "closed" (defScope s_closed) T.a_closed cdv A outer s H E).nox (.Name "sides" pos) (tVar 1) := fun _ => pv 1
    have v2 : ∀ pos : Pos, PE (cxOf CX0 P w K mg base ["count", "sides", "shape", "side"] "closed" (defScope s_closed) T.a_closed cdv A outer s H E).nox (.Name "shape" pos) (tVar 2) := fun _ => pv 2
    have v3 : ∀ pos : Pos, PE (cxOf CX0 P w K mg base ["count", "sides", "shape", "side"] "closed" (defScope s_closed) T.a_closed cdv A outer s H E).nox (.Name "side" pos) (tVar 3) := fun _ => pv 3
    exact (fss_cons (fs_set (i := 2) nd rfl (.inl rfl) (fe_callO (ok_wide T) (hr.mono (by decide)) (by rfl) T.g_wide T.F_wide.kp T.b_wide (fa_cons (fe_var (v0 _)) fa_nil) (alen_cons alen_nil)))
      (fss_cons (fs_for PassesOwn.never rfl (fi_seq (fe_varS (v1 _))) (fg_name (i := 3) nd rfl (.inl rfl)) (fss_one (fs_set (i := 2) nd rfl (.inl rfl) (fe_callO (ok_held T) (hr.mono (by decide)) (by rfl) T.g_held T.F_held.kp T.b_held (fa_cons (fe_var (v2 _)) (fa_cons (fe_var (v3 _)) fa_nil)) (alen_cons (alen_cons alen_nil))))))
      (fss_one (fs_retV (v2 _)))))
theorem ok_halved_entry (T : Txt K mg) : FnOk P w K mg base CX0 1 T.a_halved_entry T.d_halved_entry ["entry"] (spF K 1 0 m_halved_entry) :=
  fn_ok (N := ["entry"]) T.F_halved_entry sc_halved_entry 0 g_halved_entry fun cdv A outer s H E hr => by
    have nd := sc_halved_entry.nd
    have v0 : ∀ pos : Pos, PE (cxOf CX0 P w K mg base ["entry"] "halved_entry" (defScope s_halved_entry) T.a_halved_entry cdv A outer s H E).nox (.Name "entry" pos) (tVar 0) := fun _ => pv 0
    exact (fss_cons (fs_if (ft_isN (fe_var (v0 _)) fe_non) (fss_one (fs_ret fe_non)) fss_nil)
      (fss_one (fs_ret (fe_div (fe_var (v0 _)) fe_int))))
theorem ok_top_beside (T : Txt K mg) : FnOk P w K mg base CX0 2 T.a_top_beside T.d_top_beside ["shape", "f", "point", "known"] (spF K 4 0 m_top_beside) :=
  fn_ok (N := ["shape", "f", "point", "known", "top", "k", "g"]) T.F_top_beside sc_top_beside 0 g_top_beside fun cdv A outer s H E hr => by
    have nd := sc_top_beside.nd
    have v0 : ∀ pos : Pos, PE (cxOf CX0 P w K mg base ["shape", "f", "point", "known", "top", "k", "g"] "top_beside" (defScope s_top_beside) T.a_top_beside cdv A outer s H E).nox (.Name "shape" pos) (tVar 0) := fun _ => pv 0
    have v1 : ∀ pos : Pos, PE (cxOf CX0 P w K mg base ["shape", "f", "point", "known", "top", "k", "g"] "top_beside" (defScope s_top_beside) T.a_top_beside cdv A outer s H E).nox (.Name "f" pos) (tVar 1) := fun _ => pv 1
    have v2 : ∀ pos : Pos, PE (cxOf CX0 P w K mg base ["shape", "f", "point", "known", "top", "k", "g"] "top_beside" (defScope s_top_beside) T.a_top_beside cdv A outer s H E).nox (.Name "point" pos) (tVar 2) := fun _ => pv 2
    have v3 : ∀ pos : Pos, PE (cxOf CX0 P w K mg base ["shape", "f", "point", "known", "top", "k", "g"] "top_beside" (defScope s_top_beside) T.a_top_beside cdv A outer s H E).nox (.Name "known" pos) (tVar 3) := fun _ => pv 3
    have v4 : ∀ pos : Pos, PE (cxOf CX0 P w K mg base ["shape", "f", "point", "known", "top", "k", "g"] "top_beside" (defScope s_top_beside) T.a_top_beside cdv A outer s H E).nox (.Name "top" pos) (tVar 4) := fun _ => pv 4
    have v5 : ∀ pos : Pos, PE (cxOf CX0 P w K mg base ["shape", "f", "point", "known", "top", "k", "g"] "top_beside" (defScope s_top_beside) T.a_top_beside cdv A outer s H E).nox (.Name "k" pos) (tVar 5) := fun _ => pv 5
    have v6 : ∀ pos : Pos, PE (cxOf CX0 P w K mg base ["shape", "f", "point", "known", "top", "k", "g"] "top_beside" (defScope s_top_beside) T.a_top_beside cdv A outer s H E).nox (.Name "g" pos) (tVar 6) := fun _ => pv 6
    exact (fss_cons (fs_set (i := 4) nd rfl (.inl rfl) (fe_callO (ok_halved_entry T) (hr.mono (by decide)) (by rfl) T.g_halved_entry T.F_halved_entry.kp T.b_halved_entry (fa_cons (fe_ix (fe_ix (fe_var (v0 _)) (fe_var (v1 _))) (fe_var (v1 _))) fa_nil) (alen_cons alen_nil)))
      (fss_cons (fs_for PassesOwn.never rfl (fi_seq (fe_varS (v3 _))) (fg_name (i := 5) nd rfl (.inl rfl)) (fss_one (fs_for PassesOwn.never rfl (fi_seq (fe_tup (fa_cons (fe_mul fe_int (fe_var (v5 _))) (fa_cons (fe_addI (fe_mul fe_int (fe_var (v5 _))) fe_int) fa_nil)))) (fg_name (i := 6) nd rfl (.inl rfl)) (fss_one (fs_set (i := 4) nd rfl (.inl rfl) (fe_callO (ok_lesser T) (hr.mono (by decide)) (by rfl) T.g_lesser T.F_lesser.kp T.b_lesser (fa_cons (fe_var (v4 _)) (fa_cons (fe_call (ok_added T) (hr.mono (by decide)) (by rfl) T.g_added T.F_added.kp T.b_added (fa_cons (fe_ix (fe_ix (fe_var (v0 _)) (fe_var (v1 _))) (fe_var (v6 _))) (fa_cons (fe_neg (fe_call (ok_worth T) (hr.mono (by decide)) (by rfl) T.g_worth T.F_worth.kp T.b_worth (fa_cons (fe_var (v2 _)) (fa_cons (fe_var (v6 _)) fa_nil)) (alen_cons (alen_cons alen_nil)))) fa_nil)) (alen_cons (alen_cons alen_nil))) fa_nil)) (alen_cons (alen_cons alen_nil))))))))
      (fss_one (fs_ret (fe_varS (v4 _))))))
theorem ok_some_point (T : Txt K mg) : FnOk P w K mg base CX0 3 T.a_some_point T.d_some_point ["shape"] (spF K 1 0 m_some_point) :=
  fn_ok (N := ["shape", "point", "k", "high", "low", "number"]) T.F_some_point sc_some_point 0 g_some_point fun cdv A outer s H E hr => by
    have nd := sc_some_point.nd
    have v0 : ∀ pos : Pos, PE (cxOf CX0 P w K mg base ["shape", "point", "k", "high", "low", "number"] "some_point" (defScope s_some_point) T.a_some_point cdv A outer s H E).nox (.Name "shape" pos) (tVar 0) := fun _ => pv 0
    have v1 : ∀ pos : Pos, PE (cxOf CX0 P w K mg base ["shape", "point", "k", "high", "low", "number"] "some_point" (defScope s_some_point) T.a_some_point cdv A outer s H E).nox (.Name "point" pos) (tVar 1) := fun _ => pv 1
    have v2 : ∀ pos : Pos, PE (cxOf CX0 P w K mg base ["shape", "point", "k", "high", "low", "number"] "some_point" (defScope s_some_point) T.a_some_point cdv A outer s H E).nox (.Name "k" pos) (tVar 2) := fun _ => pv 2
    have v3 : ∀ pos : Pos, PE (cxOf CX0 P w K mg base ["shape", "point", "k", "high", "low", "number"] "some_point" (defScope s_some_point) T.a_some_point cdv A outer s H E).nox (.Name "high" pos) (tVar 3) := fun _ => pv 3
    have v4 : ∀ pos : Pos, PE (cxOf CX0 P w K mg base ["shape", "point", "k", "high", "low", "number"] "some_point" (defScope s_some_point) T.a_some_point cdv A outer s H E).nox (.Name "low" pos) (tVar 4) := fun _ => pv 4
    have v5 : ∀ pos : Pos, PE (cxOf CX0 P w K mg base ["shape", "point", "k", "high", "low", "number"] "some_point" (defScope s_some_point) T.a_some_point cdv A outer s H E).nox (.Name "number" pos) (tVar 5) := fun _ => pv 5
    exact (fss_cons (fs_if (ft_isN (fe_var (v0 _)) fe_non) (fss_one (fs_ret fe_non)) fss_nil)
      (fss_cons (fs_set (i := 1) nd rfl (.inl rfl) (fe_lst (kd := .ow 0) fa_nil))
      (fss_cons (fs_for PassesOwn.never rfl (fi_rng1 (by rfl) T.m_range (fe_div (fe_len (by rfl) T.m_len (fa_cons (fe_var (v0 _)) fa_nil)) fe_int)) (fg_name (i := 2) nd rfl (.inl rfl)) (fss_cons (fs_set (i := 3) nd rfl (.inl rfl) (fe_callO (ok_top_beside T) (hr.mono (by decide)) (by rfl) T.g_top_beside T.F_top_beside.kp T.b_top_beside (fa_cons (fe_var (v0 _)) (fa_cons (fe_mul fe_int (fe_var (v2 _))) (fa_cons (fe_var (v1 _)) (fa_cons (fe_rd (fe_lrng1 (by rfl) T.m_list (by rfl) T.m_range (by rfl) (fe_var (v2 _)))) fa_nil)))) (alen_cons (alen_cons (alen_cons (alen_cons alen_nil))))))
      (fss_cons (fs_set (i := 4) nd rfl (.inl rfl) (fe_callO (ok_top_beside T) (hr.mono (by decide)) (by rfl) T.g_top_beside T.F_top_beside.kp T.b_top_beside (fa_cons (fe_var (v0 _)) (fa_cons (fe_addI (fe_mul fe_int (fe_var (v2 _))) fe_int) (fa_cons (fe_var (v1 _)) (fa_cons (fe_rd (fe_lrng1 (by rfl) T.m_list (by rfl) T.m_range (by rfl) (fe_var (v2 _)))) fa_nil)))) (alen_cons (alen_cons (alen_cons (alen_cons alen_nil))))))
      (fss_cons (fs_set (i := 5) nd rfl (.inl rfl) fe_int)
      (fss_cons (fs_if (PW.pt (fw_and (ft_notN (fe_var (v3 _)) fe_non) (fw_and1 (ft_lt (fe_var (v3 _)) fe_int)))) (fss_one (fs_set (i := 5) nd rfl (.inl rfl) (fe_varS (v3 _)))) fss_nil)
      (fss_cons (fs_if (PW.pt (fw_and (ft_notN (fe_var (v4 _)) fe_non) (fw_and1 (ft_lt (fe_var (v4 _)) fe_int)))) (fss_one (fs_set (i := 5) nd rfl (.inl rfl) (fe_neg (fe_var (v4 _))))) fss_nil)
      (fss_one (fs_app (pe_bm PySem.F.plainAttrs_list PySem.F.slot_list_append PySem.F.type_list_append mt_append (v1 _) (pa_cons (fe_varS (v5 _)) pa_nil))))))))))
      (fss_one (fs_ret (fe_fl (fe_tuple (by rfl) T.m_tuple (fe_var (v1 _)))))))))
theorem ok_greatest_of_three (T : Txt K mg) : FnOk P w K mg base CX0 2 T.a_greatest_of_three T.d_greatest_of_three ["shape", "f", "g", "h"] (spF K 4 0 m_greatest_of_three) :=
  fn_ok (N := ["shape", "f", "g", "h", "best", "around"]) T.F_greatest_of_three sc_greatest_of_three 0 g_greatest_of_three fun cdv A outer s H E hr => by
    have nd := sc_greatest_of_three.nd
    have v0 : ∀ pos : Pos, PE (cxOf CX0 P w K mg base ["shape", "f", "g", "h", "best", "around"] "greatest_of_three" (defScope s_greatest_of_three) T.a_greatest_of_three cdv A outer s H E).nox (.Name "shape" pos) (tVar 0) := fun _ => pv 0
    have v1 : ∀ pos : Pos, PE (cxOf CX0 P w K mg base ["shape", "f", "g", "h", "best", "around"] "greatest_of_three" (defScope s_greatest_of_three) T.a_greatest_of_three cdv A outer s H E).nox (.Name "f" pos) (tVar 1) := fun _ => pv 1
    have v2 : ∀ pos : Pos, PE (cxOf CX0 P w K mg base ["shape", "f", "g", "h", "best", "around"] "greatest_of_three" (defScope s_greatest_of_three) T.a_greatest_of_three cdv A outer s H E).nox (.Name "g" pos) (tVar 2) := fun _ => pv 2
    have v3 : ∀ pos : Pos, PE (cxOf CX0 P w K mg base ["shape", "f", "g", "h", "best", "around"] "greatest_of_three" (defScope s_greatest_of_three) T.a_greatest_of_three cdv A outer s H E).nox (.Name "h" pos) (tVar 3) := fun _ => pv 3
    have v4 : ∀ pos : Pos, PE (cxOf CX0 P w K mg base ["shape", "f", "g", "h", "best", "around"] "greatest_of_three" (defScope s_greatest_of_three) T.a_greatest_of_three cdv A outer s H E).nox (.Name "best" pos) (tVar 4) := fun _ => pv 4
    have v5 : ∀ pos : Pos, PE (cxOf CX0 P w K mg base ["shape", "f", "g", "h", "best", "around"] "greatest_of_three" (defScope s_greatest_of_three) T.a_greatest_of_three cdv A outer s H E).nox (.Name "around" pos) (tVar 5) := fun _ => pv 5
    exact (fss_cons (fs_set (i := 4) nd rfl (.inl rfl) (fe_callO (ok_added T) (hr.mono (by decide)) (by rfl) T.g_added T.F_added.kp T.b_added (fa_cons (fe_ix (fe_ix (fe_var (v0 _)) (fe_var (v1 _))) (fe_var (v2 _))) (fa_cons (fe_call (ok_halved_entry T) (hr.mono (by decide)) (by rfl) T.g_halved_entry T.F_halved_entry.kp T.b_halved_entry (fa_cons (fe_ix (fe_ix (fe_var (v0 _)) (fe_var (v3 _))) (fe_var (v3 _))) fa_nil) (alen_cons alen_nil)) fa_nil)) (alen_cons (alen_cons alen_nil))))
      (fss_cons (fs_set (i := 4) nd rfl (.inl rfl) (fe_callO (ok_lesser T) (hr.mono (by decide)) (by rfl) T.g_lesser T.F_lesser.kp T.b_lesser (fa_cons (fe_var (v4 _)) (fa_cons (fe_call (ok_added T) (hr.mono (by decide)) (by rfl) T.g_added T.F_added.kp T.b_added (fa_cons (fe_ix (fe_ix (fe_var (v0 _)) (fe_var (v1 _))) (fe_var (v3 _))) (fa_cons (fe_call (ok_halved_entry T) (hr.mono (by decide)) (by rfl) T.g_halved_entry T.F_halved_entry.kp T.b_halved_entry (fa_cons (fe_ix (fe_ix (fe_var (v0 _)) (fe_var (v2 _))) (fe_var (v2 _))) fa_nil) (alen_cons alen_nil)) fa_nil)) (alen_cons (alen_cons alen_nil))) fa_nil)) (alen_cons (alen_cons alen_nil))))
      (fss_cons (fs_set (i := 4) nd rfl (.inl rfl) (fe_callO (ok_lesser T) (hr.mono (by decide)) (by rfl) T.g_lesser T.F_lesser.kp T.b_lesser (fa_cons (fe_var (v4 _)) (fa_cons (fe_call (ok_added T) (hr.mono (by decide)) (by rfl) T.g_added T.F_added.kp T.b_added (fa_cons (fe_ix (fe_ix (fe_var (v0 _)) (fe_var (v2 _))) (fe_var (v3 _))) (fa_cons (fe_call (ok_halved_entry T) (hr.mono (by decide)) (by rfl) T.g_halved_entry T.F_halved_entry.kp T.b_halved_entry (fa_cons (fe_ix (fe_ix (fe_var (v0 _)) (fe_var (v1 _))) (fe_var (v1 _))) fa_nil) (alen_cons alen_nil)) fa_nil)) (alen_cons (alen_cons alen_nil))) fa_nil)) (alen_cons (alen_cons alen_nil))))
      (fss_cons (fs_set (i := 5) nd rfl (.inl rfl) (fe_callO (ok_added T) (hr.mono (by decide)) (by rfl) T.g_added T.F_added.kp T.b_added (fa_cons (fe_ix (fe_ix (fe_var (v0 _)) (fe_var (v1 _))) (fe_var (v2 _))) (fa_cons (fe_call (ok_added T) (hr.mono (by decide)) (by rfl) T.g_added T.F_added.kp T.b_added (fa_cons (fe_ix (fe_ix (fe_var (v0 _)) (fe_var (v2 _))) (fe_var (v3 _))) (fa_cons (fe_ix (fe_ix (fe_var (v0 _)) (fe_var (v1 _))) (fe_var (v3 _))) fa_nil)) (alen_cons (alen_cons alen_nil))) fa_nil)) (alen_cons (alen_cons alen_nil))))
      (fss_cons (fs_if (ft_notN (fe_var (v5 _)) fe_non) (fss_one (fs_set (i := 4) nd rfl (.inl rfl) (fe_callO (ok_lesser T) (hr.mono (by decide)) (by rfl) T.g_lesser T.F_lesser.kp T.b_lesser (fa_cons (fe_var (v4 _)) (fa_cons (fe_div (fe_var (v5 _)) fe_int) fa_nil)) (alen_cons (alen_cons alen_nil))))) fss_nil)
      (fss_one (fs_ret (fe_varS (v4 _)))))))))
theorem ok_greatest (T : Txt K mg) : FnOk P w K mg base CX0 3 T.a_greatest T.d_greatest ["shape", "forms"] (spF K 2 0 m_greatest) :=
  fn_ok (N := ["shape", "forms"]) T.F_greatest sc_greatest 0 g_greatest fun cdv A outer s H E hr => by
    have nd := sc_greatest.nd
    have v0 : ∀ pos : Pos, PE (cxOf CX0 P w K mg base ["shape", "forms"] "greatest" (defScope s_greatest) T.a_greatest cdv A outer s H E).nox (.Name "shape" pos) (tVar 0) := fun _ => pv 0
    have v1 : ∀ pos : Pos, PE (cxOf CX0 P w K mg base ["shape", "forms"] "greatest" (defScope s_greatest) T.a_greatest cdv A outer s H E).nox (.Name "forms" pos) (tVar 1) := fun _ => pv 1
    exact (fss_cons (fs_if (ft_eq hr.units (fe_len (by rfl) T.m_len (fa_cons (fe_var (v1 _)) fa_nil)) fe_int) (fss_one (fs_ret fe_int)) fss_nil)
      (fss_cons (fs_if (ft_eq hr.units (fe_len (by rfl) T.m_len (fa_cons (fe_var (v1 _)) fa_nil)) fe_int) (fss_one (fs_ret (fe_callO (ok_halved_entry T) (hr.mono (by decide)) (by rfl) T.g_halved_entry T.F_halved_entry.kp T.b_halved_entry (fa_cons (fe_ix (fe_ix (fe_var (v0 _)) (fe_ix (fe_var (v1 _)) fe_int)) (fe_ix (fe_var (v1 _)) fe_int)) fa_nil) (alen_cons alen_nil)))) fss_nil)
      (fss_cons (fs_if (ft_eq hr.units (fe_len (by rfl) T.m_len (fa_cons (fe_var (v1 _)) fa_nil)) fe_int) (fss_one (fs_ret (fe_ixS (fe_ixS (fe_varS (v0 _)) (fe_ix (fe_var (v1 _)) fe_int)) (fe_ix (fe_var (v1 _)) fe_int)))) fss_nil)
      (fss_one (fs_ret (fe_callO (ok_greatest_of_three T) (hr.mono (by decide)) (by rfl) T.g_greatest_of_three T.F_greatest_of_three.kp T.b_greatest_of_three (fa_cons (fe_var (v0 _)) (fa_cons (fe_ix (fe_var (v1 _)) fe_int) (fa_cons (fe_ix (fe_var (v1 _)) fe_int) (fa_cons (fe_ix (fe_var (v1 _)) fe_int) fa_nil)))) (alen_cons (alen_cons (alen_cons (alen_cons alen_nil))))))))))
theorem ok_least_for (T : Txt K mg) : FnOk P w K mg base CX0 1 T.a_least_for T.d_least_for ["slope", "entries", "number"] (spF K 3 0 m_least_for) :=
  fn_ok (N := ["slope", "entries", "number", "some", "entry"]) T.F_least_for sc_least_for 0 g_least_for fun cdv A outer s H E hr => by
    have nd := sc_least_for.nd
    have v0 : ∀ pos : Pos, PE (cxOf CX0 P w K mg base ["slope", "entries", "number", "some", "entry"] "least_for" (defScope s_least_for) T.a_least_for cdv A outer s H E).nox (.Name "slope" pos) (tVar 0) := fun _ => pv 0
    have v1 : ∀ pos : Pos, PE (cxOf CX0 P w K mg base ["slope", "entries", "number", "some", "entry"] "least_for" (defScope s_least_for) T.a_least_for cdv A outer s H E).nox (.Name "entries" pos) (tVar 1) := fun _ => pv 1
    have v2 : ∀ pos : Pos, PE (cxOf CX0 P w K mg base ["slope", "entries", "number", "some", "entry"] "least_for" (defScope s_least_for) T.a_least_for cdv A outer s H E).nox (.Name "number" pos) (tVar 2) := fun _ => pv 2
    have v3 : ∀ pos : Pos, PE (cxOf CX0 P w K mg base ["slope", "entries", "number", "some", "entry"] "least_for" (defScope s_least_for) T.a_least_for cdv A outer s H E).nox (.Name "some" pos) (tVar 3) := fun _ => pv 3
    have v4 : ∀ pos : Pos, PE (cxOf CX0 P w K mg base ["slope", "entries", "number", "some", "entry"] "least_for" (defScope s_least_for) T.a_least_for cdv A outer s H E).nox (.Name "entry" pos) (tVar 4) := fun _ => pv 4
    exact (fss_cons (fs_set (i := 3) nd rfl (.inl rfl) fe_int)
      (fss_cons (fs_for PassesOwn.never rfl (fi_seq (fe_varS (v1 _))) (fg_name (i := 4) nd rfl (.inl rfl)) (fss_cons (fs_if (ft_isN (fe_var (v4 _)) fe_non) (fss_one (fs_ret fe_non)) fss_nil)
      (fss_one (fs_aug (i := 3) ip_add sci_add nd rfl (.inl rfl) (fe_var (v4 _))))))
      (fss_one (fs_ret (fe_neg (fe_div (fe_sub (fe_var (v3 _)) (fe_var (v2 _))) (fe_var (v0 _))))))))
theorem ok_pinned (T : Txt K mg) : FnOk P w K mg base CX0 2 T.a_pinned T.d_pinned ["shape", "f", "g", "h", "number"] (spF K 5 0 m_pinned) :=
  fn_ok (N := ["shape", "f", "g", "h", "number", "back", "top", "falling", "low", "z"]) T.F_pinned sc_pinned 0 g_pinned fun cdv A outer s H E hr => by
    have nd := sc_pinned.nd
    have v0 : ∀ pos : Pos, PE (cxOf CX0 P w K mg base ["shape", "f", "g", "h", "number", "back", "top", "falling", "low", "z"] "pinned" (defScope s_pinned) T.a_pinned cdv A outer s H E).nox (.Name "shape" pos) (tVar 0) := fun _ => pv 0
    have v1 : ∀ pos : Pos, PE (cxOf CX0 P w K mg base ["shape", "f", "g", "h", "number", "back", "top", "falling", "low", "z"] "pinned" (defScope s_pinned) T.a_pinned cdv A outer s H E).nox (.Name "f" pos) (tVar 1) := fun _ => pv 1
    have v2 : ∀ pos : Pos, PE (cxOf CX0 P w K mg base ["shape", "f", "g", "h", "number", "back", "top", "falling", "low", "z"] "pinned" (defScope s_pinned) T.a_pinned cdv A outer s H E).nox (.Name "g" pos) (tVar 2) := fun _ => pv 2
    have v3 : ∀ pos : Pos, PE (cxOf CX0 P w K mg base ["shape", "f", "g", "h", "number", "back", "top", "falling", "low", "z"] "pinned" (defScope s_pinned) T.a_pinned cdv A outer s H E).nox (.Name "h" pos) (tVar 3) := fun _ => pv 3
    have v4 : ∀ pos : Pos, PE (cxOf CX0 P w K mg base ["shape", "f", "g", "h", "number", "back", "top", "falling", "low", "z"] "pinned" (defScope s_pinned) T.a_pinned cdv A outer s H E).nox (.Name "number" pos) (tVar 4) := fun _ => pv 4
    have v5 : ∀ pos : Pos, PE (cxOf CX0 P w K mg base ["shape", "f", "g", "h", "number", "back", "top", "falling", "low", "z"] "pinned" (defScope s_pinned) T.a_pinned cdv A outer s H E).nox (.Name "back" pos) (tVar 5) := fun _ => pv 5
    have v6 : ∀ pos : Pos, PE (cxOf CX0 P w K mg base ["shape", "f", "g", "h", "number", "back", "top", "falling", "low", "z"] "pinned" (defScope s_pinned) T.a_pinned cdv A outer s H E).nox (.Name "top" pos) (tVar 6) := fun _ => pv 6
    have v7 : ∀ pos : Pos, PE (cxOf CX0 P w K mg base ["shape", "f", "g", "h", "number", "back", "top", "falling", "low", "z"] "pinned" (defScope s_pinned) T.a_pinned cdv A outer s H E).nox (.Name "falling" pos) (tVar 7) := fun _ => pv 7
    have v8 : ∀ pos : Pos, PE (cxOf CX0 P w K mg base ["shape", "f", "g", "h", "number", "back", "top", "falling", "low", "z"] "pinned" (defScope s_pinned) T.a_pinned cdv A outer s H E).nox (.Name "low" pos) (tVar 8) := fun _ => pv 8
    exact (fss_cons (fs_set (i := 5) nd rfl (.inl rfl) (fe_callO (ok_flipped T) (hr.mono (by decide)) (by rfl) T.g_flipped T.F_flipped.kp T.b_flipped (fa_cons (fe_var (v3 _)) fa_nil) (alen_cons alen_nil)))
      (fss_cons (fs_set (i := 6) nd rfl (.inl rfl) (fe_callO (ok_halved_entry T) (hr.mono (by decide)) (by rfl) T.g_halved_entry T.F_halved_entry.kp T.b_halved_entry (fa_cons (fe_ix (fe_ix (fe_var (v0 _)) (fe_var (v3 _))) (fe_var (v3 _))) fa_nil) (alen_cons alen_nil)))
      (fss_cons (fs_set (i := 7) nd rfl (.inl rfl) (fe_callO (ok_added T) (hr.mono (by decide)) (by rfl) T.g_added T.F_added.kp T.b_added (fa_cons (fe_ix (fe_ix (fe_var (v0 _)) (fe_var (v1 _))) (fe_var (v3 _))) (fa_cons (fe_ix (fe_ix (fe_var (v0 _)) (fe_var (v2 _))) (fe_var (v3 _))) fa_nil)) (alen_cons (alen_cons alen_nil))))
      (fss_cons (fs_if (ft_notN (fe_var (v7 _)) fe_non) (fss_one (fs_set (i := 6) nd rfl (.inl rfl) (fe_callO (ok_lesser T) (hr.mono (by decide)) (by rfl) T.g_lesser T.F_lesser.kp T.b_lesser (fa_cons (fe_var (v6 _)) (fa_cons (fe_sub (fe_var (v7 _)) (fe_var (v4 _))) fa_nil)) (alen_cons (alen_cons alen_nil))))) fss_nil)
      (fss_cons (fs_if (ft_notN (fe_var (v6 _)) fe_non) (fss_one (fs_ret (fe_varS (v6 _)))) fss_nil)
      (fss_cons (fs_set (i := 8) nd rfl (.inl rfl) (fe_lst (kd := .ow 0) (fa_cons (fe_callO (ok_least_for T) (hr.mono (by decide)) (by rfl) T.g_least_for T.F_least_for.kp T.b_least_for (fa_cons fe_int (fa_cons (fe_lst (kd := .rd) (fa_cons (fe_call (ok_halved_entry T) (hr.mono (by decide)) (by rfl) T.g_halved_entry T.F_halved_entry.kp T.b_halved_entry (fa_cons (fe_ix (fe_ix (fe_var (v0 _)) (fe_var (v5 _))) (fe_var (v5 _))) fa_nil) (alen_cons alen_nil)) fa_nil)) (fa_cons fe_int fa_nil))) (alen_cons (alen_cons (alen_cons alen_nil)))) (fa_cons (fe_callO (ok_least_for T) (hr.mono (by decide)) (by rfl) T.g_least_for T.F_least_for.kp T.b_least_for (fa_cons fe_int (fa_cons (fe_lst (kd := .rd) (fa_cons (fe_ix (fe_ix (fe_var (v0 _)) (fe_var (v1 _))) (fe_var (v2 _))) fa_nil)) (fa_cons (fe_var (v4 _)) fa_nil))) (alen_cons (alen_cons (alen_cons alen_nil)))) fa_nil))))
      (fss_cons (fs_app (pe_bm PySem.F.plainAttrs_list PySem.F.slot_list_append PySem.F.type_list_append mt_append (v8 _) (pa_cons (fe_callO (ok_least_for T) (hr.mono (by decide)) (by rfl) T.g_least_for T.F_least_for.kp T.b_least_for (fa_cons fe_int (fa_cons (fe_lst (kd := .rd) (fa_cons (fe_call (ok_halved_entry T) (hr.mono (by decide)) (by rfl) T.g_halved_entry T.F_halved_entry.kp T.b_halved_entry (fa_cons (fe_ix (fe_ix (fe_var (v0 _)) (fe_var (v1 _))) (fe_var (v1 _))) fa_nil) (alen_cons alen_nil)) (fa_cons (fe_ix (fe_ix (fe_var (v0 _)) (fe_var (v2 _))) (fe_var (v5 _))) fa_nil))) (fa_cons (fe_var (v4 _)) fa_nil))) (alen_cons (alen_cons (alen_cons alen_nil)))) pa_nil)))
      (fss_cons (fs_app (pe_bm PySem.F.plainAttrs_list PySem.F.slot_list_append PySem.F.type_list_append mt_append (v8 _) (pa_cons (fe_callO (ok_least_for T) (hr.mono (by decide)) (by rfl) T.g_least_for T.F_least_for.kp T.b_least_for (fa_cons fe_int (fa_cons (fe_lst (kd := .rd) (fa_cons (fe_call (ok_halved_entry T) (hr.mono (by decide)) (by rfl) T.g_halved_entry T.F_halved_entry.kp T.b_halved_entry (fa_cons (fe_ix (fe_ix (fe_var (v0 _)) (fe_var (v2 _))) (fe_var (v2 _))) fa_nil) (alen_cons alen_nil)) (fa_cons (fe_ix (fe_ix (fe_var (v0 _)) (fe_var (v1 _))) (fe_var (v5 _))) fa_nil))) (fa_cons (fe_var (v4 _)) fa_nil))) (alen_cons (alen_cons (alen_cons alen_nil)))) pa_nil)))
      (fss_cons (fs_app (pe_bm PySem.F.plainAttrs_list PySem.F.slot_list_append PySem.F.type_list_append mt_append (v8 _) (pa_cons (fe_callO (ok_least_for T) (hr.mono (by decide)) (by rfl) T.g_least_for T.F_least_for.kp T.b_least_for (fa_cons fe_int (fa_cons (fe_lst (kd := .rd) (fa_cons (fe_ix (fe_ix (fe_var (v0 _)) (fe_var (v1 _))) (fe_var (v5 _))) (fa_cons (fe_ix (fe_ix (fe_var (v0 _)) (fe_var (v2 _))) (fe_var (v5 _))) fa_nil))) (fa_cons (fe_var (v4 _)) fa_nil))) (alen_cons (alen_cons (alen_cons alen_nil)))) pa_nil)))
      (fss_one (fs_ret (fe_maxD (by rfl) T.m_max (fa_cons (fe_rd (fe_thaw (k := 1) 8 (fe_lc (k := 0) (ow := [("z", 9)]) rfl nd (fi_seq (fe_varS (v8 _))) (blkOk_by (N := ["shape", "f", "g", "h", "number", "back", "top", "falling", "low", "z"]) (sc := defScope s_pinned) (by decide +kernel)) (by decide) (fun _ _ _ _ _ => (fg_name (i := 9) nd rfl (.inl rfl))) (fun _ _ _ _ _ => (pts_t (ft_notN (fe_var (pv 9)) fe_non))) (fun _ _ _ _ _ => (fe_varS (pv 9)))))) fa_nil)))))))))))))
theorem okr_reaching_three (T : Txt K mg) : ∀ k, FnOk P w K mg base CX0 (4 + k) T.a_reaching_three T.d_reaching_three ["shape", "f", "g", "h", "number"] (spF K 5 2 (r_reaching_three k))
  | 0 => fn_none (by rfl)
  | k + 1 => by
    have ih := okr_reaching_three T k
    exact fn_ok (N := ["shape", "f", "g", "h", "number", "z", "part"]) T.F_reaching_three sc_reaching_three 2 (g_reaching_three (r_reaching_three k)) fun cdv A outer s H E hr => by
      have nd := sc_reaching_three.nd
      have hm : ∀ {j : Nat}, j ≤ 4 → Room j (A.deeper (envOfC "reaching_three" (defScope s_reaching_three) s.heap.objs.size T.a_reaching_three cdv)) := fun h => hr.mono (Nat.le_trans h (Nat.le_add_right 4 k))
      have v0 : ∀ pos : Pos, PE (cxOf CX0 P w K mg base ["shape", "f", "g", "h", "number", "z", "part"] "reaching_three" (defScope s_reaching_three) T.a_reaching_three cdv A outer s H E).nox (.Name "shape" pos) (tVar 0) := fun _ => pv 0
      have v1 : ∀ pos : Pos, PE (cxOf CX0 P w K mg base ["shape", "f", "g", "h", "number", "z", "part"] "reaching_three" (defScope s_reaching_three) T.a_reaching_three cdv A outer s H E).nox (.Name "f" pos) (tVar 1) := fun _ => pv 1
      have v2 : ∀ pos : Pos, PE (cxOf CX0 P w K mg base ["shape", "f", "g", "h", "number", "z", "part"] "reaching_three" (defScope s_reaching_three) T.a_reaching_three cdv A outer s H E).nox (.Name "g" pos) (tVar 2) := fun _ => pv 2
      have v3 : ∀ pos : Pos, PE (cxOf CX0 P w K mg base ["shape", "f", "g", "h", "number", "z", "part"] "reaching_three" (defScope s_reaching_three) T.a_reaching_three cdv A outer s H E).nox (.Name "h" pos) (tVar 3) := fun _ => pv 3
      have v4 : ∀ pos : Pos, PE (cxOf CX0 P w K mg base ["shape", "f", "g", "h", "number", "z", "part"] "reaching_three" (defScope s_reaching_three) T.a_reaching_three cdv A outer s H E).nox (.Name "number" pos) (tVar 4) := fun _ => pv 4
      have v5 : ∀ pos : Pos, PE (cxOf CX0 P w K mg base ["shape", "f", "g", "h", "number", "z", "part"] "reaching_three" (defScope s_reaching_three) T.a_reaching_three cdv A outer s H E).nox (.Name "z" pos) (tVar 5) := fun _ => pv 5
      have v6 : ∀ pos : Pos, PE (cxOf CX0 P w K mg base ["shape", "f", "g", "h", "number", "z", "part"] "reaching_three" (defScope s_reaching_three) T.a_reaching_three cdv A outer s H E).nox (.Name "part" pos) (tVar 6) := fun _ => pv 6
      exact (fss_cons (fs_if (PW.pt (fw_and (ft_eq hr.units (fe_var (v1 _)) (fe_var (v2 _))) (fw_and1 (ft_eq hr.units (fe_var (v2 _)) (fe_var (v3 _)))))) (fss_one (fs_ret (fe_callO (ok_held T) (hm (by decide)) (by rfl) T.g_held T.F_held.kp T.b_held (fa_cons (fe_var (v0 _)) (fa_cons (fe_tup (fa_cons (fe_call (ok_flipped T) (hm (by decide)) (by rfl) T.g_flipped T.F_flipped.kp T.b_flipped (fa_cons (fe_var (v1 _)) fa_nil) (alen_cons alen_nil)) (fa_cons (fe_call (ok_flipped T) (hm (by decide)) (by rfl) T.g_flipped T.F_flipped.kp T.b_flipped (fa_cons (fe_var (v1 _)) fa_nil) (alen_cons alen_nil)) (fa_cons (fe_mul fe_int (fe_div (fe_neg (fe_var (v4 _))) fe_int)) fa_nil)))) fa_nil)) (alen_cons (alen_cons alen_nil))))) fss_nil)
      (fss_cons (fs_if (ft_eq hr.units (fe_var (v1 _)) (fe_var (v3 _))) (fss_one (fs_ret (fe_callO ih hr (by rfl) T.g_reaching_three T.F_reaching_three.kp T.b_reaching_three (fa_cons (fe_var (v0 _)) (fa_cons (fe_var (v1 _)) (fa_cons (fe_var (v3 _)) (fa_cons (fe_var (v2 _)) (fa_cons (fe_var (v4 _)) fa_nil))))) (alen_cons (alen_cons (alen_cons (alen_cons (alen_cons alen_nil)))))))) fss_nil)
      (fss_cons (fs_if (ft_eq hr.units (fe_var (v2 _)) (fe_var (v3 _))) (fss_one (fs_ret (fe_callO ih hr (by rfl) T.g_reaching_three T.F_reaching_three.kp T.b_reaching_three (fa_cons (fe_var (v0 _)) (fa_cons (fe_var (v2 _)) (fa_cons (fe_var (v3 _)) (fa_cons (fe_var (v1 _)) (fa_cons (fe_var (v4 _)) fa_nil))))) (alen_cons (alen_cons (alen_cons (alen_cons (alen_cons alen_nil)))))))) fss_nil)
      (fss_cons (fs_set (i := 5) nd rfl (.inl rfl) (fe_callO (ok_pinned T) (hm (by decide)) (by rfl) T.g_pinned T.F_pinned.kp T.b_pinned (fa_cons (fe_var (v0 _)) (fa_cons (fe_var (v1 _)) (fa_cons (fe_var (v2 _)) (fa_cons (fe_var (v3 _)) (fa_cons (fe_var (v4 _)) fa_nil))))) (alen_cons (alen_cons (alen_cons (alen_cons (alen_cons alen_nil)))))))
      (fss_cons (fs_set (i := 6) nd rfl (.inl rfl) (fe_fz (fe_callO (ok_held T) (hm (by decide)) (by rfl) T.g_held T.F_held.kp T.b_held (fa_cons (fe_call (ok_held T) (hm (by decide)) (by rfl) T.g_held T.F_held.kp T.b_held (fa_cons (fe_var (v0 _)) (fa_cons (fe_tup (fa_cons (fe_var (v3 _)) (fa_cons (fe_var (v3 _)) (fa_cons (fe_mul fe_int (fe_var (v5 _))) fa_nil)))) fa_nil)) (alen_cons (alen_cons alen_nil))) (fa_cons (fe_tup (fa_cons (fe_call (ok_flipped T) (hm (by decide)) (by rfl) T.g_flipped T.F_flipped.kp T.b_flipped (fa_cons (fe_var (v3 _)) fa_nil) (alen_cons alen_nil)) (fa_cons (fe_call (ok_flipped T) (hm (by decide)) (by rfl) T.g_flipped T.F_flipped.kp T.b_flipped (fa_cons (fe_var (v3 _)) fa_nil) (alen_cons alen_nil)) (fa_cons (fe_mul (fe_neg fe_int) (fe_var (v5 _))) fa_nil)))) fa_nil)) (alen_cons (alen_cons alen_nil)))))
      (fss_one (fs_ret (fe_callO (ok_held T) (hm (by decide)) (by rfl) T.g_held T.F_held.kp T.b_held (fa_cons (fe_var (v6 _)) (fa_cons (fe_tup (fa_cons (fe_call (ok_flipped T) (hm (by decide)) (by rfl) T.g_flipped T.F_flipped.kp T.b_flipped (fa_cons (fe_var (v1 _)) fa_nil) (alen_cons alen_nil)) (fa_cons (fe_call (ok_flipped T) (hm (by decide)) (by rfl) T.g_flipped T.F_flipped.kp T.b_flipped (fa_cons (fe_var (v2 _)) fa_nil) (alen_cons alen_nil)) (fa_cons (fe_sub (fe_var (v5 _)) (fe_var (v4 _))) fa_nil)))) fa_nil)) (alen_cons (alen_cons alen_nil))))))))))
theorem ok_reaching_three (T : Txt K mg) : FnOk P w K mg base CX0 6 T.a_reaching_three T.d_reaching_three ["shape", "f", "g", "h", "number"] (spF K 5 2 m_reaching_three) := okr_reaching_three T 2
theorem ok_reaching (T : Txt K mg) : FnOk P w K mg base CX0 7 T.a_reaching T.d_reaching ["shape", "forms", "number"] (spF K 3 0 m_reaching) :=
  fn_ok (N := ["shape", "forms", "number", "top"]) T.F_reaching sc_reaching 0 g_reaching fun cdv A outer s H E hr => by
    have nd := sc_reaching.nd
    have v0 : ∀ pos : Pos, PE (cxOf CX0 P w K mg base ["shape", "forms", "number", "top"] "reaching" (defScope s_reaching) T.a_reaching cdv A outer s H E).nox (.Name "shape" pos) (tVar 0) := fun _ => pv 0
    have v1 : ∀ pos : Pos, PE (cxOf CX0 P w K mg base ["shape", "forms", "number", "top"] "reaching" (defScope s_reaching) T.a_reaching cdv A outer s H E).nox (.Name "forms" pos) (tVar 1) := fun _ => pv 1
    have v2 : ∀ pos : Pos, PE (cxOf CX0 P w K mg base ["shape", "forms", "number", "top"] "reaching" (defScope s_reaching) T.a_reaching cdv A outer s H E).nox (.Name "number" pos) (tVar 2) := fun _ => pv 2
    have v3 : ∀ pos : Pos, PE (cxOf CX0 P w K mg base ["shape", "forms", "number", "top"] "reaching" (defScope s_reaching) T.a_reaching cdv A outer s H E).nox (.Name "top" pos) (tVar 3) := fun _ => pv 3
    exact (fss_cons (fs_if (ft_isN (fe_var (v0 _)) fe_non) (fss_one (fs_ret fe_non)) fss_nil)
      (fss_cons (fs_set (i := 3) nd rfl (.inl rfl) (fe_callO (ok_greatest T) (hr.mono (by decide)) (by rfl) T.g_greatest T.F_greatest.kp T.b_greatest (fa_cons (fe_var (v0 _)) (fa_cons (fe_var (v1 _)) fa_nil)) (alen_cons (alen_cons alen_nil))))
      (fss_cons (fs_if (PW.pt (fw_and (ft_notN (fe_var (v3 _)) fe_non) (fw_and1 (ft_lt (fe_var (v3 _)) (fe_var (v2 _)))))) (fss_one (fs_ret fe_non)) fss_nil)
      (fss_cons (fs_if (ft_eq hr.units (fe_len (by rfl) T.m_len (fa_cons (fe_var (v1 _)) fa_nil)) fe_int) (fss_one (fs_ret (fe_callO (ok_some_point T) (hr.mono (by decide)) (by rfl) T.g_some_point T.F_some_point.kp T.b_some_point (fa_cons (fe_var (v0 _)) fa_nil) (alen_cons alen_nil)))) fss_nil)
      (fss_cons (fs_if (ft_eq hr.units (fe_len (by rfl) T.m_len (fa_cons (fe_var (v1 _)) fa_nil)) fe_int) (fss_one (fs_ret (fe_callO (ok_some_point T) (hr.mono (by decide)) (by rfl) T.g_some_point T.F_some_point.kp T.b_some_point (fa_cons (fe_call (ok_held T) (hr.mono (by decide)) (by rfl) T.g_held T.F_held.kp T.b_held (fa_cons (fe_var (v0 _)) (fa_cons (fe_tup (fa_cons (fe_call (ok_flipped T) (hr.mono (by decide)) (by rfl) T.g_flipped T.F_flipped.kp T.b_flipped (fa_cons (fe_ix (fe_var (v1 _)) fe_int) fa_nil) (alen_cons alen_nil)) (fa_cons (fe_call (ok_flipped T) (hr.mono (by decide)) (by rfl) T.g_flipped T.F_flipped.kp T.b_flipped (fa_cons (fe_ix (fe_var (v1 _)) fe_int) fa_nil) (alen_cons alen_nil)) (fa_cons (fe_mul (fe_neg fe_int) (fe_var (v2 _))) fa_nil)))) fa_nil)) (alen_cons (alen_cons alen_nil))) fa_nil) (alen_cons alen_nil)))) fss_nil)
      (fss_cons (fs_if (ft_eq hr.units (fe_len (by rfl) T.m_len (fa_cons (fe_var (v1 _)) fa_nil)) fe_int) (fss_one (fs_ret (fe_callO (ok_some_point T) (hr.mono (by decide)) (by rfl) T.g_some_point T.F_some_point.kp T.b_some_point (fa_cons (fe_call (ok_held T) (hr.mono (by decide)) (by rfl) T.g_held T.F_held.kp T.b_held (fa_cons (fe_var (v0 _)) (fa_cons (fe_tup (fa_cons (fe_call (ok_flipped T) (hr.mono (by decide)) (by rfl) T.g_flipped T.F_flipped.kp T.b_flipped (fa_cons (fe_ix (fe_var (v1 _)) fe_int) fa_nil) (alen_cons alen_nil)) (fa_cons (fe_call (ok_flipped T) (hr.mono (by decide)) (by rfl) T.g_flipped T.F_flipped.kp T.b_flipped (fa_cons (fe_ix (fe_var (v1 _)) fe_int) fa_nil) (alen_cons alen_nil)) (fa_cons (fe_neg (fe_var (v2 _))) fa_nil)))) fa_nil)) (alen_cons (alen_cons alen_nil))) fa_nil) (alen_cons alen_nil)))) fss_nil)
      (fss_one (fs_ret (fe_callO (ok_some_point T) (hr.mono (by decide)) (by rfl) T.g_some_point T.F_some_point.kp T.b_some_point (fa_cons (fe_call (ok_reaching_three T) (hr.mono (by decide)) (by rfl) T.g_reaching_three T.F_reaching_three.kp T.b_reaching_three (fa_cons (fe_var (v0 _)) (fa_cons (fe_ix (fe_var (v1 _)) fe_int) (fa_cons (fe_ix (fe_var (v1 _)) fe_int) (fa_cons (fe_ix (fe_var (v1 _)) fe_int) (fa_cons (fe_var (v2 _)) fa_nil))))) (alen_cons (alen_cons (alen_cons (alen_cons (alen_cons alen_nil)))))) fa_nil) (alen_cons alen_nil))))))))))
theorem ok_joined_line (T : Txt K mg) : FnOk P w K mg base CX0 1 T.a_joined_line T.d_joined_line ["one", "other"] (spF K 2 1 m_joined_line) :=
  fn_ok (N := ["one", "other", "line", "a", "b"]) T.F_joined_line sc_joined_line 1 g_joined_line fun cdv A outer s H E hr => by
    have nd := sc_joined_line.nd
    have v0 : ∀ pos : Pos, PE (cxOf CX0 P w K mg base ["one", "other", "line", "a", "b"] "joined_line" (defScope s_joined_line) T.a_joined_line cdv A outer s H E).nox (.Name "one" pos) (tVar 0) := fun _ => pv 0
    have v1 : ∀ pos : Pos, PE (cxOf CX0 P w K mg base ["one", "other", "line", "a", "b"] "joined_line" (defScope s_joined_line) T.a_joined_line cdv A outer s H E).nox (.Name "other" pos) (tVar 1) := fun _ => pv 1
    have v2 : ∀ pos : Pos, PE (cxOf CX0 P w K mg base ["one", "other", "line", "a", "b"] "joined_line" (defScope s_joined_line) T.a_joined_line cdv A outer s H E).nox (.Name "line" pos) (tVar 2) := fun _ => pv 2
    have v3 : ∀ pos : Pos, PE (cxOf CX0 P w K mg base ["one", "other", "line", "a", "b"] "joined_line" (defScope s_joined_line) T.a_joined_line cdv A outer s H E).nox (.Name "a" pos) (tVar 3) := fun _ => pv 3
    have v4 : ∀ pos : Pos, PE (cxOf CX0 P w K mg base ["one", "other", "line", "a", "b"] "joined_line" (defScope s_joined_line) T.a_joined_line cdv A outer s H E).nox (.Name "b" pos) (tVar 4) := fun _ => pv 4
    exact (fss_cons (fs_set (i := 2) nd rfl (.inl rfl) (fe_lst (kd := .ow 0) fa_nil))
      (fss_cons (fs_for PassesOwn.never rfl (fi_zip (by rfl) T.m_zip (fe_varS (v0 _)) (fe_varS (v1 _))) (fg_tup rfl (fgs_cons (fg_name (i := 3) nd rfl (.inl rfl)) (fgs_cons (fg_name (i := 4) nd rfl (.inl rfl)) fgs_nil))) (fss_one (fs_if (PW.pt (fw_or (ft_isN (fe_var (v3 _)) fe_non) (fw_or1 (ft_isN (fe_var (v4 _)) fe_non)))) (fss_one (fs_app (pe_bm PySem.F.plainAttrs_list PySem.F.slot_list_append PySem.F.type_list_append mt_append (v2 _) (pa_cons fe_non pa_nil)))) (fss_one (fs_app (pe_bm PySem.F.plainAttrs_list PySem.F.slot_list_append PySem.F.type_list_append mt_append (v2 _) (pa_cons (fe_max2 (by rfl) T.m_max (fa_cons (fe_var (v3 _)) (fa_cons (fe_var (v4 _)) fa_nil))) pa_nil)))))))
      (fss_one (fs_retV (v2 _)))))
theorem ok_join (T : Txt K mg) : FnOk P w K mg base CX0 2 T.a_join T.d_join ["one", "other"] (spF K 2 2 m_join) :=
  fn_ok (N := ["one", "other", "a", "b"]) T.F_join sc_join 2 g_join fun cdv A outer s H E hr => by
    have nd := sc_join.nd
    have v0 : ∀ pos : Pos, PE (cxOf CX0 P w K mg base ["one", "other", "a", "b"] "join" (defScope s_join) T.a_join cdv A outer s H E).nox (.Name "one" pos) (tVar 0) := fun _ => pv 0
    have v1 : ∀ pos : Pos, PE (cxOf CX0 P w K mg base ["one", "other", "a", "b"] "join" (defScope s_join) T.a_join cdv A outer s H E).nox (.Name "other" pos) (tVar 1) := fun _ => pv 1
    exact (fss_cons (fs_if (PW.pt (fw_and (ft_isN (fe_var (v0 _)) fe_non) (fw_and1 (ft_isN (fe_var (v1 _)) fe_non)))) (fss_one (fs_ret fe_non)) fss_nil)
      (fss_cons (fs_if (ft_isN (fe_var (v0 _)) fe_non) (fss_one (fs_ret (fe_callO (ok_copied T) (hr.mono (by decide)) (by rfl) T.g_copied T.F_copied.kp T.b_copied (fa_cons (fe_var (v1 _)) fa_nil) (alen_cons alen_nil)))) fss_nil)
      (fss_cons (fs_if (ft_isN (fe_var (v1 _)) fe_non) (fss_one (fs_ret (fe_callO (ok_copied T) (hr.mono (by decide)) (by rfl) T.g_copied T.F_copied.kp T.b_copied (fa_cons (fe_var (v0 _)) fa_nil) (alen_cons alen_nil)))) fss_nil)
      (fss_one (fs_ret (fe_lc (k := 1) (ow := [("a", 2), ("b", 3)]) rfl nd (fi_zip (by rfl) T.m_zip (fe_varS (v0 _)) (fe_varS (v1 _))) (blkOk_by (N := ["one", "other", "a", "b"]) (sc := defScope s_join) (by decide +kernel)) (by decide) (fun _ _ _ _ _ => (fg_tup rfl (fgs_cons (fg_name (i := 2) nd rfl (.inl rfl)) (fgs_cons (fg_name (i := 3) nd rfl (.inl rfl)) fgs_nil)))) (fun _ _ _ _ _ => pts_yes) (fun _ _ _ _ _ => (fe_callO (ok_joined_line T) (hr.mono (by decide)) (by rfl) T.g_joined_line T.F_joined_line.kp T.b_joined_line (fa_cons (fe_var (pv 2)) (fa_cons (fe_var (pv 3)) fa_nil)) (alen_cons (alen_cons alen_nil))))))))))
theorem ok_turned (T : Txt K mg) : FnOk P w K mg base CX0 1 T.a_turned T.d_turned ["question"] (spF K 1 0 m_turned) :=
  fn_ok (N := ["question", "word"]) T.F_turned sc_turned 0 g_turned fun cdv A outer s H E hr => by
    have nd := sc_turned.nd
    have v0 : ∀ pos : Pos, PE (cxOf CX0 P w K mg base ["question", "word"] "turned" (defScope s_turned) T.a_turned cdv A outer s H E).nox (.Name "question" pos) (tVar 0) := fun _ => pv 0
    have v1 : ∀ pos : Pos, PE (cxOf CX0 P w K mg base ["question", "word"] "turned" (defScope s_turned) T.a_turned cdv A outer s H E).nox (.Name "word" pos) (tVar 1) := fun _ => pv 1
    exact (fss_cons (fs_set (i := 1) nd rfl (.inl rfl) (fe_ixS (fe_varS (v0 _)) fe_int))
      (fss_cons (fs_if (ft_eq hr.units (fe_var (v1 _)) fe_str) (fss_one (fs_ret (fe_tup (fa_cons (fe_ixS (fe_varS (v0 _)) fe_int) (fa_cons (fe_ixS (fe_varS (v0 _)) fe_int) (fa_cons fe_str (fa_cons (fe_addI (fe_ix (fe_var (v0 _)) fe_int) fe_int) fa_nil))))))) fss_nil)
      (fss_cons (fs_if (ft_eq hr.units (fe_var (v1 _)) fe_str) (fss_one (fs_ret (fe_tup (fa_cons (fe_ixS (fe_varS (v0 _)) fe_int) (fa_cons (fe_ixS (fe_varS (v0 _)) fe_int) (fa_cons fe_str (fa_cons (fe_sub (fe_ix (fe_var (v0 _)) fe_int) fe_int) fa_nil))))))) fss_nil)
      (fss_cons (fs_if (ft_eq hr.units (fe_var (v1 _)) fe_str) (fss_one (fs_ret (fe_tup (fa_cons (fe_ixS (fe_varS (v0 _)) fe_int) (fa_cons (fe_ixS (fe_varS (v0 _)) fe_int) (fa_cons fe_str (fa_cons (fe_ixS (fe_varS (v0 _)) fe_int) fa_nil))))))) fss_nil)
      (fss_one (fs_ret (fe_tup (fa_cons (fe_ixS (fe_varS (v0 _)) fe_int) (fa_cons (fe_ixS (fe_varS (v0 _)) fe_int) (fa_cons fe_str (fa_cons (fe_ixS (fe_varS (v0 _)) fe_int) fa_nil)))))))))))
theorem ok_below (T : Txt K mg) : FnOk P w K mg base CX0 1 T.a_below T.d_below ["f", "g", "number"] (spF K 3 0 m_below) :=
  fn_ok (N := ["f", "g", "number"]) T.F_below sc_below 0 g_below fun cdv A outer s H E hr => by
    have nd := sc_below.nd
    have v0 : ∀ pos : Pos, PE (cxOf CX0 P w K mg base ["f", "g", "number"] "below" (defScope s_below) T.a_below cdv A outer s H E).nox (.Name "f" pos) (tVar 0) := fun _ => pv 0
    have v1 : ∀ pos : Pos, PE (cxOf CX0 P w K mg base ["f", "g", "number"] "below" (defScope s_below) T.a_below cdv A outer s H E).nox (.Name "g" pos) (tVar 1) := fun _ => pv 1
    have v2 : ∀ pos : Pos, PE (cxOf CX0 P w K mg base ["f", "g", "number"] "below" (defScope s_below) T.a_below cdv A outer s H E).nox (.Name "number" pos) (tVar 2) := fun _ => pv 2
    exact (fss_cons (fs_if (ft_isN (fe_var (v1 _)) fe_non) (fss_one (fs_ret (fe_tup (fa_cons (fe_varS (v0 _)) (fa_cons (fe_varS (v0 _)) (fa_cons (fe_mul fe_int (fe_var (v2 _))) fa_nil)))))) fss_nil)
      (fss_one (fs_ret (fe_tup (fa_cons (fe_varS (v0 _)) (fa_cons (fe_varS (v1 _)) (fa_cons (fe_varS (v2 _)) fa_nil)))))))
theorem ok_above (T : Txt K mg) : FnOk P w K mg base CX0 2 T.a_above T.d_above ["f", "g", "number"] (spF K 3 0 m_above) :=
  fn_ok (N := ["f", "g", "number"]) T.F_above sc_above 0 g_above fun cdv A outer s H E hr => by
    have nd := sc_above.nd
    have v0 : ∀ pos : Pos, PE (cxOf CX0 P w K mg base ["f", "g", "number"] "above" (defScope s_above) T.a_above cdv A outer s H E).nox (.Name "f" pos) (tVar 0) := fun _ => pv 0
    have v1 : ∀ pos : Pos, PE (cxOf CX0 P w K mg base ["f", "g", "number"] "above" (defScope s_above) T.a_above cdv A outer s H E).nox (.Name "g" pos) (tVar 1) := fun _ => pv 1
    have v2 : ∀ pos : Pos, PE (cxOf CX0 P w K mg base ["f", "g", "number"] "above" (defScope s_above) T.a_above cdv A outer s H E).nox (.Name "number" pos) (tVar 2) := fun _ => pv 2
    exact (fss_cons (fs_if (ft_isN (fe_var (v1 _)) fe_non) (fss_one (fs_ret (fe_tup (fa_cons (fe_callO (ok_flipped T) (hr.mono (by decide)) (by rfl) T.g_flipped T.F_flipped.kp T.b_flipped (fa_cons (fe_var (v0 _)) fa_nil) (alen_cons alen_nil)) (fa_cons (fe_callO (ok_flipped T) (hr.mono (by decide)) (by rfl) T.g_flipped T.F_flipped.kp T.b_flipped (fa_cons (fe_var (v0 _)) fa_nil) (alen_cons alen_nil)) (fa_cons (fe_mul (fe_neg fe_int) (fe_var (v2 _))) fa_nil)))))) fss_nil)
      (fss_one (fs_ret (fe_tup (fa_cons (fe_callO (ok_flipped T) (hr.mono (by decide)) (by rfl) T.g_flipped T.F_flipped.kp T.b_flipped (fa_cons (fe_var (v0 _)) fa_nil) (alen_cons alen_nil)) (fa_cons (fe_callO (ok_flipped T) (hr.mono (by decide)) (by rfl) T.g_flipped T.F_flipped.kp T.b_flipped (fa_cons (fe_var (v1 _)) fa_nil) (alen_cons alen_nil)) (fa_cons (fe_neg (fe_var (v2 _))) fa_nil)))))))
theorem ok_cases (T : Txt K mg) : FnOk P w K mg base CX0 3 T.a_cases T.d_cases ["question"] (spF K 1 2 m_cases) :=
  fn_ok (N := ["question", "f", "g", "word", "number"]) T.F_cases sc_cases 2 g_cases fun cdv A outer s H E hr => by
    have nd := sc_cases.nd
    have v0 : ∀ pos : Pos, PE (cxOf CX0 P w K mg base ["question", "f", "g", "word", "number"] "cases" (defScope s_cases) T.a_cases cdv A outer s H E).nox (.Name "question" pos) (tVar 0) := fun _ => pv 0
    have v1 : ∀ pos : Pos, PE (cxOf CX0 P w K mg base ["question", "f", "g", "word", "number"] "cases" (defScope s_cases) T.a_cases cdv A outer s H E).nox (.Name "f" pos) (tVar 1) := fun _ => pv 1
    have v2 : ∀ pos : Pos, PE (cxOf CX0 P w K mg base ["question", "f", "g", "word", "number"] "cases" (defScope s_cases) T.a_cases cdv A outer s H E).nox (.Name "g" pos) (tVar 2) := fun _ => pv 2
    have v3 : ∀ pos : Pos, PE (cxOf CX0 P w K mg base ["question", "f", "g", "word", "number"] "cases" (defScope s_cases) T.a_cases cdv A outer s H E).nox (.Name "word" pos) (tVar 3) := fun _ => pv 3
    have v4 : ∀ pos : Pos, PE (cxOf CX0 P w K mg base ["question", "f", "g", "word", "number"] "cases" (defScope s_cases) T.a_cases cdv A outer s H E).nox (.Name "number" pos) (tVar 4) := fun _ => pv 4
    exact (fss_cons (fs_set (i := 1) nd rfl (.inl rfl) (fe_ixS (fe_varS (v0 _)) fe_int))
      (fss_cons (fs_set (i := 2) nd rfl (.inl rfl) (fe_ixS (fe_varS (v0 _)) fe_int))
      (fss_cons (fs_set (i := 3) nd rfl (.inl rfl) (fe_ixS (fe_varS (v0 _)) fe_int))
      (fss_cons (fs_set (i := 4) nd rfl (.inl rfl) (fe_ixS (fe_varS (v0 _)) fe_int))
      (fss_cons (fs_if (ft_eq hr.units (fe_var (v3 _)) fe_str) (fss_one (fs_ret (fe_lst (kd := .ow 1) (fa_cons (fe_lst (kd := .ow 0) (fa_cons (fe_callO (ok_below T) (hr.mono (by decide)) (by rfl) T.g_below T.F_below.kp T.b_below (fa_cons (fe_var (v1 _)) (fa_cons (fe_var (v2 _)) (fa_cons (fe_var (v4 _)) fa_nil))) (alen_cons (alen_cons (alen_cons alen_nil)))) fa_nil)) fa_nil)))) fss_nil)
      (fss_cons (fs_if (ft_eq hr.units (fe_var (v3 _)) fe_str) (fss_one (fs_ret (fe_lst (kd := .ow 1) (fa_cons (fe_lst (kd := .ow 0) (fa_cons (fe_callO (ok_above T) (hr.mono (by decide)) (by rfl) T.g_above T.F_above.kp T.b_above (fa_cons (fe_var (v1 _)) (fa_cons (fe_var (v2 _)) (fa_cons (fe_var (v4 _)) fa_nil))) (alen_cons (alen_cons (alen_cons alen_nil)))) fa_nil)) fa_nil)))) fss_nil)
      (fss_cons (fs_if (ft_eq hr.units (fe_var (v3 _)) fe_str) (fss_one (fs_ret (fe_lst (kd := .ow 1) (fa_cons (fe_lst (kd := .ow 0) (fa_cons (fe_callO (ok_below T) (hr.mono (by decide)) (by rfl) T.g_below T.F_below.kp T.b_below (fa_cons (fe_var (v1 _)) (fa_cons (fe_var (v2 _)) (fa_cons (fe_var (v4 _)) fa_nil))) (alen_cons (alen_cons (alen_cons alen_nil)))) (fa_cons (fe_callO (ok_above T) (hr.mono (by decide)) (by rfl) T.g_above T.F_above.kp T.b_above (fa_cons (fe_var (v1 _)) (fa_cons (fe_var (v2 _)) (fa_cons (fe_var (v4 _)) fa_nil))) (alen_cons (alen_cons (alen_cons alen_nil)))) fa_nil))) fa_nil)))) fss_nil)
      (fss_one (fs_ret (fe_lst (kd := .ow 1) (fa_cons (fe_lst (kd := .ow 0) (fa_cons (fe_callO (ok_below T) (hr.mono (by decide)) (by rfl) T.g_below T.F_below.kp T.b_below (fa_cons (fe_var (v1 _)) (fa_cons (fe_var (v2 _)) (fa_cons (fe_sub (fe_var (v4 _)) fe_int) fa_nil))) (alen_cons (alen_cons (alen_cons alen_nil)))) fa_nil)) (fa_cons (fe_lst (kd := .ow 0) (fa_cons (fe_callO (ok_above T) (hr.mono (by decide)) (by rfl) T.g_above T.F_above.kp T.b_above (fa_cons (fe_var (v1 _)) (fa_cons (fe_var (v2 _)) (fa_cons (fe_addI (fe_var (v4 _)) fe_int) fa_nil))) (alen_cons (alen_cons (alen_cons alen_nil)))) fa_nil)) fa_nil))))))))))))
theorem ok_law_cell (T : Txt K mg) : FnOk P w K mg base CX0 1 T.a_law_cell T.d_law_cell ["_law_script", "_law_k"] (spF K 2 0 m_law_cell) :=
  fn_ok (N := ["_law_script", "_law_k", "_law_seed", "_law_some"]) T.F_law_cell sc_law_cell 0 g_law_cell fun cdv A outer s H E hr => by
    have nd := sc_law_cell.nd
    have v0 : ∀ pos : Pos, PE (cxOf CX0 P w K mg base ["_law_script", "_law_k", "_law_seed", "_law_some"] "_law_cell" (defScope s_law_cell) T.a_law_cell cdv A outer s H E).nox (.Name "_law_script" pos) (tVar 0) := fun _ => pv 0
    have v1 : ∀ pos : Pos, PE (cxOf CX0 P w K mg base ["_law_script", "_law_k", "_law_seed", "_law_some"] "_law_cell" (defScope s_law_cell) T.a_law_cell cdv A outer s H E).nox (.Name "_law_k" pos) (tVar 1) := fun _ => pv 1
    have v2 : ∀ pos : Pos, PE (cxOf CX0 P w K mg base ["_law_script", "_law_k", "_law_seed", "_law_some"] "_law_cell" (defScope s_law_cell) T.a_law_cell cdv A outer s H E).nox (.Name "_law_seed" pos) (tVar 2) := fun _ => pv 2
    have v3 : ∀ pos : Pos, PE (cxOf CX0 P w K mg base ["_law_script", "_law_k", "_law_seed", "_law_some"] "_law_cell" (defScope s_law_cell) T.a_law_cell cdv A outer s H E).nox (.Name "_law_some" pos) (tVar 3) := fun _ => pv 3
    exact (fss_cons (fs_if (ft_lt (fe_var (v1 _)) (fe_len (by rfl) T.m_len (fa_cons (fe_var (v0 _)) fa_nil))) (fss_one (fs_ret (fe_ixS (fe_varS (v0 _)) (fe_var (v1 _))))) fss_nil)
      (fss_cons (fs_set (i := 2) nd rfl (.inl rfl) (fe_mul (fe_var (v1 _)) fe_int))
      (fss_cons (fs_if (ft_gt (fe_len (by rfl) T.m_len (fa_cons (fe_var (v0 _)) fa_nil)) fe_int) (fss_one (fs_set (i := 2) nd rfl (.inl rfl) (fe_addI (fe_var (v2 _)) (fe_mod (fe_ix (fe_var (v0 _)) (fe_mod (fe_var (v1 _)) (fe_len (by rfl) T.m_len (fa_cons (fe_var (v0 _)) fa_nil)))) fe_int)))) fss_nil)
      (fss_cons (fs_set (i := 3) nd rfl (.inl rfl) (fe_mod (fe_mul (fe_var (v2 _)) fe_int) fe_int))
      (fss_one (fs_ret (fe_mod (fe_div (fe_mul (fe_var (v3 _)) (fe_addI (fe_addI (fe_var (v3 _)) (fe_mul fe_int (fe_var (v1 _)))) fe_int)) fe_int) fe_int)))))))
theorem ok_law_whole (T : Txt K mg) : FnOk P w K mg base CX0 1 T.a_law_whole T.d_law_whole ["_law_found"] (spF K 1 0 m_law_whole) :=
  fn_ok (N := ["_law_found"]) T.F_law_whole sc_law_whole 0 g_law_whole fun cdv A outer s H E hr => by
    have nd := sc_law_whole.nd
    have v0 : ∀ pos : Pos, PE (cxOf CX0 P w K mg base ["_law_found"] "_law_whole" (defScope s_law_whole) T.a_law_whole cdv A outer s H E).nox (.Name "_law_found" pos) (tVar 0) := fun _ => pv 0
    exact (fss_one (fs_ret (fe_and (fe_isi (T := "int") (by rfl) T.m_isinstance (pe_bltn (by rfl) T.m_int (by decide +kernel) rfl) (fe_var (v0 _))) (fe_one (fe_not (fe_isi (T := "bool") (by rfl) T.m_isinstance (pe_bltn (by rfl) T.m_bool (by decide +kernel) rfl) (fe_var (v0 _))))))))
theorem ok_law_worth (T : Txt K mg) : FnOk P w K mg base CX0 1 T.a_law_worth T.d_law_worth ["_law_point", "_law_f"] (spF K 2 0 m_law_worth) :=
  fn_ok (N := ["_law_point", "_law_f"]) T.F_law_worth sc_law_worth 0 g_law_worth fun cdv A outer s H E hr => by
    have nd := sc_law_worth.nd
    have v0 : ∀ pos : Pos, PE (cxOf CX0 P w K mg base ["_law_point", "_law_f"] "_law_worth" (defScope s_law_worth) T.a_law_worth cdv A outer s H E).nox (.Name "_law_point" pos) (tVar 0) := fun _ => pv 0
    have v1 : ∀ pos : Pos, PE (cxOf CX0 P w K mg base ["_law_point", "_law_f"] "_law_worth" (defScope s_law_worth) T.a_law_worth cdv A outer s H E).nox (.Name "_law_f" pos) (tVar 1) := fun _ => pv 1
    exact (fss_one (fs_ret (fe_mul (fe_ix (fe_var (v0 _)) (fe_div (fe_var (v1 _)) fe_int)) (fe_sub fe_int (fe_mul (fe_mod (fe_var (v1 _)) fe_int) fe_int)))))
theorem ok_law_sum (T : Txt K mg) : FnOk P w K mg base CX0 2 T.a_law_sum T.d_law_sum ["_law_point", "_law_forms"] (spF K 2 0 m_law_sum) :=
  fn_ok (N := ["_law_point", "_law_forms", "_law_some", "_law_f"]) T.F_law_sum sc_law_sum 0 g_law_sum fun cdv A outer s H E hr => by
    have nd := sc_law_sum.nd
    have v0 : ∀ pos : Pos, PE (cxOf CX0 P w K mg base ["_law_point", "_law_forms", "_law_some", "_law_f"] "_law_sum" (defScope s_law_sum) T.a_law_sum cdv A outer s H E).nox (.Name "_law_point" pos) (tVar 0) := fun _ => pv 0
    have v1 : ∀ pos : Pos, PE (cxOf CX0 P w K mg base ["_law_point", "_law_forms", "_law_some", "_law_f"] "_law_sum" (defScope s_law_sum) T.a_law_sum cdv A outer s H E).nox (.Name "_law_forms" pos) (tVar 1) := fun _ => pv 1
    have v2 : ∀ pos : Pos, PE (cxOf CX0 P w K mg base ["_law_point", "_law_forms", "_law_some", "_law_f"] "_law_sum" (defScope s_law_sum) T.a_law_sum cdv A outer s H E).nox (.Name "_law_some" pos) (tVar 2) := fun _ => pv 2
    have v3 : ∀ pos : Pos, PE (cxOf CX0 P w K mg base ["_law_point", "_law_forms", "_law_some", "_law_f"] "_law_sum" (defScope s_law_sum) T.a_law_sum cdv A outer s H E).nox (.Name "_law_f" pos) (tVar 3) := fun _ => pv 3
    exact (fss_cons (fs_set (i := 2) nd rfl (.inl rfl) fe_int)
      (fss_cons (fs_for PassesOwn.never rfl (fi_seq (fe_varS (v1 _))) (fg_name (i := 3) nd rfl (.inl rfl)) (fss_one (fs_set (i := 2) nd rfl (.inl rfl) (fe_addI (fe_var (v2 _)) (fe_call (ok_law_worth T) (hr.mono (by decide)) (by rfl) T.g_law_worth T.F_law_worth.kp T.b_law_worth (fa_cons (fe_var (v0 _)) (fa_cons (fe_var (v3 _)) fa_nil)) (alen_cons (alen_cons alen_nil)))))))
      (fss_one (fs_ret (fe_varS (v2 _))))))
theorem ok_law_keeps (T : Txt K mg) : FnOk P w K mg base CX0 2 T.a_law_keeps T.d_law_keeps ["_law_point", "_law_sides"] (spF K 2 0 m_law_keeps) :=
  fn_ok (N := ["_law_point", "_law_sides", "_law_side"]) T.F_law_keeps sc_law_keeps 0 g_law_keeps fun cdv A outer s H E hr => by
    have nd := sc_law_keeps.nd
    have v0 : ∀ pos : Pos, PE (cxOf CX0 P w K mg base ["_law_point", "_law_sides", "_law_side"] "_law_keeps" (defScope s_law_keeps) T.a_law_keeps cdv A outer s H E).nox (.Name "_law_point" pos) (tVar 0) := fun _ => pv 0
    have v1 : ∀ pos : Pos, PE (cxOf CX0 P w K mg base ["_law_point", "_law_sides", "_law_side"] "_law_keeps" (defScope s_law_keeps) T.a_law_keeps cdv A outer s H E).nox (.Name "_law_sides" pos) (tVar 1) := fun _ => pv 1
    have v2 : ∀ pos : Pos, PE (cxOf CX0 P w K mg base ["_law_point", "_law_sides", "_law_side"] "_law_keeps" (defScope s_law_keeps) T.a_law_keeps cdv A outer s H E).nox (.Name "_law_side" pos) (tVar 2) := fun _ => pv 2
    exact (fss_cons (fs_for PassesOwn.never rfl (fi_seq (fe_varS (v1 _))) (fg_name (i := 2) nd rfl (.inl rfl)) (fss_one (fs_if (ft_gt (fe_addI (fe_call (ok_law_worth T) (hr.mono (by decide)) (by rfl) T.g_law_worth T.F_law_worth.kp T.b_law_worth (fa_cons (fe_var (v0 _)) (fa_cons (fe_ix (fe_var (v2 _)) fe_int) fa_nil)) (alen_cons (alen_cons alen_nil))) (fe_call (ok_law_worth T) (hr.mono (by decide)) (by rfl) T.g_law_worth T.F_law_worth.kp T.b_law_worth (fa_cons (fe_var (v0 _)) (fa_cons (fe_ix (fe_var (v2 _)) fe_int) fa_nil)) (alen_cons (alen_cons alen_nil)))) (fe_ix (fe_var (v2 _)) fe_int)) (fss_one (fs_ret fe_bl)) fss_nil)))
      (fss_one (fs_ret fe_bl)))
theorem ok_law_point_like (T : Txt K mg) : FnOk P w K mg base CX0 2 T.a_law_point_like T.d_law_point_like ["_law_found", "_law_count"] (spF K 2 0 m_law_point_like) :=
  fn_ok (N := ["_law_found", "_law_count", "_law_part"]) T.F_law_point_like sc_law_point_like 0 g_law_point_like fun cdv A outer s H E hr => by
    have nd := sc_law_point_like.nd
    have v0 : ∀ pos : Pos, PE (cxOf CX0 P w K mg base ["_law_found", "_law_count", "_law_part"] "_law_point_like" (defScope s_law_point_like) T.a_law_point_like cdv A outer s H E).nox (.Name "_law_found" pos) (tVar 0) := fun _ => pv 0
    have v1 : ∀ pos : Pos, PE (cxOf CX0 P w K mg base ["_law_found", "_law_count", "_law_part"] "_law_point_like" (defScope s_law_point_like) T.a_law_point_like cdv A outer s H E).nox (.Name "_law_count" pos) (tVar 1) := fun _ => pv 1
    have v2 : ∀ pos : Pos, PE (cxOf CX0 P w K mg base ["_law_found", "_law_count", "_law_part"] "_law_point_like" (defScope s_law_point_like) T.a_law_point_like cdv A outer s H E).nox (.Name "_law_part" pos) (tVar 2) := fun _ => pv 2
    exact (fss_cons (fs_if (PW.pt (fw_or (ft_not (ft_val (fe_isi (T := "tuple") (by rfl) T.m_isinstance (pe_bltn (by rfl) T.m_tuple (by decide +kernel) rfl) (fe_var (v0 _))))) (fw_or1 (ft_ne hr.units (fe_len (by rfl) T.m_len (fa_cons (fe_var (v0 _)) fa_nil)) (fe_var (v1 _)))))) (fss_one (fs_ret fe_bl)) fss_nil)
      (fss_cons (fs_for PassesOwn.never rfl (fi_seq (fe_varS (v0 _))) (fg_name (i := 2) nd rfl (.inl rfl)) (fss_one (fs_if (ft_not (ft_val (fe_call (ok_law_whole T) (hr.mono (by decide)) (by rfl) T.g_law_whole T.F_law_whole.kp T.b_law_whole (fa_cons (fe_var (v2 _)) fa_nil) (alen_cons alen_nil)))) (fss_one (fs_ret fe_bl)) fss_nil)))
      (fss_one (fs_ret fe_bl))))
theorem ok_law_copy (T : Txt K mg) : FnOk P w K mg base CX0 1 T.a_law_copy T.d_law_copy ["_law_shape"] (spF K 1 2 m_law_copy) :=
  fn_ok (N := ["_law_shape", "_law_line"]) T.F_law_copy sc_law_copy 2 g_law_copy fun cdv A outer s H E hr => by
    have nd := sc_law_copy.nd
    have v0 : ∀ pos : Pos, PE (cxOf CX0 P w K mg base ["_law_shape", "_law_line"] "_law_copy" (defScope s_law_copy) T.a_law_copy cdv A outer s H E).nox (.Name "_law_shape" pos) (tVar 0) := fun _ => pv 0
    exact (fss_cons (fs_if (ft_isN (fe_var (v0 _)) fe_non) (fss_one (fs_ret fe_non)) fss_nil)
      (fss_one (fs_ret (fe_lc (k := 1) (ow := [("_law_line", 1)]) rfl nd (fi_seq (fe_varS (v0 _))) (blkOk_by (N := ["_law_shape", "_law_line"]) (sc := defScope s_law_copy) (by decide +kernel)) (by decide) (fun _ _ _ _ _ => (fg_name (i := 1) nd rfl (.inl rfl))) (fun _ _ _ _ _ => pts_yes) (fun _ _ _ _ _ => (fe_list (by rfl) T.m_list (fe_var (pv 1))))))))
theorem ok_law_lies (T : Txt K mg) : FnOk P w K mg base CX0 2 T.a_law_lies T.d_law_lies ["_law_table", "_law_point"] (spF K 2 0 m_law_lies) :=
  fn_ok (N := ["_law_table", "_law_point", "_law_f", "_law_g", "_law_entry"]) T.F_law_lies sc_law_lies 0 g_law_lies fun cdv A outer s H E hr => by
    have nd := sc_law_lies.nd
    have v0 : ∀ pos : Pos, PE (cxOf CX0 P w K mg base ["_law_table", "_law_point", "_law_f", "_law_g", "_law_entry"] "_law_lies" (defScope s_law_lies) T.a_law_lies cdv A outer s H E).nox (.Name "_law_table" pos) (tVar 0) := fun _ => pv 0
    have v1 : ∀ pos : Pos, PE (cxOf CX0 P w K mg base ["_law_table", "_law_point", "_law_f", "_law_g", "_law_entry"] "_law_lies" (defScope s_law_lies) T.a_law_lies cdv A outer s H E).nox (.Name "_law_point" pos) (tVar 1) := fun _ => pv 1
    have v2 : ∀ pos : Pos, PE (cxOf CX0 P w K mg base ["_law_table", "_law_point", "_law_f", "_law_g", "_law_entry"] "_law_lies" (defScope s_law_lies) T.a_law_lies cdv A outer s H E).nox (.Name "_law_f" pos) (tVar 2) := fun _ => pv 2
    have v3 : ∀ pos : Pos, PE (cxOf CX0 P w K mg base ["_law_table", "_law_point", "_law_f", "_law_g", "_law_entry"] "_law_lies" (defScope s_law_lies) T.a_law_lies cdv A outer s H E).nox (.Name "_law_g" pos) (tVar 3) := fun _ => pv 3
    have v4 : ∀ pos : Pos, PE (cxOf CX0 P w K mg base ["_law_table", "_law_point", "_law_f", "_law_g", "_law_entry"] "_law_lies" (defScope s_law_lies) T.a_law_lies cdv A outer s H E).nox (.Name "_law_entry" pos) (tVar 4) := fun _ => pv 4
    exact (fss_cons (fs_for PassesOwn.never rfl (fi_rng1 (by rfl) T.m_range (fe_len (by rfl) T.m_len (fa_cons (fe_var (v0 _)) fa_nil))) (fg_name (i := 2) nd rfl (.inl rfl)) (fss_one (fs_for PassesOwn.never rfl (fi_rng1 (by rfl) T.m_range (fe_len (by rfl) T.m_len (fa_cons (fe_var (v0 _)) fa_nil))) (fg_name (i := 3) nd rfl (.inl rfl)) (fss_cons (fs_set (i := 4) nd rfl (.inl rfl) (fe_ixS (fe_ixS (fe_varS (v0 _)) (fe_var (v2 _))) (fe_var (v3 _))))
      (fss_one (fs_if (PW.pt (fw_and (ft_notN (fe_var (v4 _)) fe_non) (fw_and1 (ft_gt (fe_addI (fe_call (ok_law_worth T) (hr.mono (by decide)) (by rfl) T.g_law_worth T.F_law_worth.kp T.b_law_worth (fa_cons (fe_var (v1 _)) (fa_cons (fe_var (v2 _)) fa_nil)) (alen_cons (alen_cons alen_nil))) (fe_call (ok_law_worth T) (hr.mono (by decide)) (by rfl) T.g_law_worth T.F_law_worth.kp T.b_law_worth (fa_cons (fe_var (v1 _)) (fa_cons (fe_var (v3 _)) fa_nil)) (alen_cons (alen_cons alen_nil)))) (fe_var (v4 _)))))) (fss_one (fs_ret fe_bl)) fss_nil))))))
      (fss_one (fs_ret fe_bl)))
theorem ok_law_holds (T : Txt K mg) : FnOk P w K mg base CX0 2 T.a_law_holds T.d_law_holds ["_law_point", "_law_question_here"] (spF K 2 0 m_law_holds) :=
  fn_ok (N := ["_law_point", "_law_question_here", "_law_some"]) T.F_law_holds sc_law_holds 0 g_law_holds fun cdv A outer s H E hr => by
    have nd := sc_law_holds.nd
    have v0 : ∀ pos : Pos, PE (cxOf CX0 P w K mg base ["_law_point", "_law_question_here", "_law_some"] "_law_holds" (defScope s_law_holds) T.a_law_holds cdv A outer s H E).nox (.Name "_law_point" pos) (tVar 0) := fun _ => pv 0
    have v1 : ∀ pos : Pos, PE (cxOf CX0 P w K mg base ["_law_point", "_law_question_here", "_law_some"] "_law_holds" (defScope s_law_holds) T.a_law_holds cdv A outer s H E).nox (.Name "_law_question_here" pos) (tVar 1) := fun _ => pv 1
    have v2 : ∀ pos : Pos, PE (cxOf CX0 P w K mg base ["_law_point", "_law_question_here", "_law_some"] "_law_holds" (defScope s_law_holds) T.a_law_holds cdv A outer s H E).nox (.Name "_law_some" pos) (tVar 2) := fun _ => pv 2
    exact (fss_cons (fs_set (i := 2) nd rfl (.inl rfl) (fe_callO (ok_law_worth T) (hr.mono (by decide)) (by rfl) T.g_law_worth T.F_law_worth.kp T.b_law_worth (fa_cons (fe_var (v0 _)) (fa_cons (fe_ix (fe_var (v1 _)) fe_int) fa_nil)) (alen_cons (alen_cons alen_nil))))
      (fss_cons (fs_if (ft_notN (fe_ix (fe_var (v1 _)) fe_int) fe_non) (fss_one (fs_set (i := 2) nd rfl (.inl rfl) (fe_addI (fe_var (v2 _)) (fe_call (ok_law_worth T) (hr.mono (by decide)) (by rfl) T.g_law_worth T.F_law_worth.kp T.b_law_worth (fa_cons (fe_var (v0 _)) (fa_cons (fe_ix (fe_var (v1 _)) fe_int) fa_nil)) (alen_cons (alen_cons alen_nil)))))) fss_nil)
      (fss_cons (fs_if (ft_eq hr.units (fe_ix (fe_var (v1 _)) fe_int) fe_str) (fss_one (fs_ret (fe_le (fe_var (v2 _)) (fe_ix (fe_var (v1 _)) fe_int)))) fss_nil)
      (fss_cons (fs_if (ft_eq hr.units (fe_ix (fe_var (v1 _)) fe_int) fe_str) (fss_one (fs_ret (fe_ge (fe_var (v2 _)) (fe_ix (fe_var (v1 _)) fe_int)))) fss_nil)
      (fss_one (fs_ret (fe_eq hr.units (fe_eq hr.units (fe_var (v2 _)) (fe_ix (fe_var (v1 _)) fe_int)) (fe_eq hr.units (fe_ix (fe_var (v1 _)) fe_int) fe_str))))))))
theorem ok_law_number (T : Txt K mg) : FnOk P w K mg base CX0 1 T.a_law_number T.d_law_number ["_law_cell_here"] (spF K 1 0 m_law_number) :=
  fn_ok (N := ["_law_cell_here"]) T.F_law_number sc_law_number 0 g_law_number fun cdv A outer s H E hr => by
    have nd := sc_law_number.nd
    have v0 : ∀ pos : Pos, PE (cxOf CX0 P w K mg base ["_law_cell_here"] "_law_number" (defScope s_law_number) T.a_law_number cdv A outer s H E).nox (.Name "_law_cell_here" pos) (tVar 0) := fun _ => pv 0
    exact (fss_cons (fs_if (ft_eq hr.units (fe_mod (fe_var (v0 _)) fe_int) fe_int) (fss_one (fs_ret (fe_mul (fe_mod (fe_div (fe_var (v0 _)) fe_int) (fe_pow fe_int fe_int)) (fe_sub fe_int (fe_mul (fe_mod (fe_div (fe_var (v0 _)) fe_int) fe_int) fe_int))))) fss_nil)
      (fss_one (fs_ret (fe_sub (fe_mod (fe_div (fe_var (v0 _)) fe_int) fe_int) fe_int))))
theorem ok_law_box (T : Txt K mg) : FnOk P w K mg base CX0 2 T.a_law_box T.d_law_box ["_law_script", "_law_count"] (spF K 2 1 m_law_box) :=
  fn_ok (N := ["_law_script", "_law_count", "_law_sides", "_law_k", "_law_cell_here", "_law_low"]) T.F_law_box sc_law_box 1 g_law_box fun cdv A outer s H E hr => by
    have nd := sc_law_box.nd
    have v0 : ∀ pos : Pos, PE (cxOf CX0 P w K mg base ["_law_script", "_law_count", "_law_sides", "_law_k", "_law_cell_here", "_law_low"] "_law_box" (defScope s_law_box) T.a_law_box cdv A outer s H E).nox (.Name "_law_script" pos) (tVar 0) := fun _ => pv 0
    have v1 : ∀ pos : Pos, PE (cxOf CX0 P w K mg base ["_law_script", "_law_count", "_law_sides", "_law_k", "_law_cell_here", "_law_low"] "_law_box" (defScope s_law_box) T.a_law_box cdv A outer s H E).nox (.Name "_law_count" pos) (tVar 1) := fun _ => pv 1
    have v2 : ∀ pos : Pos, PE (cxOf CX0 P w K mg base ["_law_script", "_law_count", "_law_sides", "_law_k", "_law_cell_here", "_law_low"] "_law_box" (defScope s_law_box) T.a_law_box cdv A outer s H E).nox (.Name "_law_sides" pos) (tVar 2) := fun _ => pv 2
    have v3 : ∀ pos : Pos, PE (cxOf CX0 P w K mg base ["_law_script", "_law_count", "_law_sides", "_law_k", "_law_cell_here", "_law_low"] "_law_box" (defScope s_law_box) T.a_law_box cdv A outer s H E).nox (.Name "_law_k" pos) (tVar 3) := fun _ => pv 3
    have v4 : ∀ pos : Pos, PE (cxOf CX0 P w K mg base ["_law_script", "_law_count", "_law_sides", "_law_k", "_law_cell_here", "_law_low"] "_law_box" (defScope s_law_box) T.a_law_box cdv A outer s H E).nox (.Name "_law_cell_here" pos) (tVar 4) := fun _ => pv 4
    have v5 : ∀ pos : Pos, PE (cxOf CX0 P w K mg base ["_law_script", "_law_count", "_law_sides", "_law_k", "_law_cell_here", "_law_low"] "_law_box" (defScope s_law_box) T.a_law_box cdv A outer s H E).nox (.Name "_law_low" pos) (tVar 5) := fun _ => pv 5
    exact (fss_cons (fs_set (i := 2) nd rfl (.inl rfl) (fe_lst (kd := .ow 0) fa_nil))
      (fss_cons (fs_for PassesOwn.never rfl (fi_rng1 (by rfl) T.m_range (fe_var (v1 _))) (fg_name (i := 3) nd rfl (.inl rfl)) (fss_cons (fs_set (i := 4) nd rfl (.inl rfl) (fe_callO (ok_law_cell T) (hr.mono (by decide)) (by rfl) T.g_law_cell T.F_law_cell.kp T.b_law_cell (fa_cons (fe_var (v0 _)) (fa_cons (fe_addI fe_int (fe_var (v3 _))) fa_nil)) (alen_cons (alen_cons alen_nil))))
      (fss_cons (fs_set (i := 5) nd rfl (.inl rfl) (fe_callO (ok_law_number T) (hr.mono (by decide)) (by rfl) T.g_law_number T.F_law_number.kp T.b_law_number (fa_cons (fe_call (ok_law_cell T) (hr.mono (by decide)) (by rfl) T.g_law_cell T.F_law_cell.kp T.b_law_cell (fa_cons (fe_var (v0 _)) (fa_cons (fe_addI fe_int (fe_var (v3 _))) fa_nil)) (alen_cons (alen_cons alen_nil))) fa_nil) (alen_cons alen_nil)))
      (fss_cons (fs_if (ft_gt (fe_mod (fe_var (v4 _)) fe_int) fe_int) (fss_one (fs_app (pe_bm PySem.F.plainAttrs_list PySem.F.slot_list_append PySem.F.type_list_append mt_append (v2 _) (pa_cons (fe_tup (fa_cons (fe_addI (fe_mul fe_int (fe_var (v3 _))) fe_int) (fa_cons (fe_addI (fe_mul fe_int (fe_var (v3 _))) fe_int) (fa_cons (fe_mul (fe_neg fe_int) (fe_var (v5 _))) fa_nil)))) pa_nil)))) fss_nil)
      (fss_one (fs_if (ft_gt (fe_mod (fe_var (v4 _)) fe_int) fe_int) (fss_one (fs_app (pe_bm PySem.F.plainAttrs_list PySem.F.slot_list_append PySem.F.type_list_append mt_append (v2 _) (pa_cons (fe_tup (fa_cons (fe_mul fe_int (fe_var (v3 _))) (fa_cons (fe_mul fe_int (fe_var (v3 _))) (fa_cons (fe_addI (fe_mul fe_int (fe_var (v5 _))) (fe_mul fe_int (fe_mod (fe_div (fe_var (v4 _)) fe_int) fe_int))) fa_nil)))) pa_nil)))) fss_nil))))))
      (fss_one (fs_retV (v2 _)))))
theorem ok_law_more (T : Txt K mg) : FnOk P w K mg base CX0 3 T.a_law_more T.d_law_more ["_law_script", "_law_corner"] (spF K 2 1 m_law_more) :=
  fn_ok (N := ["_law_script", "_law_corner", "_law_count", "_law_cells", "_law_sides", "_law_cell_here", "_law_f", "_law_g", "_law_k"]) T.F_law_more sc_law_more 1 g_law_more fun cdv A outer s H E hr => by
    have nd := sc_law_more.nd
    have v0 : ∀ pos : Pos, PE (cxOf CX0 P w K mg base ["_law_script", "_law_corner", "_law_count", "_law_cells", "_law_sides", "_law_cell_here", "_law_f", "_law_g", "_law_k"] "_law_more" (defScope s_law_more) T.a_law_more cdv A outer s H E).nox (.Name "_law_script" pos) (tVar 0) := fun _ => pv 0
    have v1 : ∀ pos : Pos, PE (cxOf CX0 P w K mg base ["_law_script", "_law_corner", "_law_count", "_law_cells", "_law_sides", "_law_cell_here", "_law_f", "_law_g", "_law_k"] "_law_more" (defScope s_law_more) T.a_law_more cdv A outer s H E).nox (.Name "_law_corner" pos) (tVar 1) := fun _ => pv 1
    have v2 : ∀ pos : Pos, PE (cxOf CX0 P w K mg base ["_law_script", "_law_corner", "_law_count", "_law_cells", "_law_sides", "_law_cell_here", "_law_f", "_law_g", "_law_k"] "_law_more" (defScope s_law_more) T.a_law_more cdv A outer s H E).nox (.Name "_law_count" pos) (tVar 2) := fun _ => pv 2
    have v3 : ∀ pos : Pos, PE (cxOf CX0 P w K mg base ["_law_script", "_law_corner", "_law_count", "_law_cells", "_law_sides", "_law_cell_here", "_law_f", "_law_g", "_law_k"] "_law_more" (defScope s_law_more) T.a_law_more cdv A outer s H E).nox (.Name "_law_cells" pos) (tVar 3) := fun _ => pv 3
    have v4 : ∀ pos : Pos, PE (cxOf CX0 P w K mg base ["_law_script", "_law_corner", "_law_count", "_law_cells", "_law_sides", "_law_cell_here", "_law_f", "_law_g", "_law_k"] "_law_more" (defScope s_law_more) T.a_law_more cdv A outer s H E).nox (.Name "_law_sides" pos) (tVar 4) := fun _ => pv 4
    have v5 : ∀ pos : Pos, PE (cxOf CX0 P w K mg base ["_law_script", "_law_corner", "_law_count", "_law_cells", "_law_sides", "_law_cell_here", "_law_f", "_law_g", "_law_k"] "_law_more" (defScope s_law_more) T.a_law_more cdv A outer s H E).nox (.Name "_law_cell_here" pos) (tVar 5) := fun _ => pv 5
    have v6 : ∀ pos : Pos, PE (cxOf CX0 P w K mg base ["_law_script", "_law_corner", "_law_count", "_law_cells", "_law_sides", "_law_cell_here", "_law_f", "_law_g", "_law_k"] "_law_more" (defScope s_law_more) T.a_law_more cdv A outer s H E).nox (.Name "_law_f" pos) (tVar 6) := fun _ => pv 6
    have v7 : ∀ pos : Pos, PE (cxOf CX0 P w K mg base ["_law_script", "_law_corner", "_law_count", "_law_cells", "_law_sides", "_law_cell_here", "_law_f", "_law_g", "_law_k"] "_law_more" (defScope s_law_more) T.a_law_more cdv A outer s H E).nox (.Name "_law_g" pos) (tVar 7) := fun _ => pv 7
    exact (fss_cons (fs_set (i := 2) nd rfl (.inl rfl) (fe_len (by rfl) T.m_len (fa_cons (fe_var (v1 _)) fa_nil)))
      (fss_cons (fs_set (i := 3) nd rfl (.inl rfl) (fe_fz (fe_slF (fe_var (v0 _)) (fo_some fe_int) (fo_some fe_int))))
      (fss_cons (fs_if (ft_lt (fe_len (by rfl) T.m_len (fa_cons (fe_var (v3 _)) fa_nil)) fe_int) (fss_one (fs_setLc0 (i := 3) (k' := 0) (ow := [("_law_k", 8)]) rfl nd rfl rfl (sw_true rfl rfl rfl (by decide +kernel)) (fi_rng1 (by rfl) T.m_range fe_int) (blkOk_by (N := ["_law_script", "_law_corner", "_law_count", "_law_cells", "_law_sides", "_law_cell_here", "_law_f", "_law_g", "_law_k"]) (sc := defScope s_law_more) (by decide +kernel)) (by decide) (fun _ _ _ _ _ => (fg_name (i := 8) nd rfl (.inl rfl))) (fun _ _ _ _ _ => pts_yes) (fun _ _ _ _ _ => (fe_callO (ok_law_cell T) (hr.mono (by decide)) (by rfl) T.g_law_cell T.F_law_cell.kp T.b_law_cell (fa_cons (fe_var (pv 0)) (fa_cons (fe_addI fe_int (fe_var (pv 8))) fa_nil)) (alen_cons (alen_cons alen_nil)))))) fss_nil)
      (fss_cons (fs_set (i := 4) nd rfl (.inl rfl) (fe_lst (kd := .ow 0) fa_nil))
      (fss_cons (fs_for PassesOwn.never rfl (fi_seq (fe_varS (v3 _))) (fg_name (i := 5) nd rfl (.inl rfl)) (fss_cons (fs_set (i := 6) nd rfl (.inl rfl) (fe_mod (fe_var (v5 _)) (fe_mul fe_int (fe_var (v2 _)))))
      (fss_cons (fs_set (i := 7) nd rfl (.inl rfl) (fe_mod (fe_div (fe_var (v5 _)) fe_int) (fe_mul fe_int (fe_var (v2 _)))))
      (fss_one (fs_app (pe_bm PySem.F.plainAttrs_list PySem.F.slot_list_append PySem.F.type_list_append mt_append (v4 _) (pa_cons (fe_tup (fa_cons (fe_varS (v6 _)) (fa_cons (fe_varS (v7 _)) (fa_cons (fe_addI (fe_call (ok_law_sum T) (hr.mono (by decide)) (by rfl) T.g_law_sum T.F_law_sum.kp T.b_law_sum (fa_cons (fe_var (v1 _)) (fa_cons (fe_lst (kd := .rd) (fa_cons (fe_var (v6 _)) (fa_cons (fe_var (v7 _)) fa_nil))) fa_nil)) (alen_cons (alen_cons alen_nil))) (fe_mod (fe_div (fe_var (v5 _)) fe_int) fe_int)) fa_nil)))) pa_nil)))))))
      (fss_one (fs_retV (v4 _))))))))
theorem ok_law_points (T : Txt K mg) : FnOk P w K mg base CX0 2 T.a_law_points T.d_law_points ["_law_script", "_law_corner"] (spF K 2 1 m_law_points) :=
  fn_ok (N := ["_law_script", "_law_corner", "_law_points_here", "_law_k", "_law_cell_here", "_law_j"]) T.F_law_points sc_law_points 1 g_law_points fun cdv A outer s H E hr => by
    have nd := sc_law_points.nd
    have v0 : ∀ pos : Pos, PE (cxOf CX0 P w K mg base ["_law_script", "_law_corner", "_law_points_here", "_law_k", "_law_cell_here", "_law_j"] "_law_points" (defScope s_law_points) T.a_law_points cdv A outer s H E).nox (.Name "_law_script" pos) (tVar 0) := fun _ => pv 0
    have v1 : ∀ pos : Pos, PE (cxOf CX0 P w K mg base ["_law_script", "_law_corner", "_law_points_here", "_law_k", "_law_cell_here", "_law_j"] "_law_points" (defScope s_law_points) T.a_law_points cdv A outer s H E).nox (.Name "_law_corner" pos) (tVar 1) := fun _ => pv 1
    have v2 : ∀ pos : Pos, PE (cxOf CX0 P w K mg base ["_law_script", "_law_corner", "_law_points_here", "_law_k", "_law_cell_here", "_law_j"] "_law_points" (defScope s_law_points) T.a_law_points cdv A outer s H E).nox (.Name "_law_points_here" pos) (tVar 2) := fun _ => pv 2
    have v3 : ∀ pos : Pos, PE (cxOf CX0 P w K mg base ["_law_script", "_law_corner", "_law_points_here", "_law_k", "_law_cell_here", "_law_j"] "_law_points" (defScope s_law_points) T.a_law_points cdv A outer s H E).nox (.Name "_law_k" pos) (tVar 3) := fun _ => pv 3
    have v4 : ∀ pos : Pos, PE (cxOf CX0 P w K mg base ["_law_script", "_law_corner", "_law_points_here", "_law_k", "_law_cell_here", "_law_j"] "_law_points" (defScope s_law_points) T.a_law_points cdv A outer s H E).nox (.Name "_law_cell_here" pos) (tVar 4) := fun _ => pv 4
    exact (fss_cons (fs_set (i := 2) nd rfl (.inl rfl) (fe_lst (kd := .ow 0) (fa_cons (fe_varS (v1 _)) fa_nil)))
      (fss_cons (fs_for PassesOwn.never rfl (fi_rng1 (by rfl) T.m_range fe_int) (fg_name (i := 3) nd rfl (.inl rfl)) (fss_cons (fs_set (i := 4) nd rfl (.inr rfl) (fe_callO (ok_law_cell T) (hr.mono (by decide)) (by rfl) T.g_law_cell T.F_law_cell.kp T.b_law_cell (fa_cons (fe_var (v0 _)) (fa_cons (fe_addI fe_int (fe_var (v3 _))) fa_nil)) (alen_cons (alen_cons alen_nil))))
      (fss_one (fs_app (pe_bm PySem.F.plainAttrs_list PySem.F.slot_list_append PySem.F.type_list_append mt_append (v2 _) (pa_cons (fe_fl (fe_tuple (by rfl) T.m_tuple (fe_rd (fe_lc (k := 0) (ow := [("_law_j", 5)]) rfl nd (fi_rng1 (by rfl) T.m_range (fe_len (by rfl) T.m_len (fa_cons (fe_var (v1 _)) fa_nil))) (blkOk_by (N := ["_law_script", "_law_corner", "_law_points_here", "_law_k", "_law_cell_here", "_law_j"]) (sc := defScope s_law_points) (by decide +kernel)) (by decide) (fun _ _ _ _ _ => (fg_name (i := 5) nd rfl (.inl rfl))) (fun _ _ _ _ _ => pts_yes) (fun _ _ _ _ _ => (fe_addI (fe_ix (fe_var (pv 1)) (fe_var (pv 5))) (fe_mod (fe_div (fe_var (pv 4)) (fe_addI (fe_mul fe_int (fe_var (pv 5))) fe_int)) fe_int))))))) pa_nil))))))
      (fss_one (fs_retV (v2 _)))))
theorem ok_law_question (T : Txt K mg) : FnOk P w K mg base CX0 3 T.a_law_question T.d_law_question ["_law_script", "_law_corner"] (spF K 2 0 m_law_question) :=
  fn_ok (N := ["_law_script", "_law_corner", "_law_cell_here", "_law_f", "_law_g", "_law_number_here"]) T.F_law_question sc_law_question 0 g_law_question fun cdv A outer s H E hr => by
    have nd := sc_law_question.nd
    have v0 : ∀ pos : Pos, PE (cxOf CX0 P w K mg base ["_law_script", "_law_corner", "_law_cell_here", "_law_f", "_law_g", "_law_number_here"] "_law_question" (defScope s_law_question) T.a_law_question cdv A outer s H E).nox (.Name "_law_script" pos) (tVar 0) := fun _ => pv 0
    have v1 : ∀ pos : Pos, PE (cxOf CX0 P w K mg base ["_law_script", "_law_corner", "_law_cell_here", "_law_f", "_law_g", "_law_number_here"] "_law_question" (defScope s_law_question) T.a_law_question cdv A outer s H E).nox (.Name "_law_corner" pos) (tVar 1) := fun _ => pv 1
    have v2 : ∀ pos : Pos, PE (cxOf CX0 P w K mg base ["_law_script", "_law_corner", "_law_cell_here", "_law_f", "_law_g", "_law_number_here"] "_law_question" (defScope s_law_question) T.a_law_question cdv A outer s H E).nox (.Name "_law_cell_here" pos) (tVar 2) := fun _ => pv 2
    have v3 : ∀ pos : Pos, PE (cxOf CX0 P w K mg base ["_law_script", "_law_corner", "_law_cell_here", "_law_f", "_law_g", "_law_number_here"] "_law_question" (defScope s_law_question) T.a_law_question cdv A outer s H E).nox (.Name "_law_f" pos) (tVar 3) := fun _ => pv 3
    have v4 : ∀ pos : Pos, PE (cxOf CX0 P w K mg base ["_law_script", "_law_corner", "_law_cell_here", "_law_f", "_law_g", "_law_number_here"] "_law_question" (defScope s_law_question) T.a_law_question cdv A outer s H E).nox (.Name "_law_g" pos) (tVar 4) := fun _ => pv 4
    have v5 : ∀ pos : Pos, PE (cxOf CX0 P w K mg base ["_law_script", "_law_corner", "_law_cell_here", "_law_f", "_law_g", "_law_number_here"] "_law_question" (defScope s_law_question) T.a_law_question cdv A outer s H E).nox (.Name "_law_number_here" pos) (tVar 5) := fun _ => pv 5
    exact (fss_cons (fs_set (i := 2) nd rfl (.inl rfl) (fe_callO (ok_law_cell T) (hr.mono (by decide)) (by rfl) T.g_law_cell T.F_law_cell.kp T.b_law_cell (fa_cons (fe_var (v0 _)) (fa_cons fe_int fa_nil)) (alen_cons (alen_cons alen_nil))))
      (fss_cons (fs_set (i := 3) nd rfl (.inl rfl) (fe_mod (fe_var (v2 _)) (fe_mul fe_int (fe_len (by rfl) T.m_len (fa_cons (fe_var (v1 _)) fa_nil)))))
      (fss_cons (fs_set (i := 4) nd rfl (.inl rfl) (fe_mod (fe_div (fe_var (v2 _)) fe_int) (fe_mul fe_int (fe_len (by rfl) T.m_len (fa_cons (fe_var (v1 _)) fa_nil)))))
      (fss_cons (fs_set (i := 5) nd rfl (.inl rfl) (fe_sub (fe_addI (fe_call (ok_law_sum T) (hr.mono (by decide)) (by rfl) T.g_law_sum T.F_law_sum.kp T.b_law_sum (fa_cons (fe_var (v1 _)) (fa_cons (fe_lst (kd := .rd) (fa_cons (fe_var (v3 _)) (fa_cons (fe_var (v4 _)) fa_nil))) fa_nil)) (alen_cons (alen_cons alen_nil))) (fe_mod (fe_div (fe_call (ok_law_cell T) (hr.mono (by decide)) (by rfl) T.g_law_cell T.F_law_cell.kp T.b_law_cell (fa_cons (fe_var (v0 _)) (fa_cons fe_int fa_nil)) (alen_cons (alen_cons alen_nil))) fe_int) fe_int)) fe_int))
      (fss_cons (fs_if (ft_eq hr.units (fe_mod (fe_div (fe_var (v2 _)) fe_int) fe_int) fe_int) (fss_cons (fs_set (i := 5) nd rfl (.inl rfl) (fe_sub (fe_var (v5 _)) (fe_call (ok_law_worth T) (hr.mono (by decide)) (by rfl) T.g_law_worth T.F_law_worth.kp T.b_law_worth (fa_cons (fe_var (v1 _)) (fa_cons (fe_var (v4 _)) fa_nil)) (alen_cons (alen_cons alen_nil)))))
      (fss_one (fs_set (i := 4) nd rfl (.inl rfl) fe_non))) fss_nil)
      (fss_one (fs_ret (fe_tup (fa_cons (fe_varS (v3 _)) (fa_cons (fe_varS (v4 _)) (fa_cons (fe_fl (fe_ix (fe_lst (kd := .rd) (fa_cons fe_str (fa_cons fe_str (fa_cons fe_str (fa_cons fe_str fa_nil))))) (fe_mod (fe_call (ok_law_cell T) (hr.mono (by decide)) (by rfl) T.g_law_cell T.F_law_cell.kp T.b_law_cell (fa_cons (fe_var (v0 _)) (fa_cons fe_int fa_nil)) (alen_cons (alen_cons alen_nil))) fe_int))) (fa_cons (fe_varS (v5 _)) fa_nil))))))))))))
theorem ok_law_no_larger (T : Txt K mg) : FnOk P w K mg base CX0 1 T.a_law_no_larger T.d_law_no_larger ["_law_one", "_law_shape"] (spF K 2 0 m_law_no_larger) :=
  fn_ok (N := ["_law_one", "_law_shape", "_law_a", "_law_b", "_law_entry", "_law_top"]) T.F_law_no_larger sc_law_no_larger 0 g_law_no_larger fun cdv A outer s H E hr => by
    have nd := sc_law_no_larger.nd
    have v0 : ∀ pos : Pos, PE (cxOf CX0 P w K mg base ["_law_one", "_law_shape", "_law_a", "_law_b", "_law_entry", "_law_top"] "_law_no_larger" (defScope s_law_no_larger) T.a_law_no_larger cdv A outer s H E).nox (.Name "_law_one" pos) (tVar 0) := fun _ => pv 0
    have v1 : ∀ pos : Pos, PE (cxOf CX0 P w K mg base ["_law_one", "_law_shape", "_law_a", "_law_b", "_law_entry", "_law_top"] "_law_no_larger" (defScope s_law_no_larger) T.a_law_no_larger cdv A outer s H E).nox (.Name "_law_shape" pos) (tVar 1) := fun _ => pv 1
    have v2 : ∀ pos : Pos, PE (cxOf CX0 P w K mg base ["_law_one", "_law_shape", "_law_a", "_law_b", "_law_entry", "_law_top"] "_law_no_larger" (defScope s_law_no_larger) T.a_law_no_larger cdv A outer s H E).nox (.Name "_law_a" pos) (tVar 2) := fun _ => pv 2
    have v3 : ∀ pos : Pos, PE (cxOf CX0 P w K mg base ["_law_one", "_law_shape", "_law_a", "_law_b", "_law_entry", "_law_top"] "_law_no_larger" (defScope s_law_no_larger) T.a_law_no_larger cdv A outer s H E).nox (.Name "_law_b" pos) (tVar 3) := fun _ => pv 3
    have v4 : ∀ pos : Pos, PE (cxOf CX0 P w K mg base ["_law_one", "_law_shape", "_law_a", "_law_b", "_law_entry", "_law_top"] "_law_no_larger" (defScope s_law_no_larger) T.a_law_no_larger cdv A outer s H E).nox (.Name "_law_entry" pos) (tVar 4) := fun _ => pv 4
    have v5 : ∀ pos : Pos, PE (cxOf CX0 P w K mg base ["_law_one", "_law_shape", "_law_a", "_law_b", "_law_entry", "_law_top"] "_law_no_larger" (defScope s_law_no_larger) T.a_law_no_larger cdv A outer s H E).nox (.Name "_law_top" pos) (tVar 5) := fun _ => pv 5
    exact (fss_cons (fs_if (ft_isN (fe_var (v0 _)) fe_non) (fss_one (fs_ret fe_bl)) fss_nil)
      (fss_cons (fs_for PassesOwn.never rfl (fi_zip (by rfl) T.m_zip (fe_varS (v0 _)) (fe_varS (v1 _))) (fg_tup rfl (fgs_cons (fg_name (i := 2) nd rfl (.inl rfl)) (fgs_cons (fg_name (i := 3) nd rfl (.inl rfl)) fgs_nil))) (fss_one (fs_for PassesOwn.never rfl (fi_zip (by rfl) T.m_zip (fe_varS (v2 _)) (fe_varS (v3 _))) (fg_tup rfl (fgs_cons (fg_name (i := 4) nd rfl (.inl rfl)) (fgs_cons (fg_name (i := 5) nd rfl (.inl rfl)) fgs_nil))) (fss_one (fs_if (PW.pt (fw_and (ft_notN (fe_var (v5 _)) fe_non) (fw_and1 (PW.pt (fw_or (ft_isN (fe_var (v4 _)) fe_non) (fw_or1 (ft_gt (fe_var (v4 _)) (fe_var (v5 _))))))))) (fss_one (fs_ret fe_bl)) fss_nil)))))
      (fss_one (fs_ret fe_bl))))
theorem ok_law_just (T : Txt K mg) : FnOk P w K mg base CX0 8 T.a_law_just T.d_law_just ["_law_one", "_law_sides", "_law_question_here", "_law_there", "_law_count", "_law_pair"] (spF K 6 0 m_law_just) :=
  fn_ok (N := ["_law_one", "_law_sides", "_law_question_here", "_law_there", "_law_count", "_law_pair", "_law_number_here", "_law_found"]) T.F_law_just sc_law_just 0 g_law_just fun cdv A outer s H E hr => by
    have nd := sc_law_just.nd
    have v0 : ∀ pos : Pos, PE (cxOf CX0 P w K mg base ["_law_one", "_law_sides", "_law_question_here", "_law_there", "_law_count", "_law_pair", "_law_number_here", "_law_found"] "_law_just" (defScope s_law_just) T.a_law_just cdv A outer s H E).nox (.Name "_law_one" pos) (tVar 0) := fun _ => pv 0
    have v1 : ∀ pos : Pos, PE (cxOf CX0 P w K mg base ["_law_one", "_law_sides", "_law_question_here", "_law_there", "_law_count", "_law_pair", "_law_number_here", "_law_found"] "_law_just" (defScope s_law_just) T.a_law_just cdv A outer s H E).nox (.Name "_law_sides" pos) (tVar 1) := fun _ => pv 1
    have v2 : ∀ pos : Pos, PE (cxOf CX0 P w K mg base ["_law_one", "_law_sides", "_law_question_here", "_law_there", "_law_count", "_law_pair", "_law_number_here", "_law_found"] "_law_just" (defScope s_law_just) T.a_law_just cdv A outer s H E).nox (.Name "_law_question_here" pos) (tVar 2) := fun _ => pv 2
    have v3 : ∀ pos : Pos, PE (cxOf CX0 P w K mg base ["_law_one", "_law_sides", "_law_question_here", "_law_there", "_law_count", "_law_pair", "_law_number_here", "_law_found"] "_law_just" (defScope s_law_just) T.a_law_just cdv A outer s H E).nox (.Name "_law_there" pos) (tVar 3) := fun _ => pv 3
    have v4 : ∀ pos : Pos, PE (cxOf CX0 P w K mg base ["_law_one", "_law_sides", "_law_question_here", "_law_there", "_law_count", "_law_pair", "_law_number_here", "_law_found"] "_law_just" (defScope s_law_just) T.a_law_just cdv A outer s H E).nox (.Name "_law_count" pos) (tVar 4) := fun _ => pv 4
    have v5 : ∀ pos : Pos, PE (cxOf CX0 P w K mg base ["_law_one", "_law_sides", "_law_question_here", "_law_there", "_law_count", "_law_pair", "_law_number_here", "_law_found"] "_law_just" (defScope s_law_just) T.a_law_just cdv A outer s H E).nox (.Name "_law_pair" pos) (tVar 5) := fun _ => pv 5
    have v6 : ∀ pos : Pos, PE (cxOf CX0 P w K mg base ["_law_one", "_law_sides", "_law_question_here", "_law_there", "_law_count", "_law_pair", "_law_number_here", "_law_found"] "_law_just" (defScope s_law_just) T.a_law_just cdv A outer s H E).nox (.Name "_law_number_here" pos) (tVar 6) := fun _ => pv 6
    have v7 : ∀ pos : Pos, PE (cxOf CX0 P w K mg base ["_law_one", "_law_sides", "_law_question_here", "_law_there", "_law_count", "_law_pair", "_law_number_here", "_law_found"] "_law_just" (defScope s_law_just) T.a_law_just cdv A outer s H E).nox (.Name "_law_found" pos) (tVar 7) := fun _ => pv 7
    exact (fss_cons (fs_if (ft_isN (fe_var (v0 _)) fe_non) (fss_one (fs_ret fe_bl)) fss_nil)
      (fss_cons (fs_set (i := 6) nd rfl (.inl rfl) (fe_ixS (fe_ixS (fe_varS (v0 _)) (fe_ix (fe_var (v5 _)) fe_int)) (fe_ix (fe_var (v5 _)) fe_int)))
      (fss_cons (fs_if (ft_isN (fe_var (v6 _)) fe_non) (fss_one (fs_set (i := 6) nd rfl (.inl rfl) (fe_pow fe_int fe_int))) fss_nil)
      (fss_cons (fs_set (i := 7) nd rfl (.inl rfl) (fe_callO (ok_reaching T) (hr.mono (by decide)) (by rfl) T.g_reaching T.F_reaching.kp T.b_reaching (fa_cons (fe_var (v0 _)) (fa_cons (fe_var (v5 _)) (fa_cons (fe_var (v6 _)) fa_nil))) (alen_cons (alen_cons (alen_cons alen_nil)))))
      (fss_cons (fs_if (PW.pt (fw_or (ft_not (ft_val (fe_call (ok_law_point_like T) (hr.mono (by decide)) (by rfl) T.g_law_point_like T.F_law_point_like.kp T.b_law_point_like (fa_cons (fe_var (v7 _)) (fa_cons (fe_var (v4 _)) fa_nil)) (alen_cons (alen_cons alen_nil))))) (fw_or1 (ft_not (ft_val (fe_call (ok_law_keeps T) (hr.mono (by decide)) (by rfl) T.g_law_keeps T.F_law_keeps.kp T.b_law_keeps (fa_cons (fe_var (v7 _)) (fa_cons (fe_var (v1 _)) fa_nil)) (alen_cons (alen_cons alen_nil)))))))) (fss_one (fs_ret fe_bl)) fss_nil)
      (fss_one (fs_ret (fe_eq hr.units (fe_call (ok_law_holds T) (hr.mono (by decide)) (by rfl) T.g_law_holds T.F_law_holds.kp T.b_law_holds (fa_cons (fe_var (v7 _)) (fa_cons (fe_var (v2 _)) fa_nil)) (alen_cons (alen_cons alen_nil))) (fe_var (v3 _))))))))))
theorem ok_law_dealt (T : Txt K mg) : FnOk P w K mg base CX0 3 T.a_law_dealt T.d_law_dealt ["_law_yes", "_law_no", "_law_points_here", "_law_sides", "_law_question_here"] (spF K 5 0 m_law_dealt) :=
  fn_ok (N := ["_law_yes", "_law_no", "_law_points_here", "_law_sides", "_law_question_here", "_law_point", "_law_part"]) T.F_law_dealt sc_law_dealt 0 g_law_dealt fun cdv A outer s H E hr => by
    have nd := sc_law_dealt.nd
    have v0 : ∀ pos : Pos, PE (cxOf CX0 P w K mg base ["_law_yes", "_law_no", "_law_points_here", "_law_sides", "_law_question_here", "_law_point", "_law_part"] "_law_dealt" (defScope s_law_dealt) T.a_law_dealt cdv A outer s H E).nox (.Name "_law_yes" pos) (tVar 0) := fun _ => pv 0
    have v1 : ∀ pos : Pos, PE (cxOf CX0 P w K mg base ["_law_yes", "_law_no", "_law_points_here", "_law_sides", "_law_question_here", "_law_point", "_law_part"] "_law_dealt" (defScope s_law_dealt) T.a_law_dealt cdv A outer s H E).nox (.Name "_law_no" pos) (tVar 1) := fun _ => pv 1
    have v2 : ∀ pos : Pos, PE (cxOf CX0 P w K mg base ["_law_yes", "_law_no", "_law_points_here", "_law_sides", "_law_question_here", "_law_point", "_law_part"] "_law_dealt" (defScope s_law_dealt) T.a_law_dealt cdv A outer s H E).nox (.Name "_law_points_here" pos) (tVar 2) := fun _ => pv 2
    have v3 : ∀ pos : Pos, PE (cxOf CX0 P w K mg base ["_law_yes", "_law_no", "_law_points_here", "_law_sides", "_law_question_here", "_law_point", "_law_part"] "_law_dealt" (defScope s_law_dealt) T.a_law_dealt cdv A outer s H E).nox (.Name "_law_sides" pos) (tVar 3) := fun _ => pv 3
    have v4 : ∀ pos : Pos, PE (cxOf CX0 P w K mg base ["_law_yes", "_law_no", "_law_points_here", "_law_sides", "_law_question_here", "_law_point", "_law_part"] "_law_dealt" (defScope s_law_dealt) T.a_law_dealt cdv A outer s H E).nox (.Name "_law_question_here" pos) (tVar 4) := fun _ => pv 4
    have v5 : ∀ pos : Pos, PE (cxOf CX0 P w K mg base ["_law_yes", "_law_no", "_law_points_here", "_law_sides", "_law_question_here", "_law_point", "_law_part"] "_law_dealt" (defScope s_law_dealt) T.a_law_dealt cdv A outer s H E).nox (.Name "_law_point" pos) (tVar 5) := fun _ => pv 5
    have v6 : ∀ pos : Pos, PE (cxOf CX0 P w K mg base ["_law_yes", "_law_no", "_law_points_here", "_law_sides", "_law_question_here", "_law_point", "_law_part"] "_law_dealt" (defScope s_law_dealt) T.a_law_dealt cdv A outer s H E).nox (.Name "_law_part" pos) (tVar 6) := fun _ => pv 6
    exact (fss_cons (fs_for PassesOwn.never rfl (fi_seq (fe_varS (v2 _))) (fg_name (i := 5) nd rfl (.inl rfl)) (fss_one (fs_if (ft_val (fe_call (ok_law_keeps T) (hr.mono (by decide)) (by rfl) T.g_law_keeps T.F_law_keeps.kp T.b_law_keeps (fa_cons (fe_var (v5 _)) (fa_cons (fe_var (v3 _)) fa_nil)) (alen_cons (alen_cons alen_nil)))) (fss_cons (fs_set (i := 6) nd rfl (.inl rfl) (fe_varS (v1 _)))
      (fss_cons (fs_if (ft_val (fe_call (ok_law_holds T) (hr.mono (by decide)) (by rfl) T.g_law_holds T.F_law_holds.kp T.b_law_holds (fa_cons (fe_var (v5 _)) (fa_cons (fe_var (v4 _)) fa_nil)) (alen_cons (alen_cons alen_nil)))) (fss_one (fs_set (i := 6) nd rfl (.inl rfl) (fe_varS (v0 _)))) fss_nil)
      (fss_one (fs_if (PW.pt (fw_or (ft_isN (fe_var (v6 _)) fe_non) (fw_or1 (ft_not (ft_val (fe_call (ok_law_lies T) (hr.mono (by decide)) (by rfl) T.g_law_lies T.F_law_lies.kp T.b_law_lies (fa_cons (fe_var (v6 _)) (fa_cons (fe_var (v5 _)) fa_nil)) (alen_cons (alen_cons alen_nil)))))))) (fss_one (fs_ret fe_bl)) fss_nil)))) fss_nil)))
      (fss_one (fs_ret fe_bl)))
theorem ac_question (T : Txt K mg) : AllC K ["Keep"] [["question"]] := ⟨clsT_of T.n_Keep T.K_Keep T.N_Keep, trivial⟩
theorem ok_Keep_parts (T : Txt K mg) : FnOk P w K mg base CX0 5 T.a_Keep_parts T.d_Keep_parts ["self", "shape"] (spF K 2 3 m_Keep_parts) :=
  fn_ok (N := ["self", "shape", "some", "case", "part", "side"]) T.F_Keep_parts sc_Keep_parts 3 g_Keep_parts fun cdv A outer s H E hr => by
    have nd := sc_Keep_parts.nd
    have v0 : ∀ pos : Pos, PE (cxOf CX0 P w K mg base ["self", "shape", "some", "case", "part", "side"] "Keep.parts" (defScope s_Keep_parts) T.a_Keep_parts cdv A outer s H E).nox (.Name "self" pos) (tVar 0) := fun _ => pv 0
    have v1 : ∀ pos : Pos, PE (cxOf CX0 P w K mg base ["self", "shape", "some", "case", "part", "side"] "Keep.parts" (defScope s_Keep_parts) T.a_Keep_parts cdv A outer s H E).nox (.Name "shape" pos) (tVar 1) := fun _ => pv 1
    have v2 : ∀ pos : Pos, PE (cxOf CX0 P w K mg base ["self", "shape", "some", "case", "part", "side"] "Keep.parts" (defScope s_Keep_parts) T.a_Keep_parts cdv A outer s H E).nox (.Name "some" pos) (tVar 2) := fun _ => pv 2
    have v3 : ∀ pos : Pos, PE (cxOf CX0 P w K mg base ["self", "shape", "some", "case", "part", "side"] "Keep.parts" (defScope s_Keep_parts) T.a_Keep_parts cdv A outer s H E).nox (.Name "case" pos) (tVar 3) := fun _ => pv 3
    have v4 : ∀ pos : Pos, PE (cxOf CX0 P w K mg base ["self", "shape", "some", "case", "part", "side"] "Keep.parts" (defScope s_Keep_parts) T.a_Keep_parts cdv A outer s H E).nox (.Name "part" pos) (tVar 4) := fun _ => pv 4
    have v5 : ∀ pos : Pos, PE (cxOf CX0 P w K mg base ["self", "shape", "some", "case", "part", "side"] "Keep.parts" (defScope s_Keep_parts) T.a_Keep_parts cdv A outer s H E).nox (.Name "side" pos) (tVar 5) := fun _ => pv 5
    exact (fss_cons (fs_set (i := 2) nd rfl (.inl rfl) (fe_lst (kd := .ow 2) fa_nil))
      (fss_cons (fs_for PassesOwn.never rfl (fi_seq (fe_fz (fe_callO (ok_cases T) (hr.mono (by decide)) (by rfl) T.g_cases T.F_cases.kp T.b_cases (fa_cons (fe_fld (fe_var (v0 _)) (ac_question T)) fa_nil) (alen_cons alen_nil)))) (fg_name (i := 3) nd rfl (.inl rfl)) (fss_cons (fs_set (i := 4) nd rfl (.inl rfl) (fe_varS (v1 _)))
      (fss_cons (fs_for PassesOwn.never rfl (fi_seq (fe_varS (v3 _))) (fg_name (i := 5) nd rfl (.inl rfl)) (fss_one (fs_set (i := 4) nd rfl (.inl rfl) (fe_callO (ok_held T) (hr.mono (by decide)) (by rfl) T.g_held T.F_held.kp T.b_held (fa_cons (fe_var (v4 _)) (fa_cons (fe_var (v5 _)) fa_nil)) (alen_cons (alen_cons alen_nil))))))
      (fss_one (fs_appV (k := 2) (j := 4) (pe_bm PySem.F.plainAttrs_list PySem.F.slot_list_append PySem.F.type_list_append mt_append (v2 _) (pa_cons (v4 _) pa_nil)))))))
      (fss_one (fs_retV (v2 _)))))
theorem am_parts (T : Txt K mg) : AllM P w K mg base 5 2 3 "parts" ["Keep"] [m_Keep_parts] := ⟨methT_of T.n_Keep T.K_Keep T.M_Keep_parts (ok_Keep_parts T) (by decide) T.b_Keep_parts, trivial⟩
theorem ok_Keep_image (T : Txt K mg) : FnOk P w K mg base CX0 6 T.a_Keep_image T.d_Keep_image ["self", "shape"] (spF K 2 2 m_Keep_image) :=
  fn_ok (N := ["self", "shape", "come", "part"]) T.F_Keep_image sc_Keep_image 2 g_Keep_image fun cdv A outer s H E hr => by
    have nd := sc_Keep_image.nd
    have v0 : ∀ pos : Pos, PE (cxOf CX0 P w K mg base ["self", "shape", "come", "part"] "Keep.image" (defScope s_Keep_image) T.a_Keep_image cdv A outer s H E).nox (.Name "self" pos) (tVar 0) := fun _ => pv 0
    have v1 : ∀ pos : Pos, PE (cxOf CX0 P w K mg base ["self", "shape", "come", "part"] "Keep.image" (defScope s_Keep_image) T.a_Keep_image cdv A outer s H E).nox (.Name "shape" pos) (tVar 1) := fun _ => pv 1
    have v2 : ∀ pos : Pos, PE (cxOf CX0 P w K mg base ["self", "shape", "come", "part"] "Keep.image" (defScope s_Keep_image) T.a_Keep_image cdv A outer s H E).nox (.Name "come" pos) (tVar 2) := fun _ => pv 2
    have v3 : ∀ pos : Pos, PE (cxOf CX0 P w K mg base ["self", "shape", "come", "part"] "Keep.image" (defScope s_Keep_image) T.a_Keep_image cdv A outer s H E).nox (.Name "part" pos) (tVar 3) := fun _ => pv 3
    exact (fss_cons (fs_set (i := 2) nd rfl (.inl rfl) fe_non)
      (fss_cons (fs_for PassesOwn.never rfl (fi_seq (fe_fz (fe_methO (am_parts T) (hr.mono (by decide)) (fe_var (v0 _)) (fa_cons (fe_var (v1 _)) fa_nil) (alen_cons alen_nil)))) (fg_name (i := 3) nd rfl (.inl rfl)) (fss_one (fs_set (i := 2) nd rfl (.inl rfl) (fe_callO (ok_join T) (hr.mono (by decide)) (by rfl) T.g_join T.F_join.kp T.b_join (fa_cons (fe_var (v2 _)) (fa_cons (fe_var (v3 _)) fa_nil)) (alen_cons (alen_cons alen_nil))))))
      (fss_one (fs_retV (v2 _)))))
theorem am_image (T : Txt K mg) : AllM P w K mg base 6 2 2 "image" ["Keep"] [m_Keep_image] := ⟨methT_of T.n_Keep T.K_Keep T.M_Keep_image (ok_Keep_image T) (by decide) T.b_Keep_image, trivial⟩
theorem ok_law (T : Txt K mg) : FnOk P w K mg base CX0 9 T.a_law T.d_law ["_law_script"] (spF K 1 0 m_law) :=
  fn_ok (N := ["_law_script", "_law_count", "_law_corner", "_law_sides", "_law_question_here", "_law_shape", "_law_kept", "_law_yes", "_law_no", "_law_pair", "_law_k"]) T.F_law sc_law 0 g_law fun cdv A outer s H E hr => by
    have nd := sc_law.nd
    have v0 : ∀ pos : Pos, PE (cxOf CX0 P w K mg base ["_law_script", "_law_count", "_law_corner", "_law_sides", "_law_question_here", "_law_shape", "_law_kept", "_law_yes", "_law_no", "_law_pair", "_law_k"] "law" (defScope s_law) T.a_law cdv A outer s H E).nox (.Name "_law_script" pos) (tVar 0) := fun _ => pv 0
    have v1 : ∀ pos : Pos, PE (cxOf CX0 P w K mg base ["_law_script", "_law_count", "_law_corner", "_law_sides", "_law_question_here", "_law_shape", "_law_kept", "_law_yes", "_law_no", "_law_pair", "_law_k"] "law" (defScope s_law) T.a_law cdv A outer s H E).nox (.Name "_law_count" pos) (tVar 1) := fun _ => pv 1
    have v2 : ∀ pos : Pos, PE (cxOf CX0 P w K mg base ["_law_script", "_law_count", "_law_corner", "_law_sides", "_law_question_here", "_law_shape", "_law_kept", "_law_yes", "_law_no", "_law_pair", "_law_k"] "law" (defScope s_law) T.a_law cdv A outer s H E).nox (.Name "_law_corner" pos) (tVar 2) := fun _ => pv 2
    have v3 : ∀ pos : Pos, PE (cxOf CX0 P w K mg base ["_law_script", "_law_count", "_law_corner", "_law_sides", "_law_question_here", "_law_shape", "_law_kept", "_law_yes", "_law_no", "_law_pair", "_law_k"] "law" (defScope s_law) T.a_law cdv A outer s H E).nox (.Name "_law_sides" pos) (tVar 3) := fun _ => pv 3
    have v4 : ∀ pos : Pos, PE (cxOf CX0 P w K mg base ["_law_script", "_law_count", "_law_corner", "_law_sides", "_law_question_here", "_law_shape", "_law_kept", "_law_yes", "_law_no", "_law_pair", "_law_k"] "law" (defScope s_law) T.a_law cdv A outer s H E).nox (.Name "_law_question_here" pos) (tVar 4) := fun _ => pv 4
    have v5 : ∀ pos : Pos, PE (cxOf CX0 P w K mg base ["_law_script", "_law_count", "_law_corner", "_law_sides", "_law_question_here", "_law_shape", "_law_kept", "_law_yes", "_law_no", "_law_pair", "_law_k"] "law" (defScope s_law) T.a_law cdv A outer s H E).nox (.Name "_law_shape" pos) (tVar 5) := fun _ => pv 5
    have v6 : ∀ pos : Pos, PE (cxOf CX0 P w K mg base ["_law_script", "_law_count", "_law_corner", "_law_sides", "_law_question_here", "_law_shape", "_law_kept", "_law_yes", "_law_no", "_law_pair", "_law_k"] "law" (defScope s_law) T.a_law cdv A outer s H E).nox (.Name "_law_kept" pos) (tVar 6) := fun _ => pv 6
    have v7 : ∀ pos : Pos, PE (cxOf CX0 P w K mg base ["_law_script", "_law_count", "_law_corner", "_law_sides", "_law_question_here", "_law_shape", "_law_kept", "_law_yes", "_law_no", "_law_pair", "_law_k"] "law" (defScope s_law) T.a_law cdv A outer s H E).nox (.Name "_law_yes" pos) (tVar 7) := fun _ => pv 7
    have v8 : ∀ pos : Pos, PE (cxOf CX0 P w K mg base ["_law_script", "_law_count", "_law_corner", "_law_sides", "_law_question_here", "_law_shape", "_law_kept", "_law_yes", "_law_no", "_law_pair", "_law_k"] "law" (defScope s_law) T.a_law cdv A outer s H E).nox (.Name "_law_no" pos) (tVar 8) := fun _ => pv 8
    have v9 : ∀ pos : Pos, PE (cxOf CX0 P w K mg base ["_law_script", "_law_count", "_law_corner", "_law_sides", "_law_question_here", "_law_shape", "_law_kept", "_law_yes", "_law_no", "_law_pair", "_law_k"] "law" (defScope s_law) T.a_law cdv A outer s H E).nox (.Name "_law_pair" pos) (tVar 9) := fun _ => pv 9
    exact (fss_cons (fs_set (i := 1) nd rfl (.inl rfl) (fe_addI fe_int (fe_mod (fe_call (ok_law_cell T) (hr.mono (by decide)) (by rfl) T.g_law_cell T.F_law_cell.kp T.b_law_cell (fa_cons (fe_var (v0 _)) (fa_cons fe_int fa_nil)) (alen_cons (alen_cons alen_nil))) fe_int)))
      (fss_cons (fs_set (i := 2) nd rfl (.inl rfl) (fe_fl (fe_tuple (by rfl) T.m_tuple (fe_rd (fe_lc (k := 0) (ow := [("_law_k", 10)]) rfl nd (fi_rng1 (by rfl) T.m_range (fe_var (v1 _))) (blkOk_by (N := ["_law_script", "_law_count", "_law_corner", "_law_sides", "_law_question_here", "_law_shape", "_law_kept", "_law_yes", "_law_no", "_law_pair", "_law_k"]) (sc := defScope s_law) (by decide +kernel)) (by decide) (fun _ _ _ _ _ => (fg_name (i := 10) nd rfl (.inl rfl))) (fun _ _ _ _ _ => pts_yes) (fun _ _ _ _ _ => (fe_callO (ok_law_number T) (hr.mono (by decide)) (by rfl) T.g_law_number T.F_law_number.kp T.b_law_number (fa_cons (fe_call (ok_law_cell T) (hr.mono (by decide)) (by rfl) T.g_law_cell T.F_law_cell.kp T.b_law_cell (fa_cons (fe_var (pv 0)) (fa_cons (fe_addI fe_int (fe_var (pv 10))) fa_nil)) (alen_cons (alen_cons alen_nil))) fa_nil) (alen_cons alen_nil))))))))
      (fss_cons (fs_set (i := 3) nd rfl (.inl rfl) (fe_fz (fe_cat (fe_call (ok_law_box T) (hr.mono (by decide)) (by rfl) T.g_law_box T.F_law_box.kp T.b_law_box (fa_cons (fe_var (v0 _)) (fa_cons (fe_var (v1 _)) fa_nil)) (alen_cons (alen_cons alen_nil))) (fe_call (ok_law_more T) (hr.mono (by decide)) (by rfl) T.g_law_more T.F_law_more.kp T.b_law_more (fa_cons (fe_var (v0 _)) (fa_cons (fe_var (v2 _)) fa_nil)) (alen_cons (alen_cons alen_nil))))))
      (fss_cons (fs_set (i := 4) nd rfl (.inl rfl) (fe_callO (ok_law_question T) (hr.mono (by decide)) (by rfl) T.g_law_question T.F_law_question.kp T.b_law_question (fa_cons (fe_var (v0 _)) (fa_cons (fe_var (v2 _)) fa_nil)) (alen_cons (alen_cons alen_nil))))
      (fss_cons (fs_set (i := 5) nd rfl (.inl rfl) (fe_fz (fe_callO (ok_closed T) (hr.mono (by decide)) (by rfl) T.g_closed T.F_closed.kp T.b_closed (fa_cons (fe_var (v1 _)) (fa_cons (fe_rd (fe_list (by rfl) T.m_list (fe_var (v3 _)))) fa_nil)) (alen_cons (alen_cons alen_nil)))))
      (fss_cons (fs_set (i := 6) nd rfl (.inl rfl) (fe_fz (fe_callO (ok_law_copy T) (hr.mono (by decide)) (by rfl) T.g_law_copy T.F_law_copy.kp T.b_law_copy (fa_cons (fe_var (v5 _)) fa_nil) (alen_cons alen_nil))))
      (fss_cons (fs_set (i := 7) nd rfl (.inl rfl) (fe_fz (fe_methO (am_image T) (hr.mono (by decide)) (fe_make T.n_Keep T.I_Keep (ok_Keep_init T) (hr.mono (by decide)) (by rfl) T.g_Keep T.b_Keep_init (fa_cons (fe_var (v4 _)) fa_nil)) (fa_cons (fe_var (v5 _)) fa_nil) (alen_cons alen_nil))))
      (fss_cons (fs_set (i := 8) nd rfl (.inl rfl) (fe_fz (fe_methO (am_image T) (hr.mono (by decide)) (fe_make T.n_Keep T.I_Keep (ok_Keep_init T) (hr.mono (by decide)) (by rfl) T.g_Keep T.b_Keep_init (fa_cons (fe_call (ok_turned T) (hr.mono (by decide)) (by rfl) T.g_turned T.F_turned.kp T.b_turned (fa_cons (fe_var (v4 _)) fa_nil) (alen_cons alen_nil)) fa_nil)) (fa_cons (fe_var (v5 _)) fa_nil) (alen_cons alen_nil))))
      (fss_cons (fs_if (PW.pt (fw_or (ft_ne hr.units (fe_call (ok_join T) (hr.mono (by decide)) (by rfl) T.g_join T.F_join.kp T.b_join (fa_cons (fe_var (v7 _)) (fa_cons (fe_var (v8 _)) fa_nil)) (alen_cons (alen_cons alen_nil))) (fe_var (v5 _))) (fw_or (ft_not (ft_val (fe_call (ok_law_no_larger T) (hr.mono (by decide)) (by rfl) T.g_law_no_larger T.F_law_no_larger.kp T.b_law_no_larger (fa_cons (fe_var (v7 _)) (fa_cons (fe_var (v5 _)) fa_nil)) (alen_cons (alen_cons alen_nil))))) (fw_or1 (ft_not (ft_val (fe_call (ok_law_no_larger T) (hr.mono (by decide)) (by rfl) T.g_law_no_larger T.F_law_no_larger.kp T.b_law_no_larger (fa_cons (fe_var (v8 _)) (fa_cons (fe_var (v5 _)) fa_nil)) (alen_cons (alen_cons alen_nil))))))))) (fss_one (fs_ret fe_bl)) fss_nil)
      (fss_cons (fs_if (ft_not (ft_val (fe_call (ok_law_dealt T) (hr.mono (by decide)) (by rfl) T.g_law_dealt T.F_law_dealt.kp T.b_law_dealt (fa_cons (fe_var (v7 _)) (fa_cons (fe_var (v8 _)) (fa_cons (fe_call (ok_law_points T) (hr.mono (by decide)) (by rfl) T.g_law_points T.F_law_points.kp T.b_law_points (fa_cons (fe_var (v0 _)) (fa_cons (fe_var (v2 _)) fa_nil)) (alen_cons (alen_cons alen_nil))) (fa_cons (fe_var (v3 _)) (fa_cons (fe_var (v4 _)) fa_nil))))) (alen_cons (alen_cons (alen_cons (alen_cons (alen_cons alen_nil)))))))) (fss_one (fs_ret fe_bl)) fss_nil)
      (fss_cons (fs_set (i := 9) nd rfl (.inl rfl) (fe_fz (k := 1) (fe_lst (kd := .ow 0) (fa_cons (fe_mod (fe_div (fe_call (ok_law_cell T) (hr.mono (by decide)) (by rfl) T.g_law_cell T.F_law_cell.kp T.b_law_cell (fa_cons (fe_var (v0 _)) (fa_cons fe_int fa_nil)) (alen_cons (alen_cons alen_nil))) fe_int) (fe_mul fe_int (fe_var (v1 _)))) (fa_cons (fe_mod (fe_div (fe_call (ok_law_cell T) (hr.mono (by decide)) (by rfl) T.g_law_cell T.F_law_cell.kp T.b_law_cell (fa_cons (fe_var (v0 _)) (fa_cons fe_int fa_nil)) (alen_cons (alen_cons alen_nil))) fe_int) (fe_mul fe_int (fe_var (v1 _)))) fa_nil)))))
      (fss_cons (fs_if (PW.pt (fw_and (ft_ne hr.units (fe_ix (fe_var (v4 _)) fe_int) fe_str) (fw_and1 (ft_not (ft_val (fe_call (ok_law_just T) (hr.mono (by decide)) (by rfl) T.g_law_just T.F_law_just.kp T.b_law_just (fa_cons (fe_var (v7 _)) (fa_cons (fe_var (v3 _)) (fa_cons (fe_var (v4 _)) (fa_cons fe_bl (fa_cons (fe_var (v1 _)) (fa_cons (fe_var (v9 _)) fa_nil)))))) (alen_cons (alen_cons (alen_cons (alen_cons (alen_cons (alen_cons alen_nil)))))))))))) (fss_one (fs_ret fe_bl)) fss_nil)
      (fss_cons (fs_if (PW.pt (fw_and (ft_ne hr.units (fe_ix (fe_var (v4 _)) fe_int) fe_str) (fw_and1 (ft_not (ft_val (fe_call (ok_law_just T) (hr.mono (by decide)) (by rfl) T.g_law_just T.F_law_just.kp T.b_law_just (fa_cons (fe_var (v8 _)) (fa_cons (fe_var (v3 _)) (fa_cons (fe_var (v4 _)) (fa_cons fe_bl (fa_cons (fe_var (v1 _)) (fa_cons (fe_var (v9 _)) fa_nil)))))) (alen_cons (alen_cons (alen_cons (alen_cons (alen_cons (alen_cons alen_nil)))))))))))) (fss_one (fs_ret fe_bl)) fss_nil)
      (fss_one (fs_ret (fe_eq hr.units (fe_var (v5 _)) (fe_var (v6 _))))))))))))))))))
end
theorem all_mk {l : PySem.W.OpenLaw} {w : World} {K : PySem.W.Frag} {h : Heap} {mg : Str → Option Value} {fa : Addr} (X : K.In h) (G : h.Ns mainGlobals mg) (hfa : mg "law" = some (.ref fa))
    {axKeep : Addr} (A_xKeep : PySem.W.nsIn K mainGlobals "Keep" = some (some (.ref axKeep))) (pg_xKeep : PySem.W.plainGet K axKeep Str.empty = true) (hd_xKeep : PySem.W.hasDictIn K axKeep = true) (po_xKeep : PySem.W.plainOver K axKeep = true) (sa_xKeep : PySem.W.findIn K (.ref axKeep) "__setattr__" = some (some (.builtin "object.__setattr__"))) (mk_xKeep : PySem.W.makesIn K axKeep = true) (kc_xKeep : PySem.W.keepIn K (.ref axKeep) = true)
    (nf_xKeep_question : PySem.W.findIn K (.ref axKeep) "question" = some none)
    {f_Keep_image : Addr} {od_Keep_image an_Keep_image : Option Addr} {sl_Keep_image : Array (Option Value)} {oc_Keep_image kV_Keep_image dc_Keep_image pm_Keep_image cd_Keep_image ct_Keep_image : Value}
    (e_xKeep_image : PySem.W.findIn K (.ref axKeep) "image" = some (some (.ref f_Keep_image)))
    (i_Keep_image : PySem.W.isFn K (.ref f_Keep_image) = true)
    (l_Keep_image : K.lookup f_Keep_image = some ⟨oc_Keep_image, od_Keep_image, .func (PySem.W.fnOf "image" "Keep.image" (defArgs s_Keep_image) (defBody s_Keep_image) (defScope s_Keep_image) .none kV_Keep_image dc_Keep_image pm_Keep_image an_Keep_image cd_Keep_image ct_Keep_image), sl_Keep_image⟩) (c_Keep_image : PySem.W.codeIn K cd_Keep_image "Keep.image" = true) (k_Keep_image : PySem.W.keepIn K (.ref f_Keep_image) = true)
    {f_Keep_parts : Addr} {od_Keep_parts an_Keep_parts : Option Addr} {sl_Keep_parts : Array (Option Value)} {oc_Keep_parts kV_Keep_parts dc_Keep_parts pm_Keep_parts cd_Keep_parts ct_Keep_parts : Value}
    (e_xKeep_parts : PySem.W.findIn K (.ref axKeep) "parts" = some (some (.ref f_Keep_parts)))
    (i_Keep_parts : PySem.W.isFn K (.ref f_Keep_parts) = true)
    (l_Keep_parts : K.lookup f_Keep_parts = some ⟨oc_Keep_parts, od_Keep_parts, .func (PySem.W.fnOf "parts" "Keep.parts" (defArgs s_Keep_parts) (defBody s_Keep_parts) (defScope s_Keep_parts) .none kV_Keep_parts dc_Keep_parts pm_Keep_parts an_Keep_parts cd_Keep_parts ct_Keep_parts), sl_Keep_parts⟩) (c_Keep_parts : PySem.W.codeIn K cd_Keep_parts "Keep.parts" = true) (k_Keep_parts : PySem.W.keepIn K (.ref f_Keep_parts) = true)
    {f_Keep_init : Addr} {od_Keep_init an_Keep_init : Option Addr} {sl_Keep_init : Array (Option Value)} {oc_Keep_init kV_Keep_init dc_Keep_init pm_Keep_init cd_Keep_init ct_Keep_init : Value}
    (e_xKeep_init : PySem.W.findIn K (.ref axKeep) "__init__" = some (some (.ref f_Keep_init))) (i_Keep_init : PySem.W.isFn K (.ref f_Keep_init) = true)
    (l_Keep_init : K.lookup f_Keep_init = some ⟨oc_Keep_init, od_Keep_init, .func (PySem.W.fnOf "__init__" "Keep.__init__" (defArgs s_Keep_init) (defBody s_Keep_init) (defScope s_Keep_init) .none kV_Keep_init dc_Keep_init pm_Keep_init an_Keep_init cd_Keep_init ct_Keep_init), sl_Keep_init⟩) (c_Keep_init : PySem.W.codeIn K cd_Keep_init "Keep.__init__" = true) (k_Keep_init : PySem.W.keepIn K (.ref f_Keep_init) = true)
    {f_added : Addr} {od_added an_added : Option Addr} {sl_added : Array (Option Value)} {oc_added kV_added dc_added pm_added cd_added ct_added : Value}
    (A_added : PySem.W.nsIn K mainGlobals "added" = some (some (.ref f_added))) (l_added : K.lookup f_added = some ⟨oc_added, od_added, .func (PySem.W.fnOf "added" "added" (defArgs s_added) (defBody s_added) (defScope s_added) .none kV_added dc_added pm_added an_added cd_added ct_added), sl_added⟩) (c_added : PySem.W.codeIn K cd_added "added" = true) (k_added : PySem.W.keepIn K (.ref f_added) = true)
    {f_lesser : Addr} {od_lesser an_lesser : Option Addr} {sl_lesser : Array (Option Value)} {oc_lesser kV_lesser dc_lesser pm_lesser cd_lesser ct_lesser : Value}
    (A_lesser : PySem.W.nsIn K mainGlobals "lesser" = some (some (.ref f_lesser))) (l_lesser : K.lookup f_lesser = some ⟨oc_lesser, od_lesser, .func (PySem.W.fnOf "lesser" "lesser" (defArgs s_lesser) (defBody s_lesser) (defScope s_lesser) .none kV_lesser dc_lesser pm_lesser an_lesser cd_lesser ct_lesser), sl_lesser⟩) (c_lesser : PySem.W.codeIn K cd_lesser "lesser" = true) (k_lesser : PySem.W.keepIn K (.ref f_lesser) = true)
    {f_flipped : Addr} {od_flipped an_flipped : Option Addr} {sl_flipped : Array (Option Value)} {oc_flipped kV_flipped dc_flipped pm_flipped cd_flipped ct_flipped : Value}
    (A_flipped : PySem.W.nsIn K mainGlobals "flipped" = some (some (.ref f_flipped))) (l_flipped : K.lookup f_flipped = some ⟨oc_flipped, od_flipped, .func (PySem.W.fnOf "flipped" "flipped" (defArgs s_flipped) (defBody s_flipped) (defScope s_flipped) .none kV_flipped dc_flipped pm_flipped an_flipped cd_flipped ct_flipped), sl_flipped⟩) (c_flipped : PySem.W.codeIn K cd_flipped "flipped" = true) (k_flipped : PySem.W.keepIn K (.ref f_flipped) = true)
    {f_worth : Addr} {od_worth an_worth : Option Addr} {sl_worth : Array (Option Value)} {oc_worth kV_worth dc_worth pm_worth cd_worth ct_worth : Value}
    (A_worth : PySem.W.nsIn K mainGlobals "worth" = some (some (.ref f_worth))) (l_worth : K.lookup f_worth = some ⟨oc_worth, od_worth, .func (PySem.W.fnOf "worth" "worth" (defArgs s_worth) (defBody s_worth) (defScope s_worth) .none kV_worth dc_worth pm_worth an_worth cd_worth ct_worth), sl_worth⟩) (c_worth : PySem.W.codeIn K cd_worth "worth" = true) (k_worth : PySem.W.keepIn K (.ref f_worth) = true)
    {f_wide : Addr} {od_wide an_wide : Option Addr} {sl_wide : Array (Option Value)} {oc_wide kV_wide dc_wide pm_wide cd_wide ct_wide : Value}
    (A_wide : PySem.W.nsIn K mainGlobals "wide" = some (some (.ref f_wide))) (l_wide : K.lookup f_wide = some ⟨oc_wide, od_wide, .func (PySem.W.fnOf "wide" "wide" (defArgs s_wide) (defBody s_wide) (defScope s_wide) .none kV_wide dc_wide pm_wide an_wide cd_wide ct_wide), sl_wide⟩) (c_wide : PySem.W.codeIn K cd_wide "wide" = true) (k_wide : PySem.W.keepIn K (.ref f_wide) = true)
    {f_copied : Addr} {od_copied an_copied : Option Addr} {sl_copied : Array (Option Value)} {oc_copied kV_copied dc_copied pm_copied cd_copied ct_copied : Value}
    (A_copied : PySem.W.nsIn K mainGlobals "copied" = some (some (.ref f_copied))) (l_copied : K.lookup f_copied = some ⟨oc_copied, od_copied, .func (PySem.W.fnOf "copied" "copied" (defArgs s_copied) (defBody s_copied) (defScope s_copied) .none kV_copied dc_copied pm_copied an_copied cd_copied ct_copied), sl_copied⟩) (c_copied : PySem.W.codeIn K cd_copied "copied" = true) (k_copied : PySem.W.keepIn K (.ref f_copied) = true)
    {f_led : Addr} {od_led an_led : Option Addr} {sl_led : Array (Option Value)} {oc_led kV_led dc_led pm_led cd_led ct_led : Value}
    (A_led : PySem.W.nsIn K mainGlobals "led" = some (some (.ref f_led))) (l_led : K.lookup f_led = some ⟨oc_led, od_led, .func (PySem.W.fnOf "led" "led" (defArgs s_led) (defBody s_led) (defScope s_led) .none kV_led dc_led pm_led an_led cd_led ct_led), sl_led⟩) (c_led : PySem.W.codeIn K cd_led "led" = true) (k_led : PySem.W.keepIn K (.ref f_led) = true)
    {f_relinked : Addr} {od_relinked an_relinked : Option Addr} {sl_relinked : Array (Option Value)} {oc_relinked kV_relinked dc_relinked pm_relinked cd_relinked ct_relinked : Value}
    (A_relinked : PySem.W.nsIn K mainGlobals "relinked" = some (some (.ref f_relinked))) (l_relinked : K.lookup f_relinked = some ⟨oc_relinked, od_relinked, .func (PySem.W.fnOf "relinked" "relinked" (defArgs s_relinked) (defBody s_relinked) (defScope s_relinked) .none kV_relinked dc_relinked pm_relinked an_relinked cd_relinked ct_relinked), sl_relinked⟩) (c_relinked : PySem.W.codeIn K cd_relinked "relinked" = true) (k_relinked : PySem.W.keepIn K (.ref f_relinked) = true)
    {f_halve : Addr} {od_halve an_halve : Option Addr} {sl_halve : Array (Option Value)} {oc_halve kV_halve dc_halve pm_halve cd_halve ct_halve : Value}
    (A_halve : PySem.W.nsIn K mainGlobals "halve" = some (some (.ref f_halve))) (l_halve : K.lookup f_halve = some ⟨oc_halve, od_halve, .func (PySem.W.fnOf "halve" "halve" (defArgs s_halve) (defBody s_halve) (defScope s_halve) .none kV_halve dc_halve pm_halve an_halve cd_halve ct_halve), sl_halve⟩) (c_halve : PySem.W.codeIn K cd_halve "halve" = true) (k_halve : PySem.W.keepIn K (.ref f_halve) = true)
    {f_has_none : Addr} {od_has_none an_has_none : Option Addr} {sl_has_none : Array (Option Value)} {oc_has_none kV_has_none dc_has_none pm_has_none cd_has_none ct_has_none : Value}
    (A_has_none : PySem.W.nsIn K mainGlobals "has_none" = some (some (.ref f_has_none))) (l_has_none : K.lookup f_has_none = some ⟨oc_has_none, od_has_none, .func (PySem.W.fnOf "has_none" "has_none" (defArgs s_has_none) (defBody s_has_none) (defScope s_has_none) .none kV_has_none dc_has_none pm_has_none an_has_none cd_has_none ct_has_none), sl_has_none⟩) (c_has_none : PySem.W.codeIn K cd_has_none "has_none" = true) (k_has_none : PySem.W.keepIn K (.ref f_has_none) = true)
    {f_strengthen : Addr} {od_strengthen an_strengthen : Option Addr} {sl_strengthen : Array (Option Value)} {oc_strengthen kV_strengthen dc_strengthen pm_strengthen cd_strengthen ct_strengthen : Value}
    (A_strengthen : PySem.W.nsIn K mainGlobals "strengthen" = some (some (.ref f_strengthen))) (l_strengthen : K.lookup f_strengthen = some ⟨oc_strengthen, od_strengthen, .func (PySem.W.fnOf "strengthen" "strengthen" (defArgs s_strengthen) (defBody s_strengthen) (defScope s_strengthen) .none kV_strengthen dc_strengthen pm_strengthen an_strengthen cd_strengthen ct_strengthen), sl_strengthen⟩) (c_strengthen : PySem.W.codeIn K cd_strengthen "strengthen" = true) (k_strengthen : PySem.W.keepIn K (.ref f_strengthen) = true)
    {f_held : Addr} {od_held an_held : Option Addr} {sl_held : Array (Option Value)} {oc_held kV_held dc_held pm_held cd_held ct_held : Value}
    (A_held : PySem.W.nsIn K mainGlobals "held" = some (some (.ref f_held))) (l_held : K.lookup f_held = some ⟨oc_held, od_held, .func (PySem.W.fnOf "held" "held" (defArgs s_held) (defBody s_held) (defScope s_held) .none kV_held dc_held pm_held an_held cd_held ct_held), sl_held⟩) (c_held : PySem.W.codeIn K cd_held "held" = true) (k_held : PySem.W.keepIn K (.ref f_held) = true)
    {f_closed : Addr} {od_closed an_closed : Option Addr} {sl_closed : Array (Option Value)} {oc_closed kV_closed dc_closed pm_closed cd_closed ct_closed : Value}
    (A_closed : PySem.W.nsIn K mainGlobals "closed" = some (some (.ref f_closed))) (l_closed : K.lookup f_closed = some ⟨oc_closed, od_closed, .func (PySem.W.fnOf "closed" "closed" (defArgs s_closed) (defBody s_closed) (defScope s_closed) .none kV_closed dc_closed pm_closed an_closed cd_closed ct_closed), sl_closed⟩) (c_closed : PySem.W.codeIn K cd_closed "closed" = true) (k_closed : PySem.W.keepIn K (.ref f_closed) = true)
    {f_halved_entry : Addr} {od_halved_entry an_halved_entry : Option Addr} {sl_halved_entry : Array (Option Value)} {oc_halved_entry kV_halved_entry dc_halved_entry pm_halved_entry cd_halved_entry ct_halved_entry : Value}
    (A_halved_entry : PySem.W.nsIn K mainGlobals "halved_entry" = some (some (.ref f_halved_entry))) (l_halved_entry : K.lookup f_halved_entry = some ⟨oc_halved_entry, od_halved_entry, .func (PySem.W.fnOf "halved_entry" "halved_entry" (defArgs s_halved_entry) (defBody s_halved_entry) (defScope s_halved_entry) .none kV_halved_entry dc_halved_entry pm_halved_entry an_halved_entry cd_halved_entry ct_halved_entry), sl_halved_entry⟩) (c_halved_entry : PySem.W.codeIn K cd_halved_entry "halved_entry" = true) (k_halved_entry : PySem.W.keepIn K (.ref f_halved_entry) = true)
    {f_top_beside : Addr} {od_top_beside an_top_beside : Option Addr} {sl_top_beside : Array (Option Value)} {oc_top_beside kV_top_beside dc_top_beside pm_top_beside cd_top_beside ct_top_beside : Value}
    (A_top_beside : PySem.W.nsIn K mainGlobals "top_beside" = some (some (.ref f_top_beside))) (l_top_beside : K.lookup f_top_beside = some ⟨oc_top_beside, od_top_beside, .func (PySem.W.fnOf "top_beside" "top_beside" (defArgs s_top_beside) (defBody s_top_beside) (defScope s_top_beside) .none kV_top_beside dc_top_beside pm_top_beside an_top_beside cd_top_beside ct_top_beside), sl_top_beside⟩) (c_top_beside : PySem.W.codeIn K cd_top_beside "top_beside" = true) (k_top_beside : PySem.W.keepIn K (.ref f_top_beside) = true)
    {f_some_point : Addr} {od_some_point an_some_point : Option Addr} {sl_some_point : Array (Option Value)} {oc_some_point kV_some_point dc_some_point pm_some_point cd_some_point ct_some_point : Value}
    (A_some_point : PySem.W.nsIn K mainGlobals "some_point" = some (some (.ref f_some_point))) (l_some_point : K.lookup f_some_point = some ⟨oc_some_point, od_some_point, .func (PySem.W.fnOf "some_point" "some_point" (defArgs s_some_point) (defBody s_some_point) (defScope s_some_point) .none kV_some_point dc_some_point pm_some_point an_some_point cd_some_point ct_some_point), sl_some_point⟩) (c_some_point : PySem.W.codeIn K cd_some_point "some_point" = true) (k_some_point : PySem.W.keepIn K (.ref f_some_point) = true)
    {f_greatest_of_three : Addr} {od_greatest_of_three an_greatest_of_three : Option Addr} {sl_greatest_of_three : Array (Option Value)} {oc_greatest_of_three kV_greatest_of_three dc_greatest_of_three pm_greatest_of_three cd_greatest_of_three ct_greatest_of_three : Value}
    (A_greatest_of_three : PySem.W.nsIn K mainGlobals "greatest_of_three" = some (some (.ref f_greatest_of_three))) (l_greatest_of_three : K.lookup f_greatest_of_three = some ⟨oc_greatest_of_three, od_greatest_of_three, .func (PySem.W.fnOf "greatest_of_three" "greatest_of_three" (defArgs s_greatest_of_three) (defBody s_greatest_of_three) (defScope s_greatest_of_three) .none kV_greatest_of_three dc_greatest_of_three pm_greatest_of_three an_greatest_of_three cd_greatest_of_three ct_greatest_of_three), sl_greatest_of_three⟩) (c_greatest_of_three : PySem.W.codeIn K cd_greatest_of_three "greatest_of_three" = true) (k_greatest_of_three : PySem.W.keepIn K (.ref f_greatest_of_three) = true)
    {f_greatest : Addr} {od_greatest an_greatest : Option Addr} {sl_greatest : Array (Option Value)} {oc_greatest kV_greatest dc_greatest pm_greatest cd_greatest ct_greatest : Value}
    (A_greatest : PySem.W.nsIn K mainGlobals "greatest" = some (some (.ref f_greatest))) (l_greatest : K.lookup f_greatest = some ⟨oc_greatest, od_greatest, .func (PySem.W.fnOf "greatest" "greatest" (defArgs s_greatest) (defBody s_greatest) (defScope s_greatest) .none kV_greatest dc_greatest pm_greatest an_greatest cd_greatest ct_greatest), sl_greatest⟩) (c_greatest : PySem.W.codeIn K cd_greatest "greatest" = true) (k_greatest : PySem.W.keepIn K (.ref f_greatest) = true)
    {f_least_for : Addr} {od_least_for an_least_for : Option Addr} {sl_least_for : Array (Option Value)} {oc_least_for kV_least_for dc_least_for pm_least_for cd_least_for ct_least_for : Value}
    (A_least_for : PySem.W.nsIn K mainGlobals "least_for" = some (some (.ref f_least_for))) (l_least_for : K.lookup f_least_for = some ⟨oc_least_for, od_least_for, .func (PySem.W.fnOf "least_for" "least_for" (defArgs s_least_for) (defBody s_least_for) (defScope s_least_for) .none kV_least_for dc_least_for pm_least_for an_least_for cd_least_for ct_least_for), sl_least_for⟩) (c_least_for : PySem.W.codeIn K cd_least_for "least_for" = true) (k_least_for : PySem.W.keepIn K (.ref f_least_for) = true)
    {f_pinned : Addr} {od_pinned an_pinned : Option Addr} {sl_pinned : Array (Option Value)} {oc_pinned kV_pinned dc_pinned pm_pinned cd_pinned ct_pinned : Value}
    (A_pinned : PySem.W.nsIn K mainGlobals "pinned" = some (some (.ref f_pinned))) (l_pinned : K.lookup f_pinned = some ⟨oc_pinned, od_pinned, .func (PySem.W.fnOf "pinned" "pinned" (defArgs s_pinned) (defBody s_pinned) (defScope s_pinned) .none kV_pinned dc_pinned pm_pinned an_pinned cd_pinned ct_pinned), sl_pinned⟩) (c_pinned : PySem.W.codeIn K cd_pinned "pinned" = true) (k_pinned : PySem.W.keepIn K (.ref f_pinned) = true)
    {f_reaching_three : Addr} {od_reaching_three an_reaching_three : Option Addr} {sl_reaching_three : Array (Option Value)} {oc_reaching_three kV_reaching_three dc_reaching_three pm_reaching_three cd_reaching_three ct_reaching_three : Value}
    (A_reaching_three : PySem.W.nsIn K mainGlobals "reaching_three" = some (some (.ref f_reaching_three))) (l_reaching_three : K.lookup f_reaching_three = some ⟨oc_reaching_three, od_reaching_three, .func (PySem.W.fnOf "reaching_three" "reaching_three" (defArgs s_reaching_three) (defBody s_reaching_three) (defScope s_reaching_three) .none kV_reaching_three dc_reaching_three pm_reaching_three an_reaching_three cd_reaching_three ct_reaching_three), sl_reaching_three⟩) (c_reaching_three : PySem.W.codeIn K cd_reaching_three "reaching_three" = true) (k_reaching_three : PySem.W.keepIn K (.ref f_reaching_three) = true)
    {f_reaching : Addr} {od_reaching an_reaching : Option Addr} {sl_reaching : Array (Option Value)} {oc_reaching kV_reaching dc_reaching pm_reaching cd_reaching ct_reaching : Value}
    (A_reaching : PySem.W.nsIn K mainGlobals "reaching" = some (some (.ref f_reaching))) (l_reaching : K.lookup f_reaching = some ⟨oc_reaching, od_reaching, .func (PySem.W.fnOf "reaching" "reaching" (defArgs s_reaching) (defBody s_reaching) (defScope s_reaching) .none kV_reaching dc_reaching pm_reaching an_reaching cd_reaching ct_reaching), sl_reaching⟩) (c_reaching : PySem.W.codeIn K cd_reaching "reaching" = true) (k_reaching : PySem.W.keepIn K (.ref f_reaching) = true)
    {f_joined_line : Addr} {od_joined_line an_joined_line : Option Addr} {sl_joined_line : Array (Option Value)} {oc_joined_line kV_joined_line dc_joined_line pm_joined_line cd_joined_line ct_joined_line : Value}
    (A_joined_line : PySem.W.nsIn K mainGlobals "joined_line" = some (some (.ref f_joined_line))) (l_joined_line : K.lookup f_joined_line = some ⟨oc_joined_line, od_joined_line, .func (PySem.W.fnOf "joined_line" "joined_line" (defArgs s_joined_line) (defBody s_joined_line) (defScope s_joined_line) .none kV_joined_line dc_joined_line pm_joined_line an_joined_line cd_joined_line ct_joined_line), sl_joined_line⟩) (c_joined_line : PySem.W.codeIn K cd_joined_line "joined_line" = true) (k_joined_line : PySem.W.keepIn K (.ref f_joined_line) = true)
    {f_join : Addr} {od_join an_join : Option Addr} {sl_join : Array (Option Value)} {oc_join kV_join dc_join pm_join cd_join ct_join : Value}
    (A_join : PySem.W.nsIn K mainGlobals "join" = some (some (.ref f_join))) (l_join : K.lookup f_join = some ⟨oc_join, od_join, .func (PySem.W.fnOf "join" "join" (defArgs s_join) (defBody s_join) (defScope s_join) .none kV_join dc_join pm_join an_join cd_join ct_join), sl_join⟩) (c_join : PySem.W.codeIn K cd_join "join" = true) (k_join : PySem.W.keepIn K (.ref f_join) = true)
    {f_turned : Addr} {od_turned an_turned : Option Addr} {sl_turned : Array (Option Value)} {oc_turned kV_turned dc_turned pm_turned cd_turned ct_turned : Value}
    (A_turned : PySem.W.nsIn K mainGlobals "turned" = some (some (.ref f_turned))) (l_turned : K.lookup f_turned = some ⟨oc_turned, od_turned, .func (PySem.W.fnOf "turned" "turned" (defArgs s_turned) (defBody s_turned) (defScope s_turned) .none kV_turned dc_turned pm_turned an_turned cd_turned ct_turned), sl_turned⟩) (c_turned : PySem.W.codeIn K cd_turned "turned" = true) (k_turned : PySem.W.keepIn K (.ref f_turned) = true)
    {f_below : Addr} {od_below an_below : Option Addr} {sl_below : Array (Option Value)} {oc_below kV_below dc_below pm_below cd_below ct_below : Value}
    (A_below : PySem.W.nsIn K mainGlobals "below" = some (some (.ref f_below))) (l_below : K.lookup f_below = some ⟨oc_below, od_below, .func (PySem.W.fnOf "below" "below" (defArgs s_below) (defBody s_below) (defScope s_below) .none kV_below dc_below pm_below an_below cd_below ct_below), sl_below⟩) (c_below : PySem.W.codeIn K cd_below "below" = true) (k_below : PySem.W.keepIn K (.ref f_below) = true)
    {f_above : Addr} {od_above an_above : Option Addr} {sl_above : Array (Option Value)} {oc_above kV_above dc_above pm_above cd_above ct_above : Value}
    (A_above : PySem.W.nsIn K mainGlobals "above" = some (some (.ref f_above))) (l_above : K.lookup f_above = some ⟨oc_above, od_above, .func (PySem.W.fnOf "above" "above" (defArgs s_above) (defBody s_above) (defScope s_above) .none kV_above dc_above pm_above an_above cd_above ct_above), sl_above⟩) (c_above : PySem.W.codeIn K cd_above "above" = true) (k_above : PySem.W.keepIn K (.ref f_above) = true)
    {f_cases : Addr} {od_cases an_cases : Option Addr} {sl_cases : Array (Option Value)} {oc_cases kV_cases dc_cases pm_cases cd_cases ct_cases : Value}
    (A_cases : PySem.W.nsIn K mainGlobals "cases" = some (some (.ref f_cases))) (l_cases : K.lookup f_cases = some ⟨oc_cases, od_cases, .func (PySem.W.fnOf "cases" "cases" (defArgs s_cases) (defBody s_cases) (defScope s_cases) .none kV_cases dc_cases pm_cases an_cases cd_cases ct_cases), sl_cases⟩) (c_cases : PySem.W.codeIn K cd_cases "cases" = true) (k_cases : PySem.W.keepIn K (.ref f_cases) = true)
    {f_law_cell : Addr} {od_law_cell an_law_cell : Option Addr} {sl_law_cell : Array (Option Value)} {oc_law_cell kV_law_cell dc_law_cell pm_law_cell cd_law_cell ct_law_cell : Value}
    (A_law_cell : PySem.W.nsIn K mainGlobals "_law_cell" = some (some (.ref f_law_cell))) (l_law_cell : K.lookup f_law_cell = some ⟨oc_law_cell, od_law_cell, .func (PySem.W.fnOf "_law_cell" "_law_cell" (defArgs s_law_cell) (defBody s_law_cell) (defScope s_law_cell) .none kV_law_cell dc_law_cell pm_law_cell an_law_cell cd_law_cell ct_law_cell), sl_law_cell⟩) (c_law_cell : PySem.W.codeIn K cd_law_cell "_law_cell" = true) (k_law_cell : PySem.W.keepIn K (.ref f_law_cell) = true)
    {f_law_whole : Addr} {od_law_whole an_law_whole : Option Addr} {sl_law_whole : Array (Option Value)} {oc_law_whole kV_law_whole dc_law_whole pm_law_whole cd_law_whole ct_law_whole : Value}
    (A_law_whole : PySem.W.nsIn K mainGlobals "_law_whole" = some (some (.ref f_law_whole))) (l_law_whole : K.lookup f_law_whole = some ⟨oc_law_whole, od_law_whole, .func (PySem.W.fnOf "_law_whole" "_law_whole" (defArgs s_law_whole) (defBody s_law_whole) (defScope s_law_whole) .none kV_law_whole dc_law_whole pm_law_whole an_law_whole cd_law_whole ct_law_whole), sl_law_whole⟩) (c_law_whole : PySem.W.codeIn K cd_law_whole "_law_whole" = true) (k_law_whole : PySem.W.keepIn K (.ref f_law_whole) = true)
    {f_law_worth : Addr} {od_law_worth an_law_worth : Option Addr} {sl_law_worth : Array (Option Value)} {oc_law_worth kV_law_worth dc_law_worth pm_law_worth cd_law_worth ct_law_worth : Value}
    (A_law_worth : PySem.W.nsIn K mainGlobals "_law_worth" = some (some (.ref f_law_worth))) (l_law_worth : K.lookup f_law_worth = some ⟨oc_law_worth, od_law_worth, .func (PySem.W.fnOf "_law_worth" "_law_worth" (defArgs s_law_worth) (defBody s_law_worth) (defScope s_law_worth) .none kV_law_worth dc_law_worth pm_law_worth an_law_worth cd_law_worth ct_law_worth), sl_law_worth⟩) (c_law_worth : PySem.W.codeIn K cd_law_worth "_law_worth" = true) (k_law_worth : PySem.W.keepIn K (.ref f_law_worth) = true)
    {f_law_sum : Addr} {od_law_sum an_law_sum : Option Addr} {sl_law_sum : Array (Option Value)} {oc_law_sum kV_law_sum dc_law_sum pm_law_sum cd_law_sum ct_law_sum : Value}
    (A_law_sum : PySem.W.nsIn K mainGlobals "_law_sum" = some (some (.ref f_law_sum))) (l_law_sum : K.lookup f_law_sum = some ⟨oc_law_sum, od_law_sum, .func (PySem.W.fnOf "_law_sum" "_law_sum" (defArgs s_law_sum) (defBody s_law_sum) (defScope s_law_sum) .none kV_law_sum dc_law_sum pm_law_sum an_law_sum cd_law_sum ct_law_sum), sl_law_sum⟩) (c_law_sum : PySem.W.codeIn K cd_law_sum "_law_sum" = true) (k_law_sum : PySem.W.keepIn K (.ref f_law_sum) = true)
    {f_law_keeps : Addr} {od_law_keeps an_law_keeps : Option Addr} {sl_law_keeps : Array (Option Value)} {oc_law_keeps kV_law_keeps dc_law_keeps pm_law_keeps cd_law_keeps ct_law_keeps : Value}
    (A_law_keeps : PySem.W.nsIn K mainGlobals "_law_keeps" = some (some (.ref f_law_keeps))) (l_law_keeps : K.lookup f_law_keeps = some ⟨oc_law_keeps, od_law_keeps, .func (PySem.W.fnOf "_law_keeps" "_law_keeps" (defArgs s_law_keeps) (defBody s_law_keeps) (defScope s_law_keeps) .none kV_law_keeps dc_law_keeps pm_law_keeps an_law_keeps cd_law_keeps ct_law_keeps), sl_law_keeps⟩) (c_law_keeps : PySem.W.codeIn K cd_law_keeps "_law_keeps" = true) (k_law_keeps : PySem.W.keepIn K (.ref f_law_keeps) = true)
    {f_law_point_like : Addr} {od_law_point_like an_law_point_like : Option Addr} {sl_law_point_like : Array (Option Value)} {oc_law_point_like kV_law_point_like dc_law_point_like pm_law_point_like cd_law_point_like ct_law_point_like : Value}
    (A_law_point_like : PySem.W.nsIn K mainGlobals "_law_point_like" = some (some (.ref f_law_point_like))) (l_law_point_like : K.lookup f_law_point_like = some ⟨oc_law_point_like, od_law_point_like, .func (PySem.W.fnOf "_law_point_like" "_law_point_like" (defArgs s_law_point_like) (defBody s_law_point_like) (defScope s_law_point_like) .none kV_law_point_like dc_law_point_like pm_law_point_like an_law_point_like cd_law_point_like ct_law_point_like), sl_law_point_like⟩) (c_law_point_like : PySem.W.codeIn K cd_law_point_like "_law_point_like" = true) (k_law_point_like : PySem.W.keepIn K (.ref f_law_point_like) = true)
    {f_law_copy : Addr} {od_law_copy an_law_copy : Option Addr} {sl_law_copy : Array (Option Value)} {oc_law_copy kV_law_copy dc_law_copy pm_law_copy cd_law_copy ct_law_copy : Value}
    (A_law_copy : PySem.W.nsIn K mainGlobals "_law_copy" = some (some (.ref f_law_copy))) (l_law_copy : K.lookup f_law_copy = some ⟨oc_law_copy, od_law_copy, .func (PySem.W.fnOf "_law_copy" "_law_copy" (defArgs s_law_copy) (defBody s_law_copy) (defScope s_law_copy) .none kV_law_copy dc_law_copy pm_law_copy an_law_copy cd_law_copy ct_law_copy), sl_law_copy⟩) (c_law_copy : PySem.W.codeIn K cd_law_copy "_law_copy" = true) (k_law_copy : PySem.W.keepIn K (.ref f_law_copy) = true)
    {f_law_lies : Addr} {od_law_lies an_law_lies : Option Addr} {sl_law_lies : Array (Option Value)} {oc_law_lies kV_law_lies dc_law_lies pm_law_lies cd_law_lies ct_law_lies : Value}
    (A_law_lies : PySem.W.nsIn K mainGlobals "_law_lies" = some (some (.ref f_law_lies))) (l_law_lies : K.lookup f_law_lies = some ⟨oc_law_lies, od_law_lies, .func (PySem.W.fnOf "_law_lies" "_law_lies" (defArgs s_law_lies) (defBody s_law_lies) (defScope s_law_lies) .none kV_law_lies dc_law_lies pm_law_lies an_law_lies cd_law_lies ct_law_lies), sl_law_lies⟩) (c_law_lies : PySem.W.codeIn K cd_law_lies "_law_lies" = true) (k_law_lies : PySem.W.keepIn K (.ref f_law_lies) = true)
    {f_law_holds : Addr} {od_law_holds an_law_holds : Option Addr} {sl_law_holds : Array (Option Value)} {oc_law_holds kV_law_holds dc_law_holds pm_law_holds cd_law_holds ct_law_holds : Value}
    (A_law_holds : PySem.W.nsIn K mainGlobals "_law_holds" = some (some (.ref f_law_holds))) (l_law_holds : K.lookup f_law_holds = some ⟨oc_law_holds, od_law_holds, .func (PySem.W.fnOf "_law_holds" "_law_holds" (defArgs s_law_holds) (defBody s_law_holds) (defScope s_law_holds) .none kV_law_holds dc_law_holds pm_law_holds an_law_holds cd_law_holds ct_law_holds), sl_law_holds⟩) (c_law_holds : PySem.W.codeIn K cd_law_holds "_law_holds" = true) (k_law_holds : PySem.W.keepIn K (.ref f_law_holds) = true)
    {f_law_number : Addr} {od_law_number an_law_number : Option Addr} {sl_law_number : Array (Option Value)} {oc_law_number kV_law_number dc_law_number pm_law_number cd_law_number ct_law_number : Value}
    (A_law_number : PySem.W.nsIn K mainGlobals "_law_number" = some (some (.ref f_law_number))) (l_law_number : K.lookup f_law_number = some ⟨oc_law_number, od_law_number, .func (PySem.W.fnOf "_law_number" "_law_number" (defArgs s_law_number) (defBody s_law_number) (defScope s_law_number) .none kV_law_number dc_law_number pm_law_number an_law_number cd_law_number ct_law_number), sl_law_number⟩) (c_law_number : PySem.W.codeIn K cd_law_number "_law_number" = true) (k_law_number : PySem.W.keepIn K (.ref f_law_number) = true)
    {f_law_box : Addr} {od_law_box an_law_box : Option Addr} {sl_law_box : Array (Option Value)} {oc_law_box kV_law_box dc_law_box pm_law_box cd_law_box ct_law_box : Value}
    (A_law_box : PySem.W.nsIn K mainGlobals "_law_box" = some (some (.ref f_law_box))) (l_law_box : K.lookup f_law_box = some ⟨oc_law_box, od_law_box, .func (PySem.W.fnOf "_law_box" "_law_box" (defArgs s_law_box) (defBody s_law_box) (defScope s_law_box) .none kV_law_box dc_law_box pm_law_box an_law_box cd_law_box ct_law_box), sl_law_box⟩) (c_law_box : PySem.W.codeIn K cd_law_box "_law_box" = true) (k_law_box : PySem.W.keepIn K (.ref f_law_box) = true)
    {f_law_more : Addr} {od_law_more an_law_more : Option Addr} {sl_law_more : Array (Option Value)} {oc_law_more kV_law_more dc_law_more pm_law_more cd_law_more ct_law_more : Value}
    (A_law_more : PySem.W.nsIn K mainGlobals "_law_more" = some (some (.ref f_law_more))) (l_law_more : K.lookup f_law_more = some ⟨oc_law_more, od_law_more, .func (PySem.W.fnOf "_law_more" "_law_more" (defArgs s_law_more) (defBody s_law_more) (defScope s_law_more) .none kV_law_more dc_law_more pm_law_more an_law_more cd_law_more ct_law_more), sl_law_more⟩) (c_law_more : PySem.W.codeIn K cd_law_more "_law_more" = true) (k_law_more : PySem.W.keepIn K (.ref f_law_more) = true)
    {f_law_points : Addr} {od_law_points an_law_points : Option Addr} {sl_law_points : Array (Option Value)} {oc_law_points kV_law_points dc_law_points pm_law_points cd_law_points ct_law_points : Value}
    (A_law_points : PySem.W.nsIn K mainGlobals "_law_points" = some (some (.ref f_law_points))) (l_law_points : K.lookup f_law_points = some ⟨oc_law_points, od_law_points, .func (PySem.W.fnOf "_law_points" "_law_points" (defArgs s_law_points) (defBody s_law_points) (defScope s_law_points) .none kV_law_points dc_law_points pm_law_points an_law_points cd_law_points ct_law_points), sl_law_points⟩) (c_law_points : PySem.W.codeIn K cd_law_points "_law_points" = true) (k_law_points : PySem.W.keepIn K (.ref f_law_points) = true)
    {f_law_question : Addr} {od_law_question an_law_question : Option Addr} {sl_law_question : Array (Option Value)} {oc_law_question kV_law_question dc_law_question pm_law_question cd_law_question ct_law_question : Value}
    (A_law_question : PySem.W.nsIn K mainGlobals "_law_question" = some (some (.ref f_law_question))) (l_law_question : K.lookup f_law_question = some ⟨oc_law_question, od_law_question, .func (PySem.W.fnOf "_law_question" "_law_question" (defArgs s_law_question) (defBody s_law_question) (defScope s_law_question) .none kV_law_question dc_law_question pm_law_question an_law_question cd_law_question ct_law_question), sl_law_question⟩) (c_law_question : PySem.W.codeIn K cd_law_question "_law_question" = true) (k_law_question : PySem.W.keepIn K (.ref f_law_question) = true)
    {f_law_no_larger : Addr} {od_law_no_larger an_law_no_larger : Option Addr} {sl_law_no_larger : Array (Option Value)} {oc_law_no_larger kV_law_no_larger dc_law_no_larger pm_law_no_larger cd_law_no_larger ct_law_no_larger : Value}
    (A_law_no_larger : PySem.W.nsIn K mainGlobals "_law_no_larger" = some (some (.ref f_law_no_larger))) (l_law_no_larger : K.lookup f_law_no_larger = some ⟨oc_law_no_larger, od_law_no_larger, .func (PySem.W.fnOf "_law_no_larger" "_law_no_larger" (defArgs s_law_no_larger) (defBody s_law_no_larger) (defScope s_law_no_larger) .none kV_law_no_larger dc_law_no_larger pm_law_no_larger an_law_no_larger cd_law_no_larger ct_law_no_larger), sl_law_no_larger⟩) (c_law_no_larger : PySem.W.codeIn K cd_law_no_larger "_law_no_larger" = true) (k_law_no_larger : PySem.W.keepIn K (.ref f_law_no_larger) = true)
    {f_law_just : Addr} {od_law_just an_law_just : Option Addr} {sl_law_just : Array (Option Value)} {oc_law_just kV_law_just dc_law_just pm_law_just cd_law_just ct_law_just : Value}
    (A_law_just : PySem.W.nsIn K mainGlobals "_law_just" = some (some (.ref f_law_just))) (l_law_just : K.lookup f_law_just = some ⟨oc_law_just, od_law_just, .func (PySem.W.fnOf "_law_just" "_law_just" (defArgs s_law_just) (defBody s_law_just) (defScope s_law_just) .none kV_law_just dc_law_just pm_law_just an_law_just cd_law_just ct_law_just), sl_law_just⟩) (c_law_just : PySem.W.codeIn K cd_law_just "_law_just" = true) (k_law_just : PySem.W.keepIn K (.ref f_law_just) = true)
    {f_law_dealt : Addr} {od_law_dealt an_law_dealt : Option Addr} {sl_law_dealt : Array (Option Value)} {oc_law_dealt kV_law_dealt dc_law_dealt pm_law_dealt cd_law_dealt ct_law_dealt : Value}
    (A_law_dealt : PySem.W.nsIn K mainGlobals "_law_dealt" = some (some (.ref f_law_dealt))) (l_law_dealt : K.lookup f_law_dealt = some ⟨oc_law_dealt, od_law_dealt, .func (PySem.W.fnOf "_law_dealt" "_law_dealt" (defArgs s_law_dealt) (defBody s_law_dealt) (defScope s_law_dealt) .none kV_law_dealt dc_law_dealt pm_law_dealt an_law_dealt cd_law_dealt ct_law_dealt), sl_law_dealt⟩) (c_law_dealt : PySem.W.codeIn K cd_law_dealt "_law_dealt" = true) (k_law_dealt : PySem.W.keepIn K (.ref f_law_dealt) = true)
    {f_law : Addr} {od_law an_law : Option Addr} {sl_law : Array (Option Value)} {oc_law kV_law dc_law pm_law cd_law ct_law : Value}
    (A_law : PySem.W.nsIn K mainGlobals "law" = some (some (.ref f_law))) (l_law : K.lookup f_law = some ⟨oc_law, od_law, .func (PySem.W.fnOf "law" "law" (defArgs s_law) (defBody s_law) (defScope s_law) .none kV_law dc_law pm_law an_law cd_law ct_law), sl_law⟩) (c_law : PySem.W.codeIn K cd_law "law" = true) (k_law : PySem.W.keepIn K (.ref f_law) = true)
    (z_bool : PySem.W.nsIn K mainGlobals "bool" = some none)
    (z_int : PySem.W.nsIn K mainGlobals "int" = some none)
    (z_isinstance : PySem.W.nsIn K mainGlobals "isinstance" = some none)
    (z_len : PySem.W.nsIn K mainGlobals "len" = some none)
    (z_list : PySem.W.nsIn K mainGlobals "list" = some none)
    (z_max : PySem.W.nsIn K mainGlobals "max" = some none)
    (z_range : PySem.W.nsIn K mainGlobals "range" = some none)
    (z_tuple : PySem.W.nsIn K mainGlobals "tuple" = some none)
    (z_zip : PySem.W.nsIn K mainGlobals "zip" = some none) :
    ∃ fd : FuncData, (∀ (s : Shared) (v : Value), BindsTo s fd ⟨[v], []⟩ [("_law_script", v)]) ∧ ∀ base : Heap, K.In base → base.Ns mainGlobals mg → FnOk l.prog w K mg base CX0 9 fa fd ["_law_script"] (spF K 1 0 m_law) := by
  have e := hfa.symm.trans (PySem.W.mg_of X G A_law)
  cases e
  exact ⟨PySem.W.fnOf "law" "law" (defArgs s_law) (defBody s_law) (defScope s_law) .none kV_law dc_law pm_law an_law cd_law ct_law, fun s v => .of_eq rfl, fun base _ _ => ok_law (P := l.prog) (w := w) (base := base) {
    c_Keep := axKeep
    n_Keep := A_xKeep
    g_Keep := PySem.W.mg_of X G A_xKeep
    K_Keep := ⟨pg_xKeep, hd_xKeep, po_xKeep, sa_xKeep⟩
    N_Keep := by
      intro f hf
      simp only [List.mem_cons, List.not_mem_nil, or_false] at hf
      rcases hf with rfl
      · exact nf_xKeep_question
    a_Keep_image := f_Keep_image
    d_Keep_image := _
    F_Keep_image := fun_mk (st := s_Keep_image) l_Keep_image c_Keep_image k_Keep_image
    b_Keep_image := (fun_mk (st := s_Keep_image) l_Keep_image c_Keep_image k_Keep_image).binds (ps := ["self", "shape"]) fun _ _ _ _ _ _ us hl => match us, hl with | [_, _], _ => rfl
    M_Keep_image := ⟨e_xKeep_image, i_Keep_image, k_Keep_image⟩
    a_Keep_parts := f_Keep_parts
    d_Keep_parts := _
    F_Keep_parts := fun_mk (st := s_Keep_parts) l_Keep_parts c_Keep_parts k_Keep_parts
    b_Keep_parts := (fun_mk (st := s_Keep_parts) l_Keep_parts c_Keep_parts k_Keep_parts).binds (ps := ["self", "shape"]) fun _ _ _ _ _ _ us hl => match us, hl with | [_, _], _ => rfl
    M_Keep_parts := ⟨e_xKeep_parts, i_Keep_parts, k_Keep_parts⟩
    a_Keep_init := f_Keep_init
    d_Keep_init := _
    F_Keep_init := fun_mk (st := s_Keep_init) l_Keep_init c_Keep_init k_Keep_init
    b_Keep_init := (fun_mk (st := s_Keep_init) l_Keep_init c_Keep_init k_Keep_init).binds (ps := ["self", "question"]) fun _ _ _ _ _ _ us hl => match us, hl with | [_, _], _ => rfl
    I_Keep := ⟨mk_xKeep, e_xKeep_init, i_Keep_init, kc_xKeep⟩
    a_added := f_added
    d_added := _
    F_added := fun_mk (st := s_added) l_added c_added k_added
    g_added := PySem.W.mg_of X G A_added
    b_added := (fun_mk (st := s_added) l_added c_added k_added).binds (ps := ["one", "other"]) fun _ _ _ _ _ _ us hl => match us, hl with | [_, _], _ => rfl
    a_lesser := f_lesser
    d_lesser := _
    F_lesser := fun_mk (st := s_lesser) l_lesser c_lesser k_lesser
    g_lesser := PySem.W.mg_of X G A_lesser
    b_lesser := (fun_mk (st := s_lesser) l_lesser c_lesser k_lesser).binds (ps := ["one", "other"]) fun _ _ _ _ _ _ us hl => match us, hl with | [_, _], _ => rfl
    a_flipped := f_flipped
    d_flipped := _
    F_flipped := fun_mk (st := s_flipped) l_flipped c_flipped k_flipped
    g_flipped := PySem.W.mg_of X G A_flipped
    b_flipped := (fun_mk (st := s_flipped) l_flipped c_flipped k_flipped).binds (ps := ["f"]) fun _ _ _ _ _ _ us hl => match us, hl with | [_], _ => rfl
    a_worth := f_worth
    d_worth := _
    F_worth := fun_mk (st := s_worth) l_worth c_worth k_worth
    g_worth := PySem.W.mg_of X G A_worth
    b_worth := (fun_mk (st := s_worth) l_worth c_worth k_worth).binds (ps := ["point", "f"]) fun _ _ _ _ _ _ us hl => match us, hl with | [_, _], _ => rfl
    a_wide := f_wide
    d_wide := _
    F_wide := fun_mk (st := s_wide) l_wide c_wide k_wide
    g_wide := PySem.W.mg_of X G A_wide
    b_wide := (fun_mk (st := s_wide) l_wide c_wide k_wide).binds (ps := ["count"]) fun _ _ _ _ _ _ us hl => match us, hl with | [_], _ => rfl
    a_copied := f_copied
    d_copied := _
    F_copied := fun_mk (st := s_copied) l_copied c_copied k_copied
    g_copied := PySem.W.mg_of X G A_copied
    b_copied := (fun_mk (st := s_copied) l_copied c_copied k_copied).binds (ps := ["table"]) fun _ _ _ _ _ _ us hl => match us, hl with | [_], _ => rfl
    a_led := f_led
    d_led := _
    F_led := fun_mk (st := s_led) l_led c_led k_led
    g_led := PySem.W.mg_of X G A_led
    b_led := (fun_mk (st := s_led) l_led c_led k_led).binds (ps := ["table", "f", "g", "number"]) fun _ _ _ _ _ _ us hl => match us, hl with | [_, _, _, _], _ => rfl
    a_relinked := f_relinked
    d_relinked := _
    F_relinked := fun_mk (st := s_relinked) l_relinked c_relinked k_relinked
    g_relinked := PySem.W.mg_of X G A_relinked
    b_relinked := (fun_mk (st := s_relinked) l_relinked c_relinked k_relinked).binds (ps := ["table", "side"]) fun _ _ _ _ _ _ us hl => match us, hl with | [_, _], _ => rfl
    a_halve := f_halve
    d_halve := _
    F_halve := fun_mk (st := s_halve) l_halve c_halve k_halve
    g_halve := PySem.W.mg_of X G A_halve
    b_halve := (fun_mk (st := s_halve) l_halve c_halve k_halve).binds (ps := ["table"]) fun _ _ _ _ _ _ us hl => match us, hl with | [_], _ => rfl
    a_has_none := f_has_none
    d_has_none := _
    F_has_none := fun_mk (st := s_has_none) l_has_none c_has_none k_has_none
    g_has_none := PySem.W.mg_of X G A_has_none
    b_has_none := (fun_mk (st := s_has_none) l_has_none c_has_none k_has_none).binds (ps := ["table"]) fun _ _ _ _ _ _ us hl => match us, hl with | [_], _ => rfl
    a_strengthen := f_strengthen
    d_strengthen := _
    F_strengthen := fun_mk (st := s_strengthen) l_strengthen c_strengthen k_strengthen
    g_strengthen := PySem.W.mg_of X G A_strengthen
    b_strengthen := (fun_mk (st := s_strengthen) l_strengthen c_strengthen k_strengthen).binds (ps := ["table"]) fun _ _ _ _ _ _ us hl => match us, hl with | [_], _ => rfl
    a_held := f_held
    d_held := _
    F_held := fun_mk (st := s_held) l_held c_held k_held
    g_held := PySem.W.mg_of X G A_held
    b_held := (fun_mk (st := s_held) l_held c_held k_held).binds (ps := ["shape", "side"]) fun _ _ _ _ _ _ us hl => match us, hl with | [_, _], _ => rfl
    a_closed := f_closed
    d_closed := _
    F_closed := fun_mk (st := s_closed) l_closed c_closed k_closed
    g_closed := PySem.W.mg_of X G A_closed
    b_closed := (fun_mk (st := s_closed) l_closed c_closed k_closed).binds (ps := ["count", "sides"]) fun _ _ _ _ _ _ us hl => match us, hl with | [_, _], _ => rfl
    a_halved_entry := f_halved_entry
    d_halved_entry := _
    F_halved_entry := fun_mk (st := s_halved_entry) l_halved_entry c_halved_entry k_halved_entry
    g_halved_entry := PySem.W.mg_of X G A_halved_entry
    b_halved_entry := (fun_mk (st := s_halved_entry) l_halved_entry c_halved_entry k_halved_entry).binds (ps := ["entry"]) fun _ _ _ _ _ _ us hl => match us, hl with | [_], _ => rfl
    a_top_beside := f_top_beside
    d_top_beside := _
    F_top_beside := fun_mk (st := s_top_beside) l_top_beside c_top_beside k_top_beside
    g_top_beside := PySem.W.mg_of X G A_top_beside
    b_top_beside := (fun_mk (st := s_top_beside) l_top_beside c_top_beside k_top_beside).binds (ps := ["shape", "f", "point", "known"]) fun _ _ _ _ _ _ us hl => match us, hl with | [_, _, _, _], _ => rfl
    a_some_point := f_some_point
    d_some_point := _
    F_some_point := fun_mk (st := s_some_point) l_some_point c_some_point k_some_point
    g_some_point := PySem.W.mg_of X G A_some_point
    b_some_point := (fun_mk (st := s_some_point) l_some_point c_some_point k_some_point).binds (ps := ["shape"]) fun _ _ _ _ _ _ us hl => match us, hl with | [_], _ => rfl
    a_greatest_of_three := f_greatest_of_three
    d_greatest_of_three := _
    F_greatest_of_three := fun_mk (st := s_greatest_of_three) l_greatest_of_three c_greatest_of_three k_greatest_of_three
    g_greatest_of_three := PySem.W.mg_of X G A_greatest_of_three
    b_greatest_of_three := (fun_mk (st := s_greatest_of_three) l_greatest_of_three c_greatest_of_three k_greatest_of_three).binds (ps := ["shape", "f", "g", "h"]) fun _ _ _ _ _ _ us hl => match us, hl with | [_, _, _, _], _ => rfl
    a_greatest := f_greatest
    d_greatest := _
    F_greatest := fun_mk (st := s_greatest) l_greatest c_greatest k_greatest
    g_greatest := PySem.W.mg_of X G A_greatest
    b_greatest := (fun_mk (st := s_greatest) l_greatest c_greatest k_greatest).binds (ps := ["shape", "forms"]) fun _ _ _ _ _ _ us hl => match us, hl with | [_, _], _ => rfl
    a_least_for := f_least_for
    d_least_for := _
    F_least_for := fun_mk (st := s_least_for) l_least_for c_least_for k_least_for
    g_least_for := PySem.W.mg_of X G A_least_for
    b_least_for := (fun_mk (st := s_least_for) l_least_for c_least_for k_least_for).binds (ps := ["slope", "entries", "number"]) fun _ _ _ _ _ _ us hl => match us, hl with | [_, _, _], _ => rfl
    a_pinned := f_pinned
    d_pinned := _
    F_pinned := fun_mk (st := s_pinned) l_pinned c_pinned k_pinned
    g_pinned := PySem.W.mg_of X G A_pinned
    b_pinned := (fun_mk (st := s_pinned) l_pinned c_pinned k_pinned).binds (ps := ["shape", "f", "g", "h", "number"]) fun _ _ _ _ _ _ us hl => match us, hl with | [_, _, _, _, _], _ => rfl
    a_reaching_three := f_reaching_three
    d_reaching_three := _
    F_reaching_three := fun_mk (st := s_reaching_three) l_reaching_three c_reaching_three k_reaching_three
    g_reaching_three := PySem.W.mg_of X G A_reaching_three
    b_reaching_three := (fun_mk (st := s_reaching_three) l_reaching_three c_reaching_three k_reaching_three).binds (ps := ["shape", "f", "g", "h", "number"]) fun _ _ _ _ _ _ us hl => match us, hl with | [_, _, _, _, _], _ => rfl
    a_reaching := f_reaching
    d_reaching := _
    F_reaching := fun_mk (st := s_reaching) l_reaching c_reaching k_reaching
    g_reaching := PySem.W.mg_of X G A_reaching
    b_reaching := (fun_mk (st := s_reaching) l_reaching c_reaching k_reaching).binds (ps := ["shape", "forms", "number"]) fun _ _ _ _ _ _ us hl => match us, hl with | [_, _, _], _ => rfl
    a_joined_line := f_joined_line
    d_joined_line := _
    F_joined_line := fun_mk (st := s_joined_line) l_joined_line c_joined_line k_joined_line
    g_joined_line := PySem.W.mg_of X G A_joined_line
    b_joined_line := (fun_mk (st := s_joined_line) l_joined_line c_joined_line k_joined_line).binds (ps := ["one", "other"]) fun _ _ _ _ _ _ us hl => match us, hl with | [_, _], _ => rfl
    a_join := f_join
    d_join := _
    F_join := fun_mk (st := s_join) l_join c_join k_join
    g_join := PySem.W.mg_of X G A_join
    b_join := (fun_mk (st := s_join) l_join c_join k_join).binds (ps := ["one", "other"]) fun _ _ _ _ _ _ us hl => match us, hl with | [_, _], _ => rfl
    a_turned := f_turned
    d_turned := _
    F_turned := fun_mk (st := s_turned) l_turned c_turned k_turned
    g_turned := PySem.W.mg_of X G A_turned
    b_turned := (fun_mk (st := s_turned) l_turned c_turned k_turned).binds (ps := ["question"]) fun _ _ _ _ _ _ us hl => match us, hl with | [_], _ => rfl
    a_below := f_below
    d_below := _
    F_below := fun_mk (st := s_below) l_below c_below k_below
    g_below := PySem.W.mg_of X G A_below
    b_below := (fun_mk (st := s_below) l_below c_below k_below).binds (ps := ["f", "g", "number"]) fun _ _ _ _ _ _ us hl => match us, hl with | [_, _, _], _ => rfl
    a_above := f_above
    d_above := _
    F_above := fun_mk (st := s_above) l_above c_above k_above
    g_above := PySem.W.mg_of X G A_above
    b_above := (fun_mk (st := s_above) l_above c_above k_above).binds (ps := ["f", "g", "number"]) fun _ _ _ _ _ _ us hl => match us, hl with | [_, _, _], _ => rfl
    a_cases := f_cases
    d_cases := _
    F_cases := fun_mk (st := s_cases) l_cases c_cases k_cases
    g_cases := PySem.W.mg_of X G A_cases
    b_cases := (fun_mk (st := s_cases) l_cases c_cases k_cases).binds (ps := ["question"]) fun _ _ _ _ _ _ us hl => match us, hl with | [_], _ => rfl
    a_law_cell := f_law_cell
    d_law_cell := _
    F_law_cell := fun_mk (st := s_law_cell) l_law_cell c_law_cell k_law_cell
    g_law_cell := PySem.W.mg_of X G A_law_cell
    b_law_cell := (fun_mk (st := s_law_cell) l_law_cell c_law_cell k_law_cell).binds (ps := ["_law_script", "_law_k"]) fun _ _ _ _ _ _ us hl => match us, hl with | [_, _], _ => rfl
    a_law_whole := f_law_whole
    d_law_whole := _
    F_law_whole := fun_mk (st := s_law_whole) l_law_whole c_law_whole k_law_whole
    g_law_whole := PySem.W.mg_of X G A_law_whole
    b_law_whole := (fun_mk (st := s_law_whole) l_law_whole c_law_whole k_law_whole).binds (ps := ["_law_found"]) fun _ _ _ _ _ _ us hl => match us, hl with | [_], _ => rfl
    a_law_worth := f_law_worth
    d_law_worth := _
    F_law_worth := fun_mk (st := s_law_worth) l_law_worth c_law_worth k_law_worth
    g_law_worth := PySem.W.mg_of X G A_law_worth
    b_law_worth := (fun_mk (st := s_law_worth) l_law_worth c_law_worth k_law_worth).binds (ps := ["_law_point", "_law_f"]) fun _ _ _ _ _ _ us hl => match us, hl with | [_, _], _ => rfl
    a_law_sum := f_law_sum
    d_law_sum := _
    F_law_sum := fun_mk (st := s_law_sum) l_law_sum c_law_sum k_law_sum
    g_law_sum := PySem.W.mg_of X G A_law_sum
    b_law_sum := (fun_mk (st := s_law_sum) l_law_sum c_law_sum k_law_sum).binds (ps := ["_law_point", "_law_forms"]) fun _ _ _ _ _ _ us hl => match us, hl with | [_, _], _ => rfl
    a_law_keeps := f_law_keeps
    d_law_keeps := _
    F_law_keeps := fun_mk (st := s_law_keeps) l_law_keeps c_law_keeps k_law_keeps
    g_law_keeps := PySem.W.mg_of X G A_law_keeps
    b_law_keeps := (fun_mk (st := s_law_keeps) l_law_keeps c_law_keeps k_law_keeps).binds (ps := ["_law_point", "_law_sides"]) fun _ _ _ _ _ _ us hl => match us, hl with | [_, _], _ => rfl
    a_law_point_like := f_law_point_like
    d_law_point_like := _
    F_law_point_like := fun_mk (st := s_law_point_like) l_law_point_like c_law_point_like k_law_point_like
    g_law_point_like := PySem.W.mg_of X G A_law_point_like
    b_law_point_like := (fun_mk (st := s_law_point_like) l_law_point_like c_law_point_like k_law_point_like).binds (ps := ["_law_found", "_law_count"]) fun _ _ _ _ _ _ us hl => match us, hl with | [_, _], _ => rfl
    a_law_copy := f_law_copy
    d_law_copy := _
    F_law_copy := fun_mk (st := s_law_copy) l_law_copy c_law_copy k_law_copy
    g_law_copy := PySem.W.mg_of X G A_law_copy
    b_law_copy := (fun_mk (st := s_law_copy) l_law_copy c_law_copy k_law_copy).binds (ps := ["_law_shape"]) fun _ _ _ _ _ _ us hl => match us, hl with | [_], _ => rfl
    a_law_lies := f_law_lies
    d_law_lies := _
    F_law_lies := fun_mk (st := s_law_lies) l_law_lies c_law_lies k_law_lies
    g_law_lies := PySem.W.mg_of X G A_law_lies
    b_law_lies := (fun_mk (st := s_law_lies) l_law_lies c_law_lies k_law_lies).binds (ps := ["_law_table", "_law_point"]) fun _ _ _ _ _ _ us hl => match us, hl with | [_, _], _ => rfl
    a_law_holds := f_law_holds
    d_law_holds := _
    F_law_holds := fun_mk (st := s_law_holds) l_law_holds c_law_holds k_law_holds
    g_law_holds := PySem.W.mg_of X G A_law_holds
    b_law_holds := (fun_mk (st := s_law_holds) l_law_holds c_law_holds k_law_holds).binds (ps := ["_law_point", "_law_question_here"]) fun _ _ _ _ _ _ us hl => match us, hl with | [_, _], _ => rfl
    a_law_number := f_law_number
    d_law_number := _
    F_law_number := fun_mk (st := s_law_number) l_law_number c_law_number k_law_number
    g_law_number := PySem.W.mg_of X G A_law_number
    b_law_number := (fun_mk (st := s_law_number) l_law_number c_law_number k_law_number).binds (ps := ["_law_cell_here"]) fun _ _ _ _ _ _ us hl => match us, hl with | [_], _ => rfl
    a_law_box := f_law_box
    d_law_box := _
    F_law_box := fun_mk (st := s_law_box) l_law_box c_law_box k_law_box
    g_law_box := PySem.W.mg_of X G A_law_box
    b_law_box := (fun_mk (st := s_law_box) l_law_box c_law_box k_law_box).binds (ps := ["_law_script", "_law_count"]) fun _ _ _ _ _ _ us hl => match us, hl with | [_, _], _ => rfl
    a_law_more := f_law_more
    d_law_more := _
    F_law_more := fun_mk (st := s_law_more) l_law_more c_law_more k_law_more
    g_law_more := PySem.W.mg_of X G A_law_more
    b_law_more := (fun_mk (st := s_law_more) l_law_more c_law_more k_law_more).binds (ps := ["_law_script", "_law_corner"]) fun _ _ _ _ _ _ us hl => match us, hl with | [_, _], _ => rfl
    a_law_points := f_law_points
    d_law_points := _
    F_law_points := fun_mk (st := s_law_points) l_law_points c_law_points k_law_points
    g_law_points := PySem.W.mg_of X G A_law_points
    b_law_points := (fun_mk (st := s_law_points) l_law_points c_law_points k_law_points).binds (ps := ["_law_script", "_law_corner"]) fun _ _ _ _ _ _ us hl => match us, hl with | [_, _], _ => rfl
    a_law_question := f_law_question
    d_law_question := _
    F_law_question := fun_mk (st := s_law_question) l_law_question c_law_question k_law_question
    g_law_question := PySem.W.mg_of X G A_law_question
    b_law_question := (fun_mk (st := s_law_question) l_law_question c_law_question k_law_question).binds (ps := ["_law_script", "_law_corner"]) fun _ _ _ _ _ _ us hl => match us, hl with | [_, _], _ => rfl
    a_law_no_larger := f_law_no_larger
    d_law_no_larger := _
    F_law_no_larger := fun_mk (st := s_law_no_larger) l_law_no_larger c_law_no_larger k_law_no_larger
    g_law_no_larger := PySem.W.mg_of X G A_law_no_larger
    b_law_no_larger := (fun_mk (st := s_law_no_larger) l_law_no_larger c_law_no_larger k_law_no_larger).binds (ps := ["_law_one", "_law_shape"]) fun _ _ _ _ _ _ us hl => match us, hl with | [_, _], _ => rfl
    a_law_just := f_law_just
    d_law_just := _
    F_law_just := fun_mk (st := s_law_just) l_law_just c_law_just k_law_just
    g_law_just := PySem.W.mg_of X G A_law_just
    b_law_just := (fun_mk (st := s_law_just) l_law_just c_law_just k_law_just).binds (ps := ["_law_one", "_law_sides", "_law_question_here", "_law_there", "_law_count", "_law_pair"]) fun _ _ _ _ _ _ us hl => match us, hl with | [_, _, _, _, _, _], _ => rfl
    a_law_dealt := f_law_dealt
    d_law_dealt := _
    F_law_dealt := fun_mk (st := s_law_dealt) l_law_dealt c_law_dealt k_law_dealt
    g_law_dealt := PySem.W.mg_of X G A_law_dealt
    b_law_dealt := (fun_mk (st := s_law_dealt) l_law_dealt c_law_dealt k_law_dealt).binds (ps := ["_law_yes", "_law_no", "_law_points_here", "_law_sides", "_law_question_here"]) fun _ _ _ _ _ _ us hl => match us, hl with | [_, _, _, _, _], _ => rfl
    a_law := fa
    d_law := _
    F_law := fun_mk (st := s_law) l_law c_law k_law
    g_law := PySem.W.mg_of X G A_law
    b_law := (fun_mk (st := s_law) l_law c_law k_law).binds (ps := ["_law_script"]) fun _ _ _ _ _ _ us hl => match us, hl with | [_], _ => rfl
    m_bool := PySem.W.mg_none_of X G z_bool
    m_int := PySem.W.mg_none_of X G z_int
    m_isinstance := PySem.W.mg_none_of X G z_isinstance
    m_len := PySem.W.mg_none_of X G z_len
    m_list := PySem.W.mg_none_of X G z_list
    m_max := PySem.W.mg_none_of X G z_max
    m_range := PySem.W.mg_none_of X G z_range
    m_tuple := PySem.W.mg_none_of X G z_tuple
    m_zip := PySem.W.mg_none_of X G z_zip }⟩
end K28
open PySem PySem.W PyProof.Rows in
set_option maxRecDepth 100000 in
set_option maxHeartbeats 0 in
theorem PySem.Challenge.cw_eightsides_k28_questions_part_holds : PySem.Challenge.rw_eightsides_k28_questions_part.Holds := by
  w_on; o_law; k_head; (case hw => w_witness2)
  k_fill
  refine L2.walk_of (l := PySem.Challenge.rw_eightsides_k28_questions_part) (n := 63) (k := 9) (x := "_law_script") (CX := fun _ => L2.CX0) (sp := fun w => FL.spF _ 1 0 K28.m_law) rfl (by decide) rfl ⟨rfl, by decide, by decide⟩ (fun w h Y => PySem.W.kIn_of Y) ?F (fun w H a ns hl hO hS => FL.sp_of (K28.law_true ns hl) hO hS) (fun _ _ _ _ _ h => h)
  case F =>
    intro w mg fa h KX G hmg
    refine' K28.all_mk KX G hmg ?A_xKeep ?pg_xKeep ?hd_xKeep ?po_xKeep ?sa_xKeep ?mk_xKeep ?kc_xKeep ?nf_xKeep_question ?e_xKeep_image ?i_Keep_image ?l_Keep_image ?c_Keep_image ?k_Keep_image ?e_xKeep_parts ?i_Keep_parts ?l_Keep_parts ?c_Keep_parts ?k_Keep_parts ?e_xKeep_init ?i_Keep_init ?l_Keep_init ?c_Keep_init ?k_Keep_init ?A_added ?l_added ?c_added ?k_added ?A_lesser ?l_lesser ?c_lesser ?k_lesser ?A_flipped ?l_flipped ?c_flipped ?k_flipped ?A_worth ?l_worth ?c_worth ?k_worth ?A_wide ?l_wide ?c_wide ?k_wide ?A_copied ?l_copied ?c_copied ?k_copied ?A_led ?l_led ?c_led ?k_led ?A_relinked ?l_relinked ?c_relinked ?k_relinked ?A_halve ?l_halve ?c_halve ?k_halve ?A_has_none ?l_has_none ?c_has_none ?k_has_none ?A_strengthen ?l_strengthen ?c_strengthen ?k_strengthen ?A_held ?l_held ?c_held ?k_held ?A_closed ?l_closed ?c_closed ?k_closed ?A_halved_entry ?l_halved_entry ?c_halved_entry ?k_halved_entry ?A_top_beside ?l_top_beside ?c_top_beside ?k_top_beside ?A_some_point ?l_some_point ?c_some_point ?k_some_point ?A_greatest_of_three ?l_greatest_of_three ?c_greatest_of_three ?k_greatest_of_three ?A_greatest ?l_greatest ?c_greatest ?k_greatest ?A_least_for ?l_least_for ?c_least_for ?k_least_for ?A_pinned ?l_pinned ?c_pinned ?k_pinned ?A_reaching_three ?l_reaching_three ?c_reaching_three ?k_reaching_three ?A_reaching ?l_reaching ?c_reaching ?k_reaching ?A_joined_line ?l_joined_line ?c_joined_line ?k_joined_line ?A_join ?l_join ?c_join ?k_join ?A_turned ?l_turned ?c_turned ?k_turned ?A_below ?l_below ?c_below ?k_below ?A_above ?l_above ?c_above ?k_above ?A_cases ?l_cases ?c_cases ?k_cases ?A_law_cell ?l_law_cell ?c_law_cell ?k_law_cell ?A_law_whole ?l_law_whole ?c_law_whole ?k_law_whole ?A_law_worth ?l_law_worth ?c_law_worth ?k_law_worth ?A_law_sum ?l_law_sum ?c_law_sum ?k_law_sum ?A_law_keeps ?l_law_keeps ?c_law_keeps ?k_law_keeps ?A_law_point_like ?l_law_point_like ?c_law_point_like ?k_law_point_like ?A_law_copy ?l_law_copy ?c_law_copy ?k_law_copy ?A_law_lies ?l_law_lies ?c_law_lies ?k_law_lies ?A_law_holds ?l_law_holds ?c_law_holds ?k_law_holds ?A_law_number ?l_law_number ?c_law_number ?k_law_number ?A_law_box ?l_law_box ?c_law_box ?k_law_box ?A_law_more ?l_law_more ?c_law_more ?k_law_more ?A_law_points ?l_law_points ?c_law_points ?k_law_points ?A_law_question ?l_law_question ?c_law_question ?k_law_question ?A_law_no_larger ?l_law_no_larger ?c_law_no_larger ?k_law_no_larger ?A_law_just ?l_law_just ?c_law_just ?k_law_just ?A_law_dealt ?l_law_dealt ?c_law_dealt ?k_law_dealt ?A_law ?l_law ?c_law ?k_law ?z_bool ?z_int ?z_isinstance ?z_len ?z_list ?z_max ?z_range ?z_tuple ?z_zip
    (case A_xKeep => k_is); (case pg_xKeep => k_is); (case hd_xKeep => k_is); (case po_xKeep => k_is); (case sa_xKeep => k_is); (case mk_xKeep => k_is); (case kc_xKeep => k_is); (case nf_xKeep_question => k_is); (case e_xKeep_image => k_is); (case i_Keep_image => k_is); (case l_Keep_image => k_is); (case c_Keep_image => k_is); (case k_Keep_image => k_is); (case e_xKeep_parts => k_is); (case i_Keep_parts => k_is); (case l_Keep_parts => k_is); (case c_Keep_parts => k_is); (case k_Keep_parts => k_is); (case e_xKeep_init => k_is); (case i_Keep_init => k_is); (case l_Keep_init => k_is); (case c_Keep_init => k_is); (case k_Keep_init => k_is); (case A_added => k_is); (case l_added => k_is); (case c_added => k_is); (case k_added => k_is); (case A_lesser => k_is); (case l_lesser => k_is); (case c_lesser => k_is); (case k_lesser => k_is); (case A_flipped => k_is); (case l_flipped => k_is); (case c_flipped => k_is); (case k_flipped => k_is); (case A_worth => k_is); (case l_worth => k_is); (case c_worth => k_is); (case k_worth => k_is); (case A_wide => k_is); (case l_wide => k_is); (case c_wide => k_is); (case k_wide => k_is); (case A_copied => k_is); (case l_copied => k_is); (case c_copied => k_is); (case k_copied => k_is); (case A_led => k_is); (case l_led => k_is); (case c_led => k_is); (case k_led => k_is); (case A_relinked => k_is); (case l_relinked => k_is); (case c_relinked => k_is); (case k_relinked => k_is); (case A_halve => k_is); (case l_halve => k_is); (case c_halve => k_is); (case k_halve => k_is); (case A_has_none => k_is); (case l_has_none => k_is); (case c_has_none => k_is); (case k_has_none => k_is); (case A_strengthen => k_is); (case l_strengthen => k_is); (case c_strengthen => k_is); (case k_strengthen => k_is); (case A_held => k_is); (case l_held => k_is); (case c_held => k_is); (case k_held => k_is); (case A_closed => k_is); (case l_closed => k_is); (case c_closed => k_is); (case k_closed => k_is); (case A_halved_entry => k_is); (case l_halved_entry => k_is); (case c_halved_entry => k_is); (case k_halved_entry => k_is); (case A_top_beside => k_is); (case l_top_beside => k_is); (case c_top_beside => k_is); (case k_top_beside => k_is); (case A_some_point => k_is); (case l_some_point => k_is); (case c_some_point => k_is); (case k_some_point => k_is); (case A_greatest_of_three => k_is); (case l_greatest_of_three => k_is); (case c_greatest_of_three => k_is); (case k_greatest_of_three => k_is); (case A_greatest => k_is); (case l_greatest => k_is); (case c_greatest => k_is); (case k_greatest => k_is); (case A_least_for => k_is); (case l_least_for => k_is); (case c_least_for => k_is); (case k_least_for => k_is); (case A_pinned => k_is); (case l_pinned => k_is); (case c_pinned => k_is); (case k_pinned => k_is); (case A_reaching_three => k_is); (case l_reaching_three => k_is); (case c_reaching_three => k_is); (case k_reaching_three => k_is); (case A_reaching => k_is); (case l_reaching => k_is); (case c_reaching => k_is); (case k_reaching => k_is); (case A_joined_line => k_is); (case l_joined_line => k_is); (case c_joined_line => k_is); (case k_joined_line => k_is); (case A_join => k_is); (case l_join => k_is); (case c_join => k_is); (case k_join => k_is); (case A_turned => k_is); (case l_turned => k_is); (case c_turned => k_is); (case k_turned => k_is); (case A_below => k_is); (case l_below => k_is); (case c_below => k_is); (case k_below => k_is); (case A_above => k_is); (case l_above => k_is); (case c_above => k_is); (case k_above => k_is); (case A_cases => k_is); (case l_cases => k_is); (case c_cases => k_is); (case k_cases => k_is); (case A_law_cell => k_is); (case l_law_cell => k_is); (case c_law_cell => k_is); (case k_law_cell => k_is); (case A_law_whole => k_is); (case l_law_whole => k_is); (case c_law_whole => k_is); (case k_law_whole => k_is); (case A_law_worth => k_is); (case l_law_worth => k_is); (case c_law_worth => k_is); (case k_law_worth => k_is); (case A_law_sum => k_is); (case l_law_sum => k_is); (case c_law_sum => k_is); (case k_law_sum => k_is); (case A_law_keeps => k_is); (case l_law_keeps => k_is); (case c_law_keeps => k_is); (case k_law_keeps => k_is); (case A_law_point_like => k_is); (case l_law_point_like => k_is); (case c_law_point_like => k_is); (case k_law_point_like => k_is); (case A_law_copy => k_is); (case l_law_copy => k_is); (case c_law_copy => k_is); (case k_law_copy => k_is); (case A_law_lies => k_is); (case l_law_lies => k_is); (case c_law_lies => k_is); (case k_law_lies => k_is); (case A_law_holds => k_is); (case l_law_holds => k_is); (case c_law_holds => k_is); (case k_law_holds => k_is); (case A_law_number => k_is); (case l_law_number => k_is); (case c_law_number => k_is); (case k_law_number => k_is); (case A_law_box => k_is); (case l_law_box => k_is); (case c_law_box => k_is); (case k_law_box => k_is); (case A_law_more => k_is); (case l_law_more => k_is); (case c_law_more => k_is); (case k_law_more => k_is); (case A_law_points => k_is); (case l_law_points => k_is); (case c_law_points => k_is); (case k_law_points => k_is); (case A_law_question => k_is); (case l_law_question => k_is); (case c_law_question => k_is); (case k_law_question => k_is); (case A_law_no_larger => k_is); (case l_law_no_larger => k_is); (case c_law_no_larger => k_is); (case k_law_no_larger => k_is); (case A_law_just => k_is); (case l_law_just => k_is); (case c_law_just => k_is); (case k_law_just => k_is); (case A_law_dealt => k_is); (case l_law_dealt => k_is); (case c_law_dealt => k_is); (case k_law_dealt => k_is); (case A_law => k_is); (case l_law => k_is); (case c_law => k_is); (case k_law => k_is); (case z_bool => k_is); (case z_int => k_is); (case z_isinstance => k_is); (case z_len => k_is); (case z_list => k_is); (case z_max => k_is); (case z_range => k_is); (case z_tuple => k_is); (case z_zip => k_is)
