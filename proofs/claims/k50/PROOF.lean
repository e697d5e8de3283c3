import PyProof.Rows.All
import Wide.All
import OpenK.AllK
import Wide.FinOn
import HandS.ForMost
import HandS.IsInst
import HandS.Exc
import HandS.Conv
import HandS.Style
import HandS.TupAny
import HandS.SortKw
import HandS.SetFor
import HandS.Strs
import HandS.Rev
import HandS.Wide
import HandS.Deep
import HandS.Defaults
import HandS.WordsExc
import HandS.TryOnly
import HandS.ExcIs
import HandS.ExcValue
import HandS.ExcInit
import HandS.ExcField
import KE.KExcIs
import HandS.CallSlots
import HandS.Text
import PySem.Challenge.RW_eightsides_k50_side_words
set_option Elab.async false
set_option linter.all false
set_option maxRecDepth 100000
set_option maxHeartbeats 4000000
namespace FL
open PySem PySem.Spec PyProof.Rows L2

/-! ### data without the heap -/
inductive D where
  | non | bl (b : Bool) | int (i : Int) | str (x : Str) | tup (xs : List D) | lst (xs : List D)
  /-- the script: a list that is read only; an instance that stays as it is; a dict by ints -/
  | scr (ns : List Int) | ob (C : Str) (nm : List Str) (xs : List D) | dct (ks : List Int) (xs : List D)
  /-- an instance that is changed in place (ls: the levels of its fields); what is not looked at -/
  | mob (C : Str) (nm : List Str) (ls : List Nat) (xs : List D) | hol (a : Addr)
  /-- an exception that was caught and kept: its class, its fields -/
  | exc (C : Str) (nm : List Str) (xs : List D)
/-- the first fields of the classes whose instances are changed -/
def mrk : List Str := ["many", "paths", "words"]
def mutF : List (Str × V) → Bool
  | (f, _) :: _ => mrk.contains f
  | [] => false
def immN : List Str → Bool
  | f :: _ => !mrk.contains f
  | [] => true
def SqF (K : PySem.W.Frag) (H : Hp) (a : Addr) (xs : List V) : Prop := (∃ o, H a = some (.frz o (.lst xs))) ∨
    ∃ (o : Obj) (its : Array Value) (n : Nat), K.lookup a = some o ∧ o.cls = .type "list" ∧ o.dict = none ∧ o.data = .seq its n ∧ its.size ≤ sizeLine ∧ Vals xs its.toList
theorem SqF.sq {K : PySem.W.Frag} {H : Hp} {a : Addr} {xs : List V} (h : SqF K H a xs) : SqL K H a xs := by
  rcases h with ⟨o, h⟩ | h
  · exact .inl (.inr ⟨o, h⟩)
  · exact .inr h
/-- what is changed in place -/
def MutO : HO → Prop
  | .lst _ => True
  | .dK _ => True
  | .ins _ _ fs => mutF fs = true
  | _ => False
theorem imm_not {nm : List Str} (h : immN nm = true) {C dx : Addr} {xs : List V} : ¬ MutO (.ins C dx (nm.zip xs)) := fun z => by
  cases nm with
  | nil => cases z
  | cons f r =>
    cases xs with
    | nil => cases z
    | cons x xs =>
      have z : mrk.contains f = true := z
      have h : (!mrk.contains f) = true := h
      rw [z] at h; cases h
theorem imm_mut {nm : List Str} (h : immN nm = false) {C dx : Addr} {xs : List V} (hl : xs.length = nm.length) : MutO (.ins C dx (nm.zip xs)) := by
  cases nm with
  | nil => cases h
  | cons f r =>
    cases xs with
    | nil => cases hl
    | cons x xs =>
      have h : (!mrk.contains f) = false := h
      show mrk.contains f = true
      cases e : mrk.contains f with
      | true => rfl
      | false => rw [e] at h; cases h
def Keeps (H F : Hp) : Prop := ∀ a o, H a = some o → ¬ MutO o → F a = some o
theorem Keeps.sqt {K : PySem.W.Frag} {H F : Hp} (t : Keeps H F) {a : Addr} {xs : List V} (h : SqT K H a xs) : SqT K F a xs := by
  rcases h with (h | ⟨o, h⟩) | h
  · exact .inl (.inl (t _ _ h fun z => z))
  · exact .inl (.inr ⟨o, t _ _ h fun z => z⟩)
  · exact .inr h
theorem Keeps.sqf {K : PySem.W.Frag} {H F : Hp} (t : Keeps H F) {a : Addr} {xs : List V} (h : SqF K H a xs) : SqF K F a xs := by
  rcases h with ⟨o, h⟩ | h
  · exact .inl ⟨o, t _ _ h fun z => z⟩
  · exact .inr h
theorem _root_.L2.Same.sqf {K : PySem.W.Frag} {H H' : Hp} {a : Addr} {xs : List V} (e : Same H H') (h : SqF K H a xs) : SqF K H' a xs := by
  rcases h with ⟨o, h⟩ | h
  · exact .inl ⟨o, e _ _ h⟩
  · exact .inr h

/-- an exception object at a, of the class, its dict at dd -/
def ExK (cls : Value) (dd : Option Addr) (a : Addr) : HO := .ext fun h => ∃ (oe : Obj) (vs : Array Value), h.get? a = some oe ∧ Zc cls dd oe ∧ oe.data = .fields vs
/-- what its dict says -/
def XdR (H : Hp) (nm : List Str) (dd : Option Addr) (xs : List V) : Prop := (nm = [] ∧ dd = none) ∨ ∃ d, (nm ≠ [] ∧ dd = some d) ∧ H d = some (.xd (nm.zip xs))
theorem XdR.mono {H H' : Hp} {nm : List Str} {dd : Option Addr} {xs : List V} (s : Same H H') (h : XdR H nm dd xs) : XdR H' nm dd xs := by
  rcases h with h | ⟨d, e, h⟩
  · exact .inl h
  · exact .inr ⟨d, e, s _ _ h⟩
theorem XdR.keeps {H F : Hp} {nm : List Str} {dd : Option Addr} {xs : List V} (t : Keeps H F) (h : XdR H nm dd xs) : XdR F nm dd xs := by
  rcases h with h | ⟨d, e, h⟩
  · exact .inl h
  · exact .inr ⟨d, e, t _ _ h fun z => z⟩
mutual
/-- a value stands for a datum, read in the heap H -/
def Rep (K : PySem.W.Frag) (H : Hp) : D → V → Prop
  | .non, v => v = .non
  | .bl b, v => v = .bl b
  | .int i, v => v = .int i
  | .str x, v => v = .str x
  | .tup ds, v => ∃ a xs, v = .ref a ∧ SqT K H a xs ∧ RepL K H ds xs
  | .lst ds, v => ∃ a xs, v = .ref a ∧ H a = some (.lst xs) ∧ RepL K H ds xs
  | .scr ns, v => ∃ a, v = .ref a ∧ SqF K H a (ns.map V.int)
  | .ob C nm ds, v => ∃ Ca a dx xs, PySem.W.nsIn K mainGlobals C = some (some (.ref Ca)) ∧ v = .ref a ∧ H a = some (.ins Ca dx (nm.zip xs)) ∧ RepL K H ds xs
  | .exc C nm ds, v => ∃ Ca a dd xs, PySem.W.nsIn K mainGlobals C = some (some (.ref Ca)) ∧ v = .ref a ∧ (H a = some (ExK (.ref Ca) dd a) ∧ XdR H nm dd xs) ∧ RepL K H ds xs
  | .dct ks ds, v => ∃ a xs, v = .ref a ∧ H a = some (.dK ((ks.map Sum.inl).zip xs)) ∧ RepL K H ds xs
  | .mob C nm ls ds, v => ∃ Ca a dx xs, (PySem.W.nsIn K mainGlobals C = some (some (.ref Ca)) ∧ immN nm = false ∧ ds.length = nm.length ∧ ls.length = nm.length) ∧ v = .ref a ∧ H a = some (.ins Ca dx (nm.zip xs)) ∧ RepL K H ds xs
  | .hol a, v => v = .ref a
def RepL (K : PySem.W.Frag) (H : Hp) : List D → List V → Prop
  | [], vs => vs = []
  | d :: ds, vs => ∃ v r, vs = v :: r ∧ Rep K H d v ∧ RepL K H ds r
end
mutual
/-- lists only in the upper k levels -/
def full : D → Nat → Bool
  | .lst _, 0 => false
  | .lst ds, k + 1 => fullL ds k
  | .tup ds, k => fullL ds k
  | .non, _ => true
  | .bl _, _ => true
  | .int _, _ => true
  | .str _, _ => true
  | .scr _, _ => true
  | .ob _ nm ds, _ => immN nm && fullL ds 0
  | .exc _ _ ds, _ => fullL ds 0
  | .dct _ _, 0 => false
  | .dct _ ds, k + 1 => fullL ds k
  | .mob _ _ _ _, 0 => false
  | .mob _ _ ls ds, _ + 1 => fullM ds ls
  | .hol _, _ => true
def fullL : List D → Nat → Bool
  | [], _ => true
  | d :: ds, k => full d k && fullL ds k
def fullM : List D → List Nat → Bool
  | [], _ => true
  | d :: ds, ls => full d (ls.headD 0) && fullM ds ls.tail
end
mutual
/-- the lists of the upper k levels are one's own (their places: fp), what lies below is read in F -/
def Own (K : PySem.W.Frag) (H F : Hp) : D → Nat → V → List Addr → Prop
  | .lst ds, 0, v, fp => fp = [] ∧ Rep K F (.lst ds) v
  | .lst ds, k + 1, v, fp => ∃ a xs fps, v = .ref a ∧ H a = some (.lst xs) ∧ fp = a :: fps ∧ OwnL K H F ds k xs fps
  | .tup ds, k, v, fp => ∃ a xs, v = .ref a ∧ SqT K F a xs ∧ OwnL K H F ds k xs fp
  | .non, _, v, fp => fp = [] ∧ v = .non
  | .bl b, _, v, fp => fp = [] ∧ v = .bl b
  | .int i, _, v, fp => fp = [] ∧ v = .int i
  | .str x, _, v, fp => fp = [] ∧ v = .str x
  | .scr ns, _, v, fp => fp = [] ∧ Rep K F (.scr ns) v
  | .ob C nm ds, _, v, fp => fp = [] ∧ Rep K F (.ob C nm ds) v
  | .exc C nm ds, _, v, fp => fp = [] ∧ Rep K F (.exc C nm ds) v
  | .dct ks ds, 0, v, fp => fp = [] ∧ Rep K F (.dct ks ds) v
  | .dct ks ds, k + 1, v, fp => ∃ a xs fps, v = .ref a ∧ H a = some (.dK ((ks.map Sum.inl).zip xs)) ∧ fp = a :: fps ∧ OwnL K H F ds k xs fps
  | .mob C nm ls ds, 0, v, fp => fp = [] ∧ Rep K F (.mob C nm ls ds) v
  | .mob C nm ls ds, _ + 1, v, fp => ∃ Ca a dx xs fps, (PySem.W.nsIn K mainGlobals C = some (some (.ref Ca)) ∧ immN nm = false ∧ ds.length = nm.length ∧ ls.length = nm.length) ∧ v = .ref a ∧ H a = some (.ins Ca dx (nm.zip xs)) ∧ fp = a :: fps ∧ OwnM K H F ds ls xs fps
  | .hol a, _, v, fp => fp = [] ∧ v = .ref a
def OwnL (K : PySem.W.Frag) (H F : Hp) : List D → Nat → List V → List Addr → Prop
  | [], _, vs, fp => vs = [] ∧ fp = []
  | d :: ds, k, vs, fp => ∃ v r fp1 fp2, vs = v :: r ∧ fp = fp1 ++ fp2 ∧ Own K H F d k v fp1 ∧ OwnL K H F ds k r fp2
def OwnM (K : PySem.W.Frag) (H F : Hp) : List D → List Nat → List V → List Addr → Prop
  | [], _, vs, fp => vs = [] ∧ fp = []
  | d :: ds, ls, vs, fp => ∃ v r fp1 fp2, vs = v :: r ∧ fp = fp1 ++ fp2 ∧ Own K H F d (ls.headD 0) v fp1 ∧ OwnM K H F ds ls.tail r fp2
end

theorem Same.sqt {K : PySem.W.Frag} {H H' : Hp} {a : Addr} {xs : List V} (e : Same H H') (h : SqT K H a xs) : SqT K H' a xs := by
  rcases h with (h | ⟨o, h⟩) | h
  · exact .inl (.inl (e _ _ h))
  · exact .inl (.inr ⟨o, e _ _ h⟩)
  · exact .inr h

section
variable {K : PySem.W.Frag} {H H' F F' : Hp}
mutual
theorem Rep.mono (s : Same H H') : ∀ (d : D) (v : V), Rep K H d v → Rep K H' d v
  | .non, _, h => h
  | .bl _, _, h => h
  | .int _, _, h => h
  | .str _, _, h => h
  | .tup ds, _, ⟨a, xs, e, q, r⟩ => ⟨a, xs, e, Same.sqt s q, RepL.mono s ds xs r⟩
  | .lst ds, _, ⟨a, xs, e, q, r⟩ => ⟨a, xs, e, s _ _ q, RepL.mono s ds xs r⟩
  | .scr ns, _, ⟨a, e, q⟩ => ⟨a, e, s.sqf q⟩
  | .ob C nm ds, _, ⟨Ca, a, dx, xs, ec, e, q, r⟩ => ⟨Ca, a, dx, xs, ec, e, s _ _ q, RepL.mono s ds xs r⟩
  | .exc C nm ds, _, ⟨Ca, a, dd, xs, ec, e, q, r⟩ => ⟨Ca, a, dd, xs, ec, e, ⟨s _ _ q.1, q.2.mono s⟩, RepL.mono s ds xs r⟩
  | .dct ks ds, _, ⟨a, xs, e, q, r⟩ => ⟨a, xs, e, s _ _ q, RepL.mono s ds xs r⟩
  | .mob C nm ls ds, _, ⟨Ca, a, dx, xs, ec, e, q, r⟩ => ⟨Ca, a, dx, xs, ec, e, s _ _ q, RepL.mono s ds xs r⟩
  | .hol _, _, h => h
theorem RepL.mono (s : Same H H') : ∀ (ds : List D) (vs : List V), RepL K H ds vs → RepL K H' ds vs
  | [], _, h => h
  | d :: ds, _, ⟨v, r, e, h1, h2⟩ => ⟨v, r, e, Rep.mono s d v h1, RepL.mono s ds r h2⟩
end
theorem RepL.length : ∀ {ds : List D} {vs : List V}, RepL K H ds vs → vs.length = ds.length
  | [], _, h => by rw [show _ = [] from h]; rfl
  | d :: ds, _, ⟨v, r, e, h1, h2⟩ => by rw [e, List.length_cons, List.length_cons, RepL.length h2]
theorem RepL.get : ∀ {ds : List D} {vs : List V} {i : Nat} {d : D}, RepL K H ds vs → ds[i]? = some d → ∃ v, vs[i]? = some v ∧ Rep K H d v
  | [], _, _, _, h, e => by simp at e
  | d :: ds, _, 0, _, ⟨v, r, e, h1, h2⟩, e1 => by
    subst e; simp at e1; subst e1; exact ⟨v, rfl, h1⟩
  | d :: ds, _, i + 1, _, ⟨v, r, e, h1, h2⟩, e1 => by
    subst e
    obtain ⟨w, q1, q2⟩ := RepL.get (i := i) h2 (by simpa using e1)
    exact ⟨w, by simpa using q1, q2⟩
theorem RepL.app : ∀ {ds es : List D} {vs ws : List V}, RepL K H ds vs → RepL K H es ws → RepL K H (ds ++ es) (vs ++ ws)
  | [], _, _, _, h, h' => by rw [show _ = [] from h]; exact h'
  | d :: ds, es, _, ws, ⟨v, r, e, h1, h2⟩, h' => ⟨v, r ++ ws, by rw [e]; rfl, h1, RepL.app h2 h'⟩
theorem RepL.take : ∀ (n : Nat) {ds : List D} {vs : List V}, RepL K H ds vs → RepL K H (ds.take n) (vs.take n)
  | 0, _, _, _ => rfl
  | n + 1, [], _, h => by rw [show _ = [] from h]; rfl
  | n + 1, d :: ds, _, ⟨v, r, e, h1, h2⟩ => ⟨v, r.take n, by rw [e]; rfl, h1, RepL.take n h2⟩
theorem RepL.drop : ∀ (n : Nat) {ds : List D} {vs : List V}, RepL K H ds vs → RepL K H (ds.drop n) (vs.drop n)
  | 0, _, _, h => h
  | n + 1, [], _, h => by rw [show _ = [] from h]; rfl
  | n + 1, d :: ds, _, ⟨v, r, e, h1, h2⟩ => by rw [e]; exact RepL.drop n h2
theorem RepL.rev {ds : List D} : ∀ {vs : List V}, RepL K H ds vs → RepL K H ds.reverse vs.reverse := by
  induction ds with
  | nil => intro vs h; rw [show vs = [] from h]; exact rfl
  | cons d ds ih =>
    intro vs h
    obtain ⟨v, r, e, h1, h2⟩ := h
    subst e
    rw [List.reverse_cons, List.reverse_cons]
    exact RepL.app (ih h2) ⟨v, [], rfl, h1, rfl⟩
theorem RepL.one {d : D} {v : V} (h : Rep K H d v) : RepL K H [d] [v] := ⟨v, [], rfl, h, rfl⟩
theorem RepL.ints (f : Nat → Int) : ∀ l : List Nat, RepL K H (l.map fun i => D.int (f i)) (l.map fun i => V.int (f i))
  | [] => rfl
  | i :: l => ⟨_, _, rfl, rfl, RepL.ints f l⟩
theorem RepL.intsI : ∀ l : List Int, RepL K H (l.map D.int) (l.map V.int)
  | [] => rfl
  | i :: l => ⟨_, _, rfl, rfl, RepL.intsI l⟩

mutual
/-- what has no lists is read wherever the tuples stand -/
theorem Rep.flat (t : Keeps H F) : ∀ (d : D) (v : V), full d 0 = true → Rep K H d v → Rep K F d v
  | .non, _, _, h => h
  | .bl _, _, _, h => h
  | .int _, _, _, h => h
  | .str _, _, _, h => h
  | .tup ds, _, f, ⟨a, xs, e, q, r⟩ => ⟨a, xs, e, t.sqt q, RepL.flat t ds xs f r⟩
  | .lst ds, _, f, _ => by cases f
  | .scr ns, _, f, ⟨a, e, q⟩ => ⟨a, e, t.sqf q⟩
  | .ob C nm ds, _, f, ⟨Ca, a, dx, xs, ec, e, q, r⟩ => ⟨Ca, a, dx, xs, ec, e, t _ _ q (imm_not (Bool.and_eq_true_iff.mp f).1), RepL.flat t ds xs (Bool.and_eq_true_iff.mp f).2 r⟩
  | .exc C nm ds, _, f, ⟨Ca, a, dd, xs, ec, e, q, r⟩ => ⟨Ca, a, dd, xs, ec, e, ⟨t _ _ q.1 (fun z => z), q.2.keeps t⟩, RepL.flat t ds xs f r⟩
  | .dct ks ds, _, f, _ => by cases f
  | .mob _ _ _ _, _, f, _ => by cases f
  | .hol _, _, _, h => h
theorem RepL.flat (t : Keeps H F) : ∀ (ds : List D) (vs : List V), fullL ds 0 = true → RepL K H ds vs → RepL K F ds vs
  | [], _, _, h => h
  | d :: ds, _, f, ⟨v, r, e, h1, h2⟩ => by
    have f' := Bool.and_eq_true_iff.mp f
    exact ⟨v, r, e, Rep.flat t d v f'.1 h1, RepL.flat t ds r f'.2 h2⟩
end
mutual
theorem Own.shared : ∀ (d : D) (v : V), Rep K F d v → Own K H F d 0 v []
  | .non, _, h => ⟨rfl, h⟩
  | .bl _, _, h => ⟨rfl, h⟩
  | .int _, _, h => ⟨rfl, h⟩
  | .str _, _, h => ⟨rfl, h⟩
  | .tup ds, _, ⟨a, xs, e, q, r⟩ => ⟨a, xs, e, q, OwnL.shared ds xs r⟩
  | .lst ds, _, h => ⟨rfl, h⟩
  | .scr ns, _, h => ⟨rfl, h⟩
  | .ob C nm ds, _, h => ⟨rfl, h⟩
  | .exc C nm ds, _, h => ⟨rfl, h⟩
  | .dct ks ds, _, h => ⟨rfl, h⟩
  | .mob C nm ls ds, _, h => ⟨rfl, h⟩
  | .hol _, _, h => ⟨rfl, h⟩
theorem OwnL.shared : ∀ (ds : List D) (vs : List V), RepL K F ds vs → OwnL K H F ds 0 vs []
  | [], _, h => ⟨h, rfl⟩
  | d :: ds, _, ⟨v, r, e, h1, h2⟩ => ⟨v, r, [], [], e, rfl, Own.shared d v h1, OwnL.shared ds r h2⟩
end
mutual
/-- what has no lists is one's own at any level -/
theorem Own.flat (k : Nat) : ∀ (d : D) (v : V), full d 0 = true → Rep K F d v → Own K H F d k v []
  | .non, _, _, h => ⟨rfl, h⟩
  | .bl _, _, _, h => ⟨rfl, h⟩
  | .int _, _, _, h => ⟨rfl, h⟩
  | .str _, _, _, h => ⟨rfl, h⟩
  | .tup ds, _, f, ⟨a, xs, e, q, r⟩ => ⟨a, xs, e, q, OwnL.flat k ds xs f r⟩
  | .lst ds, _, f, h => by cases f
  | .scr ns, _, f, h => ⟨rfl, h⟩
  | .ob C nm ds, _, f, h => ⟨rfl, h⟩
  | .exc C nm ds, _, f, h => ⟨rfl, h⟩
  | .dct ks ds, _, f, h => by cases f
  | .mob _ _ _ _, _, f, h => by cases f
  | .hol _, _, _, h => ⟨rfl, h⟩
theorem OwnL.flat (k : Nat) : ∀ (ds : List D) (vs : List V), fullL ds 0 = true → RepL K F ds vs → OwnL K H F ds k vs []
  | [], _, _, h => ⟨h, rfl⟩
  | d :: ds, _, f, ⟨v, r, e, h1, h2⟩ => by
    have f' := Bool.and_eq_true_iff.mp f
    exact ⟨v, r, [], [], e, rfl, Own.flat k d v f'.1 h1, OwnL.flat k ds r f'.2 h2⟩
end
mutual
/-- one's own is readable -/
theorem Own.rep (s : Same F F') : ∀ (d : D) (k : Nat) (v : V) (fp : List Addr), (∀ a ∈ fp, F' a = H a) → Own K H F d k v fp → Rep K F' d v
  | .non, _, _, _, _, h => h.2
  | .bl _, _, _, _, _, h => h.2
  | .int _, _, _, _, _, h => h.2
  | .str _, _, _, _, _, h => h.2
  | .tup ds, k, _, fp, c, ⟨a, xs, e, q, r⟩ => ⟨a, xs, e, Same.sqt s q, OwnL.rep s ds k xs fp c r⟩
  | .lst ds, 0, v, _, _, h => Rep.mono s (.lst ds) v h.2
  | .lst ds, k + 1, _, fp, c, ⟨a, xs, fps, e, q, ef, r⟩ => by
    subst ef
    exact ⟨a, xs, e, (by rw [c a List.mem_cons_self]; exact q), OwnL.rep s ds k xs fps (fun b hb => c b (List.mem_cons_of_mem _ hb)) r⟩
  | .scr ns, _, v, _, _, h => Rep.mono s (.scr ns) v h.2
  | .ob C nm ds, _, v, _, _, h => Rep.mono s (.ob C nm ds) v h.2
  | .exc C nm ds, _, v, _, _, h => Rep.mono s (.exc C nm ds) v h.2
  | .dct ks ds, 0, v, _, _, h => Rep.mono s (.dct ks ds) v h.2
  | .dct ks ds, k + 1, _, fp, c, ⟨a, xs, fps, e, q, ef, r⟩ => by
    subst ef
    exact ⟨a, xs, e, (by rw [c a List.mem_cons_self]; exact q), OwnL.rep s ds k xs fps (fun b hb => c b (List.mem_cons_of_mem _ hb)) r⟩
  | .mob C nm ls ds, 0, v, _, _, h => Rep.mono s (.mob C nm ls ds) v h.2
  | .mob C nm ls ds, k + 1, _, fp, c, ⟨Ca, a, dx, xs, fps, ec, e, q, ef, r⟩ => by
    subst ef
    exact ⟨Ca, a, dx, xs, ec, e, (by rw [c a List.mem_cons_self]; exact q), OwnM.rep s ds ls xs fps (fun b hb => c b (List.mem_cons_of_mem _ hb)) r⟩
  | .hol _, _, _, _, _, h => h.2
theorem OwnL.rep (s : Same F F') : ∀ (ds : List D) (k : Nat) (vs : List V) (fp : List Addr), (∀ a ∈ fp, F' a = H a) → OwnL K H F ds k vs fp → RepL K F' ds vs
  | [], _, _, _, _, h => h.1
  | d :: ds, k, _, _, c, ⟨v, r, fp1, fp2, e, ef, h1, h2⟩ => by
    subst ef
    exact ⟨v, r, e, Own.rep s d k v fp1 (fun a h => c a (List.mem_append_left _ h)) h1, OwnL.rep s ds k r fp2 (fun a h => c a (List.mem_append_right _ h)) h2⟩
theorem OwnM.rep (s : Same F F') : ∀ (ds : List D) (ls : List Nat) (vs : List V) (fp : List Addr), (∀ a ∈ fp, F' a = H a) → OwnM K H F ds ls vs fp → RepL K F' ds vs
  | [], _, _, _, _, h => h.1
  | d :: ds, ls, _, _, c, ⟨v, r, fp1, fp2, e, ef, h1, h2⟩ => by
    subst ef
    exact ⟨v, r, e, Own.rep s d _ v fp1 (fun a h => c a (List.mem_append_left _ h)) h1, OwnM.rep s ds ls.tail r fp2 (fun a h => c a (List.mem_append_right _ h)) h2⟩
end
mutual
theorem Own.mono (s : Same F F') : ∀ (d : D) (k : Nat) (v : V) (fp : List Addr), (∀ a ∈ fp, H' a = H a) → Own K H F d k v fp → Own K H' F' d k v fp
  | .non, _, _, _, _, h => h
  | .bl _, _, _, _, _, h => h
  | .int _, _, _, _, _, h => h
  | .str _, _, _, _, _, h => h
  | .tup ds, k, _, fp, c, ⟨a, xs, e, q, r⟩ => ⟨a, xs, e, Same.sqt s q, OwnL.mono s ds k xs fp c r⟩
  | .lst ds, 0, v, _, _, h => ⟨h.1, Rep.mono s (.lst ds) v h.2⟩
  | .lst ds, k + 1, _, fp, c, ⟨a, xs, fps, e, q, ef, r⟩ => by
    subst ef
    exact ⟨a, xs, fps, e, by rw [c a List.mem_cons_self]; exact q, rfl, OwnL.mono s ds k xs fps (fun b hb => c b (List.mem_cons_of_mem _ hb)) r⟩
  | .scr ns, _, v, _, _, h => ⟨h.1, Rep.mono s (.scr ns) v h.2⟩
  | .ob C nm ds, _, v, _, _, h => ⟨h.1, Rep.mono s (.ob C nm ds) v h.2⟩
  | .exc C nm ds, _, v, _, _, h => ⟨h.1, Rep.mono s (.exc C nm ds) v h.2⟩
  | .dct ks ds, 0, v, _, _, h => ⟨h.1, Rep.mono s (.dct ks ds) v h.2⟩
  | .dct ks ds, k + 1, _, fp, c, ⟨a, xs, fps, e, q, ef, r⟩ => by
    subst ef
    exact ⟨a, xs, fps, e, by rw [c a List.mem_cons_self]; exact q, rfl, OwnL.mono s ds k xs fps (fun b hb => c b (List.mem_cons_of_mem _ hb)) r⟩
  | .mob C nm ls ds, 0, v, _, _, h => ⟨h.1, Rep.mono s (.mob C nm ls ds) v h.2⟩
  | .mob C nm ls ds, k + 1, _, fp, c, ⟨Ca, a, dx, xs, fps, ec, e, q, ef, r⟩ => by
    subst ef
    exact ⟨Ca, a, dx, xs, fps, ec, e, by rw [c a List.mem_cons_self]; exact q, rfl, OwnM.mono s ds ls xs fps (fun b hb => c b (List.mem_cons_of_mem _ hb)) r⟩
  | .hol _, _, _, _, _, h => h
theorem OwnL.mono (s : Same F F') : ∀ (ds : List D) (k : Nat) (vs : List V) (fp : List Addr), (∀ a ∈ fp, H' a = H a) → OwnL K H F ds k vs fp → OwnL K H' F' ds k vs fp
  | [], _, _, _, _, h => h
  | d :: ds, k, _, _, c, ⟨v, r, fp1, fp2, e, ef, h1, h2⟩ => by
    subst ef
    exact ⟨v, r, fp1, fp2, e, rfl, Own.mono s d k v fp1 (fun a h => c a (List.mem_append_left _ h)) h1, OwnL.mono s ds k r fp2 (fun a h => c a (List.mem_append_right _ h)) h2⟩
theorem OwnM.mono (s : Same F F') : ∀ (ds : List D) (ls : List Nat) (vs : List V) (fp : List Addr), (∀ a ∈ fp, H' a = H a) → OwnM K H F ds ls vs fp → OwnM K H' F' ds ls vs fp
  | [], _, _, _, _, h => h
  | d :: ds, ls, _, _, c, ⟨v, r, fp1, fp2, e, ef, h1, h2⟩ => by
    subst ef
    exact ⟨v, r, fp1, fp2, e, rfl, Own.mono s d _ v fp1 (fun a h => c a (List.mem_append_left _ h)) h1, OwnM.mono s ds ls.tail r fp2 (fun a h => c a (List.mem_append_right _ h)) h2⟩
end
mutual
/-- where lists stand in the upper k levels only: what lies below is read wherever the tuples stand -/
theorem Own.move (t : Keeps F F') : ∀ (d : D) (k : Nat) (v : V) (fp : List Addr), full d k = true → Own K H F d k v fp → Own K H F' d k v fp
  | .non, _, _, _, _, h => h
  | .bl _, _, _, _, _, h => h
  | .int _, _, _, _, _, h => h
  | .str _, _, _, _, _, h => h
  | .tup ds, k, _, fp, f, ⟨a, xs, e, q, r⟩ => ⟨a, xs, e, t.sqt q, OwnL.move t ds k xs fp f r⟩
  | .lst ds, 0, v, _, f, h => by cases f
  | .lst ds, k + 1, _, fp, f, ⟨a, xs, fps, e, q, ef, r⟩ => ⟨a, xs, fps, e, q, ef, OwnL.move t ds k xs fps f r⟩
  | .scr ns, _, v, _, f, h => ⟨h.1, Rep.flat t (.scr ns) v rfl h.2⟩
  | .ob C nm ds, _, v, _, f, h => ⟨h.1, Rep.flat t (.ob C nm ds) v f h.2⟩
  | .exc C nm ds, _, v, _, f, h => ⟨h.1, Rep.flat t (.exc C nm ds) v f h.2⟩
  | .dct ks ds, 0, v, _, f, h => by cases f
  | .dct ks ds, k + 1, _, fp, f, ⟨a, xs, fps, e, q, ef, r⟩ => ⟨a, xs, fps, e, q, ef, OwnL.move t ds k xs fps f r⟩
  | .mob C nm ls ds, 0, v, _, f, h => by cases f
  | .mob C nm ls ds, k + 1, _, fp, f, ⟨Ca, a, dx, xs, fps, ec, e, q, ef, r⟩ => ⟨Ca, a, dx, xs, fps, ec, e, q, ef, OwnM.move t ds ls xs fps f r⟩
  | .hol _, _, _, _, _, h => h
theorem OwnL.move (t : Keeps F F') : ∀ (ds : List D) (k : Nat) (vs : List V) (fp : List Addr), fullL ds k = true → OwnL K H F ds k vs fp → OwnL K H F' ds k vs fp
  | [], _, _, _, _, h => h
  | d :: ds, k, _, _, f, ⟨v, r, fp1, fp2, e, ef, h1, h2⟩ => by
    have f' := Bool.and_eq_true_iff.mp f
    exact ⟨v, r, fp1, fp2, e, ef, Own.move t d k v fp1 f'.1 h1, OwnL.move t ds k r fp2 f'.2 h2⟩
theorem OwnM.move (t : Keeps F F') : ∀ (ds : List D) (ls : List Nat) (vs : List V) (fp : List Addr), fullM ds ls = true → OwnM K H F ds ls vs fp → OwnM K H F' ds ls vs fp
  | [], _, _, _, _, h => h
  | d :: ds, ls, _, _, f, ⟨v, r, fp1, fp2, e, ef, h1, h2⟩ => by
    have f' := Bool.and_eq_true_iff.mp f
    exact ⟨v, r, fp1, fp2, e, ef, Own.move t d _ v fp1 f'.1 h1, OwnM.move t ds ls.tail r fp2 f'.2 h2⟩
end
theorem OwnM.len : ∀ {ds : List D} {ls : List Nat} {vs : List V} {fp : List Addr}, OwnM K H F ds ls vs fp → vs.length = ds.length
  | [], _, _, _, h => by rw [h.1]; rfl
  | d :: ds, ls, _, _, ⟨v, r, fp1, fp2, e, ef, h1, h2⟩ => by rw [e, List.length_cons, List.length_cons, OwnM.len h2]
mutual
theorem Own.isLst : ∀ (d : D) (k : Nat) (v : V) (fp : List Addr), Own K H F d k v fp → ∀ a ∈ fp, ∃ o, H a = some o ∧ MutO o
  | .non, _, _, _, h, a, m => by rw [h.1] at m; cases m
  | .bl _, _, _, _, h, a, m => by rw [h.1] at m; cases m
  | .int _, _, _, _, h, a, m => by rw [h.1] at m; cases m
  | .str _, _, _, _, h, a, m => by rw [h.1] at m; cases m
  | .tup ds, k, _, fp, ⟨_, xs, e, q, r⟩, a, m => OwnL.isLst ds k xs fp r a m
  | .lst ds, 0, v, _, h, a, m => by rw [h.1] at m; cases m
  | .lst ds, k + 1, _, fp, ⟨b, xs, fps, e, q, ef, r⟩, a, m => by
    subst ef
    rcases List.mem_cons.mp m with rfl | m
    · exact ⟨_, q, True.intro⟩
    · exact OwnL.isLst ds k xs fps r a m
  | .scr ns, _, v, _, h, a, m => by rw [h.1] at m; cases m
  | .ob C nm ds, _, v, _, h, a, m => by rw [h.1] at m; cases m
  | .exc C nm ds, _, v, _, h, a, m => by rw [h.1] at m; cases m
  | .dct ks ds, 0, v, _, h, a, m => by rw [h.1] at m; cases m
  | .dct ks ds, k + 1, _, fp, ⟨b, xs, fps, e, q, ef, r⟩, a, m => by
    subst ef
    rcases List.mem_cons.mp m with rfl | m
    · exact ⟨_, q, True.intro⟩
    · exact OwnL.isLst ds k xs fps r a m
  | .mob C nm ls ds, 0, v, _, h, a, m => by rw [h.1] at m; cases m
  | .mob C nm ls ds, k + 1, _, fp, ⟨Ca, b, dx, xs, fps, ec, e, q, ef, r⟩, a, m => by
    subst ef
    rcases List.mem_cons.mp m with rfl | m
    · exact ⟨_, q, imm_mut ec.2.1 (by rw [OwnM.len r, ec.2.2.1])⟩
    · exact OwnM.isLst ds ls xs fps r a m
  | .hol _, _, _, _, h, a, m => by rw [h.1] at m; cases m
theorem OwnL.isLst : ∀ (ds : List D) (k : Nat) (vs : List V) (fp : List Addr), OwnL K H F ds k vs fp → ∀ a ∈ fp, ∃ o, H a = some o ∧ MutO o
  | [], _, _, _, h, a, m => by rw [h.2] at m; cases m
  | d :: ds, k, _, _, ⟨v, r, fp1, fp2, e, ef, h1, h2⟩, a, m => by
    subst ef
    rcases List.mem_append.mp m with m | m
    · exact Own.isLst d k v fp1 h1 a m
    · exact OwnL.isLst ds k r fp2 h2 a m
theorem OwnM.isLst : ∀ (ds : List D) (ls : List Nat) (vs : List V) (fp : List Addr), OwnM K H F ds ls vs fp → ∀ a ∈ fp, ∃ o, H a = some o ∧ MutO o
  | [], _, _, _, h, a, m => by rw [h.2] at m; cases m
  | d :: ds, ls, _, _, ⟨v, r, fp1, fp2, e, ef, h1, h2⟩, a, m => by
    subst ef
    rcases List.mem_append.mp m with m | m
    · exact Own.isLst d _ v fp1 h1 a m
    · exact OwnM.isLst ds ls.tail r fp2 h2 a m
end
mutual
theorem Own.zero : ∀ (d : D) (v : V) (fp : List Addr), Own K H F d 0 v fp → fp = [] ∧ Rep K F d v
  | .non, _, _, h => h
  | .bl _, _, _, h => h
  | .int _, _, _, h => h
  | .str _, _, _, h => h
  | .scr _, _, _, h => h
  | .ob _ _ _, _, _, h => h
  | .exc _ _ _, _, _, h => h
  | .lst _, _, _, h => h
  | .dct _ _, _, _, h => h
  | .mob _ _ _ _, _, _, h => h
  | .hol _, _, _, h => h
  | .tup ds, _, fp, ⟨a, xs, e, q, r⟩ => let ⟨h1, h2⟩ := OwnL.zero ds xs fp r; ⟨h1, a, xs, e, q, h2⟩
theorem OwnL.zero : ∀ (ds : List D) (vs : List V) (fp : List Addr), OwnL K H F ds 0 vs fp → fp = [] ∧ RepL K F ds vs
  | [], _, _, h => ⟨h.2, h.1⟩
  | d :: ds, _, _, ⟨v, r, fp1, fp2, e, ef, h1, h2⟩ => by
    obtain ⟨a1, a2⟩ := Own.zero d v fp1 h1
    obtain ⟨b1, b2⟩ := OwnL.zero ds r fp2 h2
    exact ⟨by rw [ef, a1, b1]; rfl, v, r, e, a2, b2⟩
end
theorem OwnL.app {k : Nat} {ds es : List D} : ∀ {vs ws : List V} {fp fq : List Addr}, OwnL K H F ds k vs fp → OwnL K H F es k ws fq → OwnL K H F (ds ++ es) k (vs ++ ws) (fp ++ fq) := by
  induction ds with
  | nil =>
    intro vs ws fp fq h h'
    rw [h.1, h.2]
    exact h'
  | cons d ds ih =>
    intro vs ws fp fq h h'
    obtain ⟨v, r, fp1, fp2, e, ef, h1, h2⟩ := h
    subst e ef
    exact ⟨v, r ++ ws, fp1, fp2 ++ fq, rfl, by rw [List.append_assoc], h1, ih h2 h'⟩
theorem OwnL.one {k : Nat} {d : D} {v : V} {fp : List Addr} (h : Own K H F d k v fp) : OwnL K H F [d] k [v] fp :=
  ⟨v, [], fp, [], rfl, by rw [List.append_nil], h, rfl, rfl⟩
theorem OwnL.len {k : Nat} : ∀ {ds : List D} {vs : List V} {fp : List Addr}, OwnL K H F ds k vs fp → vs.length = ds.length
  | [], _, _, h => by rw [h.1]; rfl
  | d :: ds, _, _, ⟨v, r, fp1, fp2, e, ef, h1, h2⟩ => by rw [e, List.length_cons, List.length_cons, OwnL.len h2]
end
end FL

namespace FL
open PySem PySem.Spec PyProof.Rows L2
open Classical

/-! ### the heap without some places -/
noncomputable def hideP (H : Hp) (A : Addr → Prop) : Hp := fun a => if A a then none else H a
theorem hideP_some {H : Hp} {A : Addr → Prop} {a : Addr} {o : HO} : hideP H A a = some o ↔ ¬ A a ∧ H a = some o := by
  unfold hideP
  by_cases h : A a
  · simp [h]
  · simp [h]
theorem hideP_same {H : Hp} {A : Addr → Prop} : Same (hideP H A) H := fun _ _ h => (hideP_some.mp h).2
theorem hideP_mono {H H' : Hp} {A B : Addr → Prop} (s : Same H H') (h : ∀ a o, H a = some o → ¬ A a → ¬ B a) : Same (hideP H A) (hideP H' B) := fun a o q => by
  obtain ⟨q1, q2⟩ := hideP_some.mp q
  exact hideP_some.mpr ⟨h a o q2 q1, s a o q2⟩
theorem hideP_not {H : Hp} {A : Addr → Prop} {a : Addr} (h : ¬ A a) : hideP H A a = H a := by unfold hideP; rw [if_neg h]
/-- what is not changed in place stands where lists are hidden -/
theorem hideP_keeps {H : Hp} {A : Addr → Prop} (h : ∀ a, A a → ∃ o, H a = some o ∧ MutO o) : Keeps H (hideP H A) := fun a o q n =>
  hideP_some.mpr ⟨fun z => (by obtain ⟨o', e, m⟩ := h a z; rw [q] at e; cases e; exact n m), q⟩

abbrev Fps := Nat → List Addr
def own (fps : Fps) (a : Addr) : Prop := ∃ i, a ∈ fps i
def own2 (fps : Fps) (fp : List Addr) (a : Addr) : Prop := a ∈ fp ∨ ∃ i, a ∈ fps i

/-! ### a def's state: what each slot holds, and who owns it -/
inductive Slot where
  | un
  | va (k : Nat) (d : D)
  | io (k : Nat) (d : D)
abbrev Sl := List Slot
structure Fr where
  G : Hp
  pin : Nat → V
def SlotOk (K : PySem.W.Frag) (H F : Hp) (p : V) : Slot → Option (Option V) → List Addr → Prop
  | .un, _, fp => fp = []
  | .va k d, sv, fp => ∃ v, sv = some (some v) ∧ Own K H F d k v fp
  | .io k d, sv, fp => sv = some (some p) ∧ Own K H F d k p fp
structure StR (K : PySem.W.Frag) (F : Fr) (fps : Fps) (σ : L2.St) (H : Hp) (st : Sl) : Prop where
  fr : Same F.G (hideP H (own fps))
  nd : ∀ i, (fps i).Nodup
  dj : ∀ i j a, a ∈ fps i → a ∈ fps j → i = j
  len : σ.length = st.length
  ok : ∀ (i : Nat) sl, st[i]? = some sl → SlotOk K H (hideP H (own fps)) (F.pin i) sl σ[i]? (fps i)
  tmp : ∀ i a, st.length ≤ i → a ∈ fps i → ∃ o, H a = some o ∧ MutO o
  fin : ∃ m, ∀ i, m ≤ i → fps i = []
def StRep (K : PySem.W.Frag) (F : Fr) (σ : L2.St) (H : Hp) (st : Sl) : Prop := ∃ fps, StR K F fps σ H st

section
variable {K : PySem.W.Frag} {F : Fr} {fps : Fps} {σ : L2.St} {H H' : Hp} {st : Sl}
theorem SlotOk.isLst {p : V} {F : Hp} {sl : Slot} {sv : Option (Option V)} {fp : List Addr} (h : SlotOk K H F p sl sv fp) : ∀ a ∈ fp, ∃ o, H a = some o ∧ MutO o := by
  cases sl with
  | un => intro a m; rw [show fp = [] from h] at m; cases m
  | va k d => obtain ⟨v, _, q⟩ := h; exact Own.isLst d k v fp q
  | io k d => obtain ⟨_, q⟩ := h; exact Own.isLst d k p fp q
theorem SlotOk.mono {p : V} {F F' : Hp} {sl : Slot} {sv : Option (Option V)} {fp : List Addr} (s : Same F F') (c : ∀ a ∈ fp, H' a = H a) (h : SlotOk K H F p sl sv fp) : SlotOk K H' F' p sl sv fp := by
  cases sl with
  | un => exact h
  | va k d => obtain ⟨v, e, q⟩ := h; exact ⟨v, e, Own.mono s d k v fp c q⟩
  | io k d => obtain ⟨e, q⟩ := h; exact ⟨e, Own.mono s d k p fp c q⟩
theorem StR.isLst (r : StR K F fps σ H st) {a : Addr} (h : own fps a) : ∃ o, H a = some o ∧ MutO o := by
  obtain ⟨i, m⟩ := h
  by_cases hi : i < st.length
  · exact (r.ok i st[i] (by simp [hi])).isLst a m
  · exact r.tmp i a (by omega) m
theorem StR.there (r : StR K F fps σ H st) {a : Addr} (h : own fps a) : H a ≠ none := fun z => by
  obtain ⟨_, e, _⟩ := r.isLst h
  rw [z] at e; cases e
theorem StR.mono (r : StR K F fps σ H st) (s : Same H H') : StR K F fps σ H' st := by
  have hm : Same (hideP H (own fps)) (hideP H' (own fps)) := hideP_mono s fun _ _ _ h => h
  refine ⟨r.fr.trans hm, r.nd, r.dj, r.len, fun i sl e => (r.ok i sl e).mono hm fun a m => ?_, fun i a h m => ?_, r.fin⟩
  · obtain ⟨_, q, mq⟩ := r.isLst ⟨i, m⟩
    rw [q]; exact s _ _ q
  · obtain ⟨_, q, mq⟩ := r.tmp i a h m
    exact ⟨_, s _ _ q, mq⟩
theorem StR.keeps (r : StR K F fps σ H st) : Keeps H (hideP H (own fps)) := hideP_keeps fun a h => r.isLst h

/-! ### values -/
inductive Kd where
  | rd
  | ow (k : Nat)
/-- the value of an expression that began at H and ended at H' -/
def VR (K : PySem.W.Frag) (fps : Fps) (H H' : Hp) : Kd → D → V → Prop
  | .rd, d, v => Rep K H' d v
  | .ow k, d, v => ∃ fp, fp.Nodup ∧ (∀ a ∈ fp, H a = none) ∧ Own K H' (hideP H' (own2 fps fp)) d k v fp
def VRL (K : PySem.W.Frag) (fps : Fps) (H H' : Hp) : Kd → List D → List V → Prop
  | .rd, ds, vs => RepL K H' ds vs
  | .ow k, ds, vs => ∃ fp, fp.Nodup ∧ (∀ a ∈ fp, H a = none) ∧ OwnL K H' (hideP H' (own2 fps fp)) ds k vs fp

theorem VR.rd {kd : Kd} {d : D} {v : V} (h : VR K fps H H' kd d v) : Rep K H' d v := by
  cases kd with
  | rd => exact h
  | ow k => obtain ⟨fp, _, _, q⟩ := h; exact Own.rep hideP_same d k v fp (fun _ _ => rfl) q
theorem VRL.rd {kd : Kd} {d : List D} {v : List V} (h : VRL K fps H H' kd d v) : RepL K H' d v := by
  cases kd with
  | rd => exact h
  | ow k => obtain ⟨fp, _, _, q⟩ := h; exact OwnL.rep hideP_same d k v fp (fun _ _ => rfl) q
/-- from what is readable and has no lists -/
theorem VR.fl {kd : Kd} {d : D} {v : V} (r : StR K F fps σ H' st) (f : full d 0 = true) (h : Rep K H' d v) : VR K fps H H' kd d v := by
  cases kd with
  | rd => exact h
  | ow k =>
    refine ⟨[], List.nodup_nil, fun a m => (by cases m), Own.flat k d v f (Rep.flat (hideP_keeps fun b hb => ?_) d v f h)⟩
    rcases hb with m | hb
    · cases m
    · exact r.isLst hb
/-- scalars -/
def sc : D → Bool
  | .non => true
  | .bl _ => true
  | .int _ => true
  | .str _ => true
  | _ => false
def scV : D → V
  | .bl b => .bl b
  | .int i => .int i
  | .str x => .str x
  | _ => .non
theorem VR.sc {kd : Kd} {d : D} {v : V} (f : sc d = true) (e : v = scV d) : VR K fps H H' kd d v := by
  subst e
  cases kd with
  | rd => cases d <;> first | rfl | cases f
  | ow k => cases d <;> first | exact ⟨[], List.nodup_nil, fun a m => (by cases m), rfl, rfl⟩ | cases f
theorem Rep.int {i : Int} {v : V} (h : Rep K H (.int i) v) : v = .int i := h

/-- a temporary's heap grows -/
theorem VR.grow {H'' : Hp} {kd : Kd} {d : D} {v : V} (s : Same H' H'') (h : VR K fps H H' kd d v) : VR K fps H H'' kd d v := by
  cases kd with
  | rd => exact Rep.mono s d v h
  | ow k =>
    obtain ⟨fp, n, fr, q⟩ := h
    exact ⟨fp, n, fr, Own.mono (hideP_mono s fun _ _ _ h => h) d k v fp (fun a m => by
      obtain ⟨_, e, _⟩ := Own.isLst d k v fp q a m
      rw [e]; exact s _ _ e) q⟩
theorem VR.early {H0 : Hp} {kd : Kd} {d : D} {v : V} (s : Same H0 H) (h : VR K fps H H' kd d v) : VR K fps H0 H' kd d v := by
  cases kd with
  | rd => exact h
  | ow k => obtain ⟨fp, n, fr, q⟩ := h; exact ⟨fp, n, fun a m => s.free (fr a m), q⟩
theorem VRL.early {H0 : Hp} {kd : Kd} {d : List D} {v : List V} (s : Same H0 H) (h : VRL K fps H H' kd d v) : VRL K fps H0 H' kd d v := by
  cases kd with
  | rd => exact h
  | ow k => obtain ⟨fp, n, fr, q⟩ := h; exact ⟨fp, n, fun a m => s.free (fr a m), q⟩
theorem VRL.nil {kd : Kd} : VRL K fps H H' kd [] [] := by
  cases kd with
  | rd => rfl
  | ow k => exact ⟨[], List.nodup_nil, fun a m => (by cases m), rfl, rfl⟩
/-- the footprint at a place -/
def setF (fps : Fps) (i : Nat) (fp : List Addr) : Fps := fun j => if j = i then fp else fps j
theorem setF_same {i : Nat} {fp : List Addr} : setF fps i fp i = fp := if_pos rfl
theorem setF_ne {i j : Nat} {fp : List Addr} (h : j ≠ i) : setF fps i fp j = fps j := if_neg h
theorem own_setF {i : Nat} {fp : List Addr} {a : Addr} (h : own (setF fps i fp) a) : own2 fps fp a := by
  obtain ⟨j, m⟩ := h
  by_cases e : j = i
  · subst e; rw [setF_same] at m; exact .inl m
  · rw [setF_ne e] at m; exact .inr ⟨j, m⟩
theorem own_setF' {i : Nat} {fp : List Addr} {a : Addr} (hi : fps i = []) (h : own2 fps fp a) : own (setF fps i fp) a := by
  rcases h with m | ⟨j, m⟩
  · exact ⟨i, by rw [setF_same]; exact m⟩
  · refine ⟨j, ?_⟩
    rw [setF_ne]
    · exact m
    · intro e; subst e; rw [hi] at m; cases m
/-- a temporary joins the state -/
theorem StR.temp' {H1 : Hp} {fp : List Addr} (r : StR K F fps σ H st) (s1 : Same H H1) (n : fp.Nodup) (fr : ∀ a ∈ fp, H a = none) (lst : ∀ a ∈ fp, ∃ o, H1 a = some o ∧ MutO o) :
    ∃ m, st.length ≤ m ∧ fps m = [] ∧ StR K F (setF fps m fp) σ H1 st := by
  obtain ⟨m0, hm0⟩ := r.fin
  have hm : fps (max m0 st.length) = [] := hm0 _ (Nat.le_max_left _ _)
  refine ⟨max m0 st.length, Nat.le_max_right _ _, hm, ?_⟩
  have hide : Same (hideP H (own fps)) (hideP H1 (own (setF fps (max m0 st.length) fp))) := hideP_mono s1 fun a o e h z => by
    rcases own_setF z with z | z
    · rw [fr a z] at e; cases e
    · exact h z
  have hidx : ∀ {i}, i < st.length → i ≠ max m0 st.length := fun h => by have := Nat.le_max_right m0 st.length; omega
  refine ⟨r.fr.trans hide, fun i => ?_, fun i j a m1 m2 => ?_, r.len, fun i sl e => ?_, fun i a h m => ?_, max m0 st.length + 1, fun i h => ?_⟩
  · by_cases e : i = max m0 st.length
    · rw [e, setF_same]; exact n
    · rw [setF_ne e]; exact r.nd i
  · by_cases e1 : i = max m0 st.length <;> by_cases e2 : j = max m0 st.length
    · rw [e1, e2]
    · rw [e1, setF_same] at m1; rw [setF_ne e2] at m2
      exact absurd (fr a m1) (r.there ⟨j, m2⟩)
    · rw [setF_ne e1] at m1; rw [e2, setF_same] at m2
      exact absurd (fr a m2) (r.there ⟨i, m1⟩)
    · rw [setF_ne e1] at m1; rw [setF_ne e2] at m2
      exact r.dj i j a m1 m2
  · have hi : i < st.length := (List.getElem?_eq_some_iff.mp e).1
    rw [setF_ne (hidx hi)]
    exact (r.ok i sl e).mono hide fun a m => by
      obtain ⟨_, q, mq⟩ := r.isLst ⟨i, m⟩
      rw [q]; exact s1 _ _ q
  · by_cases e : i = max m0 st.length
    · rw [e, setF_same] at m; exact lst a m
    · rw [setF_ne e] at m
      obtain ⟨_, q, mq⟩ := r.tmp i a h m
      exact ⟨_, s1 _ _ q, mq⟩
  · rw [setF_ne (by omega)]
    exact hm0 i (by have := Nat.le_max_left m0 st.length; omega)
theorem StR.temp {H1 : Hp} {fp : List Addr} (r : StR K F fps σ H st) (s1 : Same H H1) (n : fp.Nodup) (fr : ∀ a ∈ fp, H a = none) (lst : ∀ a ∈ fp, ∃ o, H1 a = some o ∧ MutO o) :
    ∃ m, fps m = [] ∧ StR K F (setF fps m fp) σ H1 st :=
  let ⟨m, _, h1, h2⟩ := r.temp' s1 n fr lst
  ⟨m, h1, h2⟩
/-- one value, then the others -/
theorem VR.seq {H1 : Hp} {kd : Kd} {d : D} {v : V} (r : StR K F fps σ H st) (s1 : Same H H1) (h : VR K fps H H1 kd d v) :
    ∃ fps', StR K F fps' σ H1 st ∧ ∀ (H2 : Hp) (ds : List D) (vs : List V), Same H1 H2 → VRL K fps' H1 H2 kd ds vs → VRL K fps H H2 kd (d :: ds) (v :: vs) := by
  cases kd with
  | rd => exact ⟨fps, r.mono s1, fun H2 ds vs s2 t => ⟨v, vs, rfl, Rep.mono s2 d v h, t⟩⟩
  | ow k =>
    obtain ⟨fp, n, fr, q⟩ := h
    have lst1 := Own.isLst d k v fp q
    obtain ⟨m, hm, r1⟩ := r.temp s1 n fr lst1
    refine ⟨_, r1, fun H2 ds vs s2 t => ?_⟩
    obtain ⟨fq, n2, fr2, q2⟩ := t
    have dis : ∀ a, a ∈ fp → a ∈ fq → False := fun a m m2 => by
      obtain ⟨_, e, _⟩ := lst1 a m
      rw [fr2 a m2] at e; cases e
    refine ⟨fp ++ fq, List.nodup_append.mpr ⟨n, n2, fun a m b m2 e => dis a m (e ▸ m2)⟩, fun a m => ?_, v, vs, fp, fq, rfl, rfl, ?_, ?_⟩
    · rcases List.mem_append.mp m with m | m
      · exact fr a m
      · exact s1.free (fr2 a m)
    · refine Own.mono (hideP_mono s2 fun a o e h z => ?_) d k v fp (fun a m => ?_) q
      · rcases z with m | z
        · rcases List.mem_append.mp m with m | m
          · exact h (.inl m)
          · rw [fr2 a m] at e; cases e
        · exact h (.inr z)
      · obtain ⟨_, e, _⟩ := lst1 a m
        rw [e]; exact s2 _ _ e
    · refine OwnL.mono (fun a o e => ?_) ds k vs fq (fun _ _ => rfl) q2
      obtain ⟨h1, h2⟩ := hideP_some.mp e
      refine hideP_some.mpr ⟨fun z => h1 ?_, h2⟩
      rcases z with m' | z
      · rcases List.mem_append.mp m' with m' | m'
        · exact .inr (own_setF' hm (.inl m'))
        · exact .inl m'
      · exact .inr (own_setF' hm (.inr z))
/-- a new value at a slot -/
theorem StR.set {H1 : Hp} {k : Nat} {d : D} {v : V} {fp : List Addr} {i : Nat} (r : StR K F fps σ H st) (s1 : Same H H1) (hi : i < st.length)
    (n : fp.Nodup) (fr : ∀ a ∈ fp, H a = none) (q : Own K H1 (hideP H1 (own2 fps fp)) d k v fp) : StR K F (setF fps i fp) (σ.set i (some v)) H1 (st.set i (.va k d)) := by
  have hide : Same (hideP H (own fps)) (hideP H1 (own (setF fps i fp))) := hideP_mono s1 fun a o e h z => by
    rcases own_setF z with z | z
    · rw [fr a z] at e; cases e
    · exact h z
  have hide2 : Same (hideP H1 (own2 fps fp)) (hideP H1 (own (setF fps i fp))) := hideP_mono (Same.refl _) fun a o e h z => h (own_setF z)
  refine ⟨r.fr.trans hide, fun j => ?_, fun j j' a m1 m2 => ?_, by rw [List.length_set, List.length_set]; exact r.len, fun j sl e => ?_, fun j a h m => ?_, ?_⟩
  · by_cases e : j = i
    · rw [e, setF_same]; exact n
    · rw [setF_ne e]; exact r.nd j
  · by_cases e1 : j = i <;> by_cases e2 : j' = i
    · rw [e1, e2]
    · rw [e1, setF_same] at m1; rw [setF_ne e2] at m2
      exact absurd (fr a m1) (r.there ⟨j', m2⟩)
    · rw [setF_ne e1] at m1; rw [e2, setF_same] at m2
      exact absurd (fr a m2) (r.there ⟨j, m1⟩)
    · rw [setF_ne e1] at m1; rw [setF_ne e2] at m2
      exact r.dj j j' a m1 m2
  · by_cases e1 : j = i
    · subst e1
      rw [List.getElem?_set_self hi] at e
      cases e
      rw [setF_same]
      refine ⟨v, ?_, Own.mono hide2 d k v fp (fun _ _ => rfl) q⟩
      rw [List.getElem?_set_self (by rw [r.len]; exact hi)]
    · rw [List.getElem?_set_ne (Ne.symm e1)] at e
      rw [setF_ne e1, List.getElem?_set_ne (Ne.symm e1)]
      exact (r.ok j sl e).mono hide fun a m => by
        obtain ⟨_, q, mq⟩ := r.isLst ⟨j, m⟩
        rw [q]; exact s1 _ _ q
  · rw [List.length_set] at h
    rw [setF_ne (by omega)] at m
    obtain ⟨_, q, mq⟩ := r.tmp j a h m
    exact ⟨_, s1 _ _ q, mq⟩
  · obtain ⟨m, hm⟩ := r.fin
    refine ⟨max m (i + 1), fun j h => ?_⟩
    rw [setF_ne (by have := Nat.le_max_right m (i + 1); omega)]
    exact hm j (by have := Nat.le_max_left m (i + 1); omega)
/-- a slot forgotten -/
theorem StR.unset {i : Nat} (r : StR K F fps σ H st) : StR K F (setF fps i []) σ H (st.set i .un) := by
  have hide : Same (hideP H (own fps)) (hideP H (own (setF fps i []))) := hideP_mono (Same.refl _) fun a o e h z => by
    rcases own_setF z with z | z
    · cases z
    · exact h z
  refine ⟨r.fr.trans hide, fun j => ?_, fun j j' a m1 m2 => ?_, by rw [List.length_set]; exact r.len, fun j sl e => ?_, fun j a h m => ?_, ?_⟩
  · by_cases e : j = i
    · rw [e, setF_same]; exact List.nodup_nil
    · rw [setF_ne e]; exact r.nd j
  · by_cases e1 : j = i <;> by_cases e2 : j' = i
    · rw [e1, e2]
    · rw [e1, setF_same] at m1; cases m1
    · rw [e2, setF_same] at m2; cases m2
    · rw [setF_ne e1] at m1; rw [setF_ne e2] at m2
      exact r.dj j j' a m1 m2
  · by_cases e1 : j = i
    · subst e1
      rw [setF_same]
      by_cases hi : j < st.length
      · rw [List.getElem?_set_self hi] at e
        cases e
        exact rfl
      · rw [List.getElem?_eq_none (by rw [List.length_set]; omega)] at e; cases e
    · rw [List.getElem?_set_ne (Ne.symm e1)] at e
      rw [setF_ne e1]
      exact (r.ok j sl e).mono hide fun a m => rfl
  · rw [List.length_set] at h
    by_cases e1 : j = i
    · rw [e1, setF_same] at m; cases m
    · rw [setF_ne e1] at m
      exact r.tmp j a h m
  · obtain ⟨m, hm⟩ := r.fin
    refine ⟨max m (i + 1), fun j h => ?_⟩
    rw [setF_ne (by have := Nat.le_max_right m (i + 1); omega)]
    exact hm j (by have := Nat.le_max_left m (i + 1); omega)
/-- what a slot holds -/
theorem StR.va {i k : Nat} {d : D} (r : StR K F fps σ H st) (e : st[i]? = some (.va k d)) : ∃ v, σ[i]? = some (some v) ∧ Own K H (hideP H (own fps)) d k v (fps i) := r.ok i _ e
theorem StR.io {i k : Nat} {d : D} (r : StR K F fps σ H st) (e : st[i]? = some (.io k d)) : σ[i]? = some (some (F.pin i)) ∧ Own K H (hideP H (own fps)) d k (F.pin i) (fps i) := r.ok i _ e
end
end FL

namespace FL
open PySem PySem.Spec PyProof.Rows L2

abbrev EM := Sl → Option D
abbrev TM := Sl → Option Bool
abbrev AM := Sl → Option (List D)

theorem PE.weak {X : Cx} {e : Expr} {t t' : TE} (h : PE X e t) (hw : ∀ σ H Q, t' σ H Q → t σ H Q) : PE X e t' := ⟨fun pins s σ H Q I q => h.run pins s σ H Q I (hw σ H Q q)⟩
theorem PT.weak {X : Cx} {e : Expr} {t t' : TT} (h : PT X e t) (hw : ∀ σ H Q, t' σ H Q → t σ H Q) : PT X e t' := ⟨fun pins s σ H Q I q => h.run pins s σ H Q I (hw σ H Q q)⟩
theorem PW.weak {X : Cx} {e : Expr} {t t' : TT} (h : PW X e t) (hw : ∀ σ H Q, t' σ H Q → t σ H Q) : PW X e t' := ⟨fun wh pins s σ H Q I q => h.run wh pins s σ H Q I (hw σ H Q q)⟩
theorem PA.weak {X : Cx} {e : List Expr} {t t' : TA} (h : PA X e t) (hw : ∀ σ H Q, t' σ H Q → t σ H Q) : PA X e t' := ⟨fun pos pins s σ H Q I q => h.run pos pins s σ H Q I (hw σ H Q q)⟩

def tF (K : PySem.W.Frag) (kd : Kd) (f : EM) : TE := fun σ H Q => ∃ F fps st d, StR K F fps σ H st ∧ f st = some d ∧ ∀ v H', Same H H' → VR K fps H H' kd d v → Q v H'
def tFT (K : PySem.W.Frag) (f : TM) : TT := fun σ H Q => ∃ F fps st b, StR K F fps σ H st ∧ f st = some b ∧ ∀ H', Same H H' → Q b H'
def tFA (K : PySem.W.Frag) (kd : Kd) (f : AM) : TA := fun σ H Q => ∃ F fps st ds, StR K F fps σ H st ∧ f st = some ds ∧ ∀ vs H', Same H H' → VRL K fps H H' kd ds vs → Q vs H'
abbrev FE (X : Cx) (kd : Kd) (e : Expr) (f : EM) : Prop := PE X e (tF X.K kd f)
abbrev FT (X : Cx) (e : Expr) (f : TM) : Prop := PT X e (tFT X.K f)
abbrev FW (X : Cx) (e : Expr) (f : TM) : Prop := PW X e (tFT X.K f)
abbrev FA (X : Cx) (kd : Kd) (es : List Expr) (f : AM) : Prop := PA X es (tFA X.K kd f)

section
variable {X : Cx} {kd kd1 kd2 : Kd} {e a b c : Expr} {es : List Expr} {f g h : EM} {pos : Pos} {K : PySem.W.Frag}

/-! ### kinds -/
theorem fe_rd (he : FE X kd e f) : FE X .rd e f := PE.weak he fun σ H Q ⟨F, fps, st, d, r, ed, q⟩ => ⟨F, fps, st, d, r, ed, fun v H' s w => q v H' s w.rd⟩
def chk (k : Nat) (d : D) : Option D := if full d k = true then some d else none
def eFl (f : EM) : EM := fun st => (f st).bind (chk 0)
theorem chk_some {k : Nat} {o : Option D} {d : D} (h : o.bind (chk k) = some d) : o = some d ∧ full d k = true := by
  cases o with
  | none => cases h
  | some x =>
    have h' : (if full x k = true then some x else none) = some d := h
    split at h'
    · cases h'; exact ⟨rfl, by assumption⟩
    · cases h'
theorem fe_fl (he : FE X kd1 e f) : FE X kd e (eFl f) := PE.weak he fun σ H Q ⟨F, fps, st, d, r, ed, q⟩ => by
  obtain ⟨e1, e2⟩ := chk_some ed
  exact ⟨F, fps, st, d, r, e1, fun v H' s w => q v H' s ((r.mono s).mono (Same.refl _) |> fun r' => VR.fl r' e2 w.rd)⟩
theorem VR.ow0 {fps : Fps} {H H' : Hp} {d : D} {v : V} (h : VR K fps H H' (.ow 0) d v) : Rep K (hideP H' (own fps)) d v := by
  obtain ⟨fp, n, fr, q⟩ := h
  obtain ⟨e, q⟩ := Own.zero d v fp q
  subst e
  exact Rep.mono (hideP_mono (Same.refl _) fun a o _ h z => h (.inr z)) d v q
theorem VR.mk0 {fps : Fps} {H H' : Hp} {d : D} {v : V} (h : Rep K (hideP H' (own fps)) d v) : VR K fps H H' (.ow 0) d v :=
  ⟨[], List.nodup_nil, fun a m => (by cases m), Own.shared d v (Rep.mono (hideP_mono (Same.refl _) fun a o _ h z => h (z.resolve_left (fun m => by cases m))) d v h)⟩
theorem fe_fz {k : Nat} (he : FE X (.ow k) e f) : FE X (.ow 0) e f := PE.weak he fun σ H Q ⟨F, fps, st, d, r, ed, q⟩ => ⟨F, fps, st, d, r, ed, fun v H' s w => q v H' s (by
  obtain ⟨fp, n, fr, w⟩ := w
  refine VR.mk0 (Own.rep (hideP_mono (Same.refl _) fun a o _ h z => h (.inr z)) d k v fp (fun a m => hideP_not fun z => ?_) w)
  exact r.there z (fr a m))⟩

/-! ### names and constants -/
def eVar (i : Nat) : EM := fun st => match st[i]? with
  | some (.va _ d) => some d
  | some (.io _ d) => some d
  | _ => none
def eVarS (i : Nat) : EM := fun st => match st[i]? with
  | some (.va 0 d) => some d
  | some (.va (_ + 1) d) => chk 0 d
  | some (.io _ d) => chk 0 d
  | _ => none
theorem StR.look {F : Fr} {fps : Fps} {σ : L2.St} {H : Hp} {st : Sl} {i : Nat} {d : D} (r : StR K F fps σ H st) (e : eVar i st = some d) : ∃ v k, σ[i]? = some (some v) ∧ Own K H (hideP H (own fps)) d k v (fps i) := by
  unfold eVar at e
  split at e
  · cases e
    obtain ⟨v, h1, h2⟩ := r.va (by assumption)
    exact ⟨v, _, h1, h2⟩
  · cases e
    obtain ⟨h1, h2⟩ := r.io (by assumption)
    exact ⟨_, _, h1, h2⟩
  · cases e
theorem fe_var {i : Nat} (he : PE X e (tVar i)) : FE X .rd e (eVar i) := PE.weak he fun σ H Q ⟨F, fps, st, d, r, ed, q⟩ => by
  obtain ⟨v, k, e1, o⟩ := r.look ed
  exact ⟨v, e1, q v H (Same.refl H) (Own.rep hideP_same d k v _ (fun _ _ => rfl) o)⟩
theorem fe_varS {i : Nat} (he : PE X e (tVar i)) : FE X (.ow 0) e (eVarS i) := PE.weak he fun σ H Q ⟨F, fps, st, d, r, ed, q⟩ => by
  unfold eVarS at ed
  split at ed
  · rename_i hs
    cases ed
    obtain ⟨v, e1, o⟩ := r.va hs
    exact ⟨v, e1, q v H (Same.refl H) (VR.mk0 (Own.zero d v _ o).2)⟩
  · rename_i k d' hs
    obtain ⟨h1, h2⟩ := chk_some (o := some d') ed
    cases h1
    obtain ⟨v, e1, o⟩ := r.va hs
    exact ⟨v, e1, q v H (Same.refl H) (VR.fl r h2 (Own.rep hideP_same d _ v _ (fun _ _ => rfl) o))⟩
  · rename_i k d' hs
    obtain ⟨h1, h2⟩ := chk_some (o := some d') ed
    cases h1
    obtain ⟨e1, o⟩ := r.io hs
    exact ⟨_, e1, q _ H (Same.refl H) (VR.fl r h2 (Own.rep hideP_same d _ _ _ (fun _ _ => rfl) o))⟩
  · cases ed
def eC (d : D) : EM := fun _ => some d
theorem fe_c {d : D} (hd : sc d = true) (he : PE X e (tC (scV d))) : FE X kd e (eC d) := PE.weak he fun σ H Q ⟨F, fps, st, d', r, ed, q⟩ => by
  cases ed
  exact q _ H (Same.refl H) (VR.sc hd rfl)
theorem fe_int {i j pos} : FE X kd (.Constant (.int i) j pos) (eC (.int i)) := fe_c rfl pe_int
theorem fe_bl {b j pos} : FE X kd (.Constant (.bool b) j pos) (eC (.bl b)) := fe_c rfl pe_bl
theorem fe_non {j pos} : FE X kd (.Constant .none j pos) (eC .non) := fe_c rfl pe_non
theorem fe_str {x j pos} : FE X kd (.Constant (.str x) j pos) (eC (.str x)) := fe_c rfl pe_str

/-! ### operators whose answer is a scalar -/
def eBin (m : D → D → Option D) (f g : EM) : EM := fun st => (f st).bind fun x => (g st).bind fun y => m x y
theorem bind2 {α β γ : Type} {o : Option α} {p : Option β} {m : α → β → Option γ} {d : γ} (h : (o.bind fun x => p.bind fun y => m x y) = some d) : ∃ x y, o = some x ∧ p = some y ∧ m x y = some d := by
  cases o with
  | none => cases h
  | some x =>
    cases p with
    | none => cases h
    | some y => exact ⟨x, y, rfl, rfl, h⟩
/-- a rule on two values, a scalar comes -/
def ScR (K : PySem.W.Frag) (m : D → D → Option D) (r : R2) : Prop := ∀ (x y : V) (H : Hp) (Q : VK) (dx dy d : D), Rep K H dx x → Rep K H dy y → m dx dy = some d → sc d = true ∧ (Q (scV d) H → r x y H Q)
theorem tF_bin {m : D → D → Option D} {r : R2} (hr : ScR K m r) {σ : L2.St} {H : Hp} {Q : VK} (h : tF K kd (eBin m f g) σ H Q) : tOp r (tF K .rd f) (tF K .rd g) σ H Q := by
  obtain ⟨F, fps, st, d, rr, ed, q⟩ := h
  obtain ⟨x, y, e1, e2, e3⟩ := bind2 ed
  refine ⟨F, fps, st, x, rr, e1, fun v H1 s1 w1 => ⟨F, fps, st, y, rr.mono s1, e2, fun u H2 s2 w2 => ?_⟩⟩
  obtain ⟨h1, h2⟩ := hr v u H2 Q x y d (Rep.mono s2 x v w1) w2 e3
  exact h2 (q _ H2 (s1.trans s2) (VR.sc h1 rfl))
theorem fe_bin {op : Operator} {m : D → D → Option D} {r : R2} (ho : OpR X (binaryOp op) r) (hr : ScR X.K m r) (ha : FE X .rd a f) (hb : FE X .rd b g) : FE X kd (.BinOp a op b pos) (eBin m f g) :=
  PE.weak (pe_op ho ha hb) fun _ _ _ => tF_bin hr
theorem fe_cmpB {op : CmpOp} {m : D → D → Option D} {r : R2} (ho : OpR X (compareOp op) r) (hr : ScR X.K m r) (hm : behindInMarks op b = false) (ha : FE X .rd a f) (hb : FE X .rd b g) : FE X kd (.Compare a [op] [b] pos) (eBin m f g) :=
  PE.weak (pe_cmpR ho ha hb hm) fun _ _ _ => tF_bin hr
def qVal (f : EM) : TM := fun st => match f st with
  | some (.bl b) => some b
  | _ => none
theorem tVal_some {f : EM} {st : Sl} {b : Bool} (h : qVal f st = some b) : f st = some (.bl b) := by
  unfold qVal at h
  split at h
  · cases h; assumption
  · cases h
theorem tFT_of {t : TE} (ht : ∀ σ H Q, tF K .rd f σ H Q → t σ H Q) {σ : L2.St} {H : Hp} {Q : Bool → Hp → Prop} (h : tFT K (qVal f) σ H Q) : t σ H fun x H' => ∃ k, x = .bl k ∧ Q k H' := by
  obtain ⟨F, fps, st, d, rr, ed, q⟩ := h
  exact ht σ H _ ⟨F, fps, st, .bl d, rr, tVal_some ed, fun v H' s w => ⟨d, w, q H' s⟩⟩
theorem ft_cmpB {op : CmpOp} {m : D → D → Option D} {r : R2} (ho : OpR X (compareOp op) r) (hr : ScR X.K m r) (hm : behindInMarks op b = false) (ha : FE X .rd a f) (hb : FE X .rd b g) : FT X (.Compare a [op] [b] pos) (qVal (eBin m f g)) :=
  PT.weak (pt_cmpR ho ha hb hm) fun _ _ _ h => tFT_of (fun _ _ _ => tF_bin hr) h
theorem ft_val (he : FE X .rd e f) (hw : ∀ whole, isTrue e X.env whole = (do let v ← whole; standAt e.pos; holding [v] (truthy v)) := by intro _; rfl) : FT X e (qVal f) :=
  PT.weak (pt_val he hw) fun _ _ _ h => tFT_of (fun _ _ _ q => q) h

/-- two ints -/
def mI (c : Int → Int → Bool) (g : Int → Int → D) : D → D → Option D
  | .int i, .int j => if c i j = true then some (g i j) else none
  | _, _ => none
theorem mI_some {c : Int → Int → Bool} {g : Int → Int → D} {x y d : D} (h : mI c g x y = some d) : ∃ i j, x = .int i ∧ y = .int j ∧ c i j = true ∧ d = g i j := by
  unfold mI at h
  split at h
  · split at h
    · cases h; exact ⟨_, _, rfl, rfl, by assumption, rfl⟩
    · cases h
  · cases h
theorem scr_int0 {c : Int → Int → Bool} {g : Int → Int → D} {gv : Int → Int → V} (hs : ∀ i j, sc (g i j) = true ∧ scV (g i j) = gv i j) : ScR K (mI c g) (rI0 gv) := fun x y H Q dx dy d rx ry e => by
  obtain ⟨i, j, rfl, rfl, _, rfl⟩ := mI_some e
  refine ⟨(hs i j).1, fun q => ⟨i, j, rx, ry, ?_⟩⟩
  rw [← (hs i j).2]; exact q
theorem scr_int {C : Int → Int → Prop} {c : Int → Int → Bool} {g : Int → Int → D} {gv : Int → Int → V} (hc : ∀ i j, c i j = true → C i j) (hs : ∀ i j, sc (g i j) = true ∧ scV (g i j) = gv i j) : ScR K (mI c g) (rI C gv) := fun x y H Q dx dy d rx ry e => by
  obtain ⟨i, j, rfl, rfl, h, rfl⟩ := mI_some e
  refine ⟨(hs i j).1, fun q => ⟨i, j, rx, ry, hc i j h, ?_⟩⟩
  rw [← (hs i j).2]; exact q
def c0 (_ _ : Int) : Bool := true
def mulOk (i j : Int) : Bool := (decide (-(2 ^ 64) < i) && decide (i < 2 ^ 64)) || (decide (-(2 ^ 64) < j) && decide (j < 2 ^ 64))
def divOk (_ j : Int) : Bool := decide (0 < j) && decide (j.natAbs.log2 < 9000)
def modOk (_ j : Int) : Bool := decide (0 < j)
def powOk (i j : Int) : Bool := decide (0 ≤ j) && decide (j ≤ 1000000) && decide (i.natAbs < 2 ^ 64)
def mSub := mI c0 fun i j => .int (i - j)
def mMul := mI mulOk fun i j => .int (i * j)
def mDiv := mI divOk fun i j => .int (i / j)
def mMod := mI modOk fun i j => .int (i % j)
def mPow := mI powOk fun i j => .int (i ^ j.toNat)
def mXor := mI c0 fun i j => .int (Builtin.bitXor i j)
def mLt := mI c0 fun i j => .bl (decide (i < j))
def mLe := mI c0 fun i j => .bl (decide (i ≤ j))
def mGt := mI c0 fun i j => .bl (decide (j < i))
def mGe := mI c0 fun i j => .bl (decide (j ≤ i))
def mAddI := mI c0 fun i j => .int (i + j)
theorem fe_addI (ha : FE X .rd a f) (hb : FE X .rd b g) : FE X kd (.BinOp a .Add b pos) (eBin mAddI f g) := fe_bin op_add (scr_int0 fun _ _ => ⟨rfl, rfl⟩) ha hb
theorem fe_sub (ha : FE X .rd a f) (hb : FE X .rd b g) : FE X kd (.BinOp a .Sub b pos) (eBin mSub f g) := fe_bin op_sub (scr_int0 fun _ _ => ⟨rfl, rfl⟩) ha hb
theorem mulOk_ok (i j : Int) (h : mulOk i j = true) : CMul i j := by
  unfold mulOk at h
  simp only [Bool.or_eq_true, Bool.and_eq_true, decide_eq_true_eq] at h
  exact h
theorem fe_mul (ha : FE X .rd a f) (hb : FE X .rd b g) : FE X kd (.BinOp a .Mult b pos) (eBin mMul f g) := fe_bin op_mul (scr_int mulOk_ok fun _ _ => ⟨rfl, rfl⟩) ha hb
theorem fe_div (ha : FE X .rd a f) (hb : FE X .rd b g) : FE X kd (.BinOp a .FloorDiv b pos) (eBin mDiv f g) := fe_bin op_fdivW (scr_int (C := CDivW) (fun i j h => by
  unfold divOk at h
  simp only [Bool.and_eq_true, decide_eq_true_eq] at h
  exact h) fun _ _ => ⟨rfl, rfl⟩) ha hb
theorem fe_mod (ha : FE X .rd a f) (hb : FE X .rd b g) : FE X kd (.BinOp a .Mod b pos) (eBin mMod f g) := fe_bin op_mod (scr_int (fun i j h => of_decide_eq_true h) fun _ _ => ⟨rfl, rfl⟩) ha hb
theorem fe_pow (ha : FE X .rd a f) (hb : FE X .rd b g) : FE X kd (.BinOp a .Pow b pos) (eBin mPow f g) := fe_bin op_pow (scr_int (C := CPow) (fun i j h => by
  unfold powOk at h
  simp only [Bool.and_eq_true, decide_eq_true_eq] at h
  exact ⟨h.1.1, h.1.2, h.2⟩) fun _ _ => ⟨rfl, rfl⟩) ha hb
theorem fe_xor (ha : FE X .rd a f) (hb : FE X .rd b g) : FE X kd (.BinOp a .BitXor b pos) (eBin mXor f g) := fe_bin op_xor (scr_int0 fun _ _ => ⟨rfl, rfl⟩) ha hb
theorem fe_lt (ha : FE X .rd a f) (hb : FE X .rd b g) : FE X kd (.Compare a [.Lt] [b] pos) (eBin mLt f g) := fe_cmpB op_lt (scr_int0 fun _ _ => ⟨rfl, rfl⟩) (nomark _) ha hb
theorem fe_le (ha : FE X .rd a f) (hb : FE X .rd b g) : FE X kd (.Compare a [.LtE] [b] pos) (eBin mLe f g) := fe_cmpB op_le (scr_int0 fun _ _ => ⟨rfl, rfl⟩) (nomark _) ha hb
theorem fe_gt (ha : FE X .rd a f) (hb : FE X .rd b g) : FE X kd (.Compare a [.Gt] [b] pos) (eBin mGt f g) := fe_cmpB op_gt (scr_int0 fun _ _ => ⟨rfl, rfl⟩) (nomark _) ha hb
theorem fe_ge (ha : FE X .rd a f) (hb : FE X .rd b g) : FE X kd (.Compare a [.GtE] [b] pos) (eBin mGe f g) := fe_cmpB op_ge (scr_int0 fun _ _ => ⟨rfl, rfl⟩) (nomark _) ha hb
theorem ft_lt (ha : FE X .rd a f) (hb : FE X .rd b g) : FT X (.Compare a [.Lt] [b] pos) (qVal (eBin mLt f g)) := ft_cmpB op_lt (scr_int0 fun _ _ => ⟨rfl, rfl⟩) (nomark _) ha hb
theorem ft_le (ha : FE X .rd a f) (hb : FE X .rd b g) : FT X (.Compare a [.LtE] [b] pos) (qVal (eBin mLe f g)) := ft_cmpB op_le (scr_int0 fun _ _ => ⟨rfl, rfl⟩) (nomark _) ha hb
theorem ft_gt (ha : FE X .rd a f) (hb : FE X .rd b g) : FT X (.Compare a [.Gt] [b] pos) (qVal (eBin mGt f g)) := ft_cmpB op_gt (scr_int0 fun _ _ => ⟨rfl, rfl⟩) (nomark _) ha hb
theorem ft_ge (ha : FE X .rd a f) (hb : FE X .rd b g) : FT X (.Compare a [.GtE] [b] pos) (qVal (eBin mGe f g)) := ft_cmpB op_ge (scr_int0 fun _ _ => ⟨rfl, rfl⟩) (nomark _) ha hb

/-! ### == and != of data -/
mutual
def toPy : D → PyData
  | .non => .none
  | .bl b => .bool b
  | .int i => .int i
  | .str x => .str x
  | .tup ds => .tuple (toPyL ds)
  | .lst ds => .list (toPyL ds)
  | .scr ns => .list (ns.map PyData.int)
  | .ob _ _ _ => .dict []
  | .dct _ _ => .dict []
  | .mob _ _ _ _ => .dict []
  | .hol _ => .dict []
  | .exc _ _ _ => .dict []
def toPyL : List D → List PyData
  | [] => []
  | d :: ds => toPy d :: toPyL ds
end
mutual
theorem toPy_dp {H : Hp} : ∀ (d : D) (v : V), (toPy d).canLay0 = true → Rep K H d v → Dp K H v (toPy d)
  | .non, v, _, h => by rw [show v = .non from h]; exact .non
  | .bl b, v, _, h => by rw [show v = .bl b from h]; exact .bl b
  | .int i, v, _, h => by rw [show v = .int i from h]; exact .int i
  | .str x, v, _, h => by rw [show v = .str x from h]; exact .str x
  | .tup ds, v, c, ⟨a, xs, e, q, r⟩ => by subst e; exact .tup q (toPyL_dp ds xs c r)
  | .lst ds, v, c, ⟨a, xs, e, q, r⟩ => by subst e; exact .lst (.inl (.inl q)) (toPyL_dp ds xs c r)
  | .scr ns, v, c, ⟨a, e, q⟩ => by
    subst e
    refine .lst q.sq ?_
    clear q c
    induction ns with
    | nil => exact .nil
    | cons n ns ih => exact .cons (.int n) ih
  | .ob _ _ _, v, c, h => by cases c
  | .dct _ _, v, c, h => by cases c
  | .mob _ _ _ _, v, c, h => by cases c
  | .hol _, v, c, h => by cases c
  | .exc _ _ _, v, c, h => by cases c
theorem toPyL_dp {H : Hp} : ∀ (ds : List D) (vs : List V), PyData.canLayAll0 (toPyL ds) = true → RepL K H ds vs → DpAll K H vs (toPyL ds)
  | [], vs, _, h => by rw [show vs = [] from h]; exact .nil
  | d :: ds, vs, c, ⟨v, r, e, h1, h2⟩ => by
    subst e
    have c' : ((toPy d).canLay0 && PyData.canLayAll0 (toPyL ds)) = true := c
    have c2 := Bool.and_eq_true_iff.mp c'
    exact .cons (toPy_dp d v c2.1 h1) (toPyL_dp ds r c2.2 h2)
end
def shp (d : D) : Bool := SeqAt.shaped (toPy d)
def deq (x y : D) : Bool := PyData.eqv (toPy x) (toPy y)
def mEq (x y : D) : Option D := if (shp x && shp y) = true then some (.bl (deq x y)) else none
def mNe (x y : D) : Option D := if (shp x && shp y) = true then some (.bl (!deq x y)) else none
theorem scr_eq : ScR K mEq (rEqD K) := fun x y H Q dx dy d rx ry e => by
  unfold mEq at e
  split at e
  · rename_i hs
    have hs := Bool.and_eq_true_iff.mp hs
    cases e
    exact ⟨rfl, fun q => ⟨toPy dx, toPy dy, toPy_dp dx x (SeqAt.canLay_of_shaped hs.1) rx, toPy_dp dy y (SeqAt.canLay_of_shaped hs.2) ry, hs.1, hs.2, q⟩⟩
  · cases e
theorem scr_ne : ScR K mNe (rNeD K) := fun x y H Q dx dy d rx ry e => by
  unfold mNe at e
  split at e
  · rename_i hs
    have hs := Bool.and_eq_true_iff.mp hs
    cases e
    exact ⟨rfl, fun q => ⟨toPy dx, toPy dy, toPy_dp dx x (SeqAt.canLay_of_shaped hs.1) rx, toPy_dp dy y (SeqAt.canLay_of_shaped hs.2) ry, hs.1, hs.2, q⟩⟩
  · cases e
theorem fe_eq (hu : X.A.units + 64 < cLine) (ha : FE X .rd a f) (hb : FE X .rd b g) : FE X kd (.Compare a [.Eq] [b] pos) (eBin mEq f g) := fe_cmpB (op_eqD hu) scr_eq (nomark _) ha hb
theorem fe_ne (hu : X.A.units + 64 < cLine) (ha : FE X .rd a f) (hb : FE X .rd b g) : FE X kd (.Compare a [.NotEq] [b] pos) (eBin mNe f g) := fe_cmpB (op_neD hu) scr_ne (nomark _) ha hb
theorem ft_eq (hu : X.A.units + 64 < cLine) (ha : FE X .rd a f) (hb : FE X .rd b g) : FT X (.Compare a [.Eq] [b] pos) (qVal (eBin mEq f g)) := ft_cmpB (op_eqD hu) scr_eq (nomark _) ha hb
theorem ft_ne (hu : X.A.units + 64 < cLine) (ha : FE X .rd a f) (hb : FE X .rd b g) : FT X (.Compare a [.NotEq] [b] pos) (qVal (eBin mNe f g)) := ft_cmpB (op_neD hu) scr_ne (nomark _) ha hb
/-- is None -/
def isN : D → Bool
  | .non => true
  | _ => false
def mIsN (x y : D) : Option D := match y with
  | .non => some (.bl (isN x))
  | _ => none
def mNotN (x y : D) : Option D := match y with
  | .non => some (.bl (!isN x))
  | _ => none
theorem isN_rep {H : Hp} {d : D} {v : V} (h : Rep K H d v) : decide (v = .non) = isN d := by
  cases d with
  | non => rw [show v = .non from h]; rfl
  | bl b => rw [show v = .bl b from h]; rfl
  | int i => rw [show v = .int i from h]; rfl
  | str x => rw [show v = .str x from h]; rfl
  | tup ds => obtain ⟨a, xs, e, _⟩ := h; rw [e]; rfl
  | lst ds => obtain ⟨a, xs, e, _⟩ := h; rw [e]; rfl
  | scr ns => obtain ⟨a, e, _⟩ := h; rw [e]; rfl
  | ob C nm ds => obtain ⟨Ca, a, dx, xs, _, e, _⟩ := h; rw [e]; rfl
  | dct ks ds => obtain ⟨a, xs, e, _⟩ := h; rw [e]; rfl
  | mob C nm ls ds => obtain ⟨Ca, a, dx, xs, _, e, _⟩ := h; rw [e]; rfl
  | hol a => rw [show v = .ref a from h]; rfl
  | exc C nm ds => obtain ⟨Ca, a, dd, xs, _, e, _⟩ := h; rw [e]; rfl
theorem scr_isN : ScR K mIsN (fun x y H Q => y = .non ∧ Q (.bl (decide (x = .non))) H) := fun x y H Q dx dy d rx ry e => by
  unfold mIsN at e
  split at e
  · cases e
    exact ⟨rfl, fun q => ⟨ry, by rw [isN_rep rx]; exact q⟩⟩
  · cases e
theorem scr_notN : ScR K mNotN (fun x y H Q => y = .non ∧ Q (.bl (!decide (x = .non))) H) := fun x y H Q dx dy d rx ry e => by
  unfold mNotN at e
  split at e
  · cases e
    exact ⟨rfl, fun q => ⟨ry, by rw [isN_rep rx]; exact q⟩⟩
  · cases e
theorem fe_isN (ha : FE X .rd a f) (hb : FE X .rd b g) : FE X kd (.Compare a [.Is] [b] pos) (eBin mIsN f g) := fe_cmpB op_isN scr_isN (nomark _) ha hb
theorem fe_notN (ha : FE X .rd a f) (hb : FE X .rd b g) : FE X kd (.Compare a [.IsNot] [b] pos) (eBin mNotN f g) := fe_cmpB op_notN scr_notN (nomark _) ha hb
theorem ft_isN (ha : FE X .rd a f) (hb : FE X .rd b g) : FT X (.Compare a [.Is] [b] pos) (qVal (eBin mIsN f g)) := ft_cmpB op_isN scr_isN (nomark _) ha hb
theorem ft_notN (ha : FE X .rd a f) (hb : FE X .rd b g) : FT X (.Compare a [.IsNot] [b] pos) (qVal (eBin mNotN f g)) := ft_cmpB op_notN scr_notN (nomark _) ha hb

/-! ### -x, and, or, not -/
def eNeg (f : EM) : EM := fun st => (f st).bind fun x => match x with
  | .int i => some (.int (-i))
  | _ => none
theorem fe_neg (ha : FE X .rd a f) : FE X kd (.UnaryOp .USub a pos) (eNeg f) := PE.weak (pe_un un_neg ha) fun σ H Q ⟨F, fps, st, d, r, ed, q⟩ => by
  unfold eNeg at ed
  cases ef : f st with
  | none => rw [ef] at ed; cases ed
  | some x =>
    rw [ef] at ed
    cases x with
    | int i =>
      cases ed
      exact ⟨F, fps, st, .int i, r, ef, fun v H1 s1 w => ⟨i, w, q _ H1 s1 (VR.sc (d := .int (-i)) rfl rfl)⟩⟩
    | _ => cases ed
def eAnd (f g : EM) : EM := fun st => (f st).bind fun x => match x with
  | .bl true => g st
  | .bl false => some (.bl false)
  | _ => none
def eOr (f g : EM) : EM := fun st => (f st).bind fun x => match x with
  | .bl true => some (.bl true)
  | .bl false => g st
  | _ => none
def eNot (f : EM) : EM := fun st => (f st).bind fun x => match x with
  | .bl b => some (.bl (!b))
  | _ => none
theorem fe_one {op} (ha : FE X kd a f) : FE X kd (.BoolOp op [a] pos) f := pe_one ha
theorem fe_and {rest : List Expr} (ha : FE X .rd a f) (hb : FE X kd (.BoolOp .And (b :: rest) pos) g) : FE X kd (.BoolOp .And (a :: b :: rest) pos) (eAnd f g) := PE.weak (pe_and ha hb) fun σ H Q ⟨F, fps, st, d, r, ed, q⟩ => by
  unfold eAnd at ed
  cases ef : f st with
  | none => rw [ef] at ed; cases ed
  | some x =>
    rw [ef] at ed
    cases x with
    | bl c =>
      refine ⟨F, fps, st, .bl c, r, ef, fun v H1 s1 w => ⟨c, w, ?_⟩⟩
      cases c with
      | true => exact ⟨F, fps, st, d, r.mono s1, ed, fun u H2 s2 w2 => q u H2 (s1.trans s2) (w2.early s1)⟩
      | false => cases ed; exact q _ H1 s1 (VR.sc (d := .bl false) rfl rfl)
    | _ => cases ed
theorem fe_or {rest : List Expr} (ha : FE X .rd a f) (hb : FE X kd (.BoolOp .Or (b :: rest) pos) g) : FE X kd (.BoolOp .Or (a :: b :: rest) pos) (eOr f g) := PE.weak (pe_or ha hb) fun σ H Q ⟨F, fps, st, d, r, ed, q⟩ => by
  unfold eOr at ed
  cases ef : f st with
  | none => rw [ef] at ed; cases ed
  | some x =>
    rw [ef] at ed
    cases x with
    | bl c =>
      refine ⟨F, fps, st, .bl c, r, ef, fun v H1 s1 w => ⟨c, w, ?_⟩⟩
      cases c with
      | false => exact ⟨F, fps, st, d, r.mono s1, ed, fun u H2 s2 w2 => q u H2 (s1.trans s2) (w2.early s1)⟩
      | true => cases ed; exact q _ H1 s1 (VR.sc (d := .bl true) rfl rfl)
    | _ => cases ed
theorem fe_not (ha : FE X .rd a f) : FE X kd (.UnaryOp .Not a pos) (eNot f) := PE.weak (pe_not ha) fun σ H Q ⟨F, fps, st, d, r, ed, q⟩ => by
  unfold eNot at ed
  cases ef : f st with
  | none => rw [ef] at ed; cases ed
  | some x =>
    rw [ef] at ed
    cases x with
    | bl c =>
      cases ed
      exact ⟨F, fps, st, .bl c, r, ef, fun v H1 s1 w => ⟨c, w, q _ H1 s1 (VR.sc (d := .bl (!c)) rfl rfl)⟩⟩
    | _ => cases ed
def qAnd (f g : TM) : TM := fun st => (f st).bind fun x => if x = true then g st else some false
def qOr (f g : TM) : TM := fun st => (f st).bind fun x => if x = true then some true else g st
def qNot (f : TM) : TM := fun st => (f st).map (!·)
theorem fw_and1 {t : TM} (ha : FT X a t) : FW X (.BoolOp .And [a] pos) t := pw_and1 ha
theorem fw_or1 {t : TM} (ha : FT X a t) : FW X (.BoolOp .Or [a] pos) t := pw_or1 ha
theorem fw_and {t u : TM} {rest : List Expr} (ha : FT X a t) (hb : FW X (.BoolOp .And (b :: rest) pos) u) : FW X (.BoolOp .And (a :: b :: rest) pos) (qAnd t u) := PW.weak (pw_and ha hb) fun σ H Q ⟨F, fps, st, d, r, ed, q⟩ => by
  unfold qAnd at ed
  cases ef : t st with
  | none => rw [ef] at ed; cases ed
  | some x =>
    rw [ef] at ed
    refine ⟨F, fps, st, x, r, ef, fun H1 s1 => ?_⟩
    cases x with
    | true => exact ⟨F, fps, st, d, r.mono s1, ed, fun H2 s2 => q H2 (s1.trans s2)⟩
    | false => cases ed; exact q H1 s1
theorem fw_or {t u : TM} {rest : List Expr} (ha : FT X a t) (hb : FW X (.BoolOp .Or (b :: rest) pos) u) : FW X (.BoolOp .Or (a :: b :: rest) pos) (qOr t u) := PW.weak (pw_or ha hb) fun σ H Q ⟨F, fps, st, d, r, ed, q⟩ => by
  unfold qOr at ed
  cases ef : t st with
  | none => rw [ef] at ed; cases ed
  | some x =>
    rw [ef] at ed
    refine ⟨F, fps, st, x, r, ef, fun H1 s1 => ?_⟩
    cases x with
    | false => exact ⟨F, fps, st, d, r.mono s1, ed, fun H2 s2 => q H2 (s1.trans s2)⟩
    | true => cases ed; exact q H1 s1
theorem ft_not {t : TM} (ha : FT X a t) : FT X (.UnaryOp .Not a pos) (qNot t) := PT.weak (pt_not ha) fun σ H Q ⟨F, fps, st, d, r, ed, q⟩ => by
  unfold qNot at ed
  cases ef : t st with
  | none => rw [ef] at ed; cases ed
  | some x =>
    rw [ef] at ed
    cases ed
    exact ⟨F, fps, st, x, r, ef, fun H1 s1 => q H1 s1⟩
def eIf (c : TM) (f g : EM) : EM := fun st => (c st).bind fun x => if x = true then f st else g st
theorem fe_if {t : TM} (hc : FT X c t) (ha : FE X kd a f) (hb : FE X kd b g) : FE X kd (.IfExp c a b pos) (eIf t f g) := PE.weak (pe_ifExp hc ha hb) fun σ H Q ⟨F, fps, st, d, r, ed, q⟩ => by
  unfold eIf at ed
  cases ef : t st with
  | none => rw [ef] at ed; cases ed
  | some x =>
    rw [ef] at ed
    refine ⟨F, fps, st, x, r, ef, fun H1 s1 => ?_⟩
    cases x with
    | true => exact ⟨F, fps, st, d, r.mono s1, ed, fun u H2 s2 w2 => q u H2 (s1.trans s2) (w2.early s1)⟩
    | false => exact ⟨F, fps, st, d, r.mono s1, ed, fun u H2 s2 w2 => q u H2 (s1.trans s2) (w2.early s1)⟩
end
end FL

namespace FL
open PySem PySem.Spec PyProof.Rows L2

section
variable {X : Cx} {kd kd1 kd2 : Kd} {e a b c : Expr} {es : List Expr} {f g h : EM} {pos : Pos} {K : PySem.W.Frag}

/-! ### argument lists, displays -/
def aNil : AM := fun _ => some []
def aCons (f : EM) (g : AM) : AM := fun st => (f st).bind fun x => (g st).bind fun xs => some (x :: xs)
theorem fa_nil : FA X kd [] aNil := PA.weak pa_nil fun σ H Q ⟨F, fps, st, d, r, ed, q⟩ => by
  cases ed
  exact q [] H (Same.refl H) VRL.nil
theorem fa_cons {g : AM} (ha : FE X kd e f) (hr : FA X kd es g) (hs : starEach (e :: es) X.env = (false, eval e X.env) :: starEach es X.env := by rfl) : FA X kd (e :: es) (aCons f g) := PA.weak (pa_cons ha hr hs) fun σ H Q ⟨F, fps, st, d, r, ed, q⟩ => by
  unfold aCons at ed
  obtain ⟨x, xs, e1, e2, e3⟩ := bind2 ed
  cases e3
  refine ⟨F, fps, st, x, r, e1, fun v H1 s1 w1 => ?_⟩
  obtain ⟨fps', r', w'⟩ := VR.seq r s1 w1
  exact ⟨F, fps', st, xs, r', e2, fun vs H2 s2 w2 => q (v :: vs) H2 (s1.trans s2) (w' H2 xs vs s2 w2)⟩
def lenOk (n : Nat) : Bool := decide (n ≤ 16777216)
theorem lenOk_le {n : Nat} (h : lenOk n = true) : n ≤ sizeLine := by
  have h := of_decide_eq_true h
  rw [sizeLine_eq]; exact h
def eTup (f : AM) : EM := fun st => (f st).bind fun ds => if lenOk ds.length = true then some (.tup ds) else none
def eLst (f : AM) : EM := fun st => (f st).bind fun ds => if lenOk ds.length = true then some (.lst ds) else none
theorem len_bind {m : List D → D} {o : Option (List D)} {d : D} (h : (o.bind fun ds => if lenOk ds.length = true then some (m ds) else none) = some d) : ∃ ds, o = some ds ∧ lenOk ds.length = true ∧ d = m ds := by
  cases o with
  | none => cases h
  | some ds =>
    have h' : (if lenOk ds.length = true then some (m ds) else none) = some d := h
    split at h'
    · cases h'; exact ⟨ds, rfl, by assumption, rfl⟩
    · cases h'
theorem same_upd {H : Hp} {p : Addr} {o : HO} (h : H p = none) : Same H (upd H p o) := fun b x e => by
  rw [upd_ne (ne_of_none e h)]
  exact e
theorem VRL.length {fps : Fps} {H H' : Hp} {ds : List D} {vs : List V} (h : VRL K fps H H' kd ds vs) : vs.length = ds.length := h.rd.length
/-- a tuple laid of values -/
theorem VR.newT {F : Fr} {fps : Fps} {σ : L2.St} {st : Sl} {H H1 : Hp} {ds : List D} {vs : List V} {p : Addr} (r : StR K F fps σ H st) (s1 : Same H H1) (w : VRL K fps H H1 kd ds vs) (np : H1 p = none) : VR K fps H (upd H1 p (.tup vs)) kd (.tup ds) (.ref p) := by
  cases kd with
  | rd => exact ⟨p, vs, rfl, .inl (.inl upd_same), RepL.mono (same_upd np) ds vs w⟩
  | ow k =>
    obtain ⟨fp, n, fr, w⟩ := w
    have hp : ∀ a, own2 fps fp a → a ≠ p := fun a z e => by
      subst e
      rcases z with m | z
      · obtain ⟨o, e, _⟩ := OwnL.isLst ds k vs fp w _ m
        rw [np] at e; cases e
      · exact (r.mono s1).there z np
    refine ⟨fp, n, fr, p, vs, rfl, .inl (.inl (hideP_some.mpr ⟨fun z => hp p z rfl, upd_same⟩)), OwnL.mono (hideP_mono (same_upd np) fun _ _ _ h => h) ds k vs fp (fun a m => upd_ne (hp a (.inl m))) w⟩
theorem fe_tup {es : List Expr} {f : AM} {x1} (ha : FA X kd es f) : FE X kd (.Tuple es x1 pos) (eTup f) := PE.weak (pe_tup ha) fun σ H Q ⟨F, fps, st, d, r, ed, q⟩ => by
  obtain ⟨ds, e1, e2, rfl⟩ := len_bind ed
  refine ⟨F, fps, st, ds, r, e1, fun vs H1 s1 w => ⟨by rw [VRL.length w]; exact lenOk_le e2, fun p np => q _ _ (s1.trans (same_upd np)) (VR.newT r s1 w np)⟩⟩
def Kd.up : Kd → Kd
  | .rd => .rd
  | .ow k => .ow (k + 1)
/-- a list laid of values -/
theorem VR.newL {F : Fr} {fps : Fps} {σ : L2.St} {st : Sl} {H H1 : Hp} {ds : List D} {vs : List V} {p : Addr} (r : StR K F fps σ H st) (s1 : Same H H1) (w : VRL K fps H H1 kd ds vs) (np : H1 p = none) : VR K fps H (upd H1 p (.lst vs)) kd.up (.lst ds) (.ref p) := by
  cases kd with
  | rd => exact ⟨p, vs, rfl, upd_same, RepL.mono (same_upd np) ds vs w⟩
  | ow k =>
    obtain ⟨fp, n, fr, w⟩ := w
    have hp : ∀ a, own2 fps fp a → a ≠ p := fun a z e => by
      subst e
      rcases z with m | z
      · obtain ⟨o, e, _⟩ := OwnL.isLst ds k vs fp w _ m
        rw [np] at e; cases e
      · exact (r.mono s1).there z np
    refine ⟨p :: fp, List.nodup_cons.mpr ⟨fun m => hp p (.inl m) rfl, n⟩, fun a m => ?_, p, vs, fp, rfl, upd_same, rfl, OwnL.mono (hideP_mono (same_upd np) fun a o e h z => ?_) ds k vs fp (fun a m => upd_ne (hp a (.inl m))) w⟩
    · rcases List.mem_cons.mp m with rfl | m
      · exact s1.free np
      · exact fr a m
    · rcases z with m | z
      · rcases List.mem_cons.mp m with rfl | m
        · rw [np] at e; cases e
        · exact h (.inl m)
      · exact h (.inr z)
theorem fe_lst {es : List Expr} {f : AM} (ha : FA X kd es f) : FE X kd.up (.List es pos) (eLst f) := PE.weak (pe_lst ha) fun σ H Q ⟨F, fps, st, d, r, ed, q⟩ => by
  obtain ⟨ds, e1, e2, rfl⟩ := len_bind ed
  refine ⟨F, fps, st, ds, r, e1, fun vs H1 s1 w => ⟨by rw [VRL.length w]; exact lenOk_le e2, fun p np => q _ _ (s1.trans (same_upd np)) (VR.newL r s1 w np)⟩⟩

/-! ### indices -/
def mIx : D → D → Option D
  | .lst ds, .int i => L2.atI ds i
  | .tup ds, .int i => L2.atI ds i
  | .scr ns, .int i => (L2.atI ns i).map D.int
  | .str z, .int i => if lenOk z.length = true then (L2.atI z.cps.toList i).map fun c => .str ⟨#[c]⟩ else none
  | _, _ => none
theorem atI_rep {H : Hp} {ds : List D} {vs : List V} {i : Int} {d : D} (r : RepL K H ds vs) (h : L2.atI ds i = some d) : ∃ v, L2.atI vs i = some v ∧ Rep K H d v := by
  unfold L2.atI at h ⊢
  rw [r.length]
  cases e : L2.ixN ds.length i with
  | none => rw [e] at h; cases h
  | some j =>
    rw [e] at h
    exact r.get h
theorem atI_map {α β : Type} {m : α → β} {ns : List α} {i : Int} : L2.atI (ns.map m) i = (L2.atI ns i).map m := by
  unfold L2.atI
  rw [List.length_map]
  cases L2.ixN ns.length i with
  | none => rfl
  | some j => exact List.getElem?_map
/-- what a read gives, in any part of the heap in which the whole is read -/
theorem mIx_rep {F H : Hp} (sF : Same F H) {x y : D} {vx vy : V} {d : D} (rx : Rep K F x vx) (ry : Rep K H y vy) (e : mIx x y = some d) : ∃ v, Rep K F d v ∧ ∀ Q : VK, Q v H → rIx K vx vy H Q := by
  unfold mIx at e
  split at e
  · rename_i ds i
    obtain ⟨a, xs, e1, e2, e3⟩ := rx
    obtain ⟨v, h1, h2⟩ := atI_rep e3 e
    exact ⟨v, h2, fun Q q => .inl ⟨a, xs, i, v, e1, ry, .inl (.inl (sF _ _ e2)), h1, q⟩⟩
  · rename_i ds i
    obtain ⟨a, xs, e1, e2, e3⟩ := rx
    obtain ⟨v, h1, h2⟩ := atI_rep e3 e
    exact ⟨v, h2, fun Q q => .inr (.inl ⟨a, xs, i, v, e1, ry, Same.sqt sF e2, h1, q⟩)⟩
  · rename_i ns i
    obtain ⟨a, e1, e2⟩ := rx
    cases en : L2.atI ns i with
    | none => rw [en] at e; cases e
    | some n =>
      rw [en] at e; cases e
      exact ⟨.int n, rfl, fun Q q => .inl ⟨a, ns.map V.int, i, .int n, e1, ry, (sF.sqf e2).sq, by rw [atI_map, en]; rfl, q⟩⟩
  · rename_i z i
    split at e
    · rename_i hl
      cases ec : L2.atI z.cps.toList i with
      | none => rw [ec] at e; cases e
      | some c =>
        rw [ec] at e; cases e
        exact ⟨.str ⟨#[c]⟩, rfl, fun Q q => .inr (.inr ⟨z, i, c, rx, ry, lenOk_le hl, ec, q⟩)⟩
    · cases e
  · cases e
theorem fe_ix (ha : FE X .rd a f) (hb : FE X .rd b g) (hs : PlainIx b := by intro _ _; rfl) : FE X .rd (.Subscript a b pos) (eBin mIx f g) := PE.weak (pe_ix ix_seq ha hb hs) fun σ H Q ⟨F, fps, st, d, r, ed, q⟩ => by
  obtain ⟨x, y, e1, e2, e3⟩ := bind2 ed
  refine ⟨F, fps, st, x, r, e1, fun v H1 s1 w1 => ⟨F, fps, st, y, r.mono s1, e2, fun u H2 s2 w2 => ?_⟩⟩
  obtain ⟨w, h1, h2⟩ := mIx_rep (Same.refl H2) (Rep.mono s2 x v w1) w2 e3
  exact h2 Q (q w H2 (s1.trans s2) h1)
theorem fe_ixS (ha : FE X (.ow 0) a f) (hb : FE X .rd b g) (hs : PlainIx b := by intro _ _; rfl) : FE X (.ow 0) (.Subscript a b pos) (eBin mIx f g) := PE.weak (pe_ix ix_seq ha hb hs) fun σ H Q ⟨F, fps, st, d, r, ed, q⟩ => by
  obtain ⟨x, y, e1, e2, e3⟩ := bind2 ed
  refine ⟨F, fps, st, x, r, e1, fun v H1 s1 w1 => ⟨F, fps, st, y, r.mono s1, e2, fun u H2 s2 w2 => ?_⟩⟩
  have w1 := VR.ow0 w1
  obtain ⟨w, h1, h2⟩ := mIx_rep hideP_same (Rep.mono (hideP_mono s2 fun _ _ _ h => h) x v w1) w2 e3
  exact h2 Q (q w H2 (s1.trans s2) (VR.mk0 h1))

/-! ### slices -/
abbrev OM := Sl → Option (Option Int)
def tFO (K : PySem.W.Frag) (f : OM) : TO := fun σ H Q => ∃ F fps st o, StR K F fps σ H st ∧ f st = some o ∧ ∀ H', Same H H' → Q o H'
abbrev FO (X : Cx) (e : Option Expr) (f : OM) : Prop := PO X e (tFO X.K f)
theorem PO.weak {X : Cx} {e : Option Expr} {t t' : TO} (h : PO X e t) (hw : ∀ σ H Q, t' σ H Q → t σ H Q) : PO X e t' := ⟨fun pins s σ H Q I q => h.run pins s σ H Q I (hw σ H Q q)⟩
def oNone : OM := fun _ => some none
def oSome (f : EM) : OM := fun st => (f st).bind fun x => match x with
  | .int i => some (some i)
  | _ => none
theorem fo_none : FO X none oNone := PO.weak po_none fun σ H Q ⟨F, fps, st, d, r, ed, q⟩ => by
  cases ed
  exact q H (Same.refl H)
theorem fo_some (he : FE X .rd e f) : FO X (some e) (oSome f) := PO.weak (po_some he) fun σ H Q ⟨F, fps, st, d, r, ed, q⟩ => by
  unfold oSome at ed
  cases ef : f st with
  | none => rw [ef] at ed; cases ed
  | some x =>
    rw [ef] at ed
    cases x with
    | int i => cases ed; exact ⟨F, fps, st, .int i, r, ef, fun v H1 s1 w => ⟨i, w, q H1 s1⟩⟩
    | _ => cases ed
def cutG {α : Type} (xs : List α) (lo hi : Option Int) : List α := (xs.drop (HT.sIx xs.length 0 lo)).take (HT.sIx xs.length xs.length hi - HT.sIx xs.length 0 lo)
def eSl (m : D → Option Int → Option Int → Option D) (f : EM) (lo hi : OM) : EM := fun st => (f st).bind fun x => (lo st).bind fun l => (hi st).bind fun u => m x l u
theorem bind3 {α β γ δ : Type} {o : Option α} {p : Option β} {s : Option γ} {m : α → β → γ → Option δ} {d : δ} (h : (o.bind fun x => p.bind fun y => s.bind fun z => m x y z) = some d) : ∃ x y z, o = some x ∧ p = some y ∧ s = some z ∧ m x y z = some d := by
  cases o with
  | none => cases h
  | some x =>
    cases p with
    | none => cases h
    | some y =>
      cases s with
      | none => cases h
      | some z => exact ⟨x, y, z, rfl, rfl, rfl, h⟩
def mSlL : D → Option Int → Option Int → Option D
  | .lst ds, lo, hi => some (.lst (cutG ds lo hi))
  | .scr ns, lo, hi => some (.lst ((cutG ns lo hi).map D.int))
  | _, _, _ => none
/-- .. whose items have no lists -/
def mSlF : D → Option Int → Option Int → Option D
  | .lst ds, lo, hi => if fullL (cutG ds lo hi) 0 = true then some (.lst (cutG ds lo hi)) else none
  | .scr ns, lo, hi => some (.lst ((cutG ns lo hi).map D.int))
  | _, _, _ => none
def mSlT : D → Option Int → Option Int → Option D
  | .tup ds, lo, hi => if HT.sIx ds.length 0 lo = 0 ∧ HT.sIx ds.length ds.length hi = ds.length then none else some (.tup (cutG ds lo hi))
  | _, _, _ => none
theorem cutG_map {α β : Type} {m : α → β} {ns : List α} {lo hi : Option Int} : cutG (ns.map m) lo hi = (cutG ns lo hi).map m := by
  unfold cutG
  rw [List.length_map, List.map_take, List.map_drop]
theorem RepL.cut {H : Hp} {ds : List D} {vs : List V} (r : RepL K H ds vs) (lo hi : Option Int) : RepL K H (cutG ds lo hi) (cutV vs lo hi) := by
  unfold cutG cutV
  rw [r.length]
  exact RepL.take _ (RepL.drop _ r)
theorem fullL_ints : ∀ (ns : List Int) (k : Nat), fullL (ns.map D.int) k = true
  | [], _ => rfl
  | _ :: ns, k => fullL_ints ns k
/-- a new list of shared items; of items without lists -/
theorem VR.newS {F : Fr} {fps : Fps} {σ : L2.St} {st : Sl} {H H1 : Hp} {ds : List D} {vs : List V} {p : Addr} (r : StR K F fps σ H st) (s1 : Same H H1) (w : RepL K (hideP H1 (own fps)) ds vs) (np : H1 p = none) : VR K fps H (upd H1 p (.lst vs)) (.ow 1) (.lst ds) (.ref p) :=
  VR.newL (kd := .ow 0) r s1 ⟨[], List.nodup_nil, fun a m => (by cases m), OwnL.shared ds vs (RepL.mono (hideP_mono (Same.refl _) fun a o _ h z => h (z.resolve_left fun m => by cases m)) ds vs w)⟩ np
theorem VR.newF {F : Fr} {fps : Fps} {σ : L2.St} {st : Sl} {H H1 : Hp} {ds : List D} {vs : List V} {p : Addr} (r : StR K F fps σ H st) (s1 : Same H H1) (w : RepL K H1 ds vs) (fl : fullL ds 0 = true) (np : H1 p = none) : VR K fps H (upd H1 p (.lst vs)) (.ow 1) (.lst ds) (.ref p) :=
  VR.newS r s1 (RepL.flat (r.mono s1).keeps ds vs fl w) np
theorem tF_sl {r : V → Option Int → Option Int → Hp → VK → Prop} {m : D → Option Int → Option Int → Option D} {lo hi : OM} {σ : L2.St} {H : Hp} {Q : VK}
    (hr : ∀ F fps st x v l u d H2, StR K F fps σ H st → Same H H2 → VR K fps H H2 kd1 x v → m x l u = some d → (∀ w H', Same H2 H' → VR K fps H H' kd d w → Q w H') → r v l u H2 Q)
    (h : tF K kd (eSl m f lo hi) σ H Q) : tSl r (tF K kd1 f) (tFO K lo) (tFO K hi) σ H Q := by
  obtain ⟨F, fps, st, d, rr, ed, q⟩ := h
  obtain ⟨x, l, u, e1, e2, e3, e4⟩ := bind3 ed
  exact ⟨F, fps, st, x, rr, e1, fun v H1 s1 w1 => ⟨F, fps, st, l, rr.mono s1, e2, fun H2 s2 => ⟨F, fps, st, u, rr.mono (s1.trans s2), e3, fun H3 s3 =>
    hr F fps st x v l u d H3 rr (s1.trans (s2.trans s3)) (w1.grow (s2.trans s3)) e4 fun w H' s' w' => q w H' ((s1.trans (s2.trans s3)).trans s') w'⟩⟩⟩
variable {lo hi : Option Expr} {fl fh : OM} {p2 : Pos}
theorem fe_sl (he : FE X .rd e f) (hl : FO X lo fl) (hh : FO X hi fh) : FE X .rd (.Subscript e (.Slice lo hi none p2) pos) (eSl mSlL f fl fh) := PE.weak (pe_slice sl_list he hl hh) fun σ H Q => tF_sl fun F fps st x v l u d H2 r s2 w e q => by
  unfold mSlL at e
  split at e
  · cases e
    obtain ⟨a, xs, e1, e2, e3⟩ := w
    exact ⟨a, xs, e1, .inl (.inl e2), fun p np => q _ _ (same_upd np) (VR.newL (kd := .rd) r s2 (e3.cut l u) np)⟩
  · cases e
    obtain ⟨a, e1, e2⟩ := w
    refine ⟨a, _, e1, e2.sq, fun p np => q _ _ (same_upd np) (VR.newL (kd := .rd) r s2 ?_ np)⟩
    rw [show cutV (List.map V.int _) l u = (cutG _ l u).map V.int from cutG_map]
    exact RepL.intsI _
  · cases e
theorem fe_slF (he : FE X .rd e f) (hl : FO X lo fl) (hh : FO X hi fh) : FE X (.ow 1) (.Subscript e (.Slice lo hi none p2) pos) (eSl mSlF f fl fh) := PE.weak (pe_slice sl_list he hl hh) fun σ H Q => tF_sl fun F fps st x v l u d H2 r s2 w e q => by
  unfold mSlF at e
  split at e
  · split at e
    · cases e
      obtain ⟨a, xs, e1, e2, e3⟩ := w
      exact ⟨a, xs, e1, .inl (.inl e2), fun p np => q _ _ (same_upd np) (VR.newF r s2 (e3.cut l u) (by assumption) np)⟩
    · cases e
  · cases e
    obtain ⟨a, e1, e2⟩ := w
    refine ⟨a, _, e1, e2.sq, fun p np => q _ _ (same_upd np) (VR.newF r s2 ?_ (fullL_ints _ _) np)⟩
    rw [show cutV (List.map V.int _) l u = (cutG _ l u).map V.int from cutG_map]
    exact RepL.intsI _
  · cases e
theorem fe_slS (he : FE X (.ow 0) e f) (hl : FO X lo fl) (hh : FO X hi fh) : FE X (.ow 1) (.Subscript e (.Slice lo hi none p2) pos) (eSl mSlL f fl fh) := PE.weak (pe_slice sl_list he hl hh) fun σ H Q => tF_sl fun F fps st x v l u d H2 r s2 w e q => by
  have w := VR.ow0 w
  unfold mSlL at e
  split at e
  · cases e
    obtain ⟨a, xs, e1, e2, e3⟩ := w
    exact ⟨a, xs, e1, .inl (.inl (hideP_same _ _ e2)), fun p np => q _ _ (same_upd np) (VR.newS r s2 (e3.cut l u) np)⟩
  · cases e
    obtain ⟨a, e1, e2⟩ := w
    refine ⟨a, _, e1, (hideP_same.sqf e2).sq, fun p np => q _ _ (same_upd np) (VR.newF r s2 ?_ (fullL_ints _ _) np)⟩
    rw [show cutV (List.map V.int _) l u = (cutG _ l u).map V.int from cutG_map]
    exact RepL.intsI _
  · cases e
/-- t[lo:hi] of a tuple -/
theorem fe_slT (he : FE X .rd e f) (hl : FO X lo fl) (hh : FO X hi fh) : FE X .rd (.Subscript e (.Slice lo hi none p2) pos) (eSl mSlT f fl fh) := PE.weak (pe_slice sl_tup he hl hh) fun σ H Q => tF_sl fun F fps st x v l u d H2 r s2 w e q => by
  unfold mSlT at e
  split at e
  · split at e
    · cases e
    · rename_i hn
      cases e
      obtain ⟨a, xs, e1, e2, e3⟩ := w
      exact ⟨a, xs, e1, e2, by rw [e3.length]; exact hn, fun p np => q _ _ (same_upd np) (VR.newT (kd := .rd) r s2 (e3.cut l u) np)⟩
  · cases e

/-! ### built-in calls -/
def eCB (m : List D → Option D) (f : AM) : EM := fun st => (f st).bind m
/-- a built-in whose answer is a scalar -/
def ScC (K : PySem.W.Frag) (m : List D → Option D) (r : List V → Hp → VK → Prop) : Prop := ∀ (xs : List V) (H : Hp) (Q : VK) (ds : List D) (d : D), RepL K H ds xs → m ds = some d → sc d = true ∧ (Q (scV d) H → r xs H Q)
theorem tF_cb {m : List D → Option D} {r : List V → Hp → VK → Prop} {f : AM} (hr : ScC K m r) {σ : L2.St} {H : Hp} {Q : VK} (h : tF K kd (eCB m f) σ H Q) : tCB r (tFA K .rd f) σ H Q := by
  obtain ⟨F, fps, st, d, rr, ed, q⟩ := h
  unfold eCB at ed
  cases ef : f st with
  | none => rw [ef] at ed; cases ed
  | some ds =>
    rw [ef] at ed
    refine ⟨F, fps, st, ds, rr, ef, fun vs H1 s1 w => ?_⟩
    obtain ⟨h1, h2⟩ := hr vs H1 Q ds d w ed
    exact h2 (q _ H1 s1 (VR.sc h1 rfl))
theorem RepL.one_inv {H : Hp} {d : D} {vs : List V} (h : RepL K H [d] vs) : ∃ v, vs = [v] ∧ Rep K H d v := by
  obtain ⟨v, r, e, h1, h2⟩ := h
  rw [show r = [] from h2] at e
  exact ⟨v, e, h1⟩
theorem RepL.two_inv {H : Hp} {d d' : D} {vs : List V} (h : RepL K H [d, d'] vs) : ∃ v v', vs = [v, v'] ∧ Rep K H d v ∧ Rep K H d' v' := by
  obtain ⟨v, r, e, h1, h2⟩ := h
  obtain ⟨v', e', h3⟩ := h2.one_inv
  subst e'
  exact ⟨v, v', e, h1, h3⟩
def mLen : List D → Option D
  | [.lst ds] => some (.int ds.length)
  | [.tup ds] => some (.int ds.length)
  | [.scr ns] => some (.int ns.length)
  | [.str z] => if lenOk z.length = true then some (.int z.length) else none
  | _ => none
theorem scc_len : ScC K mLen (fun xs H Q => ∃ x n, xs = [x] ∧ LenV K x H n ∧ Q (.int n) H) := fun xs H Q ds d r e => by
  unfold mLen at e
  split at e
  · cases e
    obtain ⟨v, ev, a, ys, e1, e2, e3⟩ := r.one_inv
    subst e1
    refine ⟨rfl, fun q => ⟨_, _, ev, .inl ⟨ys, .inl (.inl e2), ?_⟩, q⟩⟩
    exact e3.length.symm
  · cases e
    obtain ⟨v, ev, a, ys, e1, e2, e3⟩ := r.one_inv
    subst e1
    refine ⟨rfl, fun q => ⟨_, _, ev, .inr ⟨ys, e2, ?_⟩, q⟩⟩
    exact e3.length.symm
  · cases e
    obtain ⟨v, ev, a, e1, e2⟩ := r.one_inv
    subst e1
    refine ⟨rfl, fun q => ⟨_, _, ev, .inl ⟨_, e2.sq, ?_⟩, q⟩⟩
    exact (List.length_map _).symm
  · split at e
    · cases e
      obtain ⟨v, ev, e1⟩ := r.one_inv
      have e1 : v = .str _ := e1
      subst e1
      exact ⟨rfl, fun q => ⟨_, _, ev, ⟨lenOk_le (by assumption), rfl⟩, q⟩⟩
    · cases e
  · cases e
variable {p : Pos} {x : Str} {fa : AM}
theorem fe_len (hg : Gl X "len") (hm : X.mg "len" = none) (ha : FA X .rd (e :: es) fa) (he : starEach (e :: es) X.env = (false, eval e X.env) :: starEach es X.env := by rfl) (hpl : (backTo pos (starEach es X.env)).any (·.1) = false := by rfl) :
    FE X kd (.Call (.Name "len" p) (e :: es) [] pos) (eCB mLen fa) := PE.weak (pe_callB call_len hg hm PySem.boot_len ha (by decide) (by decide) he hpl) fun _ _ _ => tF_cb scc_len
def tyD : D → Option String
  | .non => some "NoneType"
  | .bl _ => some "bool"
  | .int _ => some "int"
  | .str _ => some "str"
  | .tup _ => some "tuple"
  | .lst _ => some "list"
  | .scr _ => some "list"
  | .dct _ _ => some "dict"
  | .ob _ _ _ => none
  | .mob _ _ _ _ => none
  | .hol _ => none
  | .exc _ _ _ => none
theorem tyD_ty {H : Hp} {d : D} {v : V} {t : String} (h : Rep K H d v) (e : tyD d = some t) : TyX K H v (.type t) := by
  cases d with
  | non => cases e; rw [show v = .non from h]; exact .base .non
  | bl b => cases e; rw [show v = .bl b from h]; exact .base (.bl b)
  | int i => cases e; rw [show v = .int i from h]; exact .base (.int i)
  | str x => cases e; rw [show v = .str x from h]; exact .base (.str x)
  | tup ds =>
    cases e
    obtain ⟨a, xs, e, q, _⟩ := h
    subst e
    rcases q with (q | ⟨o, q⟩) | ⟨o, its, n, q, hc, _⟩
    · exact .base (.tup q)
    · exact .fTuple q
    · exact .kTuple q hc
  | lst ds => cases e; obtain ⟨a, xs, e, q, _⟩ := h; subst e; exact .base (.lst q)
  | scr ns =>
    cases e
    obtain ⟨a, e, q⟩ := h
    subst e
    rcases q with ⟨o, q⟩ | ⟨o, its, n, q, hc, _⟩
    · exact .base (.frz q)
    · exact .kList q hc
  | ob C nm ds => cases e
  | dct ks ds => cases e; obtain ⟨a, xs, e, q, _⟩ := h; subst e; exact .base (.dK q)
  | mob C nm ls ds => cases e
  | hol a => cases e
  | exc C nm ds => cases e
/-- isinstance(x, T), T a built-in class -/
def eIsi (T : String) (f : EM) : EM := fun st => (f st).bind fun d => (tyD d).bind fun t => (kitB t T).map D.bl
theorem fe_isi {T : String} {pT : Pos} {y : Str} (hg : Gl X "isinstance") (hm : X.mg "isinstance" = none) (hy : PE X (.Name y pT) (tC (.ty T))) (ha : FE X .rd e f)
    (he : starEach [e, .Name y pT] X.env = (false, eval e X.env) :: starEach [.Name y pT] X.env := by rfl) (he2 : starEach [.Name y pT] X.env = (false, eval (.Name y pT) X.env) :: starEach [] X.env := by rfl) (hpl : (backTo pos (starEach [.Name y pT] X.env)).any (·.1) = false := by rfl) :
    FE X kd (.Call (.Name "isinstance" p) [e, .Name y pT] [] pos) (eIsi T f) := PE.weak (pe_callB call_isi hg hm (by decide +kernel) (pa_cons ha (pa_cons hy pa_nil he2) he) (by decide) (by decide) he hpl) fun σ H Q ⟨F, fps, st, d, r, ed, q⟩ => by
  unfold eIsi at ed
  cases ef : f st with
  | none => rw [ef] at ed; cases ed
  | some x =>
    rw [ef] at ed
    have ed : ((tyD x).bind fun t => (kitB t T).map D.bl) = some d := ed
    cases et : tyD x with
    | none => rw [et] at ed; cases ed
    | some t =>
      rw [et] at ed
      have ed : (kitB t T).map D.bl = some d := ed
      cases ek : kitB t T with
      | none => rw [ek] at ed; cases ed
      | some b =>
        rw [ek] at ed; cases ed
        exact ⟨F, fps, st, x, r, ef, fun v H1 s1 w => ⟨v, .ty T, .type t, .type T, b, rfl, .ty T, tyD_ty w et, kit_ty ek, q _ H1 s1 (VR.sc (d := .bl b) rfl rfl)⟩⟩
def eB (m : D → Option D) (f : EM) : EM := fun st => (f st).bind m
/-- list(x) -/
def mList : List D → Option D
  | [.lst ds] => some (.lst ds)
  | [.tup ds] => some (.lst ds)
  | [.scr ns] => some (.lst (ns.map D.int))
  | _ => none
def mListS (d : D) : Option D := mList [d]
def chkL : D → Option D
  | .lst ds => if fullL ds 0 = true then some (.lst ds) else none
  | _ => none
def mListF (d : D) : Option D := (mList [d]).bind chkL
theorem seq_of {F H : Hp} (sF : Same F H) {d d' : D} {v : V} (h : Rep K F d v) (e : mList [d] = some d') : ∃ p ys ds, v = .ref p ∧ (SqL K H p ys ∨ SqT K H p ys) ∧ d' = .lst ds ∧ RepL K F ds ys := by
  unfold mList at e
  split at e
  · rename_i h'; cases h'; cases e
    obtain ⟨a, xs, e, q, r⟩ := h
    exact ⟨a, xs, _, e, .inl (.inl (.inl (sF _ _ q))), rfl, r⟩
  · rename_i h'; cases h'; cases e
    obtain ⟨a, xs, e, q, r⟩ := h
    exact ⟨a, xs, _, e, .inr (Same.sqt sF q), rfl, r⟩
  · rename_i h'; cases h'; cases e
    obtain ⟨a, e, q⟩ := h
    exact ⟨a, _, _, e, .inl (sF.sqf q).sq, rfl, RepL.intsI _⟩
  · cases e
theorem fe_list (hg : Gl X "list") (hm : X.mg "list" = none) (ha : FE X .rd e f) (he : starEach [e] X.env = (false, eval e X.env) :: starEach [] X.env := by rfl) :
    FE X (.ow 1) (.Call (.Name "list" p) [e] [] pos) (eB mListF f) := PE.weak (pe_callTy call_list_of hg hm (by decide +kernel) (pa_cons ha pa_nil he) (by decide) (by decide) he rfl) fun σ H Q ⟨F, fps, st, d, r, ed, q⟩ => by
  unfold eB at ed
  cases ef : f st with
  | none => rw [ef] at ed; cases ed
  | some x =>
    rw [ef] at ed
    have ed : (mList [x]).bind chkL = some d := ed
    cases el : mList [x] with
    | none => rw [el] at ed; cases ed
    | some y =>
      rw [el] at ed
      refine ⟨F, fps, st, x, r, ef, fun v H1 s1 w => ?_⟩
      obtain ⟨p, ys, ds, e1, e2, e3, e4⟩ := seq_of (Same.refl H1) w el
      subst e3
      have ed : (if fullL ds 0 = true then some (D.lst ds) else none) = some d := ed
      split at ed
      · cases ed
        exact ⟨p, ys, by rw [e1], e2, fun l nl => q _ _ (s1.trans (same_upd nl)) (VR.newF r s1 e4 (by assumption) nl)⟩
      · cases ed
theorem fe_listS (hg : Gl X "list") (hm : X.mg "list" = none) (ha : FE X (.ow 0) e f) (he : starEach [e] X.env = (false, eval e X.env) :: starEach [] X.env := by rfl) :
    FE X (.ow 1) (.Call (.Name "list" p) [e] [] pos) (eB mListS f) := PE.weak (pe_callTy call_list_of hg hm (by decide +kernel) (pa_cons ha pa_nil he) (by decide) (by decide) he rfl) fun σ H Q ⟨F, fps, st, d, r, ed, q⟩ => by
  unfold eB at ed
  cases ef : f st with
  | none => rw [ef] at ed; cases ed
  | some x =>
    rw [ef] at ed
    refine ⟨F, fps, st, x, r, ef, fun v H1 s1 w => ?_⟩
    obtain ⟨p, ys, ds, e1, e2, e3, e4⟩ := seq_of hideP_same (VR.ow0 w) ed
    subst e3
    exact ⟨p, ys, by rw [e1], e2, fun l nl => q _ _ (s1.trans (same_upd nl)) (VR.newS r s1 e4 nl)⟩
/-- tuple(xs) of a list -/
def mTuple : D → Option D
  | .lst ds => some (.tup ds)
  | _ => none
theorem fe_tuple (hg : Gl X "tuple") (hm : X.mg "tuple" = none) (ha : FE X .rd e f) (he : starEach [e] X.env = (false, eval e X.env) :: starEach [] X.env := by rfl) :
    FE X .rd (.Call (.Name "tuple" p) [e] [] pos) (eB mTuple f) := PE.weak (pe_callTy call_tuple_of hg hm (by decide +kernel) (pa_cons ha pa_nil he) (by decide) (by decide) he rfl) fun σ H Q ⟨F, fps, st, d, r, ed, q⟩ => by
  unfold eB at ed
  cases ef : f st with
  | none => rw [ef] at ed; cases ed
  | some x =>
    rw [ef] at ed
    refine ⟨F, fps, st, x, r, ef, fun v H1 s1 w => ?_⟩
    have ed : mTuple x = some d := ed
    unfold mTuple at ed
    split at ed
    · cases ed
      obtain ⟨a, xs, e1, e2, e3⟩ := w
      exact ⟨a, xs, by rw [e1], .inl ⟨.inl (.inl e2), fun l nl => q _ _ (s1.trans (same_upd nl)) (VR.newT (kd := .rd) r s1 e3 nl)⟩⟩
    · cases ed
/-- xs + ys -/
def mCat (x y : D) : Option D := match x, y with
  | .lst ds, .lst es => if lenOk (ds.length + es.length) = true then some (.lst (ds ++ es)) else none
  | _, _ => none
theorem mCat_rep {F H : Hp} (sF : Same F H) {x y d : D} {vx vy : V} (rx : Rep K F x vx) (ry : Rep K F y vy) (e : mCat x y = some d) : ∃ l b xs zs ds, vx = .ref l ∧ vy = .ref b ∧ H l = some (.lst xs) ∧ H b = some (.lst zs) ∧ xs.length + zs.length ≤ sizeLine ∧ d = .lst ds ∧ RepL K F ds (xs ++ zs) := by
  unfold mCat at e
  split at e
  · split at e
    · rename_i hl
      cases e
      obtain ⟨a, xs, e1, e2, e3⟩ := rx
      obtain ⟨b, ys, f1, f2, f3⟩ := ry
      exact ⟨a, b, xs, ys, _, e1, f1, sF _ _ e2, sF _ _ f2, by rw [e3.length, f3.length]; exact lenOk_le hl, rfl, e3.app f3⟩
    · cases e
  · cases e
theorem fe_cat (ha : FE X .rd a f) (hb : FE X .rd b g) : FE X (.ow 1) (.BinOp a .Add b pos) (eB chkL (eBin mCat f g)) := PE.weak (pe_op op_cat ha hb) fun σ H Q ⟨F, fps, st, d, r, ed, q⟩ => by
  unfold eB at ed
  cases ef : eBin mCat f g st with
  | none => rw [ef] at ed; cases ed
  | some z =>
    rw [ef] at ed
    obtain ⟨x, y, e1, e2, e3⟩ := bind2 ef
    refine ⟨F, fps, st, x, r, e1, fun v H1 s1 w1 => ⟨F, fps, st, y, r.mono s1, e2, fun u H2 s2 w2 => ?_⟩⟩
    obtain ⟨l, b, xs, zs, ds, h1, h2, h3, h4, h5, h6, h7⟩ := mCat_rep (Same.refl H2) (Rep.mono s2 x v w1) w2 e3
    subst h6
    have ed : (if fullL ds 0 = true then some (D.lst ds) else none) = some d := ed
    split at ed
    · cases ed
      exact ⟨l, b, xs, zs, h1, h2, h3, h4, h5, fun p np => q _ _ ((s1.trans s2).trans (same_upd np)) (VR.newF r (s1.trans s2) h7 (by assumption) np)⟩
    · cases ed
theorem fe_catS (ha : FE X (.ow 0) a f) (hb : FE X (.ow 0) b g) : FE X (.ow 1) (.BinOp a .Add b pos) (eBin mCat f g) := PE.weak (pe_op op_cat ha hb) fun σ H Q ⟨F, fps, st, d, r, ed, q⟩ => by
  obtain ⟨x, y, e1, e2, e3⟩ := bind2 ed
  refine ⟨F, fps, st, x, r, e1, fun v H1 s1 w1 => ⟨F, fps, st, y, r.mono s1, e2, fun u H2 s2 w2 => ?_⟩⟩
  obtain ⟨l, b, xs, zs, ds, h1, h2, h3, h4, h5, h6, h7⟩ := mCat_rep hideP_same (Rep.mono (hideP_mono s2 fun _ _ _ h => h) x v (VR.ow0 w1)) (VR.ow0 w2) e3
  subst h6
  exact ⟨l, b, xs, zs, h1, h2, h3, h4, h5, fun p np => q _ _ ((s1.trans s2).trans (same_upd np)) (VR.newS r (s1.trans s2) h7 np)⟩
end
end FL

namespace FL
open PySem PySem.Spec PyProof.Rows L2

theorem PI.weak {X : Cx} {tg e : Expr} {t t' : TI} (h : PI X tg e t) (hw : ∀ σ H Q, t' σ H Q → t σ H Q) : PI X tg e t' := ⟨fun pins s σ H Q I q => h.run pins s σ H Q I (hw σ H Q q)⟩
theorem PS.weak {X : Cx} {e : Stmt} {t t' : TS} (h : PS X e t) (hw : ∀ D σ H, t' D σ H → t D σ H) : PS X e t' := ⟨fun pins s σ H D I q => h.run pins s σ H D I (hw D σ H q)⟩
theorem PSs.weak {X : Cx} {e : List Stmt} {t t' : TS} (h : PSs X e t) (hw : ∀ D σ H, t' D σ H → t D σ H) : PSs X e t' := ⟨fun pins s σ H D I q => h.run pins s σ H D I (hw D σ H q)⟩
theorem PG.weak {X : Cx} {e : Expr} {t t' : TG} (h : PG X e t) (hw : ∀ v σ H Q, t' v σ H Q → t v σ H Q) : PG X e t' := ⟨fun pins s σ H v u Q I r q => h.run pins s σ H v u Q I r (hw v σ H Q q)⟩
theorem PGs.weak {X : Cx} {e : List Expr} {t t' : TGs} (h : PGs X e t) (hw : ∀ v σ H Q, t' v σ H Q → t v σ H Q) : PGs X e t' := ⟨fun pins s σ H v u Q I r q => h.run pins s σ H v u Q I r (hw v σ H Q q)⟩

/-! ### what a loop walks -/
abbrev IM := Sl → Option (List D)
def Deliver (K : PySem.W.Frag) (G : Hp) (J : It) (ds : List D) : Prop := ∀ (i : Nat) (H : Hp) (A : Addr → Prop), (∀ a, A a → H a ≠ none) → Same G (hideP H A) →
  (ds.length ≤ i → J.stop i H) ∧ ∀ d, ds[i]? = some d → J.go i H ∧ ∀ x H', J.yld i H x H' → Same H H' ∧ Rep K (hideP H' A) d x
def tFI (K : PySem.W.Frag) (f : IM) : TI := fun σ H R => ∃ F fps st ds, StR K F fps σ H st ∧ f st = some ds ∧ ∀ J H', Same H H' → Deliver K (hideP H' (own fps)) J ds → R J H'
abbrev FI (X : Cx) (tg e : Expr) (f : IM) : Prop := PI X tg e (tFI X.K f)
section
variable {X : Cx} {kd kd1 kd2 : Kd} {e a b c tg : Expr} {es : List Expr} {f g h : EM} {fa : AM} {pos p : Pos} {K : PySem.W.Frag}
def itsL : D → Option (List D)
  | .lst ds => some ds
  | .scr ns => some (ns.map D.int)
  | _ => none
def itsT : D → Option (List D)
  | .tup ds => some ds
  | _ => none
def iB (m : D → Option (List D)) (f : EM) : IM := fun st => (f st).bind m
theorem fi_list (he : FE X (.ow 0) e f) : FI X tg e (iB itsL f) := PI.weak (pi_list he) fun σ H R ⟨F, fps, st, ds, r, ed, q⟩ => by
  unfold iB at ed
  cases ef : f st with
  | none => rw [ef] at ed; cases ed
  | some d =>
    rw [ef] at ed
    refine ⟨F, fps, st, d, r, ef, fun v H1 s1 w => ?_⟩
    replace w := VR.ow0 w
    replace ed : itsL d = some ds := ed
    unfold itsL at ed
    split at ed
    · cases ed
      obtain ⟨a, xs, e1, e2, e3⟩ := w
      refine ⟨a, e1, ⟨xs, .inl (.inl (hideP_same _ _ e2))⟩, q _ H1 s1 (fun i H A hA s => ?_)⟩
      have ea : H a = some (.lst xs) := (s.trans hideP_same) _ _ e2
      refine ⟨fun h => ⟨xs, .inl (.inl ea), by rw [e3.length]; exact h⟩, fun d e => ?_⟩
      obtain ⟨v, h1, h2⟩ := e3.get e
      exact ⟨⟨xs, v, .inl (.inl ea), h1⟩, fun x H' ⟨y1, y2⟩ => by
        subst y1
        have := y2 xs (.inl (.inl ea))
        rw [h1] at this; cases this
        exact ⟨Same.refl _, Rep.mono s d v h2⟩⟩
    · rename_i ns
      cases ed
      obtain ⟨a, e1, e2⟩ := w
      refine ⟨a, e1, ⟨ns.map V.int, (hideP_same.sqf e2).sq⟩, q _ H1 s1 (fun i H A hA s => ?_)⟩
      have ea : SqL X.K H a (ns.map V.int) := ((s.trans hideP_same).sqf e2).sq
      refine ⟨fun h => ⟨_, ea, by rw [List.length_map] at h ⊢; exact h⟩, fun d e => ?_⟩
      rw [List.getElem?_map] at e
      cases en : ns[i]? with
      | none => rw [en] at e; cases e
      | some n =>
        rw [en] at e; cases e
        have h1 : (ns.map V.int)[i]? = some (.int n) := by rw [List.getElem?_map, en]; rfl
        exact ⟨⟨_, _, ea, h1⟩, fun x H' ⟨y1, y2⟩ => by
          subst y1
          have := y2 _ ea
          rw [h1] at this; cases this
          exact ⟨Same.refl _, rfl⟩⟩
    · cases ed
theorem fi_tup (he : FE X (.ow 0) e f) : FI X tg e (iB itsT f) := PI.weak (pi_tup he) fun σ H R ⟨F, fps, st, ds, r, ed, q⟩ => by
  unfold iB at ed
  cases ef : f st with
  | none => rw [ef] at ed; cases ed
  | some d =>
    rw [ef] at ed
    refine ⟨F, fps, st, d, r, ef, fun v H1 s1 w => ?_⟩
    have w := VR.ow0 w
    have ed : itsT d = some ds := ed
    unfold itsT at ed
    split at ed
    · cases ed
      obtain ⟨a, xs, e1, e2, e3⟩ := w
      refine ⟨a, e1, ⟨xs, Same.sqt hideP_same e2⟩, q _ H1 s1 (fun i H A hA s => ?_)⟩
      have ea : SqT X.K H a xs := Same.sqt (s.trans hideP_same) e2
      refine ⟨fun h => ⟨xs, ea, by rw [e3.length]; exact h⟩, fun d e => ?_⟩
      obtain ⟨v, h1, h2⟩ := e3.get e
      exact ⟨⟨xs, v, ea, h1⟩, fun x H' ⟨y1, y2⟩ => by
        subst y1
        have := y2 xs ea
        rw [h1] at this; cases this
        exact ⟨Same.refl _, Rep.mono s d v h2⟩⟩
    · cases ed
theorem PI.or {wi wj : TI} (h1 : PI X tg e wi) (h2 : PI X tg e wj) : PI X tg e (fun σ H R => wi σ H R ∨ wj σ H R) := ⟨fun pins s σ H R I h => by
  rcases h with h | h
  · exact h1.run pins s σ H R I h
  · exact h2.run pins s σ H R I h⟩
def itsS : D → Option (List D)
  | .lst ds => some ds
  | .scr ns => some (ns.map D.int)
  | .tup ds => some ds
  | _ => none
/-- a list, a tuple, the script -/
theorem fi_seq (he : FE X (.ow 0) e f) : FI X tg e (iB itsS f) := PI.weak (PI.or (fi_list he) (fi_tup he)) fun σ H R ⟨F, fps, st, ds, r, ed, q⟩ => by
  unfold iB at ed
  cases ef : f st with
  | none => rw [ef] at ed; cases ed
  | some d =>
    rw [ef] at ed
    have ed : itsS d = some ds := ed
    cases d with
    | lst xs => exact .inl ⟨F, fps, st, ds, r, by unfold iB; rw [ef]; exact ed, q⟩
    | scr xs => exact .inl ⟨F, fps, st, ds, r, by unfold iB; rw [ef]; exact ed, q⟩
    | tup xs => exact .inr ⟨F, fps, st, ds, r, by unfold iB; rw [ef]; exact ed, q⟩
    | _ => cases ed
def rngOk (i : Int) : Bool := decide (-(2 ^ 62) ≤ i) && decide (i < 2 ^ 62)
def rngL (lo c : Int) (n : Nat) : List D := (List.range n).map fun (i : Nat) => D.int (lo + (i : Int) * c)
def mRng1 : D → Option (List D)
  | .int j => if rngOk j = true then some (rngL 0 1 j.toNat) else none
  | _ => none
def mRng2 (x y : D) : Option (List D) := match x, y with
  | .int i, .int j => if (rngOk i && rngOk j) = true then some (rngL i 1 (j - i).toNat) else none
  | _, _ => none
/-- range(i, j, -1) -/
def mRngD (x y : D) : Option (List D) := match x, y with
  | .int i, .int j => if (rngOk i && rngOk j) = true then some (rngL i (-1) (i - j).toNat) else none
  | _, _ => none
theorem rngOk_iff {i : Int} (h : rngOk i = true) : -(2 ^ 62) ≤ i ∧ i < 2 ^ 62 := by
  unfold rngOk at h
  simp only [Bool.and_eq_true, decide_eq_true_eq] at h
  exact h
theorem dl_rng {G : Hp} {lo : Int} {n : Nat} : Deliver K G (Itr lo n) (rngL lo 1 n) := fun i H A hA s => by
  unfold rngL
  refine ⟨fun h => ?_, fun d e => ?_⟩
  · rw [List.length_map, List.length_range] at h; exact h
  · rw [List.getElem?_map] at e
    by_cases hi : i < n
    · rw [List.getElem?_range hi] at e
      cases e
      refine ⟨hi, fun x H' ⟨y1, y2⟩ => ?_⟩
      subst y1 y2
      exact ⟨Same.refl _, by show V.int _ = V.int _; rw [Int.mul_one]⟩
    · rw [List.getElem?_eq_none (by rw [List.length_range]; omega)] at e; cases e
theorem dl_rngC {G : Hp} {lo c : Int} {n : Nat} : Deliver K G (Itc lo c n) (rngL lo c n) := fun i H A hA s => by
  unfold rngL
  refine ⟨fun h => ?_, fun d e => ?_⟩
  · rw [List.length_map, List.length_range] at h; exact h
  · rw [List.getElem?_map] at e
    by_cases hi : i < n
    · rw [List.getElem?_range hi] at e
      cases e
      refine ⟨hi, fun x H' ⟨y1, y2⟩ => ?_⟩
      subst y1 y2
      exact ⟨Same.refl _, rfl⟩
    · rw [List.getElem?_eq_none (by rw [List.length_range]; omega)] at e; cases e
def iBin (m : D → D → Option (List D)) (f g : EM) : IM := fun st => (f st).bind fun x => (g st).bind fun y => m x y
theorem fi_rng1 (hg : Gl X "range") (hm : X.mg "range" = none) (ha : FE X .rd a f) (hs : starEach [a] X.env = [(false, eval a X.env)] := by rfl) : FI X tg (.Call (.Name "range" p) [a] [] pos) (iB mRng1 f) := PI.weak (pi_range1 hg hm (pa_cons ha pa_nil hs) hs) fun σ H R ⟨F, fps, st, ds, r, ed, q⟩ => by
  unfold iB at ed
  cases ef : f st with
  | none => rw [ef] at ed; cases ed
  | some x =>
    rw [ef] at ed
    refine ⟨F, fps, st, x, r, ef, fun v H1 s1 w => ?_⟩
    have ed : mRng1 x = some ds := ed
    unfold mRng1 at ed
    split at ed
    · split at ed
      · rename_i hr
        cases ed
        have w : v = .int _ := w
        subst w
        exact ⟨_, rfl, (rngOk_iff hr).1, (rngOk_iff hr).2, q _ _ s1 dl_rng⟩
      · cases ed
    · cases ed
theorem fi_rng2 (hg : Gl X "range") (hm : X.mg "range" = none) (ha : FE X .rd a f) (hb : FE X .rd b g) (hs : starEach [a, b] X.env = (false, eval a X.env) :: starEach [b] X.env := by rfl) (hs2 : starEach [b] X.env = (false, eval b X.env) :: starEach [] X.env := by rfl)
    (h1 : starEach [a, b] X.env = [(false, eval a X.env), (false, eval b X.env)] := by rfl) (h2 : starEach [b] X.env = [(false, eval b X.env)] := by rfl) :
    FI X tg (.Call (.Name "range" p) [a, b] [] pos) (iBin mRng2 f g) := PI.weak (pi_range2 hg hm (pa_cons ha (pa_cons hb pa_nil hs2) hs) h1 h2) fun σ H R ⟨F, fps, st, ds, r, ed, q⟩ => by
  unfold iBin at ed
  obtain ⟨x, y, e1, e2, e3⟩ := bind2 ed
  refine ⟨F, fps, st, x, r, e1, fun v H1 s1 w => ⟨F, fps, st, y, r.mono s1, e2, fun u H2 s2 w2 => ?_⟩⟩
  unfold mRng2 at e3
  split at e3
  · split at e3
    · rename_i hr
      cases e3
      have hr := Bool.and_eq_true_iff.mp hr
      have w : v = .int _ := w
      have w2 : u = .int _ := w2
      subst w w2
      exact ⟨_, _, rfl, ⟨(rngOk_iff hr.1).1, (rngOk_iff hr.1).2, (rngOk_iff hr.2).1, (rngOk_iff hr.2).2⟩, q _ _ (s1.trans s2) dl_rng⟩
    · cases e3
  · cases e3
/-- range(a, b, -1): the step is written as -1 -/
theorem fi_rngD {k : Nat} {p1 p2 : Pos} (hg : Gl X "range") (hm : X.mg "range" = none) (ha : FE X .rd a f) (hb : FE X .rd b g) (hs : starEach [a, b, .UnaryOp .USub (.Constant (.int 1) k p1) p2] X.env = (false, eval a X.env) :: starEach [b, .UnaryOp .USub (.Constant (.int 1) k p1) p2] X.env := by rfl)
    (hs2 : starEach [b, .UnaryOp .USub (.Constant (.int 1) k p1) p2] X.env = (false, eval b X.env) :: starEach [.UnaryOp .USub (.Constant (.int 1) k p1) p2] X.env := by rfl)
    (hs3 : starEach [.UnaryOp .USub (.Constant (.int 1) k p1) p2] X.env = (false, eval (.UnaryOp .USub (.Constant (.int 1) k p1) p2) X.env) :: starEach [] X.env := by rfl)
    (hpl : (backTo pos (starEach [b, .UnaryOp .USub (.Constant (.int 1) k p1) p2] X.env)).any (·.1) = false := by rfl) :
    FI X tg (.Call (.Name "range" p) [a, b, .UnaryOp .USub (.Constant (.int 1) k p1) p2] [] pos) (iBin mRngD f g) := PI.weak (pi_range3 hg hm (pa_cons ha (pa_cons hb (pa_cons (pe_un un_neg pe_int) pa_nil hs3) hs2) hs) hs hpl) fun σ H R ⟨F, fps, st, ds, r, ed, q⟩ => by
  unfold iBin at ed
  obtain ⟨x, y, e1, e2, e3⟩ := bind2 ed
  refine ⟨F, fps, st, x, r, e1, fun v H1 s1 w => ⟨F, fps, st, y, r.mono s1, e2, fun u H2 s2 w2 => ?_⟩⟩
  unfold mRngD at e3
  split at e3
  · split at e3
    · rename_i hr
      cases e3
      have hr := Bool.and_eq_true_iff.mp hr
      have w : v = .int _ := w
      have w2 : u = .int _ := w2
      subst w w2
      exact ⟨1, rfl, _, _, _, _, rfl, RgC.neg (rngOk_iff hr.1).1 (rngOk_iff hr.1).2 (rngOk_iff hr.2).1 (rngOk_iff hr.2).2, q _ _ (s1.trans s2) dl_rngC⟩
    · cases e3
  · cases e3
/-- enumerate(xs) -/
def enumL : Nat → List D → List D
  | _, [] => []
  | i, d :: ds => .tup [.int i, d] :: enumL (i + 1) ds
theorem enumL_get : ∀ (ds : List D) (j i : Nat), (enumL j ds)[i]? = (ds[i]?).map fun d => D.tup [.int ((j + i : Nat) : Int), d]
  | [], j, i => by simp [enumL]
  | d :: ds, j, 0 => by simp [enumL]
  | d :: ds, j, i + 1 => by
    have := enumL_get ds (j + 1) i
    simp only [enumL, List.getElem?_cons_succ]
    rw [this]
    congr 1
    funext d
    rw [show j + 1 + i = j + (i + 1) by omega]
theorem enumL_len : ∀ (ds : List D) (j : Nat), (enumL j ds).length = ds.length
  | [], _ => rfl
  | d :: ds, j => by simp [enumL, enumL_len ds (j + 1)]
def mEnum : D → Option (List D)
  | .lst ds => some (enumL 0 ds)
  | _ => none
theorem fi_enum {elts : List Expr} {kk : Nat} {tpos : Pos} (hg : Gl X "enumerate") (hm : X.mg "enumerate" = none) (he : FE X (.ow 0) e f) (hs : starEach [e] X.env = [(false, eval e X.env)] := by rfl) :
    FI X (.Tuple elts kk tpos) (.Call (.Name "enumerate" p) [e] [] pos) (iB mEnum f) := PI.weak (pi_enum hg hm (pa_cons he pa_nil hs) hs) fun σ H R ⟨F, fps, st, ds, r, ed, q⟩ => by
  unfold iB at ed
  cases ef : f st with
  | none => rw [ef] at ed; cases ed
  | some d =>
    rw [ef] at ed
    refine ⟨F, fps, st, d, r, ef, fun v H1 s1 w => ?_⟩
    replace w := VR.ow0 w
    have ed : mEnum d = some ds := ed
    unfold mEnum at ed
    split at ed
    · cases ed
      obtain ⟨a, xs, e1, e2, e3⟩ := w
      subst e1
      refine ⟨a, xs, rfl, .inl (.inl (hideP_same _ _ e2)), q _ H1 s1 (fun i H A hA s => ?_)⟩
      have ea : H a = some (.lst xs) := (s.trans hideP_same) _ _ e2
      rw [enumL_len]
      refine ⟨fun h => ⟨xs, .inl (.inl ea), by rw [e3.length]; exact h⟩, fun d e => ?_⟩
      rw [enumL_get] at e
      cases en : (_ : List D)[i]? with
      | none => rw [en] at e; cases e
      | some d0 =>
        rw [en] at e; cases e
        obtain ⟨v, h1, h2⟩ := e3.get en
        refine ⟨⟨xs, v, .inl (.inl ea), h1⟩, fun x H' ⟨T, x1, y1, y2, y3, y4⟩ => ?_⟩
        subst y1 y3
        have := y4 xs (.inl (.inl ea))
        rw [h1] at this; cases this
        have sT : Same (hideP H A) (hideP (upd H T (.tup [.int ((i : Nat) : Int), v])) A) := hideP_mono (same_upd y2) fun _ _ _ h => h
        refine ⟨same_upd y2, T, _, rfl, .inl (.inl (hideP_some.mpr ⟨fun z => hA T z y2, upd_same⟩)), _, _, rfl, ?_, _, _, rfl, Rep.mono (s.trans sT) d0 v h2, rfl⟩
        show V.int _ = V.int _
        rw [Nat.zero_add]
    · cases ed
/-- zip(xs, ys) -/
def zipD : List D → List D → List D
  | x :: xs, y :: ys => .tup [x, y] :: zipD xs ys
  | _, _ => []
theorem zipD_get : ∀ (xs ys : List D) (i : Nat), (zipD xs ys)[i]? = (xs[i]?).bind fun x => (ys[i]?).map fun y => D.tup [x, y]
  | [], ys, i => by simp [zipD]
  | x :: xs, [], i => by
    simp only [zipD, List.getElem?_nil, Option.map_none]
    cases (x :: xs)[i]? <;> rfl
  | x :: xs, y :: ys, 0 => by simp [zipD]
  | x :: xs, y :: ys, i + 1 => by
    have := zipD_get xs ys i
    simp only [zipD, List.getElem?_cons_succ]
    exact this
theorem zipD_len : ∀ (xs ys : List D), (zipD xs ys).length = min xs.length ys.length
  | [], ys => by simp [zipD]
  | x :: xs, [] => by simp [zipD]
  | x :: xs, y :: ys => by simp only [zipD, List.length_cons, zipD_len xs ys]; omega
def mZip (x y : D) : Option (List D) := match x, y with
  | .lst xs, .lst ys => some (zipD xs ys)
  | _, _ => none
theorem fi_zip {elts : List Expr} {kk : Nat} {tpos : Pos} (hg : Gl X "zip") (hm : X.mg "zip" = none) (ha : FE X (.ow 0) a f) (hb : FE X (.ow 0) b g)
    (hs : starEach [a, b] X.env = (false, eval a X.env) :: starEach [b] X.env := by rfl) (hs2 : starEach [b] X.env = (false, eval b X.env) :: starEach [] X.env := by rfl) (hpl : (backTo pos (starEach [b] X.env)).any (·.1) = false := by rfl) :
    FI X (.Tuple elts kk tpos) (.Call (.Name "zip" p) [a, b] [] pos) (iBin mZip f g) := PI.weak (pi_zip hg hm (pa_cons ha (pa_cons hb pa_nil hs2) hs) hs hpl) fun σ H R ⟨F, fps, st, ds, r, ed, q⟩ => by
  unfold iBin at ed
  obtain ⟨x, y, e1, e2, e3⟩ := bind2 ed
  refine ⟨F, fps, st, x, r, e1, fun v H1 s1 w => ⟨F, fps, st, y, r.mono s1, e2, fun u H2 s2 w2 => ?_⟩⟩
  replace w := Rep.mono (hideP_mono s2 fun _ _ _ h => h) x v (VR.ow0 w)
  replace w2 := VR.ow0 w2
  unfold mZip at e3
  split at e3
  · cases e3
    obtain ⟨a, xs, a1, a2, a3⟩ := w
    obtain ⟨b, ys, b1, b2, b3⟩ := w2
    subst a1 b1
    refine ⟨a, b, xs, ys, rfl, .inl (.inl (hideP_same _ _ a2)), .inl (.inl (hideP_same _ _ b2)), q _ _ (s1.trans s2) (fun i H A hA s => ?_)⟩
    have ea : H a = some (.lst xs) := (s.trans hideP_same) _ _ a2
    have eb : H b = some (.lst ys) := (s.trans hideP_same) _ _ b2
    rw [zipD_len]
    refine ⟨fun h => ⟨xs, ys, .inl (.inl ea), .inl (.inl eb), by rw [a3.length, b3.length]; omega⟩, fun d e => ?_⟩
    rw [zipD_get] at e
    cases en : (_ : List D)[i]? with
    | none => rw [en] at e; cases e
    | some d1 =>
      rw [en] at e
      cases em : (_ : List D)[i]? with
      | none => rw [em] at e; cases e
      | some d2 =>
        rw [em] at e
        cases e
        obtain ⟨v, h1, h2⟩ := a3.get en
        obtain ⟨u, k1, k2⟩ := b3.get em
        refine ⟨⟨xs, ys, v, u, .inl (.inl ea), .inl (.inl eb), h1, k1⟩, fun x H' ⟨T, x1, z1, y1, y2, y3, y4, y5⟩ => ?_⟩
        subst y1 y3
        have := y4 xs (.inl (.inl ea))
        rw [h1] at this; cases this
        have := y5 ys (.inl (.inl eb))
        rw [k1] at this; cases this
        have sT : Same (hideP H A) (hideP (upd H T (.tup [v, u])) A) := hideP_mono (same_upd y2) fun _ _ _ h => h
        exact ⟨same_upd y2, T, _, rfl, .inl (.inl (hideP_some.mpr ⟨fun z => hA T z y2, upd_same⟩)), _, _, rfl, Rep.mono (s.trans sT) d1 v h2, _, _, rfl, Rep.mono (s.trans sT) d2 u k2, rfl⟩
  · cases e3
end
end FL

namespace FL
open PySem PySem.Spec PyProof.Rows L2

/-! ### statements -/
inductive Out where
  | nx (st : Sl) | bk (st : Sl) | ct (st : Sl) | rt (d : D) (st : Sl)
abbrev SM := Sl → Option Out
def RetOk (K : PySem.W.Frag) (F : Fr) (H : Hp) (k : Nat) (d : D) (v : V) (st : Sl) : Prop := ∃ (fps : Fps) (fp : List Addr), fp.Nodup ∧ (∀ i, (fps i).Nodup) ∧ (∀ i j a, a ∈ fps i → a ∈ fps j → i = j) ∧ (∀ i a, a ∈ fps i → a ∉ fp) ∧
  Same F.G (hideP H (own2 fps fp)) ∧ Own K H (hideP H (own2 fps fp)) d k v fp ∧ ∀ (i k' : Nat) (d' : D), st[i]? = some (.io k' d') → Own K H (hideP H (own2 fps fp)) d' k' (F.pin i) (fps i)
def Cont (K : PySem.W.Frag) (F : Fr) (k : Nat) (Dn : Ends) : Out → Prop
  | .nx st => ∀ σ H, StRep K F σ H st → Dn.nx σ H
  | .bk st => ∀ σ H, StRep K F σ H st → Dn.bk σ H
  | .ct st => ∀ σ H, StRep K F σ H st → Dn.ct σ H
  | .rt d st => ∀ v H, RetOk K F H k d v st → Dn.rt v H
def tFS (K : PySem.W.Frag) (k : Nat) (g : SM) : TS := fun Dn σ H => ∃ F st o, StRep K F σ H st ∧ g st = some o ∧ Cont K F k Dn o
abbrev FS (X : Cx) (k : Nat) (s : Stmt) (g : SM) : Prop := PS X s (tFS X.K k g)
abbrev FSs (X : Cx) (k : Nat) (s : List Stmt) (g : SM) : Prop := PSs X s (tFS X.K k g)

section
variable {X : Cx} {k : Nat} {kd : Kd} {e a b c tg : Expr} {es : List Expr} {f g h : EM} {t : TM} {s1 s2 s3 : SM} {st : Stmt} {rest as bs : List Stmt} {pos p : Pos} {K : PySem.W.Frag}
def sNil : SM := fun st => some (.nx st)
def sSeq (g1 g2 : SM) : SM := fun st => (g1 st).bind fun o => match o with
  | .nx st' => g2 st'
  | o => some o
theorem fss_nil : FSs X k [] sNil := PSs.weak pss_nil fun Dn σ H ⟨F, st, o, r, e, c⟩ => by
  cases e
  exact c σ H r
theorem fss_cons (h1 : FS X k st s1) (h2 : FSs X k rest s2) : FSs X k (st :: rest) (sSeq s1 s2) := PSs.weak (pss_cons h1 h2) fun Dn σ H ⟨F, st, o, r, e, c⟩ => by
  unfold sSeq at e
  cases e1 : s1 st with
  | none => rw [e1] at e; cases e
  | some o1 =>
    rw [e1] at e
    refine ⟨F, st, o1, r, e1, ?_⟩
    cases o1 with
    | nx st1 => exact fun σ' H' r' => ⟨F, st1, o, r', e, c⟩
    | bk _ => cases e; exact c
    | ct _ => cases e; exact c
    | rt _ _ => cases e; exact c
theorem fss_one (h1 : FS X k st s1) : FSs X k [st] s1 := pss_one h1
def sIf (t : TM) (g1 g2 : SM) : SM := fun st => (t st).bind fun b => if b = true then g1 st else g2 st
theorem fs_if (hc : FT X c t) (ha : FSs X k as s1) (hb : FSs X k bs s2) : FS X k (.If c as bs pos) (sIf t s1 s2) := PS.weak (ps_if hc ha hb) fun Dn σ H ⟨F, st, o, ⟨fps, r⟩, e, c⟩ => by
  unfold sIf at e
  cases e1 : t st with
  | none => rw [e1] at e; cases e
  | some b =>
    rw [e1] at e
    refine ⟨F, fps, st, b, r, e1, fun H1 q1 => ?_⟩
    cases b with
    | true => exact ⟨F, st, o, ⟨fps, r.mono q1⟩, e, c⟩
    | false => exact ⟨F, st, o, ⟨fps, r.mono q1⟩, e, c⟩
theorem fs_pass : FS X k (.Pass pos) sNil := PS.weak ps_pass fun Dn σ H ⟨F, st, o, r, e, c⟩ => by
  cases e
  exact c σ H r
def sBrk : SM := fun st => some (.bk st)
def sCt : SM := fun st => some (.ct st)
theorem fs_break : FS X k (.Break pos) sBrk := PS.weak ps_break fun Dn σ H ⟨F, st, o, r, e, c⟩ => by
  cases e
  exact c σ H r
theorem fs_continue : FS X k (.Continue pos) sCt := PS.weak ps_continue fun Dn σ H ⟨F, st, o, r, e, c⟩ => by
  cases e
  exact c σ H r
/-- a statement that is never come to (a raise) -/
def sNo : SM := fun _ => none
theorem fs_no : FS X k st sNo := ⟨fun _ _ σ H _ _ ⟨_, _, _, _, e, _⟩ => by cases e⟩
/-- an expression whose value is dropped -/
def sExp (f : EM) : SM := fun st => (f st).map fun _ => .nx st
theorem fs_exp (he : FE X kd e f) (hs : swapsWith e none pos.line X.env = pure false := by rfl) : FS X k (.Expr e pos) (sExp f) := PS.weak (ps_expr he hs) fun Dn σ H ⟨F, st, o, ⟨fps, r⟩, e, c⟩ => by
  unfold sExp at e
  cases e1 : f st with
  | none => rw [e1] at e; cases e
  | some b =>
    rw [e1] at e; cases e
    exact ⟨F, fps, st, b, r, e1, fun v H1 q1 w => c σ H1 ⟨fps, r.mono q1⟩⟩

/-! ### return -/
def sRet (f : EM) : SM := fun st => (f st).map fun d => .rt d st
theorem StR.ret {F : Fr} {fps : Fps} {σ : L2.St} {H H1 : Hp} {st : Sl} {d : D} {v : V} (r : StR K F fps σ H st) (q1 : Same H H1) (w : VR K fps H H1 (.ow k) d v) : RetOk K F H1 k d v st := by
  obtain ⟨fp, n, fr, w⟩ := w
  have r1 := r.mono q1
  have sm : Same (hideP H (own fps)) (hideP H1 (own2 fps fp)) := hideP_mono q1 fun a o e h z => by
    rcases z with m | z
    · rw [fr a m] at e; cases e
    · exact h z
  refine ⟨fps, fp, n, r.nd, r.dj, fun i a m m2 => r.there ⟨i, m⟩ (fr a m2), r.fr.trans sm, w, fun i k' d' e => ?_⟩
  obtain ⟨_, o⟩ := r.io e
  refine Own.mono sm d' k' _ _ (fun a m => ?_) o
  obtain ⟨_, e, _⟩ := r.isLst ⟨i, m⟩
  rw [e]; exact q1 _ _ e
theorem fs_ret (he : FE X (.ow k) e f) : FS X k (.Return (some e) pos) (sRet f) := PS.weak (ps_ret he) fun Dn σ H ⟨F, st, o, ⟨fps, r⟩, e, c⟩ => by
  unfold sRet at e
  cases e1 : f st with
  | none => rw [e1] at e; cases e
  | some d =>
    rw [e1] at e; cases e
    exact ⟨F, fps, st, d, r, e1, fun v H1 q1 w => c v H1 (r.ret q1 w)⟩
theorem fs_retN : FS X k (.Return none pos) (sRet (eC .non)) := PS.weak ps_retN fun Dn σ H ⟨F, st, o, ⟨fps, r⟩, e, c⟩ => by
  cases e
  exact c .non H (r.ret (Same.refl H) (VR.sc (d := .non) rfl rfl))
/-- return x, x's own lists handed over -/
def sRetV (k i : Nat) : SM := fun st => match st[i]? with
  | some (.va k' d) => if k' = k then some (.rt d (st.set i .un)) else none
  | _ => none
theorem fs_retV {i : Nat} (he : PE X e (tVar i)) : FS X k (.Return (some e) pos) (sRetV k i) := PS.weak (ps_ret he) fun Dn σ H ⟨F, st, o, ⟨fps, r⟩, e, c⟩ => by
  unfold sRetV at e
  split at e
  · rename_i k' d hs
    split at e
    · rename_i hk
      subst hk
      cases e
      obtain ⟨v, e1, w⟩ := r.va hs
      refine ⟨v, e1, c v H ?_⟩
      have r2 := r.unset (i := i)
      have sm : Same (hideP H (own fps)) (hideP H (own2 (setF fps i []) (fps i))) := hideP_mono (Same.refl _) fun a o e h z => by
        rcases z with m | z
        · exact h ⟨i, m⟩
        · rcases own_setF z with m | z
          · cases m
          · exact h z
      refine ⟨setF fps i [], fps i, r.nd i, r2.nd, r2.dj, fun j a m m2 => ?_, r.fr.trans sm, Own.mono sm d _ v _ (fun _ _ => rfl) w, fun j k' d' e => ?_⟩
      · by_cases ej : j = i
        · subst ej; rw [setF_same] at m; cases m
        · rw [setF_ne ej] at m
          exact ej (r.dj j i a m m2)
      · by_cases ej : j = i
        · subst ej
          rw [List.getElem?_set_self (List.getElem?_eq_some_iff.mp hs).1] at e; cases e
        · rw [List.getElem?_set_ne (Ne.symm ej)] at e
          rw [setF_ne ej]
          exact Own.mono sm d' k' _ _ (fun _ _ => rfl) (r.io e).2
    · cases e
  · cases e

/-! ### names stored -/
def isVa : Option Slot → Bool
  | some .un => true
  | some (.va _ _) => true
  | _ => false
def sSet (i k : Nat) (f : EM) : SM := fun st => if isVa st[i]? = true then (f st).map fun d => .nx (st.set i (.va k d)) else none
theorem isVa_lt {st : Sl} {i : Nat} (h : isVa st[i]? = true) : i < st.length := by
  by_cases hi : i < st.length
  · exact hi
  · rw [List.getElem?_eq_none (by omega)] at h; cases h
theorem tF_set {i k' : Nat} {Dn : Ends} {σ : L2.St} {H : Hp} (h : tFS K k (sSet i k' f) Dn σ H) : tAsg (tF K (.ow k') f) (gName i) Dn σ H := by
  obtain ⟨F, st, o, ⟨fps, r⟩, e, c⟩ := h
  unfold sSet at e
  split at e
  · rename_i hi
    cases e1 : f st with
    | none => rw [e1] at e; cases e
    | some d =>
      rw [e1] at e; cases e
      refine ⟨F, fps, st, d, r, e1, fun v H1 q1 w => ?_⟩
      obtain ⟨fp, n, fr, w⟩ := w
      exact c _ H1 ⟨_, r.set q1 (isVa_lt hi) n fr w⟩
  · cases e
theorem fs_set {i k' : Nat} {x : Str} {pos' : Pos} (hN : X.N.Nodup) (hi : X.N[i]? = some x) (hx : Loc X.env.scope x) (he : FE X (.ow k') e f) (hs : swapsWith e (some (.Name x pos')) pos.line X.env = pure false := by rfl) (hf : X.fn x = true ∨ X.env.scope.names.lookup x = some .local := by first | exact .inl rfl | exact .inr rfl | assumption) :
    FS X k (.Assign [.Name x pos'] e pos) (sSet i k' f) := PS.weak (ps_set hN hi hx he hs hf) fun _ _ _ => tF_set
/-- x op= e of ints -/
def sAug (m : D → D → Option D) (i : Nat) (f : EM) : SM := fun st => if isVa st[i]? = true then (eBin m (eVar i) f st).map fun d => .nx (st.set i (.va 0 d)) else none
def ScI (m : D → D → Option D) (ti : TIp) : Prop := ∀ (K : PySem.W.Frag) (x y : V) (H : Hp) (Q : VK) (dx dy d : D), Rep K H dx x → Rep K H dy y → m dx dy = some d → sc d = true ∧ (Q (scV d) H → ti x y H Q)
theorem fs_aug {i : Nat} {x : Str} {pos' : Pos} {op : Operator} {m : D → D → Option D} {ti : TIp} (ho : PIp X op ti) (hm : ScI m ti) (hN : X.N.Nodup) (hi : X.N[i]? = some x) (hx : Loc X.env.scope x) (he : FE X .rd e f) (hf : X.fn x = true ∨ X.env.scope.names.lookup x = some .local := by first | exact .inl rfl | exact .inr rfl | assumption) :
    FS X k (.AugAssign (.Name x pos') op e pos) (sAug m i f) := PS.weak (ps_aug hN hi hx he ho hf) fun Dn σ H ⟨F, st, o, ⟨fps, r⟩, e, c⟩ => by
  unfold sAug at e
  split at e
  · rename_i hv
    cases e1 : eBin m (eVar i) f st with
    | none => rw [e1] at e; cases e
    | some d =>
      rw [e1] at e; cases e
      obtain ⟨x, y, h1, h2, h3⟩ := bind2 e1
      obtain ⟨v, k', hv1, hv2⟩ := r.look h1
      refine ⟨v, hv1, F, fps, st, y, r, h2, fun u H1 q1 w => ?_⟩
      obtain ⟨z1, z2⟩ := hm X.K v u H1 (fun z H2 => Dn.nx (σ.set i (some z)) H2) x y d (Rep.mono q1 x v (Own.rep hideP_same x k' v _ (fun _ _ => rfl) hv2)) w h3
      refine z2 (c _ H1 ⟨_, r.set (fp := []) q1 (isVa_lt hv) List.nodup_nil (fun a m => (by cases m)) ?_⟩)
      cases d <;> first | exact ⟨rfl, rfl⟩ | cases z1
  · cases e
theorem sci_add : ScI mAddI (ipI fun i j => i + j) := fun K x y H Q dx dy d rx ry e => by
  obtain ⟨i, j, rfl, rfl, _, rfl⟩ := mI_some e
  exact ⟨rfl, fun q => ⟨i, j, rx, ry, q⟩⟩
theorem sci_sub : ScI mSub (ipI fun i j => i - j) := fun K x y H Q dx dy d rx ry e => by
  obtain ⟨i, j, rfl, rfl, _, rfl⟩ := mI_some e
  exact ⟨rfl, fun q => ⟨i, j, rx, ry, q⟩⟩

/-! ### targets of shared data -/
abbrev GM := D → Sl → Option Sl
abbrev GMs := List D → Sl → Option Sl
def But (I : List Nat) (σ σ' : L2.St) : Prop := σ'.length = σ.length ∧ ∀ j, j ∉ I → σ'[j]? = σ[j]?
/-- fps' is fps with nothing at I -/
def ButF (I : List Nat) (fps fps' : Fps) : Prop := ∀ j, fps' j = if j ∈ I then [] else fps j
def tFG (K : PySem.W.Frag) (I : List Nat) (m : GM) : TG := fun v σ H Q => ∃ F fps st d st', StR K F fps σ H st ∧ Rep K (hideP H (own fps)) d v ∧ m d st = some st' ∧ ∀ σ' fps', StR K F fps' σ' H st' → Same (hideP H (own fps)) (hideP H (own fps')) → But I σ σ' → ButF I fps fps' → Q σ' H
def tFGs (K : PySem.W.Frag) (I : List Nat) (m : GMs) : TGs := fun v σ H Q => ∃ F fps st d st', StR K F fps σ H st ∧ RepL K (hideP H (own fps)) d v ∧ m d st = some st' ∧ ∀ σ' fps', StR K F fps' σ' H st' → Same (hideP H (own fps)) (hideP H (own fps')) → But I σ σ' → ButF I fps fps' → Q σ' H
abbrev FG (X : Cx) (I : List Nat) (tg : Expr) (m : GM) : Prop := PG X tg (tFG X.K I m)
abbrev FGs (X : Cx) (I : List Nat) (tg : List Expr) (m : GMs) : Prop := PGs X tg (tFGs X.K I m)
variable {I J : List Nat}
def gNm (i : Nat) : GM := fun d st => if isVa st[i]? = true then some (st.set i (.va 0 d)) else none
theorem fg_name {i : Nat} {x : Str} (hN : X.N.Nodup) (hi : X.N[i]? = some x) (hx : Loc X.env.scope x) (hf : X.fn x = true ∨ X.env.scope.names.lookup x = some .local := by first | exact .inl rfl | exact .inr rfl | assumption) : FG X [i] (.Name x pos) (gNm i) :=
  PG.weak (pg_name hN hi hx hf) fun v σ H Q ⟨F, fps, st, d, st', r, w, e, q⟩ => by
    unfold gNm at e
    split at e
    · rename_i hv
      cases e
      refine q _ _ (r.set (fp := []) (Same.refl H) (isVa_lt hv) List.nodup_nil (fun a m => (by cases m)) (Own.shared d v (Rep.mono (hideP_mono (Same.refl _) fun a o _ h z => h (z.resolve_left fun m => by cases m)) d v w))) (hideP_mono (Same.refl _) fun a o _ h z => ?_) ⟨List.length_set, fun j hj => List.getElem?_set_ne (fun z => hj (by simp [z]))⟩ fun j => ?_
      · rcases own_setF z with m | z
        · cases m
        · exact h z
      · by_cases e : j = i
        · subst e; rw [setF_same, if_pos (by simp)]
        · rw [setF_ne e, if_neg (by simpa using e)]
    · cases e
def gsNil : GMs := fun ds st => match ds with
  | [] => some st
  | _ => none
def gsCons (m : GM) (n : GMs) : GMs := fun ds st => match ds with
  | d :: r => (m d st).bind fun st' => n r st'
  | _ => none
theorem fgs_nil : FGs X [] [] gsNil := PGs.weak pgs_nil fun v σ H Q ⟨F, fps, st, d, st', r, w, e, q⟩ => by
  unfold gsNil at e
  split at e
  · cases e
    exact ⟨w, q σ fps r (Same.refl _) ⟨rfl, fun _ _ => rfl⟩ fun j => (if_neg (by simp)).symm⟩
  · cases e
theorem fgs_cons {m : GM} {n : GMs} (h1 : FG X I e m) (h2 : FGs X J es n) (hs : (assignEach (e :: es) X.env).map (·.2) = assign e X.env :: (assignEach es X.env).map (·.2) := by rfl) : FGs X (I ++ J) (e :: es) (gsCons m n) := PGs.weak (pgs_cons h1 h2 hs) fun v σ H Q ⟨F, fps, st, d, st', r, w, e, q⟩ => by
  unfold gsCons at e
  split at e
  · rename_i d0 ds
    cases e1 : m d0 st with
    | none => rw [e1] at e; cases e
    | some st1 =>
      rw [e1] at e
      obtain ⟨v0, r0, ev, w1, w2⟩ := w
      exact ⟨v0, r0, ev, F, fps, st, d0, st1, r, w1, e1, fun σ1 fps1 r1 sm bt bf => ⟨F, fps1, st1, ds, st', r1, RepL.mono sm ds r0 w2, e, fun σ2 fps2 r2 sm2 bt2 bf2 => q σ2 fps2 r2 (sm.trans sm2) ⟨bt2.1.trans bt.1, fun j hj => (bt2.2 j fun z => hj (List.mem_append_right _ z)).trans (bt.2 j fun z => hj (List.mem_append_left _ z))⟩ fun j => by
        rw [bf2 j, bf j]
        by_cases h1 : j ∈ I <;> by_cases h2 : j ∈ J <;> simp [h1, h2]⟩⟩
  · cases e
def gTp (n : Nat) (m : GMs) : GM := fun d st => match d with
  | .tup ds => if ds.length = n then m ds st else none
  | _ => none
theorem fg_tup {es : List Expr} {kk : Nat} {m : GMs} {n : Nat} (hc : X.calm = true) (h : FGs X I es m) (hn : (assignEach es X.env).length = n := by rfl) (hst : (assignEach es X.env).findIdx? (·.1) = none := by rfl) : FG X I (.Tuple es kk pos) (gTp n m) :=
  PG.weak (pg_tup hc h hn hst) fun v σ H Q ⟨F, fps, st, d, st', r, w, e, q⟩ => by
    unfold gTp at e
    split at e
    · split at e
      · rename_i hl
        obtain ⟨a, xs, e1, e2, e3⟩ := w
        exact ⟨a, xs, e1, Same.sqt hideP_same e2, by rw [e3.length]; exact hl, F, fps, st, _, st', r, e3, e, q⟩
      · cases e
    · cases e
/-- target = e, shared -/
def sAsg (m : GM) (f : EM) : SM := fun st => (f st).bind fun d => (m d st).map .nx
theorem fs_asg {m : GM} (he : FE X (.ow 0) e f) (hg : FG X I tg m) (hs : swapsWithSole [tg] e pos.line X.env = pure false := by rfl) (hw : swappedStores [tg] e X.env = pure none := by rfl)
    (h1 : (assignEach [tg] X.env).map (·.2) = [assign tg X.env] := by rfl) : FS X k (.Assign [tg] e pos) (sAsg m f) := PS.weak (ps_asg he hg hs hw h1) fun Dn σ H ⟨F, st, o, ⟨fps, r⟩, e, c⟩ => by
  unfold sAsg at e
  cases e1 : f st with
  | none => rw [e1] at e; cases e
  | some d =>
    rw [e1] at e
    have e : (m d st).map Out.nx = some o := e
    cases e2 : m d st with
    | none => rw [e2] at e; cases e
    | some st' =>
      rw [e2] at e; cases e
      exact ⟨F, fps, st, d, r, e1, fun v H1 q1 w => ⟨F, fps, st, d, st', r.mono q1, VR.ow0 w, e2, fun σ' fps' r' _ _ _ => c σ' H1 ⟨fps', r'⟩⟩⟩

/-! ### for -/
def forL (m : GM) (body : SM) : List D → SM
  | [], st => some (.nx st)
  | d :: ds, st => (m d st).bind fun st1 => (body st1).bind fun o => match o with
    | .nx st2 => forL m body ds st2
    | .ct st2 => forL m body ds st2
    | .bk st2 => some (.nx st2)
    | .rt d st2 => some (.rt d st2)
def sFor (its : IM) (m : GM) (body : SM) : SM := fun st => (its st).bind fun ds => forL m body ds st
theorem fs_for {its : IM} {m : GM} {body : List Stmt} (hp : PassesOwn (model X.prog X.w) X.A X.env X.xe) (hc : X.calm = true) (hi : FI X tg e its) (hg : FG X I tg m) (hb : FSs X k body s1)
    (hs : ∀ x, foldedSetIterable e X.env x = pure x := by intro _; rfl) : FS X k (.For tg e body [] pos) (sFor its m s1) := PS.weak (ps_for hp hc hi hg hb hs) fun Dn σ H ⟨F, st, o, ⟨fps, r⟩, e, c⟩ => by
  unfold sFor at e
  cases e1 : its st with
  | none => rw [e1] at e; cases e
  | some ds =>
    rw [e1] at e
    have e : forL m s1 ds st = some o := e
    refine ⟨F, fps, st, ds, r, e1, fun J H1 q1 dl => ?_⟩
    have r1 := r.mono q1
    -- the frame whose base is all that is frozen here
    refine ⟨fun i n σ' H' => n = ds.length - i ∧ i ≤ ds.length ∧ ∃ fps' st', StR X.K ⟨hideP H1 (own fps), F.pin⟩ fps' σ' H' st' ∧ forL m s1 (ds.drop i) st' = some o, ⟨ds.length, by simp, Nat.zero_le _, fps, st, ⟨Same.refl _, r1.nd, r1.dj, r1.len, r1.ok, r1.tmp, r1.fin⟩, e⟩, ?_⟩
    rintro i n σ' H' ⟨rfl, hi, fps', st', r', e'⟩
    have weak : ∀ {fps2 : Fps} {σ2 : L2.St} {H2 : Hp} {st2 : Sl}, StR X.K ⟨hideP H1 (own fps), F.pin⟩ fps2 σ2 H2 st2 → StR X.K F fps2 σ2 H2 st2 := fun x => ⟨r1.fr.trans x.fr, x.nd, x.dj, x.len, x.ok, x.tmp, x.fin⟩
    have dl' := dl i H' (own fps') (fun a h => r'.there h) r'.fr
    by_cases hlt : i < ds.length
    · have ed : ds.drop i = ds[i] :: ds.drop (i + 1) := List.drop_eq_getElem_cons hlt
      rw [ed] at e'
      obtain ⟨hgo, hy⟩ := dl'.2 ds[i] (by simp [hlt])
      refine .inr ⟨hgo, fun σ2 H2 => ∃ fps2 st2, StR X.K ⟨hideP H1 (own fps), F.pin⟩ fps2 σ2 H2 st2 ∧ forL m s1 (ds.drop (i + 1)) st2 = some o, fun σ2 H2 ⟨fps2, st2, r2, e2⟩ => ⟨ds.length - (i + 1), by omega, rfl, hlt, fps2, st2, r2, e2⟩, fun x H2 y => ?_⟩
      obtain ⟨sx, rx⟩ := hy x H2 y
      have e' : ((m ds[i] st').bind fun st1 => (s1 st1).bind fun o => match o with
        | .nx st2 => forL m s1 (ds.drop (i + 1)) st2
        | .ct st2 => forL m s1 (ds.drop (i + 1)) st2
        | .bk st2 => some (.nx st2)
        | .rt d st2 => some (.rt d st2)) = some o := e'
      cases em : m ds[i] st' with
      | none => rw [em] at e'; cases e'
      | some st1 =>
        rw [em] at e'
        refine ⟨⟨hideP H1 (own fps), F.pin⟩, fps', st', ds[i], st1, r'.mono sx, rx, em, fun σ3 fps3 r3 _ _ _ => ?_⟩
        have e' : ((s1 st1).bind fun o => match o with
          | .nx st2 => forL m s1 (ds.drop (i + 1)) st2
          | .ct st2 => forL m s1 (ds.drop (i + 1)) st2
          | .bk st2 => some (.nx st2)
          | .rt d st2 => some (.rt d st2)) = some o := e'
        cases eb : s1 st1 with
        | none => rw [eb] at e'; cases e'
        | some ob =>
          rw [eb] at e'
          refine ⟨⟨hideP H1 (own fps), F.pin⟩, st1, ob, ⟨fps3, r3⟩, eb, ?_⟩
          cases ob with
          | nx st2 => exact fun σ4 H4 ⟨fps4, r4⟩ => ⟨fps4, st2, r4, e'⟩
          | ct st2 => exact fun σ4 H4 ⟨fps4, r4⟩ => ⟨fps4, st2, r4, e'⟩
          | bk st2 =>
            cases e'
            exact fun σ4 H4 ⟨fps4, r4⟩ => c σ4 H4 ⟨fps4, weak r4⟩
          | rt d st2 =>
            cases e'
            exact fun v H4 ⟨fps4, fp4, h1, h2, h3, h4, h5, h6, h7⟩ => c v H4 ⟨fps4, fp4, h1, h2, h3, h4, r1.fr.trans h5, h6, h7⟩
    · have hz : ds.length ≤ i := by omega
      rw [List.drop_eq_nil_of_le hz] at e'
      cases e'
      exact .inl ⟨dl'.1 hz, c σ' H' ⟨fps', weak r'⟩⟩

/-! ### while -/
def whileL (t : TM) (body : SM) : Nat → SM
  | 0, _ => none
  | n + 1, st => (t st).bind fun b => if b = true then ((body st).bind fun o => match o with
    | .nx st2 => whileL t body n st2
    | .ct st2 => whileL t body n st2
    | .bk st2 => some (.nx st2)
    | .rt d st2 => some (.rt d st2)) else some (.nx st)
/-- fuel: how many turns at most -/
def sWhile (fuel : Sl → Nat) (t : TM) (body : SM) : SM := fun st => whileL t body (fuel st) st
theorem fs_while {fuel : Sl → Nat} {body : List Stmt} (hp : PassesOwn (model X.prog X.w) X.A X.env X.xe) (hc : FT X c t) (hb : FSs X k body s1) : FS X k (.While c body [] pos) (sWhile fuel t s1) := PS.weak (ps_while hp hc hb) fun Dn σ H ⟨F, st, o, ⟨fps, r⟩, e, cc⟩ => by
  unfold sWhile at e
  refine ⟨fun n σ' H' => ∃ fps' st', StR X.K F fps' σ' H' st' ∧ whileL t s1 n st' = some o, ⟨fuel st, fps, st, r, e⟩, ?_⟩
  rintro n σ' H' ⟨fps', st', r', e'⟩
  cases n with
  | zero => cases e'
  | succ n =>
    have e' : ((t st').bind fun b => if b = true then ((s1 st').bind fun o => match o with
      | .nx st2 => whileL t s1 n st2
      | .ct st2 => whileL t s1 n st2
      | .bk st2 => some (.nx st2)
      | .rt d st2 => some (.rt d st2)) else some (.nx st')) = some o := e'
    cases et : t st' with
    | none => rw [et] at e'; cases e'
    | some b =>
      rw [et] at e'
      refine ⟨F, fps', st', b, r', et, fun H1 q1 => ?_⟩
      cases b with
      | false =>
        cases e'
        exact cc σ' H1 ⟨fps', r'.mono q1⟩
      | true =>
        have e' : ((s1 st').bind fun o => match o with
          | .nx st2 => whileL t s1 n st2
          | .ct st2 => whileL t s1 n st2
          | .bk st2 => some (.nx st2)
          | .rt d st2 => some (.rt d st2)) = some o := e'
        refine ⟨fun σ2 H2 => ∃ fps2 st2, StR X.K F fps2 σ2 H2 st2 ∧ whileL t s1 n st2 = some o, fun σ2 H2 ⟨fps2, st2, r2, e2⟩ => ⟨n, by omega, fps2, st2, r2, e2⟩, ?_⟩
        cases eb : s1 st' with
        | none => rw [eb] at e'; cases e'
        | some ob =>
          rw [eb] at e'
          refine ⟨F, st', ob, ⟨fps', r'.mono q1⟩, eb, ?_⟩
          cases ob with
          | nx st2 => exact fun σ4 H4 ⟨fps4, r4⟩ => ⟨fps4, st2, r4, e'⟩
          | ct st2 => exact fun σ4 H4 ⟨fps4, r4⟩ => ⟨fps4, st2, r4, e'⟩
          | bk st2 => cases e'; exact cc
          | rt d st2 => cases e'; exact cc
end
end FL

namespace FL
open PySem PySem.Spec PyProof.Rows L2

section
variable {K : PySem.W.Frag} {F : Fr} {fps : Fps} {σ : L2.St} {H H1 H' : Hp} {st : Sl}
/-- a list of one's own is changed in place (its node A), at the place i of the footprints -/
theorem StR.bump {i : Nat} {A : Addr} {o : HO} {fp' : List Addr} {st' : Sl} (r : StR K F fps σ H st) (s : Same H H1) (hA : A ∈ fps i) (mo : MutO o)
    (nd : fp'.Nodup) (sub : ∀ a ∈ fp', a ∈ fps i ∨ (H a = none ∧ ∃ o, H1 a = some o ∧ MutO o)) (hl : st'.length = st.length) (hs : ∀ j, j ≠ i → st'[j]? = st[j]?)
    (hok : ∀ sl, st'[i]? = some sl → (∀ B : Addr → Prop, (∀ a o', H a = some o' → ¬ own fps a → ¬ B a) → Same (hideP H (own fps)) (hideP (upd H1 A o) B)) → SlotOk K (upd H1 A o) (hideP (upd H1 A o) (own (setF fps i fp'))) (F.pin i) sl σ[i]? fp') :
    StR K F (setF fps i fp') σ (upd H1 A o) st' := by
  have gen : ∀ B : Addr → Prop, (∀ a o', H a = some o' → ¬ own fps a → ¬ B a) → Same (hideP H (own fps)) (hideP (upd H1 A o) B) := fun B hB a o' e => by
    obtain ⟨e1, e2⟩ := hideP_some.mp e
    refine hideP_some.mpr ⟨hB a o' e2 e1, ?_⟩
    rw [upd_ne (fun z => e1 ⟨i, by rw [z]; exact hA⟩)]
    exact s _ _ e2
  have hide : Same (hideP H (own fps)) (hideP (upd H1 A o) (own (setF fps i fp'))) := gen _ fun a o' e h z => by
    rcases own_setF z with m | z
    · rcases sub a m with m | ⟨m, _⟩
      · exact h ⟨i, m⟩
      · rw [m] at e; cases e
    · exact h z
  refine ⟨r.fr.trans hide, fun j => ?_, fun j j' a m1 m2 => ?_, by rw [hl]; exact r.len, fun j sl e => ?_, fun j a h m => ?_, ?_⟩
  · by_cases e : j = i
    · rw [e, setF_same]; exact nd
    · rw [setF_ne e]; exact r.nd j
  · by_cases e1 : j = i <;> by_cases e2 : j' = i
    · rw [e1, e2]
    · rw [e1, setF_same] at m1; rw [setF_ne e2] at m2
      rcases sub a m1 with m | ⟨m, _⟩
      · exact absurd (r.dj i j' a m m2) (Ne.symm e2)
      · exact absurd m (r.there ⟨j', m2⟩)
    · rw [setF_ne e1] at m1; rw [e2, setF_same] at m2
      rcases sub a m2 with m | ⟨m, _⟩
      · exact absurd (r.dj j i a m1 m) e1
      · exact absurd m (r.there ⟨j, m1⟩)
    · rw [setF_ne e1] at m1; rw [setF_ne e2] at m2
      exact r.dj j j' a m1 m2
  · by_cases e1 : j = i
    · subst e1
      rw [setF_same]
      exact hok sl e gen
    · rw [hs j e1] at e
      rw [setF_ne e1]
      exact (r.ok j sl e).mono hide fun a m => by
        rw [upd_ne (fun z => e1 (r.dj j i a m (by rw [z]; exact hA)))]
        obtain ⟨_, q, mq⟩ := r.isLst ⟨j, m⟩
        rw [q]; exact s _ _ q
  · rw [hl] at h
    by_cases eA : a = A
    · exact ⟨o, by rw [eA, upd_same], mo⟩
    · rw [upd_ne eA]
      by_cases e1 : j = i
      · rw [e1, setF_same] at m
        rcases sub a m with m | ⟨_, q⟩
        · obtain ⟨_, q, mq⟩ := r.isLst ⟨i, m⟩
          exact ⟨_, s _ _ q, mq⟩
        · exact q
      · rw [setF_ne e1] at m
        obtain ⟨_, q, mq⟩ := r.tmp j a h m
        exact ⟨_, s _ _ q, mq⟩
  · obtain ⟨m, hm⟩ := r.fin
    refine ⟨max m (i + 1), fun j h => ?_⟩
    rw [setF_ne (by have := Nat.le_max_right m (i + 1); omega)]
    exact hm j (by have := Nat.le_max_left m (i + 1); omega)

/-! ### list comprehensions -/
def wipeS (st : Sl) : List Nat → Sl
  | [] => st
  | v :: vs => (wipeS st vs).set v .un
def isV0 : Option Slot → Bool
  | some .un => true
  | some (.va 0 _) => true
  | _ => false
theorem wipeS_length (st : Sl) : ∀ vs : List Nat, (wipeS st vs).length = st.length
  | [] => rfl
  | v :: vs => by unfold wipeS; rw [List.length_set, wipeS_length st vs]
theorem wipeS_get {st : Sl} {i : Nat} : ∀ {vs : List Nat}, (wipeS st vs)[i]? = if i ∈ vs ∧ i < st.length then some .un else st[i]?
  | [] => by simp [wipeS]
  | v :: vs => by
    unfold wipeS
    by_cases hi : v = i
    · subst hi
      by_cases hv : v < st.length
      · rw [List.getElem?_set_self (by rw [wipeS_length]; exact hv), if_pos ⟨by simp, hv⟩]
      · rw [List.getElem?_eq_none (by rw [List.length_set, wipeS_length]; omega), if_neg (fun z => hv z.2), List.getElem?_eq_none (by omega)]
    · rw [List.getElem?_set_ne hi, wipeS_get]
      by_cases h : i ∈ vs ∧ i < st.length
      · rw [if_pos h, if_pos ⟨by simp [h.1], h.2⟩]
      · rw [if_neg h, if_neg (fun z => h ⟨(List.mem_cons.mp z.1).resolve_left (Ne.symm hi), z.2⟩)]
theorem wipe_get {σ : L2.St} {i : Nat} : ∀ {vs : List Nat}, (wipe σ vs)[i]? = if i ∈ vs ∧ i < σ.length then some none else σ[i]?
  | [] => by simp [wipe]
  | v :: vs => by
    unfold wipe
    by_cases hi : v = i
    · subst hi
      by_cases hv : v < σ.length
      · rw [List.getElem?_set_self (by rw [wipe_length]; exact hv), if_pos ⟨by simp, hv⟩]
      · rw [List.getElem?_eq_none (by rw [List.length_set, wipe_length]; omega), if_neg (fun z => hv z.2), List.getElem?_eq_none (by omega)]
    · rw [List.getElem?_set_ne hi, wipe_get]
      by_cases h : i ∈ vs ∧ i < σ.length
      · rw [if_pos h, if_pos ⟨by simp [h.1], h.2⟩]
      · rw [if_neg h, if_neg (fun z => h ⟨(List.mem_cons.mp z.1).resolve_left (Ne.symm hi), z.2⟩)]
theorem wipe_but {σ' : L2.St} {I vs : List Nat} (b : But I (wipe σ vs) σ') (hI : ∀ i ∈ I, i ∈ vs) : wipe σ' vs = wipe σ vs := by
  have hl : σ'.length = σ.length := by rw [b.1, wipe_length]
  apply List.ext_getElem?
  intro i
  rw [wipe_get, wipe_get, hl]
  by_cases h : i ∈ vs ∧ i < σ.length
  · rw [if_pos h, if_pos h]
  · rw [if_neg h, if_neg h]
    by_cases hm : i ∈ vs
    · have : σ.length ≤ i := by
        apply Nat.le_of_not_lt
        exact fun z => h ⟨hm, z⟩
      rw [List.getElem?_eq_none (by omega), List.getElem?_eq_none (by omega)]
    · rw [b.2 i fun z => hm (hI i z), wipe_get, if_neg (fun z => hm z.1)]
theorem StR.wipe {vs : List Nat} (r : StR K F fps σ H st) (h : ∀ v ∈ vs, isV0 st[v]? = true) : StR K F fps (L2.wipe σ vs) H (wipeS st vs) := by
  refine ⟨r.fr, r.nd, r.dj, by rw [wipe_length, wipeS_length]; exact r.len, fun i sl e => ?_, fun i a hi m => r.tmp i a (by rw [wipeS_length] at hi; exact hi) m, r.fin⟩
  rw [wipeS_get] at e
  split at e
  · rename_i hv
    cases e
    have h0 := h i hv.1
    cases es : st[i]? with
    | none => rw [es] at h0; cases h0
    | some sl =>
      rw [es] at h0
      cases sl with
      | un => exact r.ok i _ es
      | io k d => cases h0
      | va k d =>
        cases k with
        | zero =>
          obtain ⟨v, _, o⟩ := r.va es
          exact (Own.zero d v _ o).1
        | succ k => cases h0
  · rename_i hv
    have q := r.ok i sl e
    have hl := r.len
    have hi : i < st.length := (List.getElem?_eq_some_iff.mp e).1
    have hw : (L2.wipe σ vs)[i]? = σ[i]? := by
      rw [wipe_get, if_neg (fun z => hv ⟨z.1, by omega⟩)]
    rw [hw]; exact q
end

section
variable {X : Cx} {k : Nat} {kd : Kd} {e a b c tg el : Expr} {es : List Expr} {f g h : EM} {t : TM} {s1 s2 s3 : SM} {stm : Stmt} {rest as bs : List Stmt} {pos p : Pos} {K : PySem.W.Frag} {I : List Nat}
def lcL (m : GM) (t : TM) (f : EM) (st : Sl) : List D → Option (List D)
  | [] => some []
  | d :: ds => (m d st).bind fun st1 => (t st1).bind fun b => if b = true then (f st1).bind fun y => (lcL m t f st ds).map (y :: ·) else lcL m t f st ds
def eLc (vs : List Nat) (its : IM) (m : GM) (t : TM) (f : EM) : EM := fun st => (its st).bind fun ds => if (vs.all (fun v => isV0 st[v]?) && decide (ds.length < 16777216)) = true then (lcL m t f (wipeS st vs) ds).map .lst else none
theorem tF_lc {vs : List Nat} {its : IM} {m : GM} (hI : ∀ i ∈ I, i ∈ vs) {σ : L2.St} {H : Hp} {Q : VK} (hh : tF K (.ow (k + 1)) (eLc vs its m t f) σ H Q) : tLc (tFI K its) (tFG K I m) (tFT K t) (tF K (.ow k) f) vs σ H Q := by
  obtain ⟨F, fps, st, d, r, ed, q⟩ := hh
  unfold eLc at ed
  cases e1 : its st with
  | none => rw [e1] at ed; cases ed
  | some ds =>
    rw [e1] at ed
    have ed : (if (vs.all (fun v => isV0 st[v]?) && decide (ds.length < 16777216)) = true then (lcL m t f (wipeS st vs) ds).map D.lst else none) = some d := ed
    split at ed
    · rename_i hc
      have hc := Bool.and_eq_true_iff.mp hc
      have hv : ∀ v ∈ vs, isV0 st[v]? = true := List.all_eq_true.mp hc.1
      have hlen : ds.length < sizeLine := by rw [sizeLine_eq]; exact of_decide_eq_true hc.2
      cases el : lcL m t f (wipeS st vs) ds with
      | none => rw [el] at ed; cases ed
      | some tot =>
        rw [el] at ed; cases ed
        refine ⟨F, fps, st, ds, r, e1, fun J H1 q1 dl D nD => ?_⟩
        have r1 := r.mono q1
        have rw1 : StR K ⟨hideP H1 (own fps), F.pin⟩ fps (wipe σ vs) H1 (wipeS st vs) := by
          have x := r1.wipe hv
          exact ⟨Same.refl _, x.nd, x.dj, x.len, x.ok, x.tmp, x.fin⟩
        have sD : Same H1 (upd H1 D (.lst [])) := same_upd nD
        obtain ⟨n0, hn0, hn1, rD⟩ : ∃ n0, st.length ≤ n0 ∧ fps n0 = [] ∧ StR K ⟨hideP H1 (own fps), F.pin⟩ (setF fps n0 [D]) (wipe σ vs) (upd H1 D (.lst [])) (wipeS st vs) := by
          obtain ⟨m0, hm0⟩ := r.fin
          have ho : ∀ a, own fps a → H1 a ≠ none := fun a h => r1.there h
          have hide : Same (hideP H1 (own fps)) (hideP (upd H1 D (.lst [])) (own (setF fps (max m0 st.length) [D]))) := hideP_mono sD fun a o e h z => by
            rcases own_setF z with m | z
            · have : a = D := by simpa using m
              rw [this, nD] at e; cases e
            · exact h z
          have hz : fps (max m0 st.length) = [] := hm0 _ (Nat.le_max_left _ _)
          have hge := Nat.le_max_right m0 st.length
          refine ⟨max m0 st.length, hge, hz, hide, fun i => ?_, fun i j a m1 m2 => ?_, rw1.len, fun i sl e => ?_, fun i a h m => ?_, max m0 st.length + 1, fun i h => ?_⟩
          · by_cases e : i = max m0 st.length
            · rw [e, setF_same]; simp
            · rw [setF_ne e]; exact r.nd i
          · by_cases e1 : i = max m0 st.length <;> by_cases e2 : j = max m0 st.length
            · rw [e1, e2]
            · rw [e1, setF_same] at m1; rw [setF_ne e2] at m2
              have : a = D := by simpa using m1
              subst this
              exact absurd nD (ho _ ⟨j, m2⟩)
            · rw [setF_ne e1] at m1; rw [e2, setF_same] at m2
              have : a = D := by simpa using m2
              subst this
              exact absurd nD (ho _ ⟨i, m1⟩)
            · rw [setF_ne e1] at m1; rw [setF_ne e2] at m2
              exact r.dj i j a m1 m2
          · have hi : i < st.length := by have := (List.getElem?_eq_some_iff.mp e).1; rw [wipeS_length] at this; exact this
            rw [setF_ne (by omega)]
            exact (rw1.ok i sl e).mono hide fun a m => by
              obtain ⟨_, q, mq⟩ := rw1.isLst ⟨i, m⟩
              rw [q]; exact sD _ _ q
          · by_cases e : i = max m0 st.length
            · rw [e, setF_same] at m
              have : a = D := by simpa using m
              subst this
              exact ⟨_, upd_same, True.intro⟩
            · rw [setF_ne e] at m
              obtain ⟨_, q, mq⟩ := rw1.tmp i a h m
              exact ⟨_, sD _ _ q, mq⟩
          · rw [setF_ne (by omega)]
            exact hm0 i (by have := Nat.le_max_left m0 st.length; omega)
        refine ⟨fun i n H2 => n = ds.length - i ∧ i ≤ ds.length ∧ Same H1 H2 ∧ ∃ fp done tl, StR K ⟨hideP H1 (own fps), F.pin⟩ (setF fps n0 fp) (wipe σ vs) H2 (wipeS st vs) ∧ (∀ a ∈ fp, H1 a = none) ∧ Own K H2 (hideP H2 (own (setF fps n0 fp))) (.lst done) (k + 1) (.ref D) fp ∧
          done.length ≤ i ∧ lcL m t f (wipeS st vs) (ds.drop i) = some tl ∧ done ++ tl = tot, ⟨ds.length, by simp, Nat.zero_le _, sD, [D], [], tot, rD, fun a m => ?_, ⟨D, [], [], rfl, upd_same, rfl, rfl, rfl⟩, Nat.zero_le _, el, rfl⟩, ?_⟩
        · have : a = D := by simpa using m
          rw [this]; exact nD
        · rintro i n H2 ⟨rfl, hi, sH, fp, done, tl, r2, fr2, o2, hd, e2, et⟩
          have dl' := dl i H2 (own (setF fps n0 fp)) (fun a h => r2.there h) r2.fr
          by_cases hlt : i < ds.length
          · have ed : ds.drop i = ds[i] :: ds.drop (i + 1) := List.drop_eq_getElem_cons hlt
            rw [ed] at e2
            obtain ⟨hgo, hy⟩ := dl'.2 ds[i] (by simp [hlt])
            refine .inr ⟨hgo, fun H3 => Same H1 H3 ∧ ∃ fp done tl, StR K ⟨hideP H1 (own fps), F.pin⟩ (setF fps n0 fp) (wipe σ vs) H3 (wipeS st vs) ∧ (∀ a ∈ fp, H1 a = none) ∧ Own K H3 (hideP H3 (own (setF fps n0 fp))) (.lst done) (k + 1) (.ref D) fp ∧
              done.length ≤ i + 1 ∧ lcL m t f (wipeS st vs) (ds.drop (i + 1)) = some tl ∧ done ++ tl = tot, fun H3 h3 => ⟨ds.length - (i + 1), by omega, rfl, hlt, h3.1, h3.2⟩, fun x H3 y => ?_⟩
            obtain ⟨sx, rx⟩ := hy x H3 y
            have e2 : ((m ds[i] (wipeS st vs)).bind fun st1 => (t st1).bind fun b => if b = true then (f st1).bind fun y => (lcL m t f (wipeS st vs) (ds.drop (i + 1))).map (y :: ·) else lcL m t f (wipeS st vs) (ds.drop (i + 1))) = some tl := e2
            cases em : m ds[i] (wipeS st vs) with
            | none => rw [em] at e2; cases e2
            | some st1 =>
              rw [em] at e2
              refine ⟨_, _, _, ds[i], st1, r2.mono sx, rx, em, fun σ3 fps3 r3 sm bt bf => ⟨wipe_but bt hI, ?_⟩⟩
              have e2 : ((t st1).bind fun b => if b = true then (f st1).bind fun y => (lcL m t f (wipeS st vs) (ds.drop (i + 1))).map (y :: ·) else lcL m t f (wipeS st vs) (ds.drop (i + 1))) = some tl := e2
              cases etb : t st1 with
              | none => rw [etb] at e2; cases e2
              | some bb =>
                rw [etb] at e2
                refine ⟨_, fps3, st1, bb, r3, etb, fun H4 s4 => ?_⟩
                have s34 := sx.trans s4
                cases bb with
                | false =>
                  refine iteF ?_
                  have r4 := r2.mono s34
                  exact ⟨sH.trans s34, fp, done, tl, r4, fr2, Own.mono (hideP_mono s34 fun _ _ _ h => h) _ _ _ _ (fun a m => by
                    obtain ⟨_, q, _⟩ := r2.isLst ⟨n0, by rw [setF_same]; exact m⟩
                    rw [q]; exact s34 _ _ q) o2, by omega, e2, et⟩
                | true =>
                  refine iteT ?_
                  have e2 : ((f st1).bind fun y => (lcL m t f (wipeS st vs) (ds.drop (i + 1))).map (y :: ·)) = some tl := e2
                  cases ef : f st1 with
                  | none => rw [ef] at e2; cases e2
                  | some yd =>
                    rw [ef] at e2
                    refine ⟨_, fps3, st1, yd, r3.mono s4, ef, fun v H5 s5 w5 => ?_⟩
                    have s35 := s34.trans s5
                    obtain ⟨fq, nq, fq0, oq⟩ := w5
                    have e2 : (lcL m t f (wipeS st vs) (ds.drop (i + 1))).map (yd :: ·) = some tl := e2
                    cases er : lcL m t f (wipeS st vs) (ds.drop (i + 1)) with
                    | none => rw [er] at e2; cases e2
                    | some tl2 =>
                      rw [er] at e2; cases e2
                      obtain ⟨D', acc, fpa, hD', hacc, efp, oacc⟩ := o2
                      cases hD'
                      have hDm : D ∈ fp := by rw [efp]; exact List.mem_cons_self
                      have hD5 : H5 D = some (.lst acc) := s35 _ _ hacc
                      refine ⟨acc, hD5, by have := oacc.len; omega, ?_⟩
                      have fq2 : ∀ a ∈ fq, H2 a = none := fun a m => s34.free (fq0 a m)
                      have dis : ∀ a, a ∈ fp → a ∈ fq → False := fun a m m2 => by
                        obtain ⟨_, q, _⟩ := r2.isLst ⟨n0, by rw [setF_same]; exact m⟩
                        rw [fq2 a m2] at q; cases q
                      have hDq : ∀ a ∈ fq, a ≠ D := fun a m z => dis D hDm (z ▸ m)
                      have nfp : fp.Nodup := by have := r2.nd n0; rw [setF_same] at this; exact this
                      have nall : (fp ++ fq).Nodup := List.nodup_append.mpr ⟨nfp, nq, fun a m b m2 e => dis a m (e ▸ m2)⟩
                      have lstq := Own.isLst yd k v fq oq
                      have rB := r2.bump (i := n0) (A := D) (o := .lst (acc ++ [v])) (fp' := fp ++ fq) (st' := wipeS st vs) s35 (by rw [setF_same]; exact hDm) True.intro nall (fun a m => by
                        rcases List.mem_append.mp m with m | m
                        · rw [setF_same]; exact .inl m
                        · exact .inr ⟨fq2 a m, lstq a m⟩) rfl (fun _ _ => rfl) (fun sl e => by
                          exfalso
                          have := (List.getElem?_eq_some_iff.mp e).1
                          rw [wipeS_length] at this
                          omega)
                      have eset : setF (setF fps n0 fp) n0 (fp ++ fq) = setF fps n0 (fp ++ fq) := by
                        funext j
                        by_cases ej : j = n0
                        · subst ej; rw [setF_same, setF_same]
                        · rw [setF_ne ej, setF_ne ej, setF_ne ej]
                      rw [eset] at rB
                      have hideB : Same (hideP H2 (own (setF fps n0 fp))) (hideP (upd H5 D (.lst (acc ++ [v]))) (own (setF fps n0 (fp ++ fq)))) := fun a o e => by
                        obtain ⟨z1, z2⟩ := hideP_some.mp e
                        have aD : a ≠ D := fun z => z1 ⟨n0, by rw [setF_same, z]; exact hDm⟩
                        refine hideP_some.mpr ⟨fun z => ?_, by rw [upd_ne aD]; exact s35 _ _ z2⟩
                        rcases own_setF z with m | ⟨j, m⟩
                        · rcases List.mem_append.mp m with m | m
                          · exact z1 ⟨n0, by rw [setF_same]; exact m⟩
                          · rw [fq2 a m] at z2; cases z2
                        · by_cases ej : j = n0
                          · subst ej; rw [hn1] at m; cases m
                          · exact z1 ⟨j, by rw [setF_ne ej]; exact m⟩
                      refine ⟨fun a o e => ?_, fp ++ fq, done ++ [yd], tl2, rB, fun a m => ?_, ?_, ?_, rfl, ?_⟩
                      · have : a ≠ D := fun z => by rw [z, fr2 D hDm] at e; cases e
                        rw [upd_ne this]
                        exact s35 _ _ (sH _ _ e)
                      · rcases List.mem_append.mp m with m | m
                        · exact fr2 a m
                        · exact sH.free (fq2 a m)
                      · refine ⟨D, acc ++ [v], fpa ++ fq, rfl, upd_same, by rw [efp]; rfl, OwnL.app (OwnL.mono hideB done k acc fpa (fun a m => ?_) oacc) (OwnL.one (Own.mono (fun a o e => ?_) yd k v fq (fun a m => upd_ne (hDq a m)) oq))⟩
                        · have m' : a ∈ fp := by rw [efp]; exact List.mem_cons_of_mem _ m
                          have aD : a ≠ D := fun z => by
                            rw [efp] at nfp
                            exact (List.nodup_cons.mp nfp).1 (z ▸ m)
                          rw [upd_ne aD]
                          obtain ⟨_, q, _⟩ := r2.isLst ⟨n0, by rw [setF_same]; exact m'⟩
                          rw [q]; exact s35 _ _ q
                        · -- what the element reads
                          obtain ⟨z1, z2⟩ := hideP_some.mp e
                          have n3 : ∀ j, j ∉ I → fps3 j = setF fps n0 fp j := fun j hj => by rw [bf j, if_neg hj]
                          have hn0I : n0 ∉ I := fun z => by
                            have h0 := hv n0 (hI n0 z)
                            rw [List.getElem?_eq_none hn0] at h0; cases h0
                          have aD : a ≠ D := fun z => z1 (.inr ⟨n0, by rw [n3 n0 hn0I, setF_same, z]; exact hDm⟩)
                          refine hideP_some.mpr ⟨fun z => ?_, by rw [upd_ne aD]; exact z2⟩
                          rcases own_setF z with m | ⟨j, m⟩
                          · rcases List.mem_append.mp m with m | m
                            · exact z1 (.inr ⟨n0, by rw [n3 n0 hn0I, setF_same]; exact m⟩)
                            · exact z1 (.inl m)
                          · by_cases ej : j = n0
                            · subst ej; rw [hn1] at m; cases m
                            · by_cases hjI : j ∈ I
                              · -- a slot of the block: it had nothing
                                have h0 := hv j (hI j hjI)
                                cases es : st[j]? with
                                | none => rw [es] at h0; cases h0
                                | some sl =>
                                  rw [es] at h0
                                  cases sl with
                                  | un => rw [show fps j = [] from r.ok j _ es] at m; cases m
                                  | io k d => cases h0
                                  | va k d =>
                                    cases k with
                                    | zero =>
                                      obtain ⟨v', _, o⟩ := r.va es
                                      rw [(Own.zero d v' _ o).1] at m; cases m
                                    | succ k => cases h0
                              · exact z1 (.inr ⟨j, by rw [n3 j hjI, setF_ne ej]; exact m⟩)
                      · rw [List.length_append]; show done.length + 1 ≤ i + 1; omega
                      · rw [List.append_assoc]; exact et
          · have hz : ds.length ≤ i := by omega
            rw [List.drop_eq_nil_of_le hz] at e2
            cases e2
            rw [List.append_nil] at et
            subst et
            refine .inl ⟨dl'.1 hz, q _ H2 (q1.trans sH) ⟨fp, by have := r2.nd n0; rw [setF_same] at this; exact this, fun a m => q1.free (fr2 a m), Own.mono (hideP_mono (Same.refl _) fun a o _ h z => h ?_) _ _ _ _ (fun _ _ => rfl) o2⟩⟩
            exact own_setF' hn1 z
    · cases ed
theorem fe_lc {its : IM} {m : GM} {iter : Expr} {ifs : List Expr} {scope : Scope} {ow : List (Str × Nat)} (hc : X.calm = true) (hN : X.N.Nodup) (hi : FI X tg iter its) (ok : BlkOk X.N X.env.scope scope ow) (hI : ∀ i ∈ I, i ∈ ow.map (·.2))
    (hg : ∀ (s : Shared) (H : Hp) (C : Addr) (cl : List (Str × Addr)) (fp : List Addr), FG (X.blk s H scope (compEnvC scope cl C X.env) fp) I tg m) (ht : ∀ (s : Shared) (H : Hp) (C : Addr) (cl : List (Str × Addr)) (fp : List Addr), PTs (X.blk s H scope (compEnvC scope cl C X.env) fp) ifs (tFT X.K t))
    (he : ∀ (s : Shared) (H : Hp) (C : Addr) (cl : List (Str × Addr)) (fp : List Addr), FE (X.blk s H scope (compEnvC scope cl C X.env) fp) (.ow k) el f) (hs : ∀ x, foldedSetIterable iter X.env x = pure x := by intro _; rfl) :
    FE X (.ow (k + 1)) (.ListComp el [⟨tg, iter, ifs, 0⟩] scope pos) (eLc (ow.map (·.2)) its m t f) :=
  PE.weak (pe_lc hc hN hi ok hg ht he hs) fun _ _ _ => tF_lc hI
def qYes : TM := fun _ => some true
theorem pts_yes : PTs X [] (tFT X.K qYes) := ⟨fun pins s σ H Q I hw => pts_nil.run pins s σ H Q I (by
  obtain ⟨F, fps, st, b, r, e, q⟩ := hw
  cases e
  exact q H (Same.refl H))⟩
theorem pts_t (hc : FT X c t) : PTs X [c] (tFT X.K t) := pts_one hc
theorem fs_setLc {i : Nat} {y : Str} {py spos : Pos} {k' : Nat} {its : IM} {m : GM} {iter : Expr} {ifs : List Expr} {scope : Scope} {ow : List (Str × Nat)} (hc : X.calm = true) (hN : X.N.Nodup) (hy : X.N[i]? = some y) (hyl : X.env.scope.names.lookup y = some .local)
    (hsw : swapsWith (.ListComp el [⟨tg, iter, ifs, 0⟩] scope pos) (some (.Name y py)) spos.line X.env = pure true) (hi : FI X tg iter its) (ok : BlkOk X.N X.env.scope scope ow) (hI : ∀ i ∈ I, i ∈ ow.map (·.2))
    (hg : ∀ (s : Shared) (H : Hp) (C : Addr) (cl : List (Str × Addr)) (fp : List Addr), FG (X.blk s H scope (compEnvC scope cl C X.env) fp) I tg m) (ht : ∀ (s : Shared) (H : Hp) (C : Addr) (cl : List (Str × Addr)) (fp : List Addr), PTs (X.blk s H scope (compEnvC scope cl C X.env) fp) ifs (tFT X.K t))
    (he : ∀ (s : Shared) (H : Hp) (C : Addr) (cl : List (Str × Addr)) (fp : List Addr), FE (X.blk s H scope (compEnvC scope cl C X.env) fp) (.ow k') el f) (hs : ∀ x, foldedSetIterable iter X.env x = pure x := by intro _; rfl) :
    FS X k (.Assign [.Name y py] (.ListComp el [⟨tg, iter, ifs, 0⟩] scope pos) spos) (sSet i (k' + 1) (eLc (ow.map (·.2)) its m t f)) :=
  PS.weak (ps_setLc hc hN hy hyl hsw hi ok hg ht he hs) fun Dn σ H h => tF_lc (K := X.K) hI (tF_set h)
end
end FL

namespace FL
open PySem PySem.Spec PyProof.Rows L2

/-! ### defs -/
/-- a def of n parameters computes m; the lists of the upper k levels of what it hands back are new -/
def spF (K : PySem.W.Frag) (n k : Nat) (m : List D → Option D) : Sp := fun vs H Q _ => vs.length = n ∧ ∃ ds d, RepL K H ds vs ∧ m ds = some d ∧
  ∀ v H', Same H H' → (∃ fp : List Addr, fp.Nodup ∧ (∀ a ∈ fp, H a = none) ∧ Own K H' (hideP H' (· ∈ fp)) d k v fp) → Q v H'
def fnRun (n : Nat) (g : SM) : List D → Option D := fun ds => match g (ds.map (Slot.va 0) ++ List.replicate (n - ds.length) .un) with
  | some (.rt d _) => some d
  | some (.nx _) => some .non
  | _ => none
section
variable {P : Program} {w : World} {K : PySem.W.Frag} {mg : Str → Option Value} {base : Heap} {H : Hp}
theorem rep_start : ∀ {ds : List D} {vs : List V} {F : Hp} (i : Nat) (d : D), RepL K F ds vs → ds[i]? = some d → ∃ v, (vs.map some)[i]? = some (some v) ∧ Rep K F d v := fun i d r e => by
  obtain ⟨v, h1, h2⟩ := r.get e
  exact ⟨v, by rw [List.getElem?_map, h1]; rfl, h2⟩
theorem StR.init {N : List Str} {ds : List D} {vs : List V} (r : RepL K H ds vs) : StR K ⟨H, fun _ => .non⟩ (fun _ => []) (L2.start N vs) H (ds.map (Slot.va 0) ++ List.replicate (N.length - ds.length) .un) := by
  have hl := r.length
  have e0 : hideP H (own fun _ => []) = H := by
    funext a
    exact hideP_not fun ⟨_, m⟩ => by cases m
  refine ⟨by rw [e0]; exact Same.refl H, fun _ => List.nodup_nil, fun _ _ _ m => (by cases m), ?_, fun i sl e => ?_, fun i a _ m => (by cases m), 0, fun _ _ => rfl⟩
  · unfold L2.start
    simp only [List.length_append, List.length_map, List.length_replicate, hl]
  · rw [e0]
    by_cases hi : i < ds.length
    · rw [List.getElem?_append_left (by simpa using hi), List.getElem?_map] at e
      cases ed : ds[i]? with
      | none => rw [ed] at e; cases e
      | some d =>
        rw [ed] at e; cases e
        obtain ⟨v, h1, h2⟩ := r.get ed
        refine ⟨v, ?_, Own.shared d v h2⟩
        unfold L2.start
        rw [List.getElem?_append_left (by simpa [hl] using hi), List.getElem?_map, h1]
        rfl
    · rw [List.getElem?_append_right (by simpa using Nat.le_of_not_lt hi)] at e
      rw [List.getElem?_replicate] at e
      split at e
      · cases e; exact rfl
      · cases e
theorem RetOk.plain {F : Fr} {k : Nat} {d : D} {v : V} {st : Sl} {H' : Hp} (h : RetOk K F H' k d v st) : Same F.G H' ∧ ∃ fp : List Addr, fp.Nodup ∧ (∀ a ∈ fp, F.G a = none) ∧ Own K H' (hideP H' (· ∈ fp)) d k v fp := by
  obtain ⟨fps, fp, h1, _, _, _, h5, h6, _⟩ := h
  refine ⟨h5.trans hideP_same, fp, h1, fun a m => ?_, Own.mono (hideP_mono (Same.refl _) fun a o _ h z => h (.inl z)) d k v fp (fun _ _ => rfl) h6⟩
  cases e : F.G a with
  | none => rfl
  | some o => exact ((hideP_some.mp (h5 _ _ e)).1 (.inl m)).elim
theorem fn_ok {x qual : Str} {st : Stmt} {f : Addr} {fd : FuncData} {N ps : List Str} {k : Nat} (F : Fun K x qual st f fd) (S : FnScope N ps (defScope st)) (kr : Nat) (g : SM)
    (hb : ∀ (cdv : Value) (A : Around) (outer : List Env) (s : Shared) (H : Hp) (E : XK), Room k (A.deeper (envOfC qual (defScope st) s.heap.objs.size f cdv)) → FSs (cxOf CX0 P w K mg base N qual (defScope st) f cdv A outer s H E).nox kr (defBody st) g) :
    FnOk P w K mg base CX0 (k + 1) f fd ps (spF K ps.length kr (fnRun N.length g)) := by
  refine F.ok S (fun vs H Q E h => h.1) (fun cdv A outer s H vs Q E hr h => ⟨_, hb cdv A outer s H E hr, ?_⟩)
  obtain ⟨hl, ds, d, r, e, q⟩ := h
  unfold fnRun at e
  cases eg : g (ds.map (Slot.va 0) ++ List.replicate (N.length - ds.length) .un) with
  | none => rw [eg] at e; cases e
  | some o =>
    rw [eg] at e
    refine ⟨⟨H, fun _ => .non⟩, _, o, ⟨_, StR.init r⟩, eg, ?_⟩
    cases o with
    | nx st' =>
      cases e
      intro σ' H' ⟨fps', r'⟩
      obtain ⟨h1, h2⟩ := RetOk.plain (k := kr) (r'.ret (Same.refl H') (VR.sc (d := .non) rfl rfl))
      exact q .non H' h1 h2
    | rt d' st' =>
      cases e
      intro v H' h
      obtain ⟨h1, h2⟩ := h.plain
      exact q v H' h1 h2
    | bk _ => cases e
    | ct _ => cases e
end

section
variable {X : Cx} {k n j : Nat} {kd : Kd} {e a b c tg el : Expr} {es : List Expr} {f g h : EM} {fa : AM} {pos p : Pos} {x : Str} {K : PySem.W.Frag} {m : List D → Option D} {fn : Addr} {fd : FuncData} {ps : List Str}
def eCall (m : List D → Option D) (f : AM) : EM := fun st => (f st).bind m
theorem tF_call {σ : L2.St} {H : Hp} {Q : VK} {E : XK} {dds : List D} (hd : dds.all sc = true) (h : tF K .rd (eCall (fun ds => m (ds ++ dds)) fa) σ H Q) (hl : ∀ st ds, fa st = some ds → ds.length + dds.length = n) : tCall (spF K n k m) (dds.map scV) E (tFA K .rd fa) σ H Q := by
  obtain ⟨F, fps, st, d, r, ed, q⟩ := h
  unfold eCall at ed
  cases e1 : fa st with
  | none => rw [e1] at ed; cases ed
  | some ds =>
    rw [e1] at ed
    refine ⟨F, fps, st, ds, r, e1, fun vs H1 s1 w => ⟨?_, ds ++ dds, d, ?_, ed, fun v H2 s2 ⟨fp, _, _, o⟩ => q v H2 (s1.trans s2) (Own.rep hideP_same d k v fp (fun _ _ => rfl) o)⟩⟩
    · rw [List.length_append, List.length_map, VRL.length w]; exact hl st ds e1
    · refine RepL.app w ?_
      clear e1 ed hl
      induction dds with
      | nil => exact rfl
      | cons d0 r0 ih =>
        have hd' : (sc d0 && r0.all sc) = true := hd
        have h2 := Bool.and_eq_true_iff.mp hd'
        refine ⟨scV d0, r0.map scV, rfl, ?_, ih h2.2⟩
        have h1 := h2.1
        cases d0 <;> first | rfl | cases h1
/-- how many -/
def ALen (n : Nat) (f : AM) : Prop := ∀ st ds, f st = some ds → ds.length = n
theorem alen_nil : ALen 0 aNil := fun st ds e => by cases e; rfl
theorem alen_cons {f : EM} {g : AM} (h : ALen n g) : ALen (n + 1) (aCons f g) := fun st ds e => by
  unfold aCons at e
  obtain ⟨x, xs, _, e2, e3⟩ := bind2 e
  cases e3
  rw [List.length_cons, h st xs e2]
theorem fe_call (G : FnOk X.prog X.w X.K X.mg X.base CX0 j fn fd ps (spF X.K n k m)) (hr : Room j X.A) (hg : Gl X x) (hm : X.mg x = some (.ref fn)) (hk : PySem.W.keepIn X.K (.ref fn) = true) (hb : Binds X.K fd ps []) (ha : FA X .rd (e :: es) fa) (hl : ALen n fa) (hdb : (x == ("__debug__" : Str)) = false := by decide)
    (he : starEach (e :: es) X.env = (false, eval e X.env) :: starEach es X.env := by rfl) (hpl : (backTo pos (starEach es X.env)).any (·.1) = false := by rfl) : FE X .rd (.Call (.Name x p) (e :: es) [] pos) (eCall m fa) :=
  PE.weak (pe_call G hr hg hm hk hb .nil (pass0 (X := X)) ha hdb he hpl) fun σ H Q h => by
    have := tF_call (dds := []) (m := m) (k := k) (n := n) (E := E0) rfl (by simpa using h) (fun st ds e => by simpa using hl st ds e)
    simpa using this
def eCallO (k : Nat) (m : List D → Option D) (f : AM) : EM := fun st => ((f st).bind m).bind (chk k)
theorem Own.rebase {H : Hp} {d : D} {k : Nat} {v : V} {fp : List Addr} {B : Addr → Prop} (f : full d k = true) (hB : ∀ a, B a → ∃ o, H a = some o ∧ MutO o) (h : Own K H (hideP H (· ∈ fp)) d k v fp) : Own K H (hideP H B) d k v fp :=
  Own.move (fun a o e n => (hideP_keeps hB) a o (hideP_some.mp e).2 n) d k v fp f h
theorem fe_callO (G : FnOk X.prog X.w X.K X.mg X.base CX0 j fn fd ps (spF X.K n k m)) (hr : Room j X.A) (hg : Gl X x) (hm : X.mg x = some (.ref fn)) (hk : PySem.W.keepIn X.K (.ref fn) = true) (hb : Binds X.K fd ps []) (ha : FA X .rd (e :: es) fa) (hl : ALen n fa) (hdb : (x == ("__debug__" : Str)) = false := by decide)
    (he : starEach (e :: es) X.env = (false, eval e X.env) :: starEach es X.env := by rfl) (hpl : (backTo pos (starEach es X.env)).any (·.1) = false := by rfl) : FE X (.ow k) (.Call (.Name x p) (e :: es) [] pos) (eCallO k m fa) :=
  PE.weak (pe_call G hr hg hm hk hb .nil (pass0 (X := X)) ha hdb he hpl) fun σ H Q ⟨F, fps, st, d, r, ed, q⟩ => by
    unfold eCallO at ed
    obtain ⟨ed, fl⟩ := chk_some ed
    cases e1 : fa st with
    | none => rw [e1] at ed; cases ed
    | some ds =>
      rw [e1] at ed
      refine ⟨F, fps, st, ds, r, e1, fun vs H1 s1 w => ⟨by simpa using (VRL.length w).trans (hl st ds e1), ds, d, by rw [List.append_nil]; exact w, ed, fun v H2 s2 ⟨fp, n, fr, o⟩ => ?_⟩⟩
      refine q v H2 (s1.trans s2) ⟨fp, n, fun a m => s1.free (fr a m), Own.rebase fl (fun a z => ?_) o⟩
      rcases z with m | z
      · exact Own.isLst d k v fp o a m
      · exact (r.mono (s1.trans s2)).isLst z
/-- a call while no slot owns a list: what comes is shared -/
def noOwn : Sl → Bool
  | [] => true
  | .un :: r => noOwn r
  | .va 0 _ :: r => noOwn r
  | _ => false

/-! ### lists changed in place -/
def slD : Option Slot → Option (Nat × D)
  | some (.va k d) => some (k, d)
  | some (.io k d) => some (k, d)
  | _ => none
def putD (d : D) : Slot → Slot
  | .va k _ => .va k d
  | .io k _ => .io k d
  | .un => .un
/-- the datum of a slot replaced -/
def setD (st : Sl) (i : Nat) (d : D) : Sl := match st[i]? with
  | some s => st.set i (putD d s)
  | none => st
theorem setD_length {st : Sl} {i : Nat} {d : D} : (setD st i d).length = st.length := by
  unfold setD
  split
  · rw [List.length_set]
  · rfl
theorem setD_ne {st : Sl} {i j : Nat} {d : D} (h : j ≠ i) : (setD st i d)[j]? = st[j]? := by
  unfold setD
  split
  · rw [List.getElem?_set_ne (Ne.symm h)]
  · rfl
/-- the slot i holds d at level k, at v -/
theorem StR.sl {F : Fr} {fps : Fps} {σ : L2.St} {H : Hp} {st : Sl} {i k : Nat} {d : D} (r : StR K F fps σ H st) (e : slD st[i]? = some (k, d)) : ∃ v, σ[i]? = some (some v) ∧ Own K H (hideP H (own fps)) d k v (fps i) := by
  unfold slD at e
  split at e
  · cases e; exact r.va (by assumption)
  · cases e
    obtain ⟨h1, h2⟩ := r.io (by assumption)
    exact ⟨_, h1, h2⟩
  · cases e
theorem slD_put {F' H' : Hp} {p v : V} {st : Sl} {i k : Nat} {d d' : D} {sl : Slot} {sv : Option (Option V)} {fp : List Addr} {G G' : Hp} {fpo : List Addr} (e : slD st[i]? = some (k, d)) (h0 : ∀ s, st[i]? = some s → SlotOk K G G' p s sv fpo) (ev : sv = some (some v)) (e2 : (setD st i d')[i]? = some sl) (o : Own K H' F' d' k v fp) : SlotOk K H' F' p sl sv fp := by
  unfold setD at e2
  cases es : st[i]? with
  | none => rw [es] at e; cases e
  | some s =>
    rw [es] at e e2
    have e2 : (st.set i (putD d' s))[i]? = some sl := e2
    rw [List.getElem?_set_self (List.getElem?_eq_some_iff.mp es).1] at e2
    cases e2
    cases s with
    | un => cases e
    | va k' d0 =>
      cases e
      exact ⟨v, ev, o⟩
    | io k' d0 =>
      cases e
      obtain ⟨h1, _⟩ := h0 _ es
      rw [ev] at h1
      cases h1
      exact ⟨ev, o⟩
/-- x.append(e) -/
def sApp (i : Nat) (k : Nat) (f : EM) : SM := fun st => match slD st[i]? with
  | some (k', .lst ds) => if (k' == k + 1 && decide (ds.length < 16777216)) = true then (f st).map fun d => .nx (setD st i (.lst (ds ++ [d]))) else none
  | _ => none
theorem tF_app {i k kr : Nat} {Dn : Ends} {σ : L2.St} {H : Hp} (h : tFS K kr (sApp i k f) Dn σ H) : tDrop (tBM K "list" rAppend (tVar i) (tCons (tF K (.ow k) f) tNil)) Dn σ H := by
  obtain ⟨F, st, o, ⟨fps, r⟩, e, c⟩ := h
  unfold sApp at e
  split at e
  · rename_i k' ds hs
    split at e
    · rename_i hk
      have hk := Bool.and_eq_true_iff.mp hk
      have ek : k' = k + 1 := by simpa using hk.1
      subst ek
      have hlen : ds.length < sizeLine := by rw [sizeLine_eq]; exact of_decide_eq_true hk.2
      cases e1 : f st with
      | none => rw [e1] at e; cases e
      | some d =>
        rw [e1] at e; cases e
        obtain ⟨v0, ev, L, xs, fpa, eL, hL, efp, oL⟩ := r.sl hs
        subst eL
        refine ⟨.ref L, ev, .inl ⟨rfl, xs, .inl (.inl hL)⟩, F, fps, st, d, r, e1, fun v H1 s1 w => ?_⟩
        obtain ⟨fq, nq, fr, oq⟩ := w
        refine ⟨L, xs, v, rfl, rfl, s1 _ _ hL, by rw [oL.len]; exact hlen, ?_⟩
        have hm : L ∈ fps i := by rw [efp]; exact List.mem_cons_self
        have dis : ∀ a, a ∈ fps i → a ∈ fq → False := fun a m m2 => r.there ⟨i, m⟩ (fr a m2)
        have nall : (fps i ++ fq).Nodup := List.nodup_append.mpr ⟨r.nd i, nq, fun a m b m2 e => dis a m (e ▸ m2)⟩
        refine c σ _ ⟨setF fps i (fps i ++ fq), r.bump (A := L) (o := .lst (xs ++ [v])) (fp' := fps i ++ fq) s1 hm True.intro nall (fun a m => ?_) setD_length (fun j hj => setD_ne hj) fun sl e2 gen => ?_⟩
        · rcases List.mem_append.mp m with m | m
          · exact .inl m
          · exact .inr ⟨fr a m, Own.isLst d k v fq oq a m⟩
        · refine slD_put hs (fun s es => r.ok i s es) ev e2 ?_
          have nin : ∀ a o', H a = some o' → ¬ own fps a → ¬ own (setF fps i (fps i ++ fq)) a := fun a o' e h z => by
            rcases own_setF z with m | z
            · rcases List.mem_append.mp m with m | m
              · exact h ⟨i, m⟩
              · rw [fr a m] at e; cases e
            · exact h z
          refine ⟨L, xs ++ [v], fpa ++ fq, rfl, upd_same, by rw [efp]; rfl, OwnL.app (OwnL.mono (gen _ nin) ds k xs fpa (fun a m => ?_) oL) (OwnL.one (Own.mono (fun a o' e => ?_) d k v fq (fun a m => upd_ne fun z => dis L hm (z ▸ m)) oq))⟩
          · have m' : a ∈ fps i := by rw [efp]; exact List.mem_cons_of_mem _ m
            have aL : a ≠ L := fun z => by
              have := r.nd i
              rw [efp] at this
              exact (List.nodup_cons.mp this).1 (z ▸ m)
            rw [upd_ne aL]
            obtain ⟨_, q, _⟩ := r.isLst ⟨i, m'⟩
            rw [q]; exact s1 _ _ q
          · obtain ⟨z1, z2⟩ := hideP_some.mp e
            have aL : a ≠ L := fun z => z1 (.inr ⟨i, z ▸ hm⟩)
            refine hideP_some.mpr ⟨fun z => ?_, by rw [upd_ne aL]; exact z2⟩
            rcases own_setF z with m | z
            · rcases List.mem_append.mp m with m | m
              · exact z1 (.inr ⟨i, m⟩)
              · exact z1 (.inl m)
            · exact z1 (.inr z)
    · cases e
  · cases e
theorem fs_app {i kr : Nat} {ec : Expr} (hp : PE X ec (tBM X.K "list" rAppend (tVar i) (tCons (tF X.K (.ow k) f) tNil))) (hsw : swapsWith ec none pos.line X.env = pure false := by rfl) :
    FS X kr (.Expr ec pos) (sApp i k f) := PS.weak (ps_expr hp hsw) fun _ _ _ => tF_app
end
end FL

namespace FL
open PySem PySem.Spec PyProof.Rows L2
/-- the law's promise from its mirror's answer -/
theorem sp_of {K : PySem.W.Frag} {k : Nat} {m : List D → Option D} {H : Hp} {a : Addr} {ns : List Int} {E : XK} (hm : m [.scr ns] = some (.bl true)) (hO : Only H) (hS : SqL K H a (ns.map V.int)) : spF K 1 k m [.ref a] H (fun v _ => v = .bl true) E := by
  refine ⟨rfl, [.scr ns], .bl true, ⟨.ref a, [], rfl, ⟨a, rfl, ?_⟩, rfl⟩, hm, fun v H' _ ⟨fp, _, _, o⟩ => o.2⟩
  rcases hS with (h | ⟨o, h⟩) | h
  · rcases hO a with z | ⟨o, xs, z⟩
    · rw [h] at z; cases z
    · rw [h] at z; cases z
  · exact .inl ⟨o, h⟩
  · exact .inr h
end FL

namespace FL
open PySem PySem.Spec PyProof.Rows L2

/-! ### list(range(..)) -/
def PRgC (X : Cx) (e : Expr) (t : L2.St → Hp → (Int → Int → Int → Hp → Prop) → Prop) : Prop :=
  ∀ (pins : List (Addr × Obj)) (s : Shared) (σ : L2.St) (H : Hp) (Q : Int → Int → Int → Hp → Prop), Inv X pins σ H s → t σ H Q →
    wpAny (model X.prog X.w) X.A (eval e X.env) (fun x s' => ∃ r a b c t u v H', x = .ref r ∧ IsRange s'.heap r a b c t u v ∧ Inv X pins σ H' s' ∧ Q a b c H') X.xe s
def rgVC (a c : Int) (n : Nat) : List V := (List.range n).map fun i => V.int (a + (i : Nat) * c)
theorem vals_rgC {a c : Int} {n : Nat} {acc : Array Value} (h : ItemsOf (fun i v => ∃ t, v = .int (a + i * c) t) acc n) : Vals (rgVC a c n) acc.toList := by
  have e : acc.toList.length = n := by rw [Array.length_toList]; exact h.1
  unfold rgVC
  rw [← e]
  refine vals_of_get acc.toList _ fun j u hj => ?_
  obtain ⟨t, rfl⟩ := h.2 j u (by rw [← hj, Array.getElem?_toList])
  exact ⟨t, rfl⟩
def rgOkC (a b c : Int) : Bool := decide (c ≠ 0) && decide (c.natAbs < 1073741824) && Builtin.Range.small a b c && decide (0 ≤ Builtin.Range.rangeSize a b c) && decide (Builtin.Range.rangeSize a b c ≤ 16777216)
def mLR (a b c : Int) : Option D := if rgOkC a b c = true then some (.lst (rngL a c (Builtin.Range.rangeSize a b c).toNat)) else none
def mLRng1 : D → Option D
  | .int j => mLR 0 j 1
  | _ => none
def mLRng2 (x y : D) : Option D := match x, y with
  | .int i, .int j => mLR i j 1
  | _, _ => none
def mLRng3 (x y z : D) : Option D := match x, y, z with
  | .int i, .int j, .int c => mLR i j c
  | _, _, _ => none
def eTri (m : D → D → D → Option D) (f g h : EM) : EM := fun st => (f st).bind fun x => (g st).bind fun y => (h st).bind fun z => m x y z
section
variable {X : Cx} {k : Nat} {kd kd1 kd2 : Kd} {e a b c tg : Expr} {es : List Expr} {f g h : EM} {fa : AM} {pos p p2 : Pos} {K : PySem.W.Frag}
theorem rng_rep {H : Hp} (a c : Int) : ∀ l : List Nat, RepL K H (l.map fun (i : Nat) => D.int (a + (i : Int) * c)) (l.map fun i => V.int (a + (i : Nat) * c))
  | [] => rfl
  | i :: l => ⟨_, _, rfl, rfl, rng_rep a c l⟩
theorem rng_flat (a c : Int) : ∀ l : List Nat, fullL (l.map fun (i : Nat) => D.int (a + (i : Int) * c)) 0 = true
  | [] => rfl
  | _ :: l => rng_flat a c l
def tLR (te : L2.St → Hp → (Int → Int → Int → Hp → Prop) → Prop) : TE := fun σ H Q => te σ H fun a b c H1 => rgOkC a b c = true ∧ ∀ q, H1 q = none → Q (.ref q) (upd H1 q (.lst (rgVC a c (Builtin.Range.rangeSize a b c).toNat)))
theorem pe_lR {te : L2.St → Hp → (Int → Int → Int → Hp → Prop) → Prop} (hc : X.calm = true) (hg : Gl X "list") (hm : X.mg "list" = none) (he : PRgC X e te) (na : starEach [e] X.env = (false, eval e X.env) :: starEach [] X.env := by rfl) : PE X (.Call (.Name "list" p) [e] [] pos) (tLR te) := by
  refine ⟨fun pins s σ H Q I h => ?_⟩
  refine Call_ (ld_blt I hg hm boot_list (PyProof.Rows.callWith_type1 (args_cons (thn (he pins s σ H _ I h) fun x s1 ⟨r, a, b, c, t, u, v, H1, ex, hr, I1, ok, q⟩ => args_nil ?_) na) na))
  subst ex
  unfold rgOkC at ok
  simp only [Bool.and_eq_true, decide_eq_true_eq] at ok
  obtain ⟨⟨⟨⟨o1, o2⟩, o3⟩, o4⟩, o5⟩ := ok
  refine call_list_range (n := (Builtin.Range.rangeSize a b c).toNat) (I1.ok.hd hc) hr o3 (Int.toNat_of_nonneg o4).symm (by omega) fun h' tk acc c' hk e' hi => ?_
  refine ⟨.ref s1.heap.objs.size, upd H1 s1.heap.objs.size (.lst (rgVC a c (Builtin.Range.rangeSize a b c).toNat)), I1.laid hk (Nat.le_refl _) (show ObjOk X.prog X.w _ _ _ (.lst (rgVC a c _)) from ⟨?_, acc.toList, c', vals_rgC hi, ?_⟩), rfl, q _ (I1.hok.fresh (Nat.le_refl _))⟩
  · unfold rgVC; rw [List.length_map, List.length_range, sizeLine_eq]; omega
  · rw [Array.toArray_toList]; exact e'
theorem prgC_3 {ta : TA} (hg : Gl X "range") (hm : X.mg "range" = none) (ha : PA X [a, b, c] ta)
    (hs : starEach [a, b, c] X.env = (false, eval a X.env) :: starEach [b, c] X.env := by rfl) (hpl : (backTo p2 (starEach [b, c] X.env)).any (·.1) = false := by rfl) :
    PRgC X (.Call (.Name "range" p) [a, b, c] [] p2) (fun σ H Q => ta σ H fun vs H1 => ∃ i j k, vs = [.int i, .int j, .int k] ∧ rgOkC i j k = true ∧ Q i j k H1) := by
  intro pins s σ H Q I h
  refine Call_ (ld_blt I hg hm boot_range (PyProof.Rows.callWith_type1 (thn (ha.run p2 pins s σ H _ I h) fun us s1 ⟨vs, H1, I1, r1, q1⟩ => ?_) hs hpl))
  obtain ⟨i, j, k, e, ok, q⟩ := q1
  subst e
  unfold rgOkC at ok
  simp only [Bool.and_eq_true, decide_eq_true_eq] at ok
  obtain ⟨⟨⟨⟨o1, o2⟩, o3⟩, o4⟩, o5⟩ := ok
  cases r1 with
  | cons r rr =>
    cases rr with
    | cons r' rr =>
      cases rr with
      | cons r'' rr =>
        cases rr
        obtain ⟨t, rfl⟩ := r
        obtain ⟨t', rfl⟩ := r'
        obtain ⟨t'', rfl⟩ := r''
        exact call_range_3 o1 ⟨_, i, j, k, _, _, _, H1, rfl, IsRange.new _ _ _ _ _ _ _, I1.kept fun b u e => Heap.get?_push_of_some _ e, q⟩ (.inl (PyProof.noPylong_small o2))
theorem prgC_2 {t : L2.St → Hp → (Int → Int → Hp → Prop) → Prop} (h : PRg X e t) : PRgC X e (fun σ H Q => t σ H fun i j H1 => Q i j 1 H1) := fun pins s σ H Q I q =>
  thn (h pins s σ H _ I q) fun x s1 ⟨r, a, b, t, u, v, H', h1, h2, h3, h4⟩ => ⟨r, a, b, 1, t, u, v, H', h1, h2, h3, h4⟩
theorem mLR_some {i j c : Int} {d : D} (h : mLR i j c = some d) : rgOkC i j c = true ∧ d = .lst (rngL i c (Builtin.Range.rangeSize i j c).toNat) := by
  unfold mLR at h
  split at h
  · cases h; exact ⟨by assumption, rfl⟩
  · cases h
theorem fe_lrng1 (hg : Gl X "list") (hm : X.mg "list" = none) (hg2 : Gl X "range") (hm2 : X.mg "range" = none) (hc : X.calm = true := by rfl) (ha : FE X .rd a f) (na : starEach [a] X.env = (false, eval a X.env) :: starEach [] X.env := by rfl) (nb : starEach [.Call (.Name "range" p) [a] [] p2] X.env = (false, eval (.Call (.Name "range" p) [a] [] p2) X.env) :: starEach [] X.env := by rfl) {q : Pos} :
    FE X (.ow 1) (.Call (.Name "list" q) [.Call (.Name "range" p) [a] [] p2] [] pos) (eB mLRng1 f) := PE.weak (pe_lR hc hg hm (prgC_2 (prg_1 hg2 hm2 ha na)) nb) fun σ H Q ⟨F, fps, st, d, r, ed, q⟩ => by
  unfold eB at ed
  cases ef : f st with
  | none => rw [ef] at ed; cases ed
  | some x =>
    rw [ef] at ed
    cases x with
    | int j =>
      obtain ⟨h1, rfl⟩ := mLR_some ed
      exact ⟨F, fps, st, .int j, r, ef, fun v H1 s1 w => ⟨j, w, h1, fun p np => q _ _ (s1.trans (same_upd np)) (VR.newF r s1 (rng_rep 0 1 _) (rng_flat 0 1 _) np)⟩⟩
    | _ => cases ed
theorem fe_lrng2 (hg : Gl X "list") (hm : X.mg "list" = none) (hg2 : Gl X "range") (hm2 : X.mg "range" = none) (ha : FE X .rd a f) (hb : FE X .rd b g) (hc : X.calm = true := by rfl) (na : starEach [a, b] X.env = (false, eval a X.env) :: starEach [b] X.env := by rfl) (nc : starEach [b] X.env = (false, eval b X.env) :: starEach [] X.env := by rfl) (hp : (backTo p2 (starEach [b] X.env)).any (·.1) = false := by rfl)
    (nb : starEach [.Call (.Name "range" p) [a, b] [] p2] X.env = (false, eval (.Call (.Name "range" p) [a, b] [] p2) X.env) :: starEach [] X.env := by rfl) {q : Pos} :
    FE X (.ow 1) (.Call (.Name "list" q) [.Call (.Name "range" p) [a, b] [] p2] [] pos) (eBin mLRng2 f g) := PE.weak (pe_lR hc hg hm (prgC_2 (prg_2 hg2 hm2 ha hb na nc hp)) nb) fun σ H Q ⟨F, fps, st, d, r, ed, q⟩ => by
  obtain ⟨x, y, e1, e2, e3⟩ := bind2 ed
  unfold mLRng2 at e3
  split at e3
  · obtain ⟨h1, rfl⟩ := mLR_some e3
    exact ⟨F, fps, st, _, r, e1, fun v H1 s1 w => ⟨F, fps, st, _, r.mono s1, e2, fun u H2 s2 w2 => ⟨_, _, w, w2, h1, fun p np => q _ _ ((s1.trans s2).trans (same_upd np)) (VR.newF r (s1.trans s2) (rng_rep _ 1 _) (rng_flat _ 1 _) np)⟩⟩⟩
  · cases e3
theorem fe_lrng3 (hg : Gl X "list") (hm : X.mg "list" = none) (hg2 : Gl X "range") (hm2 : X.mg "range" = none) (ha : FE X .rd a f) (hb : FE X .rd b g) (hcc : FE X .rd c h) (hc : X.calm = true := by rfl) (na : starEach [a, b, c] X.env = (false, eval a X.env) :: starEach [b, c] X.env := by rfl) (nc : starEach [b, c] X.env = (false, eval b X.env) :: starEach [c] X.env := by rfl) (nd : starEach [c] X.env = (false, eval c X.env) :: starEach [] X.env := by rfl) (hp : (backTo p2 (starEach [b, c] X.env)).any (·.1) = false := by rfl)
    (nb : starEach [.Call (.Name "range" p) [a, b, c] [] p2] X.env = (false, eval (.Call (.Name "range" p) [a, b, c] [] p2) X.env) :: starEach [] X.env := by rfl) {q : Pos} :
    FE X (.ow 1) (.Call (.Name "list" q) [.Call (.Name "range" p) [a, b, c] [] p2] [] pos) (eTri mLRng3 f g h) := PE.weak (pe_lR hc hg hm (prgC_3 hg2 hm2 (pa_cons ha (pa_cons hb (pa_cons hcc pa_nil nd) nc) na) na hp) nb) fun σ H Q ⟨F, fps, st, d, r, ed, q⟩ => by
  unfold eTri at ed
  obtain ⟨x, y, z, e1, e2, e3, e4⟩ := bind3 ed
  unfold mLRng3 at e4
  split at e4
  · obtain ⟨h1, rfl⟩ := mLR_some e4
    refine ⟨F, fps, st, _, r, e1, fun v H1 s1 w => ⟨F, fps, st, _, r.mono s1, e2, fun u H2 s2 w2 => ⟨F, fps, st, _, r.mono (s1.trans s2), e3, fun u3 H3 s3 w3 => ⟨_, _, _, ?_, h1, h1, fun p np => q _ _ ((s1.trans (s2.trans s3)).trans (same_upd np)) (VR.newF r (s1.trans (s2.trans s3)) (rng_rep _ _ _) (rng_flat _ _ _) np)⟩⟩⟩⟩
    rw [show v = _ from w, show u = _ from w2, show u3 = _ from w3]
  · cases e4

/-! ### tuple + tuple -/
def mCatT (x y : D) : Option D := match x, y with
  | .tup (d :: ds), .tup (e :: es) => if lenOk ((d :: ds).length + (e :: es).length) = true then some (.tup ((d :: ds) ++ (e :: es))) else none
  | _, _ => none
theorem fe_catT (ha : FE X .rd a f) (hb : FE X .rd b g) : FE X .rd (.BinOp a .Add b pos) (eBin mCatT f g) := PE.weak (pe_op op_catT ha hb) fun σ H Q ⟨F, fps, st, d, r, ed, q⟩ => by
  obtain ⟨x, y, e1, e2, e3⟩ := bind2 ed
  refine ⟨F, fps, st, x, r, e1, fun v H1 s1 w1 => ⟨F, fps, st, y, r.mono s1, e2, fun u H2 s2 w2 => ?_⟩⟩
  unfold mCatT at e3
  split at e3
  · split at e3
    · rename_i hl
      cases e3
      obtain ⟨l, xs, l1, l2, l3⟩ := w1
      obtain ⟨m, ys, m1, m2, m3⟩ := w2
      have hx := l3.length
      have hy := m3.length
      refine ⟨l, m, xs, ys, l1, m1, Same.sqt s2 l2, m2, fun z => ?_, by rw [hx, hy]; exact lenOk_le hl, fun z => ?_, fun _ p np => q _ _ ((s1.trans s2).trans (same_upd np)) (VR.newT (kd := .rd) r (s1.trans s2) ((RepL.mono s2 _ _ l3).app m3) np)⟩
      · rw [z] at hx; simp at hx
      · rw [z] at hy; simp at hy
    · cases e3
  · cases e3

/-! ### min, max, int, abs -/
def mMin2 : List D → Option D
  | [.int i, .int j] => some (.int (if j < i then j else i))
  | _ => none
def mMax2 : List D → Option D
  | [.int i, .int j] => some (.int (if j > i then j else i))
  | _ => none
theorem fe_min2 (hg : Gl X "min") (hm : X.mg "min" = none) (ha : FA X .rd (e :: es) fa) (hc : X.calm = true := by rfl) (he : starEach (e :: es) X.env = (false, eval e X.env) :: starEach es X.env := by rfl) (hpl : (backTo pos (starEach es X.env)).any (·.1) = false := by rfl) :
    FE X kd (.Call (.Name "min" p) (e :: es) [] pos) (eCB mMin2 fa) := PE.weak (pe_callB (call_min2 hc) hg hm (by decide +kernel) ha (by decide) (by decide) he hpl) fun _ _ _ => tF_cb fun xs H Q ds d r e => by
  unfold mMin2 at e
  split at e
  · cases e
    obtain ⟨v, v', ev, w1, w2⟩ := r.two_inv
    rw [show v = .int _ from w1, show v' = .int _ from w2] at ev
    exact ⟨rfl, fun q => ⟨_, _, ev, q⟩⟩
  · cases e
theorem fe_max2 (hg : Gl X "max") (hm : X.mg "max" = none) (ha : FA X .rd (e :: es) fa) (hc : X.calm = true := by rfl) (he : starEach (e :: es) X.env = (false, eval e X.env) :: starEach es X.env := by rfl) (hpl : (backTo pos (starEach es X.env)).any (·.1) = false := by rfl) :
    FE X kd (.Call (.Name "max" p) (e :: es) [] pos) (eCB mMax2 fa) := PE.weak (pe_callB (call_max2 hc) hg hm (by decide +kernel) ha (by decide) (by decide) he hpl) fun _ _ _ => tF_cb fun xs H Q ds d r e => by
  unfold mMax2 at e
  split at e
  · cases e
    obtain ⟨v, v', ev, w1, w2⟩ := r.two_inv
    rw [show v = .int _ from w1, show v' = .int _ from w2] at ev
    exact ⟨rfl, fun q => ⟨_, _, ev, q⟩⟩
  · cases e
def mInt1 : List D → Option D
  | [.int i] => some (.int i)
  | [.bl b] => some (.int (if b then 1 else 0))
  | _ => none
theorem fe_int1 (hg : Gl X "int") (hm : X.mg "int" = none) (ha : FA X .rd (e :: es) fa) (he : starEach (e :: es) X.env = (false, eval e X.env) :: starEach es X.env := by rfl) (hpl : (backTo pos (starEach es X.env)).any (·.1) = false := by rfl) :
    FE X kd (.Call (.Name "int" p) (e :: es) [] pos) (eCB mInt1 fa) := PE.weak (pe_callTy call_int1 hg hm (by decide +kernel) ha (by decide) (by decide) he hpl) fun _ _ _ => tF_cb fun xs H Q ds d r e => by
  unfold mInt1 at e
  split at e
  · cases e
    obtain ⟨v, ev, w1⟩ := r.one_inv
    rw [show v = .int _ from w1] at ev
    exact ⟨rfl, fun q => .inl ⟨_, ev, q⟩⟩
  · cases e
    obtain ⟨v, ev, w1⟩ := r.one_inv
    rw [show v = .bl _ from w1] at ev
    exact ⟨rfl, fun q => .inr ⟨_, ev, q⟩⟩
  · cases e
def mAbs : List D → Option D
  | [.int i] => some (.int (if i < 0 then -i else i))
  | _ => none
theorem fe_abs (hg : Gl X "abs") (hm : X.mg "abs" = none) (ha : FA X .rd (e :: es) fa) (he : starEach (e :: es) X.env = (false, eval e X.env) :: starEach es X.env := by rfl) (hpl : (backTo pos (starEach es X.env)).any (·.1) = false := by rfl) :
    FE X kd (.Call (.Name "abs" p) (e :: es) [] pos) (eCB mAbs fa) := PE.weak (pe_callB call_abs hg hm (by decide +kernel) ha (by decide) (by decide) he hpl) fun _ _ _ => tF_cb fun xs H Q ds d r e => by
  unfold mAbs at e
  split at e
  · cases e
    obtain ⟨v, ev, w1⟩ := r.one_inv
    rw [show v = .int _ from w1] at ev
    exact ⟨rfl, fun q => ⟨_, ev, q⟩⟩
  · cases e
/-- min(xs), max(xs) of whole numbers -/
def intsOf : List D → Option (List Int)
  | [] => some []
  | .int i :: r => (intsOf r).map (i :: ·)
  | _ => none
def minL : List Int → Int
  | [] => 0
  | [x] => x
  | x :: y :: r => min x (minL (y :: r))
def maxL : List Int → Int
  | [] => 0
  | [x] => x
  | x :: y :: r => max x (maxL (y :: r))
theorem minL_mem : ∀ {l : List Int}, l ≠ [] → minL l ∈ l ∧ ∀ y ∈ l, minL l ≤ y
  | [], h => absurd rfl h
  | [x], _ => ⟨by simp [minL], fun y hy => by simp at hy; subst hy; exact Int.le_refl _⟩
  | x :: y :: r, _ => by
    obtain ⟨h1, h2⟩ := minL_mem (l := y :: r) (by simp)
    unfold minL
    refine ⟨?_, fun z hz => ?_⟩
    · by_cases h : x ≤ minL (y :: r)
      · rw [Int.min_eq_left h]; simp
      · rw [Int.min_eq_right (by omega)]; exact List.mem_cons_of_mem _ h1
    · rcases List.mem_cons.mp hz with rfl | hz
      · exact Int.min_le_left _ _
      · exact Int.le_trans (Int.min_le_right _ _) (h2 z hz)
theorem maxL_mem : ∀ {l : List Int}, l ≠ [] → maxL l ∈ l ∧ ∀ y ∈ l, y ≤ maxL l
  | [], h => absurd rfl h
  | [x], _ => ⟨by simp [maxL], fun y hy => by simp at hy; subst hy; exact Int.le_refl _⟩
  | x :: y :: r, _ => by
    obtain ⟨h1, h2⟩ := maxL_mem (l := y :: r) (by simp)
    unfold maxL
    refine ⟨?_, fun z hz => ?_⟩
    · by_cases h : x ≤ maxL (y :: r)
      · rw [Int.max_eq_right h]; exact List.mem_cons_of_mem _ h1
      · rw [Int.max_eq_left (by omega)]; simp
    · rcases List.mem_cons.mp hz with rfl | hz
      · exact Int.le_max_left _ _
      · exact Int.le_trans (h2 z hz) (Int.le_max_right _ _)
theorem intsOf_rep {H : Hp} : ∀ {ds : List D} {vs : List V} {l : List Int}, RepL K H ds vs → intsOf ds = some l → vs = l.map V.int ∧ ds = l.map D.int
  | [], vs, l, r, e => by cases e; exact ⟨r, rfl⟩
  | d :: ds, vs, l, ⟨v, r, e1, h1, h2⟩, e => by
    cases d with
    | int i =>
      have e : (intsOf ds).map (i :: ·) = some l := e
      cases er : intsOf ds with
      | none => rw [er] at e; cases e
      | some l' =>
        rw [er] at e; cases e
        obtain ⟨q1, q2⟩ := intsOf_rep h2 er
        rw [e1, q1, q2, show v = .int i from h1]
        exact ⟨rfl, rfl⟩
    | _ => cases e
def mMinL : List D → Option D
  | [.lst ds] => (intsOf ds).bind fun l => if l.isEmpty = true then none else some (.int (minL l))
  | _ => none
def mMaxL : List D → Option D
  | [.lst ds] => (intsOf ds).bind fun l => if l.isEmpty = true then none else some (.int (maxL l))
  | _ => none
theorem fe_minL (hg : Gl X "min") (hm : X.mg "min" = none) (ha : FA X .rd (e :: es) fa) (hc : X.calm = true := by rfl) (he : starEach (e :: es) X.env = (false, eval e X.env) :: starEach es X.env := by rfl) (hpl : (backTo pos (starEach es X.env)).any (·.1) = false := by rfl) :
    FE X kd (.Call (.Name "min" p) (e :: es) [] pos) (eCB mMinL fa) := PE.weak (pe_callB (cr_min hc) hg hm (by decide +kernel) ha (by decide) (by decide) he hpl) fun _ _ _ => tF_cb fun xs H Q ds d r e => by
  unfold mMinL at e
  split at e
  · rename_i xs'
    cases ei : intsOf xs' with
    | none => rw [ei] at e; cases e
    | some l =>
      rw [ei] at e
      have e : (if l.isEmpty = true then none else some (D.int (minL l))) = some d := e
      split at e
      · cases e
      · rename_i hl
        cases e
        obtain ⟨v, ev, a, ys, e1, e2, e3⟩ := r.one_inv
        obtain ⟨q1, q2⟩ := intsOf_rep e3 ei
        have hne : l ≠ [] := fun z => hl (by rw [z]; rfl)
        obtain ⟨m1, m2⟩ := minL_mem hne
        refine ⟨rfl, fun q => ⟨a, l, by rw [ev, e1], .inl (.inl (by rw [← q1]; exact e2)), List.length_pos_iff.mpr hne, fun m hm hall => ?_⟩⟩
        have : m = minL l := Int.le_antisymm (hall _ m1) (m2 m hm)
        rw [this]; exact q
  · cases e
theorem fe_maxL (hg : Gl X "max") (hm : X.mg "max" = none) (ha : FA X .rd (e :: es) fa) (hc : X.calm = true := by rfl) (he : starEach (e :: es) X.env = (false, eval e X.env) :: starEach es X.env := by rfl) (hpl : (backTo pos (starEach es X.env)).any (·.1) = false := by rfl) :
    FE X kd (.Call (.Name "max" p) (e :: es) [] pos) (eCB mMaxL fa) := PE.weak (pe_callB (cr_max hc) hg hm (by decide +kernel) ha (by decide) (by decide) he hpl) fun _ _ _ => tF_cb fun xs H Q ds d r e => by
  unfold mMaxL at e
  split at e
  · rename_i xs'
    cases ei : intsOf xs' with
    | none => rw [ei] at e; cases e
    | some l =>
      rw [ei] at e
      have e : (if l.isEmpty = true then none else some (D.int (maxL l))) = some d := e
      split at e
      · cases e
      · rename_i hl
        cases e
        obtain ⟨v, ev, a, ys, e1, e2, e3⟩ := r.one_inv
        obtain ⟨q1, q2⟩ := intsOf_rep e3 ei
        have hne : l ≠ [] := fun z => hl (by rw [z]; rfl)
        obtain ⟨m1, m2⟩ := maxL_mem hne
        refine ⟨rfl, fun q => ⟨a, l, by rw [ev, e1], .inl (.inl (by rw [← q1]; exact e2)), List.length_pos_iff.mpr hne, fun m hm hall => ?_⟩⟩
        have : m = maxL l := Int.le_antisymm (m2 m hm) (hall _ m1)
        rw [this]; exact q
  · cases e
end
end FL

namespace FL
open PySem PySem.Spec PyProof.Rows L2

section
variable {K : PySem.W.Frag} {F : Fr} {fps : Fps} {σ : L2.St} {H H1 H' G G' : Hp} {st : Sl}
/-- one item of one's own list, and how it is put in another's place -/
theorem OwnL.split {k : Nat} : ∀ {ds : List D} {xs : List V} {fp : List Addr} {j : Nat} {d : D}, OwnL K H G ds k xs fp → ds[j]? = some d → ∃ v A B C, xs[j]? = some v ∧ fp = A ++ (B ++ C) ∧ Own K H G d k v B ∧
    ∀ (H' G' : Hp) (d' : D) (v' : V) (B' : List Addr), (∀ a, a ∈ A ∨ a ∈ C → H' a = H a) → Same G G' → Own K H' G' d' k v' B' → OwnL K H' G' (ds.set j d') k (xs.set j v') (A ++ (B' ++ C))
  | [], _, _, _, _, _, e => by simp at e
  | d0 :: ds, _, _, 0, d, ⟨v, r, fp1, fp2, ev, ef, h1, h2⟩, e => by
    simp at e; subst e
    subst ev ef
    refine ⟨v, [], fp1, fp2, rfl, rfl, h1, fun H' G' d' v' B' hk hs o => ⟨v', r, B', fp2, rfl, rfl, o, OwnL.mono hs ds k r fp2 (fun a m => hk a (.inr m)) h2⟩⟩
  | d0 :: ds, _, _, j + 1, d, ⟨v, r, fp1, fp2, ev, ef, h1, h2⟩, e => by
    subst ev ef
    obtain ⟨w, A, B, C, e1, e2, o, put⟩ := OwnL.split (j := j) h2 (by simpa using e)
    subst e2
    refine ⟨w, fp1 ++ A, B, C, by simpa using e1, by simp [List.append_assoc], o, fun H' G' d' v' B' hk hs o' => ?_⟩
    refine ⟨v, r.set j v', fp1, A ++ (B' ++ C), rfl, by simp [List.append_assoc], Own.mono hs d0 k v fp1 (fun a m => hk a (.inl (List.mem_append_left _ m))) h1, ?_⟩
    exact put H' G' d' v' B' (fun a m => hk a (m.imp (fun z => List.mem_append_right _ z) id)) hs o'
theorem nodup_mid {A B B' C : List Addr} (h : (A ++ (B ++ C)).Nodup) (n : B'.Nodup) (d : ∀ a ∈ B', a ∉ A ∧ a ∉ C) : (A ++ (B' ++ C)).Nodup := by
  rw [List.nodup_append] at h ⊢
  obtain ⟨h1, h2, h3⟩ := h
  rw [List.nodup_append] at h2 ⊢
  obtain ⟨h4, h5, h6⟩ := h2
  refine ⟨h1, ⟨n, h5, fun a m b m2 e => (d a m).2 (e ▸ m2)⟩, fun a m b m2 e => ?_⟩
  rcases List.mem_append.mp m2 with m2 | m2
  · exact (d b m2).1 (e ▸ m)
  · exact h3 a m b (List.mem_append_right _ m2) e
end

section
variable {X : Cx} {k kr : Nat} {kd : Kd} {e a b c tg : Expr} {es : List Expr} {f g h : EM} {fa : AM} {pos p p2 : Pos} {K : PySem.W.Frag}
/-! ### x[i] = e -/
def sSub (i k : Nat) (g f : EM) : SM := fun st => match slD st[i]? with
  | some (k', .lst ds) => if k' = k + 1 then (f st).bind fun d => (g st).bind fun x => match x with
    | .int n => (L2.ixN ds.length n).map fun j => .nx (setD st i (.lst (ds.set j d)))
    | _ => none
    else none
  | _ => none
theorem ixN_lt {n : Nat} {i : Int} {j : Nat} (h : L2.ixN n i = some j) : j < n := (L2.ixN_seq h).2.1
theorem tF_sub {i : Nat} {Dn : Ends} {σ : L2.St} {H : Hp} (h : tFS K kr (sSub i k g f) Dn σ H) : tAsg (tF K (.ow k) f) (gSub (tVar i) (tF K .rd g) rSetL) Dn σ H := by
  obtain ⟨F, st, o, ⟨fps, r⟩, e, c⟩ := h
  unfold sSub at e
  split at e
  · rename_i k' ds hs
    split at e
    · rename_i hk
      subst hk
      cases e1 : f st with
      | none => rw [e1] at e; cases e
      | some d =>
        cases e2 : g st with
        | none => rw [e1, e2] at e; cases e
        | some x =>
          rw [e1, e2] at e
          cases x with
          | int n =>
            have e : (L2.ixN ds.length n).map (fun j => Out.nx (setD st i (.lst (ds.set j d)))) = some o := e
            cases ej : L2.ixN ds.length n with
            | none => rw [ej] at e; cases e
            | some j =>
              rw [ej] at e; cases e
              obtain ⟨v0, ev, L, xs, fpa, eL, hL, efp, oL⟩ := r.sl hs
              subst eL
              refine ⟨F, fps, st, d, r, e1, fun v H1 s1 w => ?_⟩
              refine ⟨.ref L, ev, F, fps, st, .int n, r.mono s1, e2, fun u H2 s2 w2 => ?_⟩
              have s12 := s1.trans s2
              obtain ⟨fq, nq, fr, oq⟩ := w.grow s2
              have hx : ds[j]? = some (ds[j]'(ixN_lt ej)) := List.getElem?_eq_getElem (ixN_lt ej)
              obtain ⟨vj, A, B, C, g1, g2, g3, put⟩ := oL.split hx
              have hm : L ∈ fps i := by rw [efp]; exact List.mem_cons_self
              refine ⟨L, xs, n, j, rfl, w2, s12 _ _ hL, by rw [oL.len]; exact ej, ?_⟩
              have dis : ∀ a, a ∈ fps i → a ∈ fq → False := fun a m m2 => r.there ⟨i, m⟩ (fr a m2)
              have nd0 := r.nd i
              rw [efp] at nd0
              obtain ⟨ndL, ndf⟩ := List.nodup_cons.mp nd0
              have inF : ∀ a, a ∈ A ∨ a ∈ C → a ∈ fps i := fun a m => by
                rw [efp, g2]
                refine List.mem_cons_of_mem _ (m.elim (fun m => List.mem_append_left _ m) fun m => List.mem_append_right _ (List.mem_append_right _ m))
              have nall : (L :: (A ++ (fq ++ C))).Nodup := by
                refine List.nodup_cons.mpr ⟨fun m => ?_, nodup_mid (g2 ▸ ndf) nq fun a m => ⟨fun z => dis a (inF a (.inl z)) m, fun z => dis a (inF a (.inr z)) m⟩⟩
                rcases List.mem_append.mp m with m | m
                · exact ndL (by rw [g2]; exact List.mem_append_left _ m)
                · rcases List.mem_append.mp m with m | m
                  · exact dis L hm m
                  · exact ndL (by rw [g2]; exact List.mem_append_right _ (List.mem_append_right _ m))
              have sub : ∀ a ∈ L :: (A ++ (fq ++ C)), a ∈ fps i ∨ a ∈ fq := fun a m => by
                rcases List.mem_cons.mp m with rfl | m
                · exact .inl hm
                · rcases List.mem_append.mp m with m | m
                  · exact .inl (inF a (.inl m))
                  · rcases List.mem_append.mp m with m | m
                    · exact .inr m
                    · exact .inl (inF a (.inr m))
              refine c σ _ ⟨_, r.bump (i := i) (A := L) (o := .lst (xs.set j v)) (fp' := L :: (A ++ (fq ++ C))) s12 hm True.intro nall (fun a m => ?_) setD_length (fun j hj => setD_ne hj) fun sl es gen => ?_⟩
              · exact (sub a m).imp id fun m => ⟨fr a m, Own.isLst d k v fq oq a m⟩
              · refine slD_put hs (fun s es => r.ok i s es) ev es ?_
                have nin : ∀ a o', H a = some o' → ¬ own fps a → ¬ own (setF fps i (L :: (A ++ (fq ++ C)))) a := fun a o' e h z => by
                  rcases own_setF z with m | z
                  · rcases sub a m with m | m
                    · exact h ⟨i, m⟩
                    · rw [fr a m] at e; cases e
                  · exact h z
                refine ⟨L, xs.set j v, A ++ (fq ++ C), rfl, upd_same, rfl, put _ _ d v fq (fun a m => ?_) (gen _ nin) (Own.mono (fun a o' e => ?_) d k v fq (fun a m => upd_ne fun z => dis L hm (z ▸ m)) oq)⟩
                · have m' := inF a m
                  have aL : a ≠ L := fun z => by
                    rw [z] at m
                    refine ndL ?_
                    rw [g2]
                    exact m.elim (fun m => List.mem_append_left _ m) fun m => List.mem_append_right _ (List.mem_append_right _ m)
                  rw [upd_ne aL]
                  obtain ⟨_, q, _⟩ := r.isLst ⟨i, m'⟩
                  rw [q]; exact s12 _ _ q
                · obtain ⟨z1, z2⟩ := hideP_some.mp e
                  have aL : a ≠ L := fun z => z1 (.inr ⟨i, z ▸ hm⟩)
                  refine hideP_some.mpr ⟨fun z => ?_, by rw [upd_ne aL]; exact z2⟩
                  rcases own_setF z with m | z
                  · rcases sub a m with m | m
                    · exact z1 (.inr ⟨i, m⟩)
                    · exact z1 (.inl m)
                  · exact z1 (.inr z)
          | _ => cases e
    · cases e
  · cases e
theorem fs_sub {i : Nat} {pt : Pos} (he : FE X (.ow k) e f) (hx : PE X a (tVar i)) (hi : FE X .rd b g)
    (ha : ∀ v, assign (.Subscript a b pt) X.env v = (do
      let ov ← holding [v] (eval a X.env)
      let iv ← holding [v, ov] (eval b X.env)
      standAt pt
      holding [v, ov, iv] (setItem ov iv v)
      release [v, ov, iv] []) := by intro _; rfl)
    (hs : swapsWithSole [.Subscript a b pt] e pos.line X.env = pure false := by rfl) (hw : swappedStores [.Subscript a b pt] e X.env = pure none := by rfl)
    (h1 : (assignEach [.Subscript a b pt] X.env).map (·.2) = [assign (.Subscript a b pt) X.env] := by rfl) : FS X kr (.Assign [.Subscript a b pt] e pos) (sSub i k g f) :=
  PS.weak (ps_asg he (pg_sub hx hi set_list ha) hs hw h1) fun _ _ _ => tF_sub

/-! ### x[i][j] = e -/
def sSub2 (i k : Nat) (g h f : EM) : SM := fun st => match slD st[i]? with
  | some (k', .lst ds) => if k' = k + 2 then (f st).bind fun d => (g st).bind fun x => (h st).bind fun y => match x, y with
    | .int n, .int n' => (L2.ixN ds.length n).bind fun j => match ds[j]? with
      | some (.lst es) => (L2.ixN es.length n').map fun j' => .nx (setD st i (.lst (ds.set j (.lst (es.set j' d)))))
      | _ => none
    | _, _ => none
    else none
  | _ => none
theorem atI_ixN {α : Type} {xs : List α} {i : Int} {j : Nat} {v : α} (h : L2.ixN xs.length i = some j) (e : xs[j]? = some v) : L2.atI xs i = some v := by
  unfold L2.atI; rw [h]; exact e
theorem tF_sub2 {i : Nat} {Dn : Ends} {σ : L2.St} {H : Hp} (hh : tFS K kr (sSub2 i k g h f) Dn σ H) : tAsg (tF K (.ow k) f) (gSub (tOp (rIx K) (tVar i) (tF K .rd g)) (tF K .rd h) rSetL) Dn σ H := by
  obtain ⟨F, st, o, ⟨fps, r⟩, e, c⟩ := hh
  unfold sSub2 at e
  split at e
  · rename_i k' ds hs
    split at e
    · rename_i hk
      subst hk
      obtain ⟨d, x, y, e1, e2, e3, e⟩ := bind3 e
      split at e
      · rename_i n n'
        cases ej : L2.ixN ds.length n with
        | none => rw [ej] at e; cases e
        | some j =>
          rw [ej] at e
          have e : (match ds[j]? with
            | some (.lst es) => (L2.ixN es.length n').map fun j' => Out.nx (setD st i (.lst (ds.set j (.lst (es.set j' d)))))
            | _ => none) = some o := e
          split at e
          · rename_i es hes
            cases ej' : L2.ixN es.length n' with
            | none => rw [ej'] at e; cases e
            | some j' =>
              rw [ej'] at e; cases e
              obtain ⟨v0, ev, L, xs, fpa, eL, hL, efp, oL⟩ := r.sl hs
              subst eL
              refine ⟨F, fps, st, d, r, e1, fun v H1 s1 w => ?_⟩
              refine ⟨.ref L, ev, F, fps, st, .int n, r.mono s1, e2, fun u H2 s2 w2 => ?_⟩
              obtain ⟨vj, A, B, C, g1, g2, g3, put⟩ := oL.split hes
              obtain ⟨M, ys, fpb, eM, hM, efB, oM⟩ := g3
              subst eM
              refine .inl ⟨L, xs, n, .ref M, rfl, w2, .inl (.inl ((s1.trans s2) _ _ hL)), atI_ixN (by rw [oL.len]; exact ej) g1, ?_⟩
              refine ⟨F, fps, st, .int n', (r.mono s1).mono s2, e3, fun u3 H3 s3 w3 => ?_⟩
              have s12 := (s1.trans s2).trans s3
              obtain ⟨fq, nq, fr, oq⟩ := w.grow (s2.trans s3)
              have hx : es[j']? = some (es[j']'(ixN_lt ej')) := List.getElem?_eq_getElem (ixN_lt ej')
              obtain ⟨vj', A2, B2, C2, p1, p2, p3, put2⟩ := oM.split hx
              subst efB p2
              have hm : M ∈ fps i := by rw [efp, g2]; exact List.mem_cons_of_mem _ (List.mem_append_right _ List.mem_cons_self)
              refine ⟨M, ys, n', j', rfl, w3, s12 _ _ hM, by rw [oM.len]; exact ej', ?_⟩
              have dis : ∀ a, a ∈ fps i → a ∈ fq → False := fun a m m2 => r.there ⟨i, m⟩ (fr a m2)
              have nd0 := r.nd i
              rw [efp, g2] at nd0
              have inF : ∀ a, a ∈ L :: (A ++ (M :: (A2 ++ (B2 ++ C2)) ++ C)) → a ∈ fps i := fun a m => by rw [efp, g2]; exact m
              -- the new footprint
              have sub : ∀ a ∈ L :: (A ++ (M :: (A2 ++ (fq ++ C2)) ++ C)), a ∈ fps i ∨ a ∈ fq := fun a m => by
                simp only [List.mem_cons, List.mem_append] at m
                have hh : a ∈ fq ∨ a ∈ L :: (A ++ (M :: (A2 ++ (B2 ++ C2)) ++ C)) := by
                  simp only [List.mem_cons, List.mem_append]
                  rcases m with m | m | (m | m | m | m) | m
                  · exact .inr (.inl m)
                  · exact .inr (.inr (.inl m))
                  · exact .inr (.inr (.inr (.inl (.inl m))))
                  · exact .inr (.inr (.inr (.inl (.inr (.inl m)))))
                  · exact .inl m
                  · exact .inr (.inr (.inr (.inl (.inr (.inr (.inr m))))))
                  · exact .inr (.inr (.inr (.inr m)))
                exact hh.elim .inr fun z => .inl (inF a z)
              obtain ⟨ndL, ndR⟩ := List.nodup_cons.mp nd0
              have nall : (L :: (A ++ (M :: (A2 ++ (fq ++ C2)) ++ C))).Nodup := by
                have nM : (M :: (A2 ++ (B2 ++ C2))).Nodup := (List.nodup_append.mp (List.nodup_append.mp ndR).2.1).1
                obtain ⟨ndM, ndM2⟩ := List.nodup_cons.mp nM
                have nM2 : (M :: (A2 ++ (fq ++ C2))).Nodup := by
                  refine List.nodup_cons.mpr ⟨fun m => ?_, nodup_mid ndM2 nq fun a m => ⟨fun z => dis a (inF a (by simp [z])) m, fun z => dis a (inF a (by simp [z])) m⟩⟩
                  simp only [List.mem_append] at m
                  rcases m with m | m | m
                  · exact ndM (by simp [m])
                  · exact dis M hm m
                  · exact ndM (by simp [m])
                refine List.nodup_cons.mpr ⟨fun m => ?_, nodup_mid ndR nM2 fun a m => ?_⟩
                · simp only [List.mem_cons, List.mem_append] at m
                  rcases m with m | (m | m | m | m) | m
                  · exact ndL (by simp [m])
                  · exact ndL (by simp [m])
                  · exact ndL (by simp [m])
                  · exact dis L (inF L (by simp)) m
                  · exact ndL (by simp [m])
                  · exact ndL (by simp [m])
                · have h3 := (List.nodup_append.mp ndR).2.2
                  have h4 := (List.nodup_append.mp (List.nodup_append.mp ndR).2.1).2.2
                  simp only [List.mem_cons, List.mem_append] at m
                  rcases m with m | m | m | m
                  · exact ⟨fun z => h3 a z a (by simp [m]) rfl, fun z => h4 a (by simp [m]) a z rfl⟩
                  · exact ⟨fun z => h3 a z a (by simp [m]) rfl, fun z => h4 a (by simp [m]) a z rfl⟩
                  · exact ⟨fun z => dis a (inF a (by simp [z])) m, fun z => dis a (inF a (by simp [z])) m⟩
                  · exact ⟨fun z => h3 a z a (by simp [m]) rfl, fun z => h4 a (by simp [m]) a z rfl⟩
              refine c σ _ ⟨_, r.bump (i := i) (A := M) (o := .lst (ys.set j' v)) (fp' := L :: (A ++ (M :: (A2 ++ (fq ++ C2)) ++ C))) s12 hm True.intro nall (fun a m => ?_) setD_length (fun j hj => setD_ne hj) fun sl es' gen => ?_⟩
              · exact (sub a m).imp id fun m => ⟨fr a m, Own.isLst d k v fq oq a m⟩
              · refine slD_put hs (fun s es => r.ok i s es) ev es' ?_
                have nin : ∀ a o', H a = some o' → ¬ own fps a → ¬ own (setF fps i (L :: (A ++ (M :: (A2 ++ (fq ++ C2)) ++ C)))) a := fun a o' e h z => by
                  rcases own_setF z with m | z
                  · rcases sub a m with m | m
                    · exact h ⟨i, m⟩
                    · rw [fr a m] at e; cases e
                  · exact h z
                have keepA : ∀ a, a ∈ fps i → a ≠ M → upd H3 M (.lst (ys.set j' v)) a = H a := fun a m aM => by
                  rw [upd_ne aM]
                  obtain ⟨_, q, _⟩ := r.isLst ⟨i, m⟩
                  rw [q]; exact s12 _ _ q
                have h3 := (List.nodup_append.mp ndR).2.2
                have h4 := (List.nodup_append.mp (List.nodup_append.mp ndR).2.1).2.2
                have nM : (M :: (A2 ++ (B2 ++ C2))).Nodup := (List.nodup_append.mp (List.nodup_append.mp ndR).2.1).1
                obtain ⟨ndM, ndM2⟩ := List.nodup_cons.mp nM
                have hset : xs.set j (V.ref M) = xs := by
                  apply List.ext_getElem?
                  intro q
                  by_cases hq : q = j
                  · subst hq
                    rw [List.getElem?_set_self (List.getElem?_eq_some_iff.mp g1).1, g1]
                  · rw [List.getElem?_set_ne (Ne.symm hq)]
                have LM : L ≠ M := fun z => ndL (by rw [z]; simp)
                refine ⟨L, xs, A ++ (M :: (A2 ++ (fq ++ C2)) ++ C), rfl, by rw [keepA L (inF L (by simp)) LM]; exact hL, rfl, ?_⟩
                rw [← hset]
                refine put _ _ _ (.ref M) (M :: (A2 ++ (fq ++ C2))) (fun a m => keepA a (inF a (m.elim (fun m => by simp [m]) fun m => by simp [m])) fun z => ?_) (gen _ nin) ?_
                · subst z
                  rcases m with m | m
                  · exact h3 a m a (by simp) rfl
                  · exact h4 a (by simp) a m rfl
                · refine ⟨M, ys.set j' v, A2 ++ (fq ++ C2), rfl, upd_same, rfl, put2 _ _ d v fq (fun a m => keepA a (inF a (m.elim (fun m => by simp [m]) fun m => by simp [m])) fun z => ?_) (gen _ nin) (Own.mono (fun a o' e => ?_) d k v fq (fun a m => upd_ne fun z => dis M hm (z ▸ m)) oq)⟩
                  · subst z
                    rcases m with m | m
                    · exact ndM (by simp [m])
                    · exact ndM (by simp [m])
                  · obtain ⟨z1, z2⟩ := hideP_some.mp e
                    have aM : a ≠ M := fun z => z1 (.inr ⟨i, z ▸ hm⟩)
                    refine hideP_some.mpr ⟨fun z => ?_, by rw [upd_ne aM]; exact z2⟩
                    rcases own_setF z with m | z
                    · rcases sub a m with m | m
                      · exact z1 (.inr ⟨i, m⟩)
                      · exact z1 (.inl m)
                    · exact z1 (.inr z)
          · cases e
      · cases e
    · cases e
  · cases e
theorem fs_sub2 {i : Nat} {pt p2 : Pos} (he : FE X (.ow k) e f) (hx : PE X a (tVar i)) (hi : FE X .rd b g) (hj : FE X .rd c h) (hpi : PlainIx b := by intro _ _; rfl)
    (ha : ∀ v, assign (.Subscript (.Subscript a b p2) c pt) X.env v = (do
      let ov ← holding [v] (eval (.Subscript a b p2) X.env)
      let iv ← holding [v, ov] (eval c X.env)
      standAt pt
      holding [v, ov, iv] (setItem ov iv v)
      release [v, ov, iv] []) := by intro _; rfl)
    (hs : swapsWithSole [.Subscript (.Subscript a b p2) c pt] e pos.line X.env = pure false := by rfl) (hw : swappedStores [.Subscript (.Subscript a b p2) c pt] e X.env = pure none := by rfl)
    (h1 : (assignEach [.Subscript (.Subscript a b p2) c pt] X.env).map (·.2) = [assign (.Subscript (.Subscript a b p2) c pt) X.env] := by rfl) : FS X kr (.Assign [.Subscript (.Subscript a b p2) c pt] e pos) (sSub2 i k g h f) :=
  PS.weak (ps_asg he (pg_sub (pe_ix ix_seq hx hi hpi) hj set_list ha) hs hw h1) fun _ _ _ => tF_sub2
end
end FL

namespace FL
open PySem PySem.Spec PyProof.Rows L2

section
variable {K : PySem.W.Frag} {F : Fr} {fps : Fps} {σ : L2.St} {H H1 H' G G' : Hp} {st : Sl}
/-- what a slot j owns goes into the list L of the slot i -/
theorem StR.into {i j : Nat} {L : Addr} {o : HO} {fp' : List Addr} {st' : Sl} (r : StR K F fps σ H st) (hij : i ≠ j) (hL : L ∈ fps i) (mo : MutO o)
    (nd : fp'.Nodup) (sub : ∀ a ∈ fp', a ∈ fps i ∨ a ∈ fps j) (hl : st'.length = st.length) (hs : ∀ q, q ≠ i → q ≠ j → st'[q]? = st[q]?) (hj : j < st.length → st'[j]? = some .un)
    (hok : ∀ sl, st'[i]? = some sl → Same (hideP H (own fps)) (hideP (upd H L o) (own (setF (setF fps j []) i fp'))) → SlotOk K (upd H L o) (hideP (upd H L o) (own (setF (setF fps j []) i fp'))) (F.pin i) sl σ[i]? fp') :
    StR K F (setF (setF fps j []) i fp') σ (upd H L o) st' := by
  have nin : ∀ a, ¬ own fps a → ¬ own (setF (setF fps j []) i fp') a := fun a h z => by
    rcases own_setF z with m | z
    · exact (sub a m).elim (fun m => h ⟨i, m⟩) fun m => h ⟨j, m⟩
    · rcases own_setF z with m | z
      · cases m
      · exact h z
  have hide : Same (hideP H (own fps)) (hideP (upd H L o) (own (setF (setF fps j []) i fp'))) := fun a o' e => by
    obtain ⟨e1, e2⟩ := hideP_some.mp e
    refine hideP_some.mpr ⟨nin a e1, ?_⟩
    rw [upd_ne (fun z => e1 ⟨i, by rw [z]; exact hL⟩)]
    exact e2
  have at' : ∀ q, q ≠ i → q ≠ j → setF (setF fps j []) i fp' q = fps q := fun q h1 h2 => by rw [setF_ne h1, setF_ne h2]
  have atj : setF (setF fps j []) i fp' j = [] := by rw [setF_ne (Ne.symm hij), setF_same]
  refine ⟨r.fr.trans hide, fun q => ?_, fun q q' a m1 m2 => ?_, by rw [hl]; exact r.len, fun q sl e => ?_, fun q a h m => ?_, ?_⟩
  · by_cases e : q = i
    · rw [e, setF_same]; exact nd
    · by_cases e2 : q = j
      · rw [e2, atj]; exact List.nodup_nil
      · rw [at' q e e2]; exact r.nd q
  · by_cases e1 : q = i <;> by_cases e2 : q' = i
    · rw [e1, e2]
    · exfalso
      rw [e1, setF_same] at m1
      by_cases e3 : q' = j
      · rw [e3, atj] at m2; cases m2
      · rw [at' q' e2 e3] at m2
        rcases sub a m1 with m | m
        · exact e2 (r.dj q' i a m2 m)
        · exact e3 (r.dj q' j a m2 m)
    · exfalso
      rw [e2, setF_same] at m2
      by_cases e3 : q = j
      · rw [e3, atj] at m1; cases m1
      · rw [at' q e1 e3] at m1
        rcases sub a m2 with m | m
        · exact e1 (r.dj q i a m1 m)
        · exact e3 (r.dj q j a m1 m)
    · by_cases e3 : q = j
      · rw [e3, atj] at m1; cases m1
      · by_cases e4 : q' = j
        · rw [e4, atj] at m2; cases m2
        · rw [at' q e1 e3] at m1; rw [at' q' e2 e4] at m2
          exact r.dj q q' a m1 m2
  · by_cases e1 : q = i
    · subst e1
      rw [setF_same]
      exact hok sl e hide
    · by_cases e2 : q = j
      · subst e2
        have hlt : q < st.length := by rw [← hl]; exact (List.getElem?_eq_some_iff.mp e).1
        rw [hj hlt] at e; cases e
        rw [atj]
        exact rfl
      · rw [hs q e1 e2] at e
        rw [at' q e1 e2]
        exact (r.ok q sl e).mono hide fun a m => by rw [upd_ne (fun z => e1 (r.dj q i a m (by rw [z]; exact hL)))]
  · rw [hl] at h
    by_cases eA : a = L
    · exact ⟨o, by rw [eA, upd_same], mo⟩
    · rw [upd_ne eA]
      by_cases e1 : q = i
      · rw [e1, setF_same] at m
        exact (sub a m).elim (fun m => r.isLst ⟨i, m⟩) fun m => r.isLst ⟨j, m⟩
      · by_cases e2 : q = j
        · rw [e2, atj] at m; cases m
        · rw [at' q e1 e2] at m
          exact r.tmp q a h m
  · obtain ⟨m, hm⟩ := r.fin
    refine ⟨max m (max i j + 1), fun q h => ?_⟩
    have h1 := Nat.le_max_right m (max i j + 1)
    have h2 := Nat.le_max_left i j
    have h3 := Nat.le_max_right i j
    rw [at' q (by omega) (by omega)]
    exact hm q (by have := Nat.le_max_left m (max i j + 1); omega)
end

section
variable {X : Cx} {k kr : Nat} {kd : Kd} {e a b c tg : Expr} {es : List Expr} {f g h : EM} {fa : AM} {pos p p2 : Pos} {K : PySem.W.Frag}
/-! ### x.append(y), y's own lists handed over -/
def sAppV (i k j : Nat) : SM := fun st => match slD st[i]?, st[j]? with
  | some (k', .lst ds), some (.va k2 d) => if (decide (k' = k + 1) && decide (k2 = k) && decide (i ≠ j) && decide (ds.length < 16777216)) = true then some (.nx ((setD st i (.lst (ds ++ [d]))).set j .un)) else none
  | _, _ => none
theorem tF_appV {i j : Nat} {Dn : Ends} {σ : L2.St} {H : Hp} (h : tFS K kr (sAppV i k j) Dn σ H) : tDrop (tBM K "list" rAppend (tVar i) (tCons (tVar j) tNil)) Dn σ H := by
  obtain ⟨F, st, o, ⟨fps, r⟩, e, c⟩ := h
  unfold sAppV at e
  split at e
  · rename_i k' ds k2 d hs hj
    split at e
    · rename_i hk
      simp only [Bool.and_eq_true, decide_eq_true_eq] at hk
      obtain ⟨⟨⟨rfl, rfl⟩, hij⟩, hlen⟩ := hk
      have hlen : ds.length < sizeLine := by rw [sizeLine_eq]; exact hlen
      cases e
      obtain ⟨v0, ev, L, xs, fpa, eL, hL, efp, oL⟩ := r.sl hs
      subst eL
      obtain ⟨v, ev2, oq⟩ := r.va hj
      refine ⟨.ref L, ev, .inl ⟨rfl, xs, .inl (.inl hL)⟩, v, ev2, L, xs, v, rfl, rfl, hL, by rw [oL.len]; exact hlen, ?_⟩
      have hm : L ∈ fps i := by rw [efp]; exact List.mem_cons_self
      have dis : ∀ a, a ∈ fps i → a ∈ fps j → False := fun a m m2 => hij (r.dj i j a m m2)
      have nall : (fps i ++ fps j).Nodup := List.nodup_append.mpr ⟨r.nd i, r.nd j, fun a m b m2 e => dis a m (e ▸ m2)⟩
      have hjl : j < st.length := (List.getElem?_eq_some_iff.mp hj).1
      refine c σ _ ⟨_, r.into (i := i) (j := j) (L := L) (o := .lst (xs ++ [v])) (fp' := fps i ++ fps j) hij hm True.intro nall (fun a m => List.mem_append.mp m) (by rw [List.length_set, setD_length]) (fun q h1 h2 => by rw [List.getElem?_set_ne (Ne.symm h2), setD_ne h1]) (fun _ => List.getElem?_set_self (by rw [setD_length]; exact hjl)) fun sl e2 gen => ?_⟩
      rw [List.getElem?_set_ne (Ne.symm hij)] at e2
      refine slD_put hs (fun s es => r.ok i s es) ev e2 ?_
      refine ⟨L, xs ++ [v], fpa ++ fps j, rfl, upd_same, by rw [efp]; rfl, OwnL.app (OwnL.mono gen ds _ xs fpa (fun a m => ?_) oL) (OwnL.one (Own.mono gen d _ v (fps j) (fun a m => upd_ne fun z => dis L hm (z ▸ m)) oq))⟩
      have aL : a ≠ L := fun z => by
        have := r.nd i
        rw [efp] at this
        exact (List.nodup_cons.mp this).1 (z ▸ m)
      rw [upd_ne aL]
    · cases e
  · cases e
theorem fs_appV {i j kr : Nat} {ec : Expr} (hp : PE X ec (tBM X.K "list" rAppend (tVar i) (tCons (tVar j) tNil))) (hsw : swapsWith ec none pos.line X.env = pure false := by rfl) :
    FS X kr (.Expr ec pos) (sAppV i k j) := PS.weak (ps_expr hp hsw) fun _ _ _ => tF_appV

/-! ### defs that change lists which are handed in -/
/-- the parameters: none a datum that is read, some k a list whose k levels are the callee's meanwhile -/
abbrev Io := List (Option Nat)
def ioArgs (K : PySem.W.Frag) (H F : Hp) : Io → List D → List V → List (List Addr) → Prop
  | [], ds, vs, fs => ds = [] ∧ vs = [] ∧ fs = []
  | none :: r, ds, vs, fs => ∃ d ds' v vs' fs', ds = d :: ds' ∧ vs = v :: vs' ∧ fs = [] :: fs' ∧ Rep K F d v ∧ ioArgs K H F r ds' vs' fs'
  | some k :: r, ds, vs, fs => ∃ d ds' v vs' fp fs', ds = d :: ds' ∧ vs = v :: vs' ∧ fs = fp :: fs' ∧ Own K H F d k v fp ∧ ioArgs K H F r ds' vs' fs'
/-- behind the call: only what was handed over counts -/
def ioBack (K : PySem.W.Frag) (H F : Hp) : Io → List D → List V → List (List Addr) → Prop
  | [], ds, vs, fs => ds = [] ∧ vs = [] ∧ fs = []
  | none :: r, ds, vs, fs => ∃ v vs' fs', vs = v :: vs' ∧ fs = [] :: fs' ∧ ioBack K H F r ds vs' fs'
  | some k :: r, ds, vs, fs => ∃ d ds' v vs' fp fs', ds = d :: ds' ∧ vs = v :: vs' ∧ fs = fp :: fs' ∧ Own K H F d k v fp ∧ ioBack K H F r ds' vs' fs'
def inF (fs : List (List Addr)) (a : Addr) : Prop := ∃ l ∈ fs, a ∈ l
def apart (fs : List (List Addr)) : Prop := (∀ l ∈ fs, l.Nodup) ∧ ∀ (i j : Nat) a, a ∈ fs.getD i [] → a ∈ fs.getD j [] → i = j
def spIO (K : PySem.W.Frag) (io : Io) (k : Nat) (m : List D → Option (D × List D)) : Sp := fun vs H Q _ => vs.length = io.length ∧ ∃ ds fs d ds', ioArgs K H (hideP H (inF fs)) io ds vs fs ∧ apart fs ∧ m ds = some (d, ds') ∧
  ∀ v H' fs' fp, (∀ a o, H a = some o → ¬ inF fs a → H' a = some o) → apart fs' → (∀ a, inF fs' a → inF fs a ∨ H a = none) → fp.Nodup → (∀ a ∈ fp, ¬ inF fs' a ∧ (inF fs a ∨ H a = none)) →
    ioBack K H' (hideP H' (fun a => a ∈ fp ∨ inF fs' a)) io ds' vs fs' → Own K H' (hideP H' (fun a => a ∈ fp ∨ inF fs' a)) d k v fp → Q v H'
/-- how a def with such parameters begins -/
def ioStart : Io → List D → Sl
  | none :: r, d :: ds => .va 0 d :: ioStart r ds
  | some k :: r, d :: ds => .io k d :: ioStart r ds
  | _, _ => []
def ioEnd : Io → Sl → Option (List D)
  | [], _ => some []
  | none :: r, _ :: st => ioEnd r st
  | some k :: r, .io k' d :: st => if k' = k then (ioEnd r st).map (d :: ·) else none
  | _, _ => none
def fnRunIO (n : Nat) (io : Io) (g : SM) : List D → Option (D × List D) := fun ds => match g (ioStart io ds ++ List.replicate (n - ds.length) .un) with
  | some (.rt d st) => (ioEnd io st).map fun ds' => (d, ds')
  | some (.nx st) => (ioEnd io st).map fun ds' => (.non, ds')
  | _ => none
theorem ioArgs.len {H F : Hp} : ∀ {io : Io} {ds : List D} {vs : List V} {fs : List (List Addr)}, ioArgs K H F io ds vs fs → ds.length = io.length ∧ vs.length = io.length ∧ fs.length = io.length
  | [], _, _, _, ⟨h1, h2, h3⟩ => by rw [h1, h2, h3]; exact ⟨rfl, rfl, rfl⟩
  | none :: r, _, _, _, ⟨d, ds', v, vs', fs', h1, h2, h3, _, h⟩ => by
    obtain ⟨a, b, c⟩ := ioArgs.len h
    rw [h1, h2, h3]; simp [a, b, c]
  | some k :: r, _, _, _, ⟨d, ds', v, vs', fp, fs', h1, h2, h3, _, h⟩ => by
    obtain ⟨a, b, c⟩ := ioArgs.len h
    rw [h1, h2, h3]; simp [a, b, c]
theorem ioStart_len : ∀ {io : Io} {ds : List D}, ds.length = io.length → (ioStart io ds).length = io.length
  | [], [], _ => rfl
  | none :: r, d :: ds, h => by simp only [ioStart, List.length_cons]; rw [ioStart_len (by simpa using h)]
  | some k :: r, d :: ds, h => by simp only [ioStart, List.length_cons]; rw [ioStart_len (by simpa using h)]
  | [], d :: ds, h => by simp at h
  | none :: r, [], h => by simp at h
  | some k :: r, [], h => by simp at h
theorem ioArgs.at {H F : Hp} : ∀ {io : Io} {ds : List D} {vs : List V} {fs : List (List Addr)} (i : Nat) (sl : Slot), ioArgs K H F io ds vs fs → (ioStart io ds)[i]? = some sl → ∃ v, vs[i]? = some v ∧ SlotOk K H F v sl (some (some v)) (fs.getD i [])
  | [], _, _, _, i, sl, ⟨h1, h2, h3⟩, e => by rw [h1] at e; simp [ioStart] at e
  | none :: r, _, _, _, 0, sl, ⟨d, ds', v, vs', fs', h1, h2, h3, h4, h⟩, e => by
    subst h1 h2 h3
    simp [ioStart] at e; subst e
    exact ⟨v, rfl, v, rfl, Own.shared d v h4⟩
  | none :: r, _, _, _, i + 1, sl, ⟨d, ds', v, vs', fs', h1, h2, h3, h4, h⟩, e => by
    subst h1 h2 h3
    obtain ⟨w, a, b⟩ := ioArgs.at i sl h (by simpa [ioStart] using e)
    exact ⟨w, by simpa using a, by simpa using b⟩
  | some k :: r, _, _, _, 0, sl, ⟨d, ds', v, vs', fp, fs', h1, h2, h3, h4, h⟩, e => by
    subst h1 h2 h3
    simp [ioStart] at e; subst e
    exact ⟨v, rfl, rfl, h4⟩
  | some k :: r, _, _, _, i + 1, sl, ⟨d, ds', v, vs', fp, fs', h1, h2, h3, h4, h⟩, e => by
    subst h1 h2 h3
    obtain ⟨w, a, b⟩ := ioArgs.at i sl h (by simpa [ioStart] using e)
    exact ⟨w, by simpa using a, by simpa using b⟩
theorem inF_iff {fs : List (List Addr)} {a : Addr} : inF fs a ↔ own (fun i => fs.getD i []) a := by
  constructor
  · rintro ⟨l, hl, m⟩
    obtain ⟨i, hi, e⟩ := List.getElem_of_mem hl
    exact ⟨i, by simp [hi, e, m]⟩
  · rintro ⟨i, m⟩
    by_cases hi : i < fs.length
    · exact ⟨fs[i], List.getElem_mem hi, by simpa [hi] using m⟩
    · simp [Nat.le_of_not_lt hi] at m
theorem StR.initIO {N : List Str} {io : Io} {H : Hp} {ds : List D} {vs : List V} {fs : List (List Addr)} (r : ioArgs K H (hideP H (inF fs)) io ds vs fs) (ap : apart fs) :
    StR K ⟨hideP H (inF fs), fun i => vs.getD i .non⟩ (fun i => fs.getD i []) (L2.start N vs) H (ioStart io ds ++ List.replicate (N.length - ds.length) .un) := by
  obtain ⟨l1, l2, l3⟩ := r.len
  have e0 : hideP H (own fun i => fs.getD i []) = hideP H (inF fs) := by
    funext a
    unfold hideP
    by_cases h : inF fs a
    · rw [if_pos h, if_pos (inF_iff.mp h)]
    · rw [if_neg h, if_neg fun z => h (inF_iff.mpr z)]
  refine ⟨by rw [e0]; exact Same.refl _, fun i => ?_, ap.2, ?_, fun i sl e => ?_, fun i a hi m => ?_, fs.length, fun i hi => by simp [hi]⟩
  · by_cases hi : i < fs.length
    · have := ap.1 fs[i] (List.getElem_mem hi)
      simpa [hi] using this
    · simp [Nat.le_of_not_lt hi]
  · unfold L2.start
    simp only [List.length_append, List.length_map, List.length_replicate, ioStart_len l1]
    omega
  · rw [e0]
    by_cases hi : i < io.length
    · rw [List.getElem?_append_left (by rw [ioStart_len l1]; exact hi)] at e
      obtain ⟨v, h1, h2⟩ := ioArgs.at i sl r e
      have e3 : (L2.start N vs)[i]? = some (some v) := by
        unfold L2.start
        rw [List.getElem?_append_left (by simpa [l2] using hi), List.getElem?_map, h1]
        rfl
      have e4 : vs.getD i V.non = v := by rw [List.getD_eq_getElem?_getD, h1]; rfl
      show SlotOk K H (hideP H (inF fs)) (vs.getD i V.non) sl (L2.start N vs)[i]? (fs.getD i [])
      rw [e3, e4]; exact h2
    · rw [List.getElem?_append_right (by rw [ioStart_len l1]; omega)] at e
      rw [List.getElem?_replicate] at e
      split at e
      · cases e
        show fs.getD i [] = []
        simp [show fs.length ≤ i by omega]
      · cases e
  · rw [List.length_append, ioStart_len l1, List.length_replicate] at hi
    simp [show fs.length ≤ i by omega] at m
theorem ioEnd.back {H F : Hp} {fps : Fps} {pin : Nat → V} : ∀ {io : Io} {st : Sl} {ds' : List D} (o : Nat), ioEnd io st = some ds' → (∀ (i k : Nat) (d : D), st[i]? = some (.io k d) → Own K H F d k (pin (o + i)) (fps (o + i))) →
    ioBack K H F io ds' ((List.range io.length).map fun i => pin (o + i)) ((List.range io.length).map fun i => if (io.getD i none).isSome = true then fps (o + i) else [])
  | [], st, ds', o, e, h => by
    cases e
    exact ⟨rfl, rfl, rfl⟩
  | none :: r, s :: st, ds', o, e, h => by
    have ih := ioEnd.back (io := r) (st := st) (ds' := ds') (o + 1) e fun i k d hi => by
      have := h (i + 1) k d (by simpa using hi)
      rw [show o + 1 + i = o + (i + 1) by omega]; exact this
    simp only [List.length_cons, List.range_succ_eq_map, List.map_cons, List.map_map]
    refine ⟨_, _, _, rfl, rfl, ?_⟩
    refine cast ?_ ih
    congr 1
    · apply List.map_congr_left; intro i _; show pin (o + 1 + i) = pin (o + (i + 1)); congr 1; omega
    · apply List.map_congr_left; intro i _
      show (if (r.getD i none).isSome = true then fps (o + 1 + i) else []) = if ((none :: r).getD (i + 1) none).isSome = true then fps (o + (i + 1)) else []
      rw [show o + 1 + i = o + (i + 1) by omega]; rfl
  | some k :: r, s :: st, ds', o, e, h => by
    cases s with
    | io k' d =>
      replace e : (if k' = k then (ioEnd r st).map (d :: ·) else none) = some ds' := e
      split at e
      · rename_i hk
        subst hk
        cases er : ioEnd r st with
        | none => rw [er] at e; cases e
        | some dr =>
          rw [er] at e; cases e
          have ih := ioEnd.back (io := r) (st := st) (ds' := dr) (o + 1) er fun i k d hi => by
            have := h (i + 1) k d (by simpa using hi)
            rw [show o + 1 + i = o + (i + 1) by omega]; exact this
          simp only [List.length_cons, List.range_succ_eq_map, List.map_cons, List.map_map]
          refine ⟨d, dr, _, _, fps (o + 0), _, rfl, rfl, rfl, h 0 k' d rfl, ?_⟩
          refine cast ?_ ih
          congr 1
          · apply List.map_congr_left; intro i _; show pin (o + 1 + i) = pin (o + (i + 1)); congr 1; omega
          · apply List.map_congr_left; intro i _
            show (if (r.getD i none).isSome = true then fps (o + 1 + i) else []) = if ((some k' :: r).getD (i + 1) none).isSome = true then fps (o + (i + 1)) else []
            rw [show o + 1 + i = o + (i + 1) by omega]; rfl
      · cases e
    | un => cases e
    | va k' d => cases e
  | none :: r, [], ds', o, e, h => by cases e
  | some k :: r, [], ds', o, e, h => by cases e
end
end FL

namespace FL
open PySem PySem.Spec PyProof.Rows L2

section
variable {P : Program} {w : World} {K : PySem.W.Frag} {mg : Str → Option Value} {base : Heap} {H : Hp}
theorem ioBack.mono {H F F' : Hp} (s : Same F F') : ∀ {io : Io} {ds : List D} {vs : List V} {fs : List (List Addr)}, ioBack K H F io ds vs fs → ioBack K H F' io ds vs fs
  | [], _, _, _, h => h
  | none :: r, _, _, _, ⟨v, vs', fs', h1, h2, h⟩ => ⟨v, vs', fs', h1, h2, ioBack.mono s h⟩
  | some k :: r, _, _, _, ⟨d, ds', v, vs', fp, fs', h1, h2, h3, h4, h⟩ => ⟨d, ds', v, vs', fp, fs', h1, h2, h3, Own.mono s d k v fp (fun _ _ => rfl) h4, ioBack.mono s h⟩
theorem fn_okIO {x qual : Str} {st : Stmt} {f : Addr} {fd : FuncData} {N ps : List Str} {k : Nat} (F : Fun K x qual st f fd) (S : FnScope N ps (defScope st)) (io : Io) (hio : io.length = ps.length) (kr : Nat) (g : SM)
    (hb : ∀ (cdv : Value) (A : Around) (outer : List Env) (s : Shared) (H : Hp) (E : XK), Room k (A.deeper (envOfC qual (defScope st) s.heap.objs.size f cdv)) → FSs (cxOf CX0 P w K mg base N qual (defScope st) f cdv A outer s H E).nox kr (defBody st) g) :
    FnOk P w K mg base CX0 (k + 1) f fd ps (spIO K io kr (fnRunIO N.length io g)) := by
  refine F.ok S (fun vs H Q E h => h.1.trans hio) (fun cdv A outer s H vs Q E hr h => ⟨_, hb cdv A outer s H E hr, ?_⟩)
  obtain ⟨hl, ds, fs, d, ds', r, ap, e, q⟩ := h
  obtain ⟨l1, l2, l3⟩ := r.len
  unfold fnRunIO at e
  have key : ∀ (d : D) (v : V) (H' : Hp) (st' : Sl), RetOk K ⟨hideP H (inF fs), fun i => vs.getD i .non⟩ H' kr d v st' → (ioEnd io st').map (fun ds' => (d, ds')) = some (d, ds') → (∀ v H' fs' fp, (∀ a o, H a = some o → ¬ inF fs a → H' a = some o) → apart fs' → (∀ a, inF fs' a → inF fs a ∨ H a = none) → fp.Nodup → (∀ a ∈ fp, ¬ inF fs' a ∧ (inF fs a ∨ H a = none)) →
    ioBack K H' (hideP H' (fun a => a ∈ fp ∨ inF fs' a)) io ds' vs fs' → Own K H' (hideP H' (fun a => a ∈ fp ∨ inF fs' a)) d kr v fp → Q v H') → Q v H' := by
    intro d v H' st' ⟨fps, fp, nfp, nd, dj, ds0, sg, od, oio⟩ ee q
    cases ei : ioEnd io st' with
    | none => rw [ei] at ee; cases ee
    | some dsx =>
      rw [ei] at ee; cases ee
      have hsee : ∀ a, own2 fps fp a → inF fs a ∨ H a = none := fun a z => by
        by_cases h1 : inF fs a
        · exact .inl h1
        · cases h2 : H a with
          | none => exact .inr rfl
          | some o => exact ((hideP_some.mp (sg a o (hideP_some.mpr ⟨h1, h2⟩))).1 z).elim
      have b := ioEnd.back (K := K) (H := H') (F := hideP H' (own2 fps fp)) (fps := fps) (pin := fun i => vs.getD i .non) 0 ei fun i k d hi => by
        rw [Nat.zero_add]; exact oio i k d hi
      have ev : ((List.range io.length).map fun i => vs.getD (0 + i) V.non) = vs := by
        apply List.ext_getElem?
        intro i
        rw [List.getElem?_map]
        by_cases hi : i < io.length
        · rw [List.getElem?_range hi]
          have : i < vs.length := by omega
          show some (vs.getD (0 + i) V.non) = _
          rw [Nat.zero_add, List.getD_eq_getElem?_getD, List.getElem?_eq_getElem this]; rfl
        · rw [List.getElem?_eq_none (by rw [List.length_range]; omega), List.getElem?_eq_none (by omega)]; rfl
      rw [ev] at b
      have inS : ∀ a, inF ((List.range io.length).map fun i => if (io.getD i none).isSome = true then fps (0 + i) else []) a → ∃ i, a ∈ fps i := by
        rintro a ⟨l, hl, m⟩
        obtain ⟨i, _, rfl⟩ := List.mem_map.mp hl
        split at m
        · exact ⟨_, m⟩
        · cases m
      have getS : ∀ i, ((List.range io.length).map fun i => if (io.getD i none).isSome = true then fps (0 + i) else []).getD i [] = fps i ∨ ((List.range io.length).map fun i => if (io.getD i none).isSome = true then fps (0 + i) else []).getD i [] = [] := by
        intro i
        rw [List.getD_eq_getElem?_getD, List.getElem?_map]
        by_cases hi : i < io.length
        · rw [List.getElem?_range hi]
          show (if (io.getD i none).isSome = true then fps (0 + i) else []) = _ ∨ (if (io.getD i none).isSome = true then fps (0 + i) else []) = _
          split
          · left; rw [Nat.zero_add]
          · right; rfl
        · rw [List.getElem?_eq_none (by rw [List.length_range]; omega)]; right; rfl
      have sub : ∀ a, (a ∈ fp ∨ inF ((List.range io.length).map fun i => if (io.getD i none).isSome = true then fps (0 + i) else []) a) → own2 fps fp a := fun a z => z.imp id (inS a)
      have sm : Same (hideP H' (own2 fps fp)) (hideP H' (fun a => a ∈ fp ∨ inF ((List.range io.length).map fun i => if (io.getD i none).isSome = true then fps (0 + i) else []) a)) := hideP_mono (Same.refl _) fun a o _ h z => h (sub a z)
      refine q v H' _ fp (fun a o h1 h2 => hideP_same _ _ (sg a o (hideP_some.mpr ⟨h2, h1⟩))) ⟨fun l hl => ?_, fun i j a m1 m2 => ?_⟩ (fun a z => hsee a (.inr (inS a z))) nfp (fun a m => ⟨fun z => ?_, hsee a (.inl m)⟩) (b.mono sm) (Own.mono sm d kr v fp (fun _ _ => rfl) od)
      · obtain ⟨i, _, rfl⟩ := List.mem_map.mp hl
        show (if _ then _ else _ : List Addr).Nodup
        split
        · exact nd _
        · exact List.nodup_nil
      · rcases getS i with e1 | e1 <;> rw [e1] at m1 <;> rcases getS j with e2 | e2 <;> rw [e2] at m2
        · exact dj i j a m1 m2
        · cases m2
        · cases m1
        · cases m1
      · obtain ⟨i, m2⟩ := inS a z
        exact ds0 i a m2 m
  cases eg : g (ioStart io ds ++ List.replicate (N.length - ds.length) .un) with
  | none => rw [eg] at e; cases e
  | some o =>
    rw [eg] at e
    refine ⟨_, _, o, ⟨_, StR.initIO r ap⟩, eg, ?_⟩
    cases o with
    | nx st' =>
      intro σ' H' ⟨fps', r'⟩
      have ed : d = .non := by
        have e : (ioEnd io st').map (fun ds' => (D.non, ds')) = some (d, ds') := e
        cases h : ioEnd io st' with
        | none => rw [h] at e; cases e
        | some x => rw [h] at e; cases e; rfl
      subst ed
      exact key .non .non H' st' (r'.ret (Same.refl H') (VR.sc (d := .non) rfl rfl)) e q
    | rt d' st' =>
      intro v H' h
      have ed : d = d' := by
        have e : (ioEnd io st').map (fun ds' => (d', ds')) = some (d, ds') := e
        cases h : ioEnd io st' with
        | none => rw [h] at e; cases e
        | some x => rw [h] at e; cases e; rfl
      subst ed
      exact key d v H' st' h e q
    | bk _ => cases e
    | ct _ => cases e
end

/-! ### calls that change lists of the caller's -/
abbrev XM := Sl → Option (D × Sl)
/-- a value that is the caller's own meanwhile: at a place beyond the slots -/
def VX (K : PySem.W.Frag) (fps : Fps) (n : Nat) (H : Hp) : Kd → D → V → Prop
  | .rd, d, v => Rep K H d v
  | .ow k, d, v => ∃ m, n ≤ m ∧ Own K H (hideP H (own fps)) d k v (fps m)
def tFX (K : PySem.W.Frag) (kd : Kd) (f : XM) : TE := fun σ H Q => ∃ F fps st d st', StR K F fps σ H st ∧ f st = some (d, st') ∧ ∀ v H' fps', StR K F fps' σ H' st' → VX K fps' st'.length H' kd d v → Q v H'
abbrev FX (X : Cx) (kd : Kd) (e : Expr) (f : XM) : Prop := PE X e (tFX X.K kd f)
/-- where the arguments come from: none an expression, some (j, k) the slot j, k levels of it -/
abbrev Src := List (Option (Nat × Nat))
def AV (K : PySem.W.Frag) (G : Hp) (σ : L2.St) (st : Sl) : Src → List D → List V → Prop
  | [], ds, vs => ds = [] ∧ vs = []
  | none :: r, ds, vs => ∃ d ds' v vs', ds = d :: ds' ∧ vs = v :: vs' ∧ Rep K G d v ∧ AV K G σ st r ds' vs'
  | some (j, k) :: r, ds, vs => ∃ d ds' v vs', ds = d :: ds' ∧ vs = v :: vs' ∧ slD st[j]? = some (k, d) ∧ σ[j]? = some (some v) ∧ AV K G σ st r ds' vs'
theorem AV.mono {K : PySem.W.Frag} {G G' : Hp} {σ : L2.St} {st : Sl} (s : Same G G') : ∀ {sp : Src} {ds : List D} {vs : List V}, AV K G σ st sp ds vs → AV K G' σ st sp ds vs
  | [], _, _, h => h
  | none :: r, _, _, ⟨d, ds', v, vs', h1, h2, h3, h⟩ => ⟨d, ds', v, vs', h1, h2, Rep.mono s d v h3, AV.mono s h⟩
  | some (j, k) :: r, _, _, ⟨d, ds', v, vs', h1, h2, h3, h4, h⟩ => ⟨d, ds', v, vs', h1, h2, h3, h4, AV.mono s h⟩
def tAX (K : PySem.W.Frag) (sp : Src) (f : AM) : TA := fun σ H Q => ∃ F fps st ds, StR K F fps σ H st ∧ f st = some ds ∧ ∀ vs H', Same H H' → AV K (hideP H' (own fps)) σ st sp ds vs → Q vs H'
abbrev AX (X : Cx) (sp : Src) (es : List Expr) (f : AM) : Prop := PA X es (tAX X.K sp f)
def aIo (j k : Nat) (g : AM) : AM := fun st => match slD st[j]? with
  | some (k', d) => if k' = k then (g st).map (d :: ·) else none
  | none => none
section
variable {X : Cx} {k kr : Nat} {kd : Kd} {e a b c tg : Expr} {es : List Expr} {f g h : EM} {fa : AM} {sp : Src} {pos p p2 : Pos} {K : PySem.W.Frag}
theorem ax_nil : AX X [] [] aNil := PA.weak pa_nil fun σ H Q ⟨F, fps, st, d, r, ed, q⟩ => by
  cases ed
  exact q [] H (Same.refl H) ⟨rfl, rfl⟩
theorem ax_cons (he : FE X (.ow 0) e f) (hr : AX X sp es fa) (hs : starEach (e :: es) X.env = (false, eval e X.env) :: starEach es X.env := by rfl) : AX X (none :: sp) (e :: es) (aCons f fa) := PA.weak (pa_cons he hr hs) fun σ H Q ⟨F, fps, st, d, r, ed, q⟩ => by
  unfold aCons at ed
  obtain ⟨x, xs, e1, e2, e3⟩ := bind2 ed
  cases e3
  exact ⟨F, fps, st, x, r, e1, fun v H1 s1 w1 => ⟨F, fps, st, xs, r.mono s1, e2, fun vs H2 s2 w2 => q (v :: vs) H2 (s1.trans s2) ⟨x, xs, v, vs, rfl, rfl, Rep.mono (hideP_mono s2 fun _ _ _ h => h) x v (VR.ow0 w1), w2⟩⟩⟩
theorem ax_io {j : Nat} (hv : PE X e (tVar j)) (hr : AX X sp es fa) (hs : starEach (e :: es) X.env = (false, eval e X.env) :: starEach es X.env := by rfl) : AX X (some (j, k) :: sp) (e :: es) (aIo j k fa) := PA.weak (pa_cons hv hr hs) fun σ H Q ⟨F, fps, st, d, r, ed, q⟩ => by
  unfold aIo at ed
  split at ed
  · rename_i k' d0 hsl
    split at ed
    · rename_i hk
      subst hk
      cases e2 : fa st with
      | none => rw [e2] at ed; cases ed
      | some xs =>
        rw [e2] at ed; cases ed
        obtain ⟨v, ev, _⟩ := r.sl hsl
        exact ⟨v, ev, F, fps, st, xs, r, e2, fun vs H2 s2 w2 => q (v :: vs) H2 s2 ⟨d0, xs, v, vs, rfl, rfl, hsl, ev, w2⟩⟩
    · cases ed
  · cases ed
def ioOf (sp : Src) : Io := sp.map fun o => o.map (·.2)
def jsOf : Src → List Nat
  | [] => []
  | none :: r => jsOf r
  | some (j, _) :: r => j :: jsOf r
def fsOf (fps : Fps) (sp : Src) : List (List Addr) := sp.map fun o => match o with
  | none => []
  | some (j, _) => fps j
def putF : Src → List (List Addr) → Fps → Fps
  | some (j, _) :: r, fp :: fs, fps => putF r fs (setF fps j fp)
  | none :: r, _ :: fs, fps => putF r fs fps
  | _, _, fps => fps
def putS : Src → List D → Sl → Sl
  | some (j, _) :: r, d :: ds, st => putS r ds (setD st j d)
  | none :: r, ds, st => putS r ds st
  | _, _, st => st
def fullIO : Src → List D → Bool
  | some (_, k) :: r, d :: ds => full d k && fullIO r ds
  | none :: r, ds => fullIO r ds
  | [], [] => true
  | _, _ => false
theorem putS_len : ∀ {sp : Src} {ds : List D} {st : Sl}, (putS sp ds st).length = st.length
  | [], _, _ => rfl
  | none :: r, ds, st => by show (putS r ds st).length = _; exact putS_len
  | some (j, k) :: r, [], st => rfl
  | some (j, k) :: r, d :: ds, st => by show (putS r ds (setD st j d)).length = _; rw [putS_len, setD_length]
theorem put_off {H : Hp} : ∀ {sp : Src} {ds : List D} {fs : List (List Addr)} {st : Sl} {fps : Fps} (j : Nat), j ∉ jsOf sp → putF sp fs fps j = fps j ∧ (putS sp ds st)[j]? = st[j]?
  | [], _, _, _, _, j, _ => ⟨by cases ‹List (List Addr)› <;> rfl, rfl⟩
  | none :: r, ds, [], st, fps, j, h => ⟨rfl, (put_off (H := H) (sp := r) (ds := ds) (fs := []) (st := st) (fps := fps) j h).2⟩
  | none :: r, ds, f :: fs, st, fps, j, h => put_off (H := H) (sp := r) (ds := ds) (fs := fs) (st := st) (fps := fps) j h
  | some (i, k) :: r, [], [], st, fps, j, h => ⟨rfl, rfl⟩
  | some (i, k) :: r, [], f :: fs, st, fps, j, h => by
    have h2 : j ≠ i ∧ j ∉ jsOf r := by simpa [jsOf] using h
    have := (put_off (H := H) (sp := r) (ds := []) (fs := fs) (st := st) (fps := setF fps i f) j h2.2).1
    exact ⟨this.trans (setF_ne h2.1), rfl⟩
  | some (i, k) :: r, d :: ds, [], st, fps, j, h => by
    have h2 : j ≠ i ∧ j ∉ jsOf r := by simpa [jsOf] using h
    have := (put_off (H := H) (sp := r) (ds := ds) (fs := []) (st := setD st i d) (fps := fps) j h2.2).2
    exact ⟨rfl, this.trans (setD_ne h2.1)⟩
  | some (i, k) :: r, d :: ds, f :: fs, st, fps, j, h => by
    have h2 : j ≠ i ∧ j ∉ jsOf r := by simpa [jsOf] using h
    have := put_off (H := H) (sp := r) (ds := ds) (fs := fs) (st := setD st i d) (fps := setF fps i f) j h2.2
    exact ⟨this.1.trans (setF_ne h2.1), this.2.trans (setD_ne h2.1)⟩
/-- the slot j that was handed over at the place q -/
theorem put_on {H G : Hp} : ∀ {sp : Src} {ds : List D} {fs : List (List Addr)} {vs : List V} {st : Sl} {fps : Fps} {q j k : Nat}, (jsOf sp).Nodup → ioBack K H G (ioOf sp) ds vs fs → fullIO sp ds = true → sp[q]? = some (some (j, k)) →
    ∃ d v, vs[q]? = some v ∧ Own K H G d k v (fs.getD q []) ∧ full d k = true ∧ putF sp fs fps j = fs.getD q [] ∧ (putS sp ds st)[j]? = (setD st j d)[j]?
  | [], _, _, _, _, _, q, j, k, _, _, _, e => by simp at e
  | none :: r, ds, _, _, st, fps, 0, j, k, _, _, _, e => by simp at e
  | none :: r, ds, _, _, st, fps, q + 1, j, k, nd, ⟨v, vs', fs', h1, h2, h⟩, fl, e => by
    subst h1 h2
    obtain ⟨d, w, a1, a2, a3, a4, a5⟩ := put_on (sp := r) (st := st) (fps := fps) nd h fl (by simpa using e)
    exact ⟨d, w, by simpa using a1, by simpa using a2, a3, by simpa [putF] using a4, a5⟩
  | some (i, k0) :: r, _, _, _, st, fps, 0, j, k, nd, ⟨d, ds', v, vs', fp, fs', h1, h2, h3, h4, h⟩, fl, e => by
    subst h1 h2 h3
    simp at e
    obtain ⟨rfl, rfl⟩ := e
    have nd2 : i ∉ jsOf r ∧ (jsOf r).Nodup := by simpa [jsOf] using nd
    have fl2 : (full d k0 && fullIO r ds') = true := fl
    obtain ⟨b1, b2⟩ := put_off (H := H) (sp := r) (ds := ds') (fs := fs') (st := setD st i d) (fps := setF fps i fp) i nd2.1
    exact ⟨d, v, rfl, h4, (Bool.and_eq_true_iff.mp fl2).1, b1.trans setF_same, b2⟩
  | some (i, k0) :: r, _, _, _, st, fps, q + 1, j, k, nd, ⟨d, ds', v, vs', fp, fs', h1, h2, h3, h4, h⟩, fl, e => by
    subst h1 h2 h3
    have nd2 : i ∉ jsOf r ∧ (jsOf r).Nodup := by simpa [jsOf] using nd
    have fl2 : (full d k0 && fullIO r ds') = true := fl
    obtain ⟨d', w, a1, a2, a3, a4, a5⟩ := put_on (sp := r) (st := setD st i d) (fps := setF fps i fp) nd2.2 h (Bool.and_eq_true_iff.mp fl2).2 (by simpa using e)
    have hm : ∀ {r : Src} {q : Nat}, r[q]? = some (some (j, k)) → j ∈ jsOf r := by
      intro r
      induction r with
      | nil => intro q e; simp at e
      | cons o r ih =>
        intro q e
        cases q with
        | zero => simp at e; subst e; simp [jsOf]
        | succ q =>
          have := ih (q := q) (by simpa using e)
          cases o with
          | none => exact this
          | some x => exact List.mem_cons_of_mem _ this
    have hji : j ≠ i := fun z => nd2.1 (z ▸ hm (by simpa using e))
    refine ⟨d', w, by simpa using a1, by simpa using a2, a3, by simpa [putF] using a4, a5.trans ?_⟩
    -- setD at j of setD at i
    unfold setD
    have ej := setD_ne (st := st) (i := i) (j := j) (d := d) hji
    unfold setD at ej
    rw [ej]
    cases es : st[j]? with
    | none => exact ej
    | some s =>
      have hl : j < st.length := (List.getElem?_eq_some_iff.mp es).1
      show (List.set _ j _)[j]? = (List.set st j _)[j]?
      rw [List.getElem?_set_self hl, List.getElem?_set_self]
      split
      · rw [List.length_set]; exact hl
      · exact hl
end
end FL

namespace FL
open PySem PySem.Spec PyProof.Rows L2

section
variable {K : PySem.W.Frag} {F : Fr} {fps : Fps} {σ : L2.St} {H H1 G : Hp} {st : Sl}
theorem jsOf_mem : ∀ {sp : Src} {q j k : Nat}, sp[q]? = some (some (j, k)) → j ∈ jsOf sp
  | [], q, j, k, e => by simp at e
  | none :: r, 0, j, k, e => by simp at e
  | some x :: r, 0, j, k, e => by simp at e; subst e; exact List.mem_cons_self
  | none :: r, q + 1, j, k, e => jsOf_mem (sp := r) (q := q) (by simpa using e)
  | some x :: r, q + 1, j, k, e => List.mem_cons_of_mem _ (jsOf_mem (sp := r) (q := q) (by simpa using e))
theorem jsOf_inv : ∀ {sp : Src} {j : Nat}, j ∈ jsOf sp → ∃ (q k : Nat), sp[q]? = some (some (j, k))
  | [], j, h => by cases h
  | none :: r, j, h => by
    obtain ⟨q, k, e⟩ := jsOf_inv (sp := r) h
    exact ⟨q + 1, k, by simpa using e⟩
  | some (i, k) :: r, j, h => by
    rcases List.mem_cons.mp h with e | h
    · exact ⟨0, k, by rw [e]; rfl⟩
    · obtain ⟨q, k, e⟩ := jsOf_inv (sp := r) h
      exact ⟨q + 1, k, by simpa using e⟩
theorem jsOf_inj : ∀ {sp : Src} {q q' j k k' : Nat}, (jsOf sp).Nodup → sp[q]? = some (some (j, k)) → sp[q']? = some (some (j, k')) → q = q'
  | [], q, q', j, k, k', nd, e, _ => by simp at e
  | none :: r, 0, q', j, k, k', nd, e, _ => by simp at e
  | none :: r, q + 1, 0, j, k, k', nd, _, e => by simp at e
  | none :: r, q + 1, q' + 1, j, k, k', nd, e, e' => congrArg (· + 1) (jsOf_inj (sp := r) nd (by simpa using e) (by simpa using e'))
  | some x :: r, 0, 0, j, k, k', nd, _, _ => rfl
  | some (i, k0) :: r, 0, q' + 1, j, k, k', nd, e, e' => by
    simp at e
    have := jsOf_mem (sp := r) (q := q') (by simpa using e')
    have nd2 : i ∉ jsOf r ∧ (jsOf r).Nodup := by simpa [jsOf] using nd
    exact absurd (e.1 ▸ this) nd2.1
  | some (i, k0) :: r, q + 1, 0, j, k, k', nd, e', e => by
    simp at e
    have := jsOf_mem (sp := r) (q := q) (by simpa using e')
    have nd2 : i ∉ jsOf r ∧ (jsOf r).Nodup := by simpa [jsOf] using nd
    exact absurd (e.1 ▸ this) nd2.1
  | some (i, k0) :: r, q + 1, q' + 1, j, k, k', nd, e, e' => by
    have nd2 : i ∉ jsOf r ∧ (jsOf r).Nodup := by simpa [jsOf] using nd
    exact congrArg (· + 1) (jsOf_inj (sp := r) nd2.2 (by simpa using e) (by simpa using e'))
theorem fsOf_at {sp : Src} {i : Nat} {a : Addr} (h : a ∈ (fsOf fps sp).getD i []) : ∃ (j k : Nat), sp[i]? = some (some (j, k)) ∧ a ∈ fps j := by
  rw [List.getD_eq_getElem?_getD] at h
  unfold fsOf at h
  rw [List.getElem?_map] at h
  cases e : sp[i]? with
  | none => rw [e] at h; cases h
  | some o =>
    rw [e] at h
    cases o with
    | none => cases h
    | some x => obtain ⟨j, k⟩ := x; exact ⟨j, k, rfl, h⟩
theorem fsOf_in {sp : Src} {j : Nat} {a : Addr} (hj : j ∈ jsOf sp) (h : a ∈ fps j) : inF (fsOf fps sp) a := by
  obtain ⟨q, k, e⟩ := jsOf_inv hj
  refine ⟨fps j, List.mem_map.mpr ⟨some (j, k), List.mem_of_getElem? e, rfl⟩, h⟩
theorem fsOf_own {sp : Src} {a : Addr} (h : inF (fsOf fps sp) a) : ∃ j, j ∈ jsOf sp ∧ a ∈ fps j := by
  obtain ⟨i, m⟩ := inF_iff.mp h
  obtain ⟨j, k, e, m⟩ := fsOf_at m
  exact ⟨j, jsOf_mem e, m⟩
theorem fsOf_apart {sp : Src} (r : StR K F fps σ H st) (nd : (jsOf sp).Nodup) : apart (fsOf fps sp) := by
  refine ⟨fun l hl => ?_, fun i j a m1 m2 => ?_⟩
  · obtain ⟨o, _, rfl⟩ := List.mem_map.mp hl
    cases o with
    | none => exact List.nodup_nil
    | some x => exact r.nd x.1
  · obtain ⟨j1, k1, e1, m1⟩ := fsOf_at m1
    obtain ⟨j2, k2, e2, m2⟩ := fsOf_at m2
    have := r.dj j1 j2 a m1 m2
    subst this
    exact jsOf_inj nd e1 e2
theorem AV.io (r : StR K F fps σ H st) {G' : Hp} (s : Same (hideP H (own fps)) G') : ∀ {sp : Src} {ds : List D} {vs : List V}, AV K (hideP H (own fps)) σ st sp ds vs → ioArgs K H G' (ioOf sp) ds vs (fsOf fps sp)
  | [], _, _, ⟨h1, h2⟩ => ⟨h1, h2, rfl⟩
  | none :: t, _, _, ⟨d, ds', v, vs', h1, h2, h3, h⟩ => ⟨d, ds', v, vs', _, h1, h2, rfl, Rep.mono s d v h3, AV.io r s h⟩
  | some (j, k) :: t, _, _, ⟨d, ds', v, vs', h1, h2, h3, h4, h⟩ => by
    obtain ⟨v', e1, o⟩ := r.sl h3
    rw [h4] at e1
    cases e1
    exact ⟨d, ds', v, vs', _, _, h1, h2, rfl, Own.mono s d k v _ (fun _ _ => rfl) o, AV.io r s h⟩
theorem AV.at : ∀ {sp : Src} {ds : List D} {vs : List V} {q j k : Nat}, AV K G σ st sp ds vs → sp[q]? = some (some (j, k)) → ∃ d v, vs[q]? = some v ∧ slD st[j]? = some (k, d) ∧ σ[j]? = some (some v)
  | [], _, _, q, j, k, _, e => by simp at e
  | none :: t, _, _, 0, j, k, _, e => by simp at e
  | none :: t, _, _, q + 1, j, k, ⟨d, ds', v, vs', h1, h2, h3, h⟩, e => by
    subst h2
    obtain ⟨d, v, a, b, c⟩ := AV.at (sp := t) (q := q) (j := j) (k := k) h (by simpa using e)
    exact ⟨d, v, by simpa using a, b, c⟩
  | some (j0, k0) :: t, _, _, 0, j, k, ⟨d, ds', v, vs', h1, h2, h3, h4, h⟩, e => by
    subst h2
    simp at e
    obtain ⟨rfl, rfl⟩ := e
    exact ⟨d, v, rfl, h3, h4⟩
  | some (j0, k0) :: t, _, _, q + 1, j, k, ⟨d, ds', v, vs', h1, h2, h3, h4, h⟩, e => by
    subst h2
    obtain ⟨d, v, a, b, c⟩ := AV.at (sp := t) (q := q) (j := j) (k := k) h (by simpa using e)
    exact ⟨d, v, by simpa using a, b, c⟩
theorem AV.len : ∀ {sp : Src} {ds : List D} {vs : List V}, AV K G σ st sp ds vs → vs.length = sp.length
  | [], _, _, ⟨_, h⟩ => by rw [h]; rfl
  | none :: t, _, _, ⟨d, ds', v, vs', h1, h2, h3, h⟩ => by rw [h2, List.length_cons, List.length_cons, AV.len h]
  | some (j, k) :: t, _, _, ⟨d, ds', v, vs', h1, h2, h3, h4, h⟩ => by rw [h2, List.length_cons, List.length_cons, AV.len h]
/-- behind the call: the state of slots with what came back -/
theorem StR.back {H2 : Hp} {sp : Src} {ds ds' : List D} {vs : List V} {fs' : List (List Addr)} {fp : List Addr} {d : D} {v : V} {kr : Nat} (r1 : StR K F fps σ H1 st) (nd : (jsOf sp).Nodup) (av : AV K (hideP H1 (own fps)) σ st sp ds vs)
    (hk : ∀ a o, H1 a = some o → ¬ inF (fsOf fps sp) a → H2 a = some o) (ap : apart fs') (hfs : ∀ a, inF fs' a → inF (fsOf fps sp) a ∨ H1 a = none) (nfp : fp.Nodup) (hfp : ∀ a ∈ fp, ¬ inF fs' a ∧ (inF (fsOf fps sp) a ∨ H1 a = none))
    (bk : ioBack K H2 (hideP H2 fun a => a ∈ fp ∨ inF fs' a) (ioOf sp) ds' vs fs') (od : Own K H2 (hideP H2 fun a => a ∈ fp ∨ inF fs' a) d kr v fp) (fd : full d kr = true) (fl : fullIO sp ds' = true) :
    ∃ fps3 m, st.length ≤ m ∧ StR K F fps3 σ H2 (putS sp ds' st) ∧ Own K H2 (hideP H2 (own fps3)) d kr v (fps3 m) := by
  obtain ⟨m0, hm0⟩ := r1.fin
  have e1 : ∀ j, j ∉ jsOf sp → putF sp fs' fps j = fps j ∧ (putS sp ds' st)[j]? = st[j]? := fun j h => put_off (H := H2) j h
  have jlt : ∀ j, j ∈ jsOf sp → j < st.length := fun j h => by
    obtain ⟨q, k, e⟩ := jsOf_inv h
    obtain ⟨d0, v0, _, b, _⟩ := AV.at (sp := sp) (q := q) (j := j) (k := k) av e
    unfold slD at b
    cases es : st[j]? with
    | none => rw [es] at b; cases b
    | some s => exact (List.getElem?_eq_some_iff.mp es).1
  let m := max m0 st.length
  have mm : m0 ≤ m ∧ st.length ≤ m := ⟨Nat.le_max_left _ _, Nat.le_max_right _ _⟩
  have mnot : m ∉ jsOf sp := fun h => by have := jlt m h; omega
  let fps3 : Fps := setF (putF sp fs' fps) m fp
  have at_m : fps3 m = fp := setF_same
  have at_off : ∀ j, j ≠ m → j ∉ jsOf sp → fps3 j = fps j := fun j h1 h2 => (setF_ne h1).trans (e1 j h2).1
  have at_on : ∀ q j k, sp[q]? = some (some (j, k)) → fps3 j = fs'.getD q [] := fun q j k e => by
    have hj := jsOf_mem e
    obtain ⟨_, _, _, _, _, h4, _⟩ := put_on (H := H2) (G := hideP H2 fun a => a ∈ fp ∨ inF fs' a) (st := st) (fps := fps) nd bk fl e
    exact (setF_ne fun (z : j = m) => mnot (z ▸ hj)).trans h4
  have inQ : ∀ (q : Nat) a, a ∈ fs'.getD q [] → inF fs' a := fun q a h => inF_iff.mpr ⟨q, h⟩
  -- where an address comes from
  have from3 : ∀ j a, a ∈ fps3 j → (j = m ∧ a ∈ fp) ∨ (j ≠ m ∧ j ∉ jsOf sp ∧ a ∈ fps j) ∨ (j ≠ m ∧ ∃ (q k : Nat), sp[q]? = some (some (j, k)) ∧ a ∈ fs'.getD q []) := fun j a h => by
    by_cases h1 : j = m
    · subst h1; exact .inl ⟨rfl, at_m ▸ h⟩
    · by_cases h2 : j ∈ jsOf sp
      · obtain ⟨q, k, e⟩ := jsOf_inv h2
        exact .inr (.inr ⟨h1, q, k, e, at_on q j k e ▸ h⟩)
      · exact .inr (.inl ⟨h1, h2, at_off j h1 h2 ▸ h⟩)
  have new_not : ∀ a, (inF (fsOf fps sp) a ∨ H1 a = none) → ∀ j, j ∉ jsOf sp → a ∉ fps j := fun a h j hj z => by
    rcases h with h | h
    · obtain ⟨j', hj', m'⟩ := fsOf_own h
      exact hj (r1.dj j j' a z m' ▸ hj')
    · exact r1.there ⟨j, z⟩ h
  have keep : ∀ j, j ∉ jsOf sp → ∀ a ∈ fps j, H2 a = H1 a := fun j hj a h => by
    obtain ⟨o, eo, _⟩ := r1.isLst ⟨j, h⟩
    rw [eo]
    exact hk a o eo fun z => new_not a (.inl z) j hj h
  have lst3 : ∀ a, own fps3 a → ∃ o, H2 a = some o ∧ MutO o := fun a ⟨j, h⟩ => by
    rcases from3 j a h with ⟨_, h⟩ | ⟨_, h2, h⟩ | ⟨_, q, k, e, h⟩
    · exact Own.isLst d kr v fp od a h
    · rw [keep j h2 a h]; exact r1.isLst ⟨j, h⟩
    · obtain ⟨d2, v2, _, h3, _⟩ := put_on (H := H2) (G := hideP H2 fun a => a ∈ fp ∨ inF fs' a) (st := st) (fps := fps) nd bk fl e
      exact Own.isLst d2 k v2 _ h3 a h
  have sub3 : ∀ a, own fps3 a → own fps a ∨ H1 a = none := fun a ⟨j, h⟩ => by
    rcases from3 j a h with ⟨_, h⟩ | ⟨_, h2, h⟩ | ⟨_, q, k, e, h⟩
    · exact ((hfp a h).2).imp (fun z => by obtain ⟨j', _, m'⟩ := fsOf_own z; exact ⟨j', m'⟩) id
    · exact .inl ⟨j, h⟩
    · exact (hfs a (inQ q a h)).imp (fun z => by obtain ⟨j', _, m'⟩ := fsOf_own z; exact ⟨j', m'⟩) id
  have hide : Same (hideP H1 (own fps)) (hideP H2 (own fps3)) := fun a o e => by
    obtain ⟨h1, h2⟩ := hideP_some.mp e
    refine hideP_some.mpr ⟨fun z => ?_, hk a o h2 fun z => ?_⟩
    · rcases sub3 a z with z | z
      · exact h1 z
      · rw [z] at h2; cases h2
    · obtain ⟨j', _, m'⟩ := fsOf_own z
      exact h1 ⟨j', m'⟩
  have kp : Keeps (hideP H2 fun a => a ∈ fp ∨ inF fs' a) (hideP H2 (own fps3)) := fun a o e n => (hideP_keeps lst3) a o (hideP_some.mp e).2 n
  refine ⟨fps3, m, mm.2, ⟨r1.fr.trans hide, fun i => ?_, fun i j a h1 h2 => ?_, by rw [putS_len]; exact r1.len, fun i sl e => ?_, fun i a _ h => lst3 a ⟨i, h⟩, m + 1, fun i hi => ?_⟩, by rw [at_m]; exact Own.move kp d kr v fp fd od⟩
  · by_cases h1 : i = m
    · subst h1; rw [at_m]; exact nfp
    · by_cases h2 : i ∈ jsOf sp
      · obtain ⟨q, k, e⟩ := jsOf_inv h2
        rw [at_on q i k e, List.getD_eq_getElem?_getD]
        cases eq : fs'[q]? with
        | none => exact List.nodup_nil
        | some l => exact ap.1 l (List.mem_of_getElem? eq)
      · rw [at_off i h1 h2]; exact r1.nd i
  · rcases from3 i a h1 with ⟨i1, h1⟩ | ⟨i1, i2, h1⟩ | ⟨i1, q1, k1, q2, h1⟩ <;> rcases from3 j a h2 with ⟨j1, h2⟩ | ⟨j1, j2, h2⟩ | ⟨j1, p1, l1, p2, h2⟩
    · rw [i1, j1]
    · exact (new_not a (hfp a h1).2 j j2 h2).elim
    · exact ((hfp a h1).1 (inQ p1 a h2)).elim
    · exact (new_not a (hfp a h2).2 i i2 h1).elim
    · exact r1.dj i j a h1 h2
    · exact (new_not a (hfs a (inQ p1 a h2)) i i2 h1).elim
    · exact ((hfp a h2).1 (inQ q1 a h1)).elim
    · exact (new_not a (hfs a (inQ q1 a h1)) j j2 h2).elim
    · have := ap.2 q1 p1 a h1 h2
      subst this
      rw [q2] at p2
      exact congrArg (·.1) (Option.some.inj (Option.some.inj p2))
  · have hlt : i < st.length := by
      have := (List.getElem?_eq_some_iff.mp e).1
      rwa [putS_len] at this
    have him : i ≠ m := by omega
    by_cases h2 : i ∈ jsOf sp
    · obtain ⟨q, k, eq⟩ := jsOf_inv h2
      obtain ⟨d0, v0, b1, b2, b3⟩ := AV.at (sp := sp) (q := q) (j := i) (k := k) av eq
      obtain ⟨d2, v2, c1, c2, c3, _, c5⟩ := put_on (H := H2) (G := hideP H2 fun a => a ∈ fp ∨ inF fs' a) (st := st) (fps := fps) nd bk fl eq
      rw [b1] at c1
      cases c1
      rw [at_on q i k eq]
      rw [c5] at e
      exact slD_put b2 (fun s es => r1.ok i s es) b3 e (Own.move kp d2 k v0 _ c3 c2)
    · rw [at_off i him h2]
      rw [(e1 i h2).2] at e
      exact (r1.ok i sl e).mono hide fun a h => keep i h2 a h
  · have hne : i ≠ m := by omega
    rw [at_off i hne fun z => by have := jlt i z; omega]
    exact hm0 i (by omega)
end

section
variable {X : Cx} {k kr j : Nat} {kd : Kd} {e a b c tg : Expr} {es : List Expr} {f g h : EM} {fa : AM} {sp : Src} {pos p p2 : Pos} {K : PySem.W.Frag} {x : Str} {fn : Addr} {fd : FuncData} {ps : List Str} {m : List D → Option (D × List D)} {fx : XM}
def xCall (sp : Src) (kr : Nat) (m : List D → Option (D × List D)) (fa : AM) : XM := fun st => match fa st with
  | some ds => match m ds with
    | some (d, ds') => if (full d kr && fullIO sp ds') = true then some (d, putS sp ds' st) else none
    | none => none
  | none => none
theorem fx_call (G : FnOk X.prog X.w X.K X.mg X.base CX0 j fn fd ps (spIO X.K (ioOf sp) kr m)) (hr : Room j X.A) (hg : Gl X x) (hm : X.mg x = some (.ref fn)) (hk : PySem.W.keepIn X.K (.ref fn) = true) (hb : Binds X.K fd ps []) (ha : AX X sp (e :: es) fa) (hjs : (jsOf sp).Nodup) (hdb : (x == ("__debug__" : Str)) = false := by decide)
    (he : starEach (e :: es) X.env = (false, eval e X.env) :: starEach es X.env := by rfl) (hpl : (backTo pos (starEach es X.env)).any (·.1) = false := by rfl) : FX X (.ow kr) (.Call (.Name x p) (e :: es) [] pos) (xCall sp kr m fa) :=
  PE.weak (pe_call G hr hg hm hk hb .nil (pass0 (X := X)) ha hdb he hpl) fun σ H Q ⟨F, fps, st, d, st', r, ed, q⟩ => by
    unfold xCall at ed
    cases e1 : fa st with
    | none => rw [e1] at ed; cases ed
    | some ds =>
      rw [e1] at ed
      simp only at ed
      cases e2 : m ds with
      | none => rw [e2] at ed; cases ed
      | some dd =>
        obtain ⟨d0, ds'⟩ := dd
        rw [e2] at ed
        simp only at ed
        split at ed
        · rename_i hf
          cases ed
          have hf := Bool.and_eq_true_iff.mp hf
          refine ⟨F, fps, st, ds, r, e1, fun vs H1 s1 av => ?_⟩
          have r1 := r.mono s1
          have sm : Same (hideP H1 (own fps)) (hideP H1 (inF (fsOf fps sp))) := hideP_mono (Same.refl _) fun a o _ h z => by
            obtain ⟨j', _, m'⟩ := fsOf_own z
            exact h ⟨j', m'⟩
          show spIO X.K (ioOf sp) kr m (vs ++ []) H1 Q E0
          rw [List.append_nil]
          refine ⟨?_, ds, fsOf fps sp, d, ds', AV.io r1 sm av, fsOf_apart r1 hjs, e2, fun v H2 fs' fp hkp ap' hfs nfp hfp bk od => ?_⟩
          · rw [AV.len av]; unfold ioOf; rw [List.length_map]
          · obtain ⟨fps3, m3, hm3, r3, o3⟩ := r1.back hjs av hkp ap' hfs nfp hfp bk od hf.1 hf.2
            exact q v H2 fps3 r3 ⟨m3, by rw [putS_len]; exact hm3, o3⟩
        · cases ed
/-! ### statements over such expressions -/
def sX (f : XM) : SM := fun st => (f st).map fun r => .nx r.2
theorem fs_exprX (he : FX X kd e fx) (hs : swapsWith e none pos.line X.env = pure false := by rfl) : FS X kr (.Expr e pos) (sX fx) := PS.weak (ps_expr he hs) fun Dn σ H ⟨F, st, o, ⟨fps, r⟩, eo, c⟩ => by
  unfold sX at eo
  cases e1 : fx st with
  | none => rw [e1] at eo; cases eo
  | some dd =>
    obtain ⟨d, st'⟩ := dd
    rw [e1] at eo; cases eo
    exact ⟨F, fps, st, d, st', r, e1, fun v H' fps' r' _ => c σ H' ⟨fps', r'⟩⟩
/-- the temp at m goes to the slot i -/
theorem StR.take {F : Fr} {fps : Fps} {σ : L2.St} {H : Hp} {st : Sl} {i m : Nat} {d : D} {v : V} (r : StR K F fps σ H st) (hi : i < st.length) (hm : st.length ≤ m) (o : Own K H (hideP H (own fps)) d k v (fps m)) :
    StR K F (setF (setF fps m []) i (fps m)) (σ.set i (some v)) H (st.set i (.va k d)) := by
  have him : i ≠ m := by omega
  have at_i : setF (setF fps m []) i (fps m) i = fps m := setF_same
  have at_m : setF (setF fps m []) i (fps m) m = [] := by rw [setF_ne (Ne.symm him), setF_same]
  have at_o : ∀ j, j ≠ i → j ≠ m → setF (setF fps m []) i (fps m) j = fps j := fun j h1 h2 => by rw [setF_ne h1, setF_ne h2]
  have from' : ∀ j a, a ∈ setF (setF fps m []) i (fps m) j → (j = i ∧ a ∈ fps m) ∨ (j ≠ i ∧ j ≠ m ∧ a ∈ fps j) := fun j a h => by
    by_cases h1 : j = i
    · subst h1; exact .inl ⟨rfl, at_i ▸ h⟩
    · by_cases h2 : j = m
      · subst h2; rw [at_m] at h; cases h
      · exact .inr ⟨h1, h2, at_o j h1 h2 ▸ h⟩
  have sub : ∀ a, own (setF (setF fps m []) i (fps m)) a → own fps a := fun a ⟨j, h⟩ => by
    rcases from' j a h with ⟨_, h⟩ | ⟨_, _, h⟩
    · exact ⟨m, h⟩
    · exact ⟨j, h⟩
  have hide : Same (hideP H (own fps)) (hideP H (own (setF (setF fps m []) i (fps m)))) := hideP_mono (Same.refl _) fun a _ _ h z => h (sub a z)
  refine ⟨r.fr.trans hide, fun j => ?_, fun j j' a h1 h2 => ?_, by rw [List.length_set, List.length_set]; exact r.len, fun j sl e => ?_, fun j a hj h => r.isLst (sub a ⟨j, h⟩), ?_⟩
  · by_cases h1 : j = i
    · subst h1; rw [at_i]; exact r.nd m
    · by_cases h2 : j = m
      · subst h2; rw [at_m]; exact List.nodup_nil
      · rw [at_o j h1 h2]; exact r.nd j
  · rcases from' j a h1 with ⟨e1, h1⟩ | ⟨n1, n1', h1⟩ <;> rcases from' j' a h2 with ⟨e2, h2⟩ | ⟨n2, n2', h2⟩
    · rw [e1, e2]
    · exact (n2' (r.dj j' m a h2 h1)).elim
    · exact (n1' (r.dj j m a h1 h2)).elim
    · exact r.dj j j' a h1 h2
  · by_cases h1 : j = i
    · subst h1
      rw [List.getElem?_set_self hi] at e
      cases e
      rw [at_i, List.getElem?_set_self (by rw [r.len]; exact hi)]
      exact ⟨v, rfl, Own.mono hide d k v _ (fun _ _ => rfl) o⟩
    · rw [List.getElem?_set_ne (Ne.symm h1)] at e
      have hj : j < st.length := (List.getElem?_eq_some_iff.mp e).1
      rw [at_o j h1 (by omega), List.getElem?_set_ne (Ne.symm h1)]
      exact (r.ok j sl e).mono hide fun _ _ => rfl
  · obtain ⟨m0, hm0⟩ := r.fin
    refine ⟨max m0 (max i m + 1), fun j hj => ?_⟩
    have h1 := Nat.le_max_left m0 (max i m + 1)
    have h2 := Nat.le_max_right m0 (max i m + 1)
    have h3 := Nat.le_max_left i m
    have h4 := Nat.le_max_right i m
    rw [at_o j (by omega) (by omega)]
    exact hm0 j (by omega)
def sSetX (i k : Nat) (f : XM) : SM := fun st => match f st with
  | some (d, st') => if isVa st'[i]? = true then some (.nx (st'.set i (.va k d))) else none
  | none => none
theorem fs_setX {i : Nat} {pos' : Pos} (hN : X.N.Nodup) (hi : X.N[i]? = some x) (hx : Loc X.env.scope x) (he : FX X (.ow k) e fx) (hs : swapsWith e (some (.Name x pos')) pos.line X.env = pure false := by rfl) (hf : X.fn x = true ∨ X.env.scope.names.lookup x = some .local := by first | exact .inl rfl | exact .inr rfl | assumption) :
    FS X kr (.Assign [.Name x pos'] e pos) (sSetX i k fx) := PS.weak (ps_set hN hi hx he hs hf) fun Dn σ H ⟨F, st, o, ⟨fps, r⟩, eo, c⟩ => by
  unfold sSetX at eo
  cases e1 : fx st with
  | none => rw [e1] at eo; cases eo
  | some dd =>
    obtain ⟨d, st'⟩ := dd
    rw [e1] at eo
    simp only at eo
    split at eo
    · rename_i hv
      cases eo
      refine ⟨F, fps, st, d, st', r, e1, fun v H' fps' r' ⟨m, hm, w⟩ => ?_⟩
      exact c _ H' ⟨_, r'.take (isVa_lt hv) hm w⟩
    · cases eo
def sRetX (f : XM) : SM := fun st => (f st).map fun r => .rt r.1 r.2
theorem fs_retX (he : FX X (.ow kr) e fx) : FS X kr (.Return (some e) pos) (sRetX fx) := PS.weak (ps_ret he) fun Dn σ H ⟨F, st, o, ⟨fps, r⟩, eo, c⟩ => by
  unfold sRetX at eo
  cases e1 : fx st with
  | none => rw [e1] at eo; cases eo
  | some dd =>
    obtain ⟨d, st'⟩ := dd
    rw [e1] at eo; cases eo
    refine ⟨F, fps, st, d, st', r, e1, fun v H' fps' r' ⟨m, hm, w⟩ => c v H' ?_⟩
    have at_o : ∀ j, j ≠ m → setF fps' m [] j = fps' j := fun j h => setF_ne h
    have sub : ∀ a, own2 (setF fps' m []) (fps' m) a → own fps' a := fun a z => by
      rcases z with h | ⟨j, h⟩
      · exact ⟨m, h⟩
      · by_cases hj : j = m
        · subst hj; rw [setF_same] at h; cases h
        · rw [at_o j hj] at h; exact ⟨j, h⟩
    have hide : Same (hideP H' (own fps')) (hideP H' (own2 (setF fps' m []) (fps' m))) := hideP_mono (Same.refl _) fun a _ _ h z => h (sub a z)
    refine ⟨setF fps' m [], fps' m, r'.nd m, fun j => ?_, fun i j a h1 h2 => ?_, fun i a h h2 => ?_, r'.fr.trans hide, Own.mono hide d kr v _ (fun _ _ => rfl) w, fun i k' d' e => ?_⟩
    · by_cases hj : j = m
      · subst hj; rw [setF_same]; exact List.nodup_nil
      · rw [at_o j hj]; exact r'.nd j
    · by_cases hi : i = m
      · subst hi; rw [setF_same] at h1; cases h1
      · by_cases hj : j = m
        · subst hj; rw [setF_same] at h2; cases h2
        · rw [at_o i hi] at h1; rw [at_o j hj] at h2; exact r'.dj i j a h1 h2
    · by_cases hi : i = m
      · subst hi; rw [setF_same] at h; cases h
      · rw [at_o i hi] at h
        exact hi (r'.dj i m a h h2)
    · obtain ⟨_, o⟩ := r'.io e
      have hlt : i < st'.length := (List.getElem?_eq_some_iff.mp e).1
      rw [at_o i (by omega)]
      exact Own.mono hide d' k' _ _ (fun _ _ => rfl) o
end
end FL

namespace FL
open PySem PySem.Spec PyProof.Rows L2

section
variable {X : Cx} {k kr j : Nat} {kd : Kd} {e a b c tg : Expr} {es : List Expr} {f g h : EM} {fa : AM} {pos p p2 : Pos} {K : PySem.W.Frag} {x : Str}
/-! ### is, is not of truths -/
def mIsB (x y : D) : Option D := match x, y with
  | .bl a, .bl b => some (.bl (decide (a = b)))
  | _, _ => none
def mNotB (x y : D) : Option D := match x, y with
  | .bl a, .bl b => some (.bl (!decide (a = b)))
  | _, _ => none
theorem scr_isB : ScR K mIsB rIsB := fun x y H Q dx dy d rx ry e => by
  unfold mIsB at e
  split at e
  · cases e
    exact ⟨rfl, fun q => ⟨_, _, rx, ry, q⟩⟩
  · cases e
theorem scr_notB : ScR K mNotB rNotB := fun x y H Q dx dy d rx ry e => by
  unfold mNotB at e
  split at e
  · cases e
    exact ⟨rfl, fun q => ⟨_, _, rx, ry, q⟩⟩
  · cases e
theorem fe_isB (ha : FE X .rd a f) (hb : FE X .rd b g) : FE X kd (.Compare a [.Is] [b] pos) (eBin mIsB f g) := fe_cmpB op_isBl scr_isB (nomark _) ha hb
theorem fe_notB (ha : FE X .rd a f) (hb : FE X .rd b g) : FE X kd (.Compare a [.IsNot] [b] pos) (eBin mNotB f g) := fe_cmpB op_notBl scr_notB (nomark _) ha hb
theorem ft_isB (ha : FE X .rd a f) (hb : FE X .rd b g) : FT X (.Compare a [.Is] [b] pos) (qVal (eBin mIsB f g)) := ft_cmpB op_isBl scr_isB (nomark _) ha hb
theorem ft_notB (ha : FE X .rd a f) (hb : FE X .rd b g) : FT X (.Compare a [.IsNot] [b] pos) (qVal (eBin mNotB f g)) := ft_cmpB op_notBl scr_notB (nomark _) ha hb
/-! ### tuple + tuple, t[lo:hi], of any length -/
def mCatTA (x y : D) : Option D := match x, y with
  | .tup ds, .tup es => if lenOk (ds.length + es.length) = true then some (.tup (ds ++ es)) else none
  | _, _ => none
theorem fe_catTA (ha : FE X .rd a f) (hb : FE X .rd b g) : FE X .rd (.BinOp a .Add b pos) (eBin mCatTA f g) := PE.weak (pe_op op_catA ha hb) fun σ H Q ⟨F, fps, st, d, r, ed, q⟩ => by
  obtain ⟨x, y, e1, e2, e3⟩ := bind2 ed
  refine ⟨F, fps, st, x, r, e1, fun v H1 s1 w1 => ⟨F, fps, st, y, r.mono s1, e2, fun u H2 s2 w2 => ?_⟩⟩
  unfold mCatTA at e3
  split at e3
  · split at e3
    · rename_i hl
      cases e3
      obtain ⟨l, xs, l1, l2, l3⟩ := w1
      obtain ⟨m, ys, m1, m2, m3⟩ := w2
      have hx := l3.length
      have hy := m3.length
      have l2' := Same.sqt s2 l2
      have l3' := RepL.mono s2 _ _ l3
      refine ⟨l, m, xs, ys, l1, m1, l2', m2, by rw [hx, hy]; exact lenOk_le hl, fun z => ?_, fun _ z => ?_, fun _ _ p np => q _ _ ((s1.trans s2).trans (same_upd np)) (VR.newT (kd := .rd) r (s1.trans s2) (l3'.app m3) np)⟩
      · refine q _ _ (s1.trans s2) ?_
        have := l3'.app m3
        rw [z, List.nil_append] at this
        exact ⟨m, ys, rfl, m2, this⟩
      · refine q _ _ (s1.trans s2) ?_
        have := l3'.app m3
        rw [z, List.append_nil] at this
        exact ⟨l, xs, rfl, l2', this⟩
    · cases e3
  · cases e3
def mSlTA : D → Option Int → Option Int → Option D
  | .tup ds, lo, hi => some (.tup (cutG ds lo hi))
  | _, _, _ => none
variable {lo hi : Option Expr} {fl fh : OM}
theorem fe_slTA (he : FE X .rd e f) (hl : FO X lo fl) (hh : FO X hi fh) : FE X .rd (.Subscript e (.Slice lo hi none p2) pos) (eSl mSlTA f fl fh) := PE.weak (pe_slice sl_tupA he hl hh) fun σ H Q => tF_sl fun F fps st x v l u d H2 r s2 w e q => by
  unfold mSlTA at e
  split at e
  · cases e
    obtain ⟨a, xs, e1, e2, e3⟩ := w
    refine ⟨a, xs, e1, e2, fun z => ?_, fun _ p np => q _ _ (same_upd np) (VR.newT (kd := .rd) r s2 (e3.cut l u) np)⟩
    refine q _ _ (Same.refl _) ?_
    have hc := e3.cut l u
    have : cutV xs l u = xs := by
      unfold cutV
      rw [z.1, z.2, List.drop_zero, Nat.sub_zero, List.take_length]
    rw [this] at hc
    exact ⟨a, xs, rfl, e2, hc⟩
  · cases e
/-! ### x = [..] frozen at once -/
theorem tF_fz {k : Nat} {σ : L2.St} {H : Hp} {Q : VK} (h : tF K (.ow 0) f σ H Q) : tF K (.ow k) f σ H Q := by
  obtain ⟨F, fps, st, d, r, ed, q⟩ := h
  refine ⟨F, fps, st, d, r, ed, fun v H' s w => q v H' s ?_⟩
  obtain ⟨fp, n, fr, o⟩ := w
  refine VR.mk0 (Own.rep (F := hideP H' (own2 fps fp)) (hideP_mono (Same.refl _) fun a o _ h z => h (.inr z)) d k v fp (fun a m => ?_) o)
  exact hideP_not fun ⟨i, z⟩ => r.there ⟨i, z⟩ (fr a m)
theorem fs_setLc0 {t : TM} {I : List Nat} {el : Expr} {kr i : Nat} {y : Str} {py spos : Pos} {k' : Nat} {its : IM} {m : GM} {iter : Expr} {ifs : List Expr} {scope : Scope} {ow : List (Str × Nat)} (hc : X.calm = true) (hN : X.N.Nodup) (hy : X.N[i]? = some y) (hyl : X.env.scope.names.lookup y = some .local)
    (hsw : swapsWith (.ListComp el [⟨tg, iter, ifs, 0⟩] scope pos) (some (.Name y py)) spos.line X.env = pure true) (hi : FI X tg iter its) (ok : BlkOk X.N X.env.scope scope ow) (hI : ∀ i ∈ I, i ∈ ow.map (·.2))
    (hg : ∀ (s : Shared) (H : Hp) (C : Addr) (cl : List (Str × Addr)) (fp : List Addr), FG (X.blk s H scope (compEnvC scope cl C X.env) fp) I tg m) (ht : ∀ (s : Shared) (H : Hp) (C : Addr) (cl : List (Str × Addr)) (fp : List Addr), PTs (X.blk s H scope (compEnvC scope cl C X.env) fp) ifs (tFT X.K t))
    (he : ∀ (s : Shared) (H : Hp) (C : Addr) (cl : List (Str × Addr)) (fp : List Addr), FE (X.blk s H scope (compEnvC scope cl C X.env) fp) (.ow k') el f) (hs : ∀ x, foldedSetIterable iter X.env x = pure x := by intro _; rfl) :
    FS X kr (.Assign [.Name y py] (.ListComp el [⟨tg, iter, ifs, 0⟩] scope pos) spos) (sSet i 0 (eLc (ow.map (·.2)) its m t f)) :=
  PS.weak (ps_setLc hc hN hy hyl hsw hi ok hg ht he hs) fun Dn σ H h => tF_lc (K := X.K) hI (tF_fz (tF_set h))
end
end FL

namespace FL
open PySem PySem.Spec PyProof.Rows L2

section
variable {X : Cx} {k kr j : Nat} {K : PySem.W.Frag}
/-- a slot's own lists become shared -/
theorem StR.freeze {F : Fr} {fps : Fps} {σ : L2.St} {H : Hp} {st : Sl} {i : Nat} {d : D} (r : StR K F fps σ H st) (e : st[i]? = some (.va k d)) : StR K F (setF fps i []) σ H (st.set i (.va 0 d)) := by
  have hi : i < st.length := (List.getElem?_eq_some_iff.mp e).1
  have at_o : ∀ j, j ≠ i → setF fps i [] j = fps j := fun j h => setF_ne h
  have sub : ∀ a, own (setF fps i []) a → own fps a := fun a ⟨j, h⟩ => by
    by_cases hj : j = i
    · subst hj; rw [setF_same] at h; cases h
    · rw [at_o j hj] at h; exact ⟨j, h⟩
  have hide : Same (hideP H (own fps)) (hideP H (own (setF fps i []))) := hideP_mono (Same.refl _) fun a _ _ h z => h (sub a z)
  refine ⟨r.fr.trans hide, fun j => ?_, fun j j' a h1 h2 => ?_, by rw [List.length_set]; exact r.len, fun j sl es => ?_, fun j a hj h => r.isLst (sub a ⟨j, h⟩), ?_⟩
  · by_cases hj : j = i
    · subst hj; rw [setF_same]; exact List.nodup_nil
    · rw [at_o j hj]; exact r.nd j
  · by_cases hj : j = i
    · subst hj; rw [setF_same] at h1; cases h1
    · by_cases hj' : j' = i
      · subst hj'; rw [setF_same] at h2; cases h2
      · rw [at_o j hj] at h1; rw [at_o j' hj'] at h2; exact r.dj j j' a h1 h2
  · by_cases hj : j = i
    · subst hj
      rw [List.getElem?_set_self hi] at es
      cases es
      obtain ⟨v, ev, o⟩ := r.va e
      rw [setF_same]
      refine ⟨v, ev, Own.shared d v (Own.rep hide d k v _ (fun a m => hideP_not fun ⟨q, z⟩ => ?_) o)⟩
      by_cases hq : q = j
      · subst hq; rw [setF_same] at z; cases z
      · rw [at_o q hq] at z
        exact hq (r.dj q j a z m)
    · rw [List.getElem?_set_ne (Ne.symm hj)] at es
      rw [at_o j hj]
      exact (r.ok j sl es).mono hide fun _ _ => rfl
  · obtain ⟨m, hm⟩ := r.fin
    refine ⟨max m (i + 1), fun j hj => ?_⟩
    have h1 := Nat.le_max_left m (i + 1)
    have h2 := Nat.le_max_right m (i + 1)
    rw [at_o j (by omega)]
    exact hm j (by omega)
def sFrz (i : Nat) (g : SM) : SM := fun st => match st[i]? with
  | some (.va _ d) => g (st.set i (.va 0 d))
  | _ => none
theorem tF_frz {i : Nat} {g : SM} {Dn : Ends} {σ : L2.St} {H : Hp} (h : tFS K kr (sFrz i g) Dn σ H) : tFS K kr g Dn σ H := by
  obtain ⟨F, st, o, ⟨fps, r⟩, e, c⟩ := h
  unfold sFrz at e
  split at e
  · rename_i k' d es
    exact ⟨F, _, o, ⟨_, r.freeze es⟩, e, c⟩
  · cases e
theorem fs_frz {s : Stmt} {g : SM} (i : Nat) (h : FS X kr s g) : FS X kr s (sFrz i g) := PS.weak h fun _ _ _ => tF_frz
end
end FL

namespace FL
open PySem PySem.Spec PyProof.Rows L2

section
variable {X : Cx} {k kr j : Nat} {K : PySem.W.Frag} {e a b c tg : Expr} {f g h : EM} {pos p p2 : Pos}
/-! ### an expression that reads a slot's own lists as if they were shared; what comes has none of them -/
def eThaw (i k : Nat) (f : EM) : EM := fun st => match st[i]? with
  | some (.va _ d) => (f (st.set i (.va 0 d))).bind (chk k)
  | _ => none
def eThawR (i : Nat) (f : EM) : EM := fun st => match st[i]? with
  | some (.va _ d) => f (st.set i (.va 0 d))
  | _ => none
theorem tF_thaw {i : Nat} {σ : L2.St} {H : Hp} {Q : VK} (h : tF K (.ow k) (eThaw i k f) σ H Q) : tF K (.ow k) f σ H Q := by
  obtain ⟨F, fps, st, d, r, ed, q⟩ := h
  unfold eThaw at ed
  split at ed
  · rename_i k' d0 es
    obtain ⟨ed, fl⟩ := chk_some ed
    refine ⟨F, _, _, d, r.freeze es, ed, fun v H' s w => q v H' s ?_⟩
    obtain ⟨fp, n, fr, o⟩ := w
    refine ⟨fp, n, fr, Own.move (fun a ob e2 nm => ?_) d k v fp fl o⟩
    obtain ⟨_, e3⟩ := hideP_some.mp e2
    refine hideP_some.mpr ⟨fun z => ?_, e3⟩
    have : ∃ o, H' a = some o ∧ MutO o := by
      rcases z with m | z
      · exact Own.isLst d k v fp o a m
      · obtain ⟨o2, e4, m4⟩ := r.isLst z
        exact ⟨o2, s a o2 e4, m4⟩
    obtain ⟨o2, e4, m4⟩ := this
    rw [e3] at e4
    cases e4
    exact nm m4
  · cases ed
theorem tF_thawR {i : Nat} {σ : L2.St} {H : Hp} {Q : VK} (h : tF K .rd (eThawR i f) σ H Q) : tF K .rd f σ H Q := by
  obtain ⟨F, fps, st, d, r, ed, q⟩ := h
  unfold eThawR at ed
  split at ed
  · rename_i k' d0 es
    exact ⟨F, _, _, d, r.freeze es, ed, fun v H' s w => q v H' s w⟩
  · cases ed
theorem fe_thaw (i : Nat) (he : FE X (.ow k) e f) : FE X (.ow k) e (eThaw i k f) := PE.weak he fun _ _ _ => tF_thaw
theorem fe_thawR (i : Nat) (he : FE X .rd e f) : FE X .rd e (eThawR i f) := PE.weak he fun _ _ _ => tF_thawR
theorem fs_setLcT {t : TM} {I : List Nat} {el : Expr} {kr i q : Nat} {y : Str} {py spos : Pos} {k' : Nat} {its : IM} {m : GM} {iter : Expr} {ifs : List Expr} {scope : Scope} {ow : List (Str × Nat)} (hc : X.calm = true) (hN : X.N.Nodup) (hy : X.N[i]? = some y) (hyl : X.env.scope.names.lookup y = some .local)
    (hsw : swapsWith (.ListComp el [⟨tg, iter, ifs, 0⟩] scope pos) (some (.Name y py)) spos.line X.env = pure true) (hi : FI X tg iter its) (ok : BlkOk X.N X.env.scope scope ow) (hI : ∀ i ∈ I, i ∈ ow.map (·.2))
    (hg : ∀ (s : Shared) (H : Hp) (C : Addr) (cl : List (Str × Addr)) (fp : List Addr), FG (X.blk s H scope (compEnvC scope cl C X.env) fp) I tg m) (ht : ∀ (s : Shared) (H : Hp) (C : Addr) (cl : List (Str × Addr)) (fp : List Addr), PTs (X.blk s H scope (compEnvC scope cl C X.env) fp) ifs (tFT X.K t))
    (he : ∀ (s : Shared) (H : Hp) (C : Addr) (cl : List (Str × Addr)) (fp : List Addr), FE (X.blk s H scope (compEnvC scope cl C X.env) fp) (.ow k') el f) (hs : ∀ x, foldedSetIterable iter X.env x = pure x := by intro _; rfl) :
    FS X kr (.Assign [.Name y py] (.ListComp el [⟨tg, iter, ifs, 0⟩] scope pos) spos) (sSet i (k' + 1) (eThaw q (k' + 1) (eLc (ow.map (·.2)) its m t f))) :=
  PS.weak (ps_setLc hc hN hy hyl hsw hi ok hg ht he hs) fun Dn σ H h => tF_lc (K := X.K) hI (tF_thaw (tF_set h))
theorem fs_setLc0T {t : TM} {I : List Nat} {el : Expr} {kr i q : Nat} {y : Str} {py spos : Pos} {k' : Nat} {its : IM} {m : GM} {iter : Expr} {ifs : List Expr} {scope : Scope} {ow : List (Str × Nat)} (hc : X.calm = true) (hN : X.N.Nodup) (hy : X.N[i]? = some y) (hyl : X.env.scope.names.lookup y = some .local)
    (hsw : swapsWith (.ListComp el [⟨tg, iter, ifs, 0⟩] scope pos) (some (.Name y py)) spos.line X.env = pure true) (hi : FI X tg iter its) (ok : BlkOk X.N X.env.scope scope ow) (hI : ∀ i ∈ I, i ∈ ow.map (·.2))
    (hg : ∀ (s : Shared) (H : Hp) (C : Addr) (cl : List (Str × Addr)) (fp : List Addr), FG (X.blk s H scope (compEnvC scope cl C X.env) fp) I tg m) (ht : ∀ (s : Shared) (H : Hp) (C : Addr) (cl : List (Str × Addr)) (fp : List Addr), PTs (X.blk s H scope (compEnvC scope cl C X.env) fp) ifs (tFT X.K t))
    (he : ∀ (s : Shared) (H : Hp) (C : Addr) (cl : List (Str × Addr)) (fp : List Addr), FE (X.blk s H scope (compEnvC scope cl C X.env) fp) (.ow k') el f) (hs : ∀ x, foldedSetIterable iter X.env x = pure x := by intro _; rfl) :
    FS X kr (.Assign [.Name y py] (.ListComp el [⟨tg, iter, ifs, 0⟩] scope pos) spos) (sSet i 0 (eThaw q (k' + 1) (eLc (ow.map (·.2)) its m t f))) :=
  PS.weak (ps_setLc hc hN hy hyl hsw hi ok hg ht he hs) fun Dn σ H h => tF_lc (K := X.K) hI (tF_thaw (tF_fz (tF_set h)))
end
end FL

namespace FL
open PySem PySem.Spec PyProof.Rows L2

section
variable {X : Cx} {k kr j : Nat} {K : PySem.W.Frag} {e a b c tg : Expr} {f g h : EM} {pos p p2 : Pos}
/-! ### x[i].append(e), e without lists of one's own -/
def sAppN (i : Nat) (g f : EM) : SM := fun st => match slD st[i]? with
  | some (k', .lst ds) => if k' = 2 then (g st).bind fun x => (f st).bind fun d => match x with
    | .int n => (L2.ixN ds.length n).bind fun j => match ds[j]? with
      | some (.lst es) => if decide (es.length < 16777216) = true then some (.nx (setD st i (.lst (ds.set j (.lst (es ++ [d])))))) else none
      | _ => none
    | _ => none
    else none
  | _ => none
theorem tF_appN {i : Nat} {Dn : Ends} {σ : L2.St} {H : Hp} (hh : tFS K kr (sAppN i g f) Dn σ H) : tDrop (tBM K "list" rAppend (tOp (rIx K) (tVar i) (tF K .rd g)) (tCons (tF K (.ow 0) f) tNil)) Dn σ H := by
  obtain ⟨F, st, o, ⟨fps, r⟩, e, c⟩ := hh
  unfold sAppN at e
  split at e
  · rename_i k' ds hs
    split at e
    · rename_i hk
      subst hk
      obtain ⟨x, d, e2, e1, e⟩ := bind2 e
      split at e
      · rename_i n
        cases ej : L2.ixN ds.length n with
        | none => rw [ej] at e; cases e
        | some j =>
          rw [ej] at e
          have e : (match ds[j]? with
            | some (.lst es) => if decide (es.length < 16777216) = true then some (Out.nx (setD st i (.lst (ds.set j (.lst (es ++ [d])))))) else none
            | _ => none) = some o := e
          split at e
          · rename_i es hes
            split at e
            · rename_i hlen
              have hlen : es.length < sizeLine := by rw [sizeLine_eq]; exact of_decide_eq_true hlen
              cases e
              obtain ⟨v0, ev, L, xs, fpa, eL, hL, efp, oL⟩ := r.sl hs
              subst eL
              refine ⟨.ref L, ev, F, fps, st, .int n, r, e2, fun u H2 s2 w2 => ?_⟩
              obtain ⟨vj, A, B, C, g1, g2, g3, put⟩ := oL.split hes
              obtain ⟨M, ys, fpb, eM, hM, efB, oM⟩ := g3
              subst eM
              refine .inl ⟨L, xs, n, .ref M, rfl, w2, .inl (.inl (s2 _ _ hL)), atI_ixN (by rw [oL.len]; exact ej) g1, ?_⟩
              refine ⟨.inl ⟨rfl, ys, .inl (.inl (s2 _ _ hM))⟩, F, fps, st, d, r.mono s2, e1, fun v H3 s3 w => ?_⟩
              have s12 := s2.trans s3
              have rv := w.ow0
              subst efB
              have hm : M ∈ fps i := by rw [efp, g2]; exact List.mem_cons_of_mem _ (List.mem_append_right _ List.mem_cons_self)
              refine ⟨M, ys, v, rfl, rfl, s12 _ _ hM, by rw [oM.len]; exact hlen, ?_⟩
              have nd0 := r.nd i
              rw [efp, g2] at nd0
              obtain ⟨ndL, ndR⟩ := List.nodup_cons.mp nd0
              have inF : ∀ a, a ∈ L :: (A ++ (M :: fpb ++ C)) → a ∈ fps i := fun a m => by rw [efp, g2]; exact m
              have nM : (M :: fpb).Nodup := (List.nodup_append.mp (List.nodup_append.mp ndR).2.1).1
              obtain ⟨ndM, ndM2⟩ := List.nodup_cons.mp nM
              refine c σ _ ⟨_, r.bump (i := i) (A := M) (o := .lst (ys ++ [v])) (fp' := L :: (A ++ (M :: fpb ++ C))) s12 hm True.intro nd0 (fun a m => .inl (inF a m)) setD_length (fun j hj => setD_ne hj) fun sl es' gen => ?_⟩
              refine slD_put hs (fun s es => r.ok i s es) ev es' ?_
              have nin : ∀ a o', H a = some o' → ¬ own fps a → ¬ own (setF fps i (L :: (A ++ (M :: fpb ++ C)))) a := fun a o' e h z => by
                rcases own_setF z with m | z
                · exact h ⟨i, inF a m⟩
                · exact h z
              have keepA : ∀ a, a ∈ fps i → a ≠ M → upd H3 M (.lst (ys ++ [v])) a = H a := fun a m aM => by
                rw [upd_ne aM]
                obtain ⟨_, q, _⟩ := r.isLst ⟨i, m⟩
                rw [q]; exact s12 _ _ q
              have h3 := (List.nodup_append.mp ndR).2.2
              have h4 := (List.nodup_append.mp (List.nodup_append.mp ndR).2.1).2.2
              have hset : xs.set j (V.ref M) = xs := by
                apply List.ext_getElem?
                intro q
                by_cases hq : q = j
                · subst hq
                  rw [List.getElem?_set_self (List.getElem?_eq_some_iff.mp g1).1, g1]
                · rw [List.getElem?_set_ne (Ne.symm hq)]
              have LM : L ≠ M := fun z => ndL (by rw [z]; simp)
              refine ⟨L, xs, A ++ (M :: fpb ++ C), rfl, by rw [keepA L (inF L (by simp)) LM]; exact hL, rfl, ?_⟩
              rw [← hset]
              refine put _ _ _ (.ref M) (M :: fpb) (fun a m => keepA a (inF a (m.elim (fun m => by simp [m]) fun m => by simp [m])) fun z => ?_) (gen _ nin) ?_
              · subst z
                rcases m with m | m
                · exact h3 a m a (by simp) rfl
                · exact h4 a (by simp) a m rfl
              · refine ⟨M, ys ++ [v], fpb, rfl, upd_same, rfl, ?_⟩
                have o2 : OwnL K (upd H3 M (.lst (ys ++ [v]))) _ es 0 ys fpb := OwnL.mono (gen _ nin) es 0 ys fpb (fun a m => keepA a (inF a (by simp [m])) fun z => ndM (z ▸ m)) oM
                have := OwnL.app o2 (OwnL.one (Own.shared d v (Rep.mono (fun a o' e => ?_) d v rv)))
                · rw [List.append_nil] at this
                  exact this
                · obtain ⟨z1, z2⟩ := hideP_some.mp e
                  have aM : a ≠ M := fun z => z1 ⟨i, z ▸ hm⟩
                  refine hideP_some.mpr ⟨fun z => ?_, by rw [upd_ne aM]; exact z2⟩
                  rcases own_setF z with m | z
                  · exact z1 ⟨i, inF a m⟩
                  · exact z1 z
            · cases e
          · cases e
      · cases e
    · cases e
  · cases e
theorem fs_appN {i kr : Nat} {ec : Expr} (hp : PE X ec (tBM X.K "list" rAppend (tOp (rIx X.K) (tVar i) (tF X.K .rd g)) (tCons (tF X.K (.ow 0) f) tNil))) (hsw : swapsWith ec none pos.line X.env = pure false := by rfl) :
    FS X kr (.Expr ec pos) (sAppN i g f) := PS.weak (ps_expr hp hsw) fun _ _ _ => tF_appN
end
end FL

namespace FL
open PySem PySem.Spec PyProof.Rows L2

/-! ### max(xs, default=d) of a list of whole numbers, perhaps empty -/
section
variable {P : Program} {w : World} {A : Around} {s : Shared} {I : Addr} {fp wr : List Addr} {n : Nat} {It : Nat → Value → Prop} {St : Nat → Heap → Prop}
def dKw (d : Value) : List (Str × Value) := [(Str.ofString "default", d)]
theorem max_go {R : Result → Shared → Prop} (d : Value) (W : Walks P w A.in1 I fp wr n It St) (bt : Nat → Nat → Bool) (hcmp : CmpOf P w A.in1 .Gt It bt) (b0 : Addr) (nf : b0 ∉ fp) :
    ∀ (m j : Nat) (s : Shared) (v0 : Value) (c : Nat), n - (j + 1) = m → j + 1 ≤ n → St (j + 1) s.heap → It (argBest bt j) v0 →
    s.heap.get? b0 = some { cls := .type "list", dict := none, data := .seq #[v0, v0] c, slots := #[] } →
    (∀ v h' tk, It (argBest bt (n - 1)) v → (∀ b o, b ∉ wr → b ≠ b0 → s.heap.get? b = some o → h'.get? b = some o) → R (.ok (.ret v)) { s with heap := h', toks := tk }) →
    codeAny (model P w) A (.builtin "max.loop" ⟨[.ref I, .none, .ref b0], dKw d⟩) R s := by
  have nw : b0 ∉ wr := fun h => nf (W.sub _ h)
  have nm : (toString "max" ++ toString ".loop" : String) = "max.loop" := by decide
  intro m
  induction m with
  | zero =>
    intro j s v0 c hm hj hst hb hS hR
    have jn : j + 1 = n := by omega
    refine codeAny_builtin F.entry_max_loop ?_
    rw [Around.under_plainId F.plain_max_loop _]
    show wpAny _ A.in1 (seqItems? (.ref b0) >>= _) _ _ s
    refine wpAny_bind (wpAny_seqItems hS rfl ?_)
    show wpAny _ A.in1 (tryCatch (pyNext (.ref I)) _ >>= _) _ _ s
    refine wpAny_bind (wpAny_tryCatch (W.done s _ _ (jn ▸ hst) fun h1 t1 k1 => ?_))
    have hS1 := k1 b0 _ nw hS
    show wpAny _ A.in1 (updateSeq b0 (fun _ => #[]) >>= _) _ _ _
    refine wpAny_bind (wpAny_updateSeq hS1 rfl (wpAny_bind (wpAny_letGo (wpAny_pure ?_))))
    exact hR v0 _ t1 (by rw [← jn]; exact hb) fun b o x1 x2 e => (Heap.get?_update_other _ _ (Ne.symm x2)).trans (k1 b o x1 e)
  | succ m ih =>
    intro j s v0 c hm hj hst hb hS hR
    have jn : j + 1 < n := by omega
    refine codeAny_builtin F.entry_max_loop ?_
    rw [Around.under_plainId F.plain_max_loop _]
    show wpAny _ A.in1 (seqItems? (.ref b0) >>= _) _ _ s
    refine wpAny_bind (wpAny_seqItems hS rfl ?_)
    show wpAny _ A.in1 (tryCatch (pyNext (.ref I)) _ >>= _) _ _ s
    refine wpAny_bind (wpAny_tryCatch (W.item (j + 1) s _ _ jn hst fun v h1 t1 i1 st1 k1 => ?_))
    have hS1 := k1 b0 _ nw hS
    show wpAny _ A.in1 (tryCatch (holding [v, v] (richCompare .Gt v v0 >>= _)) _ >>= _) _ _ _
    refine wpAny_bind (wpAny_tryCatch (wpAny_holding (wpAny_bind (hcmp (j + 1) (argBest bt j) v v0 _ _ _ i1 hb ?_))))
    refine wpAny_bind (wpAny_holding (wpAny_truthy_bool (wpAny_bind (wpAny_letGo (wpAny_pure ?_)))))
    cases ht : bt (j + 1) (argBest bt j) with
    | true =>
      simp only [if_true]
      refine wpAny_bind (wpAny_updateSeq hS1 rfl (wpAny_bind (wpAny_letGo ?_)))
      rw [nm]
      refine wpAny_pure ⟨plainId_quiet F.plain_max_loop _, ih (j + 1) _ v _ (by omega) jn (W.frame _ _ _ st1 fun b x1 o e => (Heap.get?_update_other _ _ (fun h : b0 = b => nf (by rw [h]; exact x1))).trans e)
        (by simp only [argBest, ht, if_true]; exact i1) (Heap.get?_update_self _ hS1 rfl) fun v' h2 t2 i2 k2 => ?_⟩
      exact hR v' h2 t2 i2 fun b o x1 x2 e => k2 b o x1 x2 ((Heap.get?_update_other _ _ (Ne.symm x2)).trans (k1 b o x1 e))
    | false =>
      simp only [Bool.false_eq_true, if_false]
      refine wpAny_bind (wpAny_letGo ?_)
      rw [nm]
      refine wpAny_pure ⟨plainId_quiet F.plain_max_loop _, ih (j + 1) _ v0 c (by omega) jn st1 (by simp only [argBest, ht, Bool.false_eq_true, if_false]; exact hb) hS1 fun v' h2 t2 i2 k2 => ?_⟩
      exact hR v' h2 t2 i2 fun b o x1 x2 e => k2 b o x1 x2 (k1 b o x1 e)
theorem max_start {R : Result → Shared → Prop} (d : Value) (W : Walks P w A.in1 I fp wr n It St) (bt : Nat → Nat → Bool) (hcmp : CmpOf P w A.in1 .Gt It bt) (b0 : Addr) (nf : b0 ∉ fp) {c : Nat} (hst : St 0 s.heap)
    (hS : s.heap.get? b0 = some { cls := .type "list", dict := none, data := .seq #[] c, slots := #[] })
    (h0 : n = 0 → ∀ h' tk, (∀ b o, b ∉ wr → b ≠ b0 → s.heap.get? b = some o → h'.get? b = some o) → R (.ok (.ret d)) { s with heap := h', toks := tk })
    (hR : 0 < n → ∀ v h' tk, It (argBest bt (n - 1)) v → (∀ b o, b ∉ wr → b ≠ b0 → s.heap.get? b = some o → h'.get? b = some o) → R (.ok (.ret v)) { s with heap := h', toks := tk }) :
    codeAny (model P w) A (.builtin "max.loop" ⟨[.ref I, .none, .ref b0], dKw d⟩) R s := by
  have nw : b0 ∉ wr := fun h => nf (W.sub _ h)
  have nm : (toString "max" ++ toString ".loop" : String) = "max.loop" := by decide
  refine codeAny_builtin F.entry_max_loop ?_
  rw [Around.under_plainId F.plain_max_loop _]
  show wpAny _ A.in1 (seqItems? (.ref b0) >>= _) _ _ s
  refine wpAny_bind (wpAny_seqItems hS rfl ?_)
  show wpAny _ A.in1 (tryCatch (pyNext (.ref I)) _ >>= _) _ _ s
  by_cases hn : n = 0
  · refine wpAny_bind (wpAny_tryCatch (W.done s _ _ (by rw [hn]; exact hst) fun h1 t1 k1 => ?_))
    refine wpAny_bind (wpAny_rule ?_)
    exact wpAny_pure (h0 hn h1 t1 fun b o x1 x2 e => k1 b o x1 e)
  · refine wpAny_bind (wpAny_tryCatch (W.item 0 s _ _ (by omega) hst fun v h1 t1 i1 st1 k1 => ?_))
    have hS1 := k1 b0 _ nw hS
    show wpAny _ A.in1 (updateSeq b0 (fun _ => #[v, v]) >>= _) _ _ _
    refine wpAny_bind (wpAny_updateSeq hS1 rfl ?_)
    rw [nm]
    refine wpAny_pure ⟨plainId_quiet F.plain_max_loop _, max_go d W bt hcmp b0 nf _ 0 _ v _ rfl (by omega) (W.frame _ _ _ st1 fun b x1 o e => (Heap.get?_update_other _ _ (fun h : b0 = b => nf (by rw [h]; exact x1))).trans e) i1 (Heap.get?_update_self _ hS1 rfl) fun v' h2 t2 i2 k2 => ?_⟩
    exact hR (by omega) v' h2 t2 i2 fun b o x1 x2 e => k2 b o x1 x2 ((Heap.get?_update_other _ _ (Ne.symm x2)).trans (k1 b o x1 e))
theorem args_maxD (a d : Value) : argsOk "max" ⟨[a], dKw d⟩ := by unfold argsOk dKw; kernel_rfl
theorem call_kw_tree {E : Value → Shared → Prop} {id : String} {b : Builtin} {args : List Value} {kw : List (Str × Value)} {Q : Value → Shared → Prop} (hk : builtinKind id = none) (hp : plainId id = true) (hb : entryFor table id = some b) (ha : argsOk id ⟨args, kw⟩)
    (hc : wpAny (model P w) A.in1 (b ⟨args, kw⟩) (fun fin s' => match fin with
      | .done f => (match (Except.ok f : Result) with | .ok (.ret v) => Q v s' | .ok _ => False | .error e => E e s')
      | .again c' => c'.quiet = true ∧ codeAny (model P w) A c' (fun r s' => match r with | .ok (.ret v) => Q v s' | .ok _ => False | .error e => E e s') s') E s) :
    wpAny (model P w) A (call (.builtin id) args kw) Q E s := by
  refine wpAny_call (codeAny_call_builtin hp hb ?_)
  simp only [checkBuiltinCall, hk]
  cases hg : Manifest.signature? id with
  | none => exact wpAny_pure hc
  | some sg =>
    have hz : Bind.checkArgs id sg ⟨args, kw⟩ = pure () := by simpa only [argsOk, hg] using ha
    simp only [hz]
    exact wpAny_pure hc
theorem max_dflt {E : Value → Shared → Prop} {Q : Value → Shared → Prop} {l : Addr} {xs : Array (Int × Tok)} (d : Value) (hh : A.handled = none) (hl : s.heap.IsList l (intItems xs))
    (h0 : xs.size = 0 → ∀ h' tk, (∀ b o, s.heap.get? b = some o → h'.get? b = some o) → Q d { s with heap := h', toks := tk })
    (h : 0 < xs.size → ∀ v h' tk, (intItems xs)[argBest (fun i j => decide (numAt xs i > numAt xs j)) (xs.size - 1)]? = some v → (∀ b o, s.heap.get? b = some o → h'.get? b = some o) → Q v { s with heap := h', toks := tk }) :
    wpAny (model P w) A (call (.builtin "max") [.ref l] (dKw d)) Q E s := by
  have nm : (toString "max" ++ toString ".loop" : String) = "max.loop" := by decide
  refine call_kw_tree F.kind_max F.plain_max F.entry_max (args_maxD _ _) ?_
  show wpAny _ A.in1 (Builtin.Builtins.bindParams "max" ["key", "default"] 0 ⟨[], dKw d⟩ >>= _) _ _ s
  refine wpAny_bind (wpAny_of_eq (show Builtin.Builtins.bindParams "max" ["key", "default"] 0 ⟨[], dKw d⟩ = pure [none, some d] from rfl) ?_)
  refine wpAny_bind (wpAny_pure (wpAny_bind (iter_intList hl fun s2 e st hfp hlI => ?_)))
  subst e
  refine wpAny_bind (wpAny_newObj_type ?_)
  have W := Walks.list (prog := P) (w := w) (A := A.in1) hh s.heap.objs.size l hlI (intItems xs)
  rw [nm]
  refine wpAny_pure ⟨plainId_quiet F.plain_max_loop _, ?_⟩
  have sz : (intItems xs).size = xs.size := by simp [intItems]
  refine max_start d W (fun i j => decide (numAt xs i > numAt xs j)) (CmpOf.ints_gt (numAt xs) fun _ _ => intItems_at) _ (fun m => Nat.lt_irrefl _ (hfp _ m)) (W.frame _ _ _ st fun b _ o e => Heap.get?_push_of_some _ e) (Heap.get?_push_size _ rfl)
    (fun hn h' tk hk => ?_) fun hn v h' tk hv hk => ?_
  · exact h0 (by omega) h' tk (old_kept fun b o hb e => hk b o hb (Nat.ne_of_lt (Heap.lt_size e)) (Heap.get?_push_of_some _ e))
  · exact h (by omega) v h' tk (by rw [sz] at hv; exact hv) (old_kept fun b o hb e => hk b o hb (Nat.ne_of_lt (Heap.lt_size e)) (Heap.get?_push_of_some _ e))
end
section
variable {X : Cx} {kd : Kd} {e : Expr} {es : List Expr} {fa : AM} {x : Str} {p pos : Pos} {kws : List Keyword} {K : PySem.W.Frag}
def rMaxD (K : PySem.W.Frag) (z : Int) : List V → List V → Hp → VK → Prop := fun vs zs H Q => ∃ (a : Addr) (ns : List Int), vs = [V.ref a] ∧ zs = [.int z] ∧ SqL K H a (ns.map V.int) ∧ Q (.int (if ns.isEmpty = true then z else maxL ns)) H
theorem cr_maxD (z : Int) (hc : X.calm = true) : CallRK X (.builtin "max") [Str.ofString "default"] (rMaxD X.K z) := by
  intro pins s σ H vs zs us ws Q I r rz h
  obtain ⟨a, ns, rfl, rfl, hs, q⟩ := h
  obtain rfl := Vals.ref1 r
  obtain ⟨w1, rfl, e1⟩ := vals1 rz
  obtain ⟨t0, rfl⟩ : ∃ t, w1 = Value.int z t := e1
  obtain ⟨its, rv, hl, hz⟩ := I.list hs
  have hi := rv.ints
  obtain ⟨xs, e⟩ := hi.allInts.items
  have hn : numsOf (intItems xs).toList = ns := by rw [← e]; exact hi.numsOf
  rw [nums_intItems] at hn
  subst hn
  have hl' := hl.isList
  rw [e] at hl'
  refine max_dflt (.int z t0) (I.ok.hd hc) hl' (fun hz h' tk hk => ?_) fun hp v h' tk hv hk => ?_
  · refine ⟨.int z, H, I.kept hk, ⟨_, rfl⟩, ?_⟩
    have e0 : (xs.toList.map (·.1)).isEmpty = true := by rw [List.isEmpty_iff, List.map_eq_nil_iff]; exact List.eq_nil_of_length_eq_zero (by simpa using hz)
    rw [if_pos e0] at q
    exact q
  · obtain ⟨t, rfl⟩ := intItems_at hv
    obtain ⟨h1, h2⟩ := argBest_gt (numAt xs) (xs.size - 1)
    have ne : xs.toList.map (·.1) ≠ [] := fun z => by
      have := congrArg List.length z
      simp only [List.length_map, Array.length_toList, List.length_nil] at this
      omega
    obtain ⟨m1, m2⟩ := maxL_mem ne
    have k1 : numAt xs (argBest (fun i j => decide (numAt xs i > numAt xs j)) (xs.size - 1)) ∈ xs.toList.map (·.1) := by
      have hb : argBest (fun i j => decide (numAt xs i > numAt xs j)) (xs.size - 1) < (xs.toList.map (·.1)).length := by
        rw [List.length_map, Array.length_toList]
        exact Nat.lt_of_le_of_lt h1 (by omega)
      rw [numAt_eq]
      exact PySem.getD_mem hb
    have k2 := m2 _ k1
    obtain ⟨j, hj, ej⟩ := mem_getD m1
    rw [List.length_map, Array.length_toList] at hj
    have k3 := h2 j (Nat.le_sub_one_of_lt hj)
    rw [numAt_eq, ej] at k3
    rw [if_neg (by rw [List.isEmpty_iff]; exact ne)] at q
    have ee : maxL (xs.toList.map (·.1)) = numAt xs (argBest (fun i j => decide (numAt xs i > numAt xs j)) (xs.size - 1)) := Int.le_antisymm k3 k2
    rw [ee] at q
    exact ⟨.int _, H, I.kept hk, ⟨_, rfl⟩, q⟩
def mMaxD (z : Int) : List D → Option D
  | [.lst ds] => (intsOf ds).map fun l => .int (if l.isEmpty = true then z else maxL l)
  | _ => none
theorem fe_maxD {z : Int} {nm : Option Str} {cp kp : Pos} {j : Nat} (hg : Gl X "max") (hm : X.mg "max" = none) (ha : FA X .rd (e :: es) fa) (hc : X.calm = true := by rfl)
    (he : backTo pos (starEach (e :: es) X.env) = (false, eval e X.env) :: backTo pos (starEach es X.env) := by rfl) (hpl : (backTo pos (starEach (e :: es) X.env)).any (·.1) = false := by rfl)
    (hall : (backToKw pos (keywordEach [⟨nm, .Constant (.int z) j cp, kp⟩] X.env)).all (·.1.isSome) = true := by rfl) (hnone : (backToKw pos (keywordEach [⟨nm, .Constant (.int z) j cp, kp⟩] X.env)).any (·.1.isNone) = false := by rfl) (hks : (backToKw pos (keywordEach [⟨nm, .Constant (.int z) j cp, kp⟩] X.env)).filterMap (·.1) = [Str.ofString "default"] := by rfl) :
    FE X kd (.Call (.Name "max" p) (e :: es) [⟨nm, .Constant (.int z) j cp, kp⟩] pos) (eCB (mMaxD z) fa) :=
  PE.weak (pe_callBK (cr_maxD z hc) hg hm (by decide +kernel) ha (pk_cons pe_int pk_nil) (by decide) (by decide) he hpl hall hnone hks) fun σ H Q h => by
    obtain ⟨F, fps, st, d, rr, ed, q⟩ := h
    unfold eCB at ed
    cases ef : fa st with
    | none => rw [ef] at ed; cases ed
    | some ds =>
      rw [ef] at ed
      refine ⟨F, fps, st, ds, rr, ef, fun vs H1 s1 w => ?_⟩
      replace ed : mMaxD z ds = some d := ed
      unfold mMaxD at ed
      split at ed
      · rename_i xs'
        cases ei : intsOf xs' with
        | none => rw [ei] at ed; cases ed
        | some l =>
          rw [ei] at ed
          cases ed
          have w : RepL X.K H1 [.lst xs'] vs := w
          obtain ⟨v, ev, a, ys, e1, e2, e3⟩ := w.one_inv
          obtain ⟨q1, q2⟩ := intsOf_rep e3 ei
          exact ⟨a, l, by rw [ev, e1], rfl, .inl (.inl (by rw [← q1]; exact e2)), q _ H1 s1 (VR.sc rfl rfl)⟩
      · cases ed
end
theorem fn_none {P : Program} {w : World} {K : PySem.W.Frag} {mg : Str → Option Value} {base : Heap} {j n kr : Nat} {f : Addr} {fd : FuncData} {ps : List Str} (hn : n = ps.length) : FnOk P w K mg base CX0 j f fd ps (spF K n kr fun _ => none) :=
  ⟨fun vs H Q E h => h.1.trans hn, fun A outer s H args us vs Q E _ _ _ _ h => by obtain ⟨_, ds, d, _, e, _⟩ := h; cases e⟩
end FL

namespace FL
open PySem PySem.Spec PyProof.Rows L2

section
variable {X : Cx} {k kr j : Nat} {K : PySem.W.Frag} {e a b c tg : Expr} {f g h : EM} {pos p p2 : Pos}
/-! ### x[i].clear() -/
def sClrN (i : Nat) (g : EM) : SM := fun st => match slD st[i]? with
  | some (k', .lst ds) => if k' = 2 then (g st).bind fun x => match x with
    | .int n => (L2.ixN ds.length n).bind fun j => match ds[j]? with
      | some (.lst _) => some (.nx (setD st i (.lst (ds.set j (.lst [])))))
      | _ => none
    | _ => none
    else none
  | _ => none
theorem tF_clrN {i : Nat} {Dn : Ends} {σ : L2.St} {H : Hp} (hh : tFS K kr (sClrN i g) Dn σ H) : tDrop (tBM0 K "list" rClear (tOp (rIx K) (tVar i) (tF K .rd g))) Dn σ H := by
  obtain ⟨F, st, o, ⟨fps, r⟩, e, c⟩ := hh
  unfold sClrN at e
  split at e
  · rename_i k' ds hs
    split at e
    · rename_i hk
      subst hk
      cases eg : g st with
      | none => rw [eg] at e; cases e
      | some x =>
        rw [eg] at e
        replace e : (match (generalizing := false) x with
          | .int n => (L2.ixN ds.length n).bind fun j => match ds[j]? with
            | some (.lst _) => some (Out.nx (setD st i (.lst (ds.set j (.lst [])))))
            | _ => none
          | _ => none) = some o := e
        split at e
        · rename_i n
          cases ej : L2.ixN ds.length n with
          | none => rw [ej] at e; cases e
          | some j =>
            rw [ej] at e
            replace e : (match ds[j]? with
              | some (.lst _) => some (Out.nx (setD st i (.lst (ds.set j (.lst [])))))
              | _ => none) = some o := e
            split at e
            · rename_i es hes
              cases e
              obtain ⟨v0, ev, L, xs, fpa, eL, hL, efp, oL⟩ := r.sl hs
              subst eL
              refine ⟨.ref L, ev, F, fps, st, .int n, r, eg, fun u H2 s2 w2 => ?_⟩
              obtain ⟨vj, A, B, C, g1, g2, g3, put⟩ := oL.split hes
              obtain ⟨M, ys, fpb, eM, hM, efB, oM⟩ := g3
              subst eM
              refine .inl ⟨L, xs, n, .ref M, rfl, w2, .inl (.inl (s2 _ _ hL)), atI_ixN (by rw [oL.len]; exact ej) g1, ?_⟩
              refine ⟨.inl ⟨rfl, ys, .inl (.inl (s2 _ _ hM))⟩, M, ys, rfl, rfl, s2 _ _ hM, ?_⟩
              subst efB
              have hm : M ∈ fps i := by rw [efp, g2]; exact List.mem_cons_of_mem _ (List.mem_append_right _ List.mem_cons_self)
              have nd0 := r.nd i
              rw [efp, g2] at nd0
              obtain ⟨ndL, ndR⟩ := List.nodup_cons.mp nd0
              have inF : ∀ a, a ∈ L :: (A ++ ([M] ++ C)) → a ∈ fps i := fun a m => by
                rw [efp, g2]
                simp only [List.mem_cons, List.mem_append, List.not_mem_nil, or_false] at m ⊢
                rcases m with m | m | m | m
                · exact .inl m
                · exact .inr (.inl m)
                · exact .inr (.inr (.inl (.inl m)))
                · exact .inr (.inr (.inr m))
              obtain ⟨ndA, ndMC, disA⟩ := List.nodup_append.mp ndR
              obtain ⟨ndM, ndC, disM⟩ := List.nodup_append.mp ndMC
              have nd1 : (L :: (A ++ ([M] ++ C))).Nodup := by
                refine List.nodup_cons.mpr ⟨fun m => ndL ?_, List.nodup_append.mpr ⟨ndA, List.nodup_append.mpr ⟨by simp, ndC, fun a m b m2 => ?_⟩, fun a m b m2 => ?_⟩⟩
                · simp only [List.mem_cons, List.mem_append, List.not_mem_nil, or_false] at m ⊢
                  rcases m with m | m | m
                  · exact .inl m
                  · exact .inr (.inl (.inl m))
                  · exact .inr (.inr m)
                · rw [List.mem_singleton.mp m]
                  exact disM M List.mem_cons_self b m2
                · refine disA a m b ?_
                  simp only [List.mem_cons, List.mem_append, List.not_mem_nil, or_false] at m2 ⊢
                  rcases m2 with m2 | m2
                  · exact .inl (.inl m2)
                  · exact .inr m2
              refine c σ _ ⟨_, r.bump (i := i) (A := M) (o := .lst []) (fp' := L :: (A ++ ([M] ++ C))) s2 hm True.intro nd1 (fun a m => .inl (inF a m)) setD_length (fun j hj => setD_ne hj) fun sl es' gen => ?_⟩
              refine slD_put hs (fun s es => r.ok i s es) ev es' ?_
              have nin : ∀ a o', H a = some o' → ¬ own fps a → ¬ own (setF fps i (L :: (A ++ ([M] ++ C)))) a := fun a o' e h z => by
                rcases own_setF z with m | z
                · exact h ⟨i, inF a m⟩
                · exact h z
              have keepA : ∀ a, a ∈ fps i → a ≠ M → upd H2 M (.lst []) a = H a := fun a m aM => by
                rw [upd_ne aM]
                obtain ⟨_, q, _⟩ := r.isLst ⟨i, m⟩
                rw [q]; exact s2 _ _ q
              have hset : xs.set j (V.ref M) = xs := by
                apply List.ext_getElem?
                intro q
                by_cases hq : q = j
                · subst hq
                  rw [List.getElem?_set_self (List.getElem?_eq_some_iff.mp g1).1, g1]
                · rw [List.getElem?_set_ne (Ne.symm hq)]
              have LM : L ≠ M := fun z => ndL (by rw [z]; simp)
              refine ⟨L, xs, A ++ ([M] ++ C), rfl, by rw [keepA L (inF L (by simp)) LM]; exact hL, rfl, ?_⟩
              rw [← hset]
              refine put _ _ _ (.ref M) [M] (fun a m => keepA a (inF a (m.elim (fun m => by simp [m]) fun m => by simp [m])) fun z => ?_) (gen _ nin) ⟨M, [], [], rfl, upd_same, rfl, rfl, rfl⟩
              subst z
              rcases m with m | m
              · exact disA a m a (by simp) rfl
              · exact disM a (by simp) a m rfl
            · cases e
        · cases e
    · cases e
  · cases e
theorem fs_clrN {i kr : Nat} {ec : Expr} (hp : PE X ec (tBM0 X.K "list" rClear (tOp (rIx X.K) (tVar i) (tF X.K .rd g)))) (hsw : swapsWith ec none pos.line X.env = pure false := by rfl) :
    FS X kr (.Expr ec pos) (sClrN i g) := PS.weak (ps_expr hp hsw) fun _ _ _ => tF_clrN
/-! ### x.clear() -/
def sClr (i : Nat) : SM := fun st => match slD st[i]? with
  | some (_ + 1, .lst _) => some (.nx (setD st i (.lst [])))
  | _ => none
theorem tF_clr {i : Nat} {Dn : Ends} {σ : L2.St} {H : Hp} (hh : tFS K kr (sClr i) Dn σ H) : tDrop (tBM0 K "list" rClear (tVar i)) Dn σ H := by
  obtain ⟨F, st, o, ⟨fps, r⟩, e, c⟩ := hh
  unfold sClr at e
  split at e
  · rename_i k' ds hs
    cases e
    obtain ⟨v0, ev, L, xs, fpa, eL, hL, efp, oL⟩ := r.sl hs
    subst eL
    refine ⟨.ref L, ev, .inl ⟨rfl, xs, .inl (.inl hL)⟩, L, xs, rfl, rfl, hL, ?_⟩
    have hm : L ∈ fps i := by rw [efp]; exact List.mem_cons_self
    have inF : ∀ a, a ∈ [L] → a ∈ fps i := fun a m => by rw [List.mem_singleton.mp m]; exact hm
    refine c σ _ ⟨_, r.bump (i := i) (A := L) (o := .lst []) (fp' := [L]) (Same.refl _) hm True.intro (by simp) (fun a m => .inl (inF a m)) setD_length (fun j hj => setD_ne hj) fun sl es' gen => ?_⟩
    refine slD_put hs (fun s es => r.ok i s es) ev es' ?_
    exact ⟨L, [], [], rfl, upd_same, rfl, rfl, rfl⟩
  · cases e
theorem fs_clr {i kr : Nat} {ec : Expr} (hp : PE X ec (tBM0 X.K "list" rClear (tVar i))) (hsw : swapsWith ec none pos.line X.env = pure false := by rfl) :
    FS X kr (.Expr ec pos) (sClr i) := PS.weak (ps_expr hp hsw) fun _ _ _ => tF_clr
end
end FL

namespace FL
open PySem PySem.Spec PyProof.Rows L2

section
variable {X : Cx} {k kr j : Nat} {K : PySem.W.Frag} {e a b c tg : Expr} {es : List Expr} {f g h : EM} {fa : AM} {pos p p2 : Pos}
/-- what a slot holds is carried on as a temporary -/
theorem StR.give2 {F : Fr} {fps : Fps} {σ : L2.St} {H : Hp} {st : Sl} {i : Nat} {d : D} (r : StR K F fps σ H st) (e : st[i]? = some (.va k d)) :
    ∃ (m : Nat) (fps' : Fps) (v : V), st.length ≤ m ∧ StR K F fps' σ H (st.set i .un) ∧ σ[i]? = some (some v) ∧ Own K H (hideP H (own fps')) d k v (fps' m) ∧ fps m = [] ∧ (∀ j, j ≠ m → j ≠ i → fps' j = fps j) ∧ ∀ a, own fps' a → own fps a := by
  obtain ⟨m0, hm0⟩ := r.fin
  obtain ⟨v, ev, ow⟩ := r.va e
  have hi : i < st.length := (List.getElem?_eq_some_iff.mp e).1
  have hmi : i ≠ max m0 st.length := by have := Nat.le_max_right m0 st.length; omega
  let fps' : Fps := fun j => if j = max m0 st.length then fps i else if j = i then [] else fps j
  have fm : fps' (max m0 st.length) = fps i := if_pos rfl
  have fi : fps' i = [] := by show (if i = _ then _ else if i = i then _ else _) = _; rw [if_neg hmi, if_pos rfl]
  have fo : ∀ j, j ≠ max m0 st.length → j ≠ i → fps' j = fps j := fun j h1 h2 => by show (if j = _ then _ else if j = i then _ else _) = _; rw [if_neg h1, if_neg h2]
  have back : ∀ a, own fps' a → own fps a := fun a ⟨j, m⟩ => by
    by_cases h1 : j = max m0 st.length
    · rw [h1, fm] at m; exact ⟨i, m⟩
    · by_cases h2 : j = i
      · rw [h2, fi] at m; cases m
      · rw [fo j h1 h2] at m; exact ⟨j, m⟩
  have hide : Same (hideP H (own fps)) (hideP H (own fps')) := hideP_mono (Same.refl _) fun a _ _ h z => h (back a z)
  refine ⟨max m0 st.length, fps', v, Nat.le_max_right _ _, ⟨r.fr.trans hide, fun j => ?_, fun j j' a m1 m2 => ?_, by rw [List.length_set]; exact r.len, fun j sl es => ?_, fun j a h m => ?_, max m0 st.length + 1, fun j h => ?_⟩, ev, ?_, hm0 _ (Nat.le_max_left _ _), fo, back⟩
  · by_cases h1 : j = max m0 st.length
    · rw [h1, fm]; exact r.nd i
    · by_cases h2 : j = i
      · rw [h2, fi]; exact List.nodup_nil
      · rw [fo j h1 h2]; exact r.nd j
  · have from' : ∀ j, a ∈ fps' j → (j = max m0 st.length ∧ a ∈ fps i) ∨ (j ≠ max m0 st.length ∧ j ≠ i ∧ a ∈ fps j) := fun j m => by
      by_cases h1 : j = max m0 st.length
      · rw [h1, fm] at m; exact .inl ⟨h1, m⟩
      · by_cases h2 : j = i
        · rw [h2, fi] at m; cases m
        · rw [fo j h1 h2] at m; exact .inr ⟨h1, h2, m⟩
    rcases from' j m1 with ⟨a1, a2⟩ | ⟨a1, a2, a3⟩
    · rcases from' j' m2 with ⟨b1, b2⟩ | ⟨b1, b2, b3⟩
      · rw [a1, b1]
      · exact (b2 (r.dj j' i a b3 a2)).elim
    · rcases from' j' m2 with ⟨b1, b2⟩ | ⟨b1, b2, b3⟩
      · exact (a2 (r.dj j i a a3 b2)).elim
      · exact r.dj j j' a a3 b3
  · by_cases h2 : j = i
    · subst h2
      rw [List.getElem?_set_self hi] at es
      cases es
      exact fi
    · rw [List.getElem?_set_ne (Ne.symm h2)] at es
      have h1 : j ≠ max m0 st.length := by
        have := (List.getElem?_eq_some_iff.mp es).1
        have := Nat.le_max_right m0 st.length
        omega
      rw [fo j h1 h2]
      exact (r.ok j sl es).mono hide fun a m => rfl
  · rw [List.length_set] at h
    by_cases h1 : j = max m0 st.length
    · rw [h1, fm] at m
      exact r.isLst ⟨i, m⟩
    · rw [fo j h1 (by omega)] at m
      exact r.tmp j a h m
  · rw [fo j (by omega) (by have := Nat.le_max_right m0 st.length; omega)]
    exact hm0 j (by have := Nat.le_max_left m0 st.length; omega)
  · rw [fm]
    exact Own.mono hide d k v _ (fun _ _ => rfl) ow
theorem StR.give {F : Fr} {fps : Fps} {σ : L2.St} {H : Hp} {st : Sl} {i : Nat} {d : D} (r : StR K F fps σ H st) (e : st[i]? = some (.va k d)) :
    ∃ (m : Nat) (fps' : Fps) (v : V), st.length ≤ m ∧ StR K F fps' σ H (st.set i .un) ∧ σ[i]? = some (some v) ∧ Own K H (hideP H (own fps')) d k v (fps' m) := by
  obtain ⟨m, fps', v, h1, h2, h3, h4, -⟩ := r.give2 e
  exact ⟨m, fps', v, h1, h2, h3, h4⟩
/-- (x, e, ..), x's lists handed over, e .. without lists -/
def xTupV (i k : Nat) (fa : AM) : XM := fun st => match st[i]? with
  | some (.va k' d) => if k' = k then (fa (st.set i .un)).bind fun ds => if (fullL ds 0 && lenOk (ds.length + 1)) = true then some (.tup (d :: ds), st.set i .un) else none
    else none
  | _ => none
theorem fx_tupV {i : Nat} {x1} (hx : PE X a (tVar i)) (ha : FA X .rd es fa) (hs : starEach (a :: es) X.env = (false, eval a X.env) :: starEach es X.env := by rfl) : FX X (.ow k) (.Tuple (a :: es) x1 pos) (xTupV i k fa) := PE.weak (pe_tup (pa_cons hx ha hs)) fun σ H Q ⟨F, fps, st, d, st', r, ed, q⟩ => by
  unfold xTupV at ed
  split at ed
  · rename_i k' d0 hs
    split at ed
    · rename_i hk
      subst hk
      obtain ⟨m, fps', v, hm, r', ev, ow⟩ := r.give hs
      cases e1 : fa (st.set i .un) with
      | none => rw [e1] at ed; cases ed
      | some ds =>
        rw [e1] at ed
        have ed : (if (fullL ds 0 && lenOk (ds.length + 1)) = true then some (D.tup (d0 :: ds), st.set i .un) else none) = some (d, st') := ed
        split at ed
        · rename_i hf
          cases ed
          have hf := Bool.and_eq_true_iff.mp hf
          refine ⟨v, ev, F, fps', st.set i .un, ds, r', e1, fun vs H1 s1 w => ?_⟩
          have w : RepL X.K H1 ds vs := w
          refine ⟨by rw [List.length_cons, w.length]; exact lenOk_le hf.2, fun p np => ?_⟩
          have s2 : Same H (upd H1 p (.tup (v :: vs))) := s1.trans (same_upd np)
          have r2 := r'.mono s2
          have r1 := r'.mono s1
          have hp : ∀ a, own fps' a → a ≠ p := fun a z e => by subst e; exact r1.there z np
          refine q _ _ fps' r2 ⟨m, by rw [List.length_set]; exact hm, p, v :: vs, rfl, .inl (.inl (hideP_some.mpr ⟨fun z => hp p z rfl, upd_same⟩)), v, vs, fps' m, [], rfl, by rw [List.append_nil], ?_, ?_⟩
          · refine Own.mono (hideP_mono s2 fun _ _ _ h => h) d0 _ v _ (fun a ma => ?_) ow
            obtain ⟨_, e, _⟩ := r'.isLst ⟨m, ma⟩
            rw [e]; exact s2 _ _ e
          · exact OwnL.flat _ ds vs hf.1 (RepL.flat (hideP_keeps fun b hb => r2.isLst hb) ds vs hf.1 (RepL.mono (same_upd np) ds vs w))
        · cases ed
    · cases ed
  · cases ed
/-! ### xs.pop() of what is no list -/
def xPop (i : Nat) : XM := fun st => match slD st[i]? with
  | some (_ + 1, .lst ds) => match ds[ds.length - 1]? with
    | some d => if sc d = true then some (d, setD st i (.lst ds.dropLast)) else none
    | none => none
  | _ => none
theorem sc_full {d : D} (h : sc d = true) : ∀ k, full d k = true := fun k => by cases d <;> first | rfl | cases h
theorem sc_own {H G : Hp} {d : D} {k : Nat} {v : V} {fp : List Addr} (h : sc d = true) (o : Own K H G d k v fp) : fp = [] ∧ v = scV d := by
  cases d <;> first | exact o | cases h
theorem OwnL.pop {k : Nat} {H G : Hp} : ∀ {ds : List D} {xs : List V} {fp : List Addr} {d : D}, OwnL K H G ds k xs fp → ds[ds.length - 1]? = some d → sc d = true → xs[xs.length - 1]? = some (scV d) ∧ OwnL K H G ds.dropLast k xs.dropLast fp
  | [], _, _, _, _, e, _ => by simp at e
  | [d0], _, _, d, ⟨v, r, fp1, fp2, ev, ef, h1, h2⟩, e, hd => by
    have e : some d0 = some d := e
    cases e
    obtain ⟨rfl, rfl⟩ := h2
    obtain ⟨rfl, rfl⟩ := sc_own hd h1
    subst ev ef
    exact ⟨rfl, rfl, rfl⟩
  | d0 :: d1 :: ds, _, _, d, ⟨v, r, fp1, fp2, ev, ef, h1, h2⟩, e, hd => by
    subst ev ef
    have e2 : (d1 :: ds)[(d1 :: ds).length - 1]? = some d := e
    obtain ⟨g1, g2⟩ := OwnL.pop h2 e2 hd
    have hr : r ≠ [] := fun z => by rw [z] at g1; cases g1
    obtain ⟨u, r', rfl⟩ := List.exists_cons_of_ne_nil hr
    refine ⟨g1, ?_⟩
    show OwnL K H G (d0 :: (d1 :: ds).dropLast) k (v :: (u :: r').dropLast) (fp1 ++ fp2)
    exact ⟨v, _, fp1, fp2, rfl, rfl, h1, g2⟩
theorem fx_pop {i : Nat} {ec : Expr} (hp : PE X ec (tBM0 X.K "list" rPop (tVar i))) : FX X (.ow k) ec (xPop i) := PE.weak hp fun σ H Q ⟨F, fps, st, d, st', r, ed, q⟩ => by
  unfold xPop at ed
  split at ed
  · rename_i k' ds hs
    split at ed
    · rename_i d0 hd
      split at ed
      · rename_i hsc
        cases ed
        obtain ⟨v0, ev, L, xs, fpa, eL, hL, efp, oL⟩ := r.sl hs
        subst eL
        obtain ⟨g1, g2⟩ := oL.pop hd hsc
        refine ⟨.ref L, ev, .inl ⟨rfl, xs, .inl (.inl hL)⟩, L, xs, scV d, rfl, rfl, hL, g1, ?_⟩
        have hm : L ∈ fps i := by rw [efp]; exact List.mem_cons_self
        have nd0 := r.nd i
        rw [efp] at nd0
        have nL := (List.nodup_cons.mp nd0).1
        have inF : ∀ a, a ∈ L :: fpa → a ∈ fps i := fun a m => by rw [efp]; exact m
        have rb := r.bump (i := i) (A := L) (o := .lst xs.dropLast) (fp' := L :: fpa) (st' := setD st i (.lst ds.dropLast)) (Same.refl _) hm True.intro nd0 (fun a m => .inl (inF a m)) setD_length (fun j hj => setD_ne hj) fun sl es' gen => (by
          refine slD_put hs (fun s es => r.ok i s es) ev es' ?_
          have nin : ∀ a o', H a = some o' → ¬ own fps a → ¬ own (setF fps i (L :: fpa)) a := fun a o' e h z => by
            rcases own_setF z with m | z
            · exact h ⟨i, inF a m⟩
            · exact h z
          refine ⟨L, xs.dropLast, fpa, rfl, upd_same, rfl, ?_⟩
          exact OwnL.mono (gen _ nin) ds.dropLast k' xs.dropLast fpa (fun a m => upd_ne fun z => nL (z ▸ m)) g2)
        refine q (scV d) _ _ rb ?_
        obtain ⟨m0, hm0⟩ := rb.fin
        refine ⟨max m0 (setD st i (.lst ds.dropLast)).length, Nat.le_max_right _ _, ?_⟩
        rw [hm0 _ (Nat.le_max_left _ _)]
        cases d <;> first | exact ⟨rfl, rfl⟩ | cases hsc
      · cases ed
    · cases ed
  · cases ed
end
end FL

namespace FL
open PySem PySem.Spec PyProof.Rows L2

/-! ### instances that stay as they are once they are made -/
/-- where a name stands -/
def posS (f : Str) : List Str → Option Nat
  | [] => none
  | x :: r => if x = f then some 0 else (posS f r).map (· + 1)
theorem posS_get {f : Str} : ∀ {l : List Str} {i : Nat}, posS f l = some i → l[i]? = some f
  | [], _, e => by cases e
  | x :: r, i, e => by
    unfold posS at e
    split at e
    · rename_i h; cases e; rw [h]; rfl
    · cases q : posS f r with
      | none => rw [q] at e; cases e
      | some j =>
        rw [q] at e; cases e
        simpa using posS_get q
theorem posS_look {α : Type} {f : Str} : ∀ {l : List Str} {i : Nat} {xs : List α}, posS f l = some i → (l.zip xs).lookup f = xs[i]?
  | [], _, _, e => by cases e
  | x :: r, i, [], e => by simp
  | x :: r, i, v :: xs, e => by
    unfold posS at e
    rw [List.zip_cons_cons]
    split at e
    · rename_i h; cases e; subst h
      simp [List.lookup]
    · rename_i h
      cases q : posS f r with
      | none => rw [q] at e; cases e
      | some j =>
        rw [q] at e; cases e
        have hb : (f == x) = false := beq_eq_false_iff_ne.mpr (fun z => h z.symm)
        simp only [List.lookup, hb]
        simpa using posS_look (xs := xs) q
theorem posS_no {α : Type} {f : Str} : ∀ {l : List Str} {xs : List α}, posS f l = none → (l.zip xs).lookup f = none
  | [], _, _ => by simp
  | x :: r, [], _ => by simp
  | x :: r, v :: xs, e => by
    unfold posS at e
    rw [List.zip_cons_cons]
    split at e
    · cases e
    · rename_i h
      have hb : (f == x) = false := beq_eq_false_iff_ne.mpr (fun z => h z.symm)
      simp only [List.lookup, hb]
      exact posS_no (xs := xs) (by cases q : posS f r with
        | none => rfl
        | some j => rw [q] at e; cases e)
theorem putF_new {f : Str} {v : V} : ∀ {l : List Str} {xs : List V}, posS f l = none → L2.putF f v (l.zip xs) = l.zip xs ++ [(f, v)]
  | [], _, _ => by simp [L2.putF]
  | x :: r, [], _ => by simp [L2.putF]
  | x :: r, w :: xs, e => by
    unfold posS at e
    rw [List.zip_cons_cons]
    split at e
    · cases e
    · rename_i h
      show (if x = f then (x, v) :: r.zip xs else (x, w) :: L2.putF f v (r.zip xs)) = _
      rw [if_neg h, putF_new (by cases q : posS f r with
        | none => rfl
        | some j => rw [q] at e; cases e)]
      rfl

/-- a class by its name: how it is read, and that no class of it has its fields -/
structure ClsT (K : PySem.W.Frag) (C : Str) (nm : List Str) : Prop where
  ok : ∀ Ca, PySem.W.nsIn K mainGlobals C = some (some (.ref Ca)) → Cls K Ca ∧ ∀ f ∈ nm, NoAttr K Ca f
theorem clsT_of {K : PySem.W.Frag} {C : Str} {nm : List Str} {Ca : Addr} (h : PySem.W.nsIn K mainGlobals C = some (some (.ref Ca))) (c : Cls K Ca) (n : ∀ f ∈ nm, NoAttr K Ca f) : ClsT K C nm :=
  ⟨fun Cb e => by rw [h] at e; cases e; exact ⟨c, n⟩⟩
def AllC (K : PySem.W.Frag) : List Str → List (List Str) → Prop
  | c :: cs, n :: ns => ClsT K c n ∧ AllC K cs ns
  | _, _ => True
theorem AllC.get {K : PySem.W.Frag} : ∀ {cs : List Str} {ns : List (List Str)} {j : Nat} {C : Str} {nm : List Str}, AllC K cs ns → cs[j]? = some C → ns[j]? = some nm → ClsT K C nm
  | [], _, _, _, _, _, e, _ => by simp at e
  | _ :: _, [], _, _, _, _, _, e => by simp at e
  | c :: cs, n :: ns, 0, _, _, h, e1, e2 => by simp at e1 e2; subst e1 e2; exact h.1
  | c :: cs, n :: ns, j + 1, _, _, h, e1, e2 => AllC.get (j := j) h.2 (by simpa using e1) (by simpa using e2)

/-- a field -/
def fldD (cs : List Str) (ns : List (List Str)) (f : Str) : D → Option D
  | .ob C nm ds => (posS C cs).bind fun j => if ns[j]? = some nm then (posS f nm).bind fun i => ds[i]? else none
  | .mob C nm _ ds => (posS C cs).bind fun j => if ns[j]? = some nm then (posS f nm).bind fun i => ds[i]? else none
  | _ => none
theorem fldD_ofM {cs : List Str} {ns : List (List Str)} {f C : Str} {nm : List Str} {ls : List Nat} {ds : List D} {i j : Nat} (h1 : posS C cs = some j) (h2 : ns[j]? = some nm) (h3 : posS f nm = some i) : fldD cs ns f (.mob C nm ls ds) = ds[i]? := by
  show (posS C cs).bind (fun j => if ns[j]? = some nm then (posS f nm).bind fun i => ds[i]? else none) = ds[i]?
  rw [h1]
  show (if ns[j]? = some nm then _ else _) = _
  rw [if_pos h2, h3]
  rfl
theorem fldD_of {cs : List Str} {ns : List (List Str)} {f C : Str} {nm : List Str} {ds : List D} {i j : Nat} (h1 : posS C cs = some j) (h2 : ns[j]? = some nm) (h3 : posS f nm = some i) : fldD cs ns f (.ob C nm ds) = ds[i]? := by
  show (posS C cs).bind (fun j => if ns[j]? = some nm then (posS f nm).bind fun i => ds[i]? else none) = ds[i]?
  rw [h1]
  show (if ns[j]? = some nm then _ else _) = _
  rw [if_pos h2, h3]
  rfl
section
variable {X : Cx} {k kr n j : Nat} {K : PySem.W.Frag} {e a b c tg o : Expr} {es : List Expr} {f g h : EM} {fa : AM} {pos p p2 apos : Pos} {kd : Kd}
theorem fe_fld {cs : List Str} {ns : List (List Str)} {x : Str} (ha : FE X .rd o f) (hc : AllC X.K cs ns) (hb : attributeBase o x X.env (eval o X.env) = eval o X.env := by rfl) :
    FE X .rd (.Attribute o x pos) (eB (fldD cs ns x) f) := PE.weak (pe_fld ha hb) fun σ H Q ⟨F, fps, st, d, r, ed, q⟩ => by
  unfold eB at ed
  cases e1 : f st with
  | none => rw [e1] at ed; cases ed
  | some d0 =>
    rw [e1] at ed
    refine ⟨F, fps, st, d0, r, e1, fun v H1 s1 w => ?_⟩
    cases d0 with
    | ob C nm ds =>
      change (posS C cs).bind (fun j => if ns[j]? = some nm then (posS x nm).bind fun i => ds[i]? else none) = some d at ed
      cases e2 : posS C cs with
      | none => rw [e2] at ed; cases ed
      | some jj =>
        rw [e2] at ed
        change (if ns[jj]? = some nm then (posS x nm).bind fun i => ds[i]? else none) = some d at ed
        split at ed
        · rename_i hn
          cases e3 : posS x nm with
          | none => rw [e3] at ed; cases ed
          | some i =>
            rw [e3] at ed
            obtain ⟨Ca, a, dx, xs, ec, ev, eh, rr⟩ := w
            have CT := (hc.get (posS_get e2) hn).ok Ca ec
            obtain ⟨u, h1, h2⟩ := rr.get (i := i) (d := d) ed
            refine ⟨a, Ca, dx, _, u, ev, eh, CT.1, CT.2 x ?_, ?_, q u H1 s1 h2⟩
            · exact List.mem_of_getElem? (posS_get e3)
            · rw [posS_look e3, h1]
        · cases ed
    | mob C nm ls ds =>
      change (posS C cs).bind (fun j => if ns[j]? = some nm then (posS x nm).bind fun i => ds[i]? else none) = some d at ed
      cases e2 : posS C cs with
      | none => rw [e2] at ed; cases ed
      | some jj =>
        rw [e2] at ed
        change (if ns[jj]? = some nm then (posS x nm).bind fun i => ds[i]? else none) = some d at ed
        split at ed
        · rename_i hn
          cases e3 : posS x nm with
          | none => rw [e3] at ed; cases ed
          | some i =>
            rw [e3] at ed
            obtain ⟨Ca, a, dx, xs, ec, ev, eh, rr⟩ := w
            have CT := (hc.get (posS_get e2) hn).ok Ca ec.1
            obtain ⟨u, h1, h2⟩ := rr.get (i := i) (d := d) ed
            refine ⟨a, Ca, dx, _, u, ev, eh, CT.1, CT.2 x ?_, ?_, q u H1 s1 h2⟩
            · exact List.mem_of_getElem? (posS_get e3)
            · rw [posS_look e3, h1]
        · cases ed
    | _ => cases ed

/-! ### methods -/
/-- the methods of a name, class by class -/
def meD (cs : List Str) (ms : List (List D → Option D)) (m : Str) : D → List D → Option D
  | .ob C nm ds, as => (posS C cs).bind fun j => if posS m nm = none then (ms[j]?).bind fun g => g (.ob C nm ds :: as) else none
  | .mob C nm ls ds, as => (posS C cs).bind fun j => if posS m nm = none then (ms[j]?).bind fun g => g (.mob C nm ls ds :: as) else none
  | _, _ => none
theorem meD_ofM {cs : List Str} {ms : List (List D → Option D)} {m C : Str} {nm : List Str} {ls : List Nat} {ds as : List D} {j : Nat} {g : List D → Option D} (h1 : posS C cs = some j) (h2 : ms[j]? = some g) (h3 : posS m nm = none) : meD cs ms m (.mob C nm ls ds) as = g (.mob C nm ls ds :: as) := by
  show (posS C cs).bind (fun j => if posS m nm = none then (ms[j]?).bind fun g => g (.mob C nm ls ds :: as) else none) = g (.mob C nm ls ds :: as)
  rw [h1]
  show (if posS m nm = none then _ else _) = _
  rw [if_pos h3, h2]
  rfl
theorem meD_of {cs : List Str} {ms : List (List D → Option D)} {m C : Str} {nm : List Str} {ds as : List D} {j : Nat} {g : List D → Option D} (h1 : posS C cs = some j) (h2 : ms[j]? = some g) (h3 : posS m nm = none) : meD cs ms m (.ob C nm ds) as = g (.ob C nm ds :: as) := by
  show (posS C cs).bind (fun j => if posS m nm = none then (ms[j]?).bind fun g => g (.ob C nm ds :: as) else none) = g (.ob C nm ds :: as)
  rw [h1]
  show (if posS m nm = none then _ else _) = _
  rw [if_pos h3, h2]
  rfl
/-- a method of a class -/
structure MethT (P : Program) (w : World) (K : PySem.W.Frag) (mg : Str → Option Value) (base : Heap) (j n kr : Nat) (m C : Str) (g : List D → Option D) : Prop where
  ok : ∀ Ca, PySem.W.nsIn K mainGlobals C = some (some (.ref Ca)) → ∃ f fd ps, Cls K Ca ∧ Meth K Ca m f ∧ FnOk P w K mg base CX0 j f fd ps (spF K n kr g) ∧ Binds K fd ps []
theorem methT_of {P : Program} {w : World} {K : PySem.W.Frag} {mg : Str → Option Value} {base : Heap} {i j n kr : Nat} {m C : Str} {g : List D → Option D} {Ca f : Addr} {fd : FuncData} {ps : List Str}
    (h : PySem.W.nsIn K mainGlobals C = some (some (.ref Ca))) (c : Cls K Ca) (M : Meth K Ca m f) (F : FnOk P w K mg base CX0 i f fd ps (spF K n kr g)) (hij : i ≤ j) (b : Binds K fd ps []) : MethT P w K mg base j n kr m C g :=
  ⟨fun Cb e => by rw [h] at e; cases e; exact ⟨f, fd, ps, c, M, F.mono hij, b⟩⟩
def AllM (P : Program) (w : World) (K : PySem.W.Frag) (mg : Str → Option Value) (base : Heap) (j n kr : Nat) (m : Str) : List Str → List (List D → Option D) → Prop
  | c :: cs, g :: gs => MethT P w K mg base j n kr m c g ∧ AllM P w K mg base j n kr m cs gs
  | _, _ => True
theorem AllM.get {P : Program} {w : World} {mg : Str → Option Value} {base : Heap} {m : Str} : ∀ {cs : List Str} {ns : List (List D → Option D)} {i : Nat} {C : Str} {g : List D → Option D}, AllM P w K mg base j n kr m cs ns → cs[i]? = some C → ns[i]? = some g → MethT P w K mg base j n kr m C g
  | [], _, _, _, _, _, e, _ => by simp at e
  | _ :: _, [], _, _, _, _, _, e => by simp at e
  | c :: cs, n :: ns, 0, _, _, h, e1, e2 => by simp at e1 e2; subst e1 e2; exact h.1
  | c :: cs, n :: ns, j + 1, _, _, h, e1, e2 => AllM.get (i := j) h.2 (by simpa using e1) (by simpa using e2)

/-- o.m(..), whatever the class -/
def tMethT (X : Cx) (m : Str) (ta : TE) (t : TA) : TE := fun σ H Q => ta σ H fun x H1 => ∃ a C dx fs k f fd ps sp, x = .ref a ∧ H1 a = some (.ins C dx fs) ∧ fs.lookup m = none ∧ Cls X.K C ∧ Meth X.K C m f ∧
  Room k X.A ∧ FnOk X.prog X.w X.K X.mg X.base CX0 k f fd ps sp ∧ Binds X.K fd ps [] ∧ t σ H1 fun vs H2 => sp (x :: vs) H2 Q E0
theorem pe_methT {m : Str} {ta : TE} {t : TA} {pl : Sem Bool} (he : PE X o ta) (ha : PA X (e :: es) t)
    (hst : starEach (e :: es) X.env = (false, eval e X.env) :: starEach es X.env := by rfl) (hpl : (backTo pos (starEach es X.env)).any (·.1) = false := by rfl)
    (ht : eval (.Call (.Attribute o m apos) (e :: es) [] pos) X.env = (do
      let ov ← eval o X.env
      standAt apos.atName
      let (f, first) ← holding [ov] (getMethod ov m pl)
      callWith pos f first (backTo pos (starEach (e :: es) X.env)) (backToKw pos (keywordEach [] X.env))) := by rfl) :
    PE X (.Call (.Attribute o m apos) (e :: es) [] pos) (tMethT X m ta t) := by
  refine ⟨fun pins s σ H Q I h => ?_⟩
  refine PySem.W.methodCall_KW (pl := pl) (thn (he.run pins s σ H _ I h) fun u s1 ⟨x, H1, I1, rx, a, C, dx, fs, k, f, fd, ps, sp, ex, ea, l, c, hm, hr, F, hb, q⟩ => ?_) ht
  subst ex
  obtain rfl : u = Value.ref a := rx
  refine getmeth_ok I1 ea c hm l ?_
  refine PySem.W.callWith_K (first := [.ref a]) (h₀ := X.base) I.ok.mod.kin hm.kp (thn (ha.run pos pins s1 σ H1 _ I1 q) fun us s2 ⟨vs, H2, I2, r, q2⟩ => ⟨I2.kIn, ?_⟩) hst hpl
  exact run_fn (us := .ref a :: us) (vs := .ref a :: vs) (ds := []) (dvs := []) F hr hb .nil pass0 I2 (.cons rfl r) (by simpa using q2)
theorem pe_methT0 {m : Str} {ta : TE} {pl : Sem Bool} (he : PE X o ta)
    (ht : eval (.Call (.Attribute o m apos) [] [] pos) X.env = (do
      let ov ← eval o X.env
      standAt apos.atName
      let (f, first) ← holding [ov] (getMethod ov m pl)
      callWith pos f first (backTo pos (starEach [] X.env)) (backToKw pos (keywordEach [] X.env))) := by rfl) :
    PE X (.Call (.Attribute o m apos) [] [] pos) (tMethT X m ta tNil) := by
  refine ⟨fun pins s σ H Q I h => ?_⟩
  refine PySem.W.methodCall_KW (pl := pl) (thn (he.run pins s σ H _ I h) fun u s1 ⟨x, H1, I1, rx, a, C, dx, fs, k, f, fd, ps, sp, ex, ea, l, c, hm, hr, F, hb, q⟩ => ?_) ht
  subst ex
  obtain rfl : u = Value.ref a := rx
  refine getmeth_ok I1 ea c hm l ?_
  exact PySem.W.callWith_K0 (first := [.ref a]) I1.kIn hm.kp (run_fn (us := [.ref a]) (vs := [.ref a]) (ds := []) (dvs := []) F hr hb .nil pass0 I1 (.cons rfl .nil) (show sp (V.ref a :: ([] ++ [])) H1 Q E0 from q))

def eMeth (m : D → List D → Option D) (f : EM) (fa : AM) : EM := fun st => (f st).bind fun d => (fa st).bind fun as => m d as
def eMethO (k : Nat) (m : D → List D → Option D) (f : EM) (fa : AM) : EM := fun st => (eMeth m f fa st).bind (chk k)
theorem eMeth_some {m : D → List D → Option D} {st : Sl} {d : D} (h : eMeth m f fa st = some d) : ∃ x as, f st = some x ∧ fa st = some as ∧ m x as = some d := bind2 h
/-- what a call of a method makes of its parts -/
theorem meth_rd {m : Str} {cs : List Str} {ms : List (List D → Option D)} {t : TA} (hM : AllM X.prog X.w X.K X.mg X.base j (n + 1) kr m cs ms) (hr : Room j X.A) (hl : ALen n fa)
    (ht : ∀ σ H Q, tFA X.K .rd fa σ H Q → t σ H Q) {σ : L2.St} {H : Hp} {Q : VK} {F : Fr} {fps : Fps} {st : Sl} {d : D} (r : StR X.K F fps σ H st) (ed : eMeth (meD cs ms m) f fa st = some d)
    (q : ∀ v H', Same H H' → (∃ fp : List Addr, fp.Nodup ∧ (∀ a ∈ fp, H a = none) ∧ Own X.K H' (hideP H' (· ∈ fp)) d kr v fp) → Q v H') :
    tMethT X m (tF X.K .rd f) t σ H Q := by
  obtain ⟨d0, as, e1, e2, e3⟩ := eMeth_some ed
  refine ⟨F, fps, st, d0, r, e1, fun x H1 s1 w => ?_⟩
  cases d0 with
  | ob C nm ds =>
    obtain ⟨Ca, a, dx, xs, ec, ev, eh, rr⟩ := id w
    change (posS C cs).bind (fun j => if posS m nm = none then (ms[j]?).bind fun g => g (.ob C nm ds :: as) else none) = some d at e3
    cases e4 : posS C cs with
    | none => rw [e4] at e3; cases e3
    | some i =>
      rw [e4] at e3
      change (if posS m nm = none then (ms[i]?).bind fun g => g (.ob C nm ds :: as) else none) = some d at e3
      split at e3
      · rename_i hn
        cases e5 : ms[i]? with
        | none => rw [e5] at e3; cases e3
        | some g =>
          rw [e5] at e3
          change g (.ob C nm ds :: as) = some d at e3
          obtain ⟨fn, fd, ps, c, M, G, b⟩ := (hM.get (posS_get e4) e5).ok Ca ec
          refine ⟨a, Ca, dx, _, j, fn, fd, ps, _, ev, eh, posS_no hn, c, M, hr, G, b, ht _ _ _ ⟨F, fps, st, as, r.mono s1, e2, fun vs H2 s2 w2 => ⟨?_, .ob C nm ds :: as, d, ⟨x, vs, rfl, Rep.mono s2 _ _ w, w2⟩, e3, fun v H3 s3 ⟨fp, h1, h2, h3⟩ => ?_⟩⟩⟩
          · rw [List.length_cons, VRL.length w2, hl st as e2]
          · exact q v H3 ((s1.trans s2).trans s3) ⟨fp, h1, fun a m => (s1.trans s2).free (h2 a m), h3⟩
      · cases e3
  | mob C nm ls ds =>
    obtain ⟨Ca, a, dx, xs, ec, ev, eh, rr⟩ := id w
    change (posS C cs).bind (fun j => if posS m nm = none then (ms[j]?).bind fun g => g (.mob C nm ls ds :: as) else none) = some d at e3
    cases e4 : posS C cs with
    | none => rw [e4] at e3; cases e3
    | some i =>
      rw [e4] at e3
      change (if posS m nm = none then (ms[i]?).bind fun g => g (.mob C nm ls ds :: as) else none) = some d at e3
      split at e3
      · rename_i hn
        cases e5 : ms[i]? with
        | none => rw [e5] at e3; cases e3
        | some g =>
          rw [e5] at e3
          change g (.mob C nm ls ds :: as) = some d at e3
          obtain ⟨fn, fd, ps, c, M, G, b⟩ := (hM.get (posS_get e4) e5).ok Ca ec.1
          refine ⟨a, Ca, dx, _, j, fn, fd, ps, _, ev, eh, posS_no hn, c, M, hr, G, b, ht _ _ _ ⟨F, fps, st, as, r.mono s1, e2, fun vs H2 s2 w2 => ⟨?_, .mob C nm ls ds :: as, d, ⟨x, vs, rfl, Rep.mono s2 _ _ w, w2⟩, e3, fun v H3 s3 ⟨fp, h1, h2, h3⟩ => ?_⟩⟩⟩
          · rw [List.length_cons, VRL.length w2, hl st as e2]
          · exact q v H3 ((s1.trans s2).trans s3) ⟨fp, h1, fun a m => (s1.trans s2).free (h2 a m), h3⟩
      · cases e3
  | _ => cases e3
theorem meth_pe {m : Str} {t : TA} {ta : TE} (hp : PE X o (tMethT X m (tF X.K .rd f) t)) (cs : List Str) (ms : List (List D → Option D)) (hM : AllM X.prog X.w X.K X.mg X.base j (n + 1) kr m cs ms) (hr : Room j X.A) (hl : ALen n fa)
    (ht : ∀ σ H Q, tFA X.K .rd fa σ H Q → t σ H Q) : FE X .rd o (eMeth (meD cs ms m) f fa) := PE.weak hp fun σ H Q ⟨F, fps, st, d, r, ed, q⟩ =>
  meth_rd hM hr hl ht r ed fun v H' s ⟨fp, _, _, ow⟩ => q v H' s (Own.rep hideP_same d kr v fp (fun _ _ => rfl) ow)
theorem meth_peO {m : Str} {t : TA} {ta : TE} (hp : PE X o (tMethT X m (tF X.K .rd f) t)) (cs : List Str) (ms : List (List D → Option D)) (hM : AllM X.prog X.w X.K X.mg X.base j (n + 1) kr m cs ms) (hr : Room j X.A) (hl : ALen n fa)
    (ht : ∀ σ H Q, tFA X.K .rd fa σ H Q → t σ H Q) : FE X (.ow kr) o (eMethO kr (meD cs ms m) f fa) := PE.weak hp fun σ H Q ⟨F, fps, st, d, r, ed, q⟩ => by
  obtain ⟨ed, fl⟩ := chk_some ed
  refine meth_rd hM hr hl ht r ed fun v H' s ⟨fp, n', fr, ow⟩ => q v H' s ⟨fp, n', fr, Own.rebase fl (fun a z => ?_) ow⟩
  rcases z with m' | z
  · exact Own.isLst d kr v fp ow a m'
  · exact (r.mono s).isLst z
theorem fe_meth {m : Str} {cs : List Str} {ms : List (List D → Option D)} {pl : Sem Bool} (hM : AllM X.prog X.w X.K X.mg X.base j (n + 1) kr m cs ms) (hr : Room j X.A) (he : FE X .rd o f) (ha : FA X .rd (e :: es) fa) (hl : ALen n fa)
    (hst : starEach (e :: es) X.env = (false, eval e X.env) :: starEach es X.env := by rfl) (hpl : (backTo pos (starEach es X.env)).any (·.1) = false := by rfl)
    (ht : eval (.Call (.Attribute o m apos) (e :: es) [] pos) X.env = (do
      let ov ← eval o X.env
      standAt apos.atName
      let (f, first) ← holding [ov] (getMethod ov m pl)
      callWith pos f first (backTo pos (starEach (e :: es) X.env)) (backToKw pos (keywordEach [] X.env))) := by rfl) :
    FE X .rd (.Call (.Attribute o m apos) (e :: es) [] pos) (eMeth (meD cs ms m) f fa) := meth_pe (ta := tF X.K .rd f) (pe_methT he ha hst hpl ht) cs ms hM hr hl fun _ _ _ h => h
theorem fe_methO {m : Str} {cs : List Str} {ms : List (List D → Option D)} {pl : Sem Bool} (hM : AllM X.prog X.w X.K X.mg X.base j (n + 1) kr m cs ms) (hr : Room j X.A) (he : FE X .rd o f) (ha : FA X .rd (e :: es) fa) (hl : ALen n fa)
    (hst : starEach (e :: es) X.env = (false, eval e X.env) :: starEach es X.env := by rfl) (hpl : (backTo pos (starEach es X.env)).any (·.1) = false := by rfl)
    (ht : eval (.Call (.Attribute o m apos) (e :: es) [] pos) X.env = (do
      let ov ← eval o X.env
      standAt apos.atName
      let (f, first) ← holding [ov] (getMethod ov m pl)
      callWith pos f first (backTo pos (starEach (e :: es) X.env)) (backToKw pos (keywordEach [] X.env))) := by rfl) :
    FE X (.ow kr) (.Call (.Attribute o m apos) (e :: es) [] pos) (eMethO kr (meD cs ms m) f fa) := meth_peO (ta := tF X.K .rd f) (pe_methT he ha hst hpl ht) cs ms hM hr hl fun _ _ _ h => h
theorem tnil_of {σ : L2.St} {H : Hp} {Q : List V → Hp → Prop} (h : tFA X.K .rd aNil σ H Q) : tNil σ H Q := by
  obtain ⟨F, fps, st, ds, r, e1, q⟩ := h
  cases e1
  exact q [] H (Same.refl H) VRL.nil
theorem fe_meth0 {m : Str} {cs : List Str} {ms : List (List D → Option D)} {pl : Sem Bool} (hM : AllM X.prog X.w X.K X.mg X.base j 1 kr m cs ms) (hr : Room j X.A) (he : FE X .rd o f)
    (ht : eval (.Call (.Attribute o m apos) [] [] pos) X.env = (do
      let ov ← eval o X.env
      standAt apos.atName
      let (f, first) ← holding [ov] (getMethod ov m pl)
      callWith pos f first (backTo pos (starEach [] X.env)) (backToKw pos (keywordEach [] X.env))) := by rfl) :
    FE X .rd (.Call (.Attribute o m apos) [] [] pos) (eMeth (meD cs ms m) f aNil) := meth_pe (ta := tF X.K .rd f) (n := 0) (pe_methT0 he ht) cs ms hM hr alen_nil fun _ _ _ h => tnil_of h
theorem fe_methO0 {m : Str} {cs : List Str} {ms : List (List D → Option D)} {pl : Sem Bool} (hM : AllM X.prog X.w X.K X.mg X.base j 1 kr m cs ms) (hr : Room j X.A) (he : FE X .rd o f)
    (ht : eval (.Call (.Attribute o m apos) [] [] pos) X.env = (do
      let ov ← eval o X.env
      standAt apos.atName
      let (f, first) ← holding [ov] (getMethod ov m pl)
      callWith pos f first (backTo pos (starEach [] X.env)) (backToKw pos (keywordEach [] X.env))) := by rfl) :
    FE X (.ow kr) (.Call (.Attribute o m apos) [] [] pos) (eMethO kr (meD cs ms m) f aNil) := meth_peO (ta := tF X.K .rd f) (n := 0) (pe_methT0 he ht) cs ms hM hr alen_nil fun _ _ _ h => tnil_of h

/-! ### making them -/
/-- __init__ puts its parameters into the fields of their names -/
def spI (Ca : Addr) (nm : List Str) : Sp := fun vs H Q _ => ∃ p dx ws, vs = .ref p :: ws ∧ ws.length = nm.length ∧ H p = some (.ins Ca dx []) ∧ Q .non (upd H p (.ins Ca dx (nm.zip ws)))
def eMk (C : Str) (nm : List Str) (fa : AM) : EM := fun st => (fa st).bind fun ds => if (immN nm && fullL ds 0 && ds.length == nm.length) = true then some (.ob C nm ds) else none
theorem made_same {H : Hp} {x dx Ca : Addr} {fs : List (Str × V)} (h1 : H x = none) (h2 : H dx = none) (n : dx ≠ x) : Same H (upd (upd (upd H dx (.own x)) x (.ins Ca dx [])) x (.ins Ca dx fs)) := fun b o e => by
  have n1 : b ≠ x := fun z => by rw [z, h1] at e; cases e
  have n2 : b ≠ dx := fun z => by rw [z, h2] at e; cases e
  rw [upd_ne n1, upd_ne n1, upd_ne n2]; exact e
theorem fe_make {C : Str} {Ca f : Addr} {fd : FuncData} {ps : List Str} {nm : List Str} {p : Pos} (hC : PySem.W.nsIn X.K mainGlobals C = some (some (.ref Ca))) (M : Mk X.K Ca f) (G : FnOk X.prog X.w X.K X.mg X.base CX0 j f fd ps (spI Ca nm)) (hr : Room (j + 1) X.A) (hg : Gl X C) (hm : X.mg C = some (.ref Ca)) (hb : Binds X.K fd ps [])
    (ha : FA X .rd (e :: es) fa) (hdb : (C == ("__debug__" : Str)) = false := by decide) (he : starEach (e :: es) X.env = (false, eval e X.env) :: starEach es X.env := by rfl) (hpl : (backTo pos (starEach es X.env)).any (·.1) = false := by rfl) :
    FE X kd (.Call (.Name C p) (e :: es) [] pos) (eMk C nm fa) := PE.weak (pe_make M G hr hg hm hb .nil (pass0 (X := X)) ha hdb he hpl) fun σ H Q ⟨F, fps, st, d, r, ed, q⟩ => by
  unfold eMk at ed
  cases e1 : fa st with
  | none => rw [e1] at ed; cases ed
  | some ds =>
    rw [e1] at ed
    change (if (immN nm && fullL ds 0 && ds.length == nm.length) = true then some (D.ob C nm ds) else none) = some d at ed
    split at ed
    · rename_i hf
      cases ed
      have hf' := Bool.and_eq_true_iff.mp hf
      refine ⟨F, fps, st, ds, r, e1, fun vs H1 s1 w x dx n1 n2 n3 => ⟨x, dx, vs, by rw [List.append_nil], ?_, upd_same, rfl, ?_⟩⟩
      · rw [VRL.length w]; exact beq_iff_eq.mp hf'.2
      · have s2 : Same H1 (upd (upd (upd H1 dx (.own x)) x (.ins Ca dx [])) x (.ins Ca dx (nm.zip vs))) := made_same n1 n2 n3
        refine q _ _ (s1.trans s2) (VR.fl (r.mono (s1.trans s2)) hf'.1 ⟨Ca, x, dx, vs, hC, rfl, upd_same, RepL.mono s2 _ _ w⟩)
    · cases ed

/-- a class without an __init__ of its own -/
structure Mk0 (K : PySem.W.Frag) (C : Addr) : Prop where
  makes : PySem.W.makesIn K C = true
  init : PySem.W.findIn K (.ref C) "__init__" = some (some (.builtin "object.__init__"))
  kp : PySem.W.keepIn K (.ref C) = true
def tMake0 (C : Addr) : TE := fun σ H Q => ∀ x dx, H x = none → H dx = none → dx ≠ x → Q (.ref x) (upd (upd H dx (.own x)) x (.ins C dx []))
theorem run_make00 {C : Addr} {pins : List (Addr × Obj)} {σ : L2.St} {H : Hp} {s : Shared} {Q : VK} (M : Mk0 X.K C) (I : Inv X pins σ H s)
    (h : ∀ x dx, H x = none → H dx = none → dx ≠ x → Q (.ref x) (upd (upd H dx (.own x)) x (.ins C dx []))) :
    wpAny (model X.prog X.w) X.A (call (.ref C) []) (EP X pins σ Q) X.xe s := by
  have hq := h (s.heap.objs.size + 1) s.heap.objs.size (I.hok.fresh (Nat.le_succ _)) (I.hok.fresh (Nat.le_refl _)) (Nat.ne_of_lt (Nat.lt_succ_self _))
  have I2 := Inv.made (C := C) I
  have Y := PySem.W.makes_of (M := model X.prog X.w) I.kIn M.makes
  have k : ∀ b o, s.heap.get? b = some o → ((s.heap.push PySem.W.emptyDict).push (PySem.W.instObj C s.heap.objs.size)).get? b = some o := fun b o e => Heap.get?_push_of_some _ (Heap.get?_push_of_some _ e)
  have hx : ((s.heap.push PySem.W.emptyDict).push (PySem.W.instObj C s.heap.objs.size)).get? (s.heap.objs.size + 1) = some (PySem.W.instObj C s.heap.objs.size) := by
    have := Heap.get?_push_size (s.heap.push PySem.W.emptyDict) (o := PySem.W.instObj C s.heap.objs.size) rfl
    rwa [Heap.size_push] at this
  have t1 : PySem.W.Looks (model X.prog X.w) ((s.heap.push PySem.W.emptyDict).push (PySem.W.instObj C s.heap.objs.size)) (typeOf (.ref (s.heap.objs.size + 1))) (.ref C) := (PySem.W.Looks.ld hx).andThen .now
  have t2 : PySem.W.Looks (model X.prog X.w) ((s.heap.push PySem.W.emptyDict).push (PySem.W.instObj C s.heap.objs.size)) (isInstance (.ref (s.heap.objs.size + 1)) (.type "object")) true := t1.andThen (Y.top.keeps k)
  refine wpAny_call (make_map0 I.kIn M.makes M.init (fun self => PySem.W.Looks.of_pure (PySem.W.oi_bind self)) ?_)
  refine codeAny_call_builtin PySem.W.oi_plain PySem.W.entry_oi (@PySem.W.check_slot (model X.prog X.w) _ _ _ "object.__init__" "object" "__init__" (.ref (s.heap.objs.size + 1)) [] [] _ PySem.W.oi_kind PySem.W.oi_split t2 (PySem.W.oi_args (.ref (s.heap.objs.size + 1))) ?_)
  rw [PySem.W.oi_run]
  exact wpAny_pure (And.intro rfl ⟨V.ref (s.heap.objs.size + 1), _, I2, rfl, hq⟩)
theorem pe_make00 {C : Addr} {x : Str} {p : Pos} (M : Mk0 X.K C) (hg : Gl X x) (hm : X.mg x = some (.ref C)) (hdb : (x == ("__debug__" : Str)) = false := by decide) : PE X (.Call (.Name x p) [] [] pos) (tMake0 C) := by
  refine ⟨fun pins s σ H Q I h => ?_⟩
  refine wpAny_Call_Name_kw (ld_glob I hg hm ?_ hdb)
  exact PySem.W.callWith_K0 I.kIn M.kp (run_make00 M I h)
theorem fe_make0 {C : Str} {Ca : Addr} {p : Pos} (hC : PySem.W.nsIn X.K mainGlobals C = some (some (.ref Ca))) (M : Mk0 X.K Ca) (hg : Gl X C) (hm : X.mg C = some (.ref Ca)) (hdb : (C == ("__debug__" : Str)) = false := by decide) :
    FE X kd (.Call (.Name C p) [] [] pos) (eC (.ob C [] [])) := PE.weak (pe_make00 M hg hm hdb) fun σ H Q ⟨F, fps, st, d, r, ed, q⟩ => by
  cases ed
  intro x dx n1 n2 n3
  have s2 : Same H (upd (upd H dx (.own x)) x (.ins Ca dx [])) := fun b o e => by
    have m1 : b ≠ x := fun z => by rw [z, n1] at e; cases e
    have m2 : b ≠ dx := fun z => by rw [z, n2] at e; cases e
    rw [upd_ne m1, upd_ne m2]; exact e
  exact q _ _ s2 (VR.fl (r.mono s2) rfl ⟨Ca, x, dx, [], hC, rfl, upd_same, rfl⟩)

/-! ### __init__ of up to three fields -/
theorem spI_len {Ca : Addr} {nm : List Str} {vs : List V} {H : Hp} {Q : VK} {E : XK} (h : spI Ca nm vs H Q E) : vs.length = nm.length + 1 := by
  obtain ⟨p, dx, ws, rfl, e, _⟩ := h
  rw [List.length_cons, e]
theorem init_fld {Ca p dx : Addr} {nm : List Str} {xs : List V} {v : V} {x : Str} {i : Nat} {Dn : Ends} {σ : L2.St} {H : Hp} (c : Cls K Ca) (n : NoAttr K Ca x) (hx : posS x nm = none) (hl : nm.length = xs.length) (h9 : nm.length < 1000)
    (h0 : σ[0]? = some (some (.ref p))) (hi : σ[i]? = some (some v)) (hp : H p = some (.ins Ca dx (nm.zip xs))) (q : Dn.nx σ (upd H p (.ins Ca dx ((nm ++ [x]).zip (xs ++ [v]))))) :
    sFld K (tVar 0) (tVar i) x Dn σ H := by
  refine ⟨v, hi, .ref p, h0, p, Ca, dx, _, rfl, hp, c, n, ?_, ?_⟩
  · rw [List.length_zip, hl, Nat.min_self, ← hl]; exact h9
  · rw [putF_new hx]
    rw [List.zip_append hl] at q
    exact q
end
end FL

namespace FL
open PySem PySem.Spec PyProof.Rows L2

/-! ### set of a list of ints -/
section
variable {P : Program} {w : World} {A : Around} {E : Value → Shared → Prop} {s : Shared}
abbrev setNw (w : World) : Obj := { cls := .type "set", dict := none, data := .set #[] 0 (.fresh 0 0 (!w.params.followText "set-order")) }
set_option maxHeartbeats 6400000 in
theorem set_listI {l : Addr} {items : Array Value} (ns : List Int) {Q : Value → Shared → Prop} (hh : A.handled = none) (hl : s.heap.IsList l items) (hi : IntsAre items.toList ns) (hb : ns.length + 1 < scanBound)
    (h : ∀ (h' : Heap) (tk c : Nat), SetR w h' s.heap.objs.size (fun j => decide (j ∈ ns)) c → c ≤ ns.length → (∀ b o, s.heap.get? b = some o → h'.get? b = some o) → Q (.ref s.heap.objs.size) { s with heap := h', toks := tk }) :
    wpAny (model P w) A (call (.type "set") [.ref l]) Q E s := by
  have sz : items.size = ns.length := by
    have := hi.length
    rwa [Array.length_toList] at this
  obtain ⟨c0, tl, hmro⟩ := F.called_set.mro
  have f1 := F.called_set.made
  have f2 := F.called_set.sub
  have f3 := F.called_set.notType
  have f4 := F.called_set.canCreate
  have f5 := F.typeCall_set_1 (.ref l)
  refine wpAny_call (codeAny_of_tree ?_)
  show wpAny _ _ (callAny (.type "set") _) _ _ _
  refine wpAny_pure ⟨Code.quiet_builtin _ (by decide +kernel), codeAny_builtin F.entry_type_call ?_⟩
  rw [Around.under_plain (weight_type_call_type "set" [.ref l] []) rfl]
  repeat (any_goals (first | assumption | wp_step))
  refine codeAny_mono (code_set_led1 (.ref l) (E := E) (Q₁ := fun obj s₁ => obj = .ref s.heap.objs.size ∧ s₁ = { s with heap := s.heap.push (setNw w) }) ⟨rfl, rfl⟩) fun r s₁ hr => ?_
  cases r with
  | error e => exact hr
  | ok fl =>
    cases fl with
    | ret obj =>
      obtain ⟨rfl, rfl⟩ := hr
      have at0 : (s.heap.push (setNw w)).get? s.heap.objs.size = some (setNw w) := Heap.get?_push_size _ rfl
      have ty0 : Shared.TypeIs { s with heap := s.heap.push (setNw w) } (.ref s.heap.objs.size) "set" := ⟨_, at0, rfl⟩
      have g1 := F.called_set.init.lookup
      have g2 := F.called_set.init.bind (.ref s.heap.objs.size)
      repeat (any_goals (first | assumption | wp_step))
      refine codeAny_mono (codeAny_call_builtin (R := wants (fun r s₂ => r = .none ∧ ∃ h' tk c, s₂ = { s with heap := h', toks := tk } ∧ SetR w h' s.heap.objs.size (fun j => decide (j ∈ ns)) c ∧ c ≤ ns.length ∧
        (∀ b o, s.heap.get? b = some o → h'.get? b = some o)) E) F.called_set.init.plain F.entry_set_init (check_set_init_1 ty0 ?_)) fun r₂ s₂ hr₂ => ?_
      · obtain ⟨ol, hol, hcl, nl, hdl⟩ := hl
        obtain ⟨ocls, odict, odata, oslots⟩ := ol
        simp only at hcl hdl
        subst hcl hdl
        have ol1 : (s.heap.push (setNw w)).get? l = some { cls := .type "list", dict := odict, data := .seq items nl, slots := oslots } := Heap.get?_push_of_some _ hol
        have hl1 : (s.heap.push (setNw w)).IsList l items := ⟨_, ol1, rfl, nl, rfl⟩
        have n1 := F.sub_list_set
        have n2 := F.sub_list_frozenset
        have n3 : (Value.type "list" == Value.type "dict") = false := by decide
        unfold Builtin.«set.__init__» noKeywords Builtin.Frozenset.updateFrom
        generalize hPI : pyIter = PI
        wp_walk
        subst hPI
        refine wpAny_pyIter_list hl1 ?_
        refine wpAny_bind (wpAny_runValue ?_)
        have hlS : l < s.heap.objs.size := Heap.lt_size hol
        have hh3 : A.in1.in1.in1.handled = none := by simp [hh]
        have hz : (s.heap.push (setNw w)).objs.size = s.heap.objs.size + 1 := Heap.size_push ..
        have hne : l ≠ (s.heap.push (setNw w)).objs.size := by rw [hz]; exact Nat.ne_of_lt (Nat.lt_succ_of_lt hlS)
        have hfp : s.heap.objs.size ∉ [(s.heap.push (setNw w)).objs.size, l] := by
          rw [hz]
          simp only [List.mem_cons, List.not_mem_nil, or_false, not_or]
          exact ⟨Nat.ne_of_lt (Nat.lt_succ_self _), Nat.ne_of_gt hlS⟩
        have hval : ∀ (i : Nat) (v : Value), items[i]? = some v → ∃ k t, ns[i]? = some k ∧ v = .int k t := fun i v hv => by
          have hin : i < ns.length := by rw [← sz]; exact (Array.getElem?_eq_some_iff.mp hv).1
          obtain ⟨t, e⟩ := hi.int_at i v (by rw [Array.getElem?_toList]; exact hv)
          refine ⟨ns[i], t, List.getElem?_eq_getElem hin, ?_⟩
          rw [e, List.getD_eq_getElem?_getD, List.getElem?_eq_getElem hin] <;> rfl
        refine set_update_ints ((Walks.list hh3 _ l hne items).toS) s.heap.objs.size hfp ns sz hb hval (items.size - 0) 0 _ (by omega) (Nat.zero_le _)
          ⟨⟨_, Heap.get?_push_size _ rfl, rfl, rfl⟩, (hl1.push _)⟩ ⟨0, Nat.le_refl 0, setR_new_at (Heap.get?_push_of_some _ at0)⟩ ?_
        intro s' c' hm hc' hS'
        obtain ⟨h', g2, d', tk', os'⟩ := s'
        have eg : g2 = s.gens := hm.gens
        have ed : d' = s.drawn := hm.drawn
        have eo : os' = s.os := hm.os
        subst eg ed eo
        show wpAny _ _ _ _ _ _
        refine wpAny_pure ?_
        show wpAny _ _ (ret Value.none) _ _ _
        rw [sz] at hc'
        refine wpAny_pure ⟨rfl, h', tk', c', rfl, hS', hc', fun b o e => ?_⟩
        have b0 : b < s.heap.objs.size := Heap.lt_size e
        refine hm.heap b o ?_ (Heap.get?_push_of_some _ (Heap.get?_push_of_some _ e))
        simp only [List.mem_cons, List.not_mem_nil, or_false, not_or]
        exact ⟨Nat.ne_of_lt b0, by rw [hz]; exact Nat.ne_of_lt (Nat.lt_succ_of_lt b0)⟩
      · cases r₂ with
        | error e => exact hr₂
        | ok fl₂ =>
          cases fl₂ with
          | ret r =>
            obtain ⟨rfl, h', tk, c, rfl, hS', hc', hk'⟩ := hr₂
            repeat (any_goals (first | assumption | wp_step))
            exact h _ _ _ hS' hc' hk'
          | _ => exact hr₂.elim
    | _ => exact hr.elim
end
end FL

namespace FL
open PySem PySem.Spec PyProof.Rows L2
section
variable {X : Cx} {kd : Kd} {e a : Expr} {f : EM} {p p2 q pos : Pos} {K : PySem.W.Frag}
/-- set(l) of a list of ints -/
def rSetL (K : PySem.W.Frag) (w : World) : List V → Hp → VK → Prop := fun xs H Q => ∃ (l : Addr) (ns : List Int), xs = [.ref l] ∧ SqL K H l (ns.map V.int) ∧ ns.length < 64 ∧
  ∀ c n, H c = none → n ≤ ns.length → Q (.ref c) (upd H c (SetO w c (fun j => decide (j ∈ ns)) n))
theorem cr_setL (hc : X.calm = true) : CallR X (.type "set") (rSetL X.K X.w) := by
  intro pins s σ H xs us Q I r h
  obtain ⟨l, ns, rfl, hs, h64, k⟩ := h
  obtain rfl := Vals.ref1 r
  obtain ⟨its, rv, hl, hz⟩ := I.list hs
  have hi := ints_of_vals rv
  refine set_listI ns (I.ok.hd hc) hl.isList hi (by unfold scanBound; omega) fun h' tk c R hcn kk => ?_
  exact ⟨.ref _, _, I.laid (t' := tk) kk (Nat.le_refl _) (setO_new R), rfl, k _ c (I.hok.fresh (Nat.le_refl _)) hcn⟩
/-- the members of a list, rising -/
def insU (x : Int) : List Int → List Int
  | [] => [x]
  | y :: r => if x < y then x :: y :: r else if x = y then y :: r else y :: insU x r
def sortU (ns : List Int) : List Int := ns.foldr insU []
theorem insU_mem {x k : Int} : ∀ {l : List Int}, k ∈ insU x l ↔ k = x ∨ k ∈ l
  | [] => by simp [insU]
  | y :: r => by
    unfold insU
    by_cases h : x < y
    · rw [if_pos h]; simp
    · rw [if_neg h]
      by_cases h2 : x = y
      · rw [if_pos h2]; subst h2; simp
      · rw [if_neg h2, List.mem_cons, insU_mem, List.mem_cons]
        constructor
        · rintro (h | h | h)
          · exact .inr (.inl h)
          · exact .inl h
          · exact .inr (.inr h)
        · rintro (h | h | h)
          · exact .inr (.inl h)
          · exact .inl h
          · exact .inr (.inr h)
theorem insU_lt {x : Int} : ∀ {l : List Int}, l.Pairwise (· < ·) → (insU x l).Pairwise (· < ·)
  | [], _ => by simp [insU]
  | y :: r, h => by
    obtain ⟨h1, h2⟩ := List.pairwise_cons.mp h
    unfold insU
    by_cases c : x < y
    · rw [if_pos c]
      refine List.pairwise_cons.mpr ⟨fun z hz => ?_, h⟩
      rcases List.mem_cons.mp hz with rfl | hz
      · exact c
      · have := h1 z hz; omega
    · rw [if_neg c]
      by_cases c2 : x = y
      · rw [if_pos c2]; exact h
      · rw [if_neg c2]
        refine List.pairwise_cons.mpr ⟨fun z hz => ?_, insU_lt h2⟩
        rcases insU_mem.mp hz with rfl | hz
        · omega
        · exact h1 z hz
theorem sortU_mem {k : Int} : ∀ {ns : List Int}, k ∈ sortU ns ↔ k ∈ ns
  | [] => Iff.rfl
  | x :: ns => by
    show k ∈ insU x (sortU ns) ↔ _
    rw [insU_mem, sortU_mem, List.mem_cons]
theorem sortU_lt : ∀ {ns : List Int}, (sortU ns).Pairwise (· < ·)
  | [] => List.Pairwise.nil
  | _ :: ns => insU_lt (sortU_lt (ns := ns))
theorem rise_same : ∀ {a b : List Int}, a.Pairwise (· < ·) → b.Pairwise (· < ·) → (∀ k, k ∈ a ↔ k ∈ b) → a = b
  | [], [], _, _, _ => rfl
  | [], y :: b, _, _, h => by have := (h y).mpr List.mem_cons_self; cases this
  | x :: a, [], _, _, h => by have := (h x).mp List.mem_cons_self; cases this
  | x :: a, y :: b, h1, h2, h => by
    obtain ⟨p1, p2⟩ := List.pairwise_cons.mp h1
    obtain ⟨q1, q2⟩ := List.pairwise_cons.mp h2
    have e : x = y := by
      have a1 := (h x).mp List.mem_cons_self
      have a2 := (h y).mpr List.mem_cons_self
      rcases List.mem_cons.mp a1 with r | r
      · exact r
      · rcases List.mem_cons.mp a2 with t | t
        · exact t.symm
        · have := q1 x r; have := p1 y t; omega
    subst e
    rw [rise_same p2 q2 fun k => ?_]
    constructor
    · intro hk
      rcases List.mem_cons.mp ((h k).mp (List.mem_cons_of_mem _ hk)) with r | r
      · have := p1 k hk; omega
      · exact r
    · intro hk
      rcases List.mem_cons.mp ((h k).mpr (List.mem_cons_of_mem _ hk)) with r | r
      · have := q1 k hk; omega
      · exact r
theorem fullL_nums : ∀ l : List Int, fullL (l.map D.int) 0 = true
  | [] => rfl
  | _ :: l => fullL_nums l
def mSortU : D → Option D
  | .lst ds => (intsOf ds).bind fun ns => if ns.length < 64 then some (.lst ((sortU ns).map .int)) else none
  | _ => none
theorem fe_sortU (hg : Gl X "sorted") (hm : X.mg "sorted" = none) (hg2 : Gl X "set") (hm2 : X.mg "set" = none) (he : FE X .rd a f) (hc : X.calm = true := by rfl)
    (h1 : starEach [.Call (.Name "set" p2) [a] [] q] X.env = (false, eval (.Call (.Name "set" p2) [a] [] q) X.env) :: starEach [] X.env := by rfl) (h2 : (backTo pos (starEach [] X.env)).any (·.1) = false := by rfl)
    (h3 : starEach [a] X.env = (false, eval a X.env) :: starEach [] X.env := by rfl) (h4 : (backTo q (starEach [] X.env)).any (·.1) = false := by rfl) :
    FE X (.ow 1) (.Call (.Name "sorted" p) [.Call (.Name "set" p2) [a] [] q] [] pos) (eB mSortU f) :=
  PE.weak (pe_callB (cr_sortedSet hc) hg hm (by decide +kernel) (pa_cons (pe_callTy (cr_setL hc) hg2 hm2 (by decide +kernel) (pa_cons he pa_nil h3) (by decide) (by decide) h3 h4) pa_nil h1) (by decide) (by decide) h1 h2) fun σ H Q ⟨F, fps, st, d, r, ed, k⟩ => by
    unfold eB at ed
    cases e1 : f st with
    | none => rw [e1] at ed; cases ed
    | some d0 =>
      rw [e1] at ed
      replace ed : mSortU d0 = some d := ed
      refine ⟨F, fps, st, d0, r, e1, fun v H1 s1 w => ?_⟩
      unfold mSortU at ed
      split at ed
      · rename_i ds
        cases ei : intsOf ds with
        | none => rw [ei] at ed; cases ed
        | some ns =>
          rw [ei] at ed
          replace ed : (if ns.length < 64 then some (D.lst ((sortU ns).map .int)) else none) = some d := ed
          split at ed
          · rename_i h64
            cases ed
            obtain ⟨b, ys, ev, e2, e3⟩ := w
            obtain ⟨q1, q2⟩ := intsOf_rep e3 ei
            subst ev
            refine ⟨b, ns, rfl, .inl (.inl (by rw [← q1]; exact e2)), h64, fun c n hc0 hcn => ?_⟩
            refine ⟨c, fun j => decide (j ∈ ns), n, rfl, upd_same, by omega, fun ms p' m1 m2 m3 hp' => ?_⟩
            have em : ms = sortU ns := rise_same m1 sortU_lt fun k => (m2 k).trans (by rw [sortU_mem]; exact decide_eq_true_iff)
            subst em
            have hpc : p' ≠ c := fun z => by rw [z, upd_same] at hp'; cases hp'
            have hp1 : H1 p' = none := by rw [upd_ne hpc] at hp'; exact hp'
            have s2 : Same H1 (upd (upd H1 c (SetO X.w c (fun j => decide (j ∈ ns)) n)) p' (.lst ((sortU ns).map V.int))) := fun x o e => by
              rw [upd_ne (ne_of_none e hp1), upd_ne (ne_of_none e hc0)]; exact e
            refine k _ _ (s1.trans s2) ⟨[p'], List.nodup_cons.mpr ⟨List.not_mem_nil, List.nodup_nil⟩, fun x hx => ?_, p', (sortU ns).map V.int, [], rfl, upd_same, rfl, OwnL.flat 0 _ _ (fullL_nums _) (RepL.intsI _)⟩
            rw [List.mem_singleton.mp hx]; exact s1.free hp1
          · cases ed
      · cases ed
/-- reversed(a list) -/
def mRev : D → Option (List D)
  | .lst ds => some ds.reverse
  | _ => none
theorem fi_rev {tg : Expr} (hg : Gl X "reversed") (hm : X.mg "reversed" = none) (he : FE X (.ow 0) e f) (hs : starEach [e] X.env = (false, eval e X.env) :: starEach [] X.env := by rfl) : FI X tg (.Call (.Name "reversed" p) [e] [] pos) (iB mRev f) :=
  PI.weak (RT.pi_revA hg hm he hs) fun σ H R ⟨F, fps, st, ds, r, ed, q⟩ => by
    unfold iB at ed
    cases ef : f st with
    | none => rw [ef] at ed; cases ed
    | some d =>
      rw [ef] at ed
      refine ⟨F, fps, st, d, r, ef, fun v H1 s1 w => ?_⟩
      replace w := VR.ow0 w
      replace ed : mRev d = some ds := ed
      unfold mRev at ed
      split at ed
      · rename_i es
        cases ed
        obtain ⟨a, xs, e1, e2, e3⟩ := w
        refine ⟨a, xs, e1, .inl ⟨.inl (.inl (hideP_same _ _ e2)), q _ H1 s1 (fun i H A hA s => ?_)⟩⟩
        have ea : H a = some (.lst xs) := (s.trans hideP_same) _ _ e2
        refine ⟨fun h => ?_, fun d e => ?_⟩
        · show xs.length ≤ i
          rw [e3.length]; simpa using h
        · have hi : i < es.length := by
            have := (List.getElem?_eq_some_iff.mp e).1
            simpa using this
          rw [List.getElem?_reverse hi] at e
          obtain ⟨v, h1, h2⟩ := e3.get e
          have hx : xs[xs.length - 1 - i]? = some v := by rw [e3.length]; exact h1
          refine ⟨⟨by rw [e3.length]; exact hi, xs, v, .inl (.inl ea), hx⟩, fun x H' ⟨y1, y2⟩ => ?_⟩
          subst y1
          have := y2 xs (.inl (.inl ea))
          rw [hx] at this; cases this
          exact ⟨Same.refl _, Rep.mono s d v h2⟩
      · cases ed
end
end FL

namespace FL
open PySem PySem.Spec PyProof.Rows L2

/-! ### parts of what is one's own, by paths -/
inductive Stp where
  | fld (C f : Str) | ix (i : Nat) | key (k : Int)
def posK (k : Int) : List Int → Option Nat
  | [] => none
  | x :: l => if x = k then some 0 else (posK k l).map (· + 1)
theorem posK_get {k : Int} : ∀ {l : List Int} {i : Nat}, posK k l = some i → l[i]? = some k
  | [], _, e => by cases e
  | x :: l, i, e => by
    unfold posK at e
    split at e
    · rename_i h
      cases e; rw [h]; rfl
    · cases h : posK k l with
      | none => rw [h] at e; cases e
      | some j =>
        rw [h] at e; cases e
        have := posK_get h
        simpa using this
theorem posK_val {k : Int} : ∀ {l : List Int} {xs : List V}, xs.length = l.length → L2.valV ((l.map Sum.inl : List Key).zip xs) (Sum.inl k) = (posK k l).bind fun i => xs[i]?
  | [], xs, _ => by cases xs <;> rfl
  | x :: l, [], h => by cases h
  | x :: l, v :: xs, h => by
    have ih := posK_val (k := k) (l := l) (xs := xs) (by simpa using h)
    unfold L2.valV at ih ⊢
    by_cases e : x = k
    · subst e
      simp [posK]
    · have e' : ¬ (Sum.inl x : Key) = Sum.inl k := fun z => e (Sum.inl.inj z)
      have e1 : List.find? (fun kv : Key × V => decide (kv.1 = Sum.inl k)) (List.zip ((x :: l).map Sum.inl) (v :: xs)) = List.find? (fun kv : Key × V => decide (kv.1 = Sum.inl k)) (List.zip (l.map Sum.inl) xs) := by
        rw [List.map_cons, List.zip_cons_cons, List.find?_cons_of_neg (by simpa using e)]
      rw [e1, ih]
      show (posK k l).bind _ = (if x = k then some 0 else (posK k l).map (· + 1)).bind _
      rw [if_neg e]
      cases posK k l <;> rfl
/-- the part at a path, its level, and the whole with another in its place -/
def foc : D → Nat → List Stp → Option (D × Nat × (D → D))
  | d, k, [] => some (d, k, fun x => x)
  | d, k, s :: p => match d, k, s with
    | .mob C nm ls ds, _ + 1, .fld C' f => if C = C' then (posS f nm).bind fun i => (ds[i]?).bind fun d' => (foc d' (ls.getD i 0) p).map fun r => (r.1, r.2.1, fun x => .mob C nm ls (ds.set i (r.2.2 x))) else none
    | .lst ds, k + 1, .ix i => (ds[i]?).bind fun d' => (foc d' k p).map fun r => (r.1, r.2.1, fun x => .lst (ds.set i (r.2.2 x)))
    | .dct ks ds, k + 1, .key j => if ds.length = ks.length then (posK j ks).bind fun i => (ds[i]?).bind fun d' => (foc d' k p).map fun r => (r.1, r.2.1, fun x => .dct ks (ds.set i (r.2.2 x))) else none
    | _, _, _ => none
/-- where a path leads in the heap -/
def AP (K : PySem.W.Frag) (H : Hp) : V → List Stp → V → Prop
  | v, [], u => u = v
  | v, .fld C f :: p, u => ∃ a Ca dx fs w, v = .ref a ∧ PySem.W.nsIn K mainGlobals C = some (some (.ref Ca)) ∧ H a = some (.ins Ca dx fs) ∧ fs.lookup f = some w ∧ AP K H w p u
  | v, .ix i :: p, u => ∃ a xs w, v = .ref a ∧ H a = some (.lst xs) ∧ xs[i]? = some w ∧ AP K H w p u
  | v, .key k :: p, u => ∃ a kvs w, v = .ref a ∧ H a = some (.dK kvs) ∧ L2.valV kvs (Sum.inl k) = some w ∧ AP K H w p u
section
variable {K : PySem.W.Frag} {F : Fr} {fps : Fps} {σ : L2.St} {H H1 H' G G' : Hp} {st : Sl}
theorem AP.mono (s : Same H H') : ∀ {p : List Stp} {v u : V}, AP K H v p u → AP K H' v p u
  | [], _, _, h => h
  | .fld C f :: p, _, _, ⟨a, Ca, dx, fs, w, e, n, h, l, r⟩ => ⟨a, Ca, dx, fs, w, e, n, s _ _ h, l, AP.mono s r⟩
  | .ix i :: p, _, _, ⟨a, xs, w, e, h, l, r⟩ => ⟨a, xs, w, e, s _ _ h, l, AP.mono s r⟩
  | .key k :: p, _, _, ⟨a, xs, w, e, h, l, r⟩ => ⟨a, xs, w, e, s _ _ h, l, AP.mono s r⟩
theorem AP.det : ∀ {p : List Stp} {v u u' : V}, AP K H v p u → AP K H v p u' → u = u'
  | [], _, _, _, h, h' => h.trans h'.symm
  | .fld C f :: p, _, _, _, ⟨a, Ca, dx, fs, w, e, n, h, l, r⟩, ⟨a', Ca', dx', fs', w', e', n', h', l', r'⟩ => by
    subst e; cases e'
    rw [h] at h'; cases h'
    rw [l] at l'; cases l'
    exact AP.det r r'
  | .ix i :: p, _, _, _, ⟨a, xs, w, e, h, l, r⟩, ⟨a', xs', w', e', h', l', r'⟩ => by
    subst e; cases e'
    rw [h] at h'; cases h'
    rw [l] at l'; cases l'
    exact AP.det r r'
  | .key k :: p, _, _, _, ⟨a, xs, w, e, h, l, r⟩, ⟨a', xs', w', e', h', l', r'⟩ => by
    subst e; cases e'
    rw [h] at h'; cases h'
    rw [l] at l'; cases l'
    exact AP.det r r'
theorem AP.app : ∀ {p q : List Stp} {v u : V}, AP K H v (p ++ q) u → ∃ w, AP K H v p w ∧ AP K H w q u
  | [], q, v, u, h => ⟨v, rfl, h⟩
  | .fld C f :: p, q, _, _, ⟨a, Ca, dx, fs, w, e, n, h, l, r⟩ => by
    obtain ⟨x, h1, h2⟩ := AP.app r
    exact ⟨x, ⟨a, Ca, dx, fs, w, e, n, h, l, h1⟩, h2⟩
  | .ix i :: p, q, _, _, ⟨a, xs, w, e, h, l, r⟩ => by
    obtain ⟨x, h1, h2⟩ := AP.app r
    exact ⟨x, ⟨a, xs, w, e, h, l, h1⟩, h2⟩
  | .key k :: p, q, _, _, ⟨a, xs, w, e, h, l, r⟩ => by
    obtain ⟨x, h1, h2⟩ := AP.app r
    exact ⟨x, ⟨a, xs, w, e, h, l, h1⟩, h2⟩
theorem AP.snoc : ∀ {p q : List Stp} {v w u : V}, AP K H v p w → AP K H w q u → AP K H v (p ++ q) u
  | [], _, _, _, _, h, h' => by rw [show _ = _ from h] at h'; exact h'
  | .fld C f :: p, q, _, _, _, ⟨a, Ca, dx, fs, w, e, n, h, l, r⟩, h' => ⟨a, Ca, dx, fs, w, e, n, h, l, AP.snoc r h'⟩
  | .ix i :: p, q, _, _, _, ⟨a, xs, w, e, h, l, r⟩, h' => ⟨a, xs, w, e, h, l, AP.snoc r h'⟩
  | .key k :: p, q, _, _, _, ⟨a, xs, w, e, h, l, r⟩, h' => ⟨a, xs, w, e, h, l, AP.snoc r h'⟩
theorem set_own {α : Type} {xs : List α} {j : Nat} {v : α} (h : xs[j]? = some v) : xs.set j v = xs := by
  apply List.ext_getElem?
  intro i
  by_cases e : j = i
  · subst e
    rw [List.getElem?_set_self (List.getElem?_eq_some_iff.mp h).1, h]
  · rw [List.getElem?_set_ne e]
theorem OwnM.split : ∀ {ds : List D} {ls : List Nat} {xs : List V} {fp : List Addr} {j : Nat} {d : D}, OwnM K H G ds ls xs fp → ds[j]? = some d → ∃ v A B C, xs[j]? = some v ∧ fp = A ++ (B ++ C) ∧ Own K H G d (ls.getD j 0) v B ∧
    ∀ (H' G' : Hp) (d' : D) (v' : V) (B' : List Addr), (∀ a, a ∈ A ∨ a ∈ C → H' a = H a) → Same G G' → Own K H' G' d' (ls.getD j 0) v' B' → OwnM K H' G' (ds.set j d') ls (xs.set j v') (A ++ (B' ++ C))
  | [], _, _, _, _, _, _, e => by simp at e
  | d0 :: ds, ls, _, _, 0, d, ⟨v, r, fp1, fp2, ev, ef, h1, h2⟩, e => by
    simp at e; subst e
    subst ev ef
    have e0 : ls.getD 0 0 = ls.headD 0 := by cases ls <;> rfl
    rw [e0]
    refine ⟨v, [], fp1, fp2, rfl, rfl, h1, fun H' G' d' v' B' hk hs o => ⟨v', r, B', fp2, rfl, rfl, o, OwnM.mono hs ds ls.tail r fp2 (fun a m => hk a (.inr m)) h2⟩⟩
  | d0 :: ds, ls, _, _, j + 1, d, ⟨v, r, fp1, fp2, ev, ef, h1, h2⟩, e => by
    subst ev ef
    obtain ⟨w, A, B, C, e1, e2, o, put⟩ := OwnM.split (j := j) h2 (by simpa using e)
    subst e2
    have e0 : ls.getD (j + 1) 0 = ls.tail.getD j 0 := by cases ls <;> simp
    rw [e0]
    refine ⟨w, fp1 ++ A, B, C, by simpa using e1, by simp [List.append_assoc], o, fun H' G' d' v' B' hk hs o' => ?_⟩
    refine ⟨v, r.set j v', fp1, A ++ (B' ++ C), rfl, by simp [List.append_assoc], Own.mono hs d0 _ v fp1 (fun a m => hk a (.inl (List.mem_append_left _ m))) h1, ?_⟩
    exact put H' G' d' v' B' (fun a m => hk a (m.imp (fun z => List.mem_append_right _ z) id)) hs o'
/-- a part and the rest -/
theorem Own.foc : ∀ (p : List Stp) {d : D} {k : Nat} {v : V} {fp : List Addr} {d' : D} {k' : Nat} {r : D → D}, Own K H G d k v fp → foc d k p = some (d', k', r) → ∃ u A B C, AP K H v p u ∧ fp = A ++ (B ++ C) ∧ Own K H G d' k' u B ∧
    ∀ (H' G' : Hp) (d'' : D) (B' : List Addr), (∀ a, a ∈ A ∨ a ∈ C → H' a = H a) → Same G G' → Own K H' G' d'' k' u B' → Own K H' G' (r d'') k v (A ++ (B' ++ C))
  | [], d, k, v, fp, d', k', r, o, e => by
    cases e
    exact ⟨v, [], fp, [], rfl, by simp, o, fun H' G' d'' B' _ _ o' => by simpa using o'⟩
  | s :: p, d, k, v, fp, d', k', r, o, e => by
    unfold FL.foc at e
    split at e
    · rename_i C nm ls ds k0 C' f
      split at e
      · rename_i hC
        subst hC
        cases e1 : posS f nm with
        | none => rw [e1] at e; cases e
        | some i =>
          rw [e1] at e
          cases e2 : ds[i]? with
          | none => rw [show ((some i).bind fun i => (ds[i]?).bind _) = (ds[i]?).bind _ from rfl, e2] at e; cases e
          | some d0 =>
            rw [show ((some i).bind fun i => (ds[i]?).bind _) = (ds[i]?).bind _ from rfl, e2] at e
            cases e3 : FL.foc d0 (ls.getD i 0) p with
            | none => rw [show ((some d0).bind fun d0 => (FL.foc d0 (ls.getD i 0) p).map _) = (FL.foc d0 (ls.getD i 0) p).map _ from rfl, e3] at e; cases e
            | some t =>
              rw [show ((some d0).bind fun d0 => (FL.foc d0 (ls.getD i 0) p).map _) = (FL.foc d0 (ls.getD i 0) p).map _ from rfl, e3] at e
              obtain ⟨t1, t2, t3⟩ := t
              cases e
              obtain ⟨Ca, a, dx, xs, fps, ec, ev, eh, ef, om⟩ := o
              obtain ⟨w, A1, B1, C1, h1, h2, h3, put⟩ := om.split e2
              obtain ⟨u, A2, B2, C2, g1, g2, g3, put2⟩ := Own.foc p h3 e3
              subst ev ef h2 g2
              refine ⟨u, a :: (A1 ++ A2), B2, C2 ++ C1, ⟨a, Ca, dx, _, w, rfl, ec.1, eh, ?_, g1⟩, by simp [List.append_assoc], g3, fun H' G' d'' B' hk hs o' => ?_⟩
              · rw [posS_look e1, h1]
              · refine ⟨Ca, a, dx, xs, A1 ++ ((A2 ++ (B' ++ C2)) ++ C1), ⟨ec.1, ec.2.1, by rw [List.length_set]; exact ec.2.2.1, ec.2.2.2⟩, rfl, by rw [hk a (.inl List.mem_cons_self)]; exact eh, by simp [List.append_assoc], ?_⟩
                have := put H' G' (t3 d'') w (A2 ++ (B' ++ C2)) (fun b hb => hk b (hb.imp (fun z => List.mem_cons_of_mem _ (List.mem_append_left _ z)) (fun z => List.mem_append_right _ z))) hs
                  (put2 H' G' d'' B' (fun b hb => hk b (hb.imp (fun z => List.mem_cons_of_mem _ (List.mem_append_right _ z)) (fun z => List.mem_append_left _ z))) hs o')
                rw [set_own h1] at this
                exact this
      · cases e
    · rename_i ds k0 i
      cases e2 : ds[i]? with
      | none => rw [e2] at e; cases e
      | some d0 =>
        rw [e2] at e
        cases e3 : FL.foc d0 k0 p with
        | none => rw [show ((some d0).bind fun d0 => (FL.foc d0 k0 p).map _) = (FL.foc d0 k0 p).map _ from rfl, e3] at e; cases e
        | some t =>
          rw [show ((some d0).bind fun d0 => (FL.foc d0 k0 p).map _) = (FL.foc d0 k0 p).map _ from rfl, e3] at e
          obtain ⟨t1, t2, t3⟩ := t
          cases e
          obtain ⟨a, xs, fps, ev, eh, ef, om⟩ := o
          obtain ⟨w, A1, B1, C1, h1, h2, h3, put⟩ := om.split e2
          obtain ⟨u, A2, B2, C2, g1, g2, g3, put2⟩ := Own.foc p h3 e3
          subst ev ef h2 g2
          refine ⟨u, a :: (A1 ++ A2), B2, C2 ++ C1, ⟨a, _, w, rfl, eh, h1, g1⟩, by simp [List.append_assoc], g3, fun H' G' d'' B' hk hs o' => ?_⟩
          refine ⟨a, xs, A1 ++ ((A2 ++ (B' ++ C2)) ++ C1), rfl, by rw [hk a (.inl List.mem_cons_self)]; exact eh, by simp [List.append_assoc], ?_⟩
          have := put H' G' (t3 d'') w (A2 ++ (B' ++ C2)) (fun b hb => hk b (hb.imp (fun z => List.mem_cons_of_mem _ (List.mem_append_left _ z)) (fun z => List.mem_append_right _ z))) hs
            (put2 H' G' d'' B' (fun b hb => hk b (hb.imp (fun z => List.mem_cons_of_mem _ (List.mem_append_right _ z)) (fun z => List.mem_append_left _ z))) hs o')
          rw [set_own h1] at this
          exact this
    · rename_i ks ds k0 j
      split at e
      · rename_i hl
        cases e1 : posK j ks with
        | none => rw [e1] at e; cases e
        | some i =>
          rw [e1] at e
          cases e2 : ds[i]? with
          | none => rw [show ((some i).bind fun i => (ds[i]?).bind _) = (ds[i]?).bind _ from rfl, e2] at e; cases e
          | some d0 =>
            rw [show ((some i).bind fun i => (ds[i]?).bind _) = (ds[i]?).bind _ from rfl, e2] at e
            cases e3 : FL.foc d0 k0 p with
            | none => rw [show ((some d0).bind fun d0 => (FL.foc d0 k0 p).map _) = (FL.foc d0 k0 p).map _ from rfl, e3] at e; cases e
            | some t =>
              rw [show ((some d0).bind fun d0 => (FL.foc d0 k0 p).map _) = (FL.foc d0 k0 p).map _ from rfl, e3] at e
              obtain ⟨t1, t2, t3⟩ := t
              cases e
              obtain ⟨a, xs, fps, ev, eh, ef, om⟩ := o
              have hx := om.len
              obtain ⟨w, A1, B1, C1, h1, h2, h3, put⟩ := om.split e2
              obtain ⟨u, A2, B2, C2, g1, g2, g3, put2⟩ := Own.foc p h3 e3
              subst ev ef h2 g2
              refine ⟨u, a :: (A1 ++ A2), B2, C2 ++ C1, ⟨a, _, w, rfl, eh, ?_, g1⟩, by simp [List.append_assoc], g3, fun H' G' d'' B' hk hs o' => ?_⟩
              · rw [posK_val (by omega), e1]
                exact h1
              · refine ⟨a, xs, A1 ++ ((A2 ++ (B' ++ C2)) ++ C1), rfl, by rw [hk a (.inl List.mem_cons_self)]; exact eh, by simp [List.append_assoc], ?_⟩
                have := put H' G' (t3 d'') w (A2 ++ (B' ++ C2)) (fun b hb => hk b (hb.imp (fun z => List.mem_cons_of_mem _ (List.mem_append_left _ z)) (fun z => List.mem_append_right _ z))) hs
                  (put2 H' G' d'' B' (fun b hb => hk b (hb.imp (fun z => List.mem_cons_of_mem _ (List.mem_append_right _ z)) (fun z => List.mem_append_left _ z))) hs o')
                rw [set_own h1] at this
                exact this
      · cases e
    · cases e
/-- a part of what a slot owns is changed in place -/
theorem StR.mutP {i : Nat} {k : Nat} {d : D} {p : List Stp} {d' : D} {k' : Nat} {rb : D → D} (r : StR K F fps σ H st) (hs : slD st[i]? = some (k, d)) (hf : foc d k p = some (d', k', rb)) :
    ∃ v u B, σ[i]? = some (some v) ∧ AP K H v p u ∧ Own K H (hideP H (own fps)) d' k' u B ∧ (∀ a ∈ B, a ∈ fps i) ∧ B.Nodup ∧
      ∀ (H1 : Hp) (A : Addr) (o : HO) (d'' : D) (B' : List Addr), Same H H1 → u = .ref A → A ∈ B → MutO o → B'.Nodup → (∀ a ∈ B', a ∈ B ∨ (H a = none ∧ ∃ o, H1 a = some o ∧ MutO o)) →
        (∀ P : Addr → Prop, (∀ a o', H a = some o' → ¬ own fps a → ¬ P a) → (∀ a, P a → own fps a ∨ a ∈ B') → Same (hideP H (own fps)) (hideP (upd H1 A o) P) → Own K (upd H1 A o) (hideP (upd H1 A o) P) d'' k' u B') →
        ∃ fps', StR K F fps' σ (upd H1 A o) (setD st i (rb d'')) := by
  obtain ⟨v, ev, ow⟩ := r.sl hs
  obtain ⟨u, A0, B, C0, ap, ef, o1, put⟩ := Own.foc p ow hf
  have nd : (A0 ++ (B ++ C0)).Nodup := by rw [← ef]; exact r.nd i
  have nB : B.Nodup := (List.nodup_append.mp (List.nodup_append.mp nd).2.1).1
  have hB : ∀ a ∈ B, a ∈ fps i := fun a m => by rw [ef]; exact List.mem_append_right _ (List.mem_append_left _ m)
  refine ⟨v, u, B, ev, ap, o1, hB, nB, fun H1 A o d'' B' s eu hA mo nB' sub ho => ?_⟩
  subst eu
  have hAi : A ∈ fps i := hB A hA
  have disj : ∀ a, a ∈ B → a ∉ A0 ∧ a ∉ C0 := fun a m => by
    have n1 := List.nodup_append.mp nd
    have n2 := List.nodup_append.mp n1.2.1
    exact ⟨fun z => n1.2.2 a z a (List.mem_append_left _ m) rfl, fun z => n2.2.2 a m a z rfl⟩
  have inA : ∀ a, a ∈ A0 ∨ a ∈ C0 → a ∈ fps i := fun a h => by
    rw [ef]
    exact h.elim (fun z => List.mem_append_left _ z) fun z => List.mem_append_right _ (List.mem_append_right _ z)
  have nd' : (A0 ++ (B' ++ C0)).Nodup := nodup_mid nd nB' fun a m => by
    rcases sub a m with m | ⟨m, _⟩
    · exact disj a m
    · exact ⟨fun z => r.there ⟨i, inA a (.inl z)⟩ m, fun z => r.there ⟨i, inA a (.inr z)⟩ m⟩
  refine ⟨_, r.bump (i := i) (A := A) (o := o) (fp' := A0 ++ (B' ++ C0)) (st' := setD st i (rb d'')) s hAi mo nd' (fun a m => ?_) setD_length (fun j hj => setD_ne hj) fun sl e2 gen => ?_⟩
  · rcases List.mem_append.mp m with m | m
    · exact .inl (inA a (.inl m))
    · rcases List.mem_append.mp m with m | m
      · exact (sub a m).imp (hB a) id
      · exact .inl (inA a (.inr m))
  · refine slD_put hs (fun s es => r.ok i s es) ev e2 ?_
    have nin : ∀ a o', H a = some o' → ¬ own fps a → ¬ own (setF fps i (A0 ++ (B' ++ C0))) a := fun a o' e h z => by
      rcases own_setF z with m | z
      · rcases List.mem_append.mp m with m | m
        · exact h ⟨i, inA a (.inl m)⟩
        · rcases List.mem_append.mp m with m | m
          · rcases sub a m with m | ⟨m, _⟩
            · exact h ⟨i, hB a m⟩
            · rw [m] at e; cases e
          · exact h ⟨i, inA a (.inr m)⟩
      · exact h z
    have sm := gen _ nin
    refine put _ _ d'' B' (fun a h => ?_) sm (ho _ nin (fun a z => ?_) sm)
    · have aA : a ≠ A := fun z => by
        subst z
        have := disj a hA
        exact h.elim this.1 this.2
      rw [upd_ne aA]
      obtain ⟨_, q, _⟩ := r.isLst ⟨i, inA a h⟩
      rw [q]; exact s _ _ q
    · rcases own_setF z with m | z
      · rcases List.mem_append.mp m with m | m
        · exact .inl ⟨i, inA a (.inl m)⟩
        · rcases List.mem_append.mp m with m | m
          · exact .inr m
          · exact .inl ⟨i, inA a (.inr m)⟩
      · exact .inl z
end
end FL

namespace FL
open PySem PySem.Spec PyProof.Rows L2

theorem foc_set : ∀ (p : List Stp) {d : D} {k : Nat} {d' : D} {k' : Nat} {r : D → D} (x : D), foc d k p = some (d', k', r) → foc (r x) k p = some (x, k', r)
  | [], d, k, d', k', r, x, e => by cases e; rfl
  | s :: p, d, k, d', k', r, x, e => by
    unfold foc at e
    split at e
    · rename_i C nm ls ds k0 C' f
      split at e
      · rename_i hC
        subst hC
        cases e1 : posS f nm with
        | none => rw [e1] at e; cases e
        | some i =>
          rw [e1] at e
          cases e2 : ds[i]? with
          | none => rw [show ((some i).bind fun i => (ds[i]?).bind _) = (ds[i]?).bind _ from rfl, e2] at e; cases e
          | some d0 =>
            rw [show ((some i).bind fun i => (ds[i]?).bind _) = (ds[i]?).bind _ from rfl, e2] at e
            cases e3 : foc d0 (ls.getD i 0) p with
            | none => rw [show ((some d0).bind fun d0 => (foc d0 (ls.getD i 0) p).map _) = (foc d0 (ls.getD i 0) p).map _ from rfl, e3] at e; cases e
            | some t =>
              rw [show ((some d0).bind fun d0 => (foc d0 (ls.getD i 0) p).map _) = (foc d0 (ls.getD i 0) p).map _ from rfl, e3] at e
              obtain ⟨t1, t2, t3⟩ := t
              cases e
              have ih := foc_set p x e3
              have hi : i < ds.length := (List.getElem?_eq_some_iff.mp e2).1
              show (if C = C then (posS f nm).bind fun i' => ((ds.set i (t3 x))[i']?).bind fun d' => (foc d' (ls.getD i' 0) p).map fun r => (r.1, r.2.1, fun x' => D.mob C nm ls ((ds.set i (t3 x)).set i' (r.2.2 x'))) else none) = _
              rw [if_pos rfl, e1]
              show (((ds.set i (t3 x))[i]?).bind fun d' => (foc d' (ls.getD i 0) p).map fun r => (r.1, r.2.1, fun x' => D.mob C nm ls ((ds.set i (t3 x)).set i (r.2.2 x')))) = _
              rw [List.getElem?_set_self hi]
              show ((foc (t3 x) (ls.getD i 0) p).map fun r => (r.1, r.2.1, fun x' => D.mob C nm ls ((ds.set i (t3 x)).set i (r.2.2 x')))) = _
              rw [ih]
              show some _ = some _
              simp only [List.set_set]
      · cases e
    · rename_i ds k0 i
      cases e2 : ds[i]? with
      | none => rw [e2] at e; cases e
      | some d0 =>
        rw [e2] at e
        cases e3 : foc d0 k0 p with
        | none => rw [show ((some d0).bind fun d0 => (foc d0 k0 p).map _) = (foc d0 k0 p).map _ from rfl, e3] at e; cases e
        | some t =>
          rw [show ((some d0).bind fun d0 => (foc d0 k0 p).map _) = (foc d0 k0 p).map _ from rfl, e3] at e
          obtain ⟨t1, t2, t3⟩ := t
          cases e
          have ih := foc_set p x e3
          have hi : i < ds.length := (List.getElem?_eq_some_iff.mp e2).1
          show (((ds.set i (t3 x))[i]?).bind fun d' => (foc d' k0 p).map fun r => (r.1, r.2.1, fun x' => D.lst ((ds.set i (t3 x)).set i (r.2.2 x')))) = _
          rw [List.getElem?_set_self hi]
          show ((foc (t3 x) k0 p).map fun r => (r.1, r.2.1, fun x' => D.lst ((ds.set i (t3 x)).set i (r.2.2 x')))) = _
          rw [ih]
          show some _ = some _
          simp only [List.set_set]
    · rename_i ks ds k0 j
      split at e
      · rename_i hl
        cases e1 : posK j ks with
        | none => rw [e1] at e; cases e
        | some i =>
          rw [e1] at e
          cases e2 : ds[i]? with
          | none => rw [show ((some i).bind fun i => (ds[i]?).bind _) = (ds[i]?).bind _ from rfl, e2] at e; cases e
          | some d0 =>
            rw [show ((some i).bind fun i => (ds[i]?).bind _) = (ds[i]?).bind _ from rfl, e2] at e
            cases e3 : foc d0 k0 p with
            | none => rw [show ((some d0).bind fun d0 => (foc d0 k0 p).map _) = (foc d0 k0 p).map _ from rfl, e3] at e; cases e
            | some t =>
              rw [show ((some d0).bind fun d0 => (foc d0 k0 p).map _) = (foc d0 k0 p).map _ from rfl, e3] at e
              obtain ⟨t1, t2, t3⟩ := t
              cases e
              have ih := foc_set p x e3
              have hi : i < ds.length := (List.getElem?_eq_some_iff.mp e2).1
              show (if (ds.set i (t3 x)).length = ks.length then (posK j ks).bind fun i' => ((ds.set i (t3 x))[i']?).bind fun d' => (foc d' k0 p).map fun r => (r.1, r.2.1, fun x' => D.dct ks ((ds.set i (t3 x)).set i' (r.2.2 x'))) else none) = _
              rw [if_pos (by rw [List.length_set]; exact hl), e1]
              show (((ds.set i (t3 x))[i]?).bind fun d' => (foc d' k0 p).map fun r => (r.1, r.2.1, fun x' => D.dct ks ((ds.set i (t3 x)).set i (r.2.2 x')))) = _
              rw [List.getElem?_set_self hi]
              show ((foc (t3 x) k0 p).map fun r => (r.1, r.2.1, fun x' => D.dct ks ((ds.set i (t3 x)).set i (r.2.2 x')))) = _
              rw [ih]
              show some _ = some _
              simp only [List.set_set]
      · cases e
    · cases e
/-- what is a reference -/
def isRf : D → Bool
  | .lst _ => true
  | .mob _ _ _ _ => true
  | .dct _ _ => true
  | _ => false
section
variable {K : PySem.W.Frag} {F : Fr} {fps : Fps} {σ : L2.St} {H H1 H' G G' : Hp} {st : Sl}
theorem Own.ref {d : D} {k : Nat} {v : V} {fp : List Addr} (o : Own K H G d k v fp) (h : isRf d = true) : ∃ A, v = .ref A := by
  have r := Own.rep (F' := fun a => if a ∈ fp then H a else G a) (F := fun a => if a ∈ fp then none else G a) (H := H) (K := K) (fun a o' e => by
    by_cases m : a ∈ fp
    · simp [m] at e
    · simp only [m, if_false] at e ⊢; exact e) d k v fp (fun a m => by simp [m])
  cases d with
  | lst ds =>
    cases k with
    | zero => obtain ⟨a, xs, e, _⟩ := o.2; exact ⟨a, e⟩
    | succ k => obtain ⟨a, xs, fps, e, _⟩ := o; exact ⟨a, e⟩
  | mob C nm ls ds =>
    cases k with
    | zero => obtain ⟨Ca, a, dx, xs, _, e, _⟩ := o.2; exact ⟨a, e⟩
    | succ k => obtain ⟨Ca, a, dx, xs, fps, _, e, _⟩ := o; exact ⟨a, e⟩
  | dct ks ds =>
    cases k with
    | zero => obtain ⟨a, xs, e, _⟩ := o.2; exact ⟨a, e⟩
    | succ k => obtain ⟨a, xs, fps, e, _⟩ := o; exact ⟨a, e⟩
  | _ => cases h
theorem hideP_eq {H : Hp} {A B : Addr → Prop} (h : ∀ a, A a ↔ B a) : hideP H A = hideP H B := by
  funext a
  unfold hideP
  by_cases q : A a
  · rw [if_pos q, if_pos ((h a).mp q)]
  · rw [if_neg q, if_neg fun z => q ((h a).mpr z)]
theorem get_snoc {α : Type} {l : List α} {x : α} : (l ++ [x])[l.length]? = some x := by simp
theorem get_snoc_lt {α : Type} {l : List α} {x : α} {j : Nat} (h : j < l.length) : (l ++ [x])[j]? = l[j]? := List.getElem?_append_left h
/-- a part of a slot becomes a slot of its own, for a while -/
theorem StR.lend {i k : Nat} {d : D} {p : List Stp} {d' : D} {k' : Nat} {rb : D → D} (r : StR K F fps σ H st) (hs : slD st[i]? = some (k, d)) (hf : foc d k p = some (d', k', rb)) (hr : isRf d' = true) :
    ∃ v A fps', σ[i]? = some (some v) ∧ AP K H v p (.ref A) ∧ StR K F fps' (σ ++ [some (.ref A)]) H (setD st i (rb (.hol A)) ++ [.va k' d']) ∧ (∀ a, own fps' a ↔ own fps a) ∧ ∀ m, st.length ≤ m → fps' (m + 1) = fps m := by
  obtain ⟨v, ev, ow⟩ := r.sl hs
  obtain ⟨u, A0, B, C0, ap, ef, o1, put⟩ := Own.foc p ow hf
  obtain ⟨A, eu⟩ := o1.ref hr
  subst eu
  have hi : i < st.length := by
    unfold slD at hs
    cases es : st[i]? with
    | none => rw [es] at hs; cases hs
    | some s => exact (List.getElem?_eq_some_iff.mp es).1
  have nd : (A0 ++ (B ++ C0)).Nodup := by rw [← ef]; exact r.nd i
  have n1 := List.nodup_append.mp nd
  have n2 := List.nodup_append.mp n1.2.1
  let fps' : Fps := fun j => if j = i then A0 ++ C0 else if j < st.length then fps j else if j = st.length then B else fps (j - 1)
  have fi : fps' i = A0 ++ C0 := if_pos rfl
  have fl : ∀ j, j ≠ i → j < st.length → fps' j = fps j := fun j h1 h2 => by show (if _ then _ else if _ then _ else _) = _; rw [if_neg h1, if_pos h2]
  have fn : fps' st.length = B := by show (if _ then _ else if _ then _ else if _ then _ else _) = _; rw [if_neg (by omega), if_neg (by omega), if_pos rfl]
  have fg : ∀ m, st.length ≤ m → fps' (m + 1) = fps m := fun m h => by
    show (if _ then _ else if _ then _ else if _ then _ else fps (m + 1 - 1)) = _
    rw [if_neg (by omega), if_neg (by omega), if_neg (by omega), Nat.add_sub_cancel]
  -- where an address of fps' comes from
  have src : ∀ j a, a ∈ fps' j → (j = i ∧ (a ∈ A0 ∨ a ∈ C0)) ∨ (j ≠ i ∧ j < st.length ∧ a ∈ fps j) ∨ (j = st.length ∧ a ∈ B) ∨ (st.length < j ∧ a ∈ fps (j - 1)) := fun j a m => by
    by_cases h1 : j = i
    · subst h1; rw [fi] at m; exact .inl ⟨rfl, List.mem_append.mp m⟩
    · by_cases h2 : j < st.length
      · rw [fl j h1 h2] at m; exact .inr (.inl ⟨h1, h2, m⟩)
      · by_cases h3 : j = st.length
        · subst h3; rw [fn] at m; exact .inr (.inr (.inl ⟨rfl, m⟩))
        · have := fg (j - 1) (by omega)
          rw [show j - 1 + 1 = j by omega] at this
          rw [this] at m
          exact .inr (.inr (.inr ⟨by omega, m⟩))
  have inI : ∀ a, a ∈ A0 ∨ a ∈ B ∨ a ∈ C0 → a ∈ fps i := fun a h => by
    rw [ef]
    rcases h with h | h | h
    · exact List.mem_append_left _ h
    · exact List.mem_append_right _ (List.mem_append_left _ h)
    · exact List.mem_append_right _ (List.mem_append_right _ h)
  have same : ∀ a, own fps' a ↔ own fps a := fun a => by
    constructor
    · rintro ⟨j, m⟩
      rcases src j a m with ⟨_, h⟩ | ⟨_, _, h⟩ | ⟨_, h⟩ | ⟨_, h⟩
      · exact ⟨i, inI a (h.imp id .inr)⟩
      · exact ⟨j, h⟩
      · exact ⟨i, inI a (.inr (.inl h))⟩
      · exact ⟨_, h⟩
    · rintro ⟨j, m⟩
      by_cases h1 : j = i
      · subst h1
        rw [ef] at m
        rcases List.mem_append.mp m with h | h
        · exact ⟨j, by rw [fi]; exact List.mem_append_left _ h⟩
        · rcases List.mem_append.mp h with h | h
          · exact ⟨st.length, by rw [fn]; exact h⟩
          · exact ⟨j, by rw [fi]; exact List.mem_append_right _ h⟩
      · by_cases h2 : j < st.length
        · exact ⟨j, by rw [fl j h1 h2]; exact m⟩
        · exact ⟨j + 1, by rw [fg j (by omega)]; exact m⟩
  have hide := hideP_eq (H := H) same
  have hl := r.len
  refine ⟨v, A, fps', ev, ap, ⟨by rw [hide]; exact r.fr, fun j => ?_, fun j j' a m1 m2 => ?_, by simp [setD_length, hl], fun j sl e => ?_, fun j a h m => ?_, ?_⟩, same, fg⟩
  · by_cases h1 : j = i
    · subst h1; rw [fi]
      exact List.nodup_append.mpr ⟨n1.1, n2.2.1, fun a m b m2 e => n1.2.2 a m b (List.mem_append_right _ m2) e⟩
    · by_cases h2 : j < st.length
      · rw [fl j h1 h2]; exact r.nd j
      · by_cases h3 : j = st.length
        · subst h3; rw [fn]; exact n2.1
        · have := fg (j - 1) (by omega)
          rw [show j - 1 + 1 = j by omega] at this
          rw [this]; exact r.nd _
  · have bi : ∀ a, a ∈ B → a ∉ A0 ∧ a ∉ C0 := fun a m => ⟨fun z => n1.2.2 a z a (List.mem_append_left _ m) rfl, fun z => n2.2.2 a m a z rfl⟩
    rcases src j a m1 with ⟨e1, h1⟩ | ⟨e1, l1, h1⟩ | ⟨e1, h1⟩ | ⟨l1, h1⟩ <;> rcases src j' a m2 with ⟨e2, h2⟩ | ⟨e2, l2, h2⟩ | ⟨e2, h2⟩ | ⟨l2, h2⟩
    · rw [e1, e2]
    · exact absurd (r.dj i j' a (inI a (h1.imp id .inr)) h2).symm e2
    · exact absurd h1 (not_or.mpr (bi a h2))
    · have := r.dj i _ a (inI a (h1.imp id .inr)) h2; omega
    · exact absurd (r.dj i j a (inI a (h2.imp id .inr)) h1).symm e1
    · exact r.dj j j' a h1 h2
    · have := r.dj i j a (inI a (.inr (.inl h2))) h1; exact absurd this.symm e1
    · have := r.dj j _ a h1 h2; omega
    · exact absurd h2 (not_or.mpr (bi a h1))
    · have := r.dj i j' a (inI a (.inr (.inl h1))) h2; exact absurd this.symm e2
    · rw [e1, e2]
    · have := r.dj i _ a (inI a (.inr (.inl h1))) h2; omega
    · have := r.dj i _ a (inI a (h2.imp id .inr)) h1; omega
    · have := r.dj j' _ a h2 h1; omega
    · have := r.dj i _ a (inI a (.inr (.inl h2))) h1; omega
    · have := r.dj _ _ a h1 h2; omega
  · rw [hide]
    by_cases hj : j < st.length
    · rw [get_snoc_lt (by rw [setD_length]; exact hj)] at e
      rw [get_snoc_lt (by omega)]
      by_cases h1 : j = i
      · subst h1
        rw [fi]
        refine slD_put hs (fun s es => r.ok j s es) ev e ?_
        have := put H (hideP H (own fps)) (.hol A) [] (fun _ _ => rfl) (Same.refl _) ⟨rfl, rfl⟩
        simpa using this
      · rw [setD_ne h1] at e
        rw [fl j h1 hj]
        exact r.ok j sl e
    · by_cases h3 : j = st.length
      · subst h3
        rw [show (setD st i (rb (.hol A)) ++ [Slot.va k' d'])[st.length]? = some (.va k' d') by
          have := get_snoc (l := setD st i (rb (.hol A))) (x := Slot.va k' d')
          rw [setD_length] at this; exact this] at e
        cases e
        rw [fn]
        refine ⟨.ref A, ?_, o1⟩
        have := get_snoc (l := σ) (x := some (V.ref A))
        rw [hl] at this; exact this
      · have := (List.getElem?_eq_some_iff.mp e).1
        rw [List.length_append, setD_length] at this
        simp at this
        omega
  · rw [List.length_append, setD_length] at h
    simp at h
    have := fg (j - 1) (by omega)
    rw [show j - 1 + 1 = j by omega] at this
    rw [this] at m
    exact r.tmp _ a (by omega) m
  · obtain ⟨m, hm⟩ := r.fin
    refine ⟨max m st.length + 1, fun j h => ?_⟩
    have h1 := Nat.le_max_left m st.length
    have h2 := Nat.le_max_right m st.length
    have := fg (j - 1) (by omega)
    rw [show j - 1 + 1 = j by omega] at this
    rw [this]
    exact hm _ (by omega)
/-- .. and goes back -/
theorem StR.plug {i k : Nat} {d : D} {p : List Stp} {k' : Nat} {rb : D → D} {A : Addr} {d'' : D} (r : StR K F fps (σ ++ [some (.ref A)]) H (st ++ [.va k' d''])) (hs : slD st[i]? = some (k, d)) (hf : foc d k p = some (.hol A, k', rb)) :
    ∃ fps', StR K F fps' σ H (setD st i (rb d'')) ∧ (∀ a, own fps' a ↔ own fps a) ∧ ∀ m, st.length < m → fps' m = fps m := by
  have hi : i < st.length := by
    unfold slD at hs
    cases es : st[i]? with
    | none => rw [es] at hs; cases hs
    | some s => exact (List.getElem?_eq_some_iff.mp es).1
  have hl : σ.length = st.length := by have := r.len; simpa using this
  obtain ⟨v, ev, ow⟩ := r.sl (i := i) (k := k) (d := d) (by rw [get_snoc_lt hi]; exact hs)
  rw [get_snoc_lt (by omega)] at ev
  obtain ⟨u, A0, B, C0, ap, ef, o1, put⟩ := Own.foc p ow hf
  obtain ⟨rfl, rfl⟩ := o1
  obtain ⟨w, ew, oB⟩ := r.va (i := st.length) (k := k') (d := d'') get_snoc
  rw [show (σ ++ [some (V.ref A)])[st.length]? = some (some (V.ref A)) by rw [← hl]; exact get_snoc] at ew
  cases ew
  let B' := fps st.length
  have eB : fps st.length = B' := rfl
  have e0 : fps i = A0 ++ C0 := by rw [ef]; rfl
  let fps' : Fps := fun j => if j = i then A0 ++ (B' ++ C0) else if j = st.length then [] else fps j
  have fi : fps' i = A0 ++ (B' ++ C0) := if_pos rfl
  have fn : fps' st.length = [] := by show (if _ then _ else if _ then _ else _) = _; rw [if_neg (by omega), if_pos rfl]
  have fl : ∀ j, j ≠ i → j ≠ st.length → fps' j = fps j := fun j h1 h2 => by show (if _ then _ else if _ then _ else _) = _; rw [if_neg h1, if_neg h2]
  have src : ∀ j a, a ∈ fps' j → (j = i ∧ (a ∈ fps i ∨ a ∈ B')) ∨ (j ≠ i ∧ j ≠ st.length ∧ a ∈ fps j) := fun j a m => by
    by_cases h1 : j = i
    · subst h1; rw [fi] at m
      refine .inl ⟨rfl, ?_⟩
      rw [e0]
      rcases List.mem_append.mp m with m | m
      · exact .inl (List.mem_append_left _ m)
      · rcases List.mem_append.mp m with m | m
        · exact .inr m
        · exact .inl (List.mem_append_right _ m)
    · by_cases h2 : j = st.length
      · subst h2; rw [fn] at m; cases m
      · rw [fl j h1 h2] at m; exact .inr ⟨h1, h2, m⟩
  have same : ∀ a, own fps' a ↔ own fps a := fun a => by
    constructor
    · rintro ⟨j, m⟩
      rcases src j a m with ⟨_, h | h⟩ | ⟨_, _, h⟩
      · exact ⟨i, h⟩
      · exact ⟨_, h⟩
      · exact ⟨j, h⟩
    · rintro ⟨j, m⟩
      by_cases h1 : j = i
      · subst h1
        rw [e0] at m
        refine ⟨j, ?_⟩
        rw [fi]
        rcases List.mem_append.mp m with h | h
        · exact List.mem_append_left _ h
        · exact List.mem_append_right _ (List.mem_append_right _ h)
      · by_cases h2 : j = st.length
        · subst h2
          exact ⟨i, by rw [fi]; exact List.mem_append_right _ (List.mem_append_left _ m)⟩
        · exact ⟨j, by rw [fl j h1 h2]; exact m⟩
  have hide := hideP_eq (H := H) same
  have ndi : (A0 ++ C0).Nodup := by rw [← e0]; exact r.nd i
  have nAC := List.nodup_append.mp ndi
  have dBi : ∀ a, a ∈ B' → a ∈ fps i → False := fun a m1 m2 => by
    have := r.dj st.length i a m1 m2; omega
  refine ⟨fps', ⟨by rw [hide]; exact r.fr, fun j => ?_, fun j j' a m1 m2 => ?_, by rw [setD_length]; exact hl, fun j sl e => ?_, fun j a h m => ?_, ?_⟩, same, fun m h => fl m (by omega) (by omega)⟩
  · by_cases h1 : j = i
    · subst h1; rw [fi]
      refine List.nodup_append.mpr ⟨nAC.1, List.nodup_append.mpr ⟨r.nd _, nAC.2.1, fun a m b m2 e => ?_⟩, fun a m b m2 e => ?_⟩
      · subst e; exact dBi a m (by rw [e0]; exact List.mem_append_right _ m2)
      · subst e
        rcases List.mem_append.mp m2 with m2 | m2
        · exact dBi a m2 (by rw [e0]; exact List.mem_append_left _ m)
        · exact nAC.2.2 a m a m2 rfl
    · by_cases h2 : j = st.length
      · subst h2; rw [fn]; exact List.nodup_nil
      · rw [fl j h1 h2]; exact r.nd j
  · rcases src j a m1 with ⟨e1, h1 | h1⟩ | ⟨e1, n1, h1⟩ <;> rcases src j' a m2 with ⟨e2, h2 | h2⟩ | ⟨e2, n2, h2⟩
    · rw [e1, e2]
    · rw [e1, e2]
    · exact absurd (r.dj i j' a h1 h2).symm e2
    · rw [e1, e2]
    · rw [e1, e2]
    · exact absurd (r.dj _ j' a h1 h2).symm n2
    · exact absurd (r.dj i j a h2 h1).symm e1
    · exact absurd (r.dj _ j a h2 h1).symm n1
    · exact r.dj j j' a h1 h2
  · rw [hide]
    have hj : j < st.length := by have := (List.getElem?_eq_some_iff.mp e).1; rw [setD_length] at this; exact this
    by_cases h1 : j = i
    · subst h1
      rw [fi]
      refine slD_put (G := H) (G' := hideP H (own fps)) (fpo := fps j) hs (fun s es => ?_) ev e (put H (hideP H (own fps)) d'' B' (fun _ _ => rfl) (Same.refl _) oB)
      have := r.ok j s (by rw [get_snoc_lt hj]; exact es)
      rw [get_snoc_lt (by omega)] at this
      exact this
    · rw [setD_ne h1] at e
      rw [fl j h1 (by omega)]
      have := r.ok j sl (by rw [get_snoc_lt hj]; exact e)
      rw [get_snoc_lt (by omega)] at this
      exact this
  · rw [setD_length] at h
    by_cases h2 : j = st.length
    · subst h2; rw [fn] at m; cases m
    · rw [fl j (by omega) h2] at m
      exact r.tmp j a (by simp; omega) m
  · obtain ⟨m, hm⟩ := r.fin
    refine ⟨max m (st.length + 1), fun j h => ?_⟩
    have h1 := Nat.le_max_left m (st.length + 1)
    have h2 := Nat.le_max_right m (st.length + 1)
    rw [fl j (by omega) (by omega)]
    exact hm j (by omega)
end
end FL

namespace FL
open PySem PySem.Spec PyProof.Rows L2

/-! ### values that stay, where something may be changed on the way -/
theorem StR.rebase {K : PySem.W.Frag} {F : Fr} {fps : Fps} {σ : L2.St} {H : Hp} {st : Sl} (r : StR K F fps σ H st) : StR K ⟨hideP H (own fps), F.pin⟩ fps σ H st := ⟨Same.refl _, r.nd, r.dj, r.len, r.ok, r.tmp, r.fin⟩
theorem StR.base {K : PySem.W.Frag} {F : Fr} {fps fps' : Fps} {σ σ' : L2.St} {H H' : Hp} {st st' : Sl} (r : StR K F fps σ H st) (r' : StR K ⟨hideP H (own fps), F.pin⟩ fps' σ' H' st') : StR K F fps' σ' H' st' := ⟨r.fr.trans r'.fr, r'.nd, r'.dj, r'.len, r'.ok, r'.tmp, r'.fin⟩
theorem sc_rep {K : PySem.W.Frag} {H : Hp} {d : D} (h : sc d = true) : Rep K H d (scV d) := by cases d <;> first | rfl | cases h
abbrev YM := Sl → Option (Bool × Sl)
abbrev ZM := Sl → Option (List D × Sl)
def tFP (K : PySem.W.Frag) (f : XM) : TE := fun σ H Q => ∃ F fps st d st', StR K F fps σ H st ∧ f st = some (d, st') ∧ ∀ v H' fps', StR K F fps' σ H' st' → Rep K (hideP H' (own fps')) d v → Q v H'
def tFTP (K : PySem.W.Frag) (f : YM) : TT := fun σ H Q => ∃ F fps st d st', StR K F fps σ H st ∧ f st = some (d, st') ∧ ∀ H' fps', StR K F fps' σ H' st' → Q d H'
def tFPA (K : PySem.W.Frag) (f : ZM) : TA := fun σ H Q => ∃ F fps st d st', StR K F fps σ H st ∧ f st = some (d, st') ∧ ∀ v H' fps', StR K F fps' σ H' st' → RepL K (hideP H' (own fps')) d v → Q v H'
abbrev FP (X : Cx) (e : Expr) (f : XM) : Prop := PE X e (tFP X.K f)
abbrev FTP (X : Cx) (e : Expr) (f : YM) : Prop := PT X e (tFTP X.K f)
abbrev FWP (X : Cx) (e : Expr) (f : YM) : Prop := PW X e (tFTP X.K f)
abbrev FPA (X : Cx) (es : List Expr) (f : ZM) : Prop := PA X es (tFPA X.K f)
section
variable {X : Cx} {k kr n j : Nat} {kd : Kd} {e a b c tg : Expr} {es : List Expr} {as bs' : List Stmt} {f g h : XM} {pos p p2 : Pos} {K : PySem.W.Frag} {t u : YM} {z : ZM}
def xOf (f : EM) : XM := fun st => (f st).map fun d => (d, st)
def yOf (f : TM) : YM := fun st => (f st).map fun d => (d, st)
theorem fp_of {f : EM} (he : FE X (.ow 0) e f) : FP X e (xOf f) := PE.weak he fun σ H Q ⟨F, fps, st, d, st', r, ed, q⟩ => by
  unfold xOf at ed
  cases ef : f st with
  | none => rw [ef] at ed; cases ed
  | some x =>
    rw [ef] at ed; cases ed
    exact ⟨F, fps, st, d, r, ef, fun v H1 s1 w => q v H1 fps (r.mono s1) (VR.ow0 w)⟩
theorem ftp_of {f : TM} (he : FT X e f) : FTP X e (yOf f) := PT.weak he fun σ H Q ⟨F, fps, st, d, st', r, ed, q⟩ => by
  unfold yOf at ed
  cases ef : f st with
  | none => rw [ef] at ed; cases ed
  | some x =>
    rw [ef] at ed; cases ed
    exact ⟨F, fps, st, d, r, ef, fun H1 s1 => q H1 fps (r.mono s1)⟩
/-- one, then another -/
def xTwo {α β γ : Type} (m : α → β → Option γ) (f : Sl → Option (α × Sl)) (g : Sl → Option (β × Sl)) : Sl → Option (γ × Sl) := fun st => (f st).bind fun r => (g r.2).bind fun s => (m r.1 s.1).map fun d => (d, s.2)
def xOne {α γ : Type} (m : α → Option γ) (f : Sl → Option (α × Sl)) : Sl → Option (γ × Sl) := fun st => (f st).bind fun r => (m r.1).map fun d => (d, r.2)
theorem xTwo_some {α β γ : Type} {m : α → β → Option γ} {f : Sl → Option (α × Sl)} {g : Sl → Option (β × Sl)} {st st' : Sl} {d : γ} (h : xTwo m f g st = some (d, st')) : ∃ x st1 y, f st = some (x, st1) ∧ g st1 = some (y, st') ∧ m x y = some d := by
  unfold xTwo at h
  cases ef : f st with
  | none => rw [ef] at h; cases h
  | some r =>
    obtain ⟨x, st1⟩ := r
    rw [ef] at h
    have h : ((g st1).bind fun s => (m x s.1).map fun d => (d, s.2)) = some (d, st') := h
    cases eg : g st1 with
    | none => rw [eg] at h; cases h
    | some s =>
      obtain ⟨y, st2⟩ := s
      rw [eg] at h
      have h : ((m x y).map fun d => (d, st2)) = some (d, st') := h
      cases em : m x y with
      | none => rw [em] at h; cases h
      | some d0 => rw [em] at h; cases h; exact ⟨x, st1, y, rfl, eg, em⟩
theorem xOne_some {α γ : Type} {m : α → Option γ} {f : Sl → Option (α × Sl)} {st st' : Sl} {d : γ} (h : xOne m f st = some (d, st')) : ∃ x, f st = some (x, st') ∧ m x = some d := by
  unfold xOne at h
  cases ef : f st with
  | none => rw [ef] at h; cases h
  | some r =>
    obtain ⟨x, st1⟩ := r
    rw [ef] at h
    have h : ((m x).map fun d => (d, st1)) = some (d, st') := h
    cases em : m x with
    | none => rw [em] at h; cases h
    | some d0 => rw [em] at h; cases h; exact ⟨x, rfl, em⟩
/-- what two values make, which stays too -/
def StayR (K : PySem.W.Frag) (m : D → D → Option D) (r : R2) : Prop := ∀ (x y : V) (H G : Hp) (Q : VK) (dx dy d : D), (∀ b, H b = none → G b = none) → Same G H → Rep K G dx x → Rep K G dy y → m dx dy = some d → (∀ v H', Same H H' → (∀ B : Addr → Prop, (∀ b, B b → H b ≠ none) → Same G (hideP H B) → Rep K (hideP H' B) d v) → Q v H') → r x y H Q
theorem tFP_two {m : D → D → Option D} {r : R2} (hr : StayR K m r) {σ : L2.St} {H : Hp} {Q : VK} (hh : tFP K (xTwo m f g) σ H Q) : tOp r (tFP K f) (tFP K g) σ H Q := by
  obtain ⟨F, fps, st, d, st', rr, ed, q⟩ := hh
  obtain ⟨x, st1, y, e1, e2, e3⟩ := xTwo_some ed
  refine ⟨F, fps, st, x, st1, rr, e1, fun v H1 fps1 r1 w1 => ⟨⟨hideP H1 (own fps1), F.pin⟩, fps1, st1, y, st', r1.rebase, e2, fun u H2 fps2 r2 w2 => ?_⟩⟩
  have w1' := Rep.mono r2.fr x v w1
  refine hr v u H2 (hideP H2 (own fps2)) Q x y d (fun b hb => ?_) hideP_same w1' w2 e3 fun w H' s hw => ?_
  · unfold hideP; split
    · rfl
    · exact hb
  · exact q w H' fps2 ((r1.base r2).mono s) (hw (own fps2) (fun b hb => (r1.base r2).there hb) (Same.refl _))
theorem stay_sc {m : D → D → Option D} {r : R2} (hr : ScR K m r) : StayR K m r := fun x y H G Q dx dy d hn s wx wy e q => by
  obtain ⟨h1, h2⟩ := hr x y H Q dx dy d (Rep.mono s dx x wx) (Rep.mono s dy y wy) e
  exact h2 (q _ H (Same.refl H) fun B _ _ => sc_rep h1)
theorem fp_bin {op : Operator} {m : D → D → Option D} {r : R2} (ho : OpR X (binaryOp op) r) (hr : ScR X.K m r) (ha : FP X a f) (hb : FP X b g) : FP X (.BinOp a op b pos) (xTwo m f g) :=
  PE.weak (pe_op ho ha hb) fun _ _ _ => tFP_two (stay_sc hr)
theorem fp_cmpB {op : CmpOp} {m : D → D → Option D} {r : R2} (ho : OpR X (compareOp op) r) (hr : ScR X.K m r) (hm : behindInMarks op b = false) (ha : FP X a f) (hb : FP X b g) : FP X (.Compare a [op] [b] pos) (xTwo m f g) :=
  PE.weak (pe_cmpR ho ha hb hm) fun _ _ _ => tFP_two (stay_sc hr)
def bOf : D → Option Bool
  | .bl b => some b
  | _ => none
theorem bOf_some {d : D} {b : Bool} (h : bOf d = some b) : d = .bl b := by
  unfold bOf at h
  split at h
  · cases h; rfl
  · cases h
theorem tFTP_of {te : TE} (ht : ∀ σ H Q, tFP K f σ H Q → te σ H Q) {σ : L2.St} {H : Hp} {Q : Bool → Hp → Prop} (hh : tFTP K (xOne bOf f) σ H Q) : te σ H fun x H' => ∃ k, x = .bl k ∧ Q k H' := by
  obtain ⟨F, fps, st, d, st', rr, ed, q⟩ := hh
  obtain ⟨x, e1, e2⟩ := xOne_some ed
  obtain rfl := bOf_some e2
  exact ht σ H _ ⟨F, fps, st, .bl d, st', rr, e1, fun v H' fps' r' w => ⟨d, w, q H' fps' r'⟩⟩
theorem ftp_cmpB {op : CmpOp} {m : D → D → Option D} {r : R2} (ho : OpR X (compareOp op) r) (hr : ScR X.K m r) (hm : behindInMarks op b = false) (ha : FP X a f) (hb : FP X b g) : FTP X (.Compare a [op] [b] pos) (xOne bOf (xTwo m f g)) :=
  PT.weak (pt_cmpR ho ha hb hm) fun _ _ _ h => tFTP_of (fun _ _ _ => tFP_two (stay_sc hr)) h
theorem ftp_val (he : FP X e f) (hw : ∀ whole, isTrue e X.env whole = (do let v ← whole; standAt e.pos; holding [v] (truthy v)) := by intro _; rfl) : FTP X e (xOne bOf f) :=
  PT.weak (pt_val he hw) fun _ _ _ h => tFTP_of (fun _ _ _ q => q) h
theorem fp_add (ha : FP X a f) (hb : FP X b g) : FP X (.BinOp a .Add b pos) (xTwo mAddI f g) := fp_bin op_add (scr_int0 fun _ _ => ⟨rfl, rfl⟩) ha hb
theorem fp_sub (ha : FP X a f) (hb : FP X b g) : FP X (.BinOp a .Sub b pos) (xTwo mSub f g) := fp_bin op_sub (scr_int0 fun _ _ => ⟨rfl, rfl⟩) ha hb
theorem fp_mul (ha : FP X a f) (hb : FP X b g) : FP X (.BinOp a .Mult b pos) (xTwo mMul f g) := fp_bin op_mul (scr_int mulOk_ok fun _ _ => ⟨rfl, rfl⟩) ha hb
theorem fp_div (ha : FP X a f) (hb : FP X b g) : FP X (.BinOp a .FloorDiv b pos) (xTwo mDiv f g) := fp_bin op_fdivW (scr_int (C := CDivW) (fun i j h => by
  unfold divOk at h
  simp only [Bool.and_eq_true, decide_eq_true_eq] at h
  exact h) fun _ _ => ⟨rfl, rfl⟩) ha hb
theorem fp_mod (ha : FP X a f) (hb : FP X b g) : FP X (.BinOp a .Mod b pos) (xTwo mMod f g) := fp_bin op_mod (scr_int (fun i j h => of_decide_eq_true h) fun _ _ => ⟨rfl, rfl⟩) ha hb
theorem ftp_lt (ha : FP X a f) (hb : FP X b g) : FTP X (.Compare a [.Lt] [b] pos) (xOne bOf (xTwo mLt f g)) := ftp_cmpB op_lt (scr_int0 fun _ _ => ⟨rfl, rfl⟩) (nomark _) ha hb
theorem ftp_le (ha : FP X a f) (hb : FP X b g) : FTP X (.Compare a [.LtE] [b] pos) (xOne bOf (xTwo mLe f g)) := ftp_cmpB op_le (scr_int0 fun _ _ => ⟨rfl, rfl⟩) (nomark _) ha hb
theorem ftp_gt (ha : FP X a f) (hb : FP X b g) : FTP X (.Compare a [.Gt] [b] pos) (xOne bOf (xTwo mGt f g)) := ftp_cmpB op_gt (scr_int0 fun _ _ => ⟨rfl, rfl⟩) (nomark _) ha hb
theorem ftp_ge (ha : FP X a f) (hb : FP X b g) : FTP X (.Compare a [.GtE] [b] pos) (xOne bOf (xTwo mGe f g)) := ftp_cmpB op_ge (scr_int0 fun _ _ => ⟨rfl, rfl⟩) (nomark _) ha hb
theorem ftp_eq (hu : X.A.units + 64 < cLine) (ha : FP X a f) (hb : FP X b g) : FTP X (.Compare a [.Eq] [b] pos) (xOne bOf (xTwo mEq f g)) := ftp_cmpB (op_eqD hu) scr_eq (nomark _) ha hb
theorem ftp_ne (hu : X.A.units + 64 < cLine) (ha : FP X a f) (hb : FP X b g) : FTP X (.Compare a [.NotEq] [b] pos) (xOne bOf (xTwo mNe f g)) := ftp_cmpB (op_neD hu) scr_ne (nomark _) ha hb
theorem fp_eq (hu : X.A.units + 64 < cLine) (ha : FP X a f) (hb : FP X b g) : FP X (.Compare a [.Eq] [b] pos) (xTwo mEq f g) := fp_cmpB (op_eqD hu) scr_eq (nomark _) ha hb
theorem fp_ne (hu : X.A.units + 64 < cLine) (ha : FP X a f) (hb : FP X b g) : FP X (.Compare a [.NotEq] [b] pos) (xTwo mNe f g) := fp_cmpB (op_neD hu) scr_ne (nomark _) ha hb
theorem fp_lt (ha : FP X a f) (hb : FP X b g) : FP X (.Compare a [.Lt] [b] pos) (xTwo mLt f g) := fp_cmpB op_lt (scr_int0 fun _ _ => ⟨rfl, rfl⟩) (nomark _) ha hb
theorem fp_le (ha : FP X a f) (hb : FP X b g) : FP X (.Compare a [.LtE] [b] pos) (xTwo mLe f g) := fp_cmpB op_le (scr_int0 fun _ _ => ⟨rfl, rfl⟩) (nomark _) ha hb
theorem fp_gt (ha : FP X a f) (hb : FP X b g) : FP X (.Compare a [.Gt] [b] pos) (xTwo mGt f g) := fp_cmpB op_gt (scr_int0 fun _ _ => ⟨rfl, rfl⟩) (nomark _) ha hb
theorem fp_ge (ha : FP X a f) (hb : FP X b g) : FP X (.Compare a [.GtE] [b] pos) (xTwo mGe f g) := fp_cmpB op_ge (scr_int0 fun _ _ => ⟨rfl, rfl⟩) (nomark _) ha hb
theorem ftp_isN (ha : FP X a f) (hb : FP X b g) : FTP X (.Compare a [.Is] [b] pos) (xOne bOf (xTwo mIsN f g)) := ftp_cmpB op_isN scr_isN (nomark _) ha hb
theorem ftp_notN (ha : FP X a f) (hb : FP X b g) : FTP X (.Compare a [.IsNot] [b] pos) (xOne bOf (xTwo mNotN f g)) := ftp_cmpB op_notN scr_notN (nomark _) ha hb
def mNegI : D → Option D
  | .int i => some (.int (-i))
  | _ => none
theorem fp_neg (ha : FP X a f) : FP X (.UnaryOp .USub a pos) (xOne mNegI f) := PE.weak (pe_un un_neg ha) fun σ H Q ⟨F, fps, st, d, st', r, ed, q⟩ => by
  obtain ⟨x, e1, e2⟩ := xOne_some ed
  unfold mNegI at e2
  split at e2
  · cases e2
    exact ⟨F, fps, st, _, st', r, e1, fun v H1 fps1 r1 w => ⟨_, w, q _ H1 fps1 r1 rfl⟩⟩
  · cases e2
theorem ftp_not (ha : FTP X a t) : FTP X (.UnaryOp .Not a pos) (xOne (fun b => some (!b)) t) := PT.weak (pt_not ha) fun σ H Q ⟨F, fps, st, d, st', r, ed, q⟩ => by
  obtain ⟨x, e1, e2⟩ := xOne_some ed
  cases e2
  exact ⟨F, fps, st, x, st', r, e1, fun H1 fps1 r1 => q H1 fps1 r1⟩
def yAnd (f g : YM) : YM := fun st => (f st).bind fun r => if r.1 = true then g r.2 else some (false, r.2)
def yOr (f g : YM) : YM := fun st => (f st).bind fun r => if r.1 = true then some (true, r.2) else g r.2
theorem fwp_and1 (ha : FTP X a t) : FWP X (.BoolOp .And [a] pos) t := pw_and1 ha
theorem fwp_or1 (ha : FTP X a t) : FWP X (.BoolOp .Or [a] pos) t := pw_or1 ha
theorem fwp_and {rest : List Expr} (ha : FTP X a t) (hb : FWP X (.BoolOp .And (b :: rest) pos) u) : FWP X (.BoolOp .And (a :: b :: rest) pos) (yAnd t u) := PW.weak (pw_and ha hb) fun σ H Q ⟨F, fps, st, d, st', r, ed, q⟩ => by
  unfold yAnd at ed
  cases ef : t st with
  | none => rw [ef] at ed; cases ed
  | some x =>
    obtain ⟨x, st1⟩ := x
    rw [ef] at ed
    refine ⟨F, fps, st, x, st1, r, ef, fun H1 fps1 r1 => ?_⟩
    cases x with
    | true => exact ⟨F, fps1, st1, d, st', r1, ed, q⟩
    | false => cases ed; exact q H1 fps1 r1
theorem fwp_or {rest : List Expr} (ha : FTP X a t) (hb : FWP X (.BoolOp .Or (b :: rest) pos) u) : FWP X (.BoolOp .Or (a :: b :: rest) pos) (yOr t u) := PW.weak (pw_or ha hb) fun σ H Q ⟨F, fps, st, d, st', r, ed, q⟩ => by
  unfold yOr at ed
  cases ef : t st with
  | none => rw [ef] at ed; cases ed
  | some x =>
    obtain ⟨x, st1⟩ := x
    rw [ef] at ed
    refine ⟨F, fps, st, x, st1, r, ef, fun H1 fps1 r1 => ?_⟩
    cases x with
    | false => exact ⟨F, fps1, st1, d, st', r1, ed, q⟩
    | true => cases ed; exact q H1 fps1 r1
def xIf (t : YM) (f g : XM) : XM := fun st => (t st).bind fun r => if r.1 = true then f r.2 else g r.2
theorem fp_if (hc : FTP X c t) (ha : FP X a f) (hb : FP X b g) : FP X (.IfExp c a b pos) (xIf t f g) := PE.weak (pe_ifExp hc ha hb) fun σ H Q ⟨F, fps, st, d, st', r, ed, q⟩ => by
  unfold xIf at ed
  cases ef : t st with
  | none => rw [ef] at ed; cases ed
  | some x =>
    obtain ⟨x, st1⟩ := x
    rw [ef] at ed
    refine ⟨F, fps, st, x, st1, r, ef, fun H1 fps1 r1 => ?_⟩
    cases x with
    | true => exact ⟨F, fps1, st1, d, st', r1, ed, q⟩
    | false => exact ⟨F, fps1, st1, d, st', r1, ed, q⟩
/-! ### lists of them -/
def zNil : ZM := fun st => some ([], st)
def zCons (f : XM) (z : ZM) : ZM := xTwo (fun x xs => some (x :: xs)) f z
theorem fpa_nil : FPA X [] zNil := PA.weak pa_nil fun σ H Q ⟨F, fps, st, d, st', r, ed, q⟩ => by
  cases ed
  exact q [] H fps r rfl
theorem fpa_cons (ha : FP X e f) (hr : FPA X es z) (hs : starEach (e :: es) X.env = (false, eval e X.env) :: starEach es X.env := by rfl) : FPA X (e :: es) (zCons f z) := PA.weak (pa_cons ha hr hs) fun σ H Q ⟨F, fps, st, d, st', r, ed, q⟩ => by
  obtain ⟨x, st1, y, e1, e2, e3⟩ := xTwo_some ed
  cases e3
  refine ⟨F, fps, st, x, st1, r, e1, fun v H1 fps1 r1 w1 => ⟨⟨hideP H1 (own fps1), F.pin⟩, fps1, st1, y, st', r1.rebase, e2, fun vs H2 fps2 r2 w2 => q (v :: vs) H2 fps2 (r1.base r2) ⟨v, vs, rfl, Rep.mono r2.fr x v w1, w2⟩⟩⟩
def mTup (ds : List D) : Option D := if lenOk ds.length = true then some (.tup ds) else none
def mLst (ds : List D) : Option D := if lenOk ds.length = true then some (.lst ds) else none
theorem hide_new {H : Hp} {P : Addr → Prop} {q : Addr} {o : HO} (nq : H q = none) (hP : ∀ a, P a → H a ≠ none) : Same (hideP H P) (hideP (upd H q o) P) ∧ hideP (upd H q o) P q = some o :=
  ⟨hideP_mono (same_upd nq) fun _ _ _ h => h, hideP_some.mpr ⟨fun z => hP q z nq, upd_same⟩⟩
theorem fp_tup {x1} (ha : FPA X es z) : FP X (.Tuple es x1 pos) (xOne mTup z) := PE.weak (pe_tup ha) fun σ H Q ⟨F, fps, st, d, st', r, ed, q⟩ => by
  obtain ⟨ds, e1, e2⟩ := xOne_some ed
  unfold mTup at e2
  split at e2
  · rename_i hl
    cases e2
    refine ⟨F, fps, st, ds, st', r, e1, fun vs H1 fps1 r1 w => ⟨by rw [w.length]; exact lenOk_le hl, fun p np => ?_⟩⟩
    obtain ⟨h1, h2⟩ := hide_new (o := .tup vs) np (P := own fps1) fun a h => r1.there h
    exact q _ _ fps1 (r1.mono (same_upd np)) ⟨p, vs, rfl, .inl (.inl h2), RepL.mono h1 ds vs w⟩
  · cases e2
theorem fp_lst (ha : FPA X es z) : FP X (.List es pos) (xOne mLst z) := PE.weak (pe_lst ha) fun σ H Q ⟨F, fps, st, d, st', r, ed, q⟩ => by
  obtain ⟨ds, e1, e2⟩ := xOne_some ed
  unfold mLst at e2
  split at e2
  · rename_i hl
    cases e2
    refine ⟨F, fps, st, ds, st', r, e1, fun vs H1 fps1 r1 w => ⟨by rw [w.length]; exact lenOk_le hl, fun p np => ?_⟩⟩
    obtain ⟨h1, h2⟩ := hide_new (o := .lst vs) np (P := own fps1) fun a h => r1.there h
    exact q _ _ fps1 (r1.mono (same_upd np)) ⟨p, vs, rfl, h2, RepL.mono h1 ds vs w⟩
  · cases e2
theorem fp_ix (ha : FP X a f) (hb : FP X b g) (hs : PlainIx b := by intro _ _; rfl) : FP X (.Subscript a b pos) (xTwo mIx f g) := PE.weak (pe_ix ix_seq ha hb hs) fun σ H Q ⟨F, fps, st, d, st', rr, ed, q⟩ => by
  obtain ⟨x, st1, y, e1, e2, e3⟩ := xTwo_some ed
  refine ⟨F, fps, st, x, st1, rr, e1, fun v H1 fps1 r1 w1 => ⟨⟨hideP H1 (own fps1), F.pin⟩, fps1, st1, y, st', r1.rebase, e2, fun u H2 fps2 r2 w2 => ?_⟩⟩
  have w1' := Rep.mono r2.fr x v w1
  obtain ⟨w, h1, h2⟩ := mIx_rep hideP_same w1' (Rep.mono hideP_same y u w2) e3
  exact h2 Q (q w H2 fps2 (r1.base r2) h1)
theorem fp_catTA (ha : FP X a f) (hb : FP X b g) : FP X (.BinOp a .Add b pos) (xTwo mCatTA f g) := PE.weak (pe_op op_catA ha hb) fun σ H Q ⟨F, fps, st, d, st', rr, ed, q⟩ => by
  obtain ⟨x, st1, y, e1, e2, e3⟩ := xTwo_some ed
  refine ⟨F, fps, st, x, st1, rr, e1, fun v H1 fps1 r1 w1 => ⟨⟨hideP H1 (own fps1), F.pin⟩, fps1, st1, y, st', r1.rebase, e2, fun u H2 fps2 r2 w2 => ?_⟩⟩
  have w1' := Rep.mono r2.fr x v w1
  have hn : ∀ b, own fps2 b → H2 b ≠ none := fun b hb => (r1.base r2).there hb
  unfold mCatTA at e3
  split at e3
  · split at e3
    · rename_i hl
      cases e3
      obtain ⟨l, xs, l1, l2, l3⟩ := w1'
      obtain ⟨m, ys, m1, m2, m3⟩ := w2
      have hx := l3.length
      have hy := m3.length
      refine ⟨l, m, xs, ys, l1, m1, Same.sqt hideP_same l2, Same.sqt hideP_same m2, by rw [hx, hy]; exact lenOk_le hl, fun z => ?_, fun _ z => ?_, fun _ _ p np => ?_⟩
      · refine q _ _ fps2 (r1.base r2) ?_
        have := l3.app m3
        rw [z, List.nil_append] at this
        exact ⟨m, ys, rfl, m2, this⟩
      · refine q _ _ fps2 (r1.base r2) ?_
        have := l3.app m3
        rw [z, List.append_nil] at this
        exact ⟨l, xs, rfl, l2, this⟩
      · obtain ⟨h1, h2⟩ := hide_new (o := .tup (xs ++ ys)) np (P := own fps2) hn
        exact q _ _ fps2 ((r1.base r2).mono (same_upd np)) ⟨p, _, rfl, .inl (.inl h2), RepL.mono h1 _ _ (l3.app m3)⟩
    · cases e3
  · cases e3
/-! ### calls -/
/-- a built-in whose answer is a scalar -/
theorem tFP_cb {m : List D → Option D} {r : List V → Hp → VK → Prop} (hr : ScC K m r) {σ : L2.St} {H : Hp} {Q : VK} (hh : tFP K (xOne m z) σ H Q) : tCB r (tFPA K z) σ H Q := by
  obtain ⟨F, fps, st, d, st', rr, ed, q⟩ := hh
  obtain ⟨ds, e1, e2⟩ := xOne_some ed
  refine ⟨F, fps, st, ds, st', rr, e1, fun vs H1 fps1 r1 w => ?_⟩
  obtain ⟨h1, h2⟩ := hr vs H1 Q ds d (RepL.mono hideP_same ds vs w) e2
  exact h2 (q _ H1 fps1 r1 (sc_rep h1))
theorem fp_len {p : Pos} (hg : Gl X "len") (hm : X.mg "len" = none) (ha : FPA X (e :: es) z) (he : starEach (e :: es) X.env = (false, eval e X.env) :: starEach es X.env := by rfl) (hpl : (backTo pos (starEach es X.env)).any (·.1) = false := by rfl) :
    FP X (.Call (.Name "len" p) (e :: es) [] pos) (xOne mLen z) := PE.weak (pe_callB call_len hg hm PySem.boot_len ha (by decide) (by decide) he hpl) fun _ _ _ => tFP_cb scc_len
variable {m : List D → Option D} {fn : Addr} {fd : FuncData} {ps : List Str} {x : Str} {p : Pos}
/-- how many -/
def ZLen (n : Nat) (f : ZM) : Prop := ∀ st ds st', f st = some (ds, st') → ds.length = n
theorem zlen_nil : ZLen 0 zNil := fun st ds st' e => by cases e; rfl
theorem zlen_cons (h : ZLen n z) : ZLen (n + 1) (zCons f z) := fun st ds st' e => by
  obtain ⟨x, st1, y, e1, e2, e3⟩ := xTwo_some e
  cases e3
  rw [List.length_cons, h _ _ _ e2]
/-- a def of the program's own -/
def mChk (k : Nat) (m : List D → Option D) (ds : List D) : Option D := (m ds).bind (chk k)
theorem fp_call (G : FnOk X.prog X.w X.K X.mg X.base CX0 j fn fd ps (spF X.K n k m)) (hr : Room j X.A) (hg : Gl X x) (hm : X.mg x = some (.ref fn)) (hk : PySem.W.keepIn X.K (.ref fn) = true) (hb : Binds X.K fd ps []) (ha : FPA X (e :: es) z) (hl : ZLen n z) (hdb : (x == ("__debug__" : Str)) = false := by decide)
    (he : starEach (e :: es) X.env = (false, eval e X.env) :: starEach es X.env := by rfl) (hpl : (backTo pos (starEach es X.env)).any (·.1) = false := by rfl) : FP X (.Call (.Name x p) (e :: es) [] pos) (xOne (mChk k m) z) :=
  PE.weak (pe_call G hr hg hm hk hb .nil (pass0 (X := X)) ha hdb he hpl) fun σ H Q ⟨F, fps, st, d, st', r, ed, q⟩ => by
    obtain ⟨ds, e1, e2⟩ := xOne_some ed
    obtain ⟨e2, fl⟩ := chk_some e2
    refine ⟨F, fps, st, ds, st', r, e1, fun vs H1 fps1 r1 w => ⟨by simpa using w.length.trans (hl _ _ _ e1), ds, d, by rw [List.append_nil]; exact RepL.mono hideP_same ds vs w, e2, fun v H2 s2 ⟨fp, n, fr, o⟩ => ?_⟩⟩
    have r2 := r1.mono s2
    refine q v H2 fps1 r2 ?_
    have lst := Own.isLst d k v fp o
    have o2 : Own X.K H2 (hideP H2 (own2 fps1 fp)) d k v fp := Own.rebase fl (fun a h => by
      rcases h with m | h
      · exact lst a m
      · exact r2.isLst h) o
    exact Own.rep (hideP_mono (Same.refl _) fun a o' _ h z => h (.inr z)) d k v fp (fun a m => hideP_not fun z => r1.there z (fr a m)) o2
/-- .. what comes is the caller's own -/
theorem fx_callP (G : FnOk X.prog X.w X.K X.mg X.base CX0 j fn fd ps (spF X.K n k m)) (hr : Room j X.A) (hg : Gl X x) (hm : X.mg x = some (.ref fn)) (hk : PySem.W.keepIn X.K (.ref fn) = true) (hb : Binds X.K fd ps []) (ha : FPA X (e :: es) z) (hl : ZLen n z) (hdb : (x == ("__debug__" : Str)) = false := by decide)
    (he : starEach (e :: es) X.env = (false, eval e X.env) :: starEach es X.env := by rfl) (hpl : (backTo pos (starEach es X.env)).any (·.1) = false := by rfl) : FX X (.ow k) (.Call (.Name x p) (e :: es) [] pos) (xOne (mChk k m) z) :=
  PE.weak (pe_call G hr hg hm hk hb .nil (pass0 (X := X)) ha hdb he hpl) fun σ H Q ⟨F, fps, st, d, st', r, ed, q⟩ => by
    obtain ⟨ds, e1, e2⟩ := xOne_some ed
    obtain ⟨e2, fl⟩ := chk_some e2
    refine ⟨F, fps, st, ds, st', r, e1, fun vs H1 fps1 r1 w => ⟨by simpa using w.length.trans (hl _ _ _ e1), ds, d, by rw [List.append_nil]; exact RepL.mono hideP_same ds vs w, e2, fun v H2 s2 ⟨fp, n, fr, o⟩ => ?_⟩⟩
    have lst := Own.isLst d k v fp o
    obtain ⟨m0, hm0⟩ := r1.fin
    obtain ⟨mm, hle, hmm, rt⟩ : ∃ mm, st'.length ≤ mm ∧ fps1 mm = [] ∧ StR X.K F (setF fps1 mm fp) σ H2 st' := r1.temp' s2 n fr lst
    refine q v H2 _ rt ⟨mm, hle, ?_⟩
    rw [setF_same]
    exact Own.rebase fl (fun a h => rt.isLst h) o
/-! ### statements -/
variable {s1 s2 : SM} {stm : Stmt}
def sSetP (i : Nat) (f : XM) : SM := fun st => (f st).bind fun r => if isVa r.2[i]? = true then some (.nx (r.2.set i (.va 0 r.1))) else none
theorem StR.setP {F : Fr} {fps : Fps} {σ : L2.St} {H : Hp} {st : Sl} {i : Nat} {d : D} {v : V} (r : StR K F fps σ H st) (hi : i < st.length) (w : Rep K (hideP H (own fps)) d v) : StR K F (setF fps i []) (σ.set i (some v)) H (st.set i (.va 0 d)) :=
  r.set (fp := []) (Same.refl H) hi List.nodup_nil (fun a m => (by cases m)) (Own.shared d v (Rep.mono (hideP_mono (Same.refl _) fun a o _ h z => h (z.resolve_left fun m => by cases m)) d v w))
theorem fs_setP {i : Nat} {pos' : Pos} (hN : X.N.Nodup) (hi : X.N[i]? = some x) (hx : Loc X.env.scope x) (he : FP X e f) (hs : swapsWith e (some (.Name x pos')) pos.line X.env = pure false := by rfl) (hf : X.fn x = true ∨ X.env.scope.names.lookup x = some .local := by first | exact .inl rfl | exact .inr rfl | assumption) :
    FS X k (.Assign [.Name x pos'] e pos) (sSetP i f) := PS.weak (ps_set hN hi hx he hs hf) fun Dn σ H ⟨F, st, o, ⟨fps, r⟩, eo, c⟩ => by
  unfold sSetP at eo
  cases ef : f st with
  | none => rw [ef] at eo; cases eo
  | some y =>
    obtain ⟨d, st'⟩ := y
    rw [ef] at eo
    have eo : (if isVa st'[i]? = true then some (Out.nx (st'.set i (.va 0 d))) else none) = some o := eo
    split at eo
    · rename_i hv
      cases eo
      exact ⟨F, fps, st, d, st', r, ef, fun v H1 fps1 r1 w => c _ H1 ⟨_, r1.setP (isVa_lt hv) w⟩⟩
    · cases eo
def sExpP (f : XM) : SM := fun st => (f st).map fun r => .nx r.2
theorem fs_expP (he : FP X e f) (hs : swapsWith e none pos.line X.env = pure false := by rfl) : FS X k (.Expr e pos) (sExpP f) := PS.weak (ps_expr he hs) fun Dn σ H ⟨F, st, o, ⟨fps, r⟩, eo, c⟩ => by
  unfold sExpP at eo
  cases ef : f st with
  | none => rw [ef] at eo; cases eo
  | some y =>
    obtain ⟨d, st'⟩ := y
    rw [ef] at eo; cases eo
    exact ⟨F, fps, st, d, st', r, ef, fun v H1 fps1 r1 w => c _ H1 ⟨_, r1⟩⟩
def sRetP (f : XM) : SM := fun st => (f st).map fun r => .rt r.1 r.2
theorem fs_retP (he : FP X e f) : FS X 0 (.Return (some e) pos) (sRetP f) := PS.weak (ps_ret he) fun Dn σ H ⟨F, st, o, ⟨fps, r⟩, eo, c⟩ => by
  unfold sRetP at eo
  cases ef : f st with
  | none => rw [ef] at eo; cases eo
  | some y =>
    obtain ⟨d, st'⟩ := y
    rw [ef] at eo; cases eo
    exact ⟨F, fps, st, d, st', r, ef, fun v H1 fps1 r1 w => c v H1 (r1.ret (Same.refl H1) (VR.mk0 w))⟩
/-- what comes has no lists -/
def sRetPF (f : XM) : SM := fun st => (f st).bind fun r => (chk 0 r.1).map fun d => .rt d r.2
theorem fs_retPF (he : FP X e f) : FS X k (.Return (some e) pos) (sRetPF f) := PS.weak (ps_ret he) fun Dn σ H ⟨F, st, o, ⟨fps, r⟩, eo, c⟩ => by
  unfold sRetPF at eo
  cases ef : f st with
  | none => rw [ef] at eo; cases eo
  | some y =>
    obtain ⟨d, st'⟩ := y
    rw [ef] at eo
    have eo : ((chk 0 d).map fun d => Out.rt d st') = some o := eo
    unfold chk at eo
    split at eo
    · rename_i fl
      cases eo
      exact ⟨F, fps, st, d, st', r, ef, fun v H1 fps1 r1 w => c v H1 (r1.ret (Same.refl H1) (VR.fl r1 fl (Rep.mono hideP_same d v w)))⟩
    · cases eo
def sIfP (t : YM) (g1 g2 : SM) : SM := fun st => (t st).bind fun r => if r.1 = true then g1 r.2 else g2 r.2
theorem fs_ifP (hc : FTP X c t) (ha : FSs X k as s1) (hb : FSs X k bs' s2) : FS X k (.If c as bs' pos) (sIfP t s1 s2) := PS.weak (ps_if hc ha hb) fun Dn σ H ⟨F, st, o, ⟨fps, r⟩, e, c⟩ => by
  unfold sIfP at e
  cases e1 : t st with
  | none => rw [e1] at e; cases e
  | some b =>
    obtain ⟨b, st1⟩ := b
    rw [e1] at e
    refine ⟨F, fps, st, b, st1, r, e1, fun H1 fps1 r1 => ?_⟩
    cases b with
    | true => exact ⟨F, st1, o, ⟨fps1, r1⟩, e, c⟩
    | false => exact ⟨F, st1, o, ⟨fps1, r1⟩, e, c⟩
def sAsgP (m : GM) (f : XM) : SM := fun st => (f st).bind fun r => (m r.1 r.2).map .nx
theorem fs_asgP {m : GM} {I : List Nat} (he : FP X e f) (hg : FG X I tg m) (hs : swapsWithSole [tg] e pos.line X.env = pure false := by rfl) (hw : swappedStores [tg] e X.env = pure none := by rfl)
    (h1 : (assignEach [tg] X.env).map (·.2) = [assign tg X.env] := by rfl) : FS X k (.Assign [tg] e pos) (sAsgP m f) := PS.weak (ps_asg he hg hs hw h1) fun Dn σ H ⟨F, st, o, ⟨fps, r⟩, eo, c⟩ => by
  unfold sAsgP at eo
  cases ef : f st with
  | none => rw [ef] at eo; cases eo
  | some y =>
    obtain ⟨d, st'⟩ := y
    rw [ef] at eo
    have eo : (m d st').map Out.nx = some o := eo
    cases e2 : m d st' with
    | none => rw [e2] at eo; cases eo
    | some st2 =>
      rw [e2] at eo; cases eo
      exact ⟨F, fps, st, d, st', r, ef, fun v H1 fps1 r1 w => ⟨F, fps1, st', d, st2, r1, w, e2, fun σ' fps' r' _ _ _ => c σ' H1 ⟨fps', r'⟩⟩⟩
end
end FL

namespace FL
open PySem PySem.Spec PyProof.Rows L2

/-! ### a < b < c -/
section
variable {X : Cx} {k kr n j : Nat} {kd : Kd} {e a b c tg : Expr} {f g h : EM} {pos p p2 : Pos} {K : PySem.W.Frag}
def eChain (m m' : D → D → Option D) (f g h : EM) : EM := fun st => (f st).bind fun x => (g st).bind fun y => (m x y).bind fun z => match z with
  | .bl true => (h st).bind fun w => m' y w
  | .bl false => some (.bl false)
  | _ => none
theorem tF_chain {m m' : D → D → Option D} {r r' : R2} (hr : ScR K m r) (hr' : ScR K m' r') {σ : L2.St} {H : Hp} {Q : VK} (hh : tF K kd (eChain m m' f g h) σ H Q) : tChain r r' (tF K .rd f) (tF K .rd g) (tF K .rd h) σ H Q := by
  obtain ⟨F, fps, st, d, rr, ed, q⟩ := hh
  unfold eChain at ed
  cases e1 : f st with
  | none => rw [e1] at ed; cases ed
  | some x =>
    rw [e1] at ed
    cases e2 : g st with
    | none => rw [show ((some x).bind fun x => (g st).bind _) = (g st).bind _ from rfl, e2] at ed; cases ed
    | some y =>
      rw [show ((some x).bind fun x => (g st).bind _) = (g st).bind _ from rfl, e2] at ed
      cases e3 : m x y with
      | none => rw [show ((some y).bind fun y => (m x y).bind _) = (m x y).bind _ from rfl, e3] at ed; cases ed
      | some z =>
        rw [show ((some y).bind fun y => (m x y).bind _) = (m x y).bind _ from rfl, e3] at ed
        refine ⟨F, fps, st, x, rr, e1, fun v H1 s1 w1 => ⟨F, fps, st, y, rr.mono s1, e2, fun u H2 s2 w2 => ?_⟩⟩
        obtain ⟨h1, h2⟩ := hr v u H2 (fun z H3 => ∃ k, z = .bl k ∧ (if k = true then tF K .rd h σ H3 fun w' H4 => r' u w' H4 Q else Q (.bl false) H3)) x y z (Rep.mono s2 x v w1) w2 e3
        refine h2 ?_
        cases z with
        | bl c =>
          refine ⟨c, rfl, ?_⟩
          cases c with
          | true =>
            refine iteT ?_
            have ed : ((h st).bind fun w => m' y w) = some d := ed
            cases e4 : h st with
            | none => rw [e4] at ed; cases ed
            | some w =>
              rw [e4] at ed
              refine ⟨F, fps, st, w, (rr.mono s1).mono s2, e4, fun t H3 s3 w3 => ?_⟩
              obtain ⟨h3, h4⟩ := hr' u t H3 Q y w d (Rep.mono s3 y u w2) w3 ed
              exact h4 (q _ H3 ((s1.trans s2).trans s3) (VR.sc h3 rfl))
          | false =>
            refine iteF ?_
            cases ed
            exact q _ H2 (s1.trans s2) (VR.sc (d := .bl false) rfl rfl)
        | _ => cases ed
theorem fe_chain {op op' : CmpOp} {m m' : D → D → Option D} {r r' : R2} (ho : OpR X (compareOp op) r) (ho' : OpR X (compareOp op') r') (hr : ScR X.K m r) (hr' : ScR X.K m' r') (ha : FE X .rd a f) (hb : FE X .rd b g) (hc : FE X .rd c h) (hm : lastMarks [op, op'] [b, c] = false := by with_unfolding_all rfl) :
    FE X kd (.Compare a [op, op'] [b, c] pos) (eChain m m' f g h) := PE.weak (pe_chain ho ho' ha hb hc hm) fun _ _ _ => tF_chain hr hr'
theorem ft_chain {op op' : CmpOp} {m m' : D → D → Option D} {r r' : R2} (ho : OpR X (compareOp op) r) (ho' : OpR X (compareOp op') r') (hr : ScR X.K m r) (hr' : ScR X.K m' r') (ha : FE X .rd a f) (hb : FE X .rd b g) (hc : FE X .rd c h) (hm : lastMarks [op, op'] [b, c] = false := by with_unfolding_all rfl) :
    FT X (.Compare a [op, op'] [b, c] pos) (qVal (eChain m m' f g h)) := PT.weak (pt_chain ho ho' ha hb hc hm) fun _ _ _ h => tFT_of (fun _ _ _ => tF_chain hr hr') h
theorem ft_ltlt (ha : FE X .rd a f) (hb : FE X .rd b g) (hc : FE X .rd c h) (hm : lastMarks [.Lt, .Lt] [b, c] = false := by with_unfolding_all rfl) : FT X (.Compare a [.Lt, .Lt] [b, c] pos) (qVal (eChain mLt mLt f g h)) := ft_chain op_lt op_lt (scr_int0 fun _ _ => ⟨rfl, rfl⟩) (scr_int0 fun _ _ => ⟨rfl, rfl⟩) ha hb hc hm
end
end FL

namespace FL
open PySem PySem.Spec PyProof.Rows L2

section
variable {X : Cx} {k kr j : Nat} {K : PySem.W.Frag} {e a b c tg : Expr} {es : List Expr} {f g h : EM} {fa : AM} {pos p p2 : Pos}
/-- two temporaries become one -/
theorem StR.merge {F : Fr} {fps : Fps} {σ : L2.St} {H : Hp} {st : Sl} {m n : Nat} (r : StR K F fps σ H st) (hm : st.length ≤ m) (hn : st.length ≤ n) (hmn : m ≠ n) :
    ∃ fps' : Fps, StR K F fps' σ H st ∧ fps' m = fps m ++ fps n ∧ ∀ a, own fps' a ↔ own fps a := by
  let fps' : Fps := fun j => if j = m then fps m ++ fps n else if j = n then [] else fps j
  have fm : fps' m = fps m ++ fps n := if_pos rfl
  have fn : fps' n = [] := by show (if n = m then _ else if n = n then _ else _) = _; rw [if_neg (Ne.symm hmn), if_pos rfl]
  have fo : ∀ j, j ≠ m → j ≠ n → fps' j = fps j := fun j h1 h2 => by show (if j = m then _ else if j = n then _ else _) = _; rw [if_neg h1, if_neg h2]
  have back : ∀ a, own fps' a ↔ own fps a := fun a => by
    constructor
    · rintro ⟨j, mj⟩
      by_cases h1 : j = m
      · rw [h1, fm] at mj
        rcases List.mem_append.mp mj with z | z
        · exact ⟨m, z⟩
        · exact ⟨n, z⟩
      · by_cases h2 : j = n
        · rw [h2, fn] at mj; cases mj
        · rw [fo j h1 h2] at mj; exact ⟨j, mj⟩
    · rintro ⟨j, mj⟩
      by_cases h1 : j = m
      · exact ⟨m, by rw [fm]; exact List.mem_append_left _ (h1 ▸ mj)⟩
      · by_cases h2 : j = n
        · exact ⟨m, by rw [fm]; exact List.mem_append_right _ (h2 ▸ mj)⟩
        · exact ⟨j, by rw [fo j h1 h2]; exact mj⟩
  have hide : Same (hideP H (own fps)) (hideP H (own fps')) := hideP_mono (Same.refl _) fun a _ _ h z => h ((back a).mp z)
  have from' : ∀ (a : Addr) (j : Nat), a ∈ fps' j → (j = m ∧ (a ∈ fps m ∨ a ∈ fps n)) ∨ (j ≠ m ∧ j ≠ n ∧ a ∈ fps j) := fun a j mj => by
    by_cases h1 : j = m
    · rw [h1, fm] at mj; exact .inl ⟨h1, List.mem_append.mp mj⟩
    · by_cases h2 : j = n
      · rw [h2, fn] at mj; cases mj
      · rw [fo j h1 h2] at mj; exact .inr ⟨h1, h2, mj⟩
  obtain ⟨M, hM⟩ := r.fin
  refine ⟨fps', ⟨r.fr.trans hide, fun j => ?_, fun j j' a m1 m2 => ?_, r.len, fun j sl es => ?_, fun j a h mj => ?_, M + m + n + 1, fun j h => ?_⟩, fm, back⟩
  · by_cases h1 : j = m
    · rw [h1, fm]
      exact List.nodup_append.mpr ⟨r.nd m, r.nd n, fun x h1 y h2 e => hmn (r.dj m n x h1 (e ▸ h2))⟩
    · by_cases h2 : j = n
      · rw [h2, fn]; exact List.nodup_nil
      · rw [fo j h1 h2]; exact r.nd j
  · rcases from' a j m1 with ⟨a1, a2⟩ | ⟨a1, a2, a3⟩
    · rcases from' a j' m2 with ⟨b1, b2⟩ | ⟨b1, b2, b3⟩
      · rw [a1, b1]
      · rcases a2 with a2 | a2
        · exact (b1 (r.dj j' m a b3 a2)).elim
        · exact (b2 (r.dj j' n a b3 a2)).elim
    · rcases from' a j' m2 with ⟨b1, b2⟩ | ⟨b1, b2, b3⟩
      · rcases b2 with b2 | b2
        · exact (a1 (r.dj j m a a3 b2)).elim
        · exact (a2 (r.dj j n a a3 b2)).elim
      · exact r.dj j j' a a3 b3
  · have hj := (List.getElem?_eq_some_iff.mp es).1
    rw [fo j (by omega) (by omega)]
    exact (r.ok j sl es).mono hide fun a m => rfl
  · rcases from' a j mj with ⟨a1, a2⟩ | ⟨a1, a2, a3⟩
    · rcases a2 with a2 | a2
      · exact r.isLst ⟨m, a2⟩
      · exact r.isLst ⟨n, a2⟩
    · exact r.tmp j a h a3
  · rw [fo j (by omega) (by omega)]
    exact hM j (by omega)
/-- (x, y), the lists of both handed over -/
def xTup2 (i j k : Nat) : XM := fun st => match st[i]?, st[j]? with
  | some (.va k1 d1), some (.va k2 d2) => if k1 = k ∧ k2 = k ∧ i ≠ j then some (.tup [d1, d2], (st.set i .un).set j .un) else none
  | _, _ => none
theorem fx_tup2 {i : Nat} {x1} (hx : PE X a (tVar i)) (hy : PE X b (tVar j)) (hs : starEach [a, b] X.env = (false, eval a X.env) :: starEach [b] X.env := by rfl) (hs2 : starEach [b] X.env = (false, eval b X.env) :: starEach [] X.env := by rfl) : FX X (.ow k) (.Tuple [a, b] x1 pos) (xTup2 i j k) := PE.weak (pe_tup (pa_cons hx (pa_cons hy pa_nil hs2) hs)) fun σ H Q ⟨F, fps, st, d, st', r, ed, q⟩ => by
  unfold xTup2 at ed
  split at ed
  · rename_i k1 d1 k2 d2 h1 h2
    split at ed
    · rename_i hk
      obtain ⟨k1e, k2e, hij⟩ := hk
      rw [k1e] at h1
      rw [k2e] at h2
      cases ed
      obtain ⟨m, fps1, v, hm, r1, ev, ow1⟩ := r.give h1
      have h2' : (st.set i .un)[j]? = some (.va k d2) := by rw [List.getElem?_set_ne hij]; exact h2
      obtain ⟨n, fps2, w, hn, r2, ew, ow2, fz, fo, bk⟩ := r1.give2 h2'
      have hj := (List.getElem?_eq_some_iff.mp h2).1
      rw [List.length_set] at hn
      have same : Same (hideP H (own fps1)) (hideP H (own fps2)) := hideP_mono (Same.refl _) fun a _ _ h z => h (bk a z)
      have got : ∃ (fps3 : Fps) (M : Nat) (g1 g2 : List Addr), StR X.K F fps3 σ H ((st.set i .un).set j .un) ∧ st.length ≤ M ∧ fps3 M = g1 ++ g2 ∧ Own X.K H (hideP H (own fps3)) d1 k v g1 ∧ Own X.K H (hideP H (own fps3)) d2 k w g2 := by
        by_cases hmn : m = n
        · subst hmn
          rw [fz] at ow1
          exact ⟨fps2, m, [], fps2 m, r2, hm, rfl, Own.mono same d1 _ v _ (fun _ _ => rfl) ow1, ow2⟩
        · have hi := (List.getElem?_eq_some_iff.mp h1).1
          have e1 : fps2 m = fps1 m := fo m hmn (by omega)
          obtain ⟨fps3, r3, e3, bk3⟩ := r2.merge (m := m) (n := n) (by rw [List.length_set, List.length_set]; exact hm) (by rw [List.length_set, List.length_set]; exact hn) hmn
          have s3 : Same (hideP H (own fps2)) (hideP H (own fps3)) := hideP_mono (Same.refl _) fun a _ _ h z => h ((bk3 a).mp z)
          refine ⟨fps3, m, fps1 m, fps2 n, r3, hm, by rw [e3, e1], Own.mono (same.trans s3) d1 _ v _ (fun _ _ => rfl) ow1, Own.mono s3 d2 _ w _ (fun _ _ => rfl) ow2⟩
      obtain ⟨fps3, M, g1, g2, r3, hM, eM, o1, o2⟩ := got
      refine ⟨v, ev, w, ew, by show 2 ≤ _; decide, fun p np => ?_⟩
      have s2 : Same H (upd H p (.tup [v, w])) := same_upd np
      have r4 := r3.mono s2
      have hp : ∀ a, own fps3 a → a ≠ p := fun a z e => by subst e; exact r3.there z np
      have keep : ∀ a, own fps3 a → upd H p (.tup [v, w]) a = H a := fun a z => by
        obtain ⟨_, e, _⟩ := r3.isLst z
        rw [e]; exact s2 _ _ e
      refine q _ _ fps3 r4 ⟨M, by rw [List.length_set, List.length_set]; exact hM, p, [v, w], rfl, .inl (.inl (hideP_some.mpr ⟨fun z => hp p z rfl, upd_same⟩)), v, [w], g1, g2, rfl, eM, ?_, w, [], g2, [], rfl, by rw [List.append_nil], ?_, rfl, rfl⟩
      · exact Own.mono (hideP_mono s2 fun _ _ _ h => h) d1 _ v _ (fun a ma => keep a ⟨M, by rw [eM]; exact List.mem_append_left _ ma⟩) o1
      · exact Own.mono (hideP_mono s2 fun _ _ _ h => h) d2 _ w _ (fun a ma => keep a ⟨M, by rw [eM]; exact List.mem_append_right _ ma⟩) o2
    · cases ed
  · cases ed
end
end FL

namespace FL
open PySem PySem.Spec PyProof.Rows L2

section
variable {X : Cx} {k kr j : Nat} {K : PySem.W.Frag} {e a b c tg : Expr} {es : List Expr} {f g h : EM} {fa : AM} {pos p p2 : Pos}
/-! ### effects whose answer stays -/
theorem fp_ofX {f : XM} (he : FX X (.ow 0) e f) : FP X e f := PE.weak he fun σ H Q ⟨F, fps, st, d, st', r, ed, q⟩ =>
  ⟨F, fps, st, d, st', r, ed, fun v H' fps' r' ⟨m, hm, o⟩ => q v H' fps' r' (Own.zero _ _ _ o).2⟩
/-- the last element, of a list of level 1 -/
def xPopA (i : Nat) : XM := fun st => match slD st[i]? with
  | some (1, .lst ds) => (ds[ds.length - 1]?).map fun d => (d, setD st i (.lst ds.dropLast))
  | _ => none
theorem RepL.dropLast {G : Hp} {ds : List D} {xs : List V} (h : RepL K G ds xs) : RepL K G ds.dropLast xs.dropLast := by
  have hl := h.length
  induction ds generalizing xs with
  | nil => cases xs with
    | nil => exact h
    | cons => cases hl
  | cons d ds ih =>
    cases xs with
    | nil => cases hl
    | cons x xs =>
      cases ds with
      | nil => cases xs with
        | nil => exact (rfl : RepL K G [] [])
        | cons => simp at hl
      | cons d2 ds =>
        cases xs with
        | nil => simp at hl
        | cons x2 xs =>
          obtain ⟨v, r, e, h1, h2⟩ := h
          cases e
          exact ⟨x, _, rfl, h1, ih h2 h2.length⟩
theorem fp_popA {i : Nat} {ec : Expr} (hp : PE X ec (tBM0 X.K "list" rPop (tVar i))) : FP X ec (xPopA i) := PE.weak hp fun σ H Q ⟨F, fps, st, d, st', r, ed, q⟩ => by
  unfold xPopA at ed
  split at ed
  · rename_i ds hs
    cases hd : ds[ds.length - 1]? with
    | none => rw [hd] at ed; cases ed
    | some d0 =>
      rw [hd] at ed
      cases ed
      obtain ⟨v0, ev, L, xs, fpa, eL, hL, efp, oL⟩ := r.sl hs
      subst eL
      obtain ⟨rfl, rL⟩ := OwnL.zero _ _ _ oL
      obtain ⟨y, hy, ry⟩ := rL.get hd
      have hxl := rL.length
      refine ⟨.ref L, ev, .inl ⟨rfl, xs, .inl (.inl hL)⟩, L, xs, y, rfl, rfl, hL, by rw [hxl]; exact hy, ?_⟩
      have hm : L ∈ fps i := by rw [efp]; exact List.mem_cons_self
      have inF : ∀ a, a ∈ [L] → a ∈ fps i := fun a m => by rw [efp]; exact m
      have gen0 : ∀ B : Addr → Prop, (∀ a o', H a = some o' → ¬ own fps a → ¬ B a) → Same (hideP H (own fps)) (hideP (upd H L (.lst xs.dropLast)) B) := fun B hB a o' e => by
        obtain ⟨e1, e2⟩ := hideP_some.mp e
        exact hideP_some.mpr ⟨hB a o' e2 e1, by rw [upd_ne (fun z => e1 ⟨i, by rw [z]; exact hm⟩)]; exact e2⟩
      have nin : ∀ a o', H a = some o' → ¬ own fps a → ¬ own (setF fps i [L]) a := fun a o' e h z => by
        rcases own_setF z with m | z
        · exact h ⟨i, inF a m⟩
        · exact h z
      have rb := r.bump (i := i) (A := L) (o := .lst xs.dropLast) (fp' := [L]) (st' := setD st i (.lst ds.dropLast)) (Same.refl _) hm True.intro (by simp) (fun a m => .inl (inF a m)) setD_length (fun j hj => setD_ne hj) fun sl es' gen => (by
        refine slD_put hs (fun s es => r.ok i s es) ev es' ?_
        exact ⟨L, xs.dropLast, [], rfl, upd_same, rfl, OwnL.shared _ _ (RepL.mono (gen _ nin) _ _ rL.dropLast)⟩)
      exact q y _ _ rb (Rep.mono (gen0 _ nin) _ _ ry)
  · cases ed
/-! ### x.reverse(), x.extend(..) -/
def sRev (i : Nat) : SM := fun st => match slD st[i]? with
  | some (1, .lst ds) => some (.nx (setD st i (.lst ds.reverse)))
  | _ => none
theorem RepL.reverse {G : Hp} : ∀ {ds : List D} {xs : List V}, RepL K G ds xs → RepL K G ds.reverse xs.reverse
  | [], xs, h => by
    cases xs with
    | nil => exact h
    | cons => cases h.length
  | d :: ds, xs, ⟨v, r, e, h1, h2⟩ => by
    subst e
    rw [List.reverse_cons, List.reverse_cons]
    exact RepL.app (RepL.reverse h2) ⟨v, [], rfl, h1, rfl⟩
theorem tF_rev {i : Nat} {Dn : Ends} {σ : L2.St} {H : Hp} (hh : tFS K kr (sRev i) Dn σ H) : tDrop (tBM0 K "list" rReverse (tVar i)) Dn σ H := by
  obtain ⟨F, st, o, ⟨fps, r⟩, e, c⟩ := hh
  unfold sRev at e
  split at e
  · rename_i ds hs
    cases e
    obtain ⟨v0, ev, L, xs, fpa, eL, hL, efp, oL⟩ := r.sl hs
    subst eL
    obtain ⟨rfl, rL⟩ := OwnL.zero _ _ _ oL
    refine ⟨.ref L, ev, .inl ⟨rfl, xs, .inl (.inl hL)⟩, L, xs, rfl, rfl, hL, ?_⟩
    have hm : L ∈ fps i := by rw [efp]; exact List.mem_cons_self
    have inF : ∀ a, a ∈ [L] → a ∈ fps i := fun a m => by rw [efp]; exact m
    have nin : ∀ a o', H a = some o' → ¬ own fps a → ¬ own (setF fps i [L]) a := fun a o' e h z => by
      rcases own_setF z with m | z
      · exact h ⟨i, inF a m⟩
      · exact h z
    refine c σ _ ⟨_, r.bump (i := i) (A := L) (o := .lst xs.reverse) (fp' := [L]) (Same.refl _) hm True.intro (by simp) (fun a m => .inl (inF a m)) setD_length (fun j hj => setD_ne hj) fun sl es' gen => ?_⟩
    refine slD_put hs (fun s es => r.ok i s es) ev es' ?_
    exact ⟨L, xs.reverse, [], rfl, upd_same, rfl, OwnL.shared _ _ (RepL.mono (gen _ nin) _ _ rL.reverse)⟩
  · cases e
theorem fs_rev {i kr : Nat} {ec : Expr} (hp : PE X ec (tBM0 X.K "list" rReverse (tVar i))) (hsw : swapsWith ec none pos.line X.env = pure false := by rfl) :
    FS X kr (.Expr ec pos) (sRev i) := PS.weak (ps_expr hp hsw) fun _ _ _ => tF_rev
/-- x.extend(e), e fresh -/
def sExt (i k : Nat) (f : EM) : SM := fun st => match slD st[i]? with
  | some (k', .lst ds) => (f st).bind fun d => match d with
    | .lst es => if (k' == k + 1 && decide (ds.length + es.length < 16777216)) = true then some (.nx (setD st i (.lst (ds ++ es)))) else none
    | _ => none
  | _ => none
theorem tF_ext {i k kr : Nat} {Dn : Ends} {σ : L2.St} {H : Hp} (hh : tFS K kr (sExt i k f) Dn σ H) : tDrop (tBM K "list" rExtend (tVar i) (tCons (tF K (.ow (k + 1)) f) tNil)) Dn σ H := by
  obtain ⟨F, st, o, ⟨fps, r⟩, e, c⟩ := hh
  unfold sExt at e
  split at e
  · rename_i k' ds hs
    cases e1 : f st with
    | none => rw [e1] at e; cases e
    | some d =>
      rw [e1] at e
      cases d with
      | lst es =>
        have e : (if (k' == k + 1 && decide (ds.length + es.length < 16777216)) = true then some (Out.nx (setD st i (.lst (ds ++ es)))) else none) = some o := e
        split at e
        · rename_i hk
          cases e
          have hk := Bool.and_eq_true_iff.mp hk
          have ek : k' = k + 1 := by simpa using hk.1
          subst ek
          have hlen : ds.length + es.length ≤ sizeLine := by rw [sizeLine_eq]; exact Nat.le_of_lt (of_decide_eq_true hk.2)
          obtain ⟨v0, ev, L, xs, fpa, eL, hL, efp, oL⟩ := r.sl hs
          subst eL
          refine ⟨.ref L, ev, .inl ⟨rfl, xs, .inl (.inl hL)⟩, F, fps, st, .lst es, r, e1, fun v H1 s1 w => ?_⟩
          obtain ⟨fq, nq, fr, oq⟩ := w
          obtain ⟨b, zs, fq', eb, hb, efq, oz⟩ := oq
          subst eb
          refine ⟨L, b, xs, zs, rfl, rfl, s1 _ _ hL, hb, by rw [oL.len, oz.len]; exact hlen, ?_⟩
          have hm : L ∈ fps i := by rw [efp]; exact List.mem_cons_self
          have sub' : ∀ a, a ∈ fq' → a ∈ fq := fun a m => by rw [efq]; exact List.mem_cons_of_mem _ m
          have dis : ∀ a, a ∈ fps i → a ∈ fq' → False := fun a m m2 => r.there ⟨i, m⟩ (fr a (sub' a m2))
          have nq' : fq'.Nodup := by rw [efq] at nq; exact (List.nodup_cons.mp nq).2
          have nall : (fps i ++ fq').Nodup := List.nodup_append.mpr ⟨r.nd i, nq', fun a m b m2 e => dis a m (e ▸ m2)⟩
          refine c σ _ ⟨setF fps i (fps i ++ fq'), r.bump (A := L) (o := .lst (xs ++ zs)) (fp' := fps i ++ fq') s1 hm True.intro nall (fun a m => ?_) setD_length (fun j hj => setD_ne hj) fun sl e2 gen => ?_⟩
          · rcases List.mem_append.mp m with m | m
            · exact .inl m
            · exact .inr ⟨fr a (sub' a m), OwnL.isLst es k zs fq' oz a m⟩
          · refine slD_put hs (fun s es => r.ok i s es) ev e2 ?_
            have nin : ∀ a o', H a = some o' → ¬ own fps a → ¬ own (setF fps i (fps i ++ fq')) a := fun a o' e h z => by
              rcases own_setF z with m | z
              · rcases List.mem_append.mp m with m | m
                · exact h ⟨i, m⟩
                · rw [fr a (sub' a m)] at e; cases e
              · exact h z
            refine ⟨L, xs ++ zs, fpa ++ fq', rfl, upd_same, by rw [efp]; rfl, OwnL.app (OwnL.mono (gen _ nin) ds k xs fpa (fun a m => ?_) oL) (OwnL.mono (fun a o' e => ?_) es k zs fq' (fun a m => upd_ne fun z => dis L hm (z ▸ m)) oz)⟩
            · have m' : a ∈ fps i := by rw [efp]; exact List.mem_cons_of_mem _ m
              have aL : a ≠ L := fun z => by
                have := r.nd i
                rw [efp] at this
                exact (List.nodup_cons.mp this).1 (z ▸ m)
              rw [upd_ne aL]
              obtain ⟨_, q, _⟩ := r.isLst ⟨i, m'⟩
              rw [q]; exact s1 _ _ q
            · obtain ⟨z1, z2⟩ := hideP_some.mp e
              have aL : a ≠ L := fun z => z1 (.inr ⟨i, z ▸ hm⟩)
              refine hideP_some.mpr ⟨fun z => ?_, by rw [upd_ne aL]; exact z2⟩
              rcases own_setF z with m | z
              · rcases List.mem_append.mp m with m | m
                · exact z1 (.inr ⟨i, m⟩)
                · exact z1 (.inl (sub' a m))
              · exact z1 (.inr z)
        · cases e
      | _ => cases e
  · cases e
theorem fs_ext {i kr : Nat} {ec : Expr} (hp : PE X ec (tBM X.K "list" rExtend (tVar i) (tCons (tF X.K (.ow (k + 1)) f) tNil))) (hsw : swapsWith ec none pos.line X.env = pure false := by rfl) :
    FS X kr (.Expr ec pos) (sExt i k f) := PS.weak (ps_expr hp hsw) fun _ _ _ => tF_ext
/-- x.append(e), e with effects -/
def sAppP (i : Nat) (f : XM) : SM := fun st => (f st).bind fun r => match slD r.2[i]? with
  | some (k', .lst ds) => if (k' == 1 && isLd (slD st[i]?) && decide (ds.length < 16777216)) = true then some (.nx (setD r.2 i (.lst (ds ++ [r.1])))) else none
  | _ => none
where isLd : Option (Nat × D) → Bool
  | some (_ + 1, .lst _) => true
  | _ => false
theorem tF_appP {f : XM} {i kr : Nat} {Dn : Ends} {σ : L2.St} {H : Hp} (hh : tFS K kr (sAppP i f) Dn σ H) : tDrop (tBM K "list" rAppend (tVar i) (tCons (tFP K f) tNil)) Dn σ H := by
  obtain ⟨F, st, o, ⟨fps, r⟩, e, c⟩ := hh
  unfold sAppP at e
  cases e1 : f st with
  | none => rw [e1] at e; cases e
  | some d =>
    obtain ⟨d, st'⟩ := d
    rw [e1] at e
    change (match slD st'[i]? with
      | some (k', .lst ds) => if (k' == 1 && sAppP.isLd (slD st[i]?) && decide (ds.length < 16777216)) = true then some (Out.nx (setD st' i (.lst (ds ++ [d])))) else none
      | _ => none) = some o at e
    split at e
    · rename_i k' ds hs
      split at e
      · rename_i hk
        cases e
        simp only [Bool.and_eq_true, beq_iff_eq, decide_eq_true_eq] at hk
        obtain ⟨⟨rfl, hl⟩, hlen⟩ := hk
        have hlen : ds.length < sizeLine := by rw [sizeLine_eq]; exact hlen
        have h0 : ∃ k0 ds0, slD st[i]? = some (k0 + 1, .lst ds0) := by
          revert hl
          cases slD st[i]? with
          | none => intro hl; cases hl
          | some x =>
            obtain ⟨k0, d0⟩ := x
            cases k0 with
            | zero => intro hl; cases hl
            | succ k0 => cases d0 with
              | lst ds0 => intro _; exact ⟨k0, ds0, rfl⟩
              | _ => intro hl; cases hl
        obtain ⟨k0, ds0, hs0⟩ := h0
        obtain ⟨v0, ev, L, xs0, fpa0, eL, hL0, -, -⟩ := r.sl hs0
        subst eL
        refine ⟨.ref L, ev, .inl ⟨rfl, xs0, .inl (.inl hL0)⟩, F, fps, st, d, st', r, e1, fun v H1 fps1 r1 w => ?_⟩
        obtain ⟨v1, ev1, L1, xs, fpa, eL1, hL, efp, oL⟩ := r1.sl hs
        rw [ev] at ev1
        cases ev1
        cases eL1
        obtain ⟨rfl, rL⟩ := OwnL.zero _ _ _ oL
        refine ⟨L, xs, v, rfl, rfl, hL, by rw [rL.length]; exact hlen, ?_⟩
        have hm : L ∈ fps1 i := by rw [efp]; exact List.mem_cons_self
        have inF : ∀ a, a ∈ [L] → a ∈ fps1 i := fun a m => by rw [efp]; exact m
        have nin : ∀ a o', H1 a = some o' → ¬ own fps1 a → ¬ own (setF fps1 i [L]) a := fun a o' e h z => by
          rcases own_setF z with m | z
          · exact h ⟨i, inF a m⟩
          · exact h z
        refine c σ _ ⟨_, r1.bump (i := i) (A := L) (o := .lst (xs ++ [v])) (fp' := [L]) (Same.refl _) hm True.intro (by simp) (fun a m => .inl (inF a m)) setD_length (fun j hj => setD_ne hj) fun sl es' gen => ?_⟩
        refine slD_put hs (fun s es => r1.ok i s es) ev es' ?_
        exact ⟨L, xs ++ [v], [], rfl, upd_same, rfl, OwnL.shared _ _ (RepL.mono (gen _ nin) _ _ (RepL.app rL ⟨v, [], rfl, w, rfl⟩))⟩
      · cases e
    · cases e
theorem fs_appP {f : XM} {i kr : Nat} {ec : Expr} (hp : PE X ec (tBM X.K "list" rAppend (tVar i) (tCons (tFP X.K f) tNil))) (hsw : swapsWith ec none pos.line X.env = pure false := by rfl) :
    FS X kr (.Expr ec pos) (sAppP i f) := PS.weak (ps_expr hp hsw) fun _ _ _ => tF_appP
/-! ### isinstance of own classes -/
structure TyC (K : PySem.W.Frag) (C : Addr) : Prop where
  ha : PySem.W.findIn K (.ref C) "__class__" = some (some (.builtin "object.__class__"))
  hn : PySem.W.specialIn K (.builtin "object.__class__") "__get__" = some (some (.builtin "getset_descriptor.__get__"))
  htk : PySem.W.takesIn K (.builtin "object.__class__") = some true
  hm : PySem.W.mroIn K C (.type "object") = some true
structure IsC (K : PySem.W.Frag) (D : Str) (Ca : Addr) (b : Bool) : Prop where
  ok : ∀ Da, PySem.W.nsIn K mainGlobals D = some (some (.ref Da)) → Cls K Da ∧ TyC K Da ∧ PySem.W.kitOne K (.ref Da) (.ref Ca) = some b
theorem isC_of {K : PySem.W.Frag} {D : Str} {Da Ca : Addr} {b : Bool} (h : PySem.W.nsIn K mainGlobals D = some (some (.ref Da))) (c : Cls K Da) (t : TyC K Da) (i : PySem.W.kitOne K (.ref Da) (.ref Ca) = some b) : IsC K D Ca b :=
  ⟨fun Db e => by rw [h] at e; cases e; exact ⟨c, t, i⟩⟩
theorem kit_of_sub {K : PySem.W.Frag} {C D : Addr} {b : Bool} (h1 : PySem.W.isClsIn K C = true) (h2 : PySem.W.typeIn K (.ref C) = some (.type "type")) (h3 : PySem.W.subIn K (.ref D) (.ref C) = some b) (h4 : b = true ∨ D ≠ C) : PySem.W.kitOne K (.ref D) (.ref C) = some b := by
  unfold PySem.W.kitOne
  split
  · rename_i h
    rcases h4 with h4 | h4
    · rw [h4]
    · exact absurd (Value.ref.inj (beq_iff_eq.mp h)) h4
  · show (if ((PySem.W.clsIn K C).isSome && PySem.W.typeIn K (.ref C) == some (.type "type")) = true then PySem.W.subIn K (.ref D) (.ref C) else none) = _
    rw [h2, show (PySem.W.clsIn K C).isSome = true from h1, if_pos (by rfl), h3]
theorem kit_self {K : PySem.W.Frag} {C : Addr} : PySem.W.kitOne K (.ref C) (.ref C) = some true := if_pos (beq_self_eq_true _)
def AllI (K : PySem.W.Frag) (Ca : Addr) : List Str → List Bool → Prop
  | c :: cs, n :: ns => IsC K c Ca n ∧ AllI K Ca cs ns
  | _, _ => True
theorem AllI.get {K : PySem.W.Frag} {Ca : Addr} : ∀ {cs : List Str} {ns : List Bool} {j : Nat} {C : Str} {b : Bool}, AllI K Ca cs ns → cs[j]? = some C → ns[j]? = some b → IsC K C Ca b
  | [], _, _, _, _, _, e, _ => by simp at e
  | _ :: _, [], _, _, _, _, _, e => by simp at e
  | c :: cs, n :: ns, 0, _, _, h, e1, e2 => by simp at e1 e2; subst e1 e2; exact h.1
  | c :: cs, n :: ns, j + 1, _, _, h, e1, e2 => AllI.get (j := j) h.2 (by simpa using e1) (by simpa using e2)
def mIsC (cs : List Str) (bs : List Bool) : D → Option D
  | .ob D _ _ => (posS D cs).bind fun j => (bs[j]?).map FL.D.bl
  | .mob D _ _ _ => (posS D cs).bind fun j => (bs[j]?).map FL.D.bl
  | _ => none
theorem fe_isC {C : Str} {Ca : Addr} {cs : List Str} {bs : List Bool} {pT : Pos} (hg : Gl X "isinstance") (hm : X.mg "isinstance" = none) (hgC : Gl X C) (hmC : X.mg C = some (.ref Ca)) (hI : AllI X.K Ca cs bs) (ha : FE X .rd e f) (hdb : (C == ("__debug__" : Str)) = false := by decide)
    (he : starEach [e, .Name C pT] X.env = (false, eval e X.env) :: starEach [.Name C pT] X.env := by rfl) (he2 : starEach [.Name C pT] X.env = (false, eval (.Name C pT) X.env) :: starEach [] X.env := by rfl) (hpl : (backTo pos (starEach [.Name C pT] X.env)).any (·.1) = false := by rfl) :
    FE X kd (.Call (.Name "isinstance" p) [e, .Name C pT] [] pos) (eB (mIsC cs bs) f) := PE.weak (pe_callB call_isi hg hm (by decide +kernel) (pa_cons ha (pa_cons (pe_glob hgC hmC (v := .ref Ca) rfl hdb) pa_nil he2) he) (by decide) (by decide) he hpl) fun σ H Q ⟨F, fps, st, d, r, ed, q⟩ => by
  unfold eB at ed
  cases ef : f st with
  | none => rw [ef] at ed; cases ed
  | some x =>
    rw [ef] at ed
    refine ⟨F, fps, st, x, r, ef, fun v H1 s1 w => ?_⟩
    cases x with
    | ob D nm ds =>
      change (posS D cs).bind (fun j => (bs[j]?).map FL.D.bl) = some d at ed
      cases e2 : posS D cs with
      | none => rw [e2] at ed; cases ed
      | some jj =>
        rw [e2] at ed
        change (bs[jj]?).map FL.D.bl = some d at ed
        cases e3 : bs[jj]? with
        | none => rw [e3] at ed; cases ed
        | some b =>
          rw [e3] at ed; cases ed
          obtain ⟨Da, a, dx, xs, ec, ev, eh, rr⟩ := w
          subst ev
          obtain ⟨c1, t1, i1⟩ := (hI.get (posS_get e2) e3).ok Da ec
          exact ⟨_, .ref Ca, .ref Da, .ref Ca, b, rfl, .own Ca, .base (.ins eh c1 t1.ha t1.hn t1.htk t1.hm), i1, q _ H1 s1 (VR.sc (d := .bl b) rfl rfl)⟩
    | mob D nm ls ds =>
      change (posS D cs).bind (fun j => (bs[j]?).map FL.D.bl) = some d at ed
      cases e2 : posS D cs with
      | none => rw [e2] at ed; cases ed
      | some jj =>
        rw [e2] at ed
        change (bs[jj]?).map FL.D.bl = some d at ed
        cases e3 : bs[jj]? with
        | none => rw [e3] at ed; cases ed
        | some b =>
          rw [e3] at ed; cases ed
          obtain ⟨Da, a, dx, xs, ec, ev, eh, rr⟩ := w
          subst ev
          obtain ⟨c1, t1, i1⟩ := (hI.get (posS_get e2) e3).ok Da ec.1
          exact ⟨_, .ref Ca, .ref Da, .ref Ca, b, rfl, .own Ca, .base (.ins eh c1 t1.ha t1.hn t1.htk t1.hm), i1, q _ H1 s1 (VR.sc (d := .bl b) rfl rfl)⟩
    | _ => cases ed
/-! ### x in a list -/
def mIn (x y : D) : Option D := match y with
  | .lst ds => if (shp x && shp (.lst ds)) = true then some (.bl (ds.any fun z => deq z x)) else none
  | _ => none
def mNin (x y : D) : Option D := match y with
  | .lst ds => if (shp x && shp (.lst ds)) = true then some (.bl (!ds.any fun z => deq z x)) else none
  | _ => none
theorem any_py {x : D} : ∀ ds : List D, ((toPyL ds).any fun z => PyData.eqv z (toPy x)) = ds.any fun z => deq z x
  | [] => rfl
  | d :: ds => by
    show (PyData.eqv (toPy d) (toPy x) || (toPyL ds).any fun z => PyData.eqv z (toPy x)) = _
    rw [any_py ds]; rfl
theorem _root_.L2.Room.units65 {k : Nat} {A : Around} (r : L2.Room k A) : A.units + 65 < cLine := by have := r.un; omega
theorem scr_in : ScR K mIn (rInD K) := fun x y H Q dx dy d rx ry e => by
  unfold mIn at e
  split at e
  · rename_i ds
    split at e
    · rename_i hs
      have hs := Bool.and_eq_true_iff.mp hs
      cases e
      refine ⟨rfl, fun q => ⟨toPy dx, toPyL ds, toPy_dp dx x (SeqAt.canLay_of_shaped hs.1) rx, toPy_dp (.lst ds) y (SeqAt.canLay_of_shaped hs.2) ry, hs.1, hs.2, ?_⟩⟩
      rw [any_py]; exact q
    · cases e
  · cases e
theorem scr_nin : ScR K mNin (rNotInD K) := fun x y H Q dx dy d rx ry e => by
  unfold mNin at e
  split at e
  · rename_i ds
    split at e
    · rename_i hs
      have hs := Bool.and_eq_true_iff.mp hs
      cases e
      refine ⟨rfl, fun q => ⟨toPy dx, toPyL ds, toPy_dp dx x (SeqAt.canLay_of_shaped hs.1) rx, toPy_dp (.lst ds) y (SeqAt.canLay_of_shaped hs.2) ry, hs.1, hs.2, ?_⟩⟩
      rw [any_py]; exact q
    · cases e
  · cases e
theorem fe_in (hu : X.A.units + 65 < cLine) (ha : FE X .rd a f) (hb : FE X .rd b g) (hm : behindInMarks .In b = false := by rfl) : FE X kd (.Compare a [.In] [b] pos) (eBin mIn f g) := fe_cmpB (op_inD hu) scr_in hm ha hb
theorem ft_in (hu : X.A.units + 65 < cLine) (ha : FE X .rd a f) (hb : FE X .rd b g) (hm : behindInMarks .In b = false := by rfl) : FT X (.Compare a [.In] [b] pos) (qVal (eBin mIn f g)) := ft_cmpB (op_inD hu) scr_in hm ha hb
theorem fe_nin (hu : X.A.units + 65 < cLine) (ha : FE X .rd a f) (hb : FE X .rd b g) (hm : behindInMarks .NotIn b = false := by rfl) : FE X kd (.Compare a [.NotIn] [b] pos) (eBin mNin f g) := fe_cmpB (op_notInD hu) scr_nin hm ha hb
theorem ft_nin (hu : X.A.units + 65 < cLine) (ha : FE X .rd a f) (hb : FE X .rd b g) (hm : behindInMarks .NotIn b = false := by rfl) : FT X (.Compare a [.NotIn] [b] pos) (qVal (eBin mNin f g)) := ft_cmpB (op_notInD hu) scr_nin hm ha hb
end
end FL

namespace FL
open PySem PySem.Spec PyProof.Rows L2
/-! ### defs with defaults -/
structure FunX (K : PySem.W.Frag) (x qual : Str) (st : Stmt) (f : Addr) (fd : FuncData) : Prop where
  ex : ∃ (oc : Value) (od : Option Addr) (dV kV doc pm : Value) (an : Option Addr) (cdv ct : Value) (osl : Array (Option Value)),
    fd = PySem.W.fnOf x qual (defArgs st) (defBody st) (defScope st) dV kV doc pm an cdv ct ∧ K.lookup f = some ⟨oc, od, .func fd, osl⟩ ∧ PySem.W.codeIn K cdv qual = true
  kp : PySem.W.keepIn K (.ref f) = true
section
variable {P : Program} {w : World} {K : PySem.W.Frag} {mg : Str → Option Value} {base : Heap}
theorem FunX.ok {x qual : Str} {st : Stmt} {f : Addr} {fd : FuncData} {N ps : List Str} {k : Nat} {sp : Sp} (F : FunX K x qual st f fd) (S : FnScope N ps (defScope st)) (len : ∀ vs H Q E, sp vs H Q E → vs.length = ps.length)
    (hbody : ∀ (cdv : Value) (A : Around) (outer : List Env) (s : Shared) (H : Hp) (vs : List V) (Q : VK) (E : XK), Room k (A.deeper (envOfC qual (defScope st) s.heap.objs.size f cdv)) → sp vs H Q E →
      ∃ t, PSs (cxOf CX0 P w K mg base N qual (defScope st) f cdv A outer s H E).nox (defBody st) t ∧ t { nx := fun _ H' => Q .non H', rt := Q } (start N vs) H) : FnOk P w K mg base CX0 (k + 1) f fd ps sp := by
  obtain ⟨oc, od, dV, kV, doc, pm, an, cdv, ct, osl, rfl, lk, hcd⟩ := F.ex
  refine fn_of lk hcd S len fun A outer s H vs Q E hr hsp => ?_
  obtain ⟨t, h, q⟩ := hbody cdv A outer s H vs Q E hr hsp
  exact ⟨t, h.nox, q⟩
theorem funX_mk {x qual : Str} {st : Stmt} {f : Addr} {oc : Value} {od an : Option Addr} {osl : Array (Option Value)} {dV kV doc pm cdv ct : Value} (l : K.lookup f = some ⟨oc, od, .func (PySem.W.fnOf x qual (defArgs st) (defBody st) (defScope st) dV kV doc pm an cdv ct), osl⟩)
    (c : PySem.W.codeIn K cdv qual = true) (k : PySem.W.keepIn K (.ref f) = true) : FunX K x qual st f (PySem.W.fnOf x qual (defArgs st) (defBody st) (defScope st) dV kV doc pm an cdv ct) := ⟨⟨oc, od, dV, kV, doc, pm, an, cdv, ct, osl, rfl, l, c⟩, k⟩
theorem fn_okX {x qual : Str} {st : Stmt} {f : Addr} {fd : FuncData} {N ps : List Str} {k : Nat} (F : FunX K x qual st f fd) (S : FnScope N ps (defScope st)) (kr : Nat) (g : SM)
    (hb : ∀ (cdv : Value) (A : Around) (outer : List Env) (s : Shared) (H : Hp) (E : XK), Room k (A.deeper (envOfC qual (defScope st) s.heap.objs.size f cdv)) → FSs (cxOf CX0 P w K mg base N qual (defScope st) f cdv A outer s H E).nox kr (defBody st) g) :
    FnOk P w K mg base CX0 (k + 1) f fd ps (spF K ps.length kr (fnRun N.length g)) := by
  refine F.ok S (fun vs H Q E h => h.1) (fun cdv A outer s H vs Q E hr h => ⟨_, hb cdv A outer s H E hr, ?_⟩)
  obtain ⟨hl, ds, d, r, e, q⟩ := h
  unfold fnRun at e
  cases eg : g (ds.map (Slot.va 0) ++ List.replicate (N.length - ds.length) .un) with
  | none => rw [eg] at e; cases e
  | some o =>
    rw [eg] at e
    refine ⟨⟨H, fun _ => .non⟩, _, o, ⟨_, StR.init r⟩, eg, ?_⟩
    cases o with
    | nx st' =>
      cases e
      intro σ' H' ⟨fps', r'⟩
      obtain ⟨h1, h2⟩ := RetOk.plain (k := kr) (r'.ret (Same.refl H') (VR.sc (d := .non) rfl rfl))
      exact q .non H' h1 h2
    | rt d' st' =>
      cases e
      intro v H' h
      obtain ⟨h1, h2⟩ := h.plain
      exact q v H' h1 h2
    | bk _ => cases e
    | ct _ => cases e
/-- the defaults stand in the tuple at T -/
theorem bnd_of {fd : FuncData} {ps : List Str} {T : Addr} {o : Obj} {its : Array Value} {n m : Nat} {ds : List Value} (lT : K.lookup T = some o) (oT : o.data = .seq its n) (hm : m + ds.length = ps.length)
    (h : ∀ us : List Value, us.length = m → ∃ k, bindArgs fd ⟨us, []⟩ = seqItems? (.ref T) >>= k ∧ k (some its) = pure (ps.zip (us ++ ds))) : Binds K fd ps ds := fun s us X hl => by
  obtain ⟨k, e1, e2⟩ := h us (by rw [List.length_append] at hl; omega)
  refine BindsTo.of_looks fun M => ?_
  rw [e1]
  exact looks_items X lT oT (.of_pure e2)
theorem kbn_of {fd : FuncData} {ps ks : List Str} {T : Addr} {o : Obj} {its : Array Value} {n m : Nat} (lT : K.lookup T = some o) (oT : o.data = .seq its n)
    (h : ∀ us ws : List Value, us.length = m → ws.length = ks.length → ∃ k, bindArgs fd ⟨us, ks.zip ws⟩ = seqItems? (.ref T) >>= k ∧ k (some its) = pure (ps.zip (us ++ ws))) : KBn K fd ps m ks (fun us ws => us ++ ws) (fun vs zs => vs ++ zs) :=
  ⟨fun s us ws X l1 l2 => by
    obtain ⟨k, e1, e2⟩ := h us ws l1 l2
    refine BindsTo.of_looks fun M => ?_
    rw [e1]
    exact looks_items X lT oT (.of_pure e2), fun r1 r2 => r1.append r2⟩
end
section
variable {X : Cx} {k n j : Nat} {kd : Kd} {e a b c tg el : Expr} {es : List Expr} {f g h : EM} {fa : AM} {pos p : Pos} {x : Str} {K : PySem.W.Frag} {m : List D → Option D} {fn : Addr} {fd : FuncData} {ps : List Str}
theorem repL_sc {H : Hp} : ∀ {dds : List D}, dds.all sc = true → RepL K H dds (dds.map scV)
  | [], _ => rfl
  | d :: r, h => by
    have h2 := Bool.and_eq_true_iff.mp (show (sc d && r.all sc) = true from h)
    exact ⟨scV d, r.map scV, rfl, sc_rep h2.1, repL_sc h2.2⟩
/-- a call that leaves the last arguments out -/
theorem fe_callD {dds : List D} (hd : dds.all sc = true) (G : FnOk X.prog X.w X.K X.mg X.base CX0 j fn fd ps (spF X.K n k m)) (hr : Room j X.A) (hg : Gl X x) (hm : X.mg x = some (.ref fn)) (hk : PySem.W.keepIn X.K (.ref fn) = true) (hb : ∃ ds, Vals (dds.map scV) ds ∧ Binds X.K fd ps ds) (ha : FA X .rd (e :: es) fa) (n' : Nat) (hl : ALen n' fa) (hn : n' + dds.length = n) (hdb : (x == ("__debug__" : Str)) = false := by decide)
    (he : starEach (e :: es) X.env = (false, eval e X.env) :: starEach es X.env := by rfl) (hpl : (backTo pos (starEach es X.env)).any (·.1) = false := by rfl) : FE X (.ow k) (.Call (.Name x p) (e :: es) [] pos) (eCallO k (fun ds => m (ds ++ dds)) fa) := by
  obtain ⟨dvs, hv, hb⟩ := hb
  refine PE.weak (pe_call G hr hg hm hk hb hv (pass0 (X := X)) ha hdb he hpl) fun σ H Q ⟨F, fps, st, d, r, ed, q⟩ => ?_
  unfold eCallO at ed
  obtain ⟨ed, fl⟩ := chk_some ed
  cases e1 : fa st with
  | none => rw [e1] at ed; cases ed
  | some ds =>
    rw [e1] at ed
    refine ⟨F, fps, st, ds, r, e1, fun vs H1 s1 w => ⟨by rw [List.length_append, List.length_map, VRL.length w, hl st ds e1]; exact hn, ds ++ dds, d, RepL.app w (repL_sc hd), ed, fun v H2 s2 ⟨fp, n, fr, o⟩ => ?_⟩⟩
    refine q v H2 (s1.trans s2) ⟨fp, n, fun a m => s1.free (fr a m), Own.rebase fl (fun a z => ?_) o⟩
    rcases z with m | z
    · exact Own.isLst d k v fp o a m
    · exact (r.mono (s1.trans s2)).isLst z
def aSnoc (fa : AM) (f : EM) : AM := fun st => (fa st).bind fun ds => (f st).map fun d => ds ++ [d]
/-- a call whose last argument is named -/
theorem fe_callK {y : Str} {e1 : Expr} {kp : Pos} {f1 : EM} (G : FnOk X.prog X.w X.K X.mg X.base CX0 j fn fd ps (spF X.K n k m)) (hr : Room j X.A) (hg : Gl X x) (hm : X.mg x = some (.ref fn)) (hk : PySem.W.keepIn X.K (.ref fn) = true) (n' : Nat) (hb : KBn X.K fd ps n' [y] (fun us ws => us ++ ws) (fun vs zs => vs ++ zs)) (ha : FA X .rd (e :: es) fa) (hf : FE X .rd e1 f1) (hl : ALen n' fa) (hn : n' + 1 = n)
    (hall : (backToKw pos (keywordEach [⟨some y, e1, kp⟩] X.env)).all (·.1.isSome) = true := by rfl) (hks : (backToKw pos (keywordEach [⟨some y, e1, kp⟩] X.env)).filterMap (·.1) = [y] := by rfl) (hdb : (x == ("__debug__" : Str)) = false := by decide)
    (he : starEach (e :: es) X.env = (false, eval e X.env) :: starEach es X.env := by rfl)
    (hpl : ((backTo pos (starEach (e :: es) X.env)).any (·.1) || (backToKw pos (keywordEach [⟨some y, e1, kp⟩] X.env)).any (·.1.isNone)) = false := by rfl) : FE X (.ow k) (.Call (.Name x p) (e :: es) [⟨some y, e1, kp⟩] pos) (eCallO k m (aSnoc fa f1)) := by
  refine PE.weak (pe_callN G hr hg hm hk hb (pass0 (X := X)) ha (pk_cons hf pk_nil) hall hks hdb he hpl) fun σ H Q ⟨F, fps, st, d, r, ed, q⟩ => ?_
  unfold eCallO aSnoc at ed
  obtain ⟨ed, fl⟩ := chk_some ed
  cases e2 : fa st with
  | none => rw [e2] at ed; cases ed
  | some ds =>
    cases e3 : f1 st with
    | none => rw [e2, e3] at ed; cases ed
    | some d1 =>
      rw [e2, e3] at ed
      have ed : m (ds ++ [d1]) = some d := ed
      refine ⟨F, fps, st, ds, r, e2, fun vs H1 s1 w => ⟨F, fps, st, d1, r.mono s1, e3, fun v1 H2 s2 w2 => ?_⟩⟩
      refine ⟨VRL.length w |>.trans (hl st ds e2), rfl, ?_, ds ++ [d1], d, RepL.app (RepL.mono s2 _ _ w) ⟨v1, [], rfl, w2, rfl⟩, ed, fun v H3 s3 ⟨fp, n, fr, o⟩ => ?_⟩
      · rw [List.length_append, VRL.length w, hl st ds e2]; exact hn
      have s13 := (s1.trans s2).trans s3
      refine q v H3 s13 ⟨fp, n, fun a m => (s1.trans s2).free (fr a m), Own.rebase fl (fun a z => ?_) o⟩
      rcases z with m | z
      · exact Own.isLst d k v fp o a m
      · exact (r.mono s13).isLst z
end
end FL

namespace FL
open PySem PySem.Spec PyProof.Rows L2
/-! ### defs that raise -/
/-- what such a def ends with -/
inductive RD where
  | ok (d : D) | ex (C : Str) (nm : List Str) (ds : List D)
inductive OutX where
  | o (x : Out) | ex (C : Str) (nm : List Str) (ds : List D) (st : Sl)
abbrev SMX := Sl → Option OutX
def XRep (K : PySem.W.Frag) (H : Hp) (C : Str) (nm : List Str) (ds : List D) (cls : Value) (dd : Option Addr) : Prop :=
  ∃ Ca, PySem.W.nsIn K mainGlobals C = some (some (.ref Ca)) ∧ cls = .ref Ca ∧ ((nm = [] ∧ ds = [] ∧ dd = none) ∨ ∃ d vs, (nm ≠ [] ∧ dd = some d) ∧ H d = some (.xd (nm.zip vs)) ∧ RepL K H ds vs)
def ContX (K : PySem.W.Frag) (F : Fr) (k : Nat) (Dn : Ends) (W : WX) : OutX → Prop
  | .o x => Cont K F k Dn x
  | .ex C nm ds st => ∀ σ H cls dd, StRep K F σ H st → XRep K H C nm ds cls dd → W cls dd σ H
def tFSX (K : PySem.W.Frag) (k : Nat) (W : WX) (g : SMX) : TS := fun Dn σ H => ∃ F st o, StRep K F σ H st ∧ g st = some o ∧ ContX K F k Dn W o
abbrev FSX (X : Cx) (k : Nat) (W : WX) (s : Stmt) (g : SMX) : Prop := PS X s (tFSX X.K k W g)
abbrev FSXs (X : Cx) (k : Nat) (W : WX) (s : List Stmt) (g : SMX) : Prop := PSs X s (tFSX X.K k W g)
def xLift (g : SM) : SMX := fun st => (g st).map .o
section
variable {X : Cx} {k n j : Nat} {kd : Kd} {e a b c tg el : Expr} {es : List Expr} {f g h : EM} {fa : AM} {pos p : Pos} {x : Str} {K : PySem.W.Frag} {W : WX} {s1 s2 : SMX} {st : Stmt} {rest as bs : List Stmt} {t : TM} {fn : Addr} {fd : FuncData} {ps : List Str}
theorem tF_lift {g : SM} {Dn : Ends} {σ : L2.St} {H : Hp} (hh : tFSX K k W (xLift g) Dn σ H) : tFS K k g Dn σ H := by
  obtain ⟨F, st, o, r, e, c⟩ := hh
  unfold xLift at e
  cases e1 : g st with
  | none => rw [e1] at e; cases e
  | some o1 => rw [e1] at e; cases e; exact ⟨F, st, o1, r, e1, c⟩
theorem fsx_lift {g : SM} (h : FS X k st g) : FSX X k W st (xLift g) := PS.weak h fun _ _ _ => tF_lift
theorem fsx_nox {g : SM} (h : FS X.nox k st g) : FSX X k W st (xLift g) := ⟨fun pins s σ H D I hw =>
  wpAny_mono (h.run pins s σ H D (I.wish _) (tF_lift hw)) (fun _ _ q => q.unwish) fun _ _ z => False.elim z⟩
def xNil : SMX := fun st => some (.o (.nx st))
theorem fssx_nil : FSXs X k W [] xNil := PSs.weak pss_nil fun Dn σ H ⟨F, st, o, r, e, c⟩ => by
  cases e
  exact c σ H r
def xSeq (g1 g2 : SMX) : SMX := fun st => (g1 st).bind fun o => match o with
  | .o (.nx st') => g2 st'
  | o => some o
theorem fssx_cons (h1 : FSX X k W st s1) (h2 : FSXs X k W rest s2) : FSXs X k W (st :: rest) (xSeq s1 s2) := PSs.weak (pss_cons h1 h2) fun Dn σ H ⟨F, st, o, r, e, c⟩ => by
  unfold xSeq at e
  cases e1 : s1 st with
  | none => rw [e1] at e; cases e
  | some o1 =>
    rw [e1] at e
    refine ⟨F, st, o1, r, e1, ?_⟩
    cases o1 with
    | o y => cases y with
      | nx st1 => exact fun σ' H' r' => ⟨F, st1, o, r', e, c⟩
      | bk _ => cases e; exact c
      | ct _ => cases e; exact c
      | rt _ _ => cases e; exact c
    | ex _ _ _ _ => cases e; exact c
theorem fssx_one (h1 : FSX X k W st s1) : FSXs X k W [st] s1 := pss_one h1
def xSIf (t : TM) (g1 g2 : SMX) : SMX := fun st => (t st).bind fun b => if b = true then g1 st else g2 st
theorem fsx_if (hc : FT X c t) (ha : FSXs X k W as s1) (hb : FSXs X k W bs s2) : FSX X k W (.If c as bs pos) (xSIf t s1 s2) := PS.weak (ps_if hc ha hb) fun Dn σ H ⟨F, st, o, ⟨fps, r⟩, e, c⟩ => by
  unfold xSIf at e
  cases e1 : t st with
  | none => rw [e1] at e; cases e
  | some b =>
    rw [e1] at e
    refine ⟨F, fps, st, b, r, e1, fun H1 q1 => ?_⟩
    cases b with
    | true => exact ⟨F, st, o, ⟨fps, r.mono q1⟩, e, c⟩
    | false => exact ⟨F, st, o, ⟨fps, r.mono q1⟩, e, c⟩
/-- for, its body may raise -/
def forX (m : GM) (b : SMX) : List D → SMX
  | [], st => some (.o (.nx st))
  | d :: r, st => (m d st).bind fun st1 => (b st1).bind fun o => match o with
    | .o (.nx st2) => forX m b r st2
    | .o (.ct st2) => forX m b r st2
    | .o (.bk st2) => some (.o (.nx st2))
    | .o (.rt d st2) => some (.o (.rt d st2))
    | .ex C nm ds st2 => some (.ex C nm ds st2)
def xFor (its : IM) (m : GM) (b : SMX) : SMX := fun st => (its st).bind fun ds => forX m b ds st
theorem fsx_for {its : IM} {m : GM} {I : List Nat} {body : List Stmt} (hp : PassesOwn (model X.prog X.w) X.A X.env X.xe) (hc : X.calm = true) (hi : FI X tg e its) (hg : FG X I tg m) (hb : FSXs X k W body s1)
    (hs : ∀ x, foldedSetIterable e X.env x = pure x := by intro _; rfl) : FSX X k W (.For tg e body [] pos) (xFor its m s1) := PS.weak (ps_for hp hc hi hg hb hs) fun Dn σ H ⟨F, st, o, ⟨fps, r⟩, e, c⟩ => by
  unfold xFor at e
  cases e1 : its st with
  | none => rw [e1] at e; cases e
  | some ds =>
    rw [e1] at e
    have e : forX m s1 ds st = some o := e
    refine ⟨F, fps, st, ds, r, e1, fun J H1 q1 dl => ?_⟩
    have r1 := r.mono q1
    refine ⟨fun i n σ' H' => n = ds.length - i ∧ i ≤ ds.length ∧ ∃ fps' st', StR X.K ⟨hideP H1 (own fps), F.pin⟩ fps' σ' H' st' ∧ forX m s1 (ds.drop i) st' = some o, ⟨ds.length, by simp, Nat.zero_le _, fps, st, ⟨Same.refl _, r1.nd, r1.dj, r1.len, r1.ok, r1.tmp, r1.fin⟩, by simpa using e⟩, ?_⟩
    rintro i n σ' H' ⟨rfl, hi, fps', st', r', e'⟩
    have weak : ∀ {fps2 : Fps} {σ2 : L2.St} {H2 : Hp} {st2 : Sl}, StR X.K ⟨hideP H1 (own fps), F.pin⟩ fps2 σ2 H2 st2 → StR X.K F fps2 σ2 H2 st2 := fun x => ⟨r1.fr.trans x.fr, x.nd, x.dj, x.len, x.ok, x.tmp, x.fin⟩
    have dl' := dl i H' (own fps') (fun a h => r'.there h) r'.fr
    by_cases hlt : i < ds.length
    · have ed : ds.drop i = ds[i] :: ds.drop (i + 1) := List.drop_eq_getElem_cons hlt
      rw [ed] at e'
      obtain ⟨hgo, hy⟩ := dl'.2 ds[i] (by simp [hlt])
      refine .inr ⟨hgo, fun σ2 H2 => ∃ fps2 st2, StR X.K ⟨hideP H1 (own fps), F.pin⟩ fps2 σ2 H2 st2 ∧ forX m s1 (ds.drop (i + 1)) st2 = some o, fun σ2 H2 ⟨fps2, st2, r2, e2⟩ => ⟨ds.length - (i + 1), by omega, rfl, hlt, fps2, st2, r2, e2⟩, fun x H2 y => ?_⟩
      obtain ⟨sx, rx⟩ := hy x H2 y
      have e' : ((m ds[i] st').bind fun st1 => (s1 st1).bind fun o => match o with
        | .o (.nx st2) => forX m s1 (ds.drop (i + 1)) st2
        | .o (.ct st2) => forX m s1 (ds.drop (i + 1)) st2
        | .o (.bk st2) => some (.o (.nx st2))
        | .o (.rt d st2) => some (.o (.rt d st2))
        | .ex C nm ds st2 => some (.ex C nm ds st2)) = some o := e'
      cases em : m ds[i] st' with
      | none => rw [em] at e'; cases e'
      | some st1 =>
        rw [em] at e'
        refine ⟨⟨hideP H1 (own fps), F.pin⟩, fps', st', ds[i], st1, r'.mono sx, rx, em, fun σ3 fps3 r3 _ _ _ => ?_⟩
        have e' : ((s1 st1).bind fun o => match o with
          | .o (.nx st2) => forX m s1 (ds.drop (i + 1)) st2
          | .o (.ct st2) => forX m s1 (ds.drop (i + 1)) st2
          | .o (.bk st2) => some (.o (.nx st2))
          | .o (.rt d st2) => some (.o (.rt d st2))
          | .ex C nm ds st2 => some (.ex C nm ds st2)) = some o := e'
        cases eb : s1 st1 with
        | none => rw [eb] at e'; cases e'
        | some ob =>
          rw [eb] at e'
          refine ⟨⟨hideP H1 (own fps), F.pin⟩, st1, ob, ⟨fps3, r3⟩, eb, ?_⟩
          cases ob with
          | o y =>
            cases y with
            | nx st2 => exact fun σ4 H4 ⟨fps4, r4⟩ => ⟨fps4, st2, r4, e'⟩
            | ct st2 => exact fun σ4 H4 ⟨fps4, r4⟩ => ⟨fps4, st2, r4, e'⟩
            | bk st2 =>
              cases e'
              exact fun σ4 H4 ⟨fps4, r4⟩ => c σ4 H4 ⟨fps4, weak r4⟩
            | rt d st2 =>
              cases e'
              exact fun v H4 ⟨fps4, fp4, h1, h2, h3, h4, h5, h6, h7⟩ => c v H4 ⟨fps4, fp4, h1, h2, h3, h4, r1.fr.trans h5, h6, h7⟩
          | ex C nm dds st2 =>
            cases e'
            exact fun σ4 H4 cls dd ⟨fps4, r4⟩ xr => c σ4 H4 cls dd ⟨fps4, weak r4⟩ xr
    · have hz : ds.length ≤ i := by omega
      rw [List.drop_eq_nil_of_le hz] at e'
      cases e'
      exact .inl ⟨dl'.1 hz, c σ' H' ⟨fps', weak r'⟩⟩
/-! ### raise -/
def xRaise0 (C : Str) : SMX := fun st => some (.ex C [] [] st)
/-- raise C('m'), C without __init__ -/
theorem fsx_raise0 {C m : Str} {Ca : Addr} {bmB : List Value} {B newId initId : String} {j2 : Nat} {p2 pos' : Pos} (hc : X.calm = true) (tk : Takes X W) (F : PySem.ExcBaseFacts B newId initId bmB) (q : PySem.W.excIn X.K Ca bmB newId = true) (nC : PySem.W.nsIn X.K mainGlobals C = some (some (.ref Ca))) (gC : X.mg C = some (.ref Ca)) (kC : PySem.W.keepIn X.K (.ref Ca) = true) (h1 : PySem.W.subIn X.K (.ref Ca) (.type "BaseException") = some true) (h2 : PySem.W.typeIn X.K (.ref Ca) = some (.type "type")) (hg : Gl X C)
    (hdb : (C == ("__debug__" : Str)) = false := by decide) : FSX X k W (.Raise (some (.Call (.Name C p) [.Constant (.str m) j2 p2] [] pos)) none pos') (xRaise0 C) :=
  PS.weak (ps_raise hc tk (pmk_own F q gC kC (raises_own h1 h2) hg hdb)) fun Dn σ H ⟨F, st, o, r, e, c⟩ => by
    cases e
    exact c σ H _ _ r ⟨Ca, nC, rfl, .inl ⟨rfl, rfl, rfl⟩⟩
/-! ### calls of defs that raise -/
def spX (K : PySem.W.Frag) (n k : Nat) (m : List D → Option RD) : Sp := fun vs H Q E => vs.length = n ∧ ∃ ds r, RepL K H ds vs ∧ m ds = some r ∧ match r with
  | .ok d => ∀ v H', Same H H' → (∃ fp : List Addr, fp.Nodup ∧ (∀ a ∈ fp, H a = none) ∧ Own K H' (hideP H' (· ∈ fp)) d k v fp) → Q v H'
  | .ex C nm ds => ∀ cls dd H', Same H H' → XRep K H' C nm ds cls dd → E cls dd H'
def fnRunX (n : Nat) (g : SMX) : List D → Option RD := fun ds => match g (ds.map (Slot.va 0) ++ List.replicate (n - ds.length) .un) with
  | some (.o (.rt d _)) => some (.ok d)
  | some (.o (.nx _)) => some (.ok .non)
  | some (.ex C nm ds _) => some (.ex C nm ds)
  | _ => none
def tFEX (K : PySem.W.Frag) (kd : Kd) (W : WX) (f : Sl → Option RD) : TE := fun σ H Q => ∃ F fps st r, StR K F fps σ H st ∧ f st = some r ∧ match r with
  | .ok d => ∀ v H', Same H H' → VR K fps H H' kd d v → Q v H'
  | .ex C nm ds => ∀ cls dd H', Same H H' → XRep K H' C nm ds cls dd → W cls dd σ H'
abbrev FEX (X : Cx) (kd : Kd) (W : WX) (e : Expr) (f : Sl → Option RD) : Prop := PE X e (tFEX X.K kd W f)
def chkX (k : Nat) : RD → Option RD
  | .ok d => (chk k d).map .ok
  | r => some r
def eCallX (k : Nat) (m : List D → Option RD) (f : AM) : Sl → Option RD := fun st => ((f st).bind m).bind (chkX k)
theorem fex_call {m : List D → Option RD} (tk : Takes X W) (G : FnOk X.prog X.w X.K X.mg X.base (L2.CX X.prog X.w) j fn fd ps (spX X.K n k m)) (hr : Room j X.A) (hg : Gl X x) (hm : X.mg x = some (.ref fn)) (hk : PySem.W.keepIn X.K (.ref fn) = true) (hb : Binds X.K fd ps []) (ha : FA X .rd (e :: es) fa) (hl : ALen n fa) (hdb : (x == ("__debug__" : Str)) = false := by decide)
    (he : starEach (e :: es) X.env = (false, eval e X.env) :: starEach es X.env := by rfl) (hpl : (backTo pos (starEach es X.env)).any (·.1) = false := by rfl) : FEX X (.ow k) W (.Call (.Name x p) (e :: es) [] pos) (eCallX k m fa) :=
  PE.weak (pe_callS G hr hg hm hk hb (passAt tk) ha hdb he hpl) fun σ H Q ⟨F, fps, st, d, r, ed, q⟩ => by
    unfold eCallX at ed
    cases e1 : fa st with
    | none => rw [e1] at ed; cases ed
    | some ds =>
      rw [e1] at ed
      have ed : (m ds).bind (chkX k) = some d := ed
      refine ⟨F, fps, st, ds, r, e1, fun vs H1 s1 w => ⟨by simpa using (VRL.length w).trans (hl st ds e1), ds, ?_⟩⟩
      cases em : m ds with
      | none => rw [em] at ed; cases ed
      | some rd =>
        rw [em] at ed
        refine ⟨rd, w, rfl, ?_⟩
        cases rd with
        | ok d0 =>
          have ed : (chk k d0).map RD.ok = some d := ed
          cases ec : chk k d0 with
          | none => rw [ec] at ed; cases ed
          | some d1 =>
            rw [ec] at ed
            cases ed
            obtain ⟨e0, fl⟩ := chk_some (o := some d0) (k := k) (d := d1) ec
            obtain rfl : d1 = d0 := (Option.some.inj e0).symm
            intro v H2 s2 ⟨fp, n, fr, o⟩
            refine q v H2 (s1.trans s2) ⟨fp, n, fun a m => s1.free (fr a m), Own.rebase fl (fun a z => ?_) o⟩
            rcases z with m | z
            · exact Own.isLst d1 k v fp o a m
            · exact (r.mono (s1.trans s2)).isLst z
        | ex C nm dds =>
          cases ed
          exact fun cls dd H2 s2 xr => q cls dd H2 (s1.trans s2) xr
/-- x = e, e may raise -/
def xSet (i k : Nat) (f : Sl → Option RD) : SMX := fun st => (f st).bind fun r => match r with
  | .ok d => if isVa st[i]? = true then some (.o (.nx (st.set i (.va k d)))) else none
  | .ex C nm ds => some (.ex C nm ds st)
theorem fsx_set {i k' : Nat} {pos' : Pos} {f : Sl → Option RD} (hN : X.N.Nodup) (hi : X.N[i]? = some x) (hx : Loc X.env.scope x) (he : FEX X (.ow k') W e f) (hs : swapsWith e (some (.Name x pos')) pos.line X.env = pure false := by rfl) (hf : X.fn x = true ∨ X.env.scope.names.lookup x = some .local := by first | exact .inl rfl | exact .inr rfl | assumption) :
    FSX X k W (.Assign [.Name x pos'] e pos) (xSet i k' f) := PS.weak (ps_set hN hi hx he hs hf) fun Dn σ H ⟨F, st, o, ⟨fps, r⟩, eo, c⟩ => by
  unfold xSet at eo
  cases e1 : f st with
  | none => rw [e1] at eo; cases eo
  | some rd =>
    rw [e1] at eo
    refine ⟨F, fps, st, rd, r, e1, ?_⟩
    cases rd with
    | ok d =>
      have eo : (if isVa st[i]? = true then some (OutX.o (.nx (st.set i (.va k' d)))) else none) = some o := eo
      split at eo
      · rename_i hv
        cases eo
        intro v H1 q1 ⟨fp, n, fr, w⟩
        exact c _ H1 ⟨_, r.set q1 (isVa_lt hv) n fr w⟩
      · cases eo
    | ex C nm ds =>
      cases eo
      exact fun cls dd H1 s1 xr => c σ H1 cls dd ⟨fps, r.mono s1⟩ xr
def xExp (f : Sl → Option RD) : SMX := fun st => (f st).bind fun r => match r with
  | .ok _ => some (.o (.nx st))
  | .ex C nm ds => some (.ex C nm ds st)
theorem fsx_exp {f : Sl → Option RD} (he : FEX X kd W e f) (hs : swapsWith e none pos.line X.env = pure false := by rfl) : FSX X k W (.Expr e pos) (xExp f) := PS.weak (ps_expr he hs) fun Dn σ H ⟨F, st, o, ⟨fps, r⟩, eo, c⟩ => by
  unfold xExp at eo
  cases e1 : f st with
  | none => rw [e1] at eo; cases eo
  | some rd =>
    rw [e1] at eo
    refine ⟨F, fps, st, rd, r, e1, ?_⟩
    cases rd with
    | ok d => cases eo; exact fun v H1 q1 w => c σ H1 ⟨fps, r.mono q1⟩
    | ex C nm ds => cases eo; exact fun cls dd H1 s1 xr => c σ H1 cls dd ⟨fps, r.mono s1⟩ xr
def okR : RD → Option D
  | .ok d => some d
  | _ => none
/-- a call of such a def that does not raise -/
theorem fe_callX {m : List D → Option RD} (G : FnOk X.prog X.w X.K X.mg X.base (L2.CX X.prog X.w) j fn fd ps (spX X.K n k m)) (hr : Room j X.A) (hg : Gl X x) (hm : X.mg x = some (.ref fn)) (hk : PySem.W.keepIn X.K (.ref fn) = true) (hb : Binds X.K fd ps []) (ha : FA X .rd (e :: es) fa) (hl : ALen n fa) (hdb : (x == ("__debug__" : Str)) = false := by decide)
    (he : starEach (e :: es) X.env = (false, eval e X.env) :: starEach es X.env := by rfl) (hpl : (backTo pos (starEach es X.env)).any (·.1) = false := by rfl) : FE X (.ow k) (.Call (.Name x p) (e :: es) [] pos) (eCallO k (fun ds => (m ds).bind okR) fa) :=
  PE.weak (pe_call G hr hg hm hk hb .nil (passL (X := X)) ha hdb he hpl) fun σ H Q ⟨F, fps, st, d, r, ed, q⟩ => by
    unfold eCallO at ed
    obtain ⟨ed, fl⟩ := chk_some ed
    cases e1 : fa st with
    | none => rw [e1] at ed; cases ed
    | some ds =>
      rw [e1] at ed
      have ed : (m ds).bind okR = some d := ed
      cases em : m ds with
      | none => rw [em] at ed; cases ed
      | some rd =>
        rw [em] at ed
        cases rd with
        | ex => cases ed
        | ok d0 =>
          obtain rfl : d0 = d := Option.some.inj ed
          refine ⟨F, fps, st, ds, r, e1, fun vs H1 s1 w => ⟨by simpa using (VRL.length w).trans (hl st ds e1), ds, .ok d0, by rw [List.append_nil]; exact w, em, fun v H2 s2 ⟨fp, n, fr, o⟩ => ?_⟩⟩
          refine q v H2 (s1.trans s2) ⟨fp, n, fun a m => s1.free (fr a m), Own.rebase fl (fun a z => ?_) o⟩
          rcases z with m | z
          · exact Own.isLst d0 k v fp o a m
          · exact (r.mono (s1.trans s2)).isLst z
/-! ### try .. except C: -/
/-- what the classes answer to except C -/
structure XmC (K : PySem.W.Frag) (D : Str) (Ca : Addr) (b : Bool) : Prop where
  ok : ∀ Da, PySem.W.nsIn K mainGlobals D = some (some (.ref Da)) → PySem.W.exmOne K (.ref Da) (.ref Ca) = some b
theorem xmC_of {D : Str} {Da Ca : Addr} {b : Bool} (h : PySem.W.nsIn K mainGlobals D = some (some (.ref Da))) (h1 : PySem.W.subIn K (.ref Ca) (.type "BaseException") = some true) (hd : PySem.W.hasDictIn K Ca = true) (ht : PySem.W.typeIn K (.ref Ca) = some (.type "type")) (h4 : PySem.W.subIn K (.ref Da) (.ref Ca) = some b) : XmC K D Ca b :=
  ⟨fun Db e => by rw [h] at e; cases e; exact PySem.W.exm_ref h1 hd ht h4⟩
def AllX (K : PySem.W.Frag) (Ca : Addr) : List Str → List Bool → Prop
  | c :: cs, b :: bs => XmC K c Ca b ∧ AllX K Ca cs bs
  | _, _ => True
theorem AllX.get {Ca : Addr} : ∀ {cs : List Str} {ns : List Bool} {j : Nat} {C : Str} {b : Bool}, AllX K Ca cs ns → cs[j]? = some C → ns[j]? = some b → XmC K C Ca b
  | [], _, _, _, _, _, e, _ => by simp at e
  | _ :: _, [], _, _, _, _, _, e => by simp at e
  | c :: cs, n :: ns, 0, _, _, h, e1, e2 => by simp at e1 e2; subst e1 e2; exact h.1
  | c :: cs, n :: ns, j + 1, _, _, h, e1, e2 => AllX.get (j := j) h.2 (by simpa using e1) (by simpa using e2)
def catchB (cs : List Str) (bs : List Bool) (C : Str) : Option Bool := (posS C cs).bind fun j => bs[j]?
def sTryOnly (cs : List Str) (bs : List Bool) (gb : SMX) (gs : SM) : SM := fun st => (gb st).bind fun o => match o with
  | .o x => some x
  | .ex C _ _ st' => match catchB cs bs C with
    | some true => gs st'
    | _ => none
theorem fs_try_only {C : Str} {Ca : Addr} {cs : List Str} {bs' : List Bool} {body suite : List Stmt} {b₀ : Stmt} {np pos' : Pos} {gb : SMX} {gs : SM} (hs : X.stack = X.env :: X.outer) (hf : X.env.frame = some X.env.locals) (hg : Gl X C) (hm : X.mg C = some (.ref Ca)) (hx : AllX X.K Ca cs bs')
    (hb : ∀ (W : WX) (pn : List (Addr × Obj)) (xe : Value → Shared → Prop), Takes (X.tr pn xe) W → PassesOwn (model X.prog X.w) X.A X.env xe → FSXs (X.tr pn xe) k W body gb)
    (hsu : ∀ (a : Addr) (oe : Obj) (pn : List (Addr × Obj)), FSs (X.suite a ((a, oe) :: pn)) k (b₀ :: suite) gs) (hdb : (C == ("__debug__" : Str)) = false := by decide) :
    FS X k (.Try body [.ExceptHandler (some (.Name C np)) none (b₀ :: suite) pos'] [] [] pos) (sTryOnly cs bs' gb gs) :=
  PS.weak (ps_try_only (c := .ref Ca) (ts := fun _ _ _ => tFS X.K k gs) (Wout := fun _ _ _ _ => False) hs hf ⟨hg, hdb, .inl hm⟩ takes0 (tb := fun W => tFSX X.K k W gb) (fun W pn xe tk po => hb W pn xe tk po) (fun a oe cls d pn _ _ => hsu a oe pn)) fun Dn σ H ⟨F, st, o, r, e, c⟩ => by
    unfold sTryOnly at e
    cases e1 : gb st with
    | none => rw [e1] at e; cases e
    | some ob =>
      rw [e1] at e
      refine ⟨F, st, ob, r, e1, ?_⟩
      cases ob with
      | o y => cases e; exact c
      | ex C' nm ds st' =>
        have e : (match catchB cs bs' C' with | some true => gs st' | _ => none) = some o := e
        cases e2 : catchB cs bs' C' with
        | none => rw [e2] at e; cases e
        | some bb =>
          cases bb with
          | false => rw [e2] at e; cases e
          | true =>
            rw [e2] at e
            unfold catchB at e2
            cases e3 : posS C' cs with
            | none => rw [e3] at e2; cases e2
            | some jj =>
              rw [e3] at e2
              intro σ' H' cls dd r' ⟨Da, n1, n2, _⟩
              subst n2
              exact ⟨true, (hx.get (posS_get e3) e2).ok Da n1, fun _ a ha => ⟨F, st', o, r', e, c⟩, fun z => by cases z⟩
end
section
variable {P : Program} {w : World} {K : PySem.W.Frag} {mg : Str → Option Value} {base : Heap}
theorem fn_okXX {x qual : Str} {st : Stmt} {f : Addr} {fd : FuncData} {N ps : List Str} {k : Nat} (F : Fun K x qual st f fd) (S : FnScope N ps (defScope st)) (kr : Nat) (g : SMX)
    (hb : ∀ (cdv : Value) (A : Around) (outer : List Env) (s : Shared) (H : Hp) (E : XK), Room k (A.deeper (envOfC qual (defScope st) s.heap.objs.size f cdv)) → ∀ W : WX, Takes (cxOf (L2.CX P w) P w K mg base N qual (defScope st) f cdv A outer s H E) W →
      FSXs (cxOf (L2.CX P w) P w K mg base N qual (defScope st) f cdv A outer s H E) kr W (defBody st) g) :
    FnOk P w K mg base (L2.CX P w) (k + 1) f fd ps (spX K ps.length kr (fnRunX N.length g)) := by
  refine F.okX S (fun vs H Q E h => h.1) (fun cdv A outer s H vs Q E hr h => ⟨_, hb cdv A outer s H E hr (fun cls d _ H => E cls d H) (takes_of rfl rfl rfl rfl), ?_⟩)
  obtain ⟨hl, ds, rd, r, e, q⟩ := h
  unfold fnRunX at e
  cases eg : g (ds.map (Slot.va 0) ++ List.replicate (N.length - ds.length) .un) with
  | none => rw [eg] at e; cases e
  | some o =>
    rw [eg] at e
    refine ⟨⟨H, fun _ => .non⟩, _, o, ⟨_, StR.init r⟩, eg, ?_⟩
    cases o with
    | o y =>
      cases y with
      | nx st' =>
        cases e
        intro σ' H' ⟨fps', r'⟩
        obtain ⟨h1, h2⟩ := RetOk.plain (k := kr) (r'.ret (Same.refl H') (VR.sc (d := .non) rfl rfl))
        exact q .non H' h1 h2
      | rt d' st' =>
        cases e
        intro v H' h
        obtain ⟨h1, h2⟩ := h.plain
        exact q v H' h1 h2
      | bk _ => cases e
      | ct _ => cases e
    | ex C nm dds st' =>
      cases e
      intro σ' H' cls dd ⟨fps', r'⟩ xr
      exact q cls dd H' (r'.fr.trans hideP_same) xr
end
end FL

namespace FL
open PySem PySem.Spec PyProof.Rows L2
/-! ### an exception that is caught and kept -/
theorem exK_ok {P : Program} {w : World} {H : Hp} {h : Heap} {a : Addr} {cls : Value} {dd : Option Addr} {oe : Obj} {vs : Array Value} (e : h.get? a = some oe) (z : Zc cls dd oe) (d : oe.data = .fields vs) : ObjOk P w H h a (ExK cls dd a) :=
  ⟨⟨oe, vs, e, z, d⟩, ⟨oe, e⟩, fun _ _ ⟨o, v, q, r⟩ k => ⟨o, v, k o q, r⟩⟩
section
variable {X : Cx} {pins : List (Addr × Obj)} {σ : L2.St} {H : Hp} {s : Shared}
/-- the suite's state, the exception tracked -/
theorem inv_keep (I : Inv X pins σ H s) {a : Addr} {oe : Obj} {vs : Array Value} {cls : Value} {d : Option Addr} (ha : s.heap.get? a = some oe) (hd : oe.data = .fields vs) (hz : Zc cls d oe) (na : H a = none) (nL : a ≠ X.env.locals) (n0 : X.s_0.heap.get? a = none) (np : ∀ p ∈ X.pn ++ pins, p.1 ≠ a) :
    Inv (X.suite a (X.pn ++ pins)) [] σ (upd H a (ExK cls d a)) s := by
  have nd : ∀ {b : Addr} {o : HO}, H b = some o → b ≠ a := fun e z => by rw [z, na] at e; cases e
  refine ⟨I.ok.suite _ _, I.os, I.bare, ⟨fun b o e n hb hx => I.base.keep b o e n hb hx, fun b o e n hb hx => I.base.slot b o e n hb hx, fun b o e n hx => ?_, fun b o e hx => I.base.there b o e hx, fun b xs e => ?_, fun b u xs e => ?_, fun b ps e => ?_⟩, I.loc, I.cell, ?_, fun x c e => ?_, fun p hp => ?_, ?_, I.len⟩
  · rw [upd_ne (fun z => by rw [z, n0] at e; cases e)]
    exact I.base.free b o e n hx
  · rw [upd_ne (nd (I.base.tups b xs e))]; exact I.base.tups b xs e
  · rw [upd_ne (nd (I.base.frzs b u xs e))]; exact I.base.frzs b u xs e
  · obtain ⟨qs, q⟩ := I.base.tbls b ps e
    exact ⟨qs, by rw [upd_ne (nd q)]; exact q⟩
  · show upd H a _ X.env.locals = none
    rw [upd_ne (Ne.symm nL)]; exact I.free
  · show upd H a _ c = none
    obtain ⟨v, hc⟩ := I.cell x c e
    rw [upd_ne (fun z => by
      subst z
      obtain ⟨o, e1, e2⟩ := hc
      rw [ha] at e1
      cases e1
      rw [hd] at e2
      cases e2)]
    exact I.freeC x c e
  · have hp' : p ∈ X.pn ++ pins := by rw [List.append_nil] at hp; exact hp
    obtain ⟨h1, h2, h3, h4, h5⟩ := I.pin p hp'
    exact ⟨h1, by rw [upd_ne (np p hp')]; exact h2, h3, h4, h5⟩
  · exact HOk.laidN I.hok (fun _ _ e => e) na (exK_ok ha hz hd)
/-- what the clause 'except x as n' wishes, the exception tracked from then on -/
def wKeep (K : PySem.W.Frag) (c : Value) (i : Nat) (ts : TS) (Wout : WX) (D : Ends) : WX := fun cls d σ H =>
  ∃ b, PySem.W.exmOne K cls c = some b ∧ (b = true → ∀ a, H a = none → ts { nx := fun σ' H' => D.nx (σ'.set i none) H', rt := D.rt, bk := fun σ' H' => D.bk (σ'.set i none) H', ct := fun σ' H' => D.ct (σ'.set i none) H' } (σ.set i (some (.ref a))) (upd H a (ExK cls d a))) ∧
    (b = false → Wout cls d σ H)
theorem inv_unkeep {a : Addr} (I : Inv (X.suite a (X.pn ++ pins)) [] σ H s) (ok : X.Ok) : Inv X pins σ H s :=
  ⟨ok, I.os, I.bare, I.base, I.loc, I.cell, I.free, I.freeC, fun p hp => I.pin p (List.mem_append_left _ hp), I.hok, I.len⟩
end
section
variable {X : Cx} {x n : Str} {c : Value} {i : Nat} {body suite : List Stmt} {b₀ : Stmt} {np pos pos' : Pos} {tb : WX → TS} {ts : TS} {Wout : WX}
theorem ps_try_keep (hex : X.ex = []) (hs : X.stack = X.env :: X.outer) (hf : X.env.frame = some X.env.locals) (hN : X.N.Nodup) (hi : X.N[i]? = some n) (hln : X.env.kindOf n = some .local) (hc : Names X x c) (tk : Takes X Wout)
    (hb : ∀ (W : WX) (pn : List (Addr × Obj)) (xe : Value → Shared → Prop), Takes (X.tr pn xe) W → PassesOwn (model X.prog X.w) X.A X.env xe → PSs (X.tr pn xe) body (tb W))
    (hsu : ∀ (a : Addr) (pn : List (Addr × Obj)), PSs (X.suite a pn) (b₀ :: suite) ts) :
    PS X (.Try body [.ExceptHandler (some (.Name x np)) (some n) (b₀ :: suite) pos'] [] [] pos) (fun D σ H => tb (wKeep X.K c i ts Wout D) D σ H) := by
  refine ⟨fun pins s σ H D I h => ?_⟩
  have ok := I.ok
  have hfr : X.A.frames = some (X.env :: X.outer) := by rw [ok.frames, hs]
  have hloc : Loc X.env.scope n := .inl hln
  refine wpAny_Try_except ?_
  refine wpAny_mono ((hb (wKeep X.K c i ts Wout D) (X.pn ++ pins) (fun e s₁ => wpAny (model X.prog X.w) X.A (noteFrame e X.env) (fun _ s₂ => wpAny (model X.prog X.w) X.A (setFlight e none) (fun _ s₃ =>
    wpAny (model X.prog X.w) X.A (handleBy e X.env [.ExceptHandler (some (.Name x np)) (some n) (b₀ :: suite) pos']) (SP X pins D) X.xe s₃) X.xe s₂) X.xe s₁) (fun u s' xx => ?_) PassesOwn.looking).run [] s σ H D (I.toTry _) h) (fun f s1 hsp => ?_) (fun e s1 he => he)
  · obtain ⟨a, B, sI, pins', σ', H', cls, d, rfl, J', nb, up, sky, na, os, ag, b, hb1, hyes, hno⟩ := xx
    have J : Inv X pins σ' H' sI := J'.ofTry ok
    have sky' : Sky B (X.env :: X.outer) a (Zc cls d) X.env.locals s'.heap := by rw [← hs]; exact sky
    show wpAny (model X.prog X.w) X.A (noteFrame (.ref a) X.env) _ _ _
    refine Sky.land Zc.steady hfr hf sky' fun h3 fl3 up3 => ?_
    have J3 : Inv X pins σ' H' { s' with heap := h3 } := J.landed nb fl3.1 (up.trans up3) os ag
    obtain ⟨oe3, vs3, he3, hz3, hd3⟩ := fl3.there
    have nfr : a ∉ frs (X.env :: X.outer) := fun hm => by
      obtain ⟨_, o', e', hnf⟩ := fl3.2.2.1.mem hm
      rw [he3] at e'; cases e'
      exact hnf _ hd3
    have nL : a ≠ X.env.locals := fun z => nfr (List.mem_filterMap.mpr ⟨X.env, List.mem_cons_self, by rw [hf, z]⟩)
    have nF : a ∉ X.fs := fun hm => by
      obtain ⟨e, he, q⟩ := List.mem_filterMap.mp hm
      exact nfr (List.mem_filterMap.mpr ⟨e, List.mem_cons_of_mem _ he, q⟩)
    -- the exception is new
    have nI : ∀ o, sI.heap.get? a ≠ some o := fun o e => by
      have := nb a o e (by rw [hs]; exact nfr)
      rw [fl3.2.1] at this
      cases this
    have n0 : X.s_0.heap.get? a = none := by
      cases e : X.s_0.heap.get? a with
      | none => rfl
      | some o =>
        obtain ⟨o', e'⟩ := J.base.there a o e (by rw [hex]; exact List.not_mem_nil)
        exact absurd e' (nI o')
    have npin : ∀ p ∈ X.pn ++ pins, p.1 ≠ a := fun p hp z => by
      have := (J.pin p hp).1
      rw [z] at this
      exact nI _ this
    have S3 := J3.suite he3 hd3 na nL nF
    refine wpAny_handleBy_cons (codeAny_handlers_test ?_) (by intro q; cases q)
    have LT : PySem.W.Looks (model X.prog X.w) h3 (typeOf (.ref a)) cls := fun A Q E s k q => wpAny_typeOf_ref (k _ _ he3) (by rw [hz3.1]; exact q)
    have LM := PySem.W.exm_one (M := model X.prog X.w) (J3.kIn) LT hb1
    have test : ∀ {Q : Value → Shared → Prop} {E : Value → Shared → Prop}, Q c { s' with heap := h3 } → wpAny (model X.prog X.w) (X.A.mark (some (.ref a))) (eval (.Name x np) X.env) Q E { s' with heap := h3 } := fun {Q E} q => by
      obtain ⟨hg, hdbg, hm | ⟨hm, hv, hnn⟩⟩ := hc
      · exact ld_glob (X := X.suite a ((a, oe3) :: (X.pn ++ pins))) S3 hg hm q hdbg
      · exact ld_blt (X := X.suite a ((a, oe3) :: (X.pn ++ pins))) S3 hg hm hv q hnn hdbg
    refine test (LM.here ?_)
    cases b with
    | true =>
      refine codeAny_handlers_suite_as ?_
      refine HandSPX.lands_againZ fl3 fun h4 fl4 up4 => ?_
      have J4 : Inv X pins σ' H' { s' with heap := h4 } := J.landed nb fl4.1 ((up.trans up3).trans up4) os ag
      obtain ⟨oe4, vs4, he4, hz4, hd4⟩ := fl4.there
      have S4 : Inv (X.suite a (X.pn ++ pins)) [] σ' (upd H' a (ExK cls d a)) { s' with heap := h4 } := inv_keep J4 he4 hd4 hz4 na nL n0 npin
      refine store_ok (X := X.suite a (X.pn ++ pins)) (v := .ref a) S4 hN hi hloc rfl (fun s5 S5 => ?_) (.inr hln)
      refine wpAny_mono ((hsu a (X.pn ++ pins)).run [] s5 _ _ _ S5 (hyes rfl a na)) (fun f s6 hsp => ?_) (fun _ _ z => False.elim z)
      have end_ : ∀ {σ6 : L2.St} {H6 : Hp} {Q : Shared → Prop}, Inv (X.suite a (X.pn ++ pins)) [] σ6 H6 s6 → (∀ s7, Inv X pins (σ6.set i none) H6 s7 → Q s7) →
          wpAny (model X.prog X.w) X.A (do bindName X.env n .none; unbindBehindTheSuite X.env n pos') (fun _ s7 => Q s7) X.xe s6 := fun {σ6 H6 Q} S6 hq => gone_ok (inv_unkeep S6 ok) hN hi hln hq
      cases f with
      | next =>
        obtain ⟨σ6, H6, S6, q6⟩ := hsp
        exact end_ S6 fun s7 J7 => ⟨_, _, J7, q6⟩
      | brk =>
        obtain ⟨σ6, H6, S6, q6⟩ := hsp
        exact end_ S6 fun s7 J7 => ⟨_, _, J7, q6⟩
      | cont =>
        obtain ⟨σ6, H6, S6, q6⟩ := hsp
        exact end_ S6 fun s7 J7 => ⟨_, _, J7, q6⟩
      | ret u =>
        obtain ⟨v6, σ6, H6, S6, r6, q6⟩ := hsp
        exact end_ S6 fun s7 J7 => ⟨_, _, _, J7, r6, q6⟩
    | false =>
      show wpAny _ X.A (handleBy (.ref a) X.env []) _ _ _
      refine wpAny_handleBy_nil ?_
      obtain ⟨k1, k2, k3, oe, vs, T, oT, ts', he, hz, hd, h1, hr⟩ := id fl3
      unfold PySem.passOn
      refine wpAny_bind (wpAny_field he hd h1 ?_)
      rw [if_neg (show ¬ ((Value.ref T == Value.none) = true) from by simp)]
      have fin : wpAny (model X.prog X.w) X.A (setFlight (.ref a) X.env.frame) (fun _ s4 => wpAny (model X.prog X.w) X.A (throw (.ref a) : Sem Flow) (SP X pins D) X.xe s4) X.xe { s' with heap := h3 } := by
        rw [hf]
        refine HandSPX.setFlight_upZ fl3 fun h4 hh4 up4 => wpAny_throw (tk _ _ ?_)
        exact ⟨a, B, sI, pins, σ', H', cls, d, rfl, J, nb, (up.trans up3).trans up4, .inr (.inr (by rw [hs]; exact hh4)), na, os, ag, hno rfl⟩
      first
        | exact wpAny_bind (wpAny_pure (wpAny_bind fin))
        | exact wpAny_bind fin
  · cases f with
    | next =>
      obtain ⟨σ', H', J', q⟩ := hsp
      exact wpAny_execs_nil ⟨σ', H', J'.ofTry ok, q⟩
    | brk =>
      obtain ⟨σ', H', J', q⟩ := hsp
      exact ⟨σ', H', J'.ofTry ok, q⟩
    | cont =>
      obtain ⟨σ', H', J', q⟩ := hsp
      exact ⟨σ', H', J'.ofTry ok, q⟩
    | ret u =>
      obtain ⟨v, σ', H', J', r, q⟩ := hsp
      exact ⟨v, σ', H', J'.ofTry ok, r, q⟩
end
section
variable {X : Cx} {k n j : Nat} {kd : Kd} {e a b c tg el : Expr} {es : List Expr} {f g h : EM} {pos p : Pos} {x : Str} {K : PySem.W.Frag}
/-- a slot that owns nothing is unset -/
theorem StR.unsetN {F : Fr} {fps : Fps} {σ : L2.St} {H : Hp} {st : Sl} {i : Nat} {d : D} (r : StR K F fps σ H st) (h : st[i]? = some (.va 0 d)) : StR K F fps (σ.set i none) H (st.set i .un) := by
  have hi : i < st.length := (List.getElem?_eq_some_iff.mp h).1
  obtain ⟨v, ev, ow⟩ := r.ok i _ h
  have fz : fps i = [] := (Own.zero _ _ _ ow).1
  refine ⟨r.fr, r.nd, r.dj, by rw [List.length_set, List.length_set]; exact r.len, fun j sl es => ?_, fun j a h2 m => r.tmp j a (by rw [List.length_set] at h2; exact h2) m, r.fin⟩
  by_cases hj : j = i
  · subst hj
    rw [List.getElem?_set_self hi] at es
    cases es
    exact fz
  · rw [List.getElem?_set_ne (Ne.symm hj)] at es
    rw [List.getElem?_set_ne (Ne.symm hj)]
    exact r.ok j sl es
def unsetO (i : Nat) : Out → Option Out
  | .nx st => if isV0 st[i]? = true then some (.nx (st.set i .un)) else none
  | .bk st => if isV0 st[i]? = true then some (.bk (st.set i .un)) else none
  | .ct st => if isV0 st[i]? = true then some (.ct (st.set i .un)) else none
  | .rt d st => some (.rt d st)
def sTryKeep (cs : List Str) (bs : List Bool) (i : Nat) (gb : SMX) (gs : SM) : SM := fun st => (gb st).bind fun o => match o with
  | .o x => some x
  | .ex C nm ds st' => match catchB cs bs C with
    | some true => if (isVa st'[i]? && fullL ds 0) = true then (gs (st'.set i (.va 0 (.exc C nm ds)))).bind (unsetO i) else none
    | _ => none
theorem exc_rep {F : Fr} {fps : Fps} {σ : L2.St} {H : Hp} {st : Sl} {C : Str} {nm : List Str} {ds : List D} {cls : Value} {dd : Option Addr} {a : Addr} (r : StR K F fps σ H st) (xr : XRep K H C nm ds cls dd) (na : H a = none) (hf : fullL ds 0 = true) :
    Rep K (hideP (upd H a (ExK cls dd a)) (own fps)) (.exc C nm ds) (.ref a) := by
  obtain ⟨Ca, n1, rfl, q⟩ := xr
  have s1 : Same H (upd H a (ExK (.ref Ca) dd a)) := same_upd na
  have noown : ¬ own fps a := fun z => r.there z na
  have kp : Keeps (upd H a (ExK (.ref Ca) dd a)) (hideP (upd H a (ExK (.ref Ca) dd a)) (own fps)) := hideP_keeps fun b z => (r.mono s1).isLst z
  rcases q with ⟨rfl, rfl, rfl⟩ | ⟨d, vs, ⟨hne, rfl⟩, hd, rl⟩
  · exact ⟨Ca, a, none, [], n1, rfl, ⟨hideP_some.mpr ⟨noown, upd_same⟩, .inl ⟨rfl, rfl⟩⟩, rfl⟩
  · exact ⟨Ca, a, some d, vs, n1, rfl, ⟨hideP_some.mpr ⟨noown, upd_same⟩, .inr ⟨d, ⟨hne, rfl⟩, kp _ _ (s1 _ _ hd) fun z => z⟩⟩, RepL.flat kp _ _ hf (RepL.mono s1 _ _ rl)⟩
theorem isV0_va {o : Option Slot} (h : isV0 o = true) : o = some .un ∨ ∃ d, o = some (.va 0 d) := by
  cases o with
  | none => cases h
  | some s => cases s with
    | un => exact .inl rfl
    | va k d => cases k with
      | zero => exact .inr ⟨d, rfl⟩
      | succ k => cases h
    | io k d => cases h
theorem StR.unset0 {F : Fr} {fps : Fps} {σ : L2.St} {H : Hp} {st : Sl} {i : Nat} (r : StR K F fps σ H st) (h : isV0 st[i]? = true) : StR K F fps (σ.set i none) H (st.set i .un) := by
  rcases isV0_va h with h | ⟨d, h⟩
  · have hi : i < st.length := (List.getElem?_eq_some_iff.mp h).1
    have fz : fps i = [] := r.ok i _ h
    refine ⟨r.fr, r.nd, r.dj, by rw [List.length_set, List.length_set]; exact r.len, fun j sl es => ?_, fun j a h2 m => r.tmp j a (by rw [List.length_set] at h2; exact h2) m, r.fin⟩
    by_cases hj : j = i
    · subst hj
      rw [List.getElem?_set_self hi] at es
      cases es
      exact fz
    · rw [List.getElem?_set_ne (Ne.symm hj)] at es
      rw [List.getElem?_set_ne (Ne.symm hj)]
      exact r.ok j sl es
  · exact r.unsetN h
theorem fs_try_keep {C y : Str} {Ca : Addr} {cs : List Str} {bs' : List Bool} {i : Nat} {body suite : List Stmt} {b₀ : Stmt} {np pos' : Pos} {gb : SMX} {gs : SM} (hex : X.ex = []) (hs : X.stack = X.env :: X.outer) (hf : X.env.frame = some X.env.locals) (hN : X.N.Nodup) (hi : X.N[i]? = some y) (hln : X.env.kindOf y = some .local) (hg : Gl X C) (hm : X.mg C = some (.ref Ca)) (hx : AllX X.K Ca cs bs')
    (hb : ∀ (W : WX) (pn : List (Addr × Obj)) (xe : Value → Shared → Prop), Takes (X.tr pn xe) W → PassesOwn (model X.prog X.w) X.A X.env xe → FSXs (X.tr pn xe) k W body gb)
    (hsu : ∀ (a : Addr) (pn : List (Addr × Obj)), FSs (X.suite a pn) k (b₀ :: suite) gs) (hdb : (C == ("__debug__" : Str)) = false := by decide) :
    FS X k (.Try body [.ExceptHandler (some (.Name C np)) (some y) (b₀ :: suite) pos'] [] [] pos) (sTryKeep cs bs' i gb gs) :=
  PS.weak (ps_try_keep (c := .ref Ca) (ts := tFS X.K k gs) (Wout := fun _ _ _ _ => False) hex hs hf hN hi hln ⟨hg, hdb, .inl hm⟩ takes0 (tb := fun W => tFSX X.K k W gb) (fun W pn xe tk po => hb W pn xe tk po) hsu) fun Dn σ H ⟨F, st, o, r, e, c⟩ => by
    unfold sTryKeep at e
    cases e1 : gb st with
    | none => rw [e1] at e; cases e
    | some ob =>
      rw [e1] at e
      refine ⟨F, st, ob, r, e1, ?_⟩
      cases ob with
      | o z => cases e; exact c
      | ex C' nm ds st' =>
        have e : (match catchB cs bs' C' with | some true => if (isVa st'[i]? && fullL ds 0) = true then (gs (st'.set i (.va 0 (.exc C' nm ds)))).bind (unsetO i) else none | _ => none) = some o := e
        cases e2 : catchB cs bs' C' with
        | none => rw [e2] at e; cases e
        | some bb =>
          cases bb with
          | false => rw [e2] at e; cases e
          | true =>
            rw [e2] at e
            have e : (if (isVa st'[i]? && fullL ds 0) = true then (gs (st'.set i (.va 0 (.exc C' nm ds)))).bind (unsetO i) else none) = some o := e
            unfold catchB at e2
            cases e3 : posS C' cs with
            | none => rw [e3] at e2; cases e2
            | some jj =>
              rw [e3] at e2
              intro σ' H' cls dd ⟨fps', r'⟩ xr
              have xr' := xr
              obtain ⟨Da, n1, n2, _⟩ := xr'
              subst n2
              refine ⟨true, (hx.get (posS_get e3) e2).ok Da n1, fun _ a ha => ?_, fun z => by cases z⟩
              split at e
              · rename_i hh
                have hh := Bool.and_eq_true_iff.mp hh
                cases eg : gs (st'.set i (.va 0 (.exc C' nm ds))) with
                | none => rw [eg] at e; cases e
                | some o1 =>
                  rw [eg] at e
                  have e : unsetO i o1 = some o := e
                  have rep := exc_rep r' xr ha hh.2
                  have s1 : Same H' (upd H' a (ExK (.ref Da) dd a)) := same_upd ha
                  obtain ⟨fp, nn, fr, w⟩ := VR.mk0 (H := H') rep
                  refine ⟨F, st'.set i (.va 0 (.exc C' nm ds)), o1, ⟨_, r'.set s1 (isVa_lt hh.1) nn fr w⟩, eg, ?_⟩
                  cases o1 with
                  | nx st1 =>
                    have e : (if isV0 st1[i]? = true then some (Out.nx (st1.set i .un)) else none) = some o := e
                    split at e
                    · rename_i h0
                      cases e
                      exact fun σ2 H2 ⟨fps2, r2⟩ => c _ _ ⟨fps2, r2.unset0 h0⟩
                    · cases e
                  | bk st1 =>
                    have e : (if isV0 st1[i]? = true then some (Out.bk (st1.set i .un)) else none) = some o := e
                    split at e
                    · rename_i h0
                      cases e
                      exact fun σ2 H2 ⟨fps2, r2⟩ => c _ _ ⟨fps2, r2.unset0 h0⟩
                    · cases e
                  | ct st1 =>
                    have e : (if isV0 st1[i]? = true then some (Out.ct (st1.set i .un)) else none) = some o := e
                    split at e
                    · rename_i h0
                      cases e
                      exact fun σ2 H2 ⟨fps2, r2⟩ => c _ _ ⟨fps2, r2.unset0 h0⟩
                    · cases e
                  | rt d1 st1 =>
                    cases e
                    exact c
              · cases e
/-! ### isinstance of a kept exception -/
def rIsX (K : PySem.W.Frag) : List V → Hp → VK → Prop := fun xs H Q => ∃ (a D : Addr) (c : V) (cv : Value) (b : Bool), xs = [.ref a, c] ∧ H a = some (ExK (.ref D) none a) ∧ ExcC K D ∧ (∀ u, RelV c u → u = cv) ∧ PySem.W.kitOne K (.ref D) cv = some b ∧ Q (.bl b) H
theorem call_isX : CallR X (.builtin "isinstance") (rIsX X.K) := by
  intro pins s σ H xs us Q I r h
  obtain ⟨a, D, c, cv, b, rfl, ha, C, hcv, e, q⟩ := h
  cases r with
  | cons rx rr =>
    cases rr with
    | cons rt rr =>
      cases rr
      cases rx
      have ec := hcv _ rt
      subst ec
      obtain ⟨⟨oe, vs, hget, hz, hv⟩, _⟩ := I.hok a _ ha
      have J : PySem.W.InstAt s.heap a oe D none := by
        obtain ⟨oc, od, oda, osl⟩ := oe
        obtain ⟨h1, h2⟩ := hz
        dsimp only at h1 h2 hv
        subst h1 h2 hv
        exact ⟨hget, rfl, rfl, trivial⟩
      exact PySem.W.kia_one (PySem.W.handS_kitx_exc C.hg C.hk C.hs C.hd C.ha C.hn C.ht C.hm) I.kIn J e (fun z => nomatch z) fun tk => ⟨.bl b, H, I.kept (t' := tk) fun _ _ z => z, rfl, q⟩
structure IsX (K : PySem.W.Frag) (C : Str) (cv : Value) (b : Bool) : Prop where
  ok : ∀ Da, PySem.W.nsIn K mainGlobals C = some (some (.ref Da)) → ExcC K Da ∧ PySem.W.kitOne K (.ref Da) cv = some b
theorem isX_of {C : Str} {Da : Addr} {cv : Value} {b : Bool} (h : PySem.W.nsIn K mainGlobals C = some (some (.ref Da))) (c : ExcC K Da) (i : PySem.W.kitOne K (.ref Da) cv = some b) : IsX K C cv b :=
  ⟨fun Db e => by rw [h] at e; cases e; exact ⟨c, i⟩⟩
def AllIX (K : PySem.W.Frag) (cv : Value) : List Str → List Bool → Prop
  | c :: cs, n :: ns => IsX K c cv n ∧ AllIX K cv cs ns
  | _, _ => True
theorem AllIX.get {cv : Value} : ∀ {cs : List Str} {ns : List Bool} {j : Nat} {C : Str} {b : Bool}, AllIX K cv cs ns → cs[j]? = some C → ns[j]? = some b → IsX K C cv b
  | [], _, _, _, _, _, e, _ => by simp at e
  | _ :: _, [], _, _, _, _, _, e => by simp at e
  | c :: cs, n :: ns, 0, _, _, h, e1, e2 => by simp at e1 e2; subst e1 e2; exact h.1
  | c :: cs, n :: ns, j + 1, _, _, h, e1, e2 => AllIX.get (j := j) h.2 (by simpa using e1) (by simpa using e2)
def mIsX (cs : List Str) (bs : List Bool) : D → Option D
  | .exc C [] _ => (posS C cs).bind fun j => (bs[j]?).map FL.D.bl
  | _ => none
theorem kit_ty {Da : Addr} {T : String} {b : Bool} (h1 : PySem.W.kitMeta T = true) (h2 : PySem.W.subIn K (.ref Da) (.type T) = some b) : PySem.W.kitOne K (.ref Da) (.type T) = some b := by
  unfold PySem.W.kitOne
  rw [if_neg (by intro z; have := beq_iff_eq.mp z; cases this)]
  show (if PySem.W.kitMeta T = true then _ else _) = _
  rw [if_pos h1, h2]
theorem fe_isX {y : Str} {pT : Pos} {c : V} {cv : Value} {cs : List Str} {bs : List Bool} (hg : Gl X "isinstance") (hm : X.mg "isinstance" = none) (hy : PE X (.Name y pT) (tC c)) (hcv : ∀ u, RelV c u → u = cv) (hI : AllIX X.K cv cs bs) (ha : FE X .rd e f)
    (he : starEach [e, .Name y pT] X.env = (false, eval e X.env) :: starEach [.Name y pT] X.env := by rfl) (he2 : starEach [.Name y pT] X.env = (false, eval (.Name y pT) X.env) :: starEach [] X.env := by rfl) (hpl : (backTo pos (starEach [.Name y pT] X.env)).any (·.1) = false := by rfl) :
    FE X kd (.Call (.Name "isinstance" p) [e, .Name y pT] [] pos) (eB (mIsX cs bs) f) := PE.weak (pe_callB call_isX hg hm (by decide +kernel) (pa_cons ha (pa_cons hy pa_nil he2) he) (by decide) (by decide) he hpl) fun σ H Q ⟨F, fps, st, d, r, ed, q⟩ => by
  unfold eB at ed
  cases ef : f st with
  | none => rw [ef] at ed; cases ed
  | some x =>
    rw [ef] at ed
    refine ⟨F, fps, st, x, r, ef, fun v H1 s1 w => ?_⟩
    cases x with
    | exc C nm ds =>
      cases nm with
      | cons => cases ed
      | nil =>
        change (posS C cs).bind (fun j => (bs[j]?).map FL.D.bl) = some d at ed
        cases e2 : posS C cs with
        | none => rw [e2] at ed; cases ed
        | some jj =>
          rw [e2] at ed
          change (bs[jj]?).map FL.D.bl = some d at ed
          cases e3 : bs[jj]? with
          | none => rw [e3] at ed; cases ed
          | some b =>
            rw [e3] at ed; cases ed
            obtain ⟨Ca, a, dd, xs, ec, ev, ⟨eh, xd⟩, rr⟩ := w
            subst ev
            obtain ⟨c1, i1⟩ := (hI.get (posS_get e2) e3).ok Ca ec
            rcases xd with ⟨_, rfl⟩ | ⟨d', ⟨hne, _⟩, hd'⟩
            · exact ⟨a, Ca, c, cv, b, rfl, eh, c1, hcv, i1, q _ H1 s1 (VR.sc (d := .bl b) rfl rfl)⟩
            · exact absurd rfl hne
    | _ => cases ed
end
end FL

namespace FL
open PySem PySem.Spec PyProof.Rows L2
/-! ### own exceptions with an own __init__(self, n) that keeps n -/
section
variable {X : Cx} {k n j : Nat} {kd : Kd} {e a b c tg el : Expr} {es : List Expr} {f g h : EM} {ta : TA} {pos p p1 p2 : Pos} {x : Str} {K : PySem.W.Frag} {W : WX}
/-- B.__init__(self, ..), B an own class over ValueError that has no own __init__ -/
theorem pe_oinit {pl : Sem Bool} {B : Str} {Ba : Addr} (hg : Gl X B) (hm : X.mg B = some (.ref Ba)) (tB : PySem.W.typeIn X.K (.ref Ba) = some (.type "type")) (rB : PySem.W.readsIn X.K Ba (.type "type") = true)
    (sg : PySem.W.specialIn X.K (.ref Ba) "__getattribute__" = some (some (.builtin "type.__getattribute__"))) (vV : PySem.W.findCls X.K (.ref Ba) (.type "type") "__init__" = some (.val (.builtin "ValueError.__init__"))) (ha : PA X (e :: es) ta)
    (hdb : (B == ("__debug__" : Str)) = false := by decide)
    (hc : eval (.Call (.Attribute (.Name B p1) "__init__" p2) (e :: es) [] pos) X.env = (do
      let ov ← eval (.Name B p1) X.env
      standAt p2.atName
      let (f, first) ← holding [ov] (getMethod ov "__init__" pl)
      callWith pos f first (backTo pos (starEach (e :: es) X.env)) (backToKw pos (keywordEach [] X.env))) := by rfl)
    (he : starEach (e :: es) X.env = (false, eval e X.env) :: starEach es X.env := by rfl) (hpl : (backTo pos (starEach es X.env)).any (·.1) = false := by rfl) :
    PE X (.Call (.Attribute (.Name B p1) "__init__" p2) (e :: es) [] pos) (tVeI X.K ta) := by
  refine ⟨fun pins s σ H Q I h => ?_⟩
  refine PySem.W.methodCall_KW (ld_glob I hg hm ?_ hdb) hc
  obtain ⟨m, fr⟩ := I.fr
  refine PySem.W.method_of_cls fr I.ok.mod.kin sg (PySem.W.cls_val fr I.ok.mod.kin tB rB vV (by decide +kernel) ?_)
  show wpAny _ _ (callWith pos (Value.builtin "ValueError.__init__") [] (backTo pos (starEach (e :: es) X.env)) []) _ _ _
  refine PyProof.Rows.callWith_method1 (thn (ha.run pos pins _ σ H _ (I.tok _) h) fun us s1 ⟨vs, H1, I1, r1, a, C, ws, ev, hl, T, ea, q⟩ => ?_) he hpl
  subst ev
  cases r1 with
  | @cons _ u0 _ ur ra rw' =>
    obtain rfl : u0 = Value.ref a := ra
    have hlen : ur.length ≤ sizeLine := by
      rw [← Paired.length rw', sizeLine_eq]
      omega
    exact oinit_ok T I1 ea hlen fun s' J => ⟨.non, H1, J, rfl, q⟩
/-- what such an __init__ promises -/
def spOI (K : PySem.W.Frag) (f : Str) : Sp := fun vs H Q _ => ∃ (a C : Addr) (y : V), vs = [.ref a, y] ∧ OexC K C ∧ PySem.W.findIn K (.ref C) f = some none ∧ H a = some (exo a C none) ∧
  ∀ d, H d = none → d ≠ a → Q .non (upd (upd H d (exd d [(f, y)])) a (exo a C (some d)))
def tInit (K : PySem.W.Frag) (f m : Str) : TS := tSeq (tDrop (tVeI K (tCons (tVar 0) (tCons (tC (.str m)) tNil)))) (tOst K f (tVar 0) (tVar 1))
end
section
variable {P : Program} {w : World} {K : PySem.W.Frag} {mg : Str → Option Value} {base : Heap}
theorem fn_okInit {x qual : Str} {st : Stmt} {fa : Addr} {fd : FuncData} {N ps : List Str} {k : Nat} {f m : Str} (F : Fun K x qual st fa fd) (S : FnScope N ps (defScope st)) (hps : ps.length = 2)
    (hb : ∀ (cdv : Value) (A : Around) (outer : List Env) (s : Shared) (H : Hp) (E : XK), Room k (A.deeper (envOfC qual (defScope st) s.heap.objs.size fa cdv)) →
      PSs (cxOf (L2.CX P w) P w K mg base N qual (defScope st) fa cdv A outer s H E) (defBody st) (tInit K f m)) :
    FnOk P w K mg base (L2.CX P w) (k + 1) fa fd ps (spOI K f) := by
  refine F.okX S (fun vs H Q E ⟨_, _, _, e, _⟩ => by rw [e, hps]; rfl) (fun cdv A outer s H vs Q E hr h => ⟨_, hb cdv A outer s H E hr, ?_⟩)
  obtain ⟨a, C, y, rfl, T, hf, ea, q⟩ := h
  exact ⟨.ref a, rfl, a, C, [.str m], rfl, by show 1 ≤ 1000; omega, T, ea, y, rfl, .ref a, rfl, a, C, rfl, T, hf, .inl ⟨ea, fun d n ne => q d n ne⟩⟩
end
section
variable {X : Cx} {k n j : Nat} {kd : Kd} {e a b c tg el : Expr} {es : List Expr} {f g h : EM} {ta : TA} {pos pos' p p1 p2 : Pos} {x : Str} {K : PySem.W.Frag} {W : WX}
def xRaiseI (C nm : Str) (f : EM) : SMX := fun st => (f st).bind fun d => match d with
  | .int i => some (.ex C [nm] [.int i] st)
  | _ => none
/-- raise C(e), e an int that C's __init__ keeps -/
theorem fsx_raiseI {C nm : Str} {Ca fI : Addr} {k2 : Nat} {fd : FuncData} {ps : List Str} (hc : X.calm = true) (tk : Takes X W) (nC : PySem.W.nsIn X.K mainGlobals C = some (some (.ref Ca))) (T : OexC X.K Ca) (iC : PySem.W.findIn X.K (.ref Ca) "__init__" = some (some (.ref fI))) (tI : PySem.W.typeIn X.K (.ref fI) = some (.type "function"))
    (hno : PySem.W.findIn X.K (.ref Ca) nm = some none) (F1 : FnOk X.prog X.w X.K X.mg X.base (L2.CX X.prog X.w) k2 fI fd ps (spOI X.K nm)) (hr : Room (k2 + 1) X.A) (hb : Binds X.K fd ps []) (hg : Gl X C) (hm : X.mg C = some (.ref Ca)) (he1 : FE X .rd e f)
    (hdb : (C == ("__debug__" : Str)) = false := by decide) (he : starEach [e] X.env = (false, eval e X.env) :: starEach [] X.env := by rfl) (hpl : (backTo pos (starEach [] X.env)).any (·.1) = false := by rfl) :
    FSX X k W (.Raise (some (.Call (.Name C p) [e] [] pos)) none pos') (xRaiseI C nm f) :=
  PS.weak (ps_raise hc tk (pmk_oex T iC tI F1 hr hb .nil (passes_call (W := fun _ _ _ _ => False) takes0 fun _ _ _ _ z => z) hg hm (pa_cons he1 pa_nil he) hdb he hpl)) fun Dn σ H ⟨F, st, o, ⟨fps, r⟩, e, c⟩ => by
    unfold xRaiseI at e
    cases e1 : f st with
    | none => rw [e1] at e; cases e
    | some d =>
      rw [e1] at e
      cases d with
      | int i =>
        cases e
        refine ⟨F, fps, st, .int i, r, e1, fun v H1 s1 w => ⟨by show 1 ≤ 1000; omega, fun a na => ⟨a, Ca, v, rfl, T, hno, upd_same, fun d hd hda => ?_⟩⟩⟩
        have hd1 : H1 d = none := by rw [upd_ne hda] at hd; exact hd
        refine ⟨rfl, d, [(nm, v)], upd_same, by rw [upd_ne hda, upd_same], hd1, ?_⟩
        have sm : Same H1 (upd (del (upd (upd (upd H1 a (exo a Ca none)) d (exd d [(nm, v)])) a (exo a Ca (some d))) a) d (.xd [(nm, v)])) := fun b o eb => by
          have hba : b ≠ a := fun z => by rw [z, na] at eb; cases eb
          have hbd : b ≠ d := fun z => by rw [z, hd1] at eb; cases eb
          rw [upd_ne hbd, del_ne hba, upd_ne hba, upd_ne hbd, upd_ne hba]
          exact eb
        exact c σ _ _ _ ⟨fps, r.mono (s1.trans sm)⟩ ⟨Ca, nC, rfl, .inr ⟨d, [v], ⟨by simp, rfl⟩, upd_same, ⟨v, [], rfl, w, rfl⟩⟩⟩
      | _ => cases e
/-! ### a kept exception, with or without a field: isinstance, and its field -/
def rIsY (K : PySem.W.Frag) : List V → Hp → VK → Prop := fun xs H Q => ∃ (a D : Addr) (c : V) (cv : Value) (b : Bool) (dd : Option Addr), xs = [.ref a, c] ∧ H a = some (ExK (.ref D) dd a) ∧ (∀ d, dd = some d → ∃ fs, H d = some (.xd fs)) ∧ ExcC K D ∧ (∀ u, RelV c u → u = cv) ∧ PySem.W.kitOne K (.ref D) cv = some b ∧ Q (.bl b) H
theorem call_isY : CallR X (.builtin "isinstance") (rIsY X.K) := by
  intro pins s σ H xs us Q I r h
  obtain ⟨a, D, c, cv, b, dd, rfl, ha, hx, C, hcv, e, q⟩ := h
  cases r with
  | cons rx rr =>
    cases rr with
    | cons rt rr =>
      cases rr
      cases rx
      have ec := hcv _ rt
      subst ec
      obtain ⟨⟨oe, vs, hget, hz, hv⟩, _⟩ := I.hok a _ ha
      have hcl : (PySem.W.clsIn X.K D).isSome = true := by
        obtain ⟨cd, hc, _⟩ := PySem.W.any_some C.hd
        rw [hc]; rfl
      have J : ∃ od, PySem.W.InstAt s.heap a oe D od := by
        obtain ⟨oc, od, oda, osl⟩ := oe
        obtain ⟨h1, h2⟩ := hz
        dsimp only at h1 h2 hv
        subst h1 h2 hv
        cases od with
        | none => exact ⟨none, hget, rfl, rfl, trivial⟩
        | some d =>
          obtain ⟨fs, hd⟩ := hx d rfl
          obtain ⟨mA, hns, _⟩ := (I.hok d _ hd : ObjOk X.prog X.w H s.heap d (.xd fs))
          obtain ⟨od, ho, _⟩ := lookIn_ns hns
          exact ⟨some od, hget, rfl, rfl, ho⟩
      obtain ⟨od, J⟩ := J
      exact PySem.W.kia_one (PySem.W.kitx_exc hcl C.hg C.hk C.hs C.ha C.hn C.ht C.hm) I.kIn J e (fun z => nomatch z) fun tk => ⟨.bl b, H, I.kept (t' := tk) fun _ _ z => z, rfl, q⟩
def mIsY (cs : List Str) (bs : List Bool) : D → Option D
  | .exc C _ _ => (posS C cs).bind fun j => (bs[j]?).map FL.D.bl
  | _ => none
theorem fe_isY {y : Str} {pT : Pos} {c : V} {cv : Value} {cs : List Str} {bs : List Bool} (hg : Gl X "isinstance") (hm : X.mg "isinstance" = none) (hy : PE X (.Name y pT) (tC c)) (hcv : ∀ u, RelV c u → u = cv) (hI : AllIX X.K cv cs bs) (ha : FE X .rd e f)
    (he : starEach [e, .Name y pT] X.env = (false, eval e X.env) :: starEach [.Name y pT] X.env := by rfl) (he2 : starEach [.Name y pT] X.env = (false, eval (.Name y pT) X.env) :: starEach [] X.env := by rfl) (hpl : (backTo pos (starEach [.Name y pT] X.env)).any (·.1) = false := by rfl) :
    FE X kd (.Call (.Name "isinstance" p) [e, .Name y pT] [] pos) (eB (mIsY cs bs) f) := PE.weak (pe_callB call_isY hg hm (by decide +kernel) (pa_cons ha (pa_cons hy pa_nil he2) he) (by decide) (by decide) he hpl) fun σ H Q ⟨F, fps, st, d, r, ed, q⟩ => by
  unfold eB at ed
  cases ef : f st with
  | none => rw [ef] at ed; cases ed
  | some x =>
    rw [ef] at ed
    refine ⟨F, fps, st, x, r, ef, fun v H1 s1 w => ?_⟩
    cases x with
    | exc C nm ds =>
      change (posS C cs).bind (fun j => (bs[j]?).map FL.D.bl) = some d at ed
      cases e2 : posS C cs with
      | none => rw [e2] at ed; cases ed
      | some jj =>
        rw [e2] at ed
        change (bs[jj]?).map FL.D.bl = some d at ed
        cases e3 : bs[jj]? with
        | none => rw [e3] at ed; cases ed
        | some b =>
          rw [e3] at ed; cases ed
          obtain ⟨Ca, a, dd, xs, ec, ev, ⟨eh, xd⟩, rr⟩ := w
          subst ev
          obtain ⟨c1, i1⟩ := (hI.get (posS_get e2) e3).ok Ca ec
          refine ⟨a, Ca, c, cv, b, dd, rfl, eh, fun d0 ed0 => ?_, c1, hcv, i1, q _ H1 s1 (VR.sc (d := .bl b) rfl rfl)⟩
          rcases xd with ⟨_, rfl⟩ | ⟨d', ⟨_, rfl⟩, hd'⟩
          · cases ed0
          · cases ed0; exact ⟨_, hd'⟩
    | _ => cases ed
/-- x.n of a kept exception -/
def tKx (K : PySem.W.Frag) (n : Str) (te : TE) : TE := fun σ H Q => te σ H fun x H1 => ∃ (a D d : Addr) (fs : List (Str × V)) (v : V), x = .ref a ∧ H1 a = some (ExK (.ref D) (some d) a) ∧ XfC K D ∧ PySem.W.findIn K (.ref D) n = some none ∧ H1 d = some (.xd fs) ∧ fs.lookup n = some v ∧ Q v H1
theorem pe_kx {te : TE} {n : Str} (he : PE X e te) (hb : attributeBase e n X.env (eval e X.env) = eval e X.env := by rfl) : PE X (.Attribute e n pos) (tKx X.K n te) := by
  refine ⟨fun pins s σ H Q I h => ?_⟩
  refine attr_of hb (thn (he.run pins s σ H _ I h) fun u s1 hh => ?_)
  obtain ⟨x, H1, I1, rx, a, D, dd, fs, v, rfl, ea, T, hno, ed, l, q⟩ := hh
  obtain rfl : u = Value.ref a := rx
  obtain ⟨⟨oe, vs, hget, hz, hv⟩, _⟩ := I1.hok a _ ea
  obtain ⟨mA, hns, hr⟩ := (I1.hok dd _ ed : ObjOk X.prog X.w H1 s1.heap dd (.xd fs))
  obtain ⟨od, ho, hl⟩ := lookIn_ns hns
  obtain ⟨u, hu, ru⟩ := RelO.some_of (v := v) (o := mA n) (by rw [← l]; exact hr n)
  have J : PySem.W.InstAt s1.heap a oe D (some od) := ⟨hget, hz.1, by unfold PySem.W.notCls; rw [hv] <;> rfl, by rw [hz.2]; exact ho⟩
  exact HandSPX.exc_get I1.kIn J T.ga T.gg T.exC (PySem.W.findObj_own T.hdC hno rfl (by rw [hl, hu])) (handed_of ru) ⟨v, H1, I1.tok _, ru, q⟩
structure FldX (K : PySem.W.Frag) (n C : Str) : Prop where
  ok : ∀ Da, PySem.W.nsIn K mainGlobals C = some (some (.ref Da)) → XfC K Da ∧ PySem.W.findIn K (.ref Da) n = some none
theorem fldX_of {n C : Str} {Da : Addr} (h : PySem.W.nsIn K mainGlobals C = some (some (.ref Da))) (c : XfC K Da) (i : PySem.W.findIn K (.ref Da) n = some none) : FldX K n C :=
  ⟨fun Db e => by rw [h] at e; cases e; exact ⟨c, i⟩⟩
def AllFX (K : PySem.W.Frag) (n : Str) : List Str → Prop
  | c :: cs => FldX K n c ∧ AllFX K n cs
  | [] => True
theorem AllFX.get {n : Str} : ∀ {cs : List Str} {j : Nat} {C : Str}, AllFX K n cs → cs[j]? = some C → FldX K n C
  | [], _, _, _, e => by simp at e
  | c :: cs, 0, _, h, e1 => by simp at e1; subst e1; exact h.1
  | c :: cs, j + 1, _, h, e1 => AllFX.get (j := j) h.2 (by simpa using e1)
/-- only the first field, an int -/
def mXat (cs : List Str) (n : Str) : D → Option D
  | .exc C [m] [.int i] => (posS C cs).bind fun _ => if n = m then some (.int i) else none
  | _ => none
theorem fe_xat {n : Str} {cs : List Str} (hF : AllFX X.K n cs) (he : FE X .rd e f) (hb : attributeBase e n X.env (eval e X.env) = eval e X.env := by rfl) : FE X kd (.Attribute e n pos) (eB (mXat cs n) f) := PE.weak (pe_kx he hb) fun σ H Q ⟨F, fps, st, d, r, ed, q⟩ => by
  unfold eB at ed
  cases ef : f st with
  | none => rw [ef] at ed; cases ed
  | some x =>
    rw [ef] at ed
    refine ⟨F, fps, st, x, r, ef, fun v H1 s1 w => ?_⟩
    have ed : mXat cs n x = some d := ed
    unfold mXat at ed
    split at ed
    · rename_i C m i _
      cases e2 : posS C cs with
      | none => rw [e2] at ed; cases ed
      | some jj =>
        rw [e2] at ed
        have ed : (if n = m then some (D.int i) else none) = some d := ed
        by_cases hnm : n = m
        · rw [if_pos hnm] at ed
          cases ed
          subst hnm
          obtain ⟨Ca, a, dd, xs, ec, ev, ⟨eh, xd⟩, rr⟩ := w
          subst ev
          obtain ⟨c1, i1⟩ := (hF.get (posS_get e2)).ok Ca ec
          obtain ⟨v0, vs0, rfl, rv, _⟩ := rr
          obtain rfl : v0 = .int i := rv
          rcases xd with ⟨hz, _⟩ | ⟨d', ⟨_, rfl⟩, hd'⟩
          · cases hz
          · exact ⟨a, Ca, d', _, .int i, rfl, eh, c1, i1, hd', by simp [List.lookup], q _ H1 s1 (VR.sc (d := .int i) rfl rfl)⟩
        · rw [if_neg hnm] at ed
          cases ed
    · cases ed
end
end FL

namespace FL
open PySem PySem.Spec PyProof.Rows L2
/-! ### defs that change lists of the caller's and may raise -/
abbrev BackK (K : PySem.W.Frag) (H : Hp) (vs : List V) (io : Io) (kr : Nat) (fs : List (List Addr)) (d : D) (ds' : List D) (Q : VK) : Prop :=
  ∀ v H' fs' fp, (∀ a o, H a = some o → ¬ inF fs a → H' a = some o) → apart fs' → (∀ a, inF fs' a → inF fs a ∨ H a = none) → fp.Nodup → (∀ a ∈ fp, ¬ inF fs' a ∧ (inF fs a ∨ H a = none)) →
    ioBack K H' (hideP H' (fun a => a ∈ fp ∨ inF fs' a)) io ds' vs fs' → Own K H' (hideP H' (fun a => a ∈ fp ∨ inF fs' a)) d kr v fp → Q v H'
theorem io_ret {K : PySem.W.Frag} {H H' : Hp} {vs : List V} {io : Io} {kr : Nat} {fs : List (List Addr)} {d : D} {ds' : List D} {Q : VK} {v : V} {st' : Sl} (hl : vs.length = io.length) (hr : RetOk K ⟨hideP H (inF fs), fun i => vs.getD i .non⟩ H' kr d v st') (ee : ioEnd io st' = some ds')
    (q : BackK K H vs io kr fs d ds' Q) : Q v H' := by
  have ee : (ioEnd io st').map (fun ds' => (d, ds')) = some (d, ds') := by rw [ee]; rfl
  obtain ⟨fps, fp, nfp, nd, dj, ds0, sg, od, oio⟩ := hr
  cases ei : ioEnd io st' with
  | none => rw [ei] at ee; cases ee
  | some dsx =>
    rw [ei] at ee; cases ee
    have hsee : ∀ a, own2 fps fp a → inF fs a ∨ H a = none := fun a z => by
      by_cases h1 : inF fs a
      · exact .inl h1
      · cases h2 : H a with
        | none => exact .inr rfl
        | some o => exact ((hideP_some.mp (sg a o (hideP_some.mpr ⟨h1, h2⟩))).1 z).elim
    have b := ioEnd.back (K := K) (H := H') (F := hideP H' (own2 fps fp)) (fps := fps) (pin := fun i => vs.getD i .non) 0 ei fun i k d hi => by
      rw [Nat.zero_add]; exact oio i k d hi
    have ev : ((List.range io.length).map fun i => vs.getD (0 + i) V.non) = vs := by
      apply List.ext_getElem?
      intro i
      rw [List.getElem?_map]
      by_cases hi : i < io.length
      · rw [List.getElem?_range hi]
        have : i < vs.length := by omega
        show some (vs.getD (0 + i) V.non) = _
        rw [Nat.zero_add, List.getD_eq_getElem?_getD, List.getElem?_eq_getElem this]; rfl
      · rw [List.getElem?_eq_none (by rw [List.length_range]; omega), List.getElem?_eq_none (by omega)]; rfl
    rw [ev] at b
    have inS : ∀ a, inF ((List.range io.length).map fun i => if (io.getD i none).isSome = true then fps (0 + i) else []) a → ∃ i, a ∈ fps i := by
      rintro a ⟨l, hl, m⟩
      obtain ⟨i, _, rfl⟩ := List.mem_map.mp hl
      split at m
      · exact ⟨_, m⟩
      · cases m
    have getS : ∀ i, ((List.range io.length).map fun i => if (io.getD i none).isSome = true then fps (0 + i) else []).getD i [] = fps i ∨ ((List.range io.length).map fun i => if (io.getD i none).isSome = true then fps (0 + i) else []).getD i [] = [] := by
      intro i
      rw [List.getD_eq_getElem?_getD, List.getElem?_map]
      by_cases hi : i < io.length
      · rw [List.getElem?_range hi]
        show (if (io.getD i none).isSome = true then fps (0 + i) else []) = _ ∨ (if (io.getD i none).isSome = true then fps (0 + i) else []) = _
        split
        · left; rw [Nat.zero_add]
        · right; rfl
      · rw [List.getElem?_eq_none (by rw [List.length_range]; omega)]; right; rfl
    have sub : ∀ a, (a ∈ fp ∨ inF ((List.range io.length).map fun i => if (io.getD i none).isSome = true then fps (0 + i) else []) a) → own2 fps fp a := fun a z => z.imp id (inS a)
    have sm : Same (hideP H' (own2 fps fp)) (hideP H' (fun a => a ∈ fp ∨ inF ((List.range io.length).map fun i => if (io.getD i none).isSome = true then fps (0 + i) else []) a)) := hideP_mono (Same.refl _) fun a o _ h z => h (sub a z)
    refine q v H' _ fp (fun a o h1 h2 => hideP_same _ _ (sg a o (hideP_some.mpr ⟨h2, h1⟩))) ⟨fun l hl => ?_, fun i j a m1 m2 => ?_⟩ (fun a z => hsee a (.inr (inS a z))) nfp (fun a m => ⟨fun z => ?_, hsee a (.inl m)⟩) (b.mono sm) (Own.mono sm d kr v fp (fun _ _ => rfl) od)
    · obtain ⟨i, _, rfl⟩ := List.mem_map.mp hl
      show (if _ then _ else _ : List Addr).Nodup
      split
      · exact nd _
      · exact List.nodup_nil
    · rcases getS i with e1 | e1 <;> rw [e1] at m1 <;> rcases getS j with e2 | e2 <;> rw [e2] at m2
      · exact dj i j a m1 m2
      · cases m2
      · cases m1
      · cases m1
    · obtain ⟨i, m2⟩ := inS a z
      exact ds0 i a m2 m
def spIOX (K : PySem.W.Frag) (io : Io) (k : Nat) (m : List D → Option (RD × List D)) : Sp := fun vs H Q E => vs.length = io.length ∧ ∃ ds fs r ds', ioArgs K H (hideP H (inF fs)) io ds vs fs ∧ apart fs ∧ m ds = some (r, ds') ∧ match r with
  | .ok d => BackK K H vs io k fs d ds' Q
  | .ex C nm xs => ∀ cls dd H', (∀ a o, H a = some o → ¬ inF fs a → H' a = some o) → XRep K H' C nm xs cls dd → E cls dd H'
def fnRunIOX (n : Nat) (io : Io) (g : SMX) : List D → Option (RD × List D) := fun ds => match g (ioStart io ds ++ List.replicate (n - ds.length) .un) with
  | some (.o (.rt d st)) => (ioEnd io st).map fun ds' => (.ok d, ds')
  | some (.o (.nx st)) => (ioEnd io st).map fun ds' => (.ok .non, ds')
  | some (.ex C nm xs _) => some (.ex C nm xs, [])
  | _ => none
section
variable {P : Program} {w : World} {K : PySem.W.Frag} {mg : Str → Option Value} {base : Heap}
theorem fn_okIOX {x qual : Str} {st : Stmt} {f : Addr} {fd : FuncData} {N ps : List Str} {k : Nat} (F : Fun K x qual st f fd) (S : FnScope N ps (defScope st)) (io : Io) (hio : io.length = ps.length) (kr : Nat) (g : SMX)
    (hb : ∀ (cdv : Value) (A : Around) (outer : List Env) (s : Shared) (H : Hp) (E : XK), Room k (A.deeper (envOfC qual (defScope st) s.heap.objs.size f cdv)) → ∀ W : WX, Takes (cxOf (L2.CX P w) P w K mg base N qual (defScope st) f cdv A outer s H E) W →
      FSXs (cxOf (L2.CX P w) P w K mg base N qual (defScope st) f cdv A outer s H E) kr W (defBody st) g) :
    FnOk P w K mg base (L2.CX P w) (k + 1) f fd ps (spIOX K io kr (fnRunIOX N.length io g)) := by
  refine F.okX S (fun vs H Q E h => h.1.trans hio) (fun cdv A outer s H vs Q E hr h => ⟨_, hb cdv A outer s H E hr (fun cls d _ H => E cls d H) (takes_of rfl rfl rfl rfl), ?_⟩)
  obtain ⟨hl, ds, fs, rd, ds', r, ap, e, q⟩ := h
  obtain ⟨l1, l2, l3⟩ := r.len
  unfold fnRunIOX at e
  cases eg : g (ioStart io ds ++ List.replicate (N.length - ds.length) .un) with
  | none => rw [eg] at e; cases e
  | some o =>
    rw [eg] at e
    refine ⟨_, _, o, ⟨_, StR.initIO r ap⟩, eg, ?_⟩
    cases o with
    | o y =>
      cases y with
      | nx st' =>
        intro σ' H' ⟨fps', r'⟩
        have e : (ioEnd io st').map (fun ds' => (RD.ok D.non, ds')) = some (rd, ds') := e
        cases h : ioEnd io st' with
        | none => rw [h] at e; cases e
        | some x =>
          rw [h] at e; cases e
          exact io_ret hl (r'.ret (Same.refl H') (VR.sc (d := .non) rfl rfl)) h q
      | rt d' st' =>
        intro v H' hh
        have e : (ioEnd io st').map (fun ds' => (RD.ok d', ds')) = some (rd, ds') := e
        cases h : ioEnd io st' with
        | none => rw [h] at e; cases e
        | some x =>
          rw [h] at e; cases e
          exact io_ret hl hh h q
      | bk _ => cases e
      | ct _ => cases e
    | ex C nm xs st' =>
      cases e
      intro σ' H' cls dd ⟨fps', r'⟩ xr
      exact q cls dd H' (fun a o h1 h2 => (hideP_some.mp (r'.fr a o (hideP_some.mpr ⟨h2, h1⟩))).2) xr
end
/-- what was handed over is not known behind a raise -/
def unS : Src → Sl → Sl
  | some (j, _) :: r, st => unS r (st.set j .un)
  | none :: r, st => unS r st
  | [], st => st
theorem unS_len : ∀ {sp : Src} {st : Sl}, (unS sp st).length = st.length
  | [], _ => rfl
  | none :: r, st => unS_len (sp := r)
  | some (j, _) :: r, st => by show (unS r (st.set j .un)).length = _; rw [unS_len (sp := r), List.length_set]
theorem unS_at : ∀ {sp : Src} {st : Sl} {i : Nat} {s : Slot}, (unS sp st)[i]? = some s → (s = .un ∧ i ∈ jsOf sp) ∨ (st[i]? = some s ∧ i ∉ jsOf sp) ∨ (st[i]? = some s ∧ s = .un)
  | [], st, i, s, h => .inr (.inl ⟨h, fun z => by cases z⟩)
  | none :: r, st, i, s, h => unS_at (sp := r) h
  | some (j, k) :: r, st, i, s, h => by
    rcases unS_at (sp := r) (st := st.set j .un) h with ⟨h1, h2⟩ | ⟨h1, h2⟩ | ⟨h1, h2⟩
    · exact .inl ⟨h1, List.mem_cons_of_mem _ h2⟩
    · by_cases e : j = i
      · subst e
        rw [List.getElem?_set] at h1
        split at h1
        · split at h1
          · cases h1; exact .inl ⟨rfl, List.mem_cons_self⟩
          · cases h1
        · exact absurd rfl (by assumption)
      · rw [List.getElem?_set_ne e] at h1
        exact .inr (.inl ⟨h1, fun z => by rcases List.mem_cons.mp z with z | z; exact e z.symm; exact h2 z⟩)
    · by_cases e : j = i
      · exact .inl ⟨h2, by rw [e]; exact List.mem_cons_self⟩
      · rw [List.getElem?_set_ne e] at h1
        exact .inr (.inr ⟨h1, h2⟩)
section
variable {K : PySem.W.Frag} {F : Fr} {fps : Fps} {σ : L2.St} {H H1 H2 G : Hp} {st : Sl}
theorem StR.lost {sp : Src} (r1 : StR K F fps σ H1 st) (hk : ∀ a o, H1 a = some o → ¬ inF (fsOf fps sp) a → H2 a = some o) : ∃ fps', StR K F fps' σ H2 (unS sp st) := by
  let fps3 : Fps := fun j => if j ∈ jsOf sp then [] else fps j
  have on : ∀ j, j ∈ jsOf sp → fps3 j = [] := fun j h => if_pos h
  have off : ∀ j, j ∉ jsOf sp → fps3 j = fps j := fun j h => if_neg h
  have sub : ∀ j a, a ∈ fps3 j → j ∉ jsOf sp ∧ a ∈ fps j := fun j a h => by
    by_cases e : j ∈ jsOf sp
    · rw [on j e] at h; cases h
    · exact ⟨e, off j e ▸ h⟩
  have keep : ∀ j, j ∉ jsOf sp → ∀ a ∈ fps j, H2 a = H1 a := fun j hj a h => by
    obtain ⟨o, eo, _⟩ := r1.isLst ⟨j, h⟩
    rw [eo]
    refine hk a o eo fun z => ?_
    obtain ⟨j', hj', m'⟩ := fsOf_own z
    exact hj (r1.dj j j' a h m' ▸ hj')
  have hide : Same (hideP H1 (own fps)) (hideP H2 (own fps3)) := fun a o e => by
    obtain ⟨h1, h2⟩ := hideP_some.mp e
    refine hideP_some.mpr ⟨fun ⟨j, z⟩ => h1 ⟨j, (sub j a z).2⟩, hk a o h2 fun z => ?_⟩
    obtain ⟨j', _, m'⟩ := fsOf_own z
    exact h1 ⟨j', m'⟩
  refine ⟨fps3, r1.fr.trans hide, fun i => ?_, fun i j a h1 h2 => r1.dj i j a (sub i a h1).2 (sub j a h2).2, by rw [unS_len]; exact r1.len, fun i sl e => ?_, fun i a hi h => ?_, ?_⟩
  · by_cases e : i ∈ jsOf sp
    · rw [on i e]; exact List.nodup_nil
    · rw [off i e]; exact r1.nd i
  · rcases unS_at e with ⟨rfl, h2⟩ | ⟨h1, h2⟩ | ⟨h1, rfl⟩
    · exact on i h2
    · rw [off i h2]
      exact (r1.ok i sl h1).mono hide fun a h => keep i h2 a h
    · by_cases e : i ∈ jsOf sp
      · exact on i e
      · rw [show SlotOk K H2 (hideP H2 (own fps3)) (F.pin i) Slot.un σ[i]? (fps3 i) = (fps3 i = []) from rfl, off i e]
        exact r1.ok i _ h1
  · obtain ⟨n1, h⟩ := sub i a h
    rw [keep i n1 a h]
    exact r1.tmp i a (by rw [unS_len] at hi; exact hi) h
  · obtain ⟨m, hm⟩ := r1.fin
    exact ⟨m, fun i hi => by
      by_cases e : i ∈ jsOf sp
      · exact on i e
      · rw [off i e]; exact hm i hi⟩
end
section
variable {X : Cx} {k kr j : Nat} {kd : Kd} {e a b c tg : Expr} {es : List Expr} {f g h : EM} {fa : AM} {sp : Src} {pos pos' p p2 : Pos} {K : PySem.W.Frag} {x : Str} {fn : Addr} {fd : FuncData} {ps : List Str} {m : List D → Option (RD × List D)} {W : WX}
def xIO (sp : Src) (kr : Nat) (m : List D → Option (RD × List D)) (fa : AM) : SMX := fun st => (fa st).bind fun ds => (m ds).bind fun r => match r with
  | (.ok d, ds') => if (full d kr && fullIO sp ds') = true then some (.o (.nx (putS sp ds' st))) else none
  | (.ex C nm xs, _) => some (.ex C nm xs (unS sp st))
/-- f(..), f changes lists of the caller's and may raise -/
theorem fsx_callIO (tk : Takes X W) (G : FnOk X.prog X.w X.K X.mg X.base (L2.CX X.prog X.w) j fn fd ps (spIOX X.K (ioOf sp) kr m)) (hr : Room j X.A) (hg : Gl X x) (hm : X.mg x = some (.ref fn)) (hk : PySem.W.keepIn X.K (.ref fn) = true) (hb : Binds X.K fd ps []) (ha : AX X sp (e :: es) fa) (hjs : (jsOf sp).Nodup)
    (hs : swapsWith (.Call (.Name x p) (e :: es) [] pos) none pos'.line X.env = pure false := by rfl) (hdb : (x == ("__debug__" : Str)) = false := by decide)
    (he : starEach (e :: es) X.env = (false, eval e X.env) :: starEach es X.env := by rfl) (hpl : (backTo pos (starEach es X.env)).any (·.1) = false := by rfl) : FSX X k W (.Expr (.Call (.Name x p) (e :: es) [] pos) pos') (xIO sp kr m fa) :=
  PS.weak (ps_expr (pe_callS G hr hg hm hk hb (passAt tk) ha hdb he hpl) hs) fun Dn σ H ⟨F, st, o, ⟨fps, r⟩, ed, c⟩ => by
    unfold xIO at ed
    cases e1 : fa st with
    | none => rw [e1] at ed; cases ed
    | some ds =>
      rw [e1] at ed
      have ed : ((m ds).bind fun r => match r with
        | (.ok d, ds') => if (full d kr && fullIO sp ds') = true then some (.o (.nx (putS sp ds' st))) else none
        | (.ex C nm xs, _) => some (.ex C nm xs (unS sp st))) = some o := ed
      cases e2 : m ds with
      | none => rw [e2] at ed; cases ed
      | some dd =>
        obtain ⟨rd, ds'⟩ := dd
        rw [e2] at ed
        refine ⟨F, fps, st, ds, r, e1, fun vs H1 s1 av => ?_⟩
        have r1 := r.mono s1
        have sm : Same (hideP H1 (own fps)) (hideP H1 (inF (fsOf fps sp))) := hideP_mono (Same.refl _) fun a o _ h z => by
          obtain ⟨j', _, m'⟩ := fsOf_own z
          exact h ⟨j', m'⟩
        refine ⟨?_, ds, fsOf fps sp, rd, ds', AV.io r1 sm av, fsOf_apart r1 hjs, e2, ?_⟩
        · rw [AV.len av]; unfold ioOf; rw [List.length_map]
        · cases rd with
          | ok d =>
            have ed : (if (full d kr && fullIO sp ds') = true then some (OutX.o (.nx (putS sp ds' st))) else none) = some o := ed
            split at ed
            · rename_i hf
              cases ed
              have hf := Bool.and_eq_true_iff.mp hf
              intro v H2 fs' fp hkp ap' hfs nfp hfp bk od
              obtain ⟨fps3, m3, hm3, r3, o3⟩ := r1.back hjs av hkp ap' hfs nfp hfp bk od hf.1 hf.2
              exact c σ H2 ⟨fps3, r3⟩
            · cases ed
          | ex C nm xs =>
            cases ed
            intro cls dd H2 hkp xr
            exact c σ H2 cls dd (r1.lost hkp) xr
end
end FL

namespace FL
open PySem PySem.Spec PyProof.Rows L2
/-! ### a raising call as the last argument of a call -/
inductive RA where
  | ok (ds : List D) | ex (C : Str) (nm : List Str) (ds : List D)
def tFAX (K : PySem.W.Frag) (W : WX) (f : Sl → Option RA) : TA := fun σ H Q => ∃ F fps st r, StR K F fps σ H st ∧ f st = some r ∧ match r with
  | .ok ds => ∀ vs H', Same H H' → VRL K fps H H' .rd ds vs → Q vs H'
  | .ex C nm ds => ∀ cls dd H', Same H H' → XRep K H' C nm ds cls dd → W cls dd σ H'
abbrev FAX (X : Cx) (W : WX) (es : List Expr) (f : Sl → Option RA) : Prop := PA X es (tFAX X.K W f)
def aLastX (f : Sl → Option RD) : Sl → Option RA := fun st => (f st).map fun r => match r with
  | .ok d => .ok [d]
  | .ex C nm ds => .ex C nm ds
def aConsX (f : EM) (g : Sl → Option RA) : Sl → Option RA := fun st => (f st).bind fun d => (g st).map fun r => match r with
  | .ok ds => .ok (d :: ds)
  | .ex C nm ds => .ex C nm ds
def eCallA (n k : Nat) (m : List D → Option D) (f : Sl → Option RA) : Sl → Option RD := fun st => (f st).bind fun r => match r with
  | .ok ds => if ds.length = n then ((m ds).bind (chk k)).map .ok else none
  | .ex C nm ds => some (.ex C nm ds)
section
variable {X : Cx} {k n j : Nat} {kd : Kd} {e a b c tg el : Expr} {es : List Expr} {f g h : EM} {pos p : Pos} {x : Str} {K : PySem.W.Frag} {W : WX} {fn : Addr} {fd : FuncData} {ps : List Str} {m : List D → Option D}
theorem fax_last {f : Sl → Option RD} (he : FEX X kd W e f) (hs : starEach [e] X.env = (false, eval e X.env) :: starEach [] X.env := by rfl) : FAX X W [e] (aLastX f) := PA.weak (pa_cons he pa_nil hs) fun σ H Q ⟨F, fps, st, r, sr, ed, q⟩ => by
  unfold aLastX at ed
  cases e1 : f st with
  | none => rw [e1] at ed; cases ed
  | some rd =>
    rw [e1] at ed
    cases ed
    refine ⟨F, fps, st, rd, sr, e1, ?_⟩
    cases rd with
    | ok d => exact fun v H1 s1 w => q [v] H1 s1 ⟨v, [], rfl, w.rd, rfl⟩
    | ex C nm ds => exact q
theorem fax_cons {g : Sl → Option RA} (ha : FE X .rd e f) (hr : FAX X W es g) (hs : starEach (e :: es) X.env = (false, eval e X.env) :: starEach es X.env := by rfl) : FAX X W (e :: es) (aConsX f g) := PA.weak (pa_cons ha hr hs) fun σ H Q ⟨F, fps, st, r, sr, ed, q⟩ => by
  unfold aConsX at ed
  cases e1 : f st with
  | none => rw [e1] at ed; cases ed
  | some d =>
    rw [e1] at ed
    have ed : ((g st).map fun r => match r with
      | .ok ds => .ok (d :: ds)
      | .ex C nm ds => .ex C nm ds) = some r := ed
    cases e2 : g st with
    | none => rw [e2] at ed; cases ed
    | some ra =>
      rw [e2] at ed
      cases ed
      refine ⟨F, fps, st, d, sr, e1, fun v H1 s1 w1 => ?_⟩
      refine ⟨F, fps, st, ra, sr.mono s1, e2, ?_⟩
      cases ra with
      | ok ds => exact fun vs H2 s2 w2 => q (v :: vs) H2 (s1.trans s2) ⟨v, vs, rfl, Rep.mono s2 d v w1, w2⟩
      | ex C nm ds => exact fun cls dd H2 s2 xr => q cls dd H2 (s1.trans s2) xr
theorem fex_callA {fa : Sl → Option RA} (G : FnOk X.prog X.w X.K X.mg X.base CX0 j fn fd ps (spF X.K n k m)) (hr : Room j X.A) (hg : Gl X x) (hm : X.mg x = some (.ref fn)) (hk : PySem.W.keepIn X.K (.ref fn) = true) (hb : Binds X.K fd ps []) (ha : FAX X W (e :: es) fa) (hdb : (x == ("__debug__" : Str)) = false := by decide)
    (he : starEach (e :: es) X.env = (false, eval e X.env) :: starEach es X.env := by rfl) (hpl : (backTo pos (starEach es X.env)).any (·.1) = false := by rfl) : FEX X (.ow k) W (.Call (.Name x p) (e :: es) [] pos) (eCallA n k m fa) :=
  PE.weak (pe_call G hr hg hm hk hb .nil (pass0 (X := X)) ha hdb he hpl) fun σ H Q ⟨F, fps, st, d, r, ed, q⟩ => by
    unfold eCallA at ed
    cases e1 : fa st with
    | none => rw [e1] at ed; cases ed
    | some ra =>
      rw [e1] at ed
      refine ⟨F, fps, st, ra, r, e1, ?_⟩
      cases ra with
      | ok ds =>
        have ed : (if ds.length = n then ((m ds).bind (chk k)).map RD.ok else none) = some d := ed
        split at ed
        · rename_i hn
          cases e2 : (m ds).bind (chk k) with
          | none => rw [e2] at ed; cases ed
          | some d0 =>
            rw [e2] at ed
            cases ed
            obtain ⟨ed, fl⟩ := chk_some e2
            intro vs H1 s1 w
            refine ⟨by simpa using (VRL.length w).trans hn, ds, d0, by rw [List.append_nil]; exact w, ed, fun v H2 s2 ⟨fp, n, fr, o⟩ => ?_⟩
            refine q v H2 (s1.trans s2) ⟨fp, n, fun a m => s1.free (fr a m), Own.rebase fl (fun a z => ?_) o⟩
            rcases z with m | z
            · exact Own.isLst d0 k v fp o a m
            · exact (r.mono (s1.trans s2)).isLst z
        · cases ed
      | ex C nm dds =>
        cases ed
        exact q
end
end FL

namespace FL
open PySem PySem.Spec PyProof.Rows L2
section
variable {P : Program} {w : World} {K : PySem.W.Frag} {mg : Str → Option Value} {base : Heap}
/-- a raising def with defaults -/
theorem FunX.okX {x qual : Str} {st : Stmt} {f : Addr} {fd : FuncData} {N ps : List Str} {k : Nat} {sp : Sp} (F : FunX K x qual st f fd) (S : FnScope N ps (defScope st)) (len : ∀ vs H Q E, sp vs H Q E → vs.length = ps.length)
    (hbody : ∀ (cdv : Value) (A : Around) (outer : List Env) (s : Shared) (H : Hp) (vs : List V) (Q : VK) (E : XK), Room k (A.deeper (envOfC qual (defScope st) s.heap.objs.size f cdv)) → sp vs H Q E →
      ∃ t, PSs (cxOf (L2.CX P w) P w K mg base N qual (defScope st) f cdv A outer s H E) (defBody st) t ∧ t { nx := fun _ H' => Q .non H', rt := Q } (start N vs) H) : FnOk P w K mg base (L2.CX P w) (k + 1) f fd ps sp := by
  obtain ⟨oc, od, dV, kV, doc, pm, an, cdv, ct, osl, rfl, lk, hcd⟩ := F.ex
  exact fn_of lk hcd S len fun A outer s H vs Q E hr hsp => hbody cdv A outer s H vs Q E hr hsp
theorem fn_okXD {x qual : Str} {st : Stmt} {f : Addr} {fd : FuncData} {N ps : List Str} {k : Nat} (F : FunX K x qual st f fd) (S : FnScope N ps (defScope st)) (kr : Nat) (g : SMX)
    (hb : ∀ (cdv : Value) (A : Around) (outer : List Env) (s : Shared) (H : Hp) (E : XK), Room k (A.deeper (envOfC qual (defScope st) s.heap.objs.size f cdv)) → ∀ W : WX, Takes (cxOf (L2.CX P w) P w K mg base N qual (defScope st) f cdv A outer s H E) W →
      FSXs (cxOf (L2.CX P w) P w K mg base N qual (defScope st) f cdv A outer s H E) kr W (defBody st) g) :
    FnOk P w K mg base (L2.CX P w) (k + 1) f fd ps (spX K ps.length kr (fnRunX N.length g)) := by
  refine F.okX S (fun vs H Q E h => h.1) (fun cdv A outer s H vs Q E hr h => ⟨_, hb cdv A outer s H E hr (fun cls d _ H => E cls d H) (takes_of rfl rfl rfl rfl), ?_⟩)
  obtain ⟨hl, ds, rd, r, e, q⟩ := h
  unfold fnRunX at e
  cases eg : g (ds.map (Slot.va 0) ++ List.replicate (N.length - ds.length) .un) with
  | none => rw [eg] at e; cases e
  | some o =>
    rw [eg] at e
    refine ⟨⟨H, fun _ => .non⟩, _, o, ⟨_, StR.init r⟩, eg, ?_⟩
    cases o with
    | o y =>
      cases y with
      | nx st' =>
        cases e
        intro σ' H' ⟨fps', r'⟩
        obtain ⟨h1, h2⟩ := RetOk.plain (k := kr) (r'.ret (Same.refl H') (VR.sc (d := .non) rfl rfl))
        exact q .non H' h1 h2
      | rt d' st' =>
        cases e
        intro v H' h
        obtain ⟨h1, h2⟩ := h.plain
        exact q v H' h1 h2
      | bk _ => cases e
      | ct _ => cases e
    | ex C nm dds st' =>
      cases e
      intro σ' H' cls dd ⟨fps', r'⟩ xr
      exact q cls dd H' (r'.fr.trans hideP_same) xr
end
section
variable {X : Cx} {k n j : Nat} {kd : Kd} {e a b c tg el : Expr} {es : List Expr} {f g h : EM} {fa : AM} {pos p : Pos} {x : Str} {K : PySem.W.Frag} {W : WX} {fn : Addr} {fd : FuncData} {ps : List Str}
/-- a raising call that leaves the last arguments out -/
theorem fex_callD {m : List D → Option RD} {dds : List D} (hd : dds.all sc = true) (tk : Takes X W) (G : FnOk X.prog X.w X.K X.mg X.base (L2.CX X.prog X.w) j fn fd ps (spX X.K n k m)) (hr : Room j X.A) (hg : Gl X x) (hm : X.mg x = some (.ref fn)) (hk : PySem.W.keepIn X.K (.ref fn) = true) (hb : ∃ ds, Vals (dds.map scV) ds ∧ Binds X.K fd ps ds) (ha : FA X .rd (e :: es) fa) (n' : Nat) (hl : ALen n' fa) (hn : n' + dds.length = n) (hdb : (x == ("__debug__" : Str)) = false := by decide)
    (he : starEach (e :: es) X.env = (false, eval e X.env) :: starEach es X.env := by rfl) (hpl : (backTo pos (starEach es X.env)).any (·.1) = false := by rfl) : FEX X (.ow k) W (.Call (.Name x p) (e :: es) [] pos) (eCallX k (fun ds => m (ds ++ dds)) fa) := by
  obtain ⟨dvs, hv, hb⟩ := hb
  refine PE.weak (pe_callSD G hr hg hm hk hb hv (passAt tk) ha hdb he hpl) fun σ H Q ⟨F, fps, st, d, r, ed, q⟩ => ?_
  unfold eCallX at ed
  cases e1 : fa st with
  | none => rw [e1] at ed; cases ed
  | some ds =>
    rw [e1] at ed
    have ed : (m (ds ++ dds)).bind (chkX k) = some d := ed
    refine ⟨F, fps, st, ds, r, e1, fun vs H1 s1 w => ⟨by rw [List.length_append, List.length_map, VRL.length w, hl st ds e1]; exact hn, ds ++ dds, ?_⟩⟩
    cases em : m (ds ++ dds) with
    | none => rw [em] at ed; cases ed
    | some rd =>
      rw [em] at ed
      refine ⟨rd, RepL.app w (repL_sc hd), rfl, ?_⟩
      cases rd with
      | ok d0 =>
        have ed : (chk k d0).map RD.ok = some d := ed
        cases ec : chk k d0 with
        | none => rw [ec] at ed; cases ed
        | some d1 =>
          rw [ec] at ed
          cases ed
          obtain ⟨e0, fl⟩ := chk_some (o := some d0) (k := k) (d := d1) ec
          obtain rfl : d1 = d0 := (Option.some.inj e0).symm
          intro v H2 s2 ⟨fp, n, fr, o⟩
          refine q v H2 (s1.trans s2) ⟨fp, n, fun a m => s1.free (fr a m), Own.rebase fl (fun a z => ?_) o⟩
          rcases z with m | z
          · exact Own.isLst d1 k v fp o a m
          · exact (r.mono (s1.trans s2)).isLst z
      | ex C nm dds =>
        cases ed
        exact fun cls dd H2 s2 xr => q cls dd H2 (s1.trans s2) xr
end
end FL

namespace FL
open PySem PySem.Spec PyProof.Rows L2
/-! ### while nothing is one's own, all that comes is shared -/
section
variable {K : PySem.W.Frag} {F : Fr} {fps : Fps} {σ : L2.St} {H : Hp} {st : Sl}
theorem noOwn_at : ∀ {st : Sl} {i : Nat} {s : Slot}, noOwn st = true → st[i]? = some s → s = .un ∨ ∃ d, s = .va 0 d
  | [], i, s, h, e => by simp at e
  | .un :: r, 0, s, h, e => by simp at e; exact .inl e.symm
  | .un :: r, i + 1, s, h, e => noOwn_at (st := r) (i := i) h (by simpa using e)
  | .va 0 d :: r, 0, s, h, e => by simp at e; exact .inr ⟨d, e.symm⟩
  | .va 0 d :: r, i + 1, s, h, e => noOwn_at (st := r) (i := i) h (by simpa using e)
  | .va (_ + 1) _ :: r, _, _, h, _ => by cases h
  | .io _ _ :: r, _, _, h, _ => by cases h
theorem StR.bare (r : StR K F fps σ H st) (h : noOwn st = true) : StR K F (fun _ => []) σ H st := by
  have none_ : ∀ a, ¬ own (fun _ => []) a := fun a ⟨_, m⟩ => by cases m
  have hm : Same (hideP H (own fps)) (hideP H (own fun _ => [])) := hideP_mono (Same.refl _) fun a o e _ z => none_ a z
  refine ⟨r.fr.trans hm, fun _ => List.nodup_nil, fun _ _ a m => (by cases m), r.len, fun i sl e => ?_, fun _ a _ m => (by cases m), 0, fun _ _ => rfl⟩
  rcases noOwn_at h e with rfl | ⟨d, rfl⟩
  · exact rfl
  · obtain ⟨v, e1, o⟩ := r.ok i _ e
    obtain ⟨z, o⟩ := Own.zero d v _ o
    exact ⟨v, e1, Own.shared d v (Rep.mono hm d v o)⟩
end
section
variable {X : Cx} {k : Nat} {e : Expr} {f : EM} {pos : Pos} {K : PySem.W.Frag}
def sSetN (i : Nat) (f : EM) : SM := fun st => if noOwn st = true then (f st).bind fun d => if isVa st[i]? = true then some (.nx (st.set i (.va 0 d))) else none else none
theorem fs_setN {i : Nat} {x : Str} {pos' : Pos} (hN : X.N.Nodup) (hi : X.N[i]? = some x) (hx : Loc X.env.scope x) (he : FE X .rd e f) (hs : swapsWith e (some (.Name x pos')) pos.line X.env = pure false := by rfl) (hf : X.fn x = true ∨ X.env.scope.names.lookup x = some .local := by first | exact .inl rfl | exact .inr rfl | assumption) :
    FS X k (.Assign [.Name x pos'] e pos) (sSetN i f) := PS.weak (ps_set hN hi hx he hs hf) fun Dn σ H ⟨F, st, o, ⟨fps, r⟩, eo, c⟩ => by
  unfold sSetN at eo
  split at eo
  · rename_i hn
    cases e1 : f st with
    | none => rw [e1] at eo; cases eo
    | some d =>
      rw [e1] at eo
      have eo : (if isVa st[i]? = true then some (Out.nx (st.set i (.va 0 d))) else none) = some o := eo
      split at eo
      · rename_i hv
        cases eo
        have r0 := r.bare hn
        refine ⟨F, _, st, d, r0, e1, fun v H1 q1 w => ?_⟩
        have w : Rep X.K H1 d v := w
        refine c _ H1 ⟨_, r0.set (fp := []) q1 (isVa_lt hv) List.nodup_nil (fun a m => (by cases m)) (Own.shared d v ?_)⟩
        refine Rep.mono (fun a o h => ?_) d v w
        exact hideP_some.mpr ⟨fun z => by (rcases z with z | ⟨_, z⟩ <;> cases z), h⟩
      · cases eo
  · cases eo
end
end FL

namespace FL
open PySem PySem.Spec PyProof.Rows L2
section
variable {X : Cx} {k : Nat} {e : Expr} {W : WX}
theorem fex_fz {f : Sl → Option RD} (he : FEX X (.ow k) W e f) : FEX X (.ow 0) W e f := PE.weak he fun σ H Q ⟨F, fps, st, rd, r, ed, q⟩ => by
  refine ⟨F, fps, st, rd, r, ed, ?_⟩
  cases rd with
  | ok d =>
    intro v H' s w
    refine q v H' s ?_
    obtain ⟨fp, n, fr, w⟩ := w
    refine VR.mk0 (Own.rep (hideP_mono (Same.refl _) fun a o _ h z => h (.inr z)) d k v fp (fun a m => hideP_not fun z => ?_) w)
    exact r.there z (fr a m)
  | ex C nm ds => exact q
end
end FL

namespace FL
open PySem PySem.Spec PyProof.Rows L2
/-! ### texts -/
def mCatZ (x y : D) : Option D := match x, y with
  | .str a, .str b => if lenOk (a.length + b.length) = true then some (.str (a ++ b)) else none
  | _, _ => none
def mSlZ (x : D) (lo hi : Option Int) : Option D := match x with
  | .str z => if lenOk z.length = true then some (.str (cutS z lo hi)) else none
  | _ => none
def strI (i : Int) : Str := Str.ofString (toString i)
def mStrI : List D → Option D
  | [.int i] => if i.natAbs.log2 < 1920 then some (.str (strI i)) else none
  | _ => none
def hasZ (j i : Str) : Bool := !(Builtin.Str.occurrences j i 0 j.length 1).isEmpty
def mInZ (x y : D) : Option D := match x, y with
  | .str i, .str j => some (.bl (hasZ j i))
  | _, _ => none
def mNinZ (x y : D) : Option D := match x, y with
  | .str i, .str j => some (.bl (!hasZ j i))
  | _, _ => none
section
variable {X : Cx} {kd kd1 : Kd} {e a b : Expr} {es : List Expr} {f g : EM} {fa : AM} {pos p : Pos} {K : PySem.W.Frag}
theorem scr_catZ : ScR K mCatZ (fun x y H Q => ∃ i j, x = .str i ∧ y = .str j ∧ i.length + j.length ≤ sizeLine ∧ Q (.str (i ++ j)) H) := fun x y H Q dx dy d rx ry e => by
  unfold mCatZ at e
  split at e
  · split at e
    · rename_i hl
      cases e
      exact ⟨rfl, fun q => ⟨_, _, rx, ry, lenOk_le hl, q⟩⟩
    · cases e
  · cases e
theorem fe_catZ (ha : FE X .rd a f) (hb : FE X .rd b g) : FE X kd (.BinOp a .Add b pos) (eBin mCatZ f g) := fe_bin op_add_str scr_catZ ha hb
theorem scr_inZ : ScR K mInZ (fun x y H Q => ∃ i j, x = .str i ∧ y = .str j ∧ Q (.bl (!(Builtin.Str.occurrences j i 0 j.length 1).isEmpty)) H) := fun x y H Q dx dy d rx ry e => by
  unfold mInZ at e
  split at e
  · cases e
    exact ⟨rfl, fun q => ⟨_, _, rx, ry, q⟩⟩
  · cases e
theorem scr_ninZ : ScR K mNinZ (fun x y H Q => ∃ i j, x = .str i ∧ y = .str j ∧ Q (.bl (!(!(Builtin.Str.occurrences j i 0 j.length 1).isEmpty))) H) := fun x y H Q dx dy d rx ry e => by
  unfold mNinZ at e
  split at e
  · cases e
    exact ⟨rfl, fun q => ⟨_, _, rx, ry, q⟩⟩
  · cases e
theorem fe_inZ (ha : FE X .rd a f) (hb : FE X .rd b g) (hm : behindInMarks .In b = false := by rfl) : FE X kd (.Compare a [.In] [b] pos) (eBin mInZ f g) := fe_cmpB op_in_str scr_inZ hm ha hb
theorem ft_inZ (ha : FE X .rd a f) (hb : FE X .rd b g) (hm : behindInMarks .In b = false := by rfl) : FT X (.Compare a [.In] [b] pos) (qVal (eBin mInZ f g)) := ft_cmpB op_in_str scr_inZ hm ha hb
theorem fe_ninZ (ha : FE X .rd a f) (hb : FE X .rd b g) (hm : behindInMarks .NotIn b = false := by rfl) : FE X kd (.Compare a [.NotIn] [b] pos) (eBin mNinZ f g) := fe_cmpB op_notin_str scr_ninZ hm ha hb
theorem ft_ninZ (ha : FE X .rd a f) (hb : FE X .rd b g) (hm : behindInMarks .NotIn b = false := by rfl) : FT X (.Compare a [.NotIn] [b] pos) (qVal (eBin mNinZ f g)) := ft_cmpB op_notin_str scr_ninZ hm ha hb
theorem fe_slZ {lo hi : Option Expr} {fl fh : OM} {p2 : Pos} (he : FE X .rd e f) (hl : FO X lo fl) (hh : FO X hi fh) : FE X kd (.Subscript e (.Slice lo hi none p2) pos) (eSl mSlZ f fl fh) := PE.weak (pe_slice sl_str he hl hh) fun σ H Q => tF_sl fun F fps st x v l u d H2 r s2 w e q => by
  unfold mSlZ at e
  split at e
  · split at e
    · rename_i hz
      cases e
      have w : v = .str _ := w
      exact ⟨_, w, lenOk_le hz, q _ H2 (Same.refl H2) (VR.sc (d := .str _) rfl rfl)⟩
    · cases e
  · cases e
theorem fe_stri (hg : Gl X "str") (hm : X.mg "str" = none) (ha : FA X .rd (e :: es) fa) (he : starEach (e :: es) X.env = (false, eval e X.env) :: starEach es X.env := by rfl) (hpl : (backTo pos (starEach es X.env)).any (·.1) = false := by rfl) :
    FE X kd (.Call (.Name "str" p) (e :: es) [] pos) (eCB mStrI fa) := PE.weak (pe_callTy call_str_int hg hm (by decide +kernel) ha (by decide) (by decide) he hpl) fun _ _ _ => tF_cb fun xs H Q ds d r e => by
  unfold mStrI at e
  split at e
  · split at e
    · rename_i hl
      cases e
      obtain ⟨v, ev, w1⟩ := r.one_inv
      rw [show v = .int _ from w1] at ev
      exact ⟨rfl, fun q => ⟨_, ev, hl, q⟩⟩
    · cases e
  · cases e
/-! ### methods of texts and lists whose answer is a scalar -/
def eMB (m : D → List D → Option D) (f : EM) (fa : AM) : EM := fun st => (f st).bind fun x => (fa st).bind fun ds => m x ds
def ScM (K : PySem.W.Frag) (T : String) (m : D → List D → Option D) (r : V → List V → Hp → VK → Prop) : Prop := ∀ (dx : D) (ds : List D) (d : D), m dx ds = some d → sc d = true ∧ (∀ x H, Rep K H dx x → tyV K T x H) ∧ ∀ x xs H Q, Rep K H dx x → RepL K H ds xs → Q (scV d) H → r x xs H Q
theorem fe_mB {T : String} {id : String} {name : Str} {apos : Pos} {m : D → List D → Option D} {r : V → List V → Hp → VK → Prop} (pa : PlainAttrs T) (slot : PySem.Slot T name id) (hty : typeOf (.builtin id) = pure (.type "method_descriptor")) (hm : MtR X id r) (hr : ScM X.K T m r) (ho : FE X .rd a f) (ha : FA X .rd (e :: es) fa)
    (hbase : attributeBase a name X.env (eval a X.env) = eval a X.env := by rfl)
    (hfew : ((backTo pos (starEach (e :: es) X.env)).all (fun x => !x.1) && (backToKw pos (keywordEach [] X.env)).all (fun x => x.1.isSome)
      && decide ((e :: es).length + ([] : List Keyword).length + (if ([] : List Keyword).isEmpty then 0 else 1) < 30)) = true := by rfl)
    (hline : (apos.endLine == pos.line) = true := by rfl) (hs : starEach (e :: es) X.env = (false, eval e X.env) :: starEach es X.env := by rfl) (hplain : (backTo pos (starEach es X.env)).any (·.1) = false := by rfl) :
    FE X kd (.Call (.Attribute a name apos) (e :: es) [] pos) (eMB m f fa) := PE.weak (pe_bm pa slot hty hm ho ha hbase hfew hline hs hplain) fun σ H Q ⟨F, fps, st, d, rr, ed, q⟩ => by
  obtain ⟨x, ds, e1, e2, e3⟩ := bind2 ed
  obtain ⟨h1, h2, h3⟩ := hr x ds d e3
  exact ⟨F, fps, st, x, rr, e1, fun v H1 s1 w1 => ⟨h2 v H1 w1, F, fps, st, ds, rr.mono s1, e2, fun vs H2 s2 w2 => h3 v vs H2 Q (Rep.mono s2 x v w1) w2 (q _ H2 (s1.trans s2) (VR.sc h1 rfl))⟩⟩
def strsOf : List D → Option (List Str)
  | [] => some []
  | .str z :: r => (strsOf r).map fun l => z :: l
  | _ => none
theorem strsOf_rep {H : Hp} : ∀ {ds : List D} {vs : List V} {ys : List Str}, RepL K H ds vs → strsOf ds = some ys → vs = ys.map V.str
  | [], vs, ys, h, e => by cases e; exact h
  | .str z :: r, vs, ys, ⟨v, w, e1, h1, h2⟩, e => by
    cases e2 : strsOf r with
    | none => rw [show strsOf (.str z :: r) = (strsOf r).map fun l => z :: l from rfl, e2] at e; cases e
    | some l =>
      rw [show strsOf (.str z :: r) = (strsOf r).map fun l => z :: l from rfl, e2] at e
      cases e
      rw [e1, strsOf_rep h2 e2, show v = .str z from h1]
      rfl
  | .non :: _, _, _, _, e => by cases e
  | .bl _ :: _, _, _, _, e => by cases e
  | .int _ :: _, _, _, _, e => by cases e
  | .tup _ :: _, _, _, _, e => by cases e
  | .lst _ :: _, _, _, _, e => by cases e
  | .scr _ :: _, _, _, _, e => by cases e
  | .ob _ _ _ :: _, _, _, _, e => by cases e
  | .exc _ _ _ :: _, _, _, _, e => by cases e
  | .dct _ _ :: _, _, _, _, e => by cases e
  | .mob _ _ _ _ :: _, _, _, _, e => by cases e
  | .hol _ :: _, _, _, _, e => by cases e
def joinOk (a : Str) (ys : List Str) : Bool := lenOk ((ys.map (·.length)).sum + ys.length * a.length)
def mJoin (x : D) (ds : List D) : Option D := match x, ds with
  | .str a, [.lst es] => (strsOf es).bind fun ys => if joinOk a ys = true then some (.str (Txt.join a ys)) else none
  | .str a, [.tup es] => (strsOf es).bind fun ys => if joinOk a ys = true then some (.str (Txt.join a ys)) else none
  | _, _ => none
theorem scm_join : ScM K "str" mJoin (fun x xs H Q => ∃ a p, ∃ ys : List Str, x = .str a ∧ xs = [.ref p] ∧ (SqL K H p (ys.map V.str) ∨ SqT K H p (ys.map V.str)) ∧
    (ys.map (·.length)).sum + ys.length * a.length ≤ 16777216 ∧ Q (.str (Txt.join a ys)) H) := fun dx ds d e => by
  unfold mJoin at e
  split at e
  · rename_i a es
    cases e1 : strsOf es with
    | none => rw [e1] at e; cases e
    | some ys =>
      rw [e1] at e
      have e : (if joinOk a ys = true then some (D.str (Txt.join a ys)) else none) = some d := e
      split at e
      · rename_i hz
        cases e
        refine ⟨rfl, fun x H w => ?_, fun x xs H Q w ws q => ?_⟩
        · rw [show x = .str a from w]; exact rfl
        · obtain ⟨v, ev, p, vs, e2, e3, e4⟩ := ws.one_inv
          rw [e2] at ev
          refine ⟨a, p, ys, w, ev, .inl (.inl (.inl ?_)), of_decide_eq_true hz, q⟩
          rw [← strsOf_rep e4 e1]; exact e3
      · cases e
  · rename_i a es
    cases e1 : strsOf es with
    | none => rw [e1] at e; cases e
    | some ys =>
      rw [e1] at e
      have e : (if joinOk a ys = true then some (D.str (Txt.join a ys)) else none) = some d := e
      split at e
      · rename_i hz
        cases e
        refine ⟨rfl, fun x H w => ?_, fun x xs H Q w ws q => ?_⟩
        · rw [show x = .str a from w]; exact rfl
        · obtain ⟨v, ev, p, vs, e2, e3, e4⟩ := ws.one_inv
          rw [e2] at ev
          refine ⟨a, p, ys, w, ev, .inr ?_, of_decide_eq_true hz, q⟩
          rw [← strsOf_rep e4 e1]; exact e3
      · cases e
  · cases e
theorem fe_join {apos : Pos} (ho : FE X .rd a f) (ha : FA X .rd [e] fa)
    (hbase : attributeBase a "join" X.env (eval a X.env) = eval a X.env := by rfl)
    (hfew : ((backTo pos (starEach [e] X.env)).all (fun x => !x.1) && (backToKw pos (keywordEach [] X.env)).all (fun x => x.1.isSome)
      && decide ([e].length + ([] : List Keyword).length + (if ([] : List Keyword).isEmpty then 0 else 1) < 30)) = true := by rfl)
    (hline : (apos.endLine == pos.line) = true := by rfl) (hs : starEach [e] X.env = (false, eval e X.env) :: starEach [] X.env := by rfl) (hplain : (backTo pos (starEach [] X.env)).any (·.1) = false := by rfl) :
    FE X kd (.Call (.Attribute a "join" apos) [e] [] pos) (eMB mJoin f fa) := fe_mB PySem.F.plainAttrs_str PySem.F.slot_str_join PySem.F.type_str_join mt_join scm_join ho ha hbase hfew hline hs hplain
end
end FL

namespace FL
open PySem PySem.Spec PyProof.Rows

/-! ### how mirrors are reckoned: every combinator in a form without binders -/
section
variable {α β : Type}
def ob2 (m : D → D → Option D) : Option D → Option D → Option D
  | some x, some y => m x y
  | _, _ => none
def ob3 (m : D → Option Int → Option Int → Option D) : Option D → Option (Option Int) → Option (Option Int) → Option D
  | some x, some y, some z => m x y z
  | _, _, _ => none
def obL (m : D → D → Option (List D)) : Option D → Option D → Option (List D)
  | some x, some y => m x y
  | _, _ => none
def ob1 (m : α → Option β) : Option α → Option β
  | some x => m x
  | none => none
def ocons : Option D → Option (List D) → Option (List D)
  | some x, some xs => some (x :: xs)
  | _, _ => none
def oval : Option D → Option Bool
  | some (.bl b) => some b
  | _ => none
def oneg : Option D → Option D
  | some (.int i) => some (.int (-i))
  | _ => none
def onot : Option D → Option D
  | some (.bl b) => some (.bl (!b))
  | _ => none
def oand : Option D → Option D → Option D
  | some (.bl true), y => y
  | some (.bl false), _ => some (.bl false)
  | _, _ => none
def oor : Option D → Option D → Option D
  | some (.bl true), _ => some (.bl true)
  | some (.bl false), y => y
  | _, _ => none
def oandB : Option Bool → Option Bool → Option Bool
  | some true, y => y
  | some false, _ => some false
  | none, _ => none
def oorB : Option Bool → Option Bool → Option Bool
  | some true, _ => some true
  | some false, y => y
  | none, _ => none
def onotB : Option Bool → Option Bool
  | some b => some (!b)
  | none => none
def oif : Option Bool → Option α → Option α → Option α
  | some true, x, _ => x
  | some false, _, y => y
  | none, _, _ => none
def oint : Option D → Option (Option Int)
  | some (.int i) => some (some i)
  | _ => none
def oset (i k : Nat) (st : Sl) : Option D → Option Out
  | some d => if isVa st[i]? = true then some (.nx (st.set i (.va k d))) else none
  | none => none
def oret (st : Sl) : Option D → Option Out
  | some d => some (.rt d st)
  | none => none
def oexp (st : Sl) : Option D → Option Out
  | some _ => some (.nx st)
  | none => none
def oseq (b : SM) : Option Out → Option Out
  | some (.nx st) => b st
  | some o => some o
  | none => none
def otup : Option (List D) → Option D
  | some ds => if lenOk ds.length = true then some (.tup ds) else none
  | none => none
def olst : Option (List D) → Option D
  | some ds => if lenOk ds.length = true then some (.lst ds) else none
  | none => none
def oisi (T : String) : Option D → Option D
  | some d => (tyD d).bind fun t => (L2.kitB t T).map D.bl
  | none => none
def oasg (m : GM) (st : Sl) : Option D → Option Out
  | some d => (m d st).map .nx
  | none => none
def ofor (m : GM) (body : SM) (st : Sl) : Option (List D) → Option Out
  | some ds => forL m body ds st
  | none => none
def orun : Option Out → Option D
  | some (.rt d _) => some d
  | some (.nx _) => some .non
  | _ => none
def oaug (i : Nat) (st : Sl) : Option D → Option Out
  | some d => if isVa st[i]? = true then some (.nx (st.set i (.va 0 d))) else none
  | none => none

theorem e_bin (m : D → D → Option D) (f g : EM) (st : Sl) : eBin m f g st = ob2 m (f st) (g st) := by
  unfold eBin; cases f st <;> cases g st <;> rfl
theorem e_binL (m : D → D → Option (List D)) (f g : EM) (st : Sl) : iBin m f g st = obL m (f st) (g st) := by
  unfold iBin; cases f st <;> cases g st <;> rfl
theorem e_sl (m : D → Option Int → Option Int → Option D) (f : EM) (g h : OM) (st : Sl) : eSl m f g h st = ob3 m (f st) (g st) (h st) := by
  unfold eSl; cases f st <;> cases g st <;> cases h st <;> rfl
theorem e_onone (st : Sl) : oNone st = some none := id rfl
theorem e_osome (f : EM) (st : Sl) : oSome f st = oint (f st) := by
  unfold oSome; cases f st with
  | none => rfl
  | some d => cases d <;> rfl
theorem e_fl (f : EM) (st : Sl) : eFl f st = ob1 (chk 0) (f st) := by unfold eFl; cases f st <;> rfl
theorem e_call (m : List D → Option D) (f : AM) (st : Sl) : eCall m f st = ob1 m (f st) := by unfold eCall; cases f st <;> rfl
theorem e_callO (k : Nat) (m : List D → Option D) (f : AM) (st : Sl) : eCallO k m f st = ob1 (chk k) (ob1 m (f st)) := by
  unfold eCallO; cases f st with
  | none => rfl
  | some x => show (m x).bind _ = ob1 _ (m x); cases m x <;> rfl
theorem e_cb (m : List D → Option D) (f : AM) (st : Sl) : eCB m f st = ob1 m (f st) := by unfold eCB; cases f st <;> rfl
theorem e_b (m : D → Option D) (f : EM) (st : Sl) : eB m f st = ob1 m (f st) := by unfold eB; cases f st <;> rfl
theorem e_ib (m : D → Option (List D)) (f : EM) (st : Sl) : iB m f st = ob1 m (f st) := by unfold iB; cases f st <;> rfl
theorem e_c (d : D) (st : Sl) : eC d st = some d := id rfl
theorem e_anil (st : Sl) : aNil st = some [] := id rfl
theorem e_acons (f : EM) (g : AM) (st : Sl) : aCons f g st = ocons (f st) (g st) := by unfold aCons; cases f st <;> cases g st <;> rfl
theorem e_val (f : EM) (st : Sl) : qVal f st = oval (f st) := by
  unfold qVal; cases f st with
  | none => rfl
  | some d => cases d <;> rfl
theorem e_neg (f : EM) (st : Sl) : eNeg f st = oneg (f st) := by
  unfold eNeg; cases f st with
  | none => rfl
  | some d => cases d <;> rfl
theorem e_not (f : EM) (st : Sl) : eNot f st = onot (f st) := by
  unfold eNot; cases f st with
  | none => rfl
  | some d => cases d <;> rfl
theorem e_and (f g : EM) (st : Sl) : eAnd f g st = oand (f st) (g st) := by
  unfold eAnd; cases f st with
  | none => rfl
  | some d => cases d with
    | bl b => cases b <;> rfl
    | _ => rfl
theorem e_or (f g : EM) (st : Sl) : eOr f g st = oor (f st) (g st) := by
  unfold eOr; cases f st with
  | none => rfl
  | some d => cases d with
    | bl b => cases b <;> rfl
    | _ => rfl
theorem e_qand (f g : TM) (st : Sl) : qAnd f g st = oandB (f st) (g st) := by
  unfold qAnd; cases f st with
  | none => rfl
  | some d => cases d <;> rfl
theorem e_qor (f g : TM) (st : Sl) : qOr f g st = oorB (f st) (g st) := by
  unfold qOr; cases f st with
  | none => rfl
  | some d => cases d <;> rfl
theorem e_qnot (f : TM) (st : Sl) : qNot f st = onotB (f st) := by unfold qNot; cases f st <;> rfl
theorem e_qyes (st : Sl) : qYes st = some true := id rfl
theorem e_eif (c : TM) (f g : EM) (st : Sl) : eIf c f g st = oif (c st) (f st) (g st) := by
  unfold eIf; cases c st with
  | none => rfl
  | some b => cases b <;> rfl
theorem e_tup (f : AM) (st : Sl) : eTup f st = otup (f st) := by unfold eTup; cases f st <;> rfl
theorem e_lst (f : AM) (st : Sl) : eLst f st = olst (f st) := by unfold eLst; cases f st <;> rfl
theorem e_isi (T : String) (f : EM) (st : Sl) : eIsi T f st = oisi T (f st) := by unfold eIsi; cases f st <;> rfl
theorem e_nil (st : Sl) : sNil st = some (.nx st) := id rfl
theorem e_seq (a b : SM) (st : Sl) : sSeq a b st = oseq b (a st) := by
  unfold sSeq; cases a st with
  | none => rfl
  | some o => cases o <;> rfl
theorem e_sif (c : TM) (f g : SM) (st : Sl) : sIf c f g st = oif (c st) (f st) (g st) := by
  unfold sIf; cases c st with
  | none => rfl
  | some b => cases b <;> rfl
theorem e_ret (f : EM) (st : Sl) : sRet f st = oret st (f st) := by unfold sRet; cases f st <;> rfl
theorem e_exp (f : EM) (st : Sl) : sExp f st = oexp st (f st) := by unfold sExp; cases f st <;> rfl
theorem e_set (i k : Nat) (f : EM) (st : Sl) : sSet i k f st = oset i k st (f st) := by
  unfold sSet; cases f st <;> simp [oset]
theorem e_aug (m : D → D → Option D) (i : Nat) (f : EM) (st : Sl) : sAug m i f st = oaug i st (ob2 m (eVar i st) (f st)) := by
  unfold sAug; rw [e_bin]; cases ob2 m (eVar i st) (f st) <;> simp [oaug]
theorem e_asg (m : GM) (f : EM) (st : Sl) : sAsg m f st = oasg m st (f st) := by unfold sAsg; cases f st <;> rfl
theorem e_for (its : IM) (m : GM) (b : SM) (st : Sl) : sFor its m b st = ofor m b st (its st) := by unfold sFor; cases its st <;> rfl
theorem e_run (n : Nat) (g : SM) (ds : List D) : fnRun n g ds = orun (g (ds.map (Slot.va 0) ++ List.replicate (n - ds.length) .un)) := by
  unfold fnRun; cases g _ with
  | none => rfl
  | some o => cases o <;> rfl
theorem e_var0 (k : Nat) (d : D) (st : Sl) : eVar 0 (.va k d :: st) = some d := id rfl
theorem e_varS0 (d : D) (st : Sl) : eVarS 0 (.va 0 d :: st) = some d := id rfl
theorem e_varS0' (k : Nat) (d : D) (st : Sl) : eVarS 0 (.va (k + 1) d :: st) = chk 0 d := id rfl
theorem e_var0i (k : Nat) (d : D) (st : Sl) : eVar 0 (.io k d :: st) = some d := id rfl
theorem e_varS (i : Nat) (s : Slot) (st : Sl) : eVar (i + 1) (s :: st) = eVar i st := id rfl
theorem e_varSS (i : Nat) (s : Slot) (st : Sl) : eVarS (i + 1) (s :: st) = eVarS i st := id rfl
-- with values
theorem ix_nat_ (ds : List D) (i : Nat) (d : D) (h : ds[i]? = some d) : mIx (.tup ds) (.int i) = some d := L2.atI_nat h
theorem ix_natL_ (ds : List D) (i : Nat) (d : D) (h : ds[i]? = some d) : mIx (.lst ds) (.int i) = some d := L2.atI_nat h
theorem o_b2 (m : D → D → Option D) (x y : D) : ob2 m (some x) (some y) = m x y := id rfl
theorem o_bL (m : D → D → Option (List D)) (x y : D) : obL m (some x) (some y) = m x y := id rfl
theorem o_b3 (m : D → Option Int → Option Int → Option D) (x : D) (y z : Option Int) : ob3 m (some x) (some y) (some z) = m x y z := id rfl
theorem o_b1 (m : α → Option β) (x : α) : ob1 m (some x) = m x := id rfl
theorem o_cons (x : D) (xs : List D) : ocons (some x) (some xs) = some (x :: xs) := id rfl
theorem o_val (b : Bool) : oval (some (.bl b)) = some b := id rfl
theorem o_neg (i : Int) : oneg (some (.int i)) = some (.int (-i)) := id rfl
theorem o_not (b : Bool) : onot (some (.bl b)) = some (.bl (!b)) := id rfl
theorem o_and1 (y : Option D) : oand (some (.bl true)) y = y := id rfl
theorem o_and0 (y : Option D) : oand (some (.bl false)) y = some (.bl false) := id rfl
theorem o_or1 (y : Option D) : oor (some (.bl true)) y = some (.bl true) := id rfl
theorem o_or0 (y : Option D) : oor (some (.bl false)) y = y := id rfl
theorem o_andB1 (y : Option Bool) : oandB (some true) y = y := id rfl
theorem o_andB0 (y : Option Bool) : oandB (some false) y = some false := id rfl
theorem o_orB1 (y : Option Bool) : oorB (some true) y = some true := id rfl
theorem o_orB0 (y : Option Bool) : oorB (some false) y = y := id rfl
theorem o_andB (a b : Bool) : oandB (some a) (some b) = some (a && b) := by cases a <;> rfl
theorem o_orB (a b : Bool) : oorB (some a) (some b) = some (a || b) := by cases a <;> rfl
theorem o_and (a b : Bool) : oand (some (.bl a)) (some (.bl b)) = some (.bl (a && b)) := by cases a <;> rfl
theorem o_or (a b : Bool) : oor (some (.bl a)) (some (.bl b)) = some (.bl (a || b)) := by cases a <;> rfl
theorem o_notB (b : Bool) : onotB (some b) = some (!b) := id rfl
theorem o_if1 (x y : Option α) : oif (some true) x y = x := id rfl
theorem o_if0 (x y : Option α) : oif (some false) x y = y := id rfl
theorem o_ifB (b : Bool) (x y : Option α) : oif (some b) x y = if b = true then x else y := by cases b <;> rfl
theorem o_int (i : Int) : oint (some (.int i)) = some (some i) := id rfl
theorem o_set (i k : Nat) (st : Sl) (d : D) : oset i k st (some d) = if isVa st[i]? = true then some (.nx (st.set i (.va k d))) else none := id rfl
theorem o_aug (i : Nat) (st : Sl) (d : D) : oaug i st (some d) = if isVa st[i]? = true then some (.nx (st.set i (.va 0 d))) else none := id rfl
theorem o_ret (st : Sl) (d : D) : oret st (some d) = some (.rt d st) := id rfl
theorem o_exp (st : Sl) (d : D) : oexp st (some d) = some (.nx st) := id rfl
theorem o_seq (b : SM) (st : Sl) : oseq b (some (.nx st)) = b st := id rfl
theorem o_seqR (b : SM) (d : D) (st : Sl) : oseq b (some (.rt d st)) = some (.rt d st) := id rfl
theorem o_seqB (b : SM) (st : Sl) : oseq b (some (.bk st)) = some (.bk st) := id rfl
theorem o_seqC (b : SM) (st : Sl) : oseq b (some (.ct st)) = some (.ct st) := id rfl
theorem o_seqI (b : SM) (c : Prop) [Decidable c] (x y : Option Out) : oseq b (if c then x else y) = if c then oseq b x else oseq b y := by split <;> rfl
theorem o_runI (c : Prop) [Decidable c] (x y : Option Out) : orun (if c then x else y) = if c then orun x else orun y := by split <;> rfl
theorem o_tup (ds : List D) : otup (some ds) = if lenOk ds.length = true then some (.tup ds) else none := id rfl
theorem o_lst (ds : List D) : olst (some ds) = if lenOk ds.length = true then some (.lst ds) else none := id rfl
theorem o_tup1 (a : D) : otup (some [a]) = some (.tup [a]) := id rfl
theorem o_tup2 (a b : D) : otup (some [a, b]) = some (.tup [a, b]) := id rfl
theorem o_tup3 (a b c : D) : otup (some [a, b, c]) = some (.tup [a, b, c]) := id rfl
theorem o_tup4 (a b c d : D) : otup (some [a, b, c, d]) = some (.tup [a, b, c, d]) := id rfl
theorem o_tup5 (a b c d e : D) : otup (some [a, b, c, d, e]) = some (.tup [a, b, c, d, e]) := id rfl
theorem o_lst0 : olst (some []) = some (.lst []) := id rfl
theorem o_lst1 (a : D) : olst (some [a]) = some (.lst [a]) := id rfl
theorem o_lst2 (a b : D) : olst (some [a, b]) = some (.lst [a, b]) := id rfl
theorem o_lst3 (a b c : D) : olst (some [a, b, c]) = some (.lst [a, b, c]) := id rfl
theorem o_lst4 (a b c d : D) : olst (some [a, b, c, d]) = some (.lst [a, b, c, d]) := id rfl
theorem o_lst5 (a b c d e : D) : olst (some [a, b, c, d, e]) = some (.lst [a, b, c, d, e]) := id rfl
theorem o_lst8 (a b c d e f g h : D) : olst (some [a, b, c, d, e, f, g, h]) = some (.lst [a, b, c, d, e, f, g, h]) := id rfl
theorem ix_t0 (a : D) (l : List D) : mIx (.tup (a :: l)) (.int 0) = some a := ix_nat_ (a :: l) 0 a rfl
theorem ix_t1 (a b : D) (l : List D) : mIx (.tup (a :: b :: l)) (.int 1) = some b := ix_nat_ (a :: b :: l) 1 b rfl
theorem ix_t2 (a b c : D) (l : List D) : mIx (.tup (a :: b :: c :: l)) (.int 2) = some c := ix_nat_ (a :: b :: c :: l) 2 c rfl
theorem ix_t3 (a b c d : D) (l : List D) : mIx (.tup (a :: b :: c :: d :: l)) (.int 3) = some d := ix_nat_ (a :: b :: c :: d :: l) 3 d rfl
theorem ix_t4 (a b c d e : D) (l : List D) : mIx (.tup (a :: b :: c :: d :: e :: l)) (.int 4) = some e := ix_nat_ (a :: b :: c :: d :: e :: l) 4 e rfl
theorem ix_l0 (a : D) (l : List D) : mIx (.lst (a :: l)) (.int 0) = some a := ix_natL_ (a :: l) 0 a rfl
theorem ix_l1 (a b : D) (l : List D) : mIx (.lst (a :: b :: l)) (.int 1) = some b := ix_natL_ (a :: b :: l) 1 b rfl
theorem chk_tup (k : Nat) (ds : List D) : chk k (.tup ds) = if fullL ds k = true then some (.tup ds) else none := id rfl
theorem chk_lst (k : Nat) (ds : List D) : chk (k + 1) (.lst ds) = if fullL ds k = true then some (.lst ds) else none := id rfl
theorem fl_nil (k : Nat) : fullL [] k = true := id rfl
theorem fl_cons (d : D) (ds : List D) (k : Nat) : fullL (d :: ds) k = (full d k && fullL ds k) := id rfl
theorem f_int (i : Int) (k : Nat) : full (.int i) k = true := id rfl
theorem f_bl (i : Bool) (k : Nat) : full (.bl i) k = true := id rfl
theorem f_str (i : Str) (k : Nat) : full (.str i) k = true := id rfl
theorem f_non (k : Nat) : full .non k = true := id rfl
theorem f_tup (ds : List D) (k : Nat) : full (.tup ds) k = fullL ds k := id rfl
theorem f_lst (ds : List D) (k : Nat) : full (.lst ds) (k + 1) = fullL ds k := id rfl
theorem o_asg (m : GM) (st : Sl) (d : D) : oasg m st (some d) = (m d st).map .nx := id rfl
theorem o_for (m : GM) (b : SM) (st : Sl) (ds : List D) : ofor m b st (some ds) = forL m b ds st := id rfl
theorem o_runR (d : D) (st : Sl) : orun (some (.rt d st)) = some d := id rfl
theorem o_runN (st : Sl) : orun (some (.nx st)) = some .non := id rfl
theorem bmap (x : α) (f : α → β) : (some x).map f = some (f x) := id rfl
theorem rep0 (x : α) : List.replicate 0 x = [] := id rfl
theorem repS (n : Nat) (x : α) : List.replicate (n + 1) x = x :: List.replicate n x := id rfl
theorem set0 (a b : α) (l : List α) : (a :: l).set 0 b = b :: l := id rfl
theorem setS (a b : α) (l : List α) (i : Nat) : (a :: l).set (i + 1) b = a :: l.set i b := id rfl
theorem get0 (a : α) (l : List α) : (a :: l)[0]? = some a := id rfl
theorem getS (a : α) (l : List α) (i : Nat) : (a :: l)[i + 1]? = l[i]? := id rfl
theorem isva (k : Nat) (d : D) : isVa (some (.va k d)) = true := id rfl
theorem isun : isVa (some .un) = true := id rfl
theorem isv0 (d : D) : isV0 (some (.va 0 d)) = true := id rfl
theorem isv0u : isV0 (some .un) = true := id rfl
theorem wipe_nil (st : Sl) : wipeS st [] = st := id rfl
theorem wipe_cons (st : Sl) (v : Nat) (vs : List Nat) : wipeS st (v :: vs) = (wipeS st vs).set v .un := id rfl
theorem chk_int (k : Nat) (i : Int) : chk k (.int i) = some (.int i) := id rfl
theorem chk_bl (k : Nat) (i : Bool) : chk k (.bl i) = some (.bl i) := id rfl
theorem chk_non (k : Nat) : chk k .non = some .non := id rfl
theorem chk_str (k : Nat) (i : Str) : chk k (.str i) = some (.str i) := id rfl
theorem isi_some (T : String) (d : D) : oisi T (some d) = (tyD d).bind fun t => (L2.kitB t T).map D.bl := id rfl
theorem isi_ii (i : Int) : oisi "int" (some (.int i)) = some (.bl true) := id rfl
theorem isi_ib (i : Int) : oisi "bool" (some (.int i)) = some (.bl false) := id rfl
theorem isi_bb (i : Bool) : oisi "bool" (some (.bl i)) = some (.bl true) := id rfl
theorem isi_tt (i : List D) : oisi "tuple" (some (.tup i)) = some (.bl true) := id rfl
theorem isi_ll (i : List D) : oisi "list" (some (.lst i)) = some (.bl true) := id rfl
theorem mod_ii (i j : Int) (h : 0 < j) : mMod (.int i) (.int j) = some (.int (i % j)) := by
  show (if modOk i j = true then _ else _) = _
  rw [if_pos (show modOk i j = true from decide_eq_true h)]
theorem div_ii (i j : Int) (h : 0 < j) (h2 : j.natAbs.log2 < 9000) : mDiv (.int i) (.int j) = some (.int (i / j)) := by
  show (if divOk i j = true then _ else _) = _
  rw [if_pos (by unfold divOk; rw [decide_eq_true h, decide_eq_true h2]; rfl)]
theorem add_ii (i j : Int) : mAddI (.int i) (.int j) = some (.int (i + j)) := id rfl
theorem sub_ii (i j : Int) : mSub (.int i) (.int j) = some (.int (i - j)) := id rfl
theorem mul_ii (i j : Int) (h : (-(2 ^ 64) < i ∧ i < 2 ^ 64) ∨ (-(2 ^ 64) < j ∧ j < 2 ^ 64)) : mMul (.int i) (.int j) = some (.int (i * j)) := by
  show (if mulOk i j = true then _ else _) = _
  rw [if_pos]
  unfold mulOk
  rcases h with h | h
  · rw [decide_eq_true h.1, decide_eq_true h.2]; rfl
  · rw [decide_eq_true h.1, decide_eq_true h.2]; simp
theorem pow_ii (i j : Int) (h : powOk i j = true) : mPow (.int i) (.int j) = some (.int (i ^ j.toNat)) := by
  show (if powOk i j = true then _ else _) = _
  rw [if_pos h]
theorem lt_ii (i j : Int) : mLt (.int i) (.int j) = some (.bl (decide (i < j))) := id rfl
theorem le_ii (i j : Int) : mLe (.int i) (.int j) = some (.bl (decide (i ≤ j))) := id rfl
theorem gt_ii (i j : Int) : mGt (.int i) (.int j) = some (.bl (decide (j < i))) := id rfl
theorem ge_ii (i j : Int) : mGe (.int i) (.int j) = some (.bl (decide (j ≤ i))) := id rfl
theorem shp_int (i : Int) : shp (.int i) = true := id rfl
theorem eq_ii (i j : Int) : mEq (.int i) (.int j) = some (.bl (decide (i = j))) := by
  have : deq (.int i) (.int j) = decide (i = j) := by
    show (i == j) = _
    rw [Bool.beq_eq_decide_eq]
  unfold mEq
  rw [if_pos (by rfl), this]
theorem ne_ii (i j : Int) : mNe (.int i) (.int j) = some (.bl (!decide (i = j))) := by
  have : deq (.int i) (.int j) = decide (i = j) := by
    show (i == j) = _
    rw [Bool.beq_eq_decide_eq]
  unfold mNe
  rw [if_pos (by rfl), this]
theorem eq_bb (i j : Bool) : mEq (.bl i) (.bl j) = some (.bl (i == j)) := by
  unfold mEq
  rw [if_pos (by rfl)]; rfl
theorem ne_bb (i j : Bool) : mNe (.bl i) (.bl j) = some (.bl (!(i == j))) := by
  unfold mNe
  rw [if_pos (by rfl)]; rfl
theorem isN_n : mIsN .non .non = some (.bl true) := id rfl
theorem isN_i (i : Int) : mIsN (.int i) .non = some (.bl false) := id rfl
theorem notN_n : mNotN .non .non = some (.bl false) := id rfl
theorem notN_i (i : Int) : mNotN (.int i) .non = some (.bl true) := id rfl
theorem len_scr (ns : List Int) : mLen [.scr ns] = some (.int ns.length) := id rfl
theorem len_lst (ns : List D) : mLen [.lst ns] = some (.int ns.length) := id rfl
theorem len_tup (ns : List D) : mLen [.tup ns] = some (.int ns.length) := id rfl
theorem ix_scr (ns : List Int) (i : Int) (h0 : 0 ≤ i) (h : i < ns.length) : mIx (.scr ns) (.int i) = some (.int (ns.getD i.toNat 0)) := by
  show (L2.atI ns i).map D.int = _
  have e : ns[i.toNat]? = some (ns.getD i.toNat 0) := by
    rw [List.getD_eq_getElem?_getD]
    have : i.toNat < ns.length := by omega
    rw [List.getElem?_eq_getElem this]; rfl
  have := L2.atI_nat e
  rw [Int.toNat_of_nonneg h0] at this
  rw [this]; rfl
theorem ix_nat (ds : List D) (i : Nat) (d : D) (h : ds[i]? = some d) : mIx (.tup ds) (.int i) = some d := L2.atI_nat h
theorem ix_tup (ds : List D) (i : Int) (d : D) (h0 : 0 ≤ i) (h : ds[i.toNat]? = some d) : mIx (.tup ds) (.int i) = some d := by
  have := L2.atI_nat h
  rw [Int.toNat_of_nonneg h0] at this
  exact this
theorem ix_lst (ds : List D) (i : Int) (d : D) (h0 : 0 ≤ i) (h : ds[i.toNat]? = some d) : mIx (.lst ds) (.int i) = some d := by
  have := L2.atI_nat h
  rw [Int.toNat_of_nonneg h0] at this
  exact this
/-- a tuple of whole numbers -/
def tupI (pt : List Int) : D := .tup (pt.map D.int)
def lstI (pt : List Int) : D := .lst (pt.map D.int)
theorem ix_ints (pt : List Int) (i : Int) (h0 : 0 ≤ i) (h : i < pt.length) : mIx (tupI pt) (.int i) = some (.int (pt.getD i.toNat 0)) := by
  refine ix_tup _ _ _ h0 ?_
  rw [List.getElem?_map, List.getD_eq_getElem?_getD]
  have : i.toNat < pt.length := by omega
  rw [List.getElem?_eq_getElem this]; rfl
theorem full_ints (pt : List Int) (k : Nat) : full (tupI pt) k = true := fullL_ints pt k
theorem chk_ints (pt : List Int) (k : Nat) : chk k (tupI pt) = some (tupI pt) := by
  unfold chk; rw [if_pos (full_ints pt k)]
theorem forL_nil (m : GM) (b : SM) (st : Sl) : forL m b [] st = some (.nx st) := id rfl
def oloop (k : Sl → Option Out) : Option Out → Option Out
  | some (.nx st) => k st
  | some (.ct st) => k st
  | some (.bk st) => some (.nx st)
  | some (.rt d st) => some (.rt d st)
  | none => none
def obody (b : SM) : Option Sl → Option Out
  | some st => b st
  | none => none
theorem forL_cons (m : GM) (b : SM) (d : D) (ds : List D) (st : Sl) : forL m b (d :: ds) st = oloop (forL m b ds) (obody b (m d st)) := by
  show ((m d st).bind fun st1 => (b st1).bind fun o => match o with
    | .nx st2 => forL m b ds st2
    | .ct st2 => forL m b ds st2
    | .bk st2 => some (.nx st2)
    | .rt d st2 => some (.rt d st2)) = _
  cases m d st with
  | none => rfl
  | some st1 =>
    show (b st1).bind _ = oloop _ (b st1)
    cases b st1 with
    | none => rfl
    | some o => cases o <;> rfl
theorem o_loopN (k : Sl → Option Out) (st : Sl) : oloop k (some (.nx st)) = k st := id rfl
theorem o_loopC (k : Sl → Option Out) (st : Sl) : oloop k (some (.ct st)) = k st := id rfl
theorem o_loopB (k : Sl → Option Out) (st : Sl) : oloop k (some (.bk st)) = some (.nx st) := id rfl
theorem o_loopR (k : Sl → Option Out) (d : D) (st : Sl) : oloop k (some (.rt d st)) = some (.rt d st) := id rfl
theorem o_loopI (k : Sl → Option Out) (c : Prop) [Decidable c] (x y : Option Out) : oloop k (if c then x else y) = if c then oloop k x else oloop k y := by split <;> rfl
theorem o_body (b : SM) (st : Sl) : obody b (some st) = b st := id rfl
theorem gnm (i : Nat) (d : D) (st : Sl) : gNm i d st = if isVa st[i]? = true then some (st.set i (.va 0 d)) else none := id rfl
end
end FL
namespace FL
theorem div_s (i j : Int) (h : 0 < j) (h2 : j < 18446744073709551616) : mDiv (.int i) (.int j) = some (.int (i / j)) := div_ii i j h (by
  have h3 : j.natAbs < 2 ^ 64 := by omega
  exact Nat.lt_trans (PySem.Flt.log2_lt_of (by decide) h3) (by decide))
theorem mul_l (i j : Int) (h : -18446744073709551616 < i) (h2 : i < 18446744073709551616) : mMul (.int i) (.int j) = some (.int (i * j)) := mul_ii i j (.inl ⟨by omega, by omega⟩)
theorem mul_r (i j : Int) (h : -18446744073709551616 < j) (h2 : j < 18446744073709551616) : mMul (.int i) (.int j) = some (.int (i * j)) := mul_ii i j (.inr ⟨by omega, by omega⟩)
theorem pow_n (i : Int) (n : Nat) (h : n ≤ 1000000) (h1 : -18446744073709551616 < i) (h2 : i < 18446744073709551616) : mPow (.int i) (.int n) = some (.int (i ^ n)) := by
  rw [pow_ii]
  · rfl
  · unfold powOk
    rw [decide_eq_true (show (0 : Int) ≤ n by omega), decide_eq_true (show (n : Int) ≤ 1000000 by omega), decide_eq_true (show i.natAbs < 2 ^ 64 by omega)]
    rfl
end FL
namespace FL
open PySem PySem.Spec PyProof.Rows
/-! ### loops and comprehensions over lists of data -/
theorem rng1_eq (n : Int) (h0 : 0 ≤ n) (h : n < 4611686018427387904) : mRng1 (.int n) = some ((List.range n.toNat).map fun (i : Nat) => D.int (i : Int)) := by
  show (if rngOk n = true then some (rngL 0 1 n.toNat) else none) = _
  rw [if_pos (by unfold rngOk; rw [decide_eq_true (show -(2 ^ 62) ≤ n by omega), decide_eq_true (show n < 2 ^ 62 by omega)]; rfl)]
  unfold rngL
  congr 1
  apply List.map_congr_left
  intro i _
  rw [Int.mul_one, Int.zero_add]
theorem rng2_eq (a b : Int) (h0 : -4611686018427387904 ≤ a) (h1 : a < 4611686018427387904) (h2 : -4611686018427387904 ≤ b) (h3 : b < 4611686018427387904) : mRng2 (.int a) (.int b) = some ((List.range (b - a).toNat).map fun (i : Nat) => D.int (a + i)) := by
  show (if (rngOk a && rngOk b) = true then some (rngL a 1 (b - a).toNat) else none) = _
  rw [if_pos (by unfold rngOk; rw [decide_eq_true (show -(2 ^ 62) ≤ a by omega), decide_eq_true (show a < 2 ^ 62 by omega), decide_eq_true (show -(2 ^ 62) ≤ b by omega), decide_eq_true (show b < 2 ^ 62 by omega)]; rfl)]
  unfold rngL
  congr 1
  apply List.map_congr_left
  intro i _
  rw [Int.mul_one]
theorem lc_filter {α : Type} {vs : List Nat} {its : IM} {m : GM} {t : TM} {f : EM} {st : Sl} (enc hf : α → D) (p : α → Bool) (l : List α) (hi : its st = some (l.map enc)) (hv : vs.all (fun v => isV0 st[v]?) = true) (hl : l.length < 16777216)
    (h : ∀ x ∈ l, ∃ st1, m (enc x) (wipeS st vs) = some st1 ∧ t st1 = some (p x) ∧ (p x = true → f st1 = some (hf x))) : eLc vs its m t f st = some (.lst ((l.filter p).map hf)) := by
  have core : ∀ l : List α, (∀ x ∈ l, ∃ st1, m (enc x) (wipeS st vs) = some st1 ∧ t st1 = some (p x) ∧ (p x = true → f st1 = some (hf x))) → lcL m t f (wipeS st vs) (l.map enc) = some ((l.filter p).map hf) := by
    intro l
    induction l with
    | nil => intro _; rfl
    | cons x l ih =>
      intro h
      obtain ⟨st1, h1, h2, h3⟩ := h x List.mem_cons_self
      have ih := ih fun y hy => h y (List.mem_cons_of_mem _ hy)
      show ((m (enc x) (wipeS st vs)).bind fun st1 => (t st1).bind fun b => if b = true then (f st1).bind fun y => (lcL m t f (wipeS st vs) (l.map enc)).map (y :: ·) else lcL m t f (wipeS st vs) (l.map enc)) = _
      rw [h1]
      show ((t st1).bind fun b => if b = true then (f st1).bind fun y => (lcL m t f (wipeS st vs) (l.map enc)).map (y :: ·) else lcL m t f (wipeS st vs) (l.map enc)) = _
      rw [h2]
      show (if p x = true then (f st1).bind fun y => (lcL m t f (wipeS st vs) (l.map enc)).map (y :: ·) else lcL m t f (wipeS st vs) (l.map enc)) = _
      by_cases hp : p x = true
      · rw [if_pos hp, h3 hp, ih, List.filter_cons_of_pos hp]; rfl
      · rw [if_neg hp, ih, List.filter_cons_of_neg hp]
  unfold eLc
  rw [hi]
  show (if (vs.all (fun v => isV0 st[v]?) && decide ((l.map enc).length < 16777216)) = true then _ else none) = _
  rw [if_pos (by rw [hv, List.length_map, decide_eq_true hl]; rfl), core l h]
  rfl
theorem lc_map {α : Type} {vs : List Nat} {its : IM} {m : GM} {t : TM} {f : EM} {st : Sl} (enc hf : α → D) (l : List α) (hi : its st = some (l.map enc)) (hv : vs.all (fun v => isV0 st[v]?) = true) (hl : l.length < 16777216)
    (h : ∀ x ∈ l, ∃ st1, m (enc x) (wipeS st vs) = some st1 ∧ t st1 = some true ∧ f st1 = some (hf x)) : eLc vs its m t f st = some (.lst (l.map hf)) := by
  have := lc_filter enc hf (fun _ => true) l hi hv hl fun x hx => by
    obtain ⟨st1, h1, h2, h3⟩ := h x hx
    exact ⟨st1, h1, h2, fun _ => h3⟩
  rw [this, List.filter_eq_self.mpr fun _ _ => rfl]
theorem forL_P {α : Type} {m : GM} {b : SM} (P : Sl → Prop) (enc : α → D) : ∀ (l : List α) (_ : ∀ x ∈ l, ∀ st, P st → ∃ st', (obody b (m (enc x) st) = some (.nx st') ∨ obody b (m (enc x) st) = some (.ct st')) ∧ P st') (st : Sl), P st → ∃ st', forL m b (l.map enc) st = some (.nx st') ∧ P st'
  | [], _, st, hp => ⟨st, rfl, hp⟩
  | x :: l, h, st, hp => by
    obtain ⟨st1, h1, p1⟩ := h x List.mem_cons_self st hp
    obtain ⟨st2, h2, p2⟩ := forL_P P enc l (fun y hy => h y (List.mem_cons_of_mem _ hy)) st1 p1
    refine ⟨st2, ?_, p2⟩
    rw [List.map_cons, forL_cons]
    rcases h1 with h1 | h1 <;> (rw [h1]; exact h2)
theorem forL_fold {α β : Type} {m : GM} {b : SM} (S : β → Sl) (g : β → α → β) (enc : α → D) : ∀ (l : List α) (_ : ∀ x ∈ l, ∀ s, obody b (m (enc x) (S s)) = some (.nx (S (g s x)))) (s : β), forL m b (l.map enc) (S s) = some (.nx (S (l.foldl g s)))
  | [], _, s => rfl
  | x :: l, h, s => by
    rw [List.map_cons, forL_cons, h x List.mem_cons_self s]
    exact forL_fold S g enc l (fun y hy => h y (List.mem_cons_of_mem _ hy)) (g s x)
end FL
namespace FL
open PySem PySem.Spec PyProof.Rows
/-! ### the words of rows and questions -/
inductive Wd where
  | most | least | same | unlike | set_ | ask | need | claim | if_ | while_ | else_ | end_ | plain | go | keep | put
  deriving DecidableEq
def wS : Wd → Str
  | .most => "most"
  | .least => "least"
  | .same => "same"
  | .unlike => "unlike"
  | .set_ => "set"
  | .ask => "ask"
  | .need => "need"
  | .claim => "claim"
  | .if_ => "if"
  | .while_ => "while"
  | .else_ => "else"
  | .end_ => "end"
  | .plain => "plain"
  | .go => "go"
  | .keep => "keep"
  | .put => "put"
def wD (w : Wd) : D := .str (wS w)
theorem l_most : D.str "most" = wD .most := id rfl
theorem l_least : D.str "least" = wD .least := id rfl
theorem l_same : D.str "same" = wD .same := id rfl
theorem l_unlike : D.str "unlike" = wD .unlike := id rfl
theorem l_set : D.str "set" = wD .set_ := id rfl
theorem l_ask : D.str "ask" = wD .ask := id rfl
theorem l_need : D.str "need" = wD .need := id rfl
theorem l_claim : D.str "claim" = wD .claim := id rfl
theorem l_if : D.str "if" = wD .if_ := id rfl
theorem l_while : D.str "while" = wD .while_ := id rfl
theorem l_else : D.str "else" = wD .else_ := id rfl
theorem l_end : D.str "end" = wD .end_ := id rfl
theorem l_plain : D.str "plain" = wD .plain := id rfl
theorem l_go : D.str "go" = wD .go := id rfl
theorem l_keep : D.str "keep" = wD .keep := id rfl
theorem l_put : D.str "put" = wD .put := id rfl
theorem wS_eq : ∀ a b : Wd, (wS a == wS b) = decide (a = b) := by intro a b; cases a <;> cases b <;> decide +kernel
theorem wS_ok : ∀ a : Wd, shp (wD a) = true := by intro a; cases a <;> decide +kernel
theorem deq_w (a b : Wd) : deq (wD a) (wD b) = decide (a = b) := by
  show (wS a == wS b) = _
  exact wS_eq a b
theorem mEq_w (a b : Wd) : mEq (wD a) (wD b) = some (.bl (decide (a = b))) := by
  unfold mEq
  rw [wS_ok, wS_ok, deq_w]; rfl
theorem mNe_w (a b : Wd) : mNe (wD a) (wD b) = some (.bl (!decide (a = b))) := by
  unfold mNe
  rw [wS_ok, wS_ok, deq_w]; rfl
theorem chk_w (k : Nat) (a : Wd) : chk k (wD a) = some (wD a) := id rfl
theorem isi_sw (a : Wd) : oisi "str" (some (wD a)) = some (.bl true) := id rfl
theorem isN_w (a : Wd) : mIsN (wD a) .non = some (.bl false) := id rfl
theorem notN_w (a : Wd) : mNotN (wD a) .non = some (.bl true) := id rfl
/-- None or a whole number -/
def oD : Option Int → D
  | none => .non
  | some i => .int i
theorem chk_o (k : Nat) (o : Option Int) : chk k (oD o) = some (oD o) := by cases o <;> rfl
theorem isN_o (o : Option Int) : mIsN (oD o) .non = some (.bl o.isNone) := by cases o <;> rfl
theorem notN_o (o : Option Int) : mNotN (oD o) .non = some (.bl o.isSome) := by cases o <;> rfl
theorem full_w (k : Nat) (a : Wd) : full (wD a) k = true := id rfl
theorem full_o (k : Nat) (o : Option Int) : full (oD o) k = true := by cases o <;> rfl
/-! ### equality of data by equality of what they stand for -/
theorem mEq_of {x y : D} {b : Bool} (hx : shp x = true) (hy : shp y = true) (h : deq x y = b) : mEq x y = some (.bl b) := by
  unfold mEq
  rw [hx, hy, h]; rfl
theorem mNe_of {x y : D} {b : Bool} (hx : shp x = true) (hy : shp y = true) (h : deq x y = b) : mNe x y = some (.bl (!b)) := by
  unfold mNe
  rw [hx, hy, h]; rfl
/-! no truths: so == is = -/
mutual
def nob : D → Bool
  | .bl _ => false
  | .tup ds => nobL ds
  | .lst ds => nobL ds
  | .ob _ _ _ => false
  | .dct _ _ => false
  | .scr _ => false
  | .mob _ _ _ _ => false
  | .hol _ => false
  | .exc _ _ _ => false
  | _ => true
def nobL : List D → Bool
  | [] => true
  | d :: ds => nob d && nobL ds
end
theorem str_beq (x y : Str) : (x == y) = decide (x = y) := by
  by_cases h : x = y
  · rw [h, decide_eq_true rfl]; simp
  · rw [decide_eq_false h]; simp [h]
mutual
theorem deq_nob : ∀ (x y : D), nob x = true → nob y = true → deq x y = true → x = y
  | .non, y, _, hy, h => by cases y <;> first | rfl | cases h | cases hy
  | .int i, y, _, hy, h => by
    cases y with
    | int j =>
      have h : (i == j) = true := h
      rw [eq_of_beq h]
    | _ => first | cases h | cases hy
  | .str s, y, _, hy, h => by
    cases y with
    | str t =>
      have h : (s == t) = true := h
      rw [str_beq] at h
      rw [of_decide_eq_true h]
    | _ => first | cases h | cases hy
  | .tup ds, y, hx, hy, h => by
    cases y with
    | tup es => rw [deqL_nob ds es hx hy h]
    | _ => first | cases h | cases hy
  | .lst ds, y, hx, hy, h => by
    cases y with
    | lst es => rw [deqL_nob ds es hx hy h]
    | _ => first | cases h | cases hy
  | .bl _, _, hx, _, _ => by cases hx
  | .scr _, _, hx, _, _ => by cases hx
  | .ob _ _ _, _, hx, _, _ => by cases hx
  | .dct _ _, _, hx, _, _ => by cases hx
  | .mob _ _ _ _, _, hx, _, _ => by cases hx
  | .hol _, _, hx, _, _ => by cases hx
  | .exc _ _ _, _, hx, _, _ => by cases hx
theorem deqL_nob : ∀ (x y : List D), nobL x = true → nobL y = true → PyData.eqvAll (toPyL x) (toPyL y) = true → x = y
  | [], y, _, _, h => by cases y <;> first | rfl | cases h
  | d :: ds, y, hx, hy, h => by
    cases y with
    | nil => cases h
    | cons e es =>
      have h : (deq d e && PyData.eqvAll (toPyL ds) (toPyL es)) = true := h
      have h := Bool.and_eq_true_iff.mp h
      have hx : (nob d && nobL ds) = true := hx
      have hx := Bool.and_eq_true_iff.mp hx
      have hy : (nob e && nobL es) = true := hy
      have hy := Bool.and_eq_true_iff.mp hy
      rw [deq_nob d e hx.1 hy.1 h.1, deqL_nob ds es hx.2 hy.2 h.2]
end
mutual
theorem deq_refl : ∀ (x : D), nob x = true → deq x x = true
  | .non, _ => rfl
  | .int i, _ => by show (i == i) = true; simp
  | .str s, _ => by show (s == s) = true; rw [str_beq]; simp
  | .tup ds, h => deqL_refl ds h
  | .lst ds, h => deqL_refl ds h
  | .bl _, h => by cases h
  | .scr _, h => by cases h
  | .ob _ _ _, h => by cases h
  | .dct _ _, h => by cases h
  | .mob _ _ _ _, h => by cases h
  | .hol _, h => by cases h
  | .exc _ _ _, h => by cases h
theorem deqL_refl : ∀ (x : List D), nobL x = true → PyData.eqvAll (toPyL x) (toPyL x) = true
  | [], _ => rfl
  | d :: ds, h => by
    have h : (nob d && nobL ds) = true := h
    have h := Bool.and_eq_true_iff.mp h
    show (deq d d && PyData.eqvAll (toPyL ds) (toPyL ds)) = true
    rw [deq_refl d h.1, deqL_refl ds h.2]; rfl
end
theorem deq_iff {x y : D} (hx : nob x = true) (hy : nob y = true) : deq x y = true ↔ x = y :=
  ⟨deq_nob x y hx hy, fun h => by rw [← h]; exact deq_refl x hx⟩
open Classical in
theorem mEq_nob {x y : D} (hx : shp x = true) (hy : shp y = true) (nx : nob x = true) (ny : nob y = true) : mEq x y = some (.bl (decide (x = y))) :=
  mEq_of hx hy (by
    by_cases h : x = y
    · rw [decide_eq_true h]; exact (deq_iff nx ny).mpr h
    · rw [decide_eq_false h]
      cases e : deq x y with
      | false => rfl
      | true => exact absurd ((deq_iff nx ny).mp e) h)
open Classical in
theorem mNe_nob {x y : D} (hx : shp x = true) (hy : shp y = true) (nx : nob x = true) (ny : nob y = true) : mNe x y = some (.bl (!decide (x = y))) := by
  have := mEq_nob hx hy nx ny
  unfold mEq at this
  unfold mNe
  rw [hx, hy] at this ⊢
  have e : deq x y = decide (x = y) := D.bl.inj (Option.some.inj this)
  rw [e]; rfl
end FL
namespace FL
open PySem PySem.Spec PyProof.Rows
/-- data that == takes: texts in order, k levels deep at most -/
def okD (k : Nat) (d : D) : Prop := (toPy d).canLay0 = true ∧ (toPy d).depth ≤ k
theorem okD.mono {k j : Nat} {d : D} (h : okD k d) (hk : k ≤ j) : okD j d := ⟨h.1, Nat.le_trans h.2 hk⟩
theorem okD.shp {k : Nat} {d : D} (h : okD k d) (hk : k ≤ 64) : shp d = true := by
  unfold FL.shp SeqAt.shaped
  rw [h.1, decide_eq_true (Nat.le_trans h.2 hk)]; rfl
theorem ok_int (k : Nat) (i : Int) : okD k (.int i) := ⟨rfl, Nat.zero_le _⟩
theorem ok_bl (k : Nat) (i : Bool) : okD k (.bl i) := ⟨rfl, Nat.zero_le _⟩
theorem ok_non (k : Nat) : okD k .non := ⟨rfl, Nat.zero_le _⟩
theorem ok_w (k : Nat) (a : Wd) : okD k (wD a) := ⟨SeqAt.canLay_of_shaped (wS_ok a), Nat.zero_le _⟩
theorem ok_o (k : Nat) (o : Option Int) : okD k (oD o) := by cases o <;> first | exact ok_non k | exact ok_int k _
theorem ok_L {k : Nat} : ∀ {ds : List D}, (∀ d ∈ ds, okD k d) → PyData.canLayAll0 (toPyL ds) = true ∧ PyData.depthAll (toPyL ds) ≤ k
  | [], _ => ⟨rfl, Nat.zero_le _⟩
  | d :: ds, h => by
    obtain ⟨h1, h2⟩ := h d List.mem_cons_self
    obtain ⟨h3, h4⟩ := ok_L (ds := ds) fun e he => h e (List.mem_cons_of_mem _ he)
    refine ⟨?_, ?_⟩
    · show ((toPy d).canLay0 && PyData.canLayAll0 (toPyL ds)) = true
      rw [h1, h3]; rfl
    · show max (toPy d).depth (PyData.depthAll (toPyL ds)) ≤ k
      exact Nat.max_le.mpr ⟨h2, h4⟩
theorem ok_tup {k : Nat} {ds : List D} (h : ∀ d ∈ ds, okD k d) : okD (k + 1) (.tup ds) := by
  obtain ⟨h1, h2⟩ := ok_L h
  exact ⟨h1, Nat.succ_le_succ h2⟩
theorem ok_lst {k : Nat} {ds : List D} (h : ∀ d ∈ ds, okD k d) : okD (k + 1) (.lst ds) := by
  obtain ⟨h1, h2⟩ := ok_L h
  exact ⟨h1, Nat.succ_le_succ h2⟩
theorem nobL_of : ∀ {ds : List D}, (∀ d ∈ ds, nob d = true) → nobL ds = true
  | [], _ => rfl
  | d :: ds, h => by
    show (nob d && nobL ds) = true
    rw [h d List.mem_cons_self, nobL_of fun e he => h e (List.mem_cons_of_mem _ he)]; rfl
theorem fullL_of {k : Nat} : ∀ {ds : List D}, (∀ d ∈ ds, full d k = true) → fullL ds k = true
  | [], _ => rfl
  | d :: ds, h => by
    show (full d k && fullL ds k) = true
    rw [h d List.mem_cons_self, fullL_of fun e he => h e (List.mem_cons_of_mem _ he)]; rfl
theorem nob_o (o : Option Int) : nob (oD o) = true := by cases o <;> rfl
/-- == of data without truths -/
theorem mEq_self {x : D} {k : Nat} (h : okD k x) (hk : k ≤ 64) (n : nob x = true) : mEq x x = some (.bl true) :=
  mEq_of (h.shp hk) (h.shp hk) (deq_refl x n)
theorem mNe_self {x : D} {k : Nat} (h : okD k x) (hk : k ≤ 64) (n : nob x = true) : mNe x x = some (.bl false) :=
  mNe_of (h.shp hk) (h.shp hk) (deq_refl x n)
end FL
namespace FL
/-- a loop by what holds behind each part of its items -/
theorem forL_pre {α : Type} {m : GM} {b : SM} (P : List α → Sl → Prop) (enc : α → D) (l : List α) (h : ∀ pre x post, l = pre ++ x :: post → ∀ st, P pre st → ∃ st', (obody b (m (enc x) st) = some (.nx st') ∨ obody b (m (enc x) st) = some (.ct st')) ∧ P (pre ++ [x]) st') (st : Sl) (h0 : P [] st) :
    ∃ st', forL m b (l.map enc) st = some (.nx st') ∧ P l st' := by
  have core : ∀ (post pre : List α) (st : Sl), l = pre ++ post → P pre st → ∃ st', forL m b (post.map enc) st = some (.nx st') ∧ P l st' := by
    intro post
    induction post with
    | nil =>
      intro pre st e hp
      rw [List.append_nil] at e
      subst e
      exact ⟨st, rfl, hp⟩
    | cons x post ih =>
      intro pre st e hp
      obtain ⟨st1, h1, p1⟩ := h pre x post e st hp
      obtain ⟨st2, h2, p2⟩ := ih (pre ++ [x]) st1 (by rw [e, List.append_assoc]; rfl) p1
      refine ⟨st2, ?_, p2⟩
      rw [List.map_cons, forL_cons]
      rcases h1 with h1 | h1 <;> (rw [h1]; exact h2)
  exact core l [] st rfl h0
end FL
namespace FL
open PySem PySem.Spec PyProof.Rows
/-! ### lists by their places -/
def genI (n : Nat) (h : Int → D) : D := .lst ((List.range n).map fun (i : Nat) => h (i : Int))
def lineD (n : Nat) (L : Int → Option Int) : D := genI n fun g => oD (L g)
abbrev Tb := Int → Int → Option Int
def tabD (n : Nat) (T : Tb) : D := genI n fun f => lineD n (T f)
theorem gen_get {n : Nat} {h : Int → D} {i : Nat} (hi : i < n) : ((List.range n).map fun (i : Nat) => h (i : Int))[i]? = some (h i) := by
  rw [List.getElem?_map, List.getElem?_range hi]; rfl
theorem ix_gen (n : Nat) (h : Int → D) (i : Int) (h0 : 0 ≤ i) (h1 : i < n) : mIx (genI n h) (.int i) = some (h i) := by
  refine ix_lst _ _ _ h0 ?_
  have := gen_get (h := h) (i := i.toNat) (n := n) (by omega)
  rw [Int.toNat_of_nonneg h0] at this
  exact this
theorem ix_tab (n : Nat) (T : Tb) (i : Int) (h0 : 0 ≤ i) (h1 : i < n) : mIx (tabD n T) (.int i) = some (lineD n (T i)) := ix_gen n _ i h0 h1
theorem ix_line (n : Nat) (L : Int → Option Int) (i : Int) (h0 : 0 ≤ i) (h1 : i < n) : mIx (lineD n L) (.int i) = some (oD (L i)) := ix_gen n _ i h0 h1
theorem len_gen (n : Nat) (h : Int → D) : mLen [genI n h] = some (.int n) := by
  unfold genI; rw [len_lst, List.length_map, List.length_range]
theorem len_tabD (n : Nat) (T : Tb) : mLen [tabD n T] = some (.int n) := len_gen n _
theorem len_line (n : Nat) (L : Int → Option Int) : mLen [lineD n L] = some (.int n) := len_gen n _
theorem gen_congr {n : Nat} {h h' : Int → D} (e : ∀ i : Int, 0 ≤ i → i < n → h i = h' i) : genI n h = genI n h' := by
  unfold genI
  congr 1
  apply List.map_congr_left
  intro i hi
  have := List.mem_range.mp hi
  exact e i (by omega) (by omega)
theorem tab_congr {n : Nat} {T U : Tb} (e : ∀ f g : Int, 0 ≤ f → f < n → 0 ≤ g → g < n → T f g = U f g) : tabD n T = tabD n U := gen_congr fun f h0 h1 => gen_congr fun g h2 h3 => by rw [e f g h0 h1 h2 h3]
theorem gen_inj {n : Nat} {h h' : Int → D} (e : genI n h = genI n h') (i : Int) (h0 : 0 ≤ i) (h1 : i < n) : h i = h' i := by
  have := ix_gen n h i h0 h1
  rw [e, ix_gen n h' i h0 h1] at this
  exact (Option.some.inj this).symm
theorem oD_inj {a b : Option Int} (e : oD a = oD b) : a = b := by
  cases a <;> cases b <;> first | rfl | (cases e; rfl) | cases e
theorem tab_inj {n : Nat} {T U : Tb} (e : tabD n T = tabD n U) (f g : Int) (h0 : 0 ≤ f) (h1 : f < n) (h2 : 0 ≤ g) (h3 : g < n) : T f g = U f g :=
  oD_inj (gen_inj (gen_inj e f h0 h1) g h2 h3)
theorem gen_len {n m : Nat} {h h' : Int → D} (e : genI n h = genI m h') : n = m := by
  have : ((List.range n).map fun (i : Nat) => h (i : Int)).length = ((List.range m).map fun (i : Nat) => h' (i : Int)).length := by
    rw [D.lst.inj e]
  simpa using this
theorem gen_set {n : Nat} {h : Int → D} {i : Nat} {d : D} : ((List.range n).map fun (i : Nat) => h (i : Int)).set i d = (List.range n).map fun (j : Nat) => if (j : Int) = (i : Int) then d else h j := by
  apply List.ext_getElem?
  intro j
  by_cases hj : j < n
  · by_cases e : i = j
    · subst e
      rw [List.getElem?_set_self (by simpa using hj), List.getElem?_map, List.getElem?_range hj]
      simp
    · rw [List.getElem?_set_ne e, List.getElem?_map, List.getElem?_map, List.getElem?_range hj]
      show some (h j) = some (if (j : Int) = i then d else h j)
      rw [if_neg (by omega)]
  · rw [List.getElem?_eq_none (by simpa using hj), List.getElem?_eq_none (by simpa using hj)]
theorem setD0 (k : Nat) (x d : D) (st : Sl) : setD (.va k x :: st) 0 d = .va k d :: st := id rfl
theorem setD0i (k : Nat) (x d : D) (st : Sl) : setD (.io k x :: st) 0 d = .io k d :: st := id rfl
theorem setDS (s : Slot) (st : Sl) (i : Nat) (d : D) : setD (s :: st) (i + 1) d = s :: setD st i d := by
  unfold setD
  show (match st[i]? with | some s' => (s :: st).set (i + 1) (putD d s') | none => s :: st) = s :: (match st[i]? with | some s' => st.set i (putD d s') | none => st)
  cases st[i]? <;> rfl
theorem sld_va (k : Nat) (d : D) : slD (some (.va k d)) = some (k, d) := id rfl
theorem sld_io (k : Nat) (d : D) : slD (some (.io k d)) = some (k, d) := id rfl
theorem ixN_nat {n : Nat} {i : Int} (h0 : 0 ≤ i) (h1 : i < n) : L2.ixN n i = some i.toNat := by
  unfold L2.ixN
  rw [if_pos (by omega), if_pos (by omega)]
def ofrz (i : Nat) (g : SM) (st : Sl) : Option Slot → Option Out
  | some (.va _ d) => g (st.set i (.va 0 d))
  | _ => none
theorem e_frz (i : Nat) (g : SM) (st : Sl) : sFrz i g st = ofrz i g st st[i]? := by unfold sFrz ofrz; rfl
theorem o_frz (i k : Nat) (g : SM) (st : Sl) (d : D) : ofrz i g st (some (.va k d)) = g (st.set i (.va 0 d)) := id rfl
def oapp (i k : Nat) (st : Sl) : Option (Nat × D) → Option D → Option Out
  | some (k', .lst ds), some d => if (k' == k + 1 && decide (ds.length < 16777216)) = true then some (.nx (setD st i (.lst (ds ++ [d])))) else none
  | _, _ => none
theorem e_app (i k : Nat) (f : EM) (st : Sl) : sApp i k f st = oapp i k st (slD st[i]?) (f st) := by
  unfold sApp
  cases slD st[i]? with
  | none => cases f st <;> rfl
  | some x =>
    obtain ⟨k', d⟩ := x
    cases d with
    | lst ds =>
      show (if _ then (f st).map _ else none) = oapp i k st _ (f st)
      cases f st with
      | none =>
        show (if _ then none else none) = _
        simp [oapp]
      | some d => rfl
    | _ => cases f st <;> rfl
theorem o_app (i k : Nat) (st : Sl) (ds : List D) (d : D) (h : ds.length < 16777216) : oapp i k st (some (k + 1, .lst ds)) (some d) = some (.nx (setD st i (.lst (ds ++ [d])))) := by
  show (if (k + 1 == k + 1 && decide (ds.length < 16777216)) = true then _ else _) = _
  rw [if_pos (by simp [h])]
def oappV (i k j : Nat) (st : Sl) : Option (Nat × D) → Option Slot → Option Out
  | some (k', .lst ds), some (.va k2 d) => if (decide (k' = k + 1) && decide (k2 = k) && decide (i ≠ j) && decide (ds.length < 16777216)) = true then some (.nx ((setD st i (.lst (ds ++ [d]))).set j .un)) else none
  | _, _ => none
theorem e_appV (i k j : Nat) (st : Sl) : sAppV i k j st = oappV i k j st (slD st[i]?) st[j]? := by
  unfold sAppV oappV
  rfl
theorem o_appV (i k j : Nat) (st : Sl) (ds : List D) (d : D) (h : ds.length < 16777216) (hij : i ≠ j) : oappV i k j st (some (k + 1, .lst ds)) (some (.va k d)) = some (.nx ((setD st i (.lst (ds ++ [d]))).set j .un)) := by
  show (if (decide (k + 1 = k + 1) && decide (k = k) && decide (i ≠ j) && decide (ds.length < 16777216)) = true then _ else _) = _
  rw [if_pos (by simp [h, hij])]
theorem e_sub_gen {i k n : Nat} {h : Int → D} {g f : EM} {st : Sl} {d : D} {a : Int} (hs : slD st[i]? = some (k + 1, genI n h)) (hf : f st = some d) (hg : g st = some (.int a)) (h0 : 0 ≤ a) (h1 : a < n) :
    sSub i k g f st = some (.nx (setD st i (genI n fun x => if x = a then d else h x))) := by
  unfold sSub
  rw [hs]
  show (if k + 1 = k + 1 then (f st).bind _ else none) = _
  rw [if_pos rfl, hf]
  show (g st).bind _ = _
  rw [hg]
  show (L2.ixN ((List.range n).map fun (i : Nat) => h (i : Int)).length a).map _ = _
  rw [List.length_map, List.length_range, ixN_nat h0 h1]
  show some (Out.nx (setD st i (.lst (((List.range n).map fun (i : Nat) => h (i : Int)).set a.toNat d)))) = _
  rw [gen_set]
  unfold genI
  rw [Int.toNat_of_nonneg h0]
theorem e_sub2_gen {i k n m : Nat} {T : Int → Int → D} {g h f : EM} {st : Sl} {d : D} {a b : Int} (hs : slD st[i]? = some (k + 2, genI n fun x => genI m (T x))) (hf : f st = some d) (hg : g st = some (.int a)) (hh : h st = some (.int b)) (h0 : 0 ≤ a) (h1 : a < n) (h2 : 0 ≤ b) (h3 : b < m) :
    sSub2 i k g h f st = some (.nx (setD st i (genI n fun x => genI m fun y => if x = a ∧ y = b then d else T x y))) := by
  unfold sSub2
  rw [hs]
  show (if k + 2 = k + 2 then (f st).bind _ else none) = _
  rw [if_pos rfl, hf]
  show (g st).bind _ = _
  rw [hg]
  show (h st).bind _ = _
  rw [hh]
  show (L2.ixN ((List.range n).map fun (i : Nat) => genI m (T (i : Int))).length a).bind _ = _
  rw [List.length_map, List.length_range, ixN_nat h0 h1]
  show (match ((List.range n).map fun (i : Nat) => genI m (T (i : Int)))[a.toNat]? with
      | some (.lst es) => (L2.ixN es.length b).map fun j' => Out.nx (setD st i (.lst (((List.range n).map fun (i : Nat) => genI m (T (i : Int))).set a.toNat (.lst (es.set j' d)))))
      | _ => none) = _
  rw [gen_get (h := fun x => genI m (T x)) (by omega)]
  show (L2.ixN ((List.range m).map fun (j : Nat) => T ((a.toNat : Nat) : Int) (j : Int)).length b).map _ = _
  rw [List.length_map, List.length_range, ixN_nat h2 h3]
  show some (Out.nx (setD st i (.lst (((List.range n).map fun (i : Nat) => genI m (T (i : Int))).set a.toNat (.lst (((List.range m).map fun (j : Nat) => T ((a.toNat : Nat) : Int) (j : Int)).set b.toNat d)))))) = _
  rw [gen_set (h := fun x => genI m (T x)), gen_set (h := fun y => T ((a.toNat : Nat) : Int) y)]
  congr 4
  apply List.map_congr_left
  intro x _
  show (if (x : Int) = ((a.toNat : Nat) : Int) then _ else _) = _
  rw [Int.toNat_of_nonneg h0, Int.toNat_of_nonneg h2]
  by_cases e : (x : Int) = a
  · rw [if_pos e]
    unfold genI
    congr 1
    apply List.map_congr_left
    intro y _
    by_cases e2 : (y : Int) = b
    · show _ = if (x : Int) = a ∧ (y : Int) = b then d else T x y
      rw [if_pos e2, if_pos ⟨e, e2⟩]
    · show _ = if (x : Int) = a ∧ (y : Int) = b then d else T x y
      rw [if_neg e2, if_neg fun z => e2 z.2, e]
  · rw [if_neg e]
    unfold genI
    congr 1
    apply List.map_congr_left
    intro y _
    show _ = if (x : Int) = a ∧ (y : Int) = b then d else T x y
    rw [if_neg fun z => e z.1]
theorem e_sub2_tab {i n : Nat} {T : Tb} {g h f : EM} {st : Sl} {v : Option Int} {a b : Int} (hs : slD st[i]? = some (2, tabD n T)) (hf : f st = some (oD v)) (hg : g st = some (.int a)) (hh : h st = some (.int b)) (h0 : 0 ≤ a) (h1 : a < n) (h2 : 0 ≤ b) (h3 : b < n) :
    sSub2 i 0 g h f st = some (.nx (setD st i (tabD n fun x y => if x = a ∧ y = b then v else T x y))) := by
  rw [e_sub2_gen (k := 0) (T := fun x y => oD (T x y)) hs hf hg hh h0 h1 h2 h3]
  congr 4
  funext x
  show genI n _ = genI n _
  congr 1
  funext y
  show (if x = a ∧ y = b then oD v else oD (T x y)) = oD (if x = a ∧ y = b then v else T x y)
  split <;> rfl
theorem cat_lst (a b : List Int) (h : a.length + b.length < 16777216) : mCat (lstI a) (lstI b) = some (lstI (a ++ b)) := by
  show (if lenOk ((a.map D.int).length + (b.map D.int).length) = true then _ else _) = _
  rw [if_pos (by unfold lenOk; rw [List.length_map, List.length_map]; exact decide_eq_true (by omega))]
  unfold lstI
  rw [List.map_append]
theorem catT_ints (a b : List Int) (h : a.length + b.length < 16777216) : mCatTA (tupI a) (tupI b) = some (tupI (a ++ b)) := by
  show (if lenOk ((a.map D.int).length + (b.map D.int).length) = true then _ else _) = _
  rw [if_pos (by unfold lenOk; rw [List.length_map, List.length_map]; exact decide_eq_true (by omega))]
  unfold tupI
  rw [List.map_append]
theorem slT_lo (pt : List Int) (k : Int) (h0 : 0 ≤ k) : mSlTA (tupI pt) none (some k) = some (tupI (pt.take k.toNat)) := by
  unfold tupI mSlTA cutG
  have e1 : HT.sIx (pt.map D.int).length 0 none = 0 := rfl
  have e2 : HT.sIx (pt.map D.int).length (pt.map D.int).length (some k) = min k.toNat (pt.map D.int).length := by
    show (if k < 0 then _ else min k.toNat (pt.map D.int).length) = _
    rw [if_neg (by omega)]
  simp only
  rw [e1, e2, List.drop_zero, Nat.sub_zero, List.map_take]
  congr 2
  rw [← List.take_take, List.take_length]
theorem slT_hi (pt : List Int) (k : Int) (h0 : 0 ≤ k) : mSlTA (tupI pt) (some k) none = some (tupI (pt.drop k.toNat)) := by
  unfold tupI mSlTA cutG
  have e1 : HT.sIx (pt.map D.int).length 0 (some k) = min k.toNat (pt.map D.int).length := by
    show (if k < 0 then _ else min k.toNat (pt.map D.int).length) = _
    rw [if_neg (by omega)]
  have e2 : HT.sIx (pt.map D.int).length (pt.map D.int).length none = (pt.map D.int).length := rfl
  simp only
  rw [e1, e2, List.map_drop]
  congr 2
  rw [List.take_of_length_le (by rw [List.length_drop]; exact Nat.le_refl _)]
  by_cases h : k.toNat ≤ (pt.map D.int).length
  · rw [Nat.min_eq_left h]
  · rw [Nat.min_eq_right (by omega), List.drop_length, List.drop_eq_nil_of_le (by omega)]
theorem e_appN_tab {i n : Nat} {T : Tb} {g f : EM} {st : Sl} {d : D} {a : Int} (hs : slD st[i]? = some (2, tabD n T)) (hf : f st = some d) (hg : g st = some (.int a)) (h0 : 0 ≤ a) (h1 : a < n) (hn : n < 1000000) : ∃ d', sAppN i g f st = some (.nx (setD st i d')) := by
  unfold sAppN
  rw [hs]
  show ∃ d', (if 2 = 2 then (g st).bind _ else none) = _
  rw [if_pos rfl, hg]
  show ∃ d', (f st).bind _ = _
  rw [hf]
  show ∃ d', (L2.ixN ((List.range n).map fun (i : Nat) => lineD n (T (i : Int))).length a).bind _ = _
  rw [List.length_map, List.length_range, ixN_nat h0 h1]
  show ∃ d', (match ((List.range n).map fun (i : Nat) => lineD n (T (i : Int)))[a.toNat]? with
      | some (.lst es) => if decide (es.length < 16777216) = true then some (Out.nx (setD st i (.lst (((List.range n).map fun (i : Nat) => lineD n (T (i : Int))).set a.toNat (.lst (es ++ [d])))))) else none
      | _ => none) = _
  rw [gen_get (h := fun x => lineD n (T x)) (by omega)]
  show ∃ d', (if decide (((List.range n).map fun (j : Nat) => oD (T ((a.toNat : Nat) : Int) (j : Int))).length < 16777216) = true then _ else none) = _
  rw [if_pos (by rw [List.length_map, List.length_range]; exact decide_eq_true (by omega))]
  exact ⟨_, rfl⟩
/-- a slot that may be unset -/
def vS : Option D → Slot
  | none => .un
  | some d => .va 0 d
theorem isva_vS (o : Option D) : isVa (some (vS o)) = true := by cases o <;> rfl
theorem isv0_vS (o : Option D) : isV0 (some (vS o)) = true := by cases o <;> rfl
/-! ### calls that change lists -/
theorem e_aio {j k : Nat} {g : AM} {st : Sl} {d : D} {ds : List D} (h : slD st[j]? = some (k, d)) (hg : g st = some ds) : aIo j k g st = some (d :: ds) := by
  unfold aIo
  rw [h]
  show (if k = k then (g st).map (d :: ·) else none) = _
  rw [if_pos rfl, hg]; rfl
theorem e_xcall {sp : Src} {kr : Nat} {m : List D → Option (D × List D)} {fa : AM} {st : Sl} {ds ds' : List D} {d : D} (h1 : fa st = some ds) (h2 : m ds = some (d, ds')) (h3 : full d kr = true) (h4 : fullIO sp ds' = true) : xCall sp kr m fa st = some (d, putS sp ds' st) := by
  unfold xCall
  rw [h1]
  show (match m ds with | some (d, ds') => _ | none => none) = _
  rw [h2]
  show (if (full d kr && fullIO sp ds') = true then _ else _) = _
  rw [if_pos (by rw [h3, h4]; rfl)]
theorem e_sx {f : XM} {st st' : Sl} {d : D} (h : f st = some (d, st')) : sX f st = some (.nx st') := by unfold sX; rw [h]; rfl
theorem e_setx {f : XM} {st st' : Sl} {d : D} {i k : Nat} (h : f st = some (d, st')) (h2 : isVa st'[i]? = true) : sSetX i k f st = some (.nx (st'.set i (.va k d))) := by
  unfold sSetX
  rw [h]
  show (if isVa st'[i]? = true then _ else _) = _
  rw [if_pos h2]
theorem e_retx {f : XM} {st st' : Sl} {d : D} (h : f st = some (d, st')) : sRetX f st = some (.rt d st') := by unfold sRetX; rw [h]; rfl
theorem e_retv (k i : Nat) (st : Sl) (d : D) (h : st[i]? = some (.va k d)) : sRetV k i st = some (.rt d (st.set i .un)) := by
  unfold sRetV
  rw [h]
  show (if k = k then _ else _) = _
  rw [if_pos rfl]
theorem e_runIO_n {n : Nat} {io : Io} {g : SM} {ds ds' : List D} {st : Sl} (h : g (ioStart io ds ++ List.replicate (n - ds.length) .un) = some (.nx st)) (h2 : ioEnd io st = some ds') : fnRunIO n io g ds = some (.non, ds') := by
  unfold fnRunIO
  rw [h]
  show (ioEnd io st).map _ = _
  rw [h2]; rfl
theorem e_runIO_r {n : Nat} {io : Io} {g : SM} {ds ds' : List D} {d : D} {st : Sl} (h : g (ioStart io ds ++ List.replicate (n - ds.length) .un) = some (.rt d st)) (h2 : ioEnd io st = some ds') : fnRunIO n io g ds = some (d, ds') := by
  unfold fnRunIO
  rw [h]
  show (ioEnd io st).map _ = _
  rw [h2]; rfl
/-! ### loops that may hand back -/
theorem forL_find {α : Type} {m : GM} {b : SM} (P : Sl → Prop) (enc : α → D) (p : α → Bool) (r : α → D) : ∀ (l : List α) (_ : ∀ x ∈ l, ∀ st, P st → if p x = true then ∃ st', obody b (m (enc x) st) = some (.rt (r x) st') else ∃ st', obody b (m (enc x) st) = some (.nx st') ∧ P st') (st : Sl), P st →
    match l.find? p with
    | some x => ∃ st', forL m b (l.map enc) st = some (.rt (r x) st')
    | none => ∃ st', forL m b (l.map enc) st = some (.nx st') ∧ P st'
  | [], _, st, hp => ⟨st, rfl, hp⟩
  | x :: l, h, st, hp => by
    have h1 := h x List.mem_cons_self st hp
    cases e : p x with
    | true =>
      rw [if_pos e] at h1
      obtain ⟨st', h1⟩ := h1
      rw [List.find?_cons_of_pos e]
      refine ⟨st', ?_⟩
      rw [List.map_cons, forL_cons, h1]; rfl
    | false =>
      rw [if_neg (by rw [e]; decide)] at h1
      obtain ⟨st', h1, hp'⟩ := h1
      rw [List.find?_cons_of_neg (by rw [e]; decide)]
      have ih := forL_find P enc p r l (fun y hy => h y (List.mem_cons_of_mem _ hy)) st' hp'
      have e2 : forL m b ((x :: l).map enc) st = forL m b (l.map enc) st' := by rw [List.map_cons, forL_cons, h1]; rfl
      rw [e2]
      exact ih
/-- every item passes, or one hands back d -/
theorem forL_all {α : Type} {m : GM} {b : SM} (P : Sl → Prop) (enc : α → D) (p : α → Bool) (d : D) (l : List α) (h : ∀ x ∈ l, ∀ st, P st → if p x = true then ∃ st', obody b (m (enc x) st) = some (.nx st') ∧ P st' else ∃ st', obody b (m (enc x) st) = some (.rt d st')) (st : Sl) (hp : P st) :
    if l.all p = true then ∃ st', forL m b (l.map enc) st = some (.nx st') ∧ P st' else ∃ st', forL m b (l.map enc) st = some (.rt d st') := by
  have := forL_find P enc (fun x => !p x) (fun _ => d) l (fun x hx st hp => by
    have := h x hx st hp
    cases e : p x with
    | true => rw [e] at this; exact this
    | false => rw [e] at this; exact this) st hp
  cases e : l.find? fun x => !p x with
  | none =>
    rw [e] at this
    rw [if_pos (List.all_eq_true.mpr fun x hx => by simpa using List.find?_eq_none.mp e x hx)]
    exact this
  | some x =>
    rw [e] at this
    rw [if_neg fun z => by
      have h1 := List.find?_some e
      have h2 := List.all_eq_true.mp z x (List.mem_of_find?_eq_some e)
      rw [h2] at h1; cases h1]
    exact this
theorem oDs (i : Int) : oD (some i) = .int i := id rfl
theorem oDn : oD none = .non := id rfl
theorem slF_scr (ns : List Int) (lo hi : Option Int) : mSlF (.scr ns) lo hi = some (lstI (cutG ns lo hi)) := id rfl
theorem slL_scr (ns : List Int) (lo hi : Option Int) : mSlL (.scr ns) lo hi = some (lstI (cutG ns lo hi)) := id rfl
theorem itsS_ints (l : List Int) : itsS (lstI l) = some (l.map D.int) := id rfl
theorem cut_le {α : Type} (ns : List α) (lo hi : Option Int) : (cutG ns lo hi).length ≤ ns.length := by
  unfold cutG
  rw [List.length_take, List.length_drop]
  omega
theorem len_intsL (l : List Int) : mLen [lstI l] = some (.int l.length) := by unfold lstI; rw [len_lst, List.length_map]
theorem ix_intsL (l : List Int) (i : Int) (h0 : 0 ≤ i) (h1 : i < l.length) : mIx (lstI l) (.int i) = some (.int (l.getD i.toNat 0)) := by
  unfold lstI
  refine ix_lst _ _ _ h0 ?_
  rw [List.getElem?_map, List.getD_eq_getElem?_getD, List.getElem?_eq_getElem (by omega)]; rfl
theorem chk_intsL (l : List Int) (k : Nat) : chk (k + 1) (lstI l) = some (lstI l) := by
  unfold chk
  rw [if_pos (show full (lstI l) (k + 1) = true from fullL_ints l k)]
def othaw (i k : Nat) (f : EM) (st : Sl) : Option Slot → Option D
  | some (.va _ d) => ob1 (chk k) (f (st.set i (.va 0 d)))
  | _ => none
theorem e_thaw (i k : Nat) (f : EM) (st : Sl) : eThaw i k f st = othaw i k f st st[i]? := by
  unfold eThaw othaw
  cases st[i]? with
  | none => rfl
  | some s =>
    cases s with
    | va k' d => show (f (st.set i (.va 0 d))).bind (chk k) = ob1 (chk k) (f (st.set i (.va 0 d))); cases f (st.set i (.va 0 d)) <;> rfl
    | _ => rfl
theorem o_thaw (i k k' : Nat) (f : EM) (st : Sl) (d : D) : othaw i k f st (some (.va k' d)) = ob1 (chk k) (f (st.set i (.va 0 d))) := id rfl
def oretv (k i : Nat) (st : Sl) : Option Slot → Option Out
  | some (.va k' d) => if k' = k then some (.rt d (st.set i .un)) else none
  | _ => none
theorem e_retV (k i : Nat) (st : Sl) : sRetV k i st = oretv k i st st[i]? := by unfold sRetV oretv; rfl
theorem o_retV (k i : Nat) (st : Sl) (d : D) : oretv k i st (some (.va k d)) = some (.rt d (st.set i .un)) := by
  show (if k = k then _ else _) = _
  rw [if_pos rfl]
theorem range_split {n : Nat} {pre post : List Nat} {x : Nat} (e : List.range n = pre ++ x :: post) : x = pre.length ∧ x < n ∧ pre = List.range x := by
  have h1 : pre.length < n := by
    have := congrArg List.length e
    simp at this; omega
  have h2 : x = pre.length := by
    have := congrArg (·[pre.length]?) e
    simp [List.getElem?_range h1] at this
    omega
  refine ⟨h2, by omega, ?_⟩
  have := congrArg (List.take pre.length) e
  rw [List.take_left, List.take_range, Nat.min_eq_left (by omega)] at this
  rw [h2, this]
theorem itsS_tab (n : Nat) (T : Tb) : itsS (tabD n T) = some ((List.range n).map fun (i : Nat) => lineD n (T i)) := id rfl
theorem itsS_line (n : Nat) (L : Int → Option Int) : itsS (lineD n L) = some ((List.range n).map fun (i : Nat) => oD (L i)) := id rfl
theorem e_sub_line {i n : Nat} {L : Int → Option Int} {g f : EM} {st : Sl} {v : Option Int} {a : Int} (hs : slD st[i]? = some (1, lineD n L)) (hf : f st = some (oD v)) (hg : g st = some (.int a)) (h0 : 0 ≤ a) (h1 : a < n) :
    sSub i 0 g f st = some (.nx (setD st i (lineD n fun x => if x = a then v else L x))) := by
  rw [e_sub_gen (k := 0) (h := fun x => oD (L x)) hs hf hg h0 h1]
  congr 3
  show genI n _ = genI n _
  congr 1
  funext x
  show (if x = a then oD v else oD (L x)) = oD (if x = a then v else L x)
  split <;> rfl
theorem itsS_lst (ds : List D) : itsS (.lst ds) = some ds := id rfl
theorem itsS_tup (ds : List D) : itsS (.tup ds) = some ds := id rfl
theorem full_gen {n k : Nat} {h : Int → D} (e : ∀ i : Int, 0 ≤ i → i < n → full (h i) k = true) : full (genI n h) (k + 1) = true := by
  unfold genI
  rw [f_lst]
  refine fullL_of fun d hd => ?_
  obtain ⟨i, hi, rfl⟩ := List.mem_map.mp hd
  have := List.mem_range.mp hi
  exact e i (by omega) (by omega)
theorem full_line {n k : Nat} {L : Int → Option Int} : full (lineD n L) (k + 1) = true := full_gen fun _ _ _ => full_o k _
theorem full_tab {n k : Nat} {T : Tb} : full (tabD n T) (k + 2) = true := full_gen fun _ _ _ => full_line
theorem ok_gen {n k : Nat} {h : Int → D} (e : ∀ i : Int, okD k (h i)) : okD (k + 1) (genI n h) := ok_lst fun d hd => by
  obtain ⟨i, hi, rfl⟩ := List.mem_map.mp hd
  exact e i
theorem ok_line {n : Nat} {L : Int → Option Int} : okD 1 (lineD n L) := ok_gen fun _ => ok_o 0 _
theorem ok_tab {n : Nat} {T : Tb} : okD 2 (tabD n T) := ok_gen fun _ => ok_line
theorem nob_gen {n : Nat} {h : Int → D} (e : ∀ i : Int, nob (h i) = true) : nob (genI n h) = true := nobL_of fun d hd => by
  obtain ⟨i, hi, rfl⟩ := List.mem_map.mp hd
  exact e i
theorem nob_line {n : Nat} {L : Int → Option Int} : nob (lineD n L) = true := nob_gen fun _ => nob_o _
theorem nob_tab {n : Nat} {T : Tb} : nob (tabD n T) = true := nob_gen fun _ => nob_line
theorem chk_tab (n k : Nat) (T : Tb) : chk (k + 2) (tabD n T) = some (tabD n T) := by unfold chk; rw [if_pos full_tab]
theorem chk_line (n k : Nat) (T : Int → Option Int) : chk (k + 1) (lineD n T) = some (lineD n T) := by unfold chk; rw [if_pos full_line]
theorem listF_line (n : Nat) (L : Int → Option Int) : mListF (lineD n L) = some (lineD n L) := by
  show chkL (lineD n L) = _
  unfold lineD genI
  show (if fullL _ 0 = true then _ else _) = _
  rw [if_pos (fullL_of fun d hd => by
    obtain ⟨i, hi, rfl⟩ := List.mem_map.mp hd
    exact full_o 0 _)]
theorem listF_ints (l : List Int) : mListF (lstI l) = some (lstI l) := by
  show chkL (lstI l) = _
  unfold lstI
  show (if fullL _ 0 = true then _ else _) = _
  rw [if_pos (fullL_ints l 0)]
theorem ok_ints {l : List Int} : okD 1 (lstI l) := ok_lst fun d hd => by
  obtain ⟨i, hi, rfl⟩ := List.mem_map.mp hd
  exact ok_int 0 i
theorem nob_ints {l : List Int} : nob (lstI l) = true := nobL_of fun d hd => by
  obtain ⟨i, hi, rfl⟩ := List.mem_map.mp hd
  rfl
theorem isi_ln (n : Nat) (L : Int → Option Int) : oisi "list" (some (lineD n L)) = some (.bl true) := id rfl
theorem isi_tb (n : Nat) (T : Tb) : oisi "list" (some (tabD n T)) = some (.bl true) := id rfl
theorem isN_tb (n : Nat) (T : Tb) : mIsN (tabD n T) .non = some (.bl false) := id rfl
theorem notN_tb (n : Nat) (T : Tb) : mNotN (tabD n T) .non = some (.bl true) := id rfl
theorem isB_bb (a b : Bool) : mIsB (.bl a) (.bl b) = some (.bl (decide (a = b))) := id rfl
theorem notB_bb (a b : Bool) : mNotB (.bl a) (.bl b) = some (.bl (!decide (a = b))) := id rfl
theorem oval_i (a : Bool) : oval (some (.bl a)) = some a := id rfl
/-- a slot of level k that may be unset -/
def vK (k : Nat) : Option D → Slot
  | none => .un
  | some d => .va k d
theorem isva_vK (k : Nat) (o : Option D) : isVa (some (vK k o)) = true := by cases o <;> rfl
theorem e_appN_lst {i : Nat} {ds es : List D} {g f : EM} {st : Sl} {d : D} {a : Nat} (hs : slD st[i]? = some (2, .lst ds)) (hf : f st = some d) (hg : g st = some (.int a)) (hd : ds[a]? = some (.lst es)) (hn : es.length < 16777216) :
    sAppN i g f st = some (.nx (setD st i (.lst (ds.set a (.lst (es ++ [d])))))) := by
  unfold sAppN
  rw [hs]
  show (if 2 = 2 then (g st).bind _ else none) = _
  rw [if_pos rfl, hg]
  show (f st).bind _ = _
  rw [hf]
  have h1 : a < ds.length := (List.getElem?_eq_some_iff.mp hd).1
  show (L2.ixN ds.length a).bind _ = _
  rw [ixN_nat (by omega) (by omega)]
  show (match ds[(a : Int).toNat]? with
      | some (.lst es) => if decide (es.length < 16777216) = true then some (Out.nx (setD st i (.lst (ds.set (a : Int).toNat (.lst (es ++ [d])))))) else none
      | _ => none) = _
  rw [Int.toNat_natCast, hd]
  show (if decide (es.length < 16777216) = true then _ else none) = _
  rw [if_pos (decide_eq_true hn)]
theorem o_appI (i : Nat) (st : Sl) (l : List Int) (x : Int) (h : l.length < 16777216) : oapp i 0 st (some (1, lstI l)) (some (.int x)) = some (.nx (setD st i (lstI (l ++ [x])))) := by
  unfold lstI
  rw [o_app i 0 st (l.map D.int) (.int x) (by rw [List.length_map]; exact h), List.map_append]; rfl
theorem bq_tt : (true == true) = true := id rfl
theorem bq_ff : (false == false) = true := id rfl
theorem bq_tf : (true == false) = false := id rfl
theorem bq_ft : (false == true) = false := id rfl
theorem max2_ex (i j : Int) : ∃ m, mMax2 [.int i, .int j] = some (.int m) ∧ i ≤ m ∧ j ≤ m := ⟨if j > i then j else i, rfl, by split <;> omega, by split <;> omega⟩
theorem min2_ex (i j : Int) : ∃ m, mMin2 [.int i, .int j] = some (.int m) ∧ m ≤ i ∧ m ≤ j := ⟨if j < i then j else i, rfl, by split <;> omega, by split <;> omega⟩
theorem o_app1 (i k : Nat) (st : Sl) (a d : D) : oapp i k st (some (k + 1, .lst [a])) (some d) = some (.nx (setD st i (.lst [a, d]))) := o_app i k st [a] d (by show 1 < _; omega)
theorem o_app2 (i k : Nat) (st : Sl) (a b d : D) : oapp i k st (some (k + 1, .lst [a, b])) (some d) = some (.nx (setD st i (.lst [a, b, d]))) := o_app i k st [a, b] d (by show 2 < _; omega)
theorem o_app3 (i k : Nat) (st : Sl) (a b c d : D) : oapp i k st (some (k + 1, .lst [a, b, c])) (some d) = some (.nx (setD st i (.lst [a, b, c, d]))) := o_app i k st [a, b, c] d (by show 3 < _; omega)
theorem o_app4 (i k : Nat) (st : Sl) (a b c e d : D) : oapp i k st (some (k + 1, .lst [a, b, c, e])) (some d) = some (.nx (setD st i (.lst [a, b, c, e, d]))) := o_app i k st [a, b, c, e] d (by show 4 < _; omega)
theorem o_lst6 (x0 x1 x2 x3 x4 x5 : D) : olst (some [x0, x1, x2, x3, x4, x5]) = some (.lst [x0, x1, x2, x3, x4, x5]) := id rfl
theorem o_lst7 (x0 x1 x2 x3 x4 x5 x6 : D) : olst (some [x0, x1, x2, x3, x4, x5, x6]) = some (.lst [x0, x1, x2, x3, x4, x5, x6]) := id rfl
theorem o_lst9 (x0 x1 x2 x3 x4 x5 x6 x7 x8 : D) : olst (some [x0, x1, x2, x3, x4, x5, x6, x7, x8]) = some (.lst [x0, x1, x2, x3, x4, x5, x6, x7, x8]) := id rfl
theorem o_lst10 (x0 x1 x2 x3 x4 x5 x6 x7 x8 x9 : D) : olst (some [x0, x1, x2, x3, x4, x5, x6, x7, x8, x9]) = some (.lst [x0, x1, x2, x3, x4, x5, x6, x7, x8, x9]) := id rfl
theorem o_lst11 (x0 x1 x2 x3 x4 x5 x6 x7 x8 x9 x10 : D) : olst (some [x0, x1, x2, x3, x4, x5, x6, x7, x8, x9, x10]) = some (.lst [x0, x1, x2, x3, x4, x5, x6, x7, x8, x9, x10]) := id rfl
theorem o_lst12 (x0 x1 x2 x3 x4 x5 x6 x7 x8 x9 x10 x11 : D) : olst (some [x0, x1, x2, x3, x4, x5, x6, x7, x8, x9, x10, x11]) = some (.lst [x0, x1, x2, x3, x4, x5, x6, x7, x8, x9, x10, x11]) := id rfl
theorem o_lst16 (x0 x1 x2 x3 x4 x5 x6 x7 x8 x9 x10 x11 x12 x13 x14 x15 : D) : olst (some [x0, x1, x2, x3, x4, x5, x6, x7, x8, x9, x10, x11, x12, x13, x14, x15]) = some (.lst [x0, x1, x2, x3, x4, x5, x6, x7, x8, x9, x10, x11, x12, x13, x14, x15]) := id rfl
theorem o_tup6 (x0 x1 x2 x3 x4 x5 : D) : otup (some [x0, x1, x2, x3, x4, x5]) = some (.tup [x0, x1, x2, x3, x4, x5]) := id rfl
theorem o_tup7 (x0 x1 x2 x3 x4 x5 x6 : D) : otup (some [x0, x1, x2, x3, x4, x5, x6]) = some (.tup [x0, x1, x2, x3, x4, x5, x6]) := id rfl
theorem o_tup8 (x0 x1 x2 x3 x4 x5 x6 x7 : D) : otup (some [x0, x1, x2, x3, x4, x5, x6, x7]) = some (.tup [x0, x1, x2, x3, x4, x5, x6, x7]) := id rfl
/-- every item passes and leaves R, or one hands back what has Q -/
theorem forL_or {α : Type} {m : GM} {b : SM} (P : Sl → Prop) (R : α → Prop) (Q : D → Prop) (enc : α → D) : ∀ (l : List α) (_ : ∀ x ∈ l, ∀ st, P st → (∃ st', obody b (m (enc x) st) = some (.nx st') ∧ P st' ∧ R x) ∨ ∃ d st', obody b (m (enc x) st) = some (.rt d st') ∧ Q d) (st : Sl), P st →
    (∃ st', forL m b (l.map enc) st = some (.nx st') ∧ P st' ∧ ∀ x ∈ l, R x) ∨ ∃ d st', forL m b (l.map enc) st = some (.rt d st') ∧ Q d
  | [], _, st, hp => .inl ⟨st, rfl, hp, fun x hx => (by cases hx)⟩
  | x :: l, h, st, hp => by
    rcases h x List.mem_cons_self st hp with ⟨st1, e1, p1, r1⟩ | ⟨d, st1, e1, q1⟩
    · rcases forL_or P R Q enc l (fun y hy => h y (List.mem_cons_of_mem _ hy)) st1 p1 with ⟨st2, e2, p2, r2⟩ | ⟨d, st2, e2, q2⟩
      · refine .inl ⟨st2, ?_, p2, fun y hy => ?_⟩
        · rw [List.map_cons, forL_cons, e1]; exact e2
        · rcases List.mem_cons.mp hy with rfl | hy
          · exact r1
          · exact r2 y hy
      · refine .inr ⟨d, st2, ?_, q2⟩
        rw [List.map_cons, forL_cons, e1]; exact e2
    · refine .inr ⟨d, st1, ?_, q1⟩
      rw [List.map_cons, forL_cons, e1]; rfl
theorem e_clrN_tab {i n : Nat} {T : Tb} {g : EM} {st : Sl} {a : Int} (hs : slD st[i]? = some (2, tabD n T)) (hg : g st = some (.int a)) (h0 : 0 ≤ a) (h1 : a < n) : sClrN i g st = some (.nx (setD st i (.lst ((((List.range n).map fun (i : Nat) => lineD n (T (i : Int))).set a.toNat (.lst [])))))) := by
  unfold sClrN
  rw [hs]
  show (if 2 = 2 then (g st).bind _ else none) = _
  rw [if_pos rfl, hg]
  show (L2.ixN ((List.range n).map fun (i : Nat) => lineD n (T (i : Int))).length a).bind _ = _
  rw [List.length_map, List.length_range, ixN_nat h0 h1]
  show (match ((List.range n).map fun (i : Nat) => lineD n (T (i : Int)))[a.toNat]? with
      | some (.lst _) => some (Out.nx (setD st i (.lst (((List.range n).map fun (i : Nat) => lineD n (T (i : Int))).set a.toNat (.lst [])))))
      | _ => none) = _
  rw [gen_get (h := fun x => lineD n (T x)) (by omega)]
  rfl
def oxc (sp : Src) (kr : Nat) (st : Sl) : Option (D × List D) → Option (D × Sl)
  | some (d, ds') => if (full d kr && fullIO sp ds') = true then some (d, putS sp ds' st) else none
  | none => none
theorem e_xC (sp : Src) (kr : Nat) (m : List D → Option (D × List D)) (fa : AM) (st : Sl) : xCall sp kr m fa st = oxc sp kr st (ob1 m (fa st)) := by
  unfold xCall
  cases fa st with
  | none => rfl
  | some ds =>
    show (match m ds with | some (d, ds') => _ | none => none) = oxc sp kr st (m ds)
    cases m ds with
    | none => rfl
    | some r => rfl
theorem o_xc_t (j n : Nat) (T : Tb) (st : Sl) : oxc [some (j, 2), none, none, none] 0 st (some (.non, [tabD n T])) = some (.non, setD st j (tabD n T)) := by
  show (if (full D.non 0 && (full (tabD n T) 2 && true)) = true then _ else _) = _
  rw [full_tab]; rfl
def oaio (k : Nat) : Option (Nat × D) → Option (List D) → Option (List D)
  | some (k', d), some ds => if k' = k then some (d :: ds) else none
  | _, _ => none
theorem e_aIo (j k : Nat) (g : AM) (st : Sl) : aIo j k g st = oaio k (slD st[j]?) (g st) := by
  unfold aIo oaio
  cases slD st[j]? with
  | none => cases g st <;> rfl
  | some r =>
    obtain ⟨k', d⟩ := r
    cases g st with
    | none => show (if k' = k then none else none) = none; split <;> rfl
    | some ds => rfl
theorem o_aio (k : Nat) (d : D) (ds : List D) : oaio k (some (k, d)) (some ds) = some (d :: ds) := if_pos rfl
def osx : Option (D × Sl) → Option Out
  | some (_, st') => some (.nx st')
  | none => none
theorem e_sX (f : XM) (st : Sl) : sX f st = osx (f st) := by unfold sX; cases f st <;> rfl
theorem o_sx (d : D) (st : Sl) : osx (some (d, st)) = some (.nx st) := id rfl
def oretx : Option (D × Sl) → Option Out
  | some (d, st') => some (.rt d st')
  | none => none
theorem e_retX (f : XM) (st : Sl) : sRetX f st = oretx (f st) := by unfold sRetX; cases f st <;> rfl
theorem o_retx (d : D) (st : Sl) : oretx (some (d, st)) = some (.rt d st) := id rfl
def otupv (i k : Nat) (st : Sl) : Option Slot → Option (List D) → Option (D × Sl)
  | some (.va k' d), some ds => if k' = k then (if (fullL ds 0 && lenOk (ds.length + 1)) = true then some (.tup (d :: ds), st.set i .un) else none) else none
  | _, _ => none
theorem e_tupV (i k : Nat) (fa : AM) (st : Sl) : xTupV i k fa st = otupv i k st st[i]? (fa (st.set i .un)) := by
  unfold xTupV otupv
  cases st[i]? with
  | none => rfl
  | some s =>
    cases s with
    | va k' d =>
      cases fa (st.set i .un) with
      | none => show (if k' = k then none else none) = none; split <;> rfl
      | some ds => rfl
    | _ => rfl
theorem o_tupV1 (i k : Nat) (st : Sl) (d : D) (x : Int) : otupv i k st (some (.va k d)) (some [.int x]) = some (.tup [d, .int x], st.set i .un) := if_pos rfl
theorem g_tp2 (i j : Nat) (a b : D) (st : Sl) : gTp 2 (gsCons (gNm i) (gsCons (gNm j) gsNil)) (.tup [a, b]) st = (gNm i a st).bind fun st' => (gNm j b st').bind fun st'' => some st'' := id rfl
theorem bnd {α β : Type} (x : α) (f : α → Option β) : (some x).bind f = f x := id rfl
end FL
namespace FL
open PySem PySem.Spec PyProof.Rows
/-! ### instances -/
def ometh (m : D → List D → Option D) (a : Option D) (b : Option (List D)) : Option D := a.bind fun d => b.bind fun as => m d as
theorem e_meth (m : D → List D → Option D) (f : EM) (fa : AM) (st : Sl) : eMeth m f fa st = ometh m (f st) (fa st) := id rfl
theorem e_methO (k : Nat) (m : D → List D → Option D) (f : EM) (fa : AM) (st : Sl) : eMethO k m f fa st = ob1 (chk k) (ometh m (f st) (fa st)) := by
  show (ometh m (f st) (fa st)).bind (chk k) = _
  cases ometh m (f st) (fa st) <;> rfl
theorem o_meth (m : D → List D → Option D) (d : D) (as : List D) : ometh m (some d) (some as) = m d as := id rfl
def omk (C : Str) (nm : List Str) (a : Option (List D)) : Option D := a.bind fun ds => if (immN nm && fullL ds 0 && ds.length == nm.length) = true then some (.ob C nm ds) else none
theorem e_mk (C : Str) (nm : List Str) (f : AM) (st : Sl) : eMk C nm f st = omk C nm (f st) := id rfl
theorem o_mk (C : Str) (nm : List Str) (ds : List D) (h : (immN nm && fullL ds 0 && ds.length == nm.length) = true) : omk C nm (some ds) = some (.ob C nm ds) := by
  unfold omk
  show (if _ then _ else _) = _
  rw [if_pos h]
theorem ix_map {α : Type} (f : α → D) (l : List α) (i : Nat) {a : α} (h : l[i]? = some a) : mIx (.lst (l.map f)) (.int i) = some (f a) :=
  ix_lst _ _ _ (by omega) (by rw [Int.toNat_natCast, List.getElem?_map, h]; rfl)
theorem zipD_map {α : Type} (f g : α → D) : ∀ l : List α, zipD (l.map f) (l.map g) = l.map fun i => .tup [f i, g i]
  | [] => rfl
  | x :: l => by rw [List.map_cons, List.map_cons, List.map_cons, ← zipD_map f g l]; rfl
theorem zip_map {α : Type} (f g : α → D) (l : List α) : mZip (.lst (l.map f)) (.lst (l.map g)) = some (l.map fun i => .tup [f i, g i]) := by
  show some (zipD _ _) = _
  rw [zipD_map]
theorem zip_line (n : Nat) (L M : Int → Option Int) : mZip (lineD n L) (lineD n M) = some ((List.range n).map fun (i : Nat) => .tup [oD (L i), oD (M i)]) := zip_map _ _ _
theorem zip_tab (n : Nat) (T U : Tb) : mZip (tabD n T) (tabD n U) = some ((List.range n).map fun (i : Nat) => .tup [lineD n (T i), lineD n (U i)]) := zip_map _ _ _
end FL
namespace FL
open PySem PySem.Spec PyProof.Rows
def ochain (m m' : D → D → Option D) (x y z : Option D) : Option D := x.bind fun x => y.bind fun y => (m x y).bind fun b => match b with
  | .bl true => z.bind fun w => m' y w
  | .bl false => some (.bl false)
  | _ => none
theorem e_chain (m m' : D → D → Option D) (f g h : EM) (st : Sl) : eChain m m' f g h st = ochain m m' (f st) (g st) (h st) := id rfl
theorem o_chain_lt (a b c : Int) : ochain mLt mLt (some (.int a)) (some (.int b)) (some (.int c)) = some (.bl (decide (a < b) && decide (b < c))) := by
  show (match D.bl (decide (a < b)) with
    | .bl true => mLt (.int b) (.int c)
    | .bl false => some (.bl false)
    | _ => none) = _
  cases decide (a < b) <;> rfl
end FL
namespace FL
open PySem PySem.Spec PyProof.Rows
def otup2v (i j k : Nat) (st : Sl) : Option Slot → Option Slot → Option (D × Sl)
  | some (.va k1 d1), some (.va k2 d2) => if k1 = k ∧ k2 = k ∧ i ≠ j then some (.tup [d1, d2], (st.set i .un).set j .un) else none
  | _, _ => none
theorem e_tup2V (i j k : Nat) (st : Sl) : xTup2 i j k st = otup2v i j k st st[i]? st[j]? := by
  unfold xTup2 otup2v; rfl
theorem o_tup2V (i j k : Nat) (st : Sl) (a b : D) (h : i ≠ j) : otup2v i j k st (some (.va k a)) (some (.va k b)) = some (.tup [a, b], (st.set i .un).set j .un) := if_pos ⟨rfl, rfl, h⟩
end FL
namespace FL
open PySem PySem.Spec PyProof.Rows
/-! ### effects -/
def omp {α : Type} (st : Sl) : Option α → Option (α × Sl)
  | some d => some (d, st)
  | none => none
theorem o_mp {α : Type} (st : Sl) (d : α) : omp st (some d) = some (d, st) := id rfl
theorem e_xOf (f : EM) (st : Sl) : xOf f st = omp st (f st) := by unfold xOf; cases f st <;> rfl
theorem e_yOf (f : TM) (st : Sl) : yOf f st = omp st (f st) := by unfold yOf; cases f st <;> rfl
def oone {α γ : Type} (m : α → Option γ) : Option (α × Sl) → Option (γ × Sl)
  | some (x, st) => omp st (m x)
  | none => none
theorem e_xOne {α γ : Type} (m : α → Option γ) (f : Sl → Option (α × Sl)) (st : Sl) : xOne m f st = oone m (f st) := by
  unfold xOne
  cases f st with
  | none => rfl
  | some r => show (m r.1).map _ = omp r.2 (m r.1); cases m r.1 <;> rfl
theorem o_one {α γ : Type} (m : α → Option γ) (x : α) (st : Sl) : oone m (some (x, st)) = omp st (m x) := id rfl
def otwo2 {α β γ : Type} (m : α → β → Option γ) (x : α) : Option (β × Sl) → Option (γ × Sl)
  | some (y, st) => omp st (m x y)
  | none => none
def otwo {α β γ : Type} (m : α → β → Option γ) (g : Sl → Option (β × Sl)) : Option (α × Sl) → Option (γ × Sl)
  | some (x, st) => otwo2 m x (g st)
  | none => none
theorem e_xTwo {α β γ : Type} (m : α → β → Option γ) (f : Sl → Option (α × Sl)) (g : Sl → Option (β × Sl)) (st : Sl) : xTwo m f g st = otwo m g (f st) := by
  unfold xTwo
  cases f st with
  | none => rfl
  | some r =>
    show (g r.2).bind _ = otwo2 m r.1 (g r.2)
    cases g r.2 with
    | none => rfl
    | some s => show (m r.1 s.1).map _ = omp s.2 (m r.1 s.1); cases m r.1 s.1 <;> rfl
theorem o_two {α β γ : Type} (m : α → β → Option γ) (g : Sl → Option (β × Sl)) (x : α) (st : Sl) : otwo m g (some (x, st)) = otwo2 m x (g st) := id rfl
theorem o_two2 {α β γ : Type} (m : α → β → Option γ) (x : α) (y : β) (st : Sl) : otwo2 m x (some (y, st)) = omp st (m x y) := id rfl
def ozc (x : D) : Option (List D × Sl) → Option (List D × Sl)
  | some (xs, st) => some (x :: xs, st)
  | none => none
def ozc0 (z : ZM) : Option (D × Sl) → Option (List D × Sl)
  | some (x, st) => ozc x (z st)
  | none => none
theorem e_zNil (st : Sl) : zNil st = some ([], st) := id rfl
theorem e_zCons (f : XM) (z : ZM) (st : Sl) : zCons f z st = ozc0 z (f st) := by
  unfold zCons xTwo
  cases f st with
  | none => rfl
  | some r =>
    show (z r.2).bind _ = ozc r.1 (z r.2)
    cases z r.2 <;> rfl
theorem o_zc0 (z : ZM) (x : D) (st : Sl) : ozc0 z (some (x, st)) = ozc x (z st) := id rfl
theorem o_zc (x : D) (xs : List D) (st : Sl) : ozc x (some (xs, st)) = some (x :: xs, st) := id rfl
def oyif (f g : YM) : Option (Bool × Sl) → Option (Bool × Sl)
  | some (true, st) => f st
  | some (false, st) => g st
  | none => none
theorem e_yAnd (f g : YM) (st : Sl) : yAnd f g st = oyif g (fun st => some (false, st)) (f st) := by
  unfold yAnd
  cases f st with
  | none => rfl
  | some r => obtain ⟨b, st1⟩ := r; cases b <;> rfl
theorem e_yOr (f g : YM) (st : Sl) : yOr f g st = oyif (fun st => some (true, st)) g (f st) := by
  unfold yOr
  cases f st with
  | none => rfl
  | some r => obtain ⟨b, st1⟩ := r; cases b <;> rfl
theorem o_yif1 (f g : YM) (st : Sl) : oyif f g (some (true, st)) = f st := id rfl
theorem o_yif0 (f g : YM) (st : Sl) : oyif f g (some (false, st)) = g st := id rfl
def osifp (g1 g2 : SM) : Option (Bool × Sl) → Option Out
  | some (true, st) => g1 st
  | some (false, st) => g2 st
  | none => none
theorem e_sIfP (t : YM) (g1 g2 : SM) (st : Sl) : sIfP t g1 g2 st = osifp g1 g2 (t st) := by
  unfold sIfP
  cases t st with
  | none => rfl
  | some r => obtain ⟨b, st1⟩ := r; cases b <;> rfl
theorem o_sifp1 (g1 g2 : SM) (st : Sl) : osifp g1 g2 (some (true, st)) = g1 st := id rfl
theorem o_sifp0 (g1 g2 : SM) (st : Sl) : osifp g1 g2 (some (false, st)) = g2 st := id rfl
theorem e_mChk (k : Nat) (m : List D → Option D) (ds : List D) : mChk k m ds = ob1 (chk k) (m ds) := by unfold mChk; cases m ds <;> rfl
theorem e_bOf (b : Bool) : bOf (.bl b) = some b := id rfl
def osetp (i : Nat) : Option (D × Sl) → Option Out
  | some (d, st) => if isVa st[i]? = true then some (.nx (st.set i (.va 0 d))) else none
  | none => none
theorem e_sSetP (i : Nat) (f : XM) (st : Sl) : sSetP i f st = osetp i (f st) := by unfold sSetP; cases f st <;> rfl
theorem o_setp (i : Nat) (d : D) (st : Sl) : osetp i (some (d, st)) = if isVa st[i]? = true then some (.nx (st.set i (.va 0 d))) else none := id rfl
def oretp : Option (D × Sl) → Option Out
  | some (d, st) => some (.rt d st)
  | none => none
theorem e_sRetP (f : XM) (st : Sl) : sRetP f st = oretp (f st) := by unfold sRetP; cases f st <;> rfl
theorem o_retp (d : D) (st : Sl) : oretp (some (d, st)) = some (.rt d st) := id rfl
theorem e_sRetPF (f : XM) (st : Sl) : sRetPF f st = oretp (oone (chk 0) (f st)) := by
  unfold sRetPF
  cases f st with
  | none => rfl
  | some r =>
    show (chk 0 r.1).map _ = oretp (omp r.2 (chk 0 r.1))
    cases chk 0 r.1 <;> rfl
def oexpp : Option (D × Sl) → Option Out
  | some (_, st) => some (.nx st)
  | none => none
theorem e_sExpP (f : XM) (st : Sl) : sExpP f st = oexpp (f st) := by unfold sExpP; cases f st <;> rfl
theorem o_expp (d : D) (st : Sl) : oexpp (some (d, st)) = some (.nx st) := id rfl
def oasgp (m : GM) : Option (D × Sl) → Option Out
  | some (d, st) => (m d st).map .nx
  | none => none
theorem e_sAsgP (m : GM) (f : XM) (st : Sl) : sAsgP m f st = oasgp m (f st) := by unfold sAsgP; cases f st <;> rfl
theorem o_asgp (m : GM) (d : D) (st : Sl) : oasgp m (some (d, st)) = (m d st).map .nx := id rfl
theorem e_popA {i : Nat} {st : Sl} {ds : List D} {d : D} (hs : slD st[i]? = some (1, .lst ds)) (hd : ds.getLast? = some d) : xPopA i st = some (d, setD st i (.lst ds.dropLast)) := by
  unfold xPopA
  rw [hs]
  show (ds[ds.length - 1]?).map _ = _
  rw [← List.getLast?_eq_getElem?, hd]
  rfl
def orev (i : Nat) (st : Sl) : Option (Nat × D) → Option Out
  | some (1, .lst ds) => some (.nx (setD st i (.lst ds.reverse)))
  | _ => none
theorem e_sRev (i : Nat) (st : Sl) : sRev i st = orev i st (slD st[i]?) := by unfold sRev orev; rfl
theorem o_rev (i : Nat) (st : Sl) (ds : List D) : orev i st (some (1, .lst ds)) = some (.nx (setD st i (.lst ds.reverse))) := id rfl
theorem e_ext {i k : Nat} {f : EM} {st : Sl} {ds es : List D} (hs : slD st[i]? = some (k + 1, .lst ds)) (hf : f st = some (.lst es)) (hl : ds.length + es.length < 16777216) : sExt i k f st = some (.nx (setD st i (.lst (ds ++ es)))) := by
  unfold sExt
  rw [hs]
  show (f st).bind _ = _
  rw [hf]
  show (if (k + 1 == k + 1 && decide (ds.length + es.length < 16777216)) = true then some (Out.nx (setD st i (.lst (ds ++ es)))) else none) = _
  rw [if_pos (by simp [hl])]
theorem e_appP {i : Nat} {f : XM} {st st' : Sl} {ds ds0 : List D} {d : D} {k : Nat} (h0 : slD st[i]? = some (k + 1, .lst ds0)) (hf : f st = some (d, st')) (hs : slD st'[i]? = some (1, .lst ds)) (hl : ds.length < 16777216) : sAppP i f st = some (.nx (setD st' i (.lst (ds ++ [d])))) := by
  unfold sAppP
  rw [hf]
  show (match slD st'[i]? with
      | some (k', .lst ds) => if (k' == 1 && sAppP.isLd (slD st[i]?) && decide (ds.length < 16777216)) = true then some (Out.nx (setD st' i (.lst (ds ++ [d])))) else none
      | _ => none) = _
  rw [hs, h0]
  show (if (1 == 1 && true && decide (ds.length < 16777216)) = true then _ else _) = _
  rw [if_pos (by simp [hl])]
theorem in_of {x : D} {ds : List D} {k : Nat} {b : Bool} (hx : okD k x) (hl : okD k (.lst ds)) (hk : k ≤ 64) (h : (ds.any fun z => deq z x) = b) : mIn x (.lst ds) = some (.bl b) := by
  show (if (shp x && shp (.lst ds)) = true then some (D.bl (ds.any fun z => deq z x)) else none) = _
  rw [if_pos (by rw [hx.shp hk, hl.shp hk]; rfl), h]
theorem in_w (w : Wd) (ws : List Wd) : mIn (wD w) (.lst (ws.map wD)) = some (.bl (ws.any fun z => decide (z = w))) :=
  in_of (k := 1) (ok_w _ _) (ok_lst fun d hd => by
    obtain ⟨a, _, rfl⟩ := List.mem_map.mp hd
    exact ok_w _ _) (by decide) (by
    rw [List.any_map]
    congr 1
    funext z
    exact deq_w z w)
theorem in_w3 (w a b c : Wd) : mIn (wD w) (.lst [wD a, wD b, wD c]) = some (.bl (decide (a = w) || (decide (b = w) || decide (c = w)))) := by
  rw [show D.lst [wD a, wD b, wD c] = .lst ([a, b, c].map wD) from rfl, in_w]
  simp
end FL
namespace FL
open PySem PySem.Spec PyProof.Rows
theorem o_tup0 : otup (some []) = some (.tup []) := id rfl
theorem e_appN_gen {i n : Nat} {h : Int → List D} {g f : EM} {st : Sl} {d : D} {a : Int} (hs : slD st[i]? = some (2, genI n fun x => .lst (h x))) (hf : f st = some d) (hg : g st = some (.int a)) (h0 : 0 ≤ a) (h1 : a < n) (hl : (h a).length < 16777216) :
    sAppN i g f st = some (.nx (setD st i (genI n fun x => .lst (if x = a then h x ++ [d] else h x)))) := by
  unfold sAppN
  rw [hs]
  show (if 2 = 2 then (g st).bind _ else none) = _
  rw [if_pos rfl, hg]
  show (f st).bind _ = _
  rw [hf]
  show (L2.ixN ((List.range n).map fun (i : Nat) => D.lst (h (i : Int))).length a).bind _ = _
  rw [List.length_map, List.length_range, ixN_nat h0 h1]
  show (match ((List.range n).map fun (i : Nat) => D.lst (h (i : Int)))[a.toNat]? with
      | some (.lst es) => if decide (es.length < 16777216) = true then some (Out.nx (setD st i (.lst (((List.range n).map fun (i : Nat) => D.lst (h (i : Int))).set a.toNat (.lst (es ++ [d])))))) else none
      | _ => none) = _
  rw [gen_get (h := fun x => D.lst (h x)) (by omega)]
  show (if decide ((h ((a.toNat : Nat) : Int)).length < 16777216) = true then _ else none) = _
  rw [Int.toNat_of_nonneg h0, if_pos (decide_eq_true hl)]
  have := gen_set (n := n) (h := fun x => D.lst (h x)) (i := a.toNat) (d := .lst (h a ++ [d]))
  rw [Int.toNat_of_nonneg h0] at this
  rw [this]
  show some (Out.nx (setD st i (genI n fun x => if x = a then D.lst (h a ++ [d]) else D.lst (h x)))) = _
  congr 4
  funext x
  split
  · rename_i e; rw [e]
  · rfl
theorem e_sub_any {i k : Nat} {ds : List D} {g f : EM} {st : Sl} {d : D} {a : Int} (hs : slD st[i]? = some (k + 1, .lst ds)) (hf : f st = some d) (hg : g st = some (.int a)) (h0 : 0 ≤ a) (h1 : a < ds.length) :
    sSub i k g f st = some (.nx (setD st i (.lst (ds.set a.toNat d)))) := by
  unfold sSub
  rw [hs]
  show (if k + 1 = k + 1 then (f st).bind _ else none) = _
  rw [if_pos rfl, hf]
  show (g st).bind _ = _
  rw [hg]
  show (L2.ixN ds.length a).map _ = _
  rw [ixN_nat h0 h1]
  rfl
end FL
namespace FL
open PySem PySem.Spec PyProof.Rows
/-! ### raising defs -/
def orunX : Option OutX → Option RD
  | some (.o (.rt d _)) => some (.ok d)
  | some (.o (.nx _)) => some (.ok .non)
  | some (.ex C nm ds _) => some (.ex C nm ds)
  | _ => none
theorem e_runX (n : Nat) (g : SMX) (ds : List D) : fnRunX n g ds = orunX (g (ds.map (Slot.va 0) ++ List.replicate (n - ds.length) .un)) := by
  unfold fnRunX orunX; rfl
theorem o_runXr (d : D) (st : Sl) : orunX (some (.o (.rt d st))) = some (.ok d) := id rfl
theorem o_runXn (st : Sl) : orunX (some (.o (.nx st))) = some (.ok .non) := id rfl
theorem o_runXe (C : Str) (nm : List Str) (ds : List D) (st : Sl) : orunX (some (.ex C nm ds st)) = some (.ex C nm ds) := id rfl
def oxseq (b : SMX) : Option OutX → Option OutX
  | some (.o (.nx st)) => b st
  | o => o
theorem e_xSeq (a b : SMX) (st : Sl) : xSeq a b st = oxseq b (a st) := by
  unfold xSeq oxseq
  cases a st with
  | none => rfl
  | some o => cases o with
    | o y => cases y <;> rfl
    | ex _ _ _ _ => rfl
theorem o_xseqN (b : SMX) (st : Sl) : oxseq b (some (.o (.nx st))) = b st := id rfl
theorem o_xseqR (b : SMX) (d : D) (st : Sl) : oxseq b (some (.o (.rt d st))) = some (.o (.rt d st)) := id rfl
theorem o_xseqE (b : SMX) (C : Str) (nm : List Str) (ds : List D) (st : Sl) : oxseq b (some (.ex C nm ds st)) = some (.ex C nm ds st) := id rfl
def olift : Option Out → Option OutX
  | some o => some (.o o)
  | none => none
theorem e_xLift (g : SM) (st : Sl) : xLift g st = olift (g st) := by unfold xLift; cases g st <;> rfl
theorem o_lift (o : Out) : olift (some o) = some (.o o) := id rfl
theorem e_xSIf (t : TM) (f g : SMX) (st : Sl) : xSIf t f g st = oif (t st) (f st) (g st) := by
  unfold xSIf
  cases t st with
  | none => rfl
  | some b => cases b <;> rfl
theorem e_xNil (st : Sl) : xNil st = some (.o (.nx st)) := id rfl
theorem e_xRaise0 (C : Str) (st : Sl) : xRaise0 C st = some (.ex C [] [] st) := id rfl
theorem e_eCallX (k : Nat) (m : List D → Option RD) (f : AM) (st : Sl) : eCallX k m f st = ob1 (chkX k) (ob1 m (f st)) := by
  unfold eCallX
  cases f st with
  | none => rfl
  | some ds => show (m ds).bind (chkX k) = ob1 (chkX k) (m ds); cases m ds <;> rfl
def ook : Option D → Option RD
  | some d => some (.ok d)
  | none => none
theorem e_chkX (k : Nat) (d : D) : chkX k (.ok d) = ook (chk k d) := by
  show (chk k d).map RD.ok = ook (chk k d)
  cases chk k d <;> rfl
theorem e_chkXe (k : Nat) (C : Str) (nm : List Str) (ds : List D) : chkX k (.ex C nm ds) = some (.ex C nm ds) := id rfl
theorem o_ok (d : D) : ook (some d) = some (.ok d) := id rfl
def oxset (i k : Nat) (st : Sl) : Option RD → Option OutX
  | some (.ok d) => if isVa st[i]? = true then some (.o (.nx (st.set i (.va k d)))) else none
  | some (.ex C nm ds) => some (.ex C nm ds st)
  | none => none
theorem e_xSet (i k : Nat) (f : Sl → Option RD) (st : Sl) : xSet i k f st = oxset i k st (f st) := by
  unfold xSet
  cases f st with
  | none => rfl
  | some r => cases r <;> rfl
theorem o_xset (i k : Nat) (st : Sl) (d : D) : oxset i k st (some (.ok d)) = if isVa st[i]? = true then some (.o (.nx (st.set i (.va k d)))) else none := id rfl
theorem o_xsetE (i k : Nat) (st : Sl) (C : Str) (nm : List Str) (ds : List D) : oxset i k st (some (.ex C nm ds)) = some (.ex C nm ds st) := id rfl
def oxexp (st : Sl) : Option RD → Option OutX
  | some (.ok _) => some (.o (.nx st))
  | some (.ex C nm ds) => some (.ex C nm ds st)
  | none => none
theorem e_xExp (f : Sl → Option RD) (st : Sl) : xExp f st = oxexp st (f st) := by
  unfold xExp
  cases f st with
  | none => rfl
  | some r => cases r <;> rfl
theorem o_xexp (st : Sl) (d : D) : oxexp st (some (.ok d)) = some (.o (.nx st)) := id rfl
theorem o_xexpE (st : Sl) (C : Str) (nm : List Str) (ds : List D) : oxexp st (some (.ex C nm ds)) = some (.ex C nm ds st) := id rfl
def oxfor (m : GM) (b : SMX) (st : Sl) : Option (List D) → Option OutX
  | some ds => forX m b ds st
  | none => none
theorem e_xFor (its : IM) (m : GM) (b : SMX) (st : Sl) : xFor its m b st = oxfor m b st (its st) := by unfold xFor; cases its st <;> rfl
theorem o_xfor (m : GM) (b : SMX) (st : Sl) (ds : List D) : oxfor m b st (some ds) = forX m b ds st := id rfl
def oxloop (k : SMX) : Option OutX → Option OutX
  | some (.o (.nx st)) => k st
  | some (.o (.ct st)) => k st
  | some (.o (.bk st)) => some (.o (.nx st))
  | o => o
def oxbody (b : SMX) : Option Sl → Option OutX
  | some st => b st
  | none => none
theorem forX_nil (m : GM) (b : SMX) (st : Sl) : forX m b [] st = some (.o (.nx st)) := id rfl
theorem forX_cons (m : GM) (b : SMX) (d : D) (ds : List D) (st : Sl) : forX m b (d :: ds) st = oxloop (forX m b ds) (oxbody b (m d st)) := by
  show (m d st).bind _ = _
  cases m d st with
  | none => rfl
  | some st1 =>
    show (b st1).bind _ = oxloop _ (b st1)
    cases b st1 with
    | none => rfl
    | some o => cases o with
      | o y => cases y <;> rfl
      | ex _ _ _ _ => rfl
theorem o_xloopN (k : SMX) (st : Sl) : oxloop k (some (.o (.nx st))) = k st := id rfl
theorem o_xloopR (k : SMX) (d : D) (st : Sl) : oxloop k (some (.o (.rt d st))) = some (.o (.rt d st)) := id rfl
theorem o_xloopE (k : SMX) (C : Str) (nm : List Str) (ds : List D) (st : Sl) : oxloop k (some (.ex C nm ds st)) = some (.ex C nm ds st) := id rfl
theorem o_xbody (b : SMX) (st : Sl) : oxbody b (some st) = b st := id rfl
theorem e_okR (d : D) : okR (.ok d) = some d := id rfl
theorem e_okB (r : RD) : (some r).bind okR = okR r := id rfl
def otry2 (gs : SM) (st : Sl) : Option Bool → Option Out
  | some true => gs st
  | _ => none
def otry (cs : List Str) (bs : List Bool) (gs : SM) : Option OutX → Option Out
  | some (.o x) => some x
  | some (.ex C _ _ st) => otry2 gs st (catchB cs bs C)
  | none => none
theorem e_sTryOnly (cs : List Str) (bs : List Bool) (gb : SMX) (gs : SM) (st : Sl) : sTryOnly cs bs gb gs st = otry cs bs gs (gb st) := by
  unfold sTryOnly
  cases gb st with
  | none => rfl
  | some o => cases o with
    | o y => rfl
    | ex C nm ds st1 =>
      show (match catchB cs bs C with | some true => gs st1 | _ => none) = otry2 gs st1 (catchB cs bs C)
      unfold otry2
      rfl
theorem o_tryO (cs : List Str) (bs : List Bool) (gs : SM) (x : Out) : otry cs bs gs (some (.o x)) = some x := id rfl
theorem o_tryE (cs : List Str) (bs : List Bool) (gs : SM) (C : Str) (nm : List Str) (ds : List D) (st : Sl) : otry cs bs gs (some (.ex C nm ds st)) = otry2 gs st (catchB cs bs C) := id rfl
theorem o_try2 (gs : SM) (st : Sl) : otry2 gs st (some true) = gs st := id rfl
end FL
namespace FL
open PySem PySem.Spec PyProof.Rows
def ounset (i : Nat) : Option Out → Option Out
  | some o => unsetO i o
  | none => none
def otryk (cs : List Str) (bs : List Bool) (i : Nat) (gs : SM) : Option OutX → Option Out
  | some (.o x) => some x
  | some (.ex C nm ds st) => match catchB cs bs C with
    | some true => if (isVa st[i]? && fullL ds 0) = true then ounset i (gs (st.set i (.va 0 (.exc C nm ds)))) else none
    | _ => none
  | none => none
theorem e_sTryKeep (cs : List Str) (bs : List Bool) (i : Nat) (gb : SMX) (gs : SM) (st : Sl) : sTryKeep cs bs i gb gs st = otryk cs bs i gs (gb st) := by
  unfold sTryKeep
  cases gb st with
  | none => rfl
  | some o => cases o with
    | o y => rfl
    | ex C nm ds st1 =>
      show (match catchB cs bs C with | some true => if (isVa st1[i]? && fullL ds 0) = true then (gs (st1.set i (.va 0 (.exc C nm ds)))).bind (unsetO i) else none | _ => none) = otryk cs bs i gs (some (.ex C nm ds st1))
      have : ∀ z : Option Out, z.bind (unsetO i) = ounset i z := fun z => by cases z <;> rfl
      unfold otryk
      simp only [this]
theorem o_trykO (cs : List Str) (bs : List Bool) (i : Nat) (gs : SM) (x : Out) : otryk cs bs i gs (some (.o x)) = some x := id rfl
def otryk2 (i : Nat) (gs : SM) (st : Sl) (C : Str) (nm : List Str) (ds : List D) : Option Bool → Option Out
  | some true => if (isVa st[i]? && fullL ds 0) = true then ounset i (gs (st.set i (.va 0 (.exc C nm ds)))) else none
  | _ => none
theorem o_trykE (cs : List Str) (bs : List Bool) (i : Nat) (gs : SM) (C : Str) (nm : List Str) (ds : List D) (st : Sl) : otryk cs bs i gs (some (.ex C nm ds st)) = otryk2 i gs st C nm ds (catchB cs bs C) := by
  show (match catchB cs bs C with
    | some true => if (isVa st[i]? && fullL ds 0) = true then ounset i (gs (st.set i (.va 0 (.exc C nm ds)))) else none
    | _ => none) = _
  unfold otryk2
  rfl
theorem o_tryk2 (i : Nat) (gs : SM) (st : Sl) (C : Str) (nm : List Str) (ds : List D) : otryk2 i gs st C nm ds (some true) = if (isVa st[i]? && fullL ds 0) = true then ounset i (gs (st.set i (.va 0 (.exc C nm ds)))) else none := id rfl
theorem o_unsN (i : Nat) (st : Sl) : ounset i (some (.nx st)) = if isV0 st[i]? = true then some (.nx (st.set i .un)) else none := id rfl
theorem o_unsR (i : Nat) (d : D) (st : Sl) : ounset i (some (.rt d st)) = some (.rt d st) := id rfl
theorem isN_exc (C : Str) (nm : List Str) (ds : List D) : mIsN (.exc C nm ds) .non = some (.bl false) := id rfl
end FL
namespace FL
open PySem PySem.Spec PyProof.Rows
def oraisei (C nm : Str) (st : Sl) : Option D → Option OutX
  | some (.int i) => some (.ex C [nm] [.int i] st)
  | _ => none
theorem e_xRaiseI (C nm : Str) (f : EM) (st : Sl) : xRaiseI C nm f st = oraisei C nm st (f st) := by
  unfold xRaiseI
  cases f st with
  | none => rfl
  | some d => cases d <;> rfl
theorem o_raisei (C nm : Str) (st : Sl) (i : Int) : oraisei C nm st (some (.int i)) = some (.ex C [nm] [.int i] st) := id rfl
def oxio (sp : Src) (kr : Nat) (st : Sl) : Option (RD × List D) → Option OutX
  | some (.ok d, ds') => if (full d kr && fullIO sp ds') = true then some (.o (.nx (putS sp ds' st))) else none
  | some (.ex C nm xs, _) => some (.ex C nm xs (unS sp st))
  | none => none
theorem e_xIO (sp : Src) (kr : Nat) (m : List D → Option (RD × List D)) (fa : AM) (st : Sl) : xIO sp kr m fa st = oxio sp kr st (ob1 m (fa st)) := by
  unfold xIO
  cases fa st with
  | none => rfl
  | some ds =>
    show (m ds).bind _ = oxio sp kr st (m ds)
    cases m ds with
    | none => rfl
    | some r => obtain ⟨r, ds'⟩ := r; cases r <;> rfl
theorem o_xioO (sp : Src) (kr : Nat) (st : Sl) (d : D) (ds' : List D) : oxio sp kr st (some (.ok d, ds')) = if (full d kr && fullIO sp ds') = true then some (.o (.nx (putS sp ds' st))) else none := id rfl
theorem o_xioE (sp : Src) (kr : Nat) (st : Sl) (C : Str) (nm : List Str) (xs ds' : List D) : oxio sp kr st (some (.ex C nm xs, ds')) = some (.ex C nm xs (unS sp st)) := id rfl
theorem unS_nil (st : Sl) : unS [] st = st := id rfl
theorem unS_none (r : Src) (st : Sl) : unS (none :: r) st = unS r st := id rfl
theorem unS_some (j k : Nat) (r : Src) (st : Sl) : unS (some (j, k) :: r) st = unS r (st.set j .un) := id rfl
def oalast : Option RD → Option RA
  | some (.ok d) => some (.ok [d])
  | some (.ex C nm ds) => some (.ex C nm ds)
  | none => none
theorem e_aLastX (f : Sl → Option RD) (st : Sl) : aLastX f st = oalast (f st) := by
  unfold aLastX
  cases f st with
  | none => rfl
  | some r => cases r <;> rfl
theorem o_alast (d : D) : oalast (some (.ok d)) = some (.ok [d]) := id rfl
theorem o_alastE (C : Str) (nm : List Str) (ds : List D) : oalast (some (.ex C nm ds)) = some (.ex C nm ds) := id rfl
def oacons : Option D → Option RA → Option RA
  | some d, some (.ok ds) => some (.ok (d :: ds))
  | some _, some (.ex C nm ds) => some (.ex C nm ds)
  | _, _ => none
theorem e_aConsX (f : EM) (g : Sl → Option RA) (st : Sl) : aConsX f g st = oacons (f st) (g st) := by
  unfold aConsX
  cases f st with
  | none => rfl
  | some d =>
    show (g st).map _ = _
    cases g st with
    | none => rfl
    | some r => cases r <;> rfl
theorem o_acons (d : D) (ds : List D) : oacons (some d) (some (.ok ds)) = some (.ok (d :: ds)) := id rfl
theorem o_aconsE (d : D) (C : Str) (nm : List Str) (ds : List D) : oacons (some d) (some (.ex C nm ds)) = some (.ex C nm ds) := id rfl
def ocalla (n k : Nat) (m : List D → Option D) : Option RA → Option RD
  | some (.ok ds) => if ds.length = n then ook (ob1 (chk k) (m ds)) else none
  | some (.ex C nm ds) => some (.ex C nm ds)
  | none => none
theorem e_eCallA (n k : Nat) (m : List D → Option D) (f : Sl → Option RA) (st : Sl) : eCallA n k m f st = ocalla n k m (f st) := by
  unfold eCallA
  cases f st with
  | none => rfl
  | some r => cases r with
    | ok ds =>
      show (if ds.length = n then ((m ds).bind (chk k)).map RD.ok else none) = if ds.length = n then ook (ob1 (chk k) (m ds)) else none
      have : ((m ds).bind (chk k)).map RD.ok = ook (ob1 (chk k) (m ds)) := by
        cases m ds with
        | none => rfl
        | some d => show (chk k d).map RD.ok = ook (chk k d); cases chk k d <;> rfl
      rw [this]
    | ex _ _ _ => rfl
theorem o_callaO (n k : Nat) (m : List D → Option D) (ds : List D) : ocalla n k m (some (.ok ds)) = if ds.length = n then ook (ob1 (chk k) (m ds)) else none := id rfl
theorem o_callaE (n k : Nat) (m : List D → Option D) (C : Str) (nm : List Str) (ds : List D) : ocalla n k m (some (.ex C nm ds)) = some (.ex C nm ds) := id rfl
end FL
namespace FL
open PySem PySem.Spec PyProof.Rows
theorem e_sSetN (i : Nat) (f : EM) (st : Sl) : sSetN i f st = if noOwn st = true then oset i 0 st (f st) else none := by
  unfold sSetN
  cases f st with
  | none => rfl
  | some d => rfl
theorem noOwn_nil : noOwn [] = true := id rfl
theorem noOwn_un (r : Sl) : noOwn (.un :: r) = noOwn r := id rfl
theorem noOwn_va (d : D) (r : Sl) : noOwn (.va 0 d :: r) = noOwn r := id rfl
theorem noOwn_vS (o : Option D) (r : Sl) : noOwn (vS o :: r) = noOwn r := by cases o <;> rfl
end FL

namespace FL
open PySem PySem.Spec PyProof.Rows
def omb (m : D → List D → Option D) : Option D → Option (List D) → Option D
  | some x, some ds => m x ds
  | _, _ => none
theorem e_mb (m : D → List D → Option D) (f : EM) (fa : AM) (st : Sl) : eMB m f fa st = omb m (f st) (fa st) := by
  unfold eMB
  cases f st with
  | none => rfl
  | some x => cases fa st <;> rfl
theorem o_mb (m : D → List D → Option D) (x : D) (ds : List D) : omb m (some x) (some ds) = m x ds := id rfl
/-! ### texts -/
theorem Str.len_app (a b : Str) : (a ++ b).length = a.length + b.length := by
  show (a.cps ++ b.cps).size = _
  rw [Array.size_append]
  rfl
theorem Str.app_assoc (a b c : Str) : a ++ b ++ c = a ++ (b ++ c) := by
  show (⟨a.cps ++ b.cps ++ c.cps⟩ : Str) = ⟨a.cps ++ (b.cps ++ c.cps)⟩
  rw [Array.append_assoc]
theorem catZ (a b : Str) (h : a.length + b.length ≤ 16777216) : mCatZ (.str a) (.str b) = some (.str (a ++ b)) := by
  show (if lenOk (a.length + b.length) = true then _ else _) = _
  rw [if_pos (show lenOk _ = true from decide_eq_true h)]
theorem slZ (z : Str) (lo hi : Option Int) (h : z.length ≤ 16777216) : mSlZ (.str z) lo hi = some (.str (L2.cutS z lo hi)) := by
  show (if lenOk z.length = true then _ else _) = _
  rw [if_pos (show lenOk _ = true from decide_eq_true h)]
theorem slZ_len (z : Str) (lo hi : Option Int) : (L2.cutS z lo hi).length ≤ z.length := by
  show (List.toArray _).size ≤ _
  rw [List.size_toArray, List.length_take, List.length_drop]
  have : z.cps.toList.length = z.length := Array.length_toList
  rw [this]
  omega
theorem strI_eq (i : Int) (h : i.natAbs.log2 < 1920) : mStrI [.int i] = some (.str (strI i)) := if_pos h
theorem strI_len (i : Int) (h : i.natAbs.log2 < 1920) : (strI i).length ≤ 1921 := int_text_len_1921 h
theorem log_small (i : Int) (b : Nat) (h : i.natAbs < 2 ^ b) (h0 : 0 < b) : i.natAbs.log2 < b := by
  by_cases z : i.natAbs = 0
  · rw [z]; exact h0
  · exact (Nat.log2_lt z).mpr h
abbrev strsD (l : List Str) : D := .lst (l.map D.str)
def strAt (l : List Str) (i : Int) : Str := l.getD i.toNat Str.empty
theorem ix_strs (l : List Str) (i : Int) (h0 : 0 ≤ i) (h1 : i < l.length) : mIx (strsD l) (.int i) = some (.str (strAt l i)) := by
  obtain ⟨j, rfl⟩ := Int.eq_ofNat_of_zero_le h0
  refine ix_natL_ _ j _ ?_
  unfold strAt
  rw [List.getElem?_map, List.getD_eq_getElem?_getD, Int.toNat_natCast, List.getElem?_eq_getElem (by omega)]
  rfl
theorem strAt_mem {l : List Str} {i : Int} (h0 : 0 ≤ i) (h1 : i < l.length) : strAt l i ∈ l := by
  unfold strAt
  rw [List.getD_eq_getElem?_getD, List.getElem?_eq_getElem (by omega)]
  exact List.getElem_mem _
theorem len_strs (l : List Str) : mLen [strsD l] = some (.int l.length) := by rw [len_lst, List.length_map]
theorem full_strs (l : List Str) (k : Nat) : fullL (l.map D.str) k = true := fullL_of fun d hd => by
  obtain ⟨z, _, rfl⟩ := List.mem_map.mp hd
  rfl
theorem listF_strs (l : List Str) : mListF (strsD l) = some (strsD l) := by
  show (if fullL (l.map D.str) 0 = true then _ else _) = _
  rw [full_strs]; rfl
theorem chk_strs (l : List Str) (k : Nat) : chk (k + 1) (strsD l) = some (strsD l) := by
  unfold chk
  rw [if_pos]
  exact full_strs l k
theorem strsOf_map (l : List Str) : strsOf (l.map D.str) = some l := by
  induction l with
  | nil => rfl
  | cons z l ih =>
    show (strsOf (l.map D.str)).map _ = _
    rw [ih]; rfl
theorem ix_str (z : Str) (i : Int) (h0 : 0 ≤ i) (h1 : i < z.length) (hz : z.length ≤ 16777216) : ∃ c : Nat, mIx (.str z) (.int i) = some (.str ⟨#[c]⟩) ∧ z.cps.toList[i.toNat]? = some c := by
  have hl : z.cps.toList.length = z.length := Array.length_toList
  obtain ⟨c, hc⟩ : ∃ c, z.cps.toList[i.toNat]? = some c := ⟨z.cps.toList[i.toNat]'(by omega), List.getElem?_eq_getElem _⟩
  refine ⟨c, ?_, hc⟩
  show (if lenOk z.length = true then (L2.atI z.cps.toList i).map fun c => D.str ⟨#[c]⟩ else none) = _
  rw [if_pos (show lenOk _ = true from decide_eq_true hz)]
  have : L2.atI z.cps.toList i = some c := by
    unfold L2.atI
    rw [ixN_nat h0 (by omega)]
    exact hc
  rw [this]
  rfl
theorem join_eq (a : Str) (l : List Str) (h : (l.map (·.length)).sum + l.length * a.length ≤ 16777216) : mJoin (.str a) [strsD l] = some (.str (Txt.join a l)) := by
  show (strsOf (l.map D.str)).bind _ = _
  rw [strsOf_map]
  show (if joinOk a l = true then _ else _) = _
  rw [if_pos (show joinOk a l = true from decide_eq_true h)]
theorem join_len (a : Str) (l : List Str) : (Txt.join a l).length = (l.map (·.length)).sum + (l.length - 1) * a.length := PySem.size_glued a l
theorem sum_le (l : List Str) (b : Nat) (h : ∀ z ∈ l, z.length ≤ b) : (l.map (·.length)).sum ≤ l.length * b := by
  induction l with
  | nil => simp
  | cons z l ih =>
    have := ih fun y hy => h y (List.mem_cons_of_mem _ hy)
    have := h z List.mem_cons_self
    simp only [List.map_cons, List.sum_cons, List.length_cons, Nat.add_mul]
    omega
/-! what a text may hold -/
def zOk (b : Nat) (z : Str) : Prop := z.length ≤ b ∧ ∀ c ∈ z.cps.toList, c < 0x110000
theorem zOk.mono {a b : Nat} {z : Str} (h : zOk a z) (hb : a ≤ b) : zOk b z := ⟨Nat.le_trans h.1 hb, h.2⟩
theorem zOk.app {a b : Nat} {x y : Str} (h : zOk a x) (k : zOk b y) : zOk (a + b) (x ++ y) := by
  refine ⟨by rw [Str.len_app]; exact Nat.add_le_add h.1 k.1, fun c hc => ?_⟩
  have e : (x ++ y).cps.toList = x.cps.toList ++ y.cps.toList := Array.toList_append
  rw [e] at hc
  rcases List.mem_append.mp hc with hc | hc
  · exact h.2 c hc
  · exact k.2 c hc
theorem zOk.cut {a : Nat} {x : Str} (h : zOk a x) (lo hi : Option Int) : zOk a (L2.cutS x lo hi) := by
  refine ⟨Nat.le_trans (slZ_len x lo hi) h.1, fun c hc => ?_⟩
  have hc : c ∈ ((x.cps.toList.drop (HT.sIx x.length 0 lo)).take (HT.sIx x.length x.length hi - HT.sIx x.length 0 lo)) := hc
  exact h.2 c (List.drop_subset _ _ (List.take_subset _ _ hc))
theorem zOk_one {c : Nat} (h : c < 0x110000) : zOk 1 ⟨#[c]⟩ := ⟨Nat.le_refl _, fun x hx => by
  have hx : x ∈ [c] := hx
  obtain rfl := List.mem_singleton.mp hx
  exact h⟩
theorem zOk_of (s : String) (b : Nat) (h : (Str.ofString s).length ≤ b) : zOk b (Str.ofString s) := by
  refine ⟨h, fun c hc => ?_⟩
  rw [Str.ofString_eq_toList] at hc
  obtain ⟨ch, _, rfl⟩ := List.mem_map.mp (show c ∈ s.toList.map Char.toNat from hc)
  have := ch.valid
  have hv : ch.toNat = ch.val.toNat := rfl
  simp only [UInt32.isValidChar, Nat.isValidChar] at this
  omega
theorem zOk_strI (i : Int) (h : i.natAbs.log2 < 1920) : zOk 1921 (strI i) := zOk_of _ _ (strI_len i h)
theorem zOk_join {a b : Nat} {y : Str} (hy : zOk a y) : ∀ {l : List Str}, (∀ z ∈ l, zOk b z) → zOk (l.length * (a + b)) (Txt.join y l)
  | [], _ => by rw [show ∀ l, Txt.join y l = Str.join y l from fun l => PySem.StrLaws.glued_eq_join y l]; exact ⟨Nat.zero_le _, fun c hc => by cases hc⟩
  | [z], h => by
    rw [show ∀ l, Txt.join y l = Str.join y l from fun l => PySem.StrLaws.glued_eq_join y l]
    exact (h z List.mem_cons_self).mono (by simp only [List.length_cons, List.length_nil]; omega)
  | z :: w :: r, h => by
    have ih := zOk_join hy (l := w :: r) fun x hx => h x (List.mem_cons_of_mem _ hx)
    rw [show ∀ l, Txt.join y l = Str.join y l from fun l => PySem.StrLaws.glued_eq_join y l] at ih ⊢
    show zOk _ (z ++ y ++ Str.join y (w :: r))
    refine (((h z List.mem_cons_self).app hy).app ih).mono ?_
    simp only [List.length_cons, Nat.add_mul, Nat.one_mul]
    omega
theorem ok_str {b : Nat} {z : Str} (h : zOk b z) (k : Nat) : okD k (.str z) := by
  refine ⟨?_, Nat.zero_le _⟩
  show PyData.strOk z = true
  unfold PyData.strOk
  rw [← Array.all_toList, List.all_eq_true]
  exact fun c hc => decide_eq_true (h.2 c hc)
theorem ok_strs {b : Nat} {l : List Str} (h : ∀ z ∈ l, zOk b z) : okD 1 (strsD l) := ok_lst fun d hd => by
  obtain ⟨z, hz, rfl⟩ := List.mem_map.mp hd
  exact ok_str (h z hz) 0
theorem nin_strs {b c : Nat} {z : Str} {l : List Str} (hz : zOk b z) (hl : ∀ y ∈ l, zOk c y) : mNin (.str z) (strsD l) = some (.bl (!(l.map D.str).any fun y => deq y (.str z))) := by
  show (if (shp (.str z) && shp (strsD l)) = true then _ else _) = _
  rw [(ok_str hz 0).shp (by decide), (ok_strs hl).shp (by decide)]; rfl
theorem nob_strs (l : List Str) : nob (strsD l) = true := nobL_of fun d hd => by
  obtain ⟨z, _, rfl⟩ := List.mem_map.mp hd
  rfl
theorem ne_str {b : Nat} {z : Str} (hz : zOk b z) : mNe (.str z) (.str z) = some (.bl false) := mNe_self (ok_str hz 0) (by decide) rfl
theorem ne_strs {b : Nat} {l : List Str} (h : ∀ z ∈ l, zOk b z) : mNe (strsD l) (strsD l) = some (.bl false) := mNe_self (ok_strs h) (by decide) (nob_strs l)
theorem isi_str (z : Str) : oisi "str" (some (.str z)) = some (.bl true) := id rfl
theorem app_strs (i : Nat) (st : Sl) (l : List Str) (z : Str) (h : l.length < 16777216) : oapp i 0 st (some (1, strsD l)) (some (.str z)) = some (.nx (setD st i (strsD (l ++ [z])))) := by
  show _ = some (Out.nx (setD st i (.lst ((l ++ [z]).map D.str))))
  rw [List.map_append]
  exact o_app i 0 st _ _ (by rw [List.length_map]; exact h)
end FL
namespace K50
open PySem PySem.Spec PyProof.Rows FL
def g_show_first : SM :=
  (sSeq (sIf (qVal (eBin mEq (eBin mMod (eVar 1) (eC (.int 2))) (eC (.int 1)))) (sRet (eBin mCatZ (eC (.str "-")) (eBin mIx (eVar 0) (eBin mDiv (eVar 1) (eC (.int 2)))))) sNil)
    (sRet (eBin mIx (eVarS 0) (eBin mDiv (eVar 1) (eC (.int 2))))))
def m_show_first : List D → Option D := fnRun 2 g_show_first
def g_show_later : SM :=
  (sSeq (sIf (qVal (eBin mEq (eBin mMod (eVar 1) (eC (.int 2))) (eC (.int 1)))) (sRet (eBin mCatZ (eC (.str "- ")) (eBin mIx (eVar 0) (eBin mDiv (eVar 1) (eC (.int 2)))))) sNil)
    (sRet (eBin mCatZ (eC (.str "+ ")) (eBin mIx (eVar 0) (eBin mDiv (eVar 1) (eC (.int 2)))))))
def m_show_later : List D → Option D := fnRun 2 g_show_later
def g_show_sum : SM :=
  (sSeq (sIf (qVal (eBin mIsN (eVar 2) (eC .non))) (sRet (eCallO 0 m_show_first (aCons (eVar 0) (aCons (eVar 1) aNil)))) sNil)
    (sRet (eBin mCatZ (eBin mCatZ (eCall m_show_first (aCons (eVar 0) (aCons (eVar 1) aNil))) (eC (.str " "))) (eCall m_show_later (aCons (eVar 0) (aCons (eVar 2) aNil))))))
def m_show_sum : List D → Option D := fnRun 3 g_show_sum
def g_show_side : SM :=
  (sSeq (sIf (qVal (eBin mEq (eBin mIx (eVar 1) (eC (.int 0))) (eBin mIx (eVar 1) (eC (.int 1))))) (sRet (eBin mCatZ (eBin mCatZ (eCall m_show_first (aCons (eVar 0) (aCons (eBin mIx (eVar 1) (eC (.int 0))) aNil))) (eC (.str " <= "))) (eCB mStrI (aCons (eBin mDiv (eBin mIx (eVar 1) (eC (.int 2))) (eC (.int 2))) aNil)))) sNil)
    (sRet (eBin mCatZ (eBin mCatZ (eCall m_show_sum (aCons (eVar 0) (aCons (eBin mIx (eVar 1) (eC (.int 0))) (aCons (eBin mIx (eVar 1) (eC (.int 1))) aNil)))) (eC (.str " <= "))) (eCB mStrI (aCons (eBin mIx (eVar 1) (eC (.int 2))) aNil)))))
def m_show_side : List D → Option D := fnRun 2 g_show_side
def g_law_cell : SM :=
  (sSeq (sIf (qVal (eBin mLt (eVar 1) (eCB mLen (aCons (eVar 0) aNil)))) (sRet (eBin mIx (eVarS 0) (eVar 1))) sNil)
    (sSeq (sSet 2 0 (eBin mMul (eVar 1) (eC (.int 7919))))
    (sSeq (sIf (qVal (eBin mGt (eCB mLen (aCons (eVar 0) aNil)) (eC (.int 0)))) (sSet 2 0 (eBin mAddI (eVar 2) (eBin mMod (eBin mIx (eVar 0) (eBin mMod (eVar 1) (eCB mLen (aCons (eVar 0) aNil)))) (eC (.int 65537))))) sNil)
    (sSeq (sSet 3 0 (eBin mMod (eBin mMul (eVar 2) (eC (.int 48271))) (eC (.int 65537))))
    (sRet (eBin mMod (eBin mDiv (eBin mMul (eVar 3) (eBin mAddI (eBin mAddI (eVar 3) (eBin mMul (eC (.int 2)) (eVar 1))) (eC (.int 1)))) (eC (.int 7))) (eC (.int 65521))))))))
def m_law_cell : List D → Option D := fnRun 4 g_law_cell
def g_law_spread : SM :=
  (sSeq (sIf (qVal (eChain mLt mLt (eNeg (eC (.int 1000))) (eVar 0) (eC (.int 1000)))) (sRet (eBin mMod (eBin mMul (eBin mAddI (eBin mMul (eBin mAddI (eVar 0) (eC (.int 1000))) (eBin mAddI (eBin mAddI (eVar 0) (eC (.int 1000))) (eBin mMul (eC (.int 37)) (eVar 1)))) (eBin mMul (eC (.int 911)) (eVar 1))) (eC (.int 48271))) (eC (.int 1000003)))) sNil)
    (sRet (eVarS 0)))
def m_law_spread : List D → Option D := fnRun 2 g_law_spread
def g_law_number : SM :=
  (sSeq (sIf (qVal (eBin mEq (eBin mMod (eVar 0) (eC (.int 4))) (eC (.int 3)))) (sRet (eBin mSub (eBin mMod (eBin mDiv (eVar 0) (eC (.int 4))) (eBin mAddI (eBin mMul (eC (.int 2)) (eBin mPow (eC (.int 10)) (eC (.int 60)))) (eC (.int 1)))) (eBin mPow (eC (.int 10)) (eC (.int 60))))) sNil)
    (sRet (eBin mSub (eBin mMod (eBin mDiv (eVar 0) (eC (.int 4))) (eC (.int 41))) (eC (.int 20)))))
def m_law_number : List D → Option D := fnRun 1 g_law_number
def g_law_letter : SM :=
  (sRet (eFl (eBin mIx (eC (.str "abcdefghijklmnopqrstuvwxyz")) (eBin mMod (eVar 0) (eC (.int 26))))))
def m_law_letter : List D → Option D := fnRun 1 g_law_letter
def b_law_free_name_1 : SM := (sSet 2 0 (eBin mCatZ (eVar 2) (eCall m_law_letter (aCons (eBin mAddI (eBin mDiv (eVar 0) (eBin mAddI (eC (.int 208)) (eBin mMul (eC (.int 26)) (eVar 3)))) (eBin mMul (eC (.int 5)) (eVar 3))) aNil))))
def b_law_free_name_2 : SM := (sIf (qVal (eBin mNin (eBin mCatZ (eCall m_law_letter (aCons (eBin mAddI (eVar 0) (eVar 3)) aNil)) (eVar 2)) (eVar 1))) (sRet (eBin mCatZ (eCall m_law_letter (aCons (eBin mAddI (eVar 0) (eVar 3)) aNil)) (eVar 2))) sNil)
def g_law_free_name : SM :=
  (sSeq (sSet 2 0 (eC (.str "")))
    (sSeq (sFor (iB mRng1 (eBin mMod (eBin mDiv (eVar 0) (eC (.int 26))) (eC (.int 8)))) (gNm 3) b_law_free_name_1)
    (sSeq (sFor (iB mRng1 (eBin mAddI (eCB mLen (aCons (eVar 1) aNil)) (eC (.int 1)))) (gNm 3) b_law_free_name_2)
    (sRet (eC (.str "none"))))))
def m_law_free_name : List D → Option D := fnRun 4 g_law_free_name
def c_law_names_1 : EM := (eLc [9] (iB mRng1 (eVar 5)) (gNm 9) qYes (eCallO 0 m_law_letter (aCons (eBin mDiv (eCall m_law_cell (aCons (eVar 0) (aCons (eBin mAddI (eVar 1) (eC (.int 1))) aNil))) (eBin mAddI (eVar 9) (eC (.int 1)))) aNil)))
def b_law_names_1 : SM := (sIf (qVal (eBin mEq (eBin mMod (eVar 3) (eC (.int 4))) (eC (.int 0)))) (sApp 8 0 (eBin mIx (eVarS 4) (eBin mMod (eBin mAddI (eBin mDiv (eVar 3) (eC (.int 4))) (eBin mMul (eVar 9) (eC (.int 5)))) (eC (.int 12))))) (sIf (qVal (eBin mEq (eBin mMod (eVar 3) (eC (.int 4))) (eC (.int 1)))) (sSeq (sSet 10 0 (eCallO 0 m_law_letter (aCons (eBin mAddI (eBin mDiv (eVar 3) (eC (.int 256))) (eBin mMul (eC (.int 3)) (eVar 9))) aNil)))
    (sApp 8 0 (eBin mCatZ (eBin mCatZ (eSl mSlZ (eVar 7) oNone (oSome (eVar 6))) (eVar 10)) (eSl mSlZ (eVar 7) (oSome (eBin mAddI (eVar 6) (eC (.int 1)))) oNone)))) (sApp 8 0 (eCallO 0 m_law_free_name (aCons (eCall m_law_spread (aCons (eCall m_law_cell (aCons (eVar 0) (aCons (eBin mAddI (eBin mAddI (eVar 1) (eC (.int 2))) (eVar 9)) aNil))) (aCons (eVar 9) aNil))) (aCons (eVar 8) aNil))))))
def t_law_names_7 : SM := (sRetV 1 8)
def t_law_names_6 : SM := (sSeq (sFor (iB mRng1 (eVar 2)) (gNm 9) b_law_names_1) t_law_names_7)
def t_law_names_5 : SM := (sSeq (sSet 8 1 (eLst aNil)) t_law_names_6)
def t_law_names_4 : SM := (sSeq (sSet 7 0 (eMB mJoin (eC (.str "")) (aCons c_law_names_1 aNil))) t_law_names_5)
def t_law_names_3 : SM := (sSeq (sSet 6 0 (eBin mMod (eBin mDiv (eVar 3) (eC (.int 32))) (eVar 5))) t_law_names_4)
def t_law_names_2 : SM := (sSeq (sSet 5 0 (eBin mAddI (eC (.int 1)) (eBin mMod (eBin mDiv (eVar 3) (eC (.int 4))) (eC (.int 8))))) t_law_names_3)
def t_law_names_1 : SM := (sSeq (sSet 4 0 (eLst (aCons (eC (.str "set")) (aCons (eC (.str "to")) (aCons (eC (.str "from")) (aCons (eC (.str "end")) (aCons (eC (.str "names")) (aCons (eC (.str "ask")) (aCons (eC (.str "need")) (aCons (eC (.str "else")) (aCons (eC (.str "if")) (aCons (eC (.str "while")) (aCons (eC (.str "claim")) (aCons (eC (.str "never")) aNil)))))))))))))) t_law_names_2)
def g_law_names : SM :=
  (sSeq (sSet 3 0 (eCallO 0 m_law_spread (aCons (eCall m_law_cell (aCons (eVar 0) (aCons (eVar 1) aNil))) (aCons (eC (.int 0)) aNil)))) t_law_names_1)
def m_law_names : List D → Option D := fnRun 11 g_law_names
def g_law_term : SM :=
  (sSeq (sIf (qVal (eBin mEq (eBin mMod (eVar 1) (eC (.int 2))) (eC (.int 1)))) (sRet (eLst (aCons (eC (.str "- ")) (aCons (eBin mIx (eVarS 0) (eBin mDiv (eVar 1) (eC (.int 2)))) aNil)))) sNil)
    (sRet (eLst (aCons (eC (.str "+ ")) (aCons (eBin mIx (eVarS 0) (eBin mDiv (eVar 1) (eC (.int 2)))) aNil)))))
def m_law_term : List D → Option D := fnRun 2 g_law_term
def t_law_words_5 : SM := (sRet (eBin mCatZ (eBin mCatZ (eBin mCatZ (eBin mCatZ (eBin mCatZ (eVar 3) (eC (.str " "))) (eBin mIx (eVar 4) (eC (.int 0)))) (eBin mIx (eVar 4) (eC (.int 1)))) (eC (.str " <= "))) (eCB mStrI (aCons (eBin mIx (eVar 1) (eC (.int 2))) aNil))))
def t_law_words_4 : SM := (sSeq (sSet 4 0 (eCallO 1 m_law_term (aCons (eVar 0) (aCons (eBin mIx (eVar 1) (eC (.int 1))) aNil)))) t_law_words_5)
def t_law_words_3 : SM := (sSeq (sIf (qVal (eBin mEq (eBin mIx (eVar 1) (eC (.int 0))) (eBin mIx (eVar 1) (eC (.int 1))))) (sRet (eBin mCatZ (eBin mCatZ (eVar 3) (eC (.str " <= "))) (eCB mStrI (aCons (eBin mDiv (eBin mIx (eVar 1) (eC (.int 2))) (eC (.int 2))) aNil)))) sNil) t_law_words_4)
def t_law_words_2 : SM := (sSeq (sIf (qVal (eBin mEq (eBin mIx (eVar 2) (eC (.int 0))) (eC (.str "- ")))) (sSet 3 0 (eBin mCatZ (eC (.str "-")) (eVar 3))) sNil) t_law_words_3)
def t_law_words_1 : SM := (sSeq (sSet 3 0 (eBin mIx (eVarS 2) (eC (.int 1)))) t_law_words_2)
def g_law_words : SM :=
  (sSeq (sSet 2 0 (eCallO 1 m_law_term (aCons (eVar 0) (aCons (eBin mIx (eVar 1) (eC (.int 0))) aNil)))) t_law_words_1)
def m_law_words : List D → Option D := fnRun 5 g_law_words
def t_law_side_5 : SM := (sRet (eTup (aCons (eVarS 3) (aCons (eVarS 4) (aCons (eVarS 5) aNil)))))
def t_law_side_4 : SM := (sSeq (sIf (qOr (qVal (eBin mEq (eBin mDiv (eVar 4) (eC (.int 2))) (eBin mDiv (eVar 3) (eC (.int 2))))) (qVal (eBin mEq (eBin mMod (eBin mDiv (eVar 0) (eC (.int 144))) (eC (.int 4))) (eC (.int 0))))) (sRet (eTup (aCons (eVarS 3) (aCons (eVarS 3) (aCons (eBin mMul (eC (.int 2)) (eVar 5)) aNil))))) sNil) t_law_side_5)
def t_law_side_3 : SM := (sSeq (sSet 5 0 (eCallO 0 m_law_number (aCons (eBin mDiv (eVar 0) (eC (.int 576))) aNil))) t_law_side_4)
def t_law_side_2 : SM := (sSeq (sSet 4 0 (eBin mAddI (eBin mMul (eBin mMod (eBin mAddI (eBin mAddI (eBin mDiv (eVar 3) (eC (.int 2))) (eC (.int 1))) (eBin mMod (eBin mDiv (eVar 0) (eC (.int 12))) (eVar 2))) (eVar 2)) (eC (.int 2))) (eBin mMod (eBin mDiv (eVar 0) (eC (.int 72))) (eC (.int 2))))) t_law_side_3)
def t_law_side_1 : SM := (sSeq (sSet 3 0 (eBin mMod (eVar 0) (eBin mMul (eC (.int 2)) (eVar 2)))) t_law_side_2)
def g_law_side : SM :=
  (sSeq (sSet 0 0 (eCallO 0 m_law_spread (aCons (eVar 0) (aCons (eVar 1) aNil)))) t_law_side_1)
def m_law_side : List D → Option D := fnRun 6 g_law_side
def c_law_1 : EM := (eLc [5] (iB mRng1 (eVar 1)) (gNm 5) qYes (eBin mIx (eVarS 2) (eBin mSub (eBin mSub (eVar 1) (eC (.int 1))) (eVar 5))))
def c_law_2 : EM := (eLc [5] (iB mRng1 (eBin mMod (eCall m_law_cell (aCons (eVar 0) (aCons (eC (.int 1)) aNil))) (eC (.int 10)))) (gNm 5) qYes (eCallO 0 m_law_cell (aCons (eVar 0) (aCons (eBin mAddI (eC (.int 20)) (eVar 5)) aNil))))
def b_law_1 : SM := (sSeq (sSet 8 0 (eB mListF (eVar 7)))
    (sSeq (sSet 9 0 (eCallO 0 m_show_side (aCons (eVar 8) (aCons (eVar 6) aNil))))
    (sIf (qOr (qNot (qVal (eIsi "str" (eVar 9)))) (qOr (qVal (eBin mNe (eVar 9) (eCall m_law_words (aCons (eVar 7) (aCons (eVar 6) aNil))))) (qVal (eBin mNe (eVar 8) (eVar 7))))) (sRet (eC (.bl false))) sNil)))
def b_law_2 : SM := (sSeq (sSet 6 0 (eCallO 0 m_law_side (aCons (eBin mIx (eVar 4) (eVar 5)) (aCons (eVar 5) (aCons (eVar 1) aNil)))))
    (sFor (iB itsS (eLst (aCons (eVarS 2) (aCons (eVarS 3) aNil)))) (gNm 7) b_law_1))
def t_law_6 : SM := (sRet (eC (.bl true)))
def t_law_5 : SM := (sSeq (sFor (iB mRng1 (eCB mLen (aCons (eVar 4) aNil))) (gNm 5) b_law_2) t_law_6)
def t_law_4 : SM := (sSeq (sIf (qVal (eBin mEq (eCB mLen (aCons (eVar 4) aNil)) (eC (.int 0)))) (sSet 4 0 c_law_2) sNil) t_law_5)
def t_law_3 : SM := (sSeq (sSet 4 0 (eSl mSlF (eVar 0) (oSome (eC (.int 20))) (oSome (eC (.int 62))))) t_law_4)
def t_law_2 : SM := (sSeq (sSet 3 0 c_law_1) t_law_3)
def t_law_1 : SM := (sSeq (sSet 2 0 (eCallO 1 m_law_names (aCons (eVar 0) (aCons (eC (.int 3)) (aCons (eVar 1) aNil))))) t_law_2)
def g_law : SM :=
  (sSeq (sSet 1 0 (eBin mAddI (eC (.int 1)) (eBin mMod (eCall m_law_cell (aCons (eVar 0) (aCons (eC (.int 0)) aNil))) (eC (.int 6))))) t_law_1)
def m_law : List D → Option D := fnRun 10 g_law
-- TB: e_mb o_mb e_sSetN noOwn_nil noOwn_un noOwn_va noOwn_vS e_xRaiseI o_raisei e_xIO o_xioO o_xioE unS_nil unS_none unS_some e_aLastX o_alast o_alastE e_aConsX o_acons o_aconsE e_eCallA o_callaO o_callaE e_sTryKeep o_trykO o_trykE o_tryk2 o_unsN o_unsR isN_exc e_runX o_runXr o_runXn o_runXe e_xSeq o_xseqN o_xseqR o_xseqE e_xLift o_lift e_xSIf e_xNil e_xRaise0 e_eCallX e_chkX e_chkXe o_ok e_xSet o_xset o_xsetE e_xExp o_xexp o_xexpE e_xFor o_xfor forX_nil o_xloopN o_xloopR o_xloopE o_xbody e_okR e_okB e_sTryOnly o_tryO o_tryE o_try2 o_tup0 o_mp e_xOf e_yOf e_xOne o_one e_xTwo o_two o_two2 e_zNil e_zCons o_zc0 o_zc e_yAnd e_yOr o_yif1 o_yif0 e_sIfP o_sifp1 o_sifp0 e_mChk e_bOf e_sSetP o_setp e_sRetP o_retp e_sRetPF e_sExpP o_expp e_sAsgP o_asgp e_sRev o_rev in_w3 e_tup2V o_tup2V e_chain o_chain_lt e_meth e_methO o_meth e_mk ix_tab ix_line len_tabD len_line isN_tb notN_tb isB_bb notB_bb itsS_ints slF_scr slL_scr len_intsL ix_intsL chk_intsL itsS_tab itsS_line e_thaw o_thaw e_retV o_retV itsS_lst itsS_tup setD0 setD0i setDS sld_va sld_io e_frz o_frz e_xC o_xc_t e_aIo o_aio e_sX o_sx e_retX o_retx e_tupV o_tupV1 g_tp2 bnd e_app o_app o_appI o_app1 o_app2 o_app3 o_app4 o_lst6 o_lst7 o_lst9 o_lst10 o_lst11 o_lst12 o_lst16 o_tup6 o_tup7 o_tup8 e_appV o_appV chk_tab chk_line listF_line listF_ints isi_ln isi_tb rng1_eq rng2_eq oDs oDn Option.isSome_some Option.isSome_none Option.isNone_some Option.isNone_none isva_vS isv0_vS isva_vK bq_tt bq_ff bq_tf bq_ft Int.toNat_natCast
local macro_rules | `(tactic| walk_at "ev") => `(tactic| simp (disch := first | omega | assumption) only [e_run, e_seq, e_nil, e_sif, e_ret, e_exp, e_set, e_aug, e_asg, e_for, e_bin, e_binL, e_sl, e_onone, e_osome, e_fl, e_call, e_callO, e_cb, e_b, e_ib, e_c, e_anil, e_acons, e_val, e_neg, e_not, e_and, e_or, e_qand, e_qor, e_qnot, e_qyes, e_eif, e_tup, e_lst, e_isi, e_var0, e_varS0, e_varS0', e_var0i, e_varS, e_varSS, o_b2, o_bL, o_b3, o_b1, o_cons, o_val, o_neg, o_not, o_and1, o_and0, o_or1, o_or0, o_andB1, o_andB0, o_orB1, o_orB0, o_and, o_or, o_andB, o_orB, o_notB, o_if1, o_if0, o_ifB, o_int, o_set, o_aug, o_ret, o_exp, o_seq, o_seqR, o_seqB, o_seqC, o_seqI, o_runI, o_tup1, o_tup2, o_tup3, o_tup4, o_tup5, o_lst0, o_lst1, o_lst2, o_lst3, o_lst4, o_lst5, o_lst8, o_asg, o_for, o_runR, o_runN, bmap, rep0, repS, set0, setS, get0, getS, isva, isun, isv0, isv0u, ix_t0, ix_t1, ix_t2, ix_t3, ix_t4, ix_l0, ix_l1, chk_tup, chk_lst, fl_nil, fl_cons, f_int, f_bl, f_str, f_non, f_tup, f_lst, full_w, full_o, chk_int, chk_bl, chk_non, chk_str, chk_ints, isi_ii, isi_ib, isi_bb, isi_tt, isi_ll, add_ii, sub_ii, lt_ii, le_ii, gt_ii, ge_ii, eq_ii, ne_ii, eq_bb, ne_bb, isN_n, isN_i, notN_n, notN_i, len_scr, len_lst, len_tup, gnm, forL_cons, o_loopN, o_loopC, o_loopB, o_loopR, o_loopI, o_body, decide_true, decide_false, Bool.false_eq_true, eq_self, wipe_nil, wipe_cons, forL_nil, mod_ii, div_s, mul_l, mul_r, ix_scr, ix_ints, l_most, l_least, l_same, l_unlike, l_set, l_ask, l_need, l_claim, l_if, l_while, l_else, l_end, l_plain, l_go, l_keep, l_put, mEq_w, mNe_w, chk_w, isi_sw, isN_w, notN_w, chk_o, isN_o, notN_o, reduceCtorEq, Int.cast_ofNat_Int, Bool.not_not,  List.map_cons, List.map_nil, List.cons_append, List.nil_append, List.length_cons, List.length_nil, if_true, if_false, Bool.not_true, Bool.not_false, decide_eq_true_eq, Nat.add_zero, Nat.zero_add, Nat.reduceAdd, Nat.reduceSub, Nat.sub_self, Nat.add_sub_cancel, reduceIte, Bool.true_and, Bool.and_true, Bool.false_and, Bool.and_false, Bool.true_or, Bool.or_true, Bool.false_or, Bool.or_false])

local macro_rules | `(tactic| walk_at "tb") => `(tactic| simp (disch := first | omega | assumption) only [e_run, e_seq, e_nil, e_sif, e_ret, e_exp, e_set, e_aug, e_asg, e_for, e_bin, e_binL, e_sl, e_onone, e_osome, e_fl, e_call, e_callO, e_cb, e_b, e_ib, e_c, e_anil, e_acons, e_val, e_neg, e_not, e_and, e_or, e_qand, e_qor, e_qnot, e_qyes, e_eif, e_tup, e_lst, e_isi, e_var0, e_varS0, e_varS0', e_var0i, e_varS, e_varSS, o_b2, o_bL, o_b3, o_b1, o_cons, o_val, o_neg, o_not, o_and1, o_and0, o_or1, o_or0, o_andB1, o_andB0, o_orB1, o_orB0, o_and, o_or, o_andB, o_orB, o_notB, o_if1, o_if0, o_ifB, o_int, o_set, o_aug, o_ret, o_exp, o_seq, o_seqR, o_seqB, o_seqC, o_seqI, o_runI, o_tup1, o_tup2, o_tup3, o_tup4, o_tup5, o_lst0, o_lst1, o_lst2, o_lst3, o_lst4, o_lst5, o_lst8, o_asg, o_for, o_runR, o_runN, bmap, rep0, repS, set0, setS, get0, getS, isva, isun, isv0, isv0u, ix_t0, ix_t1, ix_t2, ix_t3, ix_t4, ix_l0, ix_l1, chk_tup, chk_lst, fl_nil, fl_cons, f_int, f_bl, f_str, f_non, f_tup, f_lst, full_w, full_o, chk_int, chk_bl, chk_non, chk_str, chk_ints, isi_ii, isi_ib, isi_bb, isi_tt, isi_ll, add_ii, sub_ii, lt_ii, le_ii, gt_ii, ge_ii, eq_ii, ne_ii, eq_bb, ne_bb, isN_n, isN_i, notN_n, notN_i, len_scr, len_lst, len_tup, gnm, forL_cons, o_loopN, o_loopC, o_loopB, o_loopR, o_loopI, o_body, decide_true, decide_false, Bool.false_eq_true, eq_self, wipe_nil, wipe_cons, forL_nil, mod_ii, div_s, mul_l, mul_r, ix_scr, ix_ints, l_most, l_least, l_same, l_unlike, l_set, l_ask, l_need, l_claim, l_if, l_while, l_else, l_end, l_plain, l_go, l_keep, l_put, mEq_w, mNe_w, chk_w, isi_sw, isN_w, notN_w, chk_o, isN_o, notN_o, reduceCtorEq, Int.cast_ofNat_Int, Bool.not_not,  List.map_cons, List.map_nil, List.cons_append, List.nil_append, List.length_cons, List.length_nil, if_true, if_false, Bool.not_true, Bool.not_false, decide_eq_true_eq, Nat.add_zero, Nat.zero_add, Nat.reduceAdd, Nat.reduceSub, Nat.sub_self, Nat.add_sub_cancel, reduceIte, Bool.true_and, Bool.and_true, Bool.false_and, Bool.and_false, Bool.true_or, Bool.or_true, Bool.false_or, Bool.or_false, e_mb, o_mb, e_sSetN, noOwn_nil, noOwn_un, noOwn_va, noOwn_vS, e_xRaiseI, o_raisei, e_xIO, o_xioO, o_xioE, unS_nil, unS_none, unS_some, e_aLastX, o_alast, o_alastE, e_aConsX, o_acons, o_aconsE, e_eCallA, o_callaO, o_callaE, e_sTryKeep, o_trykO, o_trykE, o_tryk2, o_unsN, o_unsR, isN_exc, e_runX, o_runXr, o_runXn, o_runXe, e_xSeq, o_xseqN, o_xseqR, o_xseqE, e_xLift, o_lift, e_xSIf, e_xNil, e_xRaise0, e_eCallX, e_chkX, e_chkXe, o_ok, e_xSet, o_xset, o_xsetE, e_xExp, o_xexp, o_xexpE, e_xFor, o_xfor, forX_nil, o_xloopN, o_xloopR, o_xloopE, o_xbody, e_okR, e_okB, e_sTryOnly, o_tryO, o_tryE, o_try2, o_tup0, o_mp, e_xOf, e_yOf, e_xOne, o_one, e_xTwo, o_two, o_two2, e_zNil, e_zCons, o_zc0, o_zc, e_yAnd, e_yOr, o_yif1, o_yif0, e_sIfP, o_sifp1, o_sifp0, e_mChk, e_bOf, e_sSetP, o_setp, e_sRetP, o_retp, e_sRetPF, e_sExpP, o_expp, e_sAsgP, o_asgp, e_sRev, o_rev, in_w3, e_tup2V, o_tup2V, e_chain, o_chain_lt, e_meth, e_methO, o_meth, e_mk, ix_tab, ix_line, len_tabD, len_line, isN_tb, notN_tb, isB_bb, notB_bb, itsS_ints, slF_scr, slL_scr, len_intsL, ix_intsL, chk_intsL, itsS_tab, itsS_line, e_thaw, o_thaw, e_retV, o_retV, itsS_lst, itsS_tup, setD0, setD0i, setDS, sld_va, sld_io, e_frz, o_frz, e_xC, o_xc_t, e_aIo, o_aio, e_sX, o_sx, e_retX, o_retx, e_tupV, o_tupV1, g_tp2, bnd, e_app, o_app, o_appI, o_app1, o_app2, o_app3, o_app4, o_lst6, o_lst7, o_lst9, o_lst10, o_lst11, o_lst12, o_lst16, o_tup6, o_tup7, o_tup8, e_appV, o_appV, chk_tab, chk_line, listF_line, listF_ints, isi_ln, isi_tb, rng1_eq, rng2_eq, oDs, oDn, Option.isSome_some, Option.isSome_none, Option.isNone_some, Option.isNone_none, isva_vS, isv0_vS, isva_vK, bq_tt, bq_ff, bq_tf, bq_ft, Int.toNat_natCast])
local macro_rules | `(tactic| simp! [$ls,*]) => `(tactic| simp (disch := first | omega | assumption) only [e_run, e_seq, e_nil, e_sif, e_ret, e_exp, e_set, e_aug, e_asg, e_for, e_bin, e_binL, e_sl, e_onone, e_osome, e_fl, e_call, e_callO, e_cb, e_b, e_ib, e_c, e_anil, e_acons, e_val, e_neg, e_not, e_and, e_or, e_qand, e_qor, e_qnot, e_qyes, e_eif, e_tup, e_lst, e_isi, e_var0, e_varS0, e_varS0', e_var0i, e_varS, e_varSS, o_b2, o_bL, o_b3, o_b1, o_cons, o_val, o_neg, o_not, o_and1, o_and0, o_or1, o_or0, o_andB1, o_andB0, o_orB1, o_orB0, o_and, o_or, o_andB, o_orB, o_notB, o_if1, o_if0, o_ifB, o_int, o_set, o_aug, o_ret, o_exp, o_seq, o_seqR, o_seqB, o_seqC, o_seqI, o_runI, o_tup1, o_tup2, o_tup3, o_tup4, o_tup5, o_lst0, o_lst1, o_lst2, o_lst3, o_lst4, o_lst5, o_lst8, o_asg, o_for, o_runR, o_runN, bmap, rep0, repS, set0, setS, get0, getS, isva, isun, isv0, isv0u, ix_t0, ix_t1, ix_t2, ix_t3, ix_t4, ix_l0, ix_l1, chk_tup, chk_lst, fl_nil, fl_cons, f_int, f_bl, f_str, f_non, f_tup, f_lst, full_w, full_o, chk_int, chk_bl, chk_non, chk_str, chk_ints, isi_ii, isi_ib, isi_bb, isi_tt, isi_ll, add_ii, sub_ii, lt_ii, le_ii, gt_ii, ge_ii, eq_ii, ne_ii, eq_bb, ne_bb, isN_n, isN_i, notN_n, notN_i, len_scr, len_lst, len_tup, gnm, forL_cons, o_loopN, o_loopC, o_loopB, o_loopR, o_loopI, o_body, decide_true, decide_false, Bool.false_eq_true, eq_self, wipe_nil, wipe_cons, forL_nil, mod_ii, div_s, mul_l, mul_r, ix_scr, ix_ints, l_most, l_least, l_same, l_unlike, l_set, l_ask, l_need, l_claim, l_if, l_while, l_else, l_end, l_plain, l_go, l_keep, l_put, mEq_w, mNe_w, chk_w, isi_sw, isN_w, notN_w, chk_o, isN_o, notN_o, reduceCtorEq, Int.cast_ofNat_Int, Bool.not_not,  List.map_cons, List.map_nil, List.cons_append, List.nil_append, List.length_cons, List.length_nil, if_true, if_false, Bool.not_true, Bool.not_false, decide_eq_true_eq, Nat.add_zero, Nat.zero_add, Nat.reduceAdd, Nat.reduceSub, Nat.sub_self, Nat.add_sub_cancel, reduceIte, Bool.true_and, Bool.and_true, Bool.false_and, Bool.and_false, Bool.true_or, Bool.or_true, Bool.false_or, Bool.or_false, e_mb, o_mb, e_sSetN, noOwn_nil, noOwn_un, noOwn_va, noOwn_vS, e_xRaiseI, o_raisei, e_xIO, o_xioO, o_xioE, unS_nil, unS_none, unS_some, e_aLastX, o_alast, o_alastE, e_aConsX, o_acons, o_aconsE, e_eCallA, o_callaO, o_callaE, e_sTryKeep, o_trykO, o_trykE, o_tryk2, o_unsN, o_unsR, isN_exc, e_runX, o_runXr, o_runXn, o_runXe, e_xSeq, o_xseqN, o_xseqR, o_xseqE, e_xLift, o_lift, e_xSIf, e_xNil, e_xRaise0, e_eCallX, e_chkX, e_chkXe, o_ok, e_xSet, o_xset, o_xsetE, e_xExp, o_xexp, o_xexpE, e_xFor, o_xfor, forX_nil, o_xloopN, o_xloopR, o_xloopE, o_xbody, e_okR, e_okB, e_sTryOnly, o_tryO, o_tryE, o_try2, o_tup0, o_mp, e_xOf, e_yOf, e_xOne, o_one, e_xTwo, o_two, o_two2, e_zNil, e_zCons, o_zc0, o_zc, e_yAnd, e_yOr, o_yif1, o_yif0, e_sIfP, o_sifp1, o_sifp0, e_mChk, e_bOf, e_sSetP, o_setp, e_sRetP, o_retp, e_sRetPF, e_sExpP, o_expp, e_sAsgP, o_asgp, e_sRev, o_rev, in_w3, e_tup2V, o_tup2V, e_chain, o_chain_lt, e_meth, e_methO, o_meth, e_mk, ix_tab, ix_line, len_tabD, len_line, isN_tb, notN_tb, isB_bb, notB_bb, itsS_ints, slF_scr, slL_scr, len_intsL, ix_intsL, chk_intsL, itsS_tab, itsS_line, e_thaw, o_thaw, e_retV, o_retV, itsS_lst, itsS_tup, setD0, setD0i, setDS, sld_va, sld_io, e_frz, o_frz, e_xC, o_xc_t, e_aIo, o_aio, e_sX, o_sx, e_retX, o_retx, e_tupV, o_tupV1, g_tp2, bnd, e_app, o_app, o_appI, o_app1, o_app2, o_app3, o_app4, o_lst6, o_lst7, o_lst9, o_lst10, o_lst11, o_lst12, o_lst16, o_tup6, o_tup7, o_tup8, e_appV, o_appV, chk_tab, chk_line, listF_line, listF_ints, isi_ln, isi_tb, rng1_eq, rng2_eq, oDs, oDn, Option.isSome_some, Option.isSome_none, Option.isNone_some, Option.isNone_none, isva_vS, isv0_vS, isva_vK, bq_tt, bq_ff, bq_tf, bq_ft, Int.toNat_natCast, $ls,*])

def worthI (pt : List Int) (f : Int) : Int := if f % 2 = 1 then -(pt.getD (f / 2).toNat 0) else pt.getD (f / 2).toNat 0
def flipI (f : Int) : Int := f + 1 - f % 2 * 2
theorem flipI_nn {f : Int} (h : 0 ≤ f) : 0 ≤ flipI f := by unfold flipI; omega
theorem flipI_lt {f n : Int} (h : f < 2 * n) : flipI f < 2 * n := by unfold flipI; omega
theorem flipI_flip (f : Int) : flipI (flipI f) = f := by unfold flipI; omega
theorem xor_flip (f : Int) (h : 0 ≤ f) : Builtin.bitXor f 1 = flipI f := by
  rw [Bits.bitXor_pp h (by decide)]
  have h1 : (f.toNat ^^^ 1) / 2 = f.toNat / 2 := by rw [Nat.xor_div_two]; simp
  have h2 : (f.toNat ^^^ 1) % 2 = (f.toNat + 1) % 2 := by
    have := Nat.xor_mod_two_eq_one (a := f.toNat) (b := 1)
    omega
  show ((f.toNat ^^^ 1 : Nat) : Int) = _
  unfold flipI
  omega
theorem flip_worth (pt : List Int) (f : Int) : worthI pt (flipI f) = -worthI pt f := by
  unfold worthI flipI
  have e : (f + 1 - f % 2 * 2) / 2 = f / 2 := by omega
  rw [e]
  rcases Int.emod_two_eq f with h | h
  · rw [if_pos (by omega), if_neg (by omega)]
  · rw [if_neg (by omega), if_pos (by omega)]; omega
abbrev sideD (f g c : Int) : D := .tup [.int f, .int g, .int c]
abbrev qD (f : Int) (g : Option Int) (w : Wd) (c : Int) : D := .tup [.int f, oD g, wD w, .int c]
def qSum (pt : List Int) (f : Int) (g : Option Int) : Int := worthI pt f + (match g with | none => 0 | some g => worthI pt g)
/-- whether a sum meets a word and a number -/
def wdHolds (w : Wd) (s c : Int) : Bool := match w with
  | .most => decide (s ≤ c)
  | .least => decide (c ≤ s)
  | .same => decide (s = c)
  | _ => !decide (s = c)
def fOk (n : Int) (f : Int) : Prop := 0 ≤ f ∧ f < 2 * n
def gOk (n : Int) (g : Option Int) : Prop := ∀ x, g = some x → 0 ≤ x ∧ x < 2 * n

/-! ### names and words of sides -/
def NmOk (l : List Str) : Prop := ∀ z ∈ l, zOk 100 z
def nmS (l : List Str) (f : Int) : Str := strAt l (f / 2)
theorem nmS_ok {l : List Str} (h : NmOk l) {f : Int} (h0 : 0 ≤ f) (h1 : f < 2 * l.length) : zOk 100 (nmS l f) := h _ (strAt_mem (by omega) (by omega))
theorem ix_nm (l : List Str) (f : Int) (h0 : 0 ≤ f) (h1 : f < 2 * l.length) : mIx (strsD l) (.int (f / 2)) = some (.str (nmS l f)) := ix_strs l (f / 2) (by omega) (by omega)
def firstS (l : List Str) (f : Int) : Str := if f % 2 = 1 then Str.ofString "-" ++ nmS l f else nmS l f
def opS (f : Int) : Str := if f % 2 = 1 then Str.ofString "- " else Str.ofString "+ "
theorem zOk_lit (s : String) (b : Nat) (h : (Str.ofString s).length ≤ b := by decide +kernel) : zOk b (Str.ofString s) := zOk_of s b h
theorem firstS_ok {l : List Str} (h : NmOk l) {f : Int} (h0 : 0 ≤ f) (h1 : f < 2 * l.length) : zOk 101 (firstS l f) := by
  unfold firstS
  have n := nmS_ok h h0 h1
  split
  · exact ((zOk_lit "-" 1).app n).mono (by omega)
  · exact n.mono (by omega)
theorem opS_ok (f : Int) : zOk 2 (opS f) := by
  unfold opS
  split
  · exact zOk_lit "- " 2
  · exact zOk_lit "+ " 2
/-- a side in words -/
def sideS (l : List Str) (f g n : Int) : Str :=
  if f = g then firstS l f ++ Str.ofString " <= " ++ strI (n / 2)
  else firstS l f ++ Str.ofString " " ++ (opS g ++ nmS l g) ++ Str.ofString " <= " ++ strI n
def IntOk (n : Int) : Prop := n.natAbs < 2 ^ 1000
theorem IntOk.log {n : Int} (h : IntOk n) : n.natAbs.log2 < 1920 := Nat.lt_trans (log_small n 1000 h (by decide)) (by decide)
theorem IntOk.half {n : Int} (h : IntOk n) : IntOk (n / 2) := by unfold IntOk at *; omega
theorem sideS_ok {l : List Str} (h : NmOk l) {f g n : Int} (f0 : 0 ≤ f) (f1 : f < 2 * l.length) (g0 : 0 ≤ g) (g1 : g < 2 * l.length) (hn : IntOk n) : zOk 2200 (sideS l f g n) := by
  unfold sideS
  have a := firstS_ok h f0 f1
  have b := nmS_ok h g0 g1
  split
  · exact ((a.app (zOk_lit " <= " 4)).app (zOk_strI _ hn.half.log)).mono (by omega)
  · exact ((((a.app (zOk_lit " " 1)).app ((opS_ok g).app b)).app (zOk_lit " <= " 4)).app (zOk_strI _ hn.log)).mono (by omega)
theorem catO {a b : Nat} {x y : Str} (h : zOk a x) (k : zOk b y) (hab : a + b ≤ 16777216 := by omega) : mCatZ (.str x) (.str y) = some (.str (x ++ y)) := catZ _ _ (by have := h.1; have := k.1; omega)
theorem eq_str {a b : Nat} {x y : Str} (h : zOk a x) (k : zOk b y) : mEq (.str x) (.str y) = some (.bl (x == y)) := by
  show (if (shp (.str x) && shp (.str y)) = true then _ else _) = _
  rw [(ok_str h 0).shp (by decide), (ok_str k 0).shp (by decide)]; rfl

-- NEEDS: names
theorem show_first_eq (l : List Str) (h : NmOk l) (f : Int) (h0 : 0 ≤ f) (h1 : f < 2 * l.length) : m_show_first [strsD l, .int f] = some (.str (firstS l f)) := by
  have ix := ix_nm l f h0 h1
  have c1 := catO (zOk_lit "-" 1) (nmS_ok h h0 h1)
  unfold m_show_first g_show_first firstS
  generalize strsD l = L at *
  by_cases hc : f % 2 = 1
  · rw [if_pos hc]
    simp! [decide_eq_true hc, ix, c1]
    all_goals rfl
  · rw [if_neg hc]
    simp! [decide_eq_false hc, ix]
    all_goals rfl

theorem show_later_eq (l : List Str) (h : NmOk l) (f : Int) (h0 : 0 ≤ f) (h1 : f < 2 * l.length) : m_show_later [strsD l, .int f] = some (.str (opS f ++ nmS l f)) := by
  have ix := ix_nm l f h0 h1
  have c1 := catO (zOk_lit "- " 2) (nmS_ok h h0 h1)
  have c2 := catO (zOk_lit "+ " 2) (nmS_ok h h0 h1)
  unfold m_show_later g_show_later opS
  generalize strsD l = L at *
  by_cases hc : f % 2 = 1
  · rw [if_pos hc]
    simp! [decide_eq_true hc, ix, c1]
    all_goals rfl
  · rw [if_neg hc]
    simp! [decide_eq_false hc, ix, c2]
    all_goals rfl

theorem show_sum_two (l : List Str) (h : NmOk l) (f g : Int) (f0 : 0 ≤ f) (f1 : f < 2 * l.length) (g0 : 0 ≤ g) (g1 : g < 2 * l.length) : m_show_sum [strsD l, .int f, .int g] = some (.str (firstS l f ++ Str.ofString " " ++ (opS g ++ nmS l g))) := by
  have a := show_first_eq l h f f0 f1
  have b := show_later_eq l h g g0 g1
  have c1 := catO (firstS_ok h f0 f1) (zOk_lit " " 1)
  have c2 := catO ((firstS_ok h f0 f1).app (zOk_lit " " 1)) ((opS_ok g).app (nmS_ok h g0 g1))
  unfold m_show_sum g_show_sum
  generalize strsD l = L at *
  simp! [a, b, c1, c2]
  all_goals rfl
theorem show_sum_one (l : List Str) (h : NmOk l) (f : Int) (f0 : 0 ≤ f) (f1 : f < 2 * l.length) : m_show_sum [strsD l, .int f, .non] = some (.str (firstS l f)) := by
  have a := show_first_eq l h f f0 f1
  unfold m_show_sum g_show_sum
  generalize strsD l = L at *
  simp! [a]
  all_goals rfl

theorem show_side_eq (l : List Str) (h : NmOk l) (f g n : Int) (f0 : 0 ≤ f) (f1 : f < 2 * l.length) (g0 : 0 ≤ g) (g1 : g < 2 * l.length) (hn : IntOk n) : m_show_side [strsD l, sideD f g n] = some (.str (sideS l f g n)) := by
  have a := show_first_eq l h f f0 f1
  have b := show_sum_two l h f g f0 f1 g0 g1
  have s1 := strI_eq (n / 2) hn.half.log
  have s2 := strI_eq n hn.log
  have fo := firstS_ok h f0 f1
  have so := (fo.app (zOk_lit " " 1)).app ((opS_ok g).app (nmS_ok h g0 g1))
  have c1 := catO fo (zOk_lit " <= " 4)
  have c2 := catO (fo.app (zOk_lit " <= " 4)) (zOk_strI _ hn.half.log)
  have c3 := catO so (zOk_lit " <= " 4)
  have c4 := catO (so.app (zOk_lit " <= " 4)) (zOk_strI _ hn.log)
  unfold m_show_side g_show_side sideS
  generalize strsD l = L at *
  show fnRun 2 _ [L, .tup [.int f, .int g, .int n]] = _
  by_cases hc : f = g
  · rw [if_pos hc]
    simp! [decide_eq_true hc, a, s1, c1, c2]
    all_goals rfl
  · rw [if_neg hc]
    simp! [decide_eq_false hc, b, s2, c3, c4]
    all_goals rfl

-- SIMP: cell_eq
def cellV (ns : List Int) (k : Int) : Int :=
  if k < ns.length then ns.getD k.toNat 0 else
    let seed := if 0 < (ns.length : Int) then k * 7919 + ns.getD (k % ns.length).toNat 0 % 65537 else k * 7919
    let some := seed * 48271 % 65537
    some * (some + 2 * k + 1) / 7 % 65521
theorem cell_eq (ns : List Int) (k : Int) (hk : 0 ≤ k) : m_law_cell [.scr ns, .int k] = some (.int (cellV ns k)) := by
  unfold m_law_cell g_law_cell cellV
  by_cases h1 : k < ns.length
  · rw [if_pos h1]
    walk_at "ev"
    rw [if_pos h1]
  · rw [if_neg h1]
    by_cases h2 : 0 < (ns.length : Int)
    · have h3 := Int.emod_nonneg k (show (ns.length : Int) ≠ 0 by omega)
      have h4 := Int.emod_lt_of_pos k h2
      walk_at "ev"
      simp only [if_neg h1, if_pos h2]
    · walk_at "ev"
      simp only [if_neg h1, if_neg h2]

theorem spread_ex (c k : Int) (hk : 0 ≤ k) (hk2 : k < 100000) : ∃ x, m_law_spread [.int c, .int k] = some (.int x) := by
  unfold m_law_spread g_law_spread
  by_cases h : -1000 < c ∧ c < 1000
  · have h1 : (decide (-1000 < c) && decide (c < 1000)) = true := by rw [← Bool.decide_and]; exact decide_eq_true h
    obtain ⟨h2, h3⟩ := h
    have m1 : mMul (.int (c + 1000)) (.int (c + 1000 + 37 * k)) = some (.int ((c + 1000) * (c + 1000 + 37 * k))) := mul_l _ _ (by omega) (by omega)
    generalize (c + 1000) * (c + 1000 + 37 * k) = z at *
    refine ⟨(z + 911 * k) * 48271 % 1000003, ?_⟩
    simp! [h1, m1]
    all_goals rfl
  · have h1 : (decide (-1000 < c) && decide (c < 1000)) = false := by rw [← Bool.decide_and]; exact decide_eq_false h
    refine ⟨c, ?_⟩
    simp! [h1]
    all_goals rfl

theorem number_ex (c : Int) : ∃ x : Int, m_law_number [.int c] = some (.int x) ∧ -(10 ^ 60) ≤ x ∧ x ≤ 10 ^ 60 := by
  unfold m_law_number g_law_number
  have p60 : mPow (.int 10) (.int 60) = some (.int (10 ^ 60)) := pow_n 10 60 (by decide) (by decide) (by decide)
  have m2 : mMul (.int 2) (.int (10 ^ 60)) = some (.int (2 * 10 ^ 60)) := mul_l _ _ (by decide) (by decide)
  have hm : mMod (.int (c / 4)) (.int (2 * 10 ^ 60 + 1)) = some (.int (c / 4 % (2 * 10 ^ 60 + 1))) := mod_ii _ _ (by decide)
  by_cases h : c % 4 = 3
  · refine ⟨c / 4 % (2 * 10 ^ 60 + 1) - 10 ^ 60, ?_, by omega, by omega⟩
    simp! [decide_eq_true h, p60, m2, hm]
    all_goals rfl
  · refine ⟨c / 4 % 41 - 20, ?_, by omega, by omega⟩
    simp! [decide_eq_false h]
    all_goals rfl

theorem law_letter_ex (c : Int) : ∃ z : Str, m_law_letter [.int c] = some (.str z) ∧ zOk 1 z := by
  have hl : (Str.ofString "abcdefghijklmnopqrstuvwxyz").length = 26 := by decide +kernel
  have ho := zOk_lit "abcdefghijklmnopqrstuvwxyz" 26
  obtain ⟨x, hx, hm⟩ := ix_str (Str.ofString "abcdefghijklmnopqrstuvwxyz") (c % 26) (by omega) (by rw [hl]; omega) (by rw [hl]; omega)
  refine ⟨⟨#[x]⟩, ?_, zOk_one (ho.2 x (List.mem_of_getElem? hm))⟩
  unfold m_law_letter g_law_letter
  simp! [hx]
  all_goals rfl

theorem law_free_name_ex (c : Int) (l : List Str) (hl : NmOk l) (hn : l.length < 100) : ∃ z : Str, m_law_free_name [.int c, strsD l] = some (.str z) ∧ zOk 100 z := by
  obtain ⟨k, hk, hk8⟩ : ∃ k : Nat, c / 26 % 8 = (k : Int) ∧ k < 8 := ⟨(c / 26 % 8).toNat, by omega, by omega⟩
  obtain ⟨st1, e1, z, o3, hz, rfl⟩ := forL_pre (m := gNm 3) (b := b_law_free_name_1) (fun (pre : List Nat) st => ∃ (z : Str) (o3 : Option D), zOk pre.length z ∧ st = [.va 0 (.int c), .va 0 (strsD l), .va 0 (.str z), vS o3]) (fun (j : Nat) => D.int j) (List.range k) (fun pre a post ep st hst => by
    obtain ⟨z, o3, hz, rfl⟩ := hst
    obtain ⟨e1, e2, e3⟩ := range_split ep
    have h208 : 208 + 26 * (a : Int) ≠ 0 := by omega
    obtain ⟨x, hx, hxo⟩ := law_letter_ex (c / (208 + 26 * (a : Int)) + 5 * a)
    have hd : mDiv (.int c) (.int (208 + 26 * (a : Int))) = some (.int (c / (208 + 26 * (a : Int)))) := div_s _ _ (by omega) (by omega)
    have c1 := catO hz hxo (by omega)
    refine ⟨[.va 0 (.int c), .va 0 (strsD l), .va 0 (.str (z ++ x)), .va 0 (.int a)], .inl ?_, z ++ x, some _, by rw [List.length_append]; exact hz.app hxo, rfl⟩
    unfold b_law_free_name_1
    simp! [hd, hx, c1]
    all_goals rfl) [.va 0 (.int c), .va 0 (strsD l), .va 0 (.str Str.empty), .un] ⟨Str.empty, none, ⟨Nat.le_refl _, fun c hc => by cases hc⟩, rfl⟩
  rw [List.length_range] at hz
  have hz7 := hz.mono (show k ≤ 7 by omega)
  have second := forL_or (m := gNm 3) (b := b_law_free_name_2) (fun st => ∃ o3 : Option D, st = [.va 0 (.int c), .va 0 (strsD l), .va 0 (.str z), vS o3]) (fun _ => True) (fun d => ∃ w : Str, d = .str w ∧ zOk 100 w) (fun (j : Nat) => D.int j) (List.range (l.length + 1)) (fun a ha st hst => by
    obtain ⟨o3, rfl⟩ := hst
    obtain ⟨x, hx, hxo⟩ := law_letter_ex (c + a)
    have c1 := catO hxo hz7
    have nn := nin_strs (hxo.app hz7) hl
    generalize ((l.map D.str).any fun y => deq y (.str (x ++ z))) = b at nn
    cases b with
    | true =>
      refine .inl ⟨[.va 0 (.int c), .va 0 (strsD l), .va 0 (.str z), .va 0 (.int a)], ?_, ⟨some _, rfl⟩, trivial⟩
      unfold b_law_free_name_2
      generalize strsD l = L at *
      simp! [hx, c1, nn]
      all_goals rfl
    | false =>
      refine .inr ⟨.str (x ++ z), [.va 0 (.int c), .va 0 (strsD l), .va 0 (.str z), .va 0 (.int a)], ?_, x ++ z, rfl, (hxo.app hz7).mono (by omega)⟩
      unfold b_law_free_name_2
      generalize strsD l = L at *
      simp! [hx, c1, nn]
      all_goals rfl) [.va 0 (.int c), .va 0 (strsD l), .va 0 (.str z), vS o3] ⟨o3, rfl⟩
  have r1 : mRng1 (.int k) = some ((List.range k).map fun (i : Nat) => D.int (i : Int)) := by
    have := rng1_eq k (by omega) (by omega)
    rw [Int.toNat_natCast] at this
    exact this
  have r2 : mRng1 (.int ((l.length : Int) + 1)) = some ((List.range (l.length + 1)).map fun (i : Nat) => D.int (i : Int)) := by
    have := rng1_eq ((l.length : Int) + 1) (by omega) (by omega)
    rw [show ((l.length : Int) + 1).toNat = l.length + 1 by omega] at this
    exact this
  have ll := len_strs l
  have e0 : D.str "" = .str Str.empty := by
    have : (Str.ofString "") = Str.empty := by decide +kernel
    rw [← this]
  unfold m_law_free_name g_law_free_name
  rcases second with ⟨st2, e2, ⟨o3', rfl⟩, _⟩ | ⟨d, st2, e2, w, rfl, hw⟩
  · refine ⟨"none", ?_, zOk_lit "none" 100⟩
    generalize strsD l = L at *
    simp! [hk, r1, e0, e1, ll, r2, e2]
    all_goals rfl
  · refine ⟨w, ?_, hw⟩
    generalize strsD l = L at *
    simp! [hk, r1, e0, e1, ll, r2, e2]
    all_goals rfl

def words12 : List Str := [.ofString "set", .ofString "to", .ofString "from", .ofString "end", .ofString "names", .ofString "ask", .ofString "need", .ofString "else", .ofString "if", .ofString "while", .ofString "claim", .ofString "never"]
theorem words12_ok : NmOk words12 := fun z hz => by
  simp only [words12, List.mem_cons, List.not_mem_nil, or_false] at hz
  rcases hz with rfl | rfl | rfl | rfl | rfl | rfl | rfl | rfl | rfl | rfl | rfl | rfl <;> exact zOk_lit _ 100
theorem law_names_ex (ns : List Int) (a : Int) (n : Nat) (ha : 0 ≤ a) (ha2 : a < 1000) (hn : n ≤ 6) : ∃ l : List Str, m_law_names [.scr ns, .int a, .int n] = some (strsD l) ∧ l.length = n ∧ NmOk l := by
  have c0 := cell_eq ns a ha
  have c1 := cell_eq ns (a + 1) (by omega)
  have c2 := fun k : Nat => cell_eq ns (a + 2 + k) (by omega)
  obtain ⟨c, hc⟩ := spread_ex (cellV ns a) 0 (by omega) (by omega)
  generalize cellV ns a = x0 at *
  generalize cellV ns (a + 1) = x1 at *
  obtain ⟨size, hs, s1, s8⟩ : ∃ s : Nat, 1 + c / 4 % 8 = (s : Int) ∧ 1 ≤ s ∧ s ≤ 8 := ⟨(1 + c / 4 % 8).toNat, by omega, by omega, by omega⟩
  have sz : (size : Int) ≠ 0 := by omega
  generalize hp : c / 32 % (size : Int) = p
  -- the letters of the rest
  have lets : ∃ ys : List Str, c_law_names_1 [.va 0 (.scr ns), .va 0 (.int a), .va 0 (.int n), .va 0 (.int c), .va 0 (strsD words12), .va 0 (.int size), .va 0 (.int p), .un, .un, .un, .un] = some (strsD ys) ∧ ys.length = size ∧ ∀ z ∈ ys, zOk 1 z := by
    have pick : ∀ i : Nat, ∃ z : Str, m_law_letter [.int (x1 / ((i : Int) + 1))] = some (.str z) ∧ zOk 1 z := fun i => law_letter_ex _
    obtain ⟨pk, hpk⟩ : ∃ pk : Nat → Str, ∀ i : Nat, m_law_letter [.int (x1 / ((i : Int) + 1))] = some (.str (pk i)) ∧ zOk 1 (pk i) := ⟨fun i => Classical.choose (pick i), fun i => Classical.choose_spec (pick i)⟩
    refine ⟨(List.range size).map pk, ?_, by rw [List.length_map, List.length_range], fun z hz => ?_⟩
    · unfold c_law_names_1
      rw [lc_map (fun (i : Nat) => D.int i) (fun i => D.str (pk i)) (List.range size) ?_ rfl (by rw [List.length_range]; omega) fun i hi => ⟨_, rfl, rfl, ?_⟩]
      · show _ = some (D.lst (List.map D.str (List.map pk (List.range size))))
        rw [List.map_map]; rfl
      · walk_at "ev"
        have := rng1_eq size (by omega) (by omega)
        rw [Int.toNat_natCast] at this
        exact this
      · have hd : mDiv (.int x1) (.int ((i : Int) + 1)) = some (.int (x1 / ((i : Int) + 1))) := div_s _ _ (by omega) (by have := List.mem_range.mp hi; omega)
        have h1 := (hpk i).1
        simp! [c1, hd, h1]
        all_goals rfl
    · obtain ⟨i, _, rfl⟩ := List.mem_map.mp hz
      exact (hpk i).2
  obtain ⟨ys, hys, yl, yo⟩ := lets
  have e0 : D.str "" = .str Str.empty := by
    have : (Str.ofString "") = Str.empty := by decide +kernel
    rw [← this]
  have ze : zOk 0 Str.empty := ⟨Nat.le_refl _, fun c hc => by cases hc⟩
  have hj := join_eq Str.empty ys (by
    have := sum_le ys 1 fun z hz => (yo z hz).1
    have : Str.empty.length = 0 := rfl
    rw [this]; omega)
  have jo := (zOk_join ze yo).mono (show ys.length * (0 + 1) ≤ 8 by omega)
  generalize Txt.join Str.empty ys = rest at *
  obtain ⟨st', e, l, o9, o10, hl, lo, rfl⟩ := forL_pre (m := gNm 9) (b := b_law_names_1) (fun (pre : List Nat) st => ∃ (l : List Str) (o9 o10 : Option D), l.length = pre.length ∧ NmOk l ∧ st = [.va 0 (.scr ns), .va 0 (.int a), .va 0 (.int n), .va 0 (.int c), .va 0 (strsD words12), .va 0 (.int size), .va 0 (.int p), .va 0 (.str rest), .va 1 (strsD l), vS o9, vS o10]) (fun (j : Nat) => D.int j) (List.range n) (fun pre k post ep st hst => by
    obtain ⟨l, o9, o10, hl, lo, rfl⟩ := hst
    obtain ⟨e1, e2, e3⟩ := range_split ep
    have okA : ∀ z : Str, zOk 100 z → NmOk (l ++ [z]) := fun z hz y hy => by
      rcases List.mem_append.mp hy with hy | hy
      · exact lo y hy
      · obtain rfl := List.mem_singleton.mp hy
        exact hz
    have ap := fun (z : Str) (st : Sl) => app_strs 8 st l z (by omega)
    have lenA : ∀ z : Str, (l ++ [z]).length = (pre ++ [k]).length := fun z => by rw [List.length_append, List.length_append, hl]; rfl
    by_cases h0 : c % 4 = 0
    · have iw := ix_strs words12 ((c / 4 + k * 5) % 12) (by omega) (by show _ < ((12 : Nat) : Int); omega)
      have wo := words12_ok _ (strAt_mem (l := words12) (i := (c / 4 + k * 5) % 12) (by omega) (by show _ < ((12 : Nat) : Int); omega))
      generalize strAt words12 ((c / 4 + k * 5) % 12) = z at *
      have ap := ap z
      generalize hA : strsD (l ++ [z]) = A at *
      refine ⟨[.va 0 (.scr ns), .va 0 (.int a), .va 0 (.int n), .va 0 (.int c), .va 0 (strsD words12), .va 0 (.int size), .va 0 (.int p), .va 0 (.str rest), .va 1 A, .va 0 (.int k), vS o10], .inl ?_, l ++ [z], some _, o10, lenA z, okA z wo, by rw [hA]; rfl⟩
      unfold b_law_names_1
      generalize strsD words12 = W at *
      generalize strsD l = L at *
      simp! [decide_eq_true h0, iw, ap]
      all_goals rfl
    · by_cases h1 : c % 4 = 1
      · obtain ⟨x, hx, hxo⟩ := law_letter_ex (c / 256 + 3 * k)
        have s1 := slZ rest none (some p) (by have := jo.1; omega)
        have s2 := slZ rest (some (p + 1)) none (by have := jo.1; omega)
        have co := ((jo.cut none (some p)).app hxo).app (jo.cut (some (p + 1)) none)
        have k1 := catO (jo.cut none (some p)) hxo
        have k2 := catO ((jo.cut none (some p)).app hxo) (jo.cut (some (p + 1)) none)
        have ap := ap (L2.cutS rest none (some p) ++ x ++ L2.cutS rest (some (p + 1)) none)
        have lA := lenA (L2.cutS rest none (some p) ++ x ++ L2.cutS rest (some (p + 1)) none)
        have oA := okA _ (co.mono (by omega))
        generalize L2.cutS rest none (some p) ++ x ++ L2.cutS rest (some (p + 1)) none = z at *
        generalize hA : strsD (l ++ [z]) = A at *
        refine ⟨[.va 0 (.scr ns), .va 0 (.int a), .va 0 (.int n), .va 0 (.int c), .va 0 (strsD words12), .va 0 (.int size), .va 0 (.int p), .va 0 (.str rest), .va 1 A, .va 0 (.int k), .va 0 (.str x)], .inl ?_, l ++ [z], some _, some _, lA, oA, by rw [hA]; rfl⟩
        unfold b_law_names_1
        generalize strsD words12 = W at *
        generalize strsD l = L at *
        simp! [decide_eq_false h0, decide_eq_true h1, hx, s1, s2, k1, k2, ap]
        all_goals rfl
      · have cc := c2 k
        obtain ⟨y, hy⟩ := spread_ex (cellV ns (a + 2 + k)) k (by omega) (by omega)
        generalize cellV ns (a + 2 + k) = q at *
        obtain ⟨z, hz, zo⟩ := law_free_name_ex y l lo (by omega)
        have ap := ap z
        generalize hA : strsD (l ++ [z]) = A at *
        refine ⟨[.va 0 (.scr ns), .va 0 (.int a), .va 0 (.int n), .va 0 (.int c), .va 0 (strsD words12), .va 0 (.int size), .va 0 (.int p), .va 0 (.str rest), .va 1 A, .va 0 (.int k), vS o10], .inl ?_, l ++ [z], some _, o10, lenA z, okA z zo, by rw [hA]; rfl⟩
        unfold b_law_names_1
        generalize strsD words12 = W at *
        generalize strsD l = L at *
        simp! [decide_eq_false h0, decide_eq_false h1, cc, hy, hz, ap]
        all_goals rfl) [.va 0 (.scr ns), .va 0 (.int a), .va 0 (.int n), .va 0 (.int c), .va 0 (strsD words12), .va 0 (.int size), .va 0 (.int p), .va 0 (.str rest), .va 1 (.lst []), .un, .un] ⟨[], none, none, rfl, fun z hz => (by cases hz), rfl⟩
  rw [List.length_range] at hl
  refine ⟨l, ?_, hl, lo⟩
  have r1 : mRng1 (.int n) = some ((List.range n).map fun (i : Nat) => D.int (i : Int)) := by
    have := rng1_eq n (by omega) (by omega)
    rw [Int.toNat_natCast] at this
    exact this
  have hW : D.lst [wD .set_, .str "to", .str "from", wD .end_, .str "names", wD .ask, wD .need, wD .else_, wD .if_, wD .while_, wD .claim, .str "never"] = strsD words12 := rfl
  unfold m_law_names g_law_names t_law_names_1 t_law_names_2 t_law_names_3 t_law_names_4 t_law_names_5 t_law_names_6 t_law_names_7
  generalize strsD words12 = W at *
  simp! [c0, hc, hW, hs, sz, hp, hys, e0, hj, r1, e]
  all_goals rfl

theorem law_term_eq (l : List Str) (f : Int) (h0 : 0 ≤ f) (h1 : f < 2 * l.length) : m_law_term [strsD l, .int f] = some (.lst [.str (opS f), .str (nmS l f)]) := by
  have ix := ix_nm l f h0 h1
  unfold m_law_term g_law_term opS
  generalize strsD l = L at *
  by_cases hc : f % 2 = 1
  · rw [if_pos hc]
    simp! [decide_eq_true hc, ix]
    all_goals rfl
  · rw [if_neg hc]
    simp! [decide_eq_false hc, ix]
    all_goals rfl

theorem law_words_eq (l : List Str) (h : NmOk l) (f g n : Int) (f0 : 0 ≤ f) (f1 : f < 2 * l.length) (g0 : 0 ≤ g) (g1 : g < 2 * l.length) (hn : IntOk n) : m_law_words [strsD l, sideD f g n] = some (.str (sideS l f g n)) := by
  have a := law_term_eq l f f0 f1
  have b := law_term_eq l g g0 g1
  have s1 := strI_eq (n / 2) hn.half.log
  have s2 := strI_eq n hn.log
  have fo := firstS_ok h f0 f1
  have no := nmS_ok h f0 f1
  have c1 := catO fo (zOk_lit " <= " 4)
  have c2 := catO (fo.app (zOk_lit " <= " 4)) (zOk_strI _ hn.half.log)
  have s1o := fo.app (zOk_lit " " 1)
  have c3 := catO fo (zOk_lit " " 1)
  have c4 := catO s1o (opS_ok g)
  have c5 := catO (s1o.app (opS_ok g)) (nmS_ok h g0 g1)
  have c6 := catO ((s1o.app (opS_ok g)).app (nmS_ok h g0 g1)) (zOk_lit " <= " 4)
  have c7 := catO (((s1o.app (opS_ok g)).app (nmS_ok h g0 g1)).app (zOk_lit " <= " 4)) (zOk_strI _ hn.log)
  have cm := catO (zOk_lit "-" 1) no
  have rest : ∀ d2 : D, orun (t_law_words_3 [.va 0 (strsD l), .va 0 (sideD f g n), .va 0 d2, .va 0 (.str (firstS l f)), .un]) = some (.str (sideS l f g n)) := fun d2 => by
    unfold t_law_words_3 t_law_words_4 t_law_words_5 sideS
    have i0 : mIx (sideD f g n) (.int 0) = some (.int f) := rfl
    have i1 : mIx (sideD f g n) (.int 1) = some (.int g) := rfl
    have i2 : mIx (sideD f g n) (.int 2) = some (.int n) := rfl
    generalize sideD f g n = S at *
    generalize strsD l = L at *
    by_cases hc : f = g
    · rw [if_pos hc]
      simp! [i0, i1, i2, decide_eq_true hc, s1, c1, c2]
      all_goals rfl
    · rw [if_neg hc]
      rw [← Str.app_assoc]
      simp! [i0, i1, i2, decide_eq_false hc, b, s2, c3, c4, c5, c6, c7]
      all_goals rfl
  have i0 : mIx (sideD f g n) (.int 0) = some (.int f) := rfl
  unfold m_law_words g_law_words t_law_words_1 t_law_words_2
  by_cases hc : f % 2 = 1
  · have o1 : opS f = Str.ofString "- " := if_pos hc
    have f1' : firstS l f = Str.ofString "-" ++ nmS l f := if_pos hc
    have eq : mEq (.str (Str.ofString "- ")) (.str (Str.ofString "- ")) = some (.bl true) := by
      rw [eq_str (zOk_lit "- " 2) (zOk_lit "- " 2)]
      exact congrArg (fun b => some (D.bl b)) (by decide +kernel)
    rw [o1] at a
    have rest := rest (.lst [.str (Str.ofString "- "), .str (nmS l f)])
    rw [f1'] at rest
    generalize sideD f g n = S at *
    generalize strsD l = L at *
    simp! [i0, a, eq, cm]
    exact rest
  · have o1 : opS f = Str.ofString "+ " := if_neg hc
    have f1' : firstS l f = nmS l f := if_neg hc
    have eq : mEq (.str (Str.ofString "+ ")) (.str (Str.ofString "- ")) = some (.bl false) := by
      rw [eq_str (zOk_lit "+ " 2) (zOk_lit "- " 2)]
      exact congrArg (fun b => some (D.bl b)) (by decide +kernel)
    rw [o1] at a
    have rest := rest (.lst [.str (Str.ofString "+ "), .str (nmS l f)])
    rw [f1'] at rest
    generalize sideD f g n = S at *
    generalize strsD l = L at *
    simp! [i0, a, eq]
    exact rest

theorem law_side_ex (c k : Int) (n : Nat) (hk : 0 ≤ k) (hk2 : k < 1000) (h1 : 1 ≤ n) (h6 : n ≤ 6) : ∃ f g z : Int, m_law_side [.int c, .int k, .int n] = some (sideD f g z) ∧ 0 ≤ f ∧ f < 2 * n ∧ 0 ≤ g ∧ g < 2 * n ∧ IntOk z := by
  obtain ⟨x, hx⟩ := spread_ex c k hk (by omega)
  obtain ⟨y, hy, y0, y1⟩ := number_ex (x / 576)
  have f0 := Int.emod_nonneg x (show 2 * (n : Int) ≠ 0 by omega)
  have f1 := Int.emod_lt_of_pos x (show 0 < 2 * (n : Int) by omega)
  generalize hf : x % (2 * (n : Int)) = f at *
  have g0 := Int.emod_nonneg (f / 2 + 1 + x / 12 % n) (show (n : Int) ≠ 0 by omega)
  have g1 := Int.emod_lt_of_pos (f / 2 + 1 + x / 12 % n) (show 0 < (n : Int) by omega)
  have n0 : (n : Int) ≠ 0 := by omega
  have n2 : 2 * (n : Int) ≠ 0 := by omega
  generalize hq : x / 12 % (n : Int) = q at *
  generalize hg : (f / 2 + 1 + q) % (n : Int) = g at *
  generalize hG : g * 2 + x / 72 % 2 = G at *
  have big : ∀ z : Int, -(2 * 10 ^ 60) ≤ z → z ≤ 2 * 10 ^ 60 → IntOk z := fun z a b => by
    unfold IntOk
    have : (2 : Nat) * 10 ^ 60 < 2 ^ 1000 := by decide +kernel
    refine Nat.lt_of_le_of_lt ?_ this
    omega
  unfold m_law_side g_law_side t_law_side_1 t_law_side_2 t_law_side_3 t_law_side_4 t_law_side_5
  have m2 : mMul (.int 2) (.int y) = some (.int (2 * y)) := mul_l _ _ (by omega) (by omega)
  by_cases h1 : G / 2 = f / 2
  · refine ⟨f, f, 2 * y, ?_, f0, f1, f0, f1, big _ (by omega) (by omega)⟩
    simp! [hx, n0, n2, hf, hq, hg, hG, hy, decide_eq_true h1, m2]
    all_goals rfl
  · by_cases h2 : x / 144 % 4 = 0
    · refine ⟨f, f, 2 * y, ?_, f0, f1, f0, f1, big _ (by omega) (by omega)⟩
      simp! [hx, n0, n2, hf, hq, hg, hG, hy, decide_eq_false h1, decide_eq_true h2, m2]
      all_goals rfl
    · refine ⟨f, G, y, ?_, f0, f1, by omega, by omega, big _ (by omega) (by omega)⟩
      simp! [hx, n0, n2, hf, hq, hg, hG, hy, decide_eq_false h1, decide_eq_false h2]
      all_goals rfl

end K50
namespace K50
open PySem PySem.Spec PyProof.Rows FL
local macro_rules | `(tactic| walk_at "ev") => `(tactic| simp (disch := first | omega | assumption) only [e_run, e_seq, e_nil, e_sif, e_ret, e_exp, e_set, e_aug, e_asg, e_for, e_bin, e_binL, e_sl, e_onone, e_osome, e_fl, e_call, e_callO, e_cb, e_b, e_ib, e_c, e_anil, e_acons, e_val, e_neg, e_not, e_and, e_or, e_qand, e_qor, e_qnot, e_qyes, e_eif, e_tup, e_lst, e_isi, e_var0, e_varS0, e_varS0', e_var0i, e_varS, e_varSS, o_b2, o_bL, o_b3, o_b1, o_cons, o_val, o_neg, o_not, o_and1, o_and0, o_or1, o_or0, o_andB1, o_andB0, o_orB1, o_orB0, o_and, o_or, o_andB, o_orB, o_notB, o_if1, o_if0, o_ifB, o_int, o_set, o_aug, o_ret, o_exp, o_seq, o_seqR, o_seqB, o_seqC, o_seqI, o_runI, o_tup1, o_tup2, o_tup3, o_tup4, o_tup5, o_lst0, o_lst1, o_lst2, o_lst3, o_lst4, o_lst5, o_lst8, o_asg, o_for, o_runR, o_runN, bmap, rep0, repS, set0, setS, get0, getS, isva, isun, isv0, isv0u, ix_t0, ix_t1, ix_t2, ix_t3, ix_t4, ix_l0, ix_l1, chk_tup, chk_lst, fl_nil, fl_cons, f_int, f_bl, f_str, f_non, f_tup, f_lst, full_w, full_o, chk_int, chk_bl, chk_non, chk_str, chk_ints, isi_ii, isi_ib, isi_bb, isi_tt, isi_ll, add_ii, sub_ii, lt_ii, le_ii, gt_ii, ge_ii, eq_ii, ne_ii, eq_bb, ne_bb, isN_n, isN_i, notN_n, notN_i, len_scr, len_lst, len_tup, gnm, forL_cons, o_loopN, o_loopC, o_loopB, o_loopR, o_loopI, o_body, decide_true, decide_false, Bool.false_eq_true, eq_self, wipe_nil, wipe_cons, forL_nil, mod_ii, div_s, mul_l, mul_r, ix_scr, ix_ints, l_most, l_least, l_same, l_unlike, l_set, l_ask, l_need, l_claim, l_if, l_while, l_else, l_end, l_plain, l_go, l_keep, l_put, mEq_w, mNe_w, chk_w, isi_sw, isN_w, notN_w, chk_o, isN_o, notN_o, reduceCtorEq, Int.cast_ofNat_Int, Bool.not_not,  List.map_cons, List.map_nil, List.cons_append, List.nil_append, List.length_cons, List.length_nil, if_true, if_false, Bool.not_true, Bool.not_false, decide_eq_true_eq, Nat.add_zero, Nat.zero_add, Nat.reduceAdd, Nat.reduceSub, Nat.sub_self, Nat.add_sub_cancel, reduceIte, Bool.true_and, Bool.and_true, Bool.false_and, Bool.and_false, Bool.true_or, Bool.or_true, Bool.false_or, Bool.or_false])
local macro_rules | `(tactic| walk_at "tb") => `(tactic| simp (disch := first | omega | assumption) only [e_run, e_seq, e_nil, e_sif, e_ret, e_exp, e_set, e_aug, e_asg, e_for, e_bin, e_binL, e_sl, e_onone, e_osome, e_fl, e_call, e_callO, e_cb, e_b, e_ib, e_c, e_anil, e_acons, e_val, e_neg, e_not, e_and, e_or, e_qand, e_qor, e_qnot, e_qyes, e_eif, e_tup, e_lst, e_isi, e_var0, e_varS0, e_varS0', e_var0i, e_varS, e_varSS, o_b2, o_bL, o_b3, o_b1, o_cons, o_val, o_neg, o_not, o_and1, o_and0, o_or1, o_or0, o_andB1, o_andB0, o_orB1, o_orB0, o_and, o_or, o_andB, o_orB, o_notB, o_if1, o_if0, o_ifB, o_int, o_set, o_aug, o_ret, o_exp, o_seq, o_seqR, o_seqB, o_seqC, o_seqI, o_runI, o_tup1, o_tup2, o_tup3, o_tup4, o_tup5, o_lst0, o_lst1, o_lst2, o_lst3, o_lst4, o_lst5, o_lst8, o_asg, o_for, o_runR, o_runN, bmap, rep0, repS, set0, setS, get0, getS, isva, isun, isv0, isv0u, ix_t0, ix_t1, ix_t2, ix_t3, ix_t4, ix_l0, ix_l1, chk_tup, chk_lst, fl_nil, fl_cons, f_int, f_bl, f_str, f_non, f_tup, f_lst, full_w, full_o, chk_int, chk_bl, chk_non, chk_str, chk_ints, isi_ii, isi_ib, isi_bb, isi_tt, isi_ll, add_ii, sub_ii, lt_ii, le_ii, gt_ii, ge_ii, eq_ii, ne_ii, eq_bb, ne_bb, isN_n, isN_i, notN_n, notN_i, len_scr, len_lst, len_tup, gnm, forL_cons, o_loopN, o_loopC, o_loopB, o_loopR, o_loopI, o_body, decide_true, decide_false, Bool.false_eq_true, eq_self, wipe_nil, wipe_cons, forL_nil, mod_ii, div_s, mul_l, mul_r, ix_scr, ix_ints, l_most, l_least, l_same, l_unlike, l_set, l_ask, l_need, l_claim, l_if, l_while, l_else, l_end, l_plain, l_go, l_keep, l_put, mEq_w, mNe_w, chk_w, isi_sw, isN_w, notN_w, chk_o, isN_o, notN_o, reduceCtorEq, Int.cast_ofNat_Int, Bool.not_not,  List.map_cons, List.map_nil, List.cons_append, List.nil_append, List.length_cons, List.length_nil, if_true, if_false, Bool.not_true, Bool.not_false, decide_eq_true_eq, Nat.add_zero, Nat.zero_add, Nat.reduceAdd, Nat.reduceSub, Nat.sub_self, Nat.add_sub_cancel, reduceIte, Bool.true_and, Bool.and_true, Bool.false_and, Bool.and_false, Bool.true_or, Bool.or_true, Bool.false_or, Bool.or_false, e_mb, o_mb, e_sSetN, noOwn_nil, noOwn_un, noOwn_va, noOwn_vS, e_xRaiseI, o_raisei, e_xIO, o_xioO, o_xioE, unS_nil, unS_none, unS_some, e_aLastX, o_alast, o_alastE, e_aConsX, o_acons, o_aconsE, e_eCallA, o_callaO, o_callaE, e_sTryKeep, o_trykO, o_trykE, o_tryk2, o_unsN, o_unsR, isN_exc, e_runX, o_runXr, o_runXn, o_runXe, e_xSeq, o_xseqN, o_xseqR, o_xseqE, e_xLift, o_lift, e_xSIf, e_xNil, e_xRaise0, e_eCallX, e_chkX, e_chkXe, o_ok, e_xSet, o_xset, o_xsetE, e_xExp, o_xexp, o_xexpE, e_xFor, o_xfor, forX_nil, o_xloopN, o_xloopR, o_xloopE, o_xbody, e_okR, e_okB, e_sTryOnly, o_tryO, o_tryE, o_try2, o_tup0, o_mp, e_xOf, e_yOf, e_xOne, o_one, e_xTwo, o_two, o_two2, e_zNil, e_zCons, o_zc0, o_zc, e_yAnd, e_yOr, o_yif1, o_yif0, e_sIfP, o_sifp1, o_sifp0, e_mChk, e_bOf, e_sSetP, o_setp, e_sRetP, o_retp, e_sRetPF, e_sExpP, o_expp, e_sAsgP, o_asgp, e_sRev, o_rev, in_w3, e_tup2V, o_tup2V, e_chain, o_chain_lt, e_meth, e_methO, o_meth, e_mk, ix_tab, ix_line, len_tabD, len_line, isN_tb, notN_tb, isB_bb, notB_bb, itsS_ints, slF_scr, slL_scr, len_intsL, ix_intsL, chk_intsL, itsS_tab, itsS_line, e_thaw, o_thaw, e_retV, o_retV, itsS_lst, itsS_tup, setD0, setD0i, setDS, sld_va, sld_io, e_frz, o_frz, e_xC, o_xc_t, e_aIo, o_aio, e_sX, o_sx, e_retX, o_retx, e_tupV, o_tupV1, g_tp2, bnd, e_app, o_app, o_appI, o_app1, o_app2, o_app3, o_app4, o_lst6, o_lst7, o_lst9, o_lst10, o_lst11, o_lst12, o_lst16, o_tup6, o_tup7, o_tup8, e_appV, o_appV, chk_tab, chk_line, listF_line, listF_ints, isi_ln, isi_tb, rng1_eq, rng2_eq, oDs, oDn, Option.isSome_some, Option.isSome_none, Option.isNone_some, Option.isNone_none, isva_vS, isv0_vS, isva_vK, bq_tt, bq_ff, bq_tf, bq_ft, Int.toNat_natCast])
local macro_rules | `(tactic| simp! [$ls,*]) => `(tactic| simp (disch := first | omega | assumption) only [e_run, e_seq, e_nil, e_sif, e_ret, e_exp, e_set, e_aug, e_asg, e_for, e_bin, e_binL, e_sl, e_onone, e_osome, e_fl, e_call, e_callO, e_cb, e_b, e_ib, e_c, e_anil, e_acons, e_val, e_neg, e_not, e_and, e_or, e_qand, e_qor, e_qnot, e_qyes, e_eif, e_tup, e_lst, e_isi, e_var0, e_varS0, e_varS0', e_var0i, e_varS, e_varSS, o_b2, o_bL, o_b3, o_b1, o_cons, o_val, o_neg, o_not, o_and1, o_and0, o_or1, o_or0, o_andB1, o_andB0, o_orB1, o_orB0, o_and, o_or, o_andB, o_orB, o_notB, o_if1, o_if0, o_ifB, o_int, o_set, o_aug, o_ret, o_exp, o_seq, o_seqR, o_seqB, o_seqC, o_seqI, o_runI, o_tup1, o_tup2, o_tup3, o_tup4, o_tup5, o_lst0, o_lst1, o_lst2, o_lst3, o_lst4, o_lst5, o_lst8, o_asg, o_for, o_runR, o_runN, bmap, rep0, repS, set0, setS, get0, getS, isva, isun, isv0, isv0u, ix_t0, ix_t1, ix_t2, ix_t3, ix_t4, ix_l0, ix_l1, chk_tup, chk_lst, fl_nil, fl_cons, f_int, f_bl, f_str, f_non, f_tup, f_lst, full_w, full_o, chk_int, chk_bl, chk_non, chk_str, chk_ints, isi_ii, isi_ib, isi_bb, isi_tt, isi_ll, add_ii, sub_ii, lt_ii, le_ii, gt_ii, ge_ii, eq_ii, ne_ii, eq_bb, ne_bb, isN_n, isN_i, notN_n, notN_i, len_scr, len_lst, len_tup, gnm, forL_cons, o_loopN, o_loopC, o_loopB, o_loopR, o_loopI, o_body, decide_true, decide_false, Bool.false_eq_true, eq_self, wipe_nil, wipe_cons, forL_nil, mod_ii, div_s, mul_l, mul_r, ix_scr, ix_ints, l_most, l_least, l_same, l_unlike, l_set, l_ask, l_need, l_claim, l_if, l_while, l_else, l_end, l_plain, l_go, l_keep, l_put, mEq_w, mNe_w, chk_w, isi_sw, isN_w, notN_w, chk_o, isN_o, notN_o, reduceCtorEq, Int.cast_ofNat_Int, Bool.not_not,  List.map_cons, List.map_nil, List.cons_append, List.nil_append, List.length_cons, List.length_nil, if_true, if_false, Bool.not_true, Bool.not_false, decide_eq_true_eq, Nat.add_zero, Nat.zero_add, Nat.reduceAdd, Nat.reduceSub, Nat.sub_self, Nat.add_sub_cancel, reduceIte, Bool.true_and, Bool.and_true, Bool.false_and, Bool.and_false, Bool.true_or, Bool.or_true, Bool.false_or, Bool.or_false, e_mb, o_mb, e_sSetN, noOwn_nil, noOwn_un, noOwn_va, noOwn_vS, e_xRaiseI, o_raisei, e_xIO, o_xioO, o_xioE, unS_nil, unS_none, unS_some, e_aLastX, o_alast, o_alastE, e_aConsX, o_acons, o_aconsE, e_eCallA, o_callaO, o_callaE, e_sTryKeep, o_trykO, o_trykE, o_tryk2, o_unsN, o_unsR, isN_exc, e_runX, o_runXr, o_runXn, o_runXe, e_xSeq, o_xseqN, o_xseqR, o_xseqE, e_xLift, o_lift, e_xSIf, e_xNil, e_xRaise0, e_eCallX, e_chkX, e_chkXe, o_ok, e_xSet, o_xset, o_xsetE, e_xExp, o_xexp, o_xexpE, e_xFor, o_xfor, forX_nil, o_xloopN, o_xloopR, o_xloopE, o_xbody, e_okR, e_okB, e_sTryOnly, o_tryO, o_tryE, o_try2, o_tup0, o_mp, e_xOf, e_yOf, e_xOne, o_one, e_xTwo, o_two, o_two2, e_zNil, e_zCons, o_zc0, o_zc, e_yAnd, e_yOr, o_yif1, o_yif0, e_sIfP, o_sifp1, o_sifp0, e_mChk, e_bOf, e_sSetP, o_setp, e_sRetP, o_retp, e_sRetPF, e_sExpP, o_expp, e_sAsgP, o_asgp, e_sRev, o_rev, in_w3, e_tup2V, o_tup2V, e_chain, o_chain_lt, e_meth, e_methO, o_meth, e_mk, ix_tab, ix_line, len_tabD, len_line, isN_tb, notN_tb, isB_bb, notB_bb, itsS_ints, slF_scr, slL_scr, len_intsL, ix_intsL, chk_intsL, itsS_tab, itsS_line, e_thaw, o_thaw, e_retV, o_retV, itsS_lst, itsS_tup, setD0, setD0i, setDS, sld_va, sld_io, e_frz, o_frz, e_xC, o_xc_t, e_aIo, o_aio, e_sX, o_sx, e_retX, o_retx, e_tupV, o_tupV1, g_tp2, bnd, e_app, o_app, o_appI, o_app1, o_app2, o_app3, o_app4, o_lst6, o_lst7, o_lst9, o_lst10, o_lst11, o_lst12, o_lst16, o_tup6, o_tup7, o_tup8, e_appV, o_appV, chk_tab, chk_line, listF_line, listF_ints, isi_ln, isi_tb, rng1_eq, rng2_eq, oDs, oDn, Option.isSome_some, Option.isSome_none, Option.isNone_some, Option.isNone_none, isva_vS, isv0_vS, isva_vK, bq_tt, bq_ff, bq_tf, bq_ft, Int.toNat_natCast, $ls,*])

local macro_rules | `(tactic| walk_at "lw") => `(tactic| simp (disch := first | omega | assumption) only [e_run, e_seq, e_nil, e_sif, e_ret, e_exp, e_set, e_aug, e_asg, e_for, e_bin, e_binL, e_sl, e_onone, e_osome, e_fl, e_call, e_callO, e_cb, e_b, e_ib, e_c, e_anil, e_acons, e_val, e_neg, e_not, e_and, e_or, e_qand, e_qor, e_qnot, e_qyes, e_eif, e_tup, e_lst, e_isi, e_var0, e_varS0, e_varS0', e_var0i, e_varS, e_varSS, o_b2, o_bL, o_b3, o_b1, o_cons, o_val, o_neg, o_not, o_and1, o_and0, o_or1, o_or0, o_andB1, o_andB0, o_orB1, o_orB0, o_and, o_or, o_andB, o_orB, o_notB, o_if1, o_if0, o_ifB, o_int, o_set, o_aug, o_ret, o_exp, o_seq, o_seqR, o_seqB, o_seqC, o_seqI, o_runI, o_tup1, o_tup2, o_tup3, o_tup4, o_tup5, o_lst0, o_lst1, o_lst2, o_lst3, o_lst4, o_lst5, o_lst8, o_asg, o_for, o_runR, o_runN, bmap, rep0, repS, set0, setS, get0, getS, isva, isun, isv0, isv0u, ix_t0, ix_t1, ix_t2, ix_t3, ix_t4, ix_l0, ix_l1, chk_tup, chk_lst, fl_nil, fl_cons, f_int, f_bl, f_str, f_non, f_tup, f_lst, full_w, full_o, chk_int, chk_bl, chk_non, chk_str, chk_ints, isi_ii, isi_ib, isi_bb, isi_tt, isi_ll, add_ii, sub_ii, lt_ii, le_ii, gt_ii, ge_ii, eq_ii, ne_ii, eq_bb, ne_bb, isN_n, isN_i, notN_n, notN_i, len_scr, len_lst, len_tup, gnm, forL_cons, o_loopN, o_loopC, o_loopB, o_loopR, o_loopI, o_body, decide_true, decide_false, Bool.false_eq_true, eq_self, wipe_nil, wipe_cons, forL_nil, mod_ii, div_s, mul_l, mul_r, ix_scr, ix_ints, l_most, l_least, l_same, l_unlike, l_set, l_ask, l_need, l_claim, l_if, l_while, l_else, l_end, l_plain, l_go, l_keep, l_put, mEq_w, mNe_w, chk_w, isi_sw, isN_w, notN_w, chk_o, isN_o, notN_o, reduceCtorEq, Int.cast_ofNat_Int, Bool.not_not,  List.map_cons, List.map_nil, List.cons_append, List.nil_append, List.length_cons, List.length_nil, if_true, if_false, Bool.not_true, Bool.not_false, decide_eq_true_eq, Nat.add_zero, Nat.zero_add, Nat.reduceAdd, Nat.reduceSub, Nat.sub_self, Nat.add_sub_cancel, reduceIte, Bool.true_and, Bool.and_true, Bool.false_and, Bool.and_false, Bool.true_or, Bool.or_true, Bool.false_or, Bool.or_false, e_mb, o_mb, e_sSetN, noOwn_nil, noOwn_un, noOwn_va, noOwn_vS, e_xRaiseI, o_raisei, e_xIO, o_xioO, o_xioE, unS_nil, unS_none, unS_some, e_aLastX, o_alast, o_alastE, e_aConsX, o_acons, o_aconsE, e_eCallA, o_callaO, o_callaE, e_sTryKeep, o_trykO, o_trykE, o_tryk2, o_unsN, o_unsR, isN_exc, e_runX, o_runXr, o_runXn, o_runXe, e_xSeq, o_xseqN, o_xseqR, o_xseqE, e_xLift, o_lift, e_xSIf, e_xNil, e_xRaise0, e_eCallX, e_chkX, e_chkXe, o_ok, e_xSet, o_xset, o_xsetE, e_xExp, o_xexp, o_xexpE, e_xFor, o_xfor, forX_nil, o_xloopN, o_xloopR, o_xloopE, o_xbody, e_okR, e_okB, e_sTryOnly, o_tryO, o_tryE, o_try2, o_tup0, o_mp, e_xOf, e_yOf, e_xOne, o_one, e_xTwo, o_two, o_two2, e_zNil, e_zCons, o_zc0, o_zc, e_yAnd, e_yOr, o_yif1, o_yif0, e_sIfP, o_sifp1, o_sifp0, e_mChk, e_bOf, e_sSetP, o_setp, e_sRetP, o_retp, e_sRetPF, e_sExpP, o_expp, e_sAsgP, o_asgp, e_sRev, o_rev, in_w3, e_tup2V, o_tup2V, e_chain, o_chain_lt, e_meth, e_methO, o_meth, e_mk, ix_tab, ix_line, len_tabD, len_line, isN_tb, notN_tb, isB_bb, notB_bb, itsS_ints, slF_scr, slL_scr, len_intsL, ix_intsL, chk_intsL, itsS_tab, itsS_line, e_thaw, o_thaw, e_retV, o_retV, itsS_lst, itsS_tup, setD0, setD0i, setDS, sld_va, sld_io, e_frz, o_frz, e_xC, o_xc_t, e_aIo, o_aio, e_sX, o_sx, e_retX, o_retx, e_tupV, o_tupV1, g_tp2, bnd, e_app, o_app, o_appI, o_app1, o_app2, o_app3, o_app4, o_lst6, o_lst7, o_lst9, o_lst10, o_lst11, o_lst12, o_lst16, o_tup6, o_tup7, o_tup8, e_appV, o_appV, chk_tab, chk_line, listF_line, listF_ints, isi_ln, isi_tb, rng1_eq, rng2_eq, oDs, oDn, Option.isSome_some, Option.isSome_none, Option.isNone_some, Option.isNone_none, isva_vS, isv0_vS, isva_vK, bq_tt, bq_ff, bq_tf, bq_ft, Int.toNat_natCast, cell_eq])
local macro_rules | `(tactic| simp! [$ls,*]) => `(tactic| simp (disch := first | omega | assumption) only [e_run, e_seq, e_nil, e_sif, e_ret, e_exp, e_set, e_aug, e_asg, e_for, e_bin, e_binL, e_sl, e_onone, e_osome, e_fl, e_call, e_callO, e_cb, e_b, e_ib, e_c, e_anil, e_acons, e_val, e_neg, e_not, e_and, e_or, e_qand, e_qor, e_qnot, e_qyes, e_eif, e_tup, e_lst, e_isi, e_var0, e_varS0, e_varS0', e_var0i, e_varS, e_varSS, o_b2, o_bL, o_b3, o_b1, o_cons, o_val, o_neg, o_not, o_and1, o_and0, o_or1, o_or0, o_andB1, o_andB0, o_orB1, o_orB0, o_and, o_or, o_andB, o_orB, o_notB, o_if1, o_if0, o_ifB, o_int, o_set, o_aug, o_ret, o_exp, o_seq, o_seqR, o_seqB, o_seqC, o_seqI, o_runI, o_tup1, o_tup2, o_tup3, o_tup4, o_tup5, o_lst0, o_lst1, o_lst2, o_lst3, o_lst4, o_lst5, o_lst8, o_asg, o_for, o_runR, o_runN, bmap, rep0, repS, set0, setS, get0, getS, isva, isun, isv0, isv0u, ix_t0, ix_t1, ix_t2, ix_t3, ix_t4, ix_l0, ix_l1, chk_tup, chk_lst, fl_nil, fl_cons, f_int, f_bl, f_str, f_non, f_tup, f_lst, full_w, full_o, chk_int, chk_bl, chk_non, chk_str, chk_ints, isi_ii, isi_ib, isi_bb, isi_tt, isi_ll, add_ii, sub_ii, lt_ii, le_ii, gt_ii, ge_ii, eq_ii, ne_ii, eq_bb, ne_bb, isN_n, isN_i, notN_n, notN_i, len_scr, len_lst, len_tup, gnm, forL_cons, o_loopN, o_loopC, o_loopB, o_loopR, o_loopI, o_body, decide_true, decide_false, Bool.false_eq_true, eq_self, wipe_nil, wipe_cons, forL_nil, mod_ii, div_s, mul_l, mul_r, ix_scr, ix_ints, l_most, l_least, l_same, l_unlike, l_set, l_ask, l_need, l_claim, l_if, l_while, l_else, l_end, l_plain, l_go, l_keep, l_put, mEq_w, mNe_w, chk_w, isi_sw, isN_w, notN_w, chk_o, isN_o, notN_o, reduceCtorEq, Int.cast_ofNat_Int, Bool.not_not,  List.map_cons, List.map_nil, List.cons_append, List.nil_append, List.length_cons, List.length_nil, if_true, if_false, Bool.not_true, Bool.not_false, decide_eq_true_eq, Nat.add_zero, Nat.zero_add, Nat.reduceAdd, Nat.reduceSub, Nat.sub_self, Nat.add_sub_cancel, reduceIte, Bool.true_and, Bool.and_true, Bool.false_and, Bool.and_false, Bool.true_or, Bool.or_true, Bool.false_or, Bool.or_false, e_mb, o_mb, e_sSetN, noOwn_nil, noOwn_un, noOwn_va, noOwn_vS, e_xRaiseI, o_raisei, e_xIO, o_xioO, o_xioE, unS_nil, unS_none, unS_some, e_aLastX, o_alast, o_alastE, e_aConsX, o_acons, o_aconsE, e_eCallA, o_callaO, o_callaE, e_sTryKeep, o_trykO, o_trykE, o_tryk2, o_unsN, o_unsR, isN_exc, e_runX, o_runXr, o_runXn, o_runXe, e_xSeq, o_xseqN, o_xseqR, o_xseqE, e_xLift, o_lift, e_xSIf, e_xNil, e_xRaise0, e_eCallX, e_chkX, e_chkXe, o_ok, e_xSet, o_xset, o_xsetE, e_xExp, o_xexp, o_xexpE, e_xFor, o_xfor, forX_nil, o_xloopN, o_xloopR, o_xloopE, o_xbody, e_okR, e_okB, e_sTryOnly, o_tryO, o_tryE, o_try2, o_tup0, o_mp, e_xOf, e_yOf, e_xOne, o_one, e_xTwo, o_two, o_two2, e_zNil, e_zCons, o_zc0, o_zc, e_yAnd, e_yOr, o_yif1, o_yif0, e_sIfP, o_sifp1, o_sifp0, e_mChk, e_bOf, e_sSetP, o_setp, e_sRetP, o_retp, e_sRetPF, e_sExpP, o_expp, e_sAsgP, o_asgp, e_sRev, o_rev, in_w3, e_tup2V, o_tup2V, e_chain, o_chain_lt, e_meth, e_methO, o_meth, e_mk, ix_tab, ix_line, len_tabD, len_line, isN_tb, notN_tb, isB_bb, notB_bb, itsS_ints, slF_scr, slL_scr, len_intsL, ix_intsL, chk_intsL, itsS_tab, itsS_line, e_thaw, o_thaw, e_retV, o_retV, itsS_lst, itsS_tup, setD0, setD0i, setDS, sld_va, sld_io, e_frz, o_frz, e_xC, o_xc_t, e_aIo, o_aio, e_sX, o_sx, e_retX, o_retx, e_tupV, o_tupV1, g_tp2, bnd, e_app, o_app, o_appI, o_app1, o_app2, o_app3, o_app4, o_lst6, o_lst7, o_lst9, o_lst10, o_lst11, o_lst12, o_lst16, o_tup6, o_tup7, o_tup8, e_appV, o_appV, chk_tab, chk_line, listF_line, listF_ints, isi_ln, isi_tb, rng1_eq, rng2_eq, oDs, oDn, Option.isSome_some, Option.isSome_none, Option.isNone_some, Option.isNone_none, isva_vS, isv0_vS, isva_vK, bq_tt, bq_ff, bq_tf, bq_ft, Int.toNat_natCast, cell_eq, $ls,*])
theorem law_true (ns : List Int) (h : ns.length ≤ 63) : m_law [.scr ns] = some (.bl true) := by
  have c0 := cell_eq ns 0 (by omega)
  have c1 := cell_eq ns 1 (by omega)
  have cc := fun k : Nat => cell_eq ns (20 + k) (by omega)
  generalize cellV ns 0 = x0 at *
  generalize cellV ns 1 = x1 at *
  obtain ⟨n, hn, n1, n6⟩ : ∃ n : Nat, 1 + x0 % 6 = (n : Int) ∧ 1 ≤ n ∧ n ≤ 6 := ⟨(1 + x0 % 6).toNat, by omega, by omega, by omega⟩
  obtain ⟨l, hl, ll, lo⟩ := law_names_ex ns 3 n (by omega) (by omega) n6
  have back : c_law_1 [.va 0 (.scr ns), .va 0 (.int n), .va 0 (strsD l), .un, .un, .un, .un, .un, .un, .un] = some (strsD ((List.range n).map fun (i : Nat) => strAt l ((n : Int) - 1 - i))) := by
    unfold c_law_1
    rw [lc_map (fun (i : Nat) => D.int i) (fun (i : Nat) => D.str (strAt l ((n : Int) - 1 - i))) (List.range n) ?_ rfl (by rw [List.length_range]; omega) fun i hi => ⟨_, rfl, rfl, ?_⟩]
    · show _ = some (D.lst (List.map D.str (List.map (fun (i : Nat) => strAt l ((n : Int) - 1 - i)) (List.range n))))
      rw [List.map_map]; rfl
    · walk_at "ev"
      have := rng1_eq n (by omega) (by omega)
      rw [Int.toNat_natCast] at this
      exact this
    · have hi := List.mem_range.mp hi
      have ix := ix_strs l ((n : Int) - 1 - i) (by omega) (by omega)
      generalize strsD l = L at *
      simp! [ix]
      all_goals rfl
  generalize hb : (List.range n).map (fun (i : Nat) => strAt l ((n : Int) - 1 - i)) = lb at *
  have lbl : lb.length = n := by rw [← hb, List.length_map, List.length_range]
  have lbo : NmOk lb := fun z hz => by
    rw [← hb] at hz
    obtain ⟨i, hi, rfl⟩ := List.mem_map.mp hz
    have := List.mem_range.mp hi
    exact lo _ (strAt_mem (by omega) (by omega))
  -- each side
  have main : ∀ cs : List Int, cs.length ≤ 63 → orun (t_law_5 [.va 0 (.scr ns), .va 0 (.int n), .va 0 (strsD l), .va 0 (strsD lb), .va 0 (lstI cs), .un, .un, .un, .un, .un]) = some (.bl true) := fun cs hcs => by
    obtain ⟨st', e, o5, o6, o7, o8, o9, rfl⟩ := forL_P (m := gNm 5) (b := b_law_2) (fun st => ∃ o5 o6 o7 o8 o9 : Option D, st = [.va 0 (.scr ns), .va 0 (.int n), .va 0 (strsD l), .va 0 (strsD lb), .va 0 (lstI cs), vS o5, vS o6, vS o7, vS o8, vS o9]) (fun (j : Nat) => D.int j) (List.range cs.length) (fun k hk st hst => by
      obtain ⟨o5, o6, o7, o8, o9, rfl⟩ := hst
      have hk := List.mem_range.mp hk
      have ix := ix_intsL cs k (by omega) (by omega)
      rw [Int.toNat_natCast] at ix
      obtain ⟨f, g, z, hs, f0, f1, g0, g1, zo⟩ := law_side_ex (cs.getD k 0) k n (by omega) (by omega) n1 n6
      have sc : chk 0 (sideD f g z) = some (sideD f g z) := rfl
      obtain ⟨st2, e2, p7, p8, p9, rfl⟩ := forL_P (m := gNm 7) (b := b_law_1) (fun st => ∃ o7 o8 o9 : Option D, st = [.va 0 (.scr ns), .va 0 (.int n), .va 0 (strsD l), .va 0 (strsD lb), .va 0 (lstI cs), .va 0 (.int k), .va 0 (sideD f g z), vS o7, vS o8, vS o9]) strsD [l, lb] (fun q hq st hst => by
        obtain ⟨o7, o8, o9, rfl⟩ := hst
        have hq : q.length = n ∧ NmOk q := by
          simp only [List.mem_cons, List.not_mem_nil, or_false] at hq
          rcases hq with rfl | rfl
          · exact ⟨ll, lo⟩
          · exact ⟨lbl, lbo⟩
        have ss := show_side_eq q hq.2 f g z f0 (by omega) g0 (by omega) zo
        have ww := law_words_eq q hq.2 f g z f0 (by omega) g0 (by omega) zo
        have so := sideS_ok hq.2 f0 (show f < 2 * q.length by omega) g0 (show g < 2 * q.length by omega) zo
        have ne1 := ne_str so
        have ne2 := ne_strs hq.2
        have lf := listF_strs q
        generalize sideS q f g z = S at *
        refine ⟨[.va 0 (.scr ns), .va 0 (.int n), .va 0 (strsD l), .va 0 (strsD lb), .va 0 (lstI cs), .va 0 (.int k), .va 0 (sideD f g z), .va 0 (strsD q), .va 0 (strsD q), .va 0 (.str S)], .inl ?_, some _, some _, some _, rfl⟩
        unfold b_law_1
        generalize sideD f g z = G at *
        generalize strsD q = Q at *
        generalize strsD l = L at *
        generalize strsD lb = LB at *
        simp! [lf, ss, isi_str, ww, ne1, ne2]
        all_goals rfl) [.va 0 (.scr ns), .va 0 (.int n), .va 0 (strsD l), .va 0 (strsD lb), .va 0 (lstI cs), .va 0 (.int k), .va 0 (sideD f g z), vS o7, vS o8, vS o9] ⟨o7, o8, o9, rfl⟩
      have e3 : sFor (iB itsS (eLst (aCons (eVarS 2) (aCons (eVarS 3) aNil)))) (gNm 7) b_law_1 [.va 0 (.scr ns), .va 0 (.int n), .va 0 (strsD l), .va 0 (strsD lb), .va 0 (lstI cs), .va 0 (.int k), .va 0 (sideD f g z), vS o7, vS o8, vS o9] = _ := e2
      refine ⟨[.va 0 (.scr ns), .va 0 (.int n), .va 0 (strsD l), .va 0 (strsD lb), .va 0 (lstI cs), .va 0 (.int k), .va 0 (sideD f g z), vS p7, vS p8, vS p9], .inl ?_, some _, some _, p7, p8, p9, rfl⟩
      unfold b_law_2
      generalize sFor (iB itsS (eLst (aCons (eVarS 2) (aCons (eVarS 3) aNil)))) (gNm 7) b_law_1 = SF at *
      generalize sideD f g z = G at *
      generalize strsD l = L at *
      generalize strsD lb = LB at *
      simp! [ix, hs, sc, e3]
      all_goals rfl) [.va 0 (.scr ns), .va 0 (.int n), .va 0 (strsD l), .va 0 (strsD lb), .va 0 (lstI cs), .un, .un, .un, .un, .un] ⟨none, none, none, none, none, rfl⟩
    have lc := len_intsL cs
    have r1 : mRng1 (.int cs.length) = some ((List.range cs.length).map fun (i : Nat) => D.int (i : Int)) := by
      have := rng1_eq cs.length (by omega) (by omega)
      rw [Int.toNat_natCast] at this
      exact this
    unfold t_law_5 t_law_6
    generalize strsD l = L at *
    generalize strsD lb = LB at *
    simp! [lc, r1, e]
    all_goals rfl
  have cl := chk_strs l 0
  unfold m_law g_law t_law_1 t_law_2 t_law_3 t_law_4
  have sl : mSlF (.scr ns) (some 20) (some 62) = some (lstI (cutG ns (some 20) (some 62))) := slF_scr ns _ _
  have slen : (cutG ns (some 20) (some 62)).length ≤ ns.length := by
    unfold cutG
    rw [List.length_take, List.length_drop]; omega
  generalize cutG ns (some 20) (some 62) = cs at *
  have lc := len_intsL cs
  by_cases hz : cs = []
  · subst hz
    obtain ⟨m, hm, m10⟩ : ∃ m : Nat, x1 % 10 = (m : Int) ∧ m < 10 := ⟨(x1 % 10).toNat, by omega, by omega⟩
    have c2 : c_law_2 [.va 0 (.scr ns), .va 0 (.int n), .va 0 (strsD l), .va 0 (strsD lb), .va 0 (lstI []), .un, .un, .un, .un, .un] = some (lstI ((List.range m).map fun (i : Nat) => cellV ns (20 + i))) := by
      unfold c_law_2
      rw [lc_map (fun (i : Nat) => D.int i) (fun (i : Nat) => D.int (cellV ns (20 + i))) (List.range m) ?_ rfl (by rw [List.length_range]; omega) fun i hi => ⟨_, rfl, rfl, ?_⟩]
      · unfold lstI; rw [List.map_map]; rfl
      · have := rng1_eq m (by omega) (by omega)
        rw [Int.toNat_natCast] at this
        generalize strsD l = L at *
        generalize strsD lb = LB at *
        simp! [c1, hm, this]
      · have := cc i
        generalize strsD l = L at *
        generalize strsD lb = LB at *
        simp! [this]
        all_goals rfl
    have mn := main ((List.range m).map fun (i : Nat) => cellV ns (20 + i)) (by rw [List.length_map, List.length_range]; omega)
    have lz : mLen [lstI []] = some (.int 0) := rfl
    generalize lstI ((List.range m).map fun (i : Nat) => cellV ns (20 + i)) = C at *
    generalize strsD l = L at *
    generalize strsD lb = LB at *
    simp! [c0, hn, hl, cl, back, sl, lz, c2]
    exact mn
  · have hp := List.length_pos_iff.mpr hz
    have mn := main cs (by omega)
    generalize strsD l = L at *
    generalize strsD lb = LB at *
    simp! [c0, hn, hl, cl, back, sl, lc, decide_eq_false (show ¬ (cs.length : Int) = 0 by omega)]
    exact mn

end K50
namespace K50
open PySem PySem.Spec PyProof.Rows L2 FL
def topS (i : Nat) : Stmt := PySem.Challenge.pw_eightsides_k50_side_words.main.body.getD i (.Pass ⟨0, 0, 0, 0⟩)
abbrev s_show_first : Stmt := topS 1
def N_show_first : List Str := ["names", "f"]
theorem sc_show_first : FnScope ["names", "f"] ["names", "f"] (defScope s_show_first) := ⟨rfl, rfl, rfl, by decide +kernel, rfl, by decide +kernel, by decide +kernel⟩
abbrev s_show_later : Stmt := topS 2
def N_show_later : List Str := ["names", "f"]
theorem sc_show_later : FnScope ["names", "f"] ["names", "f"] (defScope s_show_later) := ⟨rfl, rfl, rfl, by decide +kernel, rfl, by decide +kernel, by decide +kernel⟩
abbrev s_show_sum : Stmt := topS 3
def N_show_sum : List Str := ["names", "f", "g"]
theorem sc_show_sum : FnScope ["names", "f", "g"] ["names", "f", "g"] (defScope s_show_sum) := ⟨rfl, rfl, rfl, by decide +kernel, rfl, by decide +kernel, by decide +kernel⟩
abbrev s_show_side : Stmt := topS 4
def N_show_side : List Str := ["names", "side"]
theorem sc_show_side : FnScope ["names", "side"] ["names", "side"] (defScope s_show_side) := ⟨rfl, rfl, rfl, by decide +kernel, rfl, by decide +kernel, by decide +kernel⟩
abbrev s_law_cell : Stmt := topS 6
def N_law_cell : List Str := ["_law_script", "_law_k", "_law_seed", "_law_some"]
theorem sc_law_cell : FnScope ["_law_script", "_law_k", "_law_seed", "_law_some"] ["_law_script", "_law_k"] (defScope s_law_cell) := ⟨rfl, rfl, rfl, by decide +kernel, rfl, by decide +kernel, by decide +kernel⟩
abbrev s_law_spread : Stmt := topS 7
def N_law_spread : List Str := ["_law_cell_here", "_law_k"]
theorem sc_law_spread : FnScope ["_law_cell_here", "_law_k"] ["_law_cell_here", "_law_k"] (defScope s_law_spread) := ⟨rfl, rfl, rfl, by decide +kernel, rfl, by decide +kernel, by decide +kernel⟩
abbrev s_law_number : Stmt := topS 8
def N_law_number : List Str := ["_law_cell_here"]
theorem sc_law_number : FnScope ["_law_cell_here"] ["_law_cell_here"] (defScope s_law_number) := ⟨rfl, rfl, rfl, by decide +kernel, rfl, by decide +kernel, by decide +kernel⟩
abbrev s_law_letter : Stmt := topS 9
def N_law_letter : List Str := ["_law_cell_here"]
theorem sc_law_letter : FnScope ["_law_cell_here"] ["_law_cell_here"] (defScope s_law_letter) := ⟨rfl, rfl, rfl, by decide +kernel, rfl, by decide +kernel, by decide +kernel⟩
abbrev s_law_free_name : Stmt := topS 10
def N_law_free_name : List Str := ["_law_cell_here", "_law_taken", "_law_tail", "_law_k"]
theorem sc_law_free_name : FnScope ["_law_cell_here", "_law_taken", "_law_tail", "_law_k"] ["_law_cell_here", "_law_taken"] (defScope s_law_free_name) := ⟨rfl, rfl, rfl, by decide +kernel, rfl, by decide +kernel, by decide +kernel⟩
abbrev s_law_names : Stmt := topS 11
def N_law_names : List Str := ["_law_script", "_law_at", "_law_count", "_law_cell_here", "_law_words_here", "_law_size", "_law_place", "_law_rest", "_law_names_here", "_law_k", "_law_letter_here"]
theorem sc_law_names : FnScope ["_law_script", "_law_at", "_law_count", "_law_cell_here", "_law_words_here", "_law_size", "_law_place", "_law_rest", "_law_names_here", "_law_k", "_law_letter_here"] ["_law_script", "_law_at", "_law_count"] (defScope s_law_names) := ⟨rfl, rfl, rfl, by decide +kernel, rfl, by decide +kernel, by decide +kernel⟩
abbrev s_law_term : Stmt := topS 12
def N_law_term : List Str := ["_law_names_here", "_law_f"]
theorem sc_law_term : FnScope ["_law_names_here", "_law_f"] ["_law_names_here", "_law_f"] (defScope s_law_term) := ⟨rfl, rfl, rfl, by decide +kernel, rfl, by decide +kernel, by decide +kernel⟩
abbrev s_law_words : Stmt := topS 13
def N_law_words : List Str := ["_law_names_here", "_law_side_here", "_law_one", "_law_text", "_law_other"]
theorem sc_law_words : FnScope ["_law_names_here", "_law_side_here", "_law_one", "_law_text", "_law_other"] ["_law_names_here", "_law_side_here"] (defScope s_law_words) := ⟨rfl, rfl, rfl, by decide +kernel, rfl, by decide +kernel, by decide +kernel⟩
abbrev s_law_side : Stmt := topS 14
def N_law_side : List Str := ["_law_cell_here", "_law_k", "_law_count", "_law_f", "_law_g", "_law_number_here"]
theorem sc_law_side : FnScope ["_law_cell_here", "_law_k", "_law_count", "_law_f", "_law_g", "_law_number_here"] ["_law_cell_here", "_law_k", "_law_count"] (defScope s_law_side) := ⟨rfl, rfl, rfl, by decide +kernel, rfl, by decide +kernel, by decide +kernel⟩
abbrev s_law : Stmt := topS 15
def N_law : List Str := ["_law_script", "_law_count", "_law_names_here", "_law_back", "_law_cells", "_law_k", "_law_side_here", "_law_some", "_law_handed", "_law_told"]
theorem sc_law : FnScope ["_law_script", "_law_count", "_law_names_here", "_law_back", "_law_cells", "_law_k", "_law_side_here", "_law_some", "_law_handed", "_law_told"] ["_law_script"] (defScope s_law) := ⟨rfl, rfl, rfl, by decide +kernel, rfl, by decide +kernel, by decide +kernel⟩
structure Txt (K : PySem.W.Frag) (mg : Str → Option Value) where
  a_show_first : Addr
  d_show_first : FuncData
  F_show_first : Fun K "show_first" "show_first" s_show_first a_show_first d_show_first
  g_show_first : mg "show_first" = some (.ref a_show_first)
  b_show_first : Binds K d_show_first ["names", "f"] []
  a_show_later : Addr
  d_show_later : FuncData
  F_show_later : Fun K "show_later" "show_later" s_show_later a_show_later d_show_later
  g_show_later : mg "show_later" = some (.ref a_show_later)
  b_show_later : Binds K d_show_later ["names", "f"] []
  a_show_sum : Addr
  d_show_sum : FuncData
  F_show_sum : Fun K "show_sum" "show_sum" s_show_sum a_show_sum d_show_sum
  g_show_sum : mg "show_sum" = some (.ref a_show_sum)
  b_show_sum : Binds K d_show_sum ["names", "f", "g"] []
  a_show_side : Addr
  d_show_side : FuncData
  F_show_side : Fun K "show_side" "show_side" s_show_side a_show_side d_show_side
  g_show_side : mg "show_side" = some (.ref a_show_side)
  b_show_side : Binds K d_show_side ["names", "side"] []
  a_law_cell : Addr
  d_law_cell : FuncData
  F_law_cell : Fun K "_law_cell" "_law_cell" s_law_cell a_law_cell d_law_cell
  g_law_cell : mg "_law_cell" = some (.ref a_law_cell)
  b_law_cell : Binds K d_law_cell ["_law_script", "_law_k"] []
  a_law_spread : Addr
  d_law_spread : FuncData
  F_law_spread : Fun K "_law_spread" "_law_spread" s_law_spread a_law_spread d_law_spread
  g_law_spread : mg "_law_spread" = some (.ref a_law_spread)
  b_law_spread : Binds K d_law_spread ["_law_cell_here", "_law_k"] []
  a_law_number : Addr
  d_law_number : FuncData
  F_law_number : Fun K "_law_number" "_law_number" s_law_number a_law_number d_law_number
  g_law_number : mg "_law_number" = some (.ref a_law_number)
  b_law_number : Binds K d_law_number ["_law_cell_here"] []
  a_law_letter : Addr
  d_law_letter : FuncData
  F_law_letter : Fun K "_law_letter" "_law_letter" s_law_letter a_law_letter d_law_letter
  g_law_letter : mg "_law_letter" = some (.ref a_law_letter)
  b_law_letter : Binds K d_law_letter ["_law_cell_here"] []
  a_law_free_name : Addr
  d_law_free_name : FuncData
  F_law_free_name : Fun K "_law_free_name" "_law_free_name" s_law_free_name a_law_free_name d_law_free_name
  g_law_free_name : mg "_law_free_name" = some (.ref a_law_free_name)
  b_law_free_name : Binds K d_law_free_name ["_law_cell_here", "_law_taken"] []
  a_law_names : Addr
  d_law_names : FuncData
  F_law_names : Fun K "_law_names" "_law_names" s_law_names a_law_names d_law_names
  g_law_names : mg "_law_names" = some (.ref a_law_names)
  b_law_names : Binds K d_law_names ["_law_script", "_law_at", "_law_count"] []
  a_law_term : Addr
  d_law_term : FuncData
  F_law_term : Fun K "_law_term" "_law_term" s_law_term a_law_term d_law_term
  g_law_term : mg "_law_term" = some (.ref a_law_term)
  b_law_term : Binds K d_law_term ["_law_names_here", "_law_f"] []
  a_law_words : Addr
  d_law_words : FuncData
  F_law_words : Fun K "_law_words" "_law_words" s_law_words a_law_words d_law_words
  g_law_words : mg "_law_words" = some (.ref a_law_words)
  b_law_words : Binds K d_law_words ["_law_names_here", "_law_side_here"] []
  a_law_side : Addr
  d_law_side : FuncData
  F_law_side : Fun K "_law_side" "_law_side" s_law_side a_law_side d_law_side
  g_law_side : mg "_law_side" = some (.ref a_law_side)
  b_law_side : Binds K d_law_side ["_law_cell_here", "_law_k", "_law_count"] []
  a_law : Addr
  d_law : FuncData
  F_law : Fun K "law" "law" s_law a_law d_law
  g_law : mg "law" = some (.ref a_law)
  b_law : Binds K d_law ["_law_script"] []
  m_isinstance : mg "isinstance" = none
  m_len : mg "len" = none
  m_list : mg "list" = none
  m_range : mg "range" = none
  m_str : mg "str" = none
section
variable {P : Program} {w : World} {K : PySem.W.Frag} {mg : Str → Option Value} {base : Heap}
theorem ok_show_first (T : Txt K mg) : FnOk P w K mg base CX0 1 T.a_show_first T.d_show_first ["names", "f"] (spF K 2 0 m_show_first) :=
  fn_ok (N := ["names", "f"]) T.F_show_first sc_show_first 0 g_show_first fun cdv A outer s H E hr => by
    have nd := sc_show_first.nd
    have v0 : ∀ pos : Pos, PE (cxOf CX0 P w K mg base ["names", "f"] "show_first" (defScope s_show_first) T.a_show_first cdv A outer s H E).nox (.Name "names" pos) (tVar 0) := fun _ => pv 0
    have v1 : ∀ pos : Pos, PE (cxOf CX0 P w K mg base ["names", "f"] "show_first" (defScope s_show_first) T.a_show_first cdv A outer s H E).nox (.Name "f" pos) (tVar 1) := fun _ => pv 1
    exact (fss_cons (fs_if (ft_eq hr.units (fe_mod (fe_var (v1 _)) fe_int) fe_int) (fss_one (fs_ret (fe_catZ fe_str (fe_ix (fe_var (v0 _)) (fe_div (fe_var (v1 _)) fe_int))))) fss_nil)
      (fss_one (fs_ret (fe_ixS (fe_varS (v0 _)) (fe_div (fe_var (v1 _)) fe_int)))))
theorem ok_show_later (T : Txt K mg) : FnOk P w K mg base CX0 1 T.a_show_later T.d_show_later ["names", "f"] (spF K 2 0 m_show_later) :=
  fn_ok (N := ["names", "f"]) T.F_show_later sc_show_later 0 g_show_later fun cdv A outer s H E hr => by
    have nd := sc_show_later.nd
    have v0 : ∀ pos : Pos, PE (cxOf CX0 P w K mg base ["names", "f"] "show_later" (defScope s_show_later) T.a_show_later cdv A outer s H E).nox (.Name "names" pos) (tVar 0) := fun _ => pv 0
    have v1 : ∀ pos : Pos, PE (cxOf CX0 P w K mg base ["names", "f"] "show_later" (defScope s_show_later) T.a_show_later cdv A outer s H E).nox (.Name "f" pos) (tVar 1) := fun _ => pv 1
    exact (fss_cons (fs_if (ft_eq hr.units (fe_mod (fe_var (v1 _)) fe_int) fe_int) (fss_one (fs_ret (fe_catZ fe_str (fe_ix (fe_var (v0 _)) (fe_div (fe_var (v1 _)) fe_int))))) fss_nil)
      (fss_one (fs_ret (fe_catZ fe_str (fe_ix (fe_var (v0 _)) (fe_div (fe_var (v1 _)) fe_int))))))
theorem ok_show_sum (T : Txt K mg) : FnOk P w K mg base CX0 2 T.a_show_sum T.d_show_sum ["names", "f", "g"] (spF K 3 0 m_show_sum) :=
  fn_ok (N := ["names", "f", "g"]) T.F_show_sum sc_show_sum 0 g_show_sum fun cdv A outer s H E hr => by
    have nd := sc_show_sum.nd
    have v0 : ∀ pos : Pos, PE (cxOf CX0 P w K mg base ["names", "f", "g"] "show_sum" (defScope s_show_sum) T.a_show_sum cdv A outer s H E).nox (.Name "names" pos) (tVar 0) := fun _ => pv 0
    have v1 : ∀ pos : Pos, PE (cxOf CX0 P w K mg base ["names", "f", "g"] "show_sum" (defScope s_show_sum) T.a_show_sum cdv A outer s H E).nox (.Name "f" pos) (tVar 1) := fun _ => pv 1
    have v2 : ∀ pos : Pos, PE (cxOf CX0 P w K mg base ["names", "f", "g"] "show_sum" (defScope s_show_sum) T.a_show_sum cdv A outer s H E).nox (.Name "g" pos) (tVar 2) := fun _ => pv 2
    exact (fss_cons (fs_if (ft_isN (fe_var (v2 _)) fe_non) (fss_one (fs_ret (fe_callO (ok_show_first T) (hr.mono (by decide)) (by rfl) T.g_show_first T.F_show_first.kp T.b_show_first (fa_cons (fe_var (v0 _)) (fa_cons (fe_var (v1 _)) fa_nil)) (alen_cons (alen_cons alen_nil))))) fss_nil)
      (fss_one (fs_ret (fe_catZ (fe_catZ (fe_call (ok_show_first T) (hr.mono (by decide)) (by rfl) T.g_show_first T.F_show_first.kp T.b_show_first (fa_cons (fe_var (v0 _)) (fa_cons (fe_var (v1 _)) fa_nil)) (alen_cons (alen_cons alen_nil))) fe_str) (fe_call (ok_show_later T) (hr.mono (by decide)) (by rfl) T.g_show_later T.F_show_later.kp T.b_show_later (fa_cons (fe_var (v0 _)) (fa_cons (fe_var (v2 _)) fa_nil)) (alen_cons (alen_cons alen_nil)))))))
theorem ok_show_side (T : Txt K mg) : FnOk P w K mg base CX0 3 T.a_show_side T.d_show_side ["names", "side"] (spF K 2 0 m_show_side) :=
  fn_ok (N := ["names", "side"]) T.F_show_side sc_show_side 0 g_show_side fun cdv A outer s H E hr => by
    have nd := sc_show_side.nd
    have v0 : ∀ pos : Pos, PE (cxOf CX0 P w K mg base ["names", "side"] "show_side" (defScope s_show_side) T.a_show_side cdv A outer s H E).nox (.Name "names" pos) (tVar 0) := fun _ => pv 0
    have v1 : ∀ pos : Pos, PE (cxOf CX0 P w K mg base ["names", "side"] "show_side" (defScope s_show_side) T.a_show_side cdv A outer s H E).nox (.Name "side" pos) (tVar 1) := fun _ => pv 1
    exact (fss_cons (fs_if (ft_eq hr.units (fe_ix (fe_var (v1 _)) fe_int) (fe_ix (fe_var (v1 _)) fe_int)) (fss_one (fs_ret (fe_catZ (fe_catZ (fe_call (ok_show_first T) (hr.mono (by decide)) (by rfl) T.g_show_first T.F_show_first.kp T.b_show_first (fa_cons (fe_var (v0 _)) (fa_cons (fe_ix (fe_var (v1 _)) fe_int) fa_nil)) (alen_cons (alen_cons alen_nil))) fe_str) (fe_stri (by rfl) T.m_str (fa_cons (fe_div (fe_ix (fe_var (v1 _)) fe_int) fe_int) fa_nil))))) fss_nil)
      (fss_one (fs_ret (fe_catZ (fe_catZ (fe_call (ok_show_sum T) (hr.mono (by decide)) (by rfl) T.g_show_sum T.F_show_sum.kp T.b_show_sum (fa_cons (fe_var (v0 _)) (fa_cons (fe_ix (fe_var (v1 _)) fe_int) (fa_cons (fe_ix (fe_var (v1 _)) fe_int) fa_nil))) (alen_cons (alen_cons (alen_cons alen_nil)))) fe_str) (fe_stri (by rfl) T.m_str (fa_cons (fe_ix (fe_var (v1 _)) fe_int) fa_nil))))))
theorem ok_law_cell (T : Txt K mg) : FnOk P w K mg base CX0 1 T.a_law_cell T.d_law_cell ["_law_script", "_law_k"] (spF K 2 0 m_law_cell) :=
  fn_ok (N := ["_law_script", "_law_k", "_law_seed", "_law_some"]) T.F_law_cell sc_law_cell 0 g_law_cell fun cdv A outer s H E hr => by
    have nd := sc_law_cell.nd
    have v0 : ∀ pos : Pos, PE (cxOf CX0 P w K mg base ["_law_script", "_law_k", "_law_seed", "_law_some"] "_law_cell" (defScope s_law_cell) T.a_law_cell cdv A outer s H E).nox (.Name "_law_script" pos) (tVar 0) := fun _ => pv 0
    have v1 : ∀ pos : Pos, PE (cxOf CX0 P w K mg base ["_law_script", "_law_k", "_law_seed", "_law_some"] "_law_cell" (defScope s_law_cell) T.a_law_cell cdv A outer s H E).nox (.Name "_law_k" pos) (tVar 1) := fun _ => pv 1
    have v2 : ∀ pos : Pos, PE (cxOf CX0 P w K mg base ["_law_script", "_law_k", "_law_seed", "_law_some"] "_law_cell" (defScope s_law_cell) T.a_law_cell cdv A outer s H E).nox (.Name "_law_seed" pos) (tVar 2) := fun _ => pv 2
    have v3 : ∀ pos : Pos, PE (cxOf CX0 P w K mg base ["_law_script", "_law_k", "_law_seed", "_law_some"] "_law_cell" (defScope s_law_cell) T.a_law_cell cdv A outer s H E).nox (.Name "_law_some" pos) (tVar 3) := fun _ => pv 3
    exact (fss_cons (fs_if (ft_lt (fe_var (v1 _)) (fe_len (by rfl) T.m_len (fa_cons (fe_var (v0 _)) fa_nil))) (fss_one (fs_ret (fe_ixS (fe_varS (v0 _)) (fe_var (v1 _))))) fss_nil)
      (fss_cons (fs_set (i := 2) nd rfl (.inl rfl) (fe_mul (fe_var (v1 _)) fe_int))
      (fss_cons (fs_if (ft_gt (fe_len (by rfl) T.m_len (fa_cons (fe_var (v0 _)) fa_nil)) fe_int) (fss_one (fs_set (i := 2) nd rfl (.inl rfl) (fe_addI (fe_var (v2 _)) (fe_mod (fe_ix (fe_var (v0 _)) (fe_mod (fe_var (v1 _)) (fe_len (by rfl) T.m_len (fa_cons (fe_var (v0 _)) fa_nil)))) fe_int)))) fss_nil)
      (fss_cons (fs_set (i := 3) nd rfl (.inl rfl) (fe_mod (fe_mul (fe_var (v2 _)) fe_int) fe_int))
      (fss_one (fs_ret (fe_mod (fe_div (fe_mul (fe_var (v3 _)) (fe_addI (fe_addI (fe_var (v3 _)) (fe_mul fe_int (fe_var (v1 _)))) fe_int)) fe_int) fe_int)))))))
theorem ok_law_spread (T : Txt K mg) : FnOk P w K mg base CX0 1 T.a_law_spread T.d_law_spread ["_law_cell_here", "_law_k"] (spF K 2 0 m_law_spread) :=
  fn_ok (N := ["_law_cell_here", "_law_k"]) T.F_law_spread sc_law_spread 0 g_law_spread fun cdv A outer s H E hr => by
    have nd := sc_law_spread.nd
    have v0 : ∀ pos : Pos, PE (cxOf CX0 P w K mg base ["_law_cell_here", "_law_k"] "_law_spread" (defScope s_law_spread) T.a_law_spread cdv A outer s H E).nox (.Name "_law_cell_here" pos) (tVar 0) := fun _ => pv 0
    have v1 : ∀ pos : Pos, PE (cxOf CX0 P w K mg base ["_law_cell_here", "_law_k"] "_law_spread" (defScope s_law_spread) T.a_law_spread cdv A outer s H E).nox (.Name "_law_k" pos) (tVar 1) := fun _ => pv 1
    exact (fss_cons (fs_if (ft_ltlt (fe_neg fe_int) (fe_var (v0 _)) fe_int) (fss_one (fs_ret (fe_mod (fe_mul (fe_addI (fe_mul (fe_addI (fe_var (v0 _)) fe_int) (fe_addI (fe_addI (fe_var (v0 _)) fe_int) (fe_mul fe_int (fe_var (v1 _))))) (fe_mul fe_int (fe_var (v1 _)))) fe_int) fe_int))) fss_nil)
      (fss_one (fs_ret (fe_varS (v0 _)))))
theorem ok_law_number (T : Txt K mg) : FnOk P w K mg base CX0 1 T.a_law_number T.d_law_number ["_law_cell_here"] (spF K 1 0 m_law_number) :=
  fn_ok (N := ["_law_cell_here"]) T.F_law_number sc_law_number 0 g_law_number fun cdv A outer s H E hr => by
    have nd := sc_law_number.nd
    have v0 : ∀ pos : Pos, PE (cxOf CX0 P w K mg base ["_law_cell_here"] "_law_number" (defScope s_law_number) T.a_law_number cdv A outer s H E).nox (.Name "_law_cell_here" pos) (tVar 0) := fun _ => pv 0
    exact (fss_cons (fs_if (ft_eq hr.units (fe_mod (fe_var (v0 _)) fe_int) fe_int) (fss_one (fs_ret (fe_sub (fe_mod (fe_div (fe_var (v0 _)) fe_int) (fe_addI (fe_mul fe_int (fe_pow fe_int fe_int)) fe_int)) (fe_pow fe_int fe_int)))) fss_nil)
      (fss_one (fs_ret (fe_sub (fe_mod (fe_div (fe_var (v0 _)) fe_int) fe_int) fe_int))))
theorem ok_law_letter (T : Txt K mg) : FnOk P w K mg base CX0 1 T.a_law_letter T.d_law_letter ["_law_cell_here"] (spF K 1 0 m_law_letter) :=
  fn_ok (N := ["_law_cell_here"]) T.F_law_letter sc_law_letter 0 g_law_letter fun cdv A outer s H E hr => by
    have nd := sc_law_letter.nd
    have v0 : ∀ pos : Pos, PE (cxOf CX0 P w K mg base ["_law_cell_here"] "_law_letter" (defScope s_law_letter) T.a_law_letter cdv A outer s H E).nox (.Name "_law_cell_here" pos) (tVar 0) := fun _ => pv 0
    exact (fss_one (fs_ret (fe_fl (fe_ix fe_str (fe_mod (fe_var (v0 _)) fe_int)))))
theorem ok_law_free_name (T : Txt K mg) : FnOk P w K mg base CX0 2 T.a_law_free_name T.d_law_free_name ["_law_cell_here", "_law_taken"] (spF K 2 0 m_law_free_name) :=
  fn_ok (N := ["_law_cell_here", "_law_taken", "_law_tail", "_law_k"]) T.F_law_free_name sc_law_free_name 0 g_law_free_name fun cdv A outer s H E hr => by
    have nd := sc_law_free_name.nd
    have v0 : ∀ pos : Pos, PE (cxOf CX0 P w K mg base ["_law_cell_here", "_law_taken", "_law_tail", "_law_k"] "_law_free_name" (defScope s_law_free_name) T.a_law_free_name cdv A outer s H E).nox (.Name "_law_cell_here" pos) (tVar 0) := fun _ => pv 0
    have v1 : ∀ pos : Pos, PE (cxOf CX0 P w K mg base ["_law_cell_here", "_law_taken", "_law_tail", "_law_k"] "_law_free_name" (defScope s_law_free_name) T.a_law_free_name cdv A outer s H E).nox (.Name "_law_taken" pos) (tVar 1) := fun _ => pv 1
    have v2 : ∀ pos : Pos, PE (cxOf CX0 P w K mg base ["_law_cell_here", "_law_taken", "_law_tail", "_law_k"] "_law_free_name" (defScope s_law_free_name) T.a_law_free_name cdv A outer s H E).nox (.Name "_law_tail" pos) (tVar 2) := fun _ => pv 2
    have v3 : ∀ pos : Pos, PE (cxOf CX0 P w K mg base ["_law_cell_here", "_law_taken", "_law_tail", "_law_k"] "_law_free_name" (defScope s_law_free_name) T.a_law_free_name cdv A outer s H E).nox (.Name "_law_k" pos) (tVar 3) := fun _ => pv 3
    exact (fss_cons (fs_set (i := 2) nd rfl (.inl rfl) fe_str)
      (fss_cons (fs_for PassesOwn.never rfl (fi_rng1 (by rfl) T.m_range (fe_mod (fe_div (fe_var (v0 _)) fe_int) fe_int)) (fg_name (i := 3) nd rfl (.inl rfl)) (fss_one (fs_set (i := 2) nd rfl (.inl rfl) (fe_catZ (fe_var (v2 _)) (fe_call (ok_law_letter T) (hr.mono (by decide)) (by rfl) T.g_law_letter T.F_law_letter.kp T.b_law_letter (fa_cons (fe_addI (fe_div (fe_var (v0 _)) (fe_addI fe_int (fe_mul fe_int (fe_var (v3 _))))) (fe_mul fe_int (fe_var (v3 _)))) fa_nil) (alen_cons alen_nil))))))
      (fss_cons (fs_for PassesOwn.never rfl (fi_rng1 (by rfl) T.m_range (fe_addI (fe_len (by rfl) T.m_len (fa_cons (fe_var (v1 _)) fa_nil)) fe_int)) (fg_name (i := 3) nd rfl (.inl rfl)) (fss_one (fs_if (ft_nin hr.units65 (fe_catZ (fe_call (ok_law_letter T) (hr.mono (by decide)) (by rfl) T.g_law_letter T.F_law_letter.kp T.b_law_letter (fa_cons (fe_addI (fe_var (v0 _)) (fe_var (v3 _))) fa_nil) (alen_cons alen_nil)) (fe_var (v2 _))) (fe_var (v1 _))) (fss_one (fs_ret (fe_catZ (fe_call (ok_law_letter T) (hr.mono (by decide)) (by rfl) T.g_law_letter T.F_law_letter.kp T.b_law_letter (fa_cons (fe_addI (fe_var (v0 _)) (fe_var (v3 _))) fa_nil) (alen_cons alen_nil)) (fe_var (v2 _))))) fss_nil)))
      (fss_one (fs_ret fe_str)))))
theorem ok_law_names (T : Txt K mg) : FnOk P w K mg base CX0 3 T.a_law_names T.d_law_names ["_law_script", "_law_at", "_law_count"] (spF K 3 1 m_law_names) :=
  fn_ok (N := ["_law_script", "_law_at", "_law_count", "_law_cell_here", "_law_words_here", "_law_size", "_law_place", "_law_rest", "_law_names_here", "_law_k", "_law_letter_here"]) T.F_law_names sc_law_names 1 g_law_names fun cdv A outer s H E hr => by
    have nd := sc_law_names.nd
    have v0 : ∀ pos : Pos, PE (cxOf CX0 P w K mg base ["_law_script", "_law_at", "_law_count", "_law_cell_here", "_law_words_here", "_law_size", "_law_place", "_law_rest", "_law_names_here", "_law_k", "_law_letter_here"] "_law_names" (defScope s_law_names) T.a_law_names cdv A outer s H E).nox (.Name "_law_script" pos) (tVar 0) := fun _ => pv 0
    have v1 : ∀ pos : Pos, PE (cxOf CX0 P w K mg base ["_law_script", "_law_at", "_law_count", "_law_cell_here", "_law_words_here", "_law_size", "_law_place", "_law_rest", "_law_names_here", "_law_k", "_law_letter_here"] "_law_names" (defScope s_law_names) T.a_law_names cdv A outer s H E).nox (.Name "_law_at" pos) (tVar 1) := fun _ => pv 1
    have v2 : ∀ pos : Pos, PE (cxOf CX0 P w K mg base ["_law_script", "_law_at", "_law_count", "_law_cell_here", "_law_words_here", "_law_size", "_law_place", "_law_rest", "_law_names_here", "_law_k", "_law_letter_here"] "_law_names" (defScope s_law_names) T.a_law_names cdv A outer s H E).nox (.Name "_law_count" pos) (tVar 2) := fun _ => pv 2
    have v3 : ∀ pos : Pos, PE (cxOf CX0 P w K mg base ["_law_script", "_law_at", "_law_count", "_law_cell_here", "_law_words_here", "_law_size", "_law_place", "_law_rest", "_law_names_here", "_law_k", "_law_letter_here"] "_law_names" (defScope s_law_names) T.a_law_names cdv A outer s H E).nox (.Name "_law_cell_here" pos) (tVar 3) := fun _ => pv 3
    have v4 : ∀ pos : Pos, PE (cxOf CX0 P w K mg base ["_law_script", "_law_at", "_law_count", "_law_cell_here", "_law_words_here", "_law_size", "_law_place", "_law_rest", "_law_names_here", "_law_k", "_law_letter_here"] "_law_names" (defScope s_law_names) T.a_law_names cdv A outer s H E).nox (.Name "_law_words_here" pos) (tVar 4) := fun _ => pv 4
    have v5 : ∀ pos : Pos, PE (cxOf CX0 P w K mg base ["_law_script", "_law_at", "_law_count", "_law_cell_here", "_law_words_here", "_law_size", "_law_place", "_law_rest", "_law_names_here", "_law_k", "_law_letter_here"] "_law_names" (defScope s_law_names) T.a_law_names cdv A outer s H E).nox (.Name "_law_size" pos) (tVar 5) := fun _ => pv 5
    have v6 : ∀ pos : Pos, PE (cxOf CX0 P w K mg base ["_law_script", "_law_at", "_law_count", "_law_cell_here", "_law_words_here", "_law_size", "_law_place", "_law_rest", "_law_names_here", "_law_k", "_law_letter_here"] "_law_names" (defScope s_law_names) T.a_law_names cdv A outer s H E).nox (.Name "_law_place" pos) (tVar 6) := fun _ => pv 6
    have v7 : ∀ pos : Pos, PE (cxOf CX0 P w K mg base ["_law_script", "_law_at", "_law_count", "_law_cell_here", "_law_words_here", "_law_size", "_law_place", "_law_rest", "_law_names_here", "_law_k", "_law_letter_here"] "_law_names" (defScope s_law_names) T.a_law_names cdv A outer s H E).nox (.Name "_law_rest" pos) (tVar 7) := fun _ => pv 7
    have v8 : ∀ pos : Pos, PE (cxOf CX0 P w K mg base ["_law_script", "_law_at", "_law_count", "_law_cell_here", "_law_words_here", "_law_size", "_law_place", "_law_rest", "_law_names_here", "_law_k", "_law_letter_here"] "_law_names" (defScope s_law_names) T.a_law_names cdv A outer s H E).nox (.Name "_law_names_here" pos) (tVar 8) := fun _ => pv 8
    have v9 : ∀ pos : Pos, PE (cxOf CX0 P w K mg base ["_law_script", "_law_at", "_law_count", "_law_cell_here", "_law_words_here", "_law_size", "_law_place", "_law_rest", "_law_names_here", "_law_k", "_law_letter_here"] "_law_names" (defScope s_law_names) T.a_law_names cdv A outer s H E).nox (.Name "_law_k" pos) (tVar 9) := fun _ => pv 9
    have v10 : ∀ pos : Pos, PE (cxOf CX0 P w K mg base ["_law_script", "_law_at", "_law_count", "_law_cell_here", "_law_words_here", "_law_size", "_law_place", "_law_rest", "_law_names_here", "_law_k", "_law_letter_here"] "_law_names" (defScope s_law_names) T.a_law_names cdv A outer s H E).nox (.Name "_law_letter_here" pos) (tVar 10) := fun _ => pv 10
    exact (fss_cons (fs_set (i := 3) nd rfl (.inl rfl) (fe_callO (ok_law_spread T) (hr.mono (by decide)) (by rfl) T.g_law_spread T.F_law_spread.kp T.b_law_spread (fa_cons (fe_call (ok_law_cell T) (hr.mono (by decide)) (by rfl) T.g_law_cell T.F_law_cell.kp T.b_law_cell (fa_cons (fe_var (v0 _)) (fa_cons (fe_var (v1 _)) fa_nil)) (alen_cons (alen_cons alen_nil))) (fa_cons fe_int fa_nil)) (alen_cons (alen_cons alen_nil))))
      (fss_cons (fs_set (i := 4) nd rfl (.inl rfl) (fe_fz (k := 1) (fe_lst (kd := .ow 0) (fa_cons fe_str (fa_cons fe_str (fa_cons fe_str (fa_cons fe_str (fa_cons fe_str (fa_cons fe_str (fa_cons fe_str (fa_cons fe_str (fa_cons fe_str (fa_cons fe_str (fa_cons fe_str (fa_cons fe_str fa_nil)))))))))))))))
      (fss_cons (fs_set (i := 5) nd rfl (.inl rfl) (fe_addI fe_int (fe_mod (fe_div (fe_var (v3 _)) fe_int) fe_int)))
      (fss_cons (fs_set (i := 6) nd rfl (.inl rfl) (fe_mod (fe_div (fe_var (v3 _)) fe_int) (fe_var (v5 _))))
      (fss_cons (fs_set (i := 7) nd rfl (.inl rfl) (fe_join fe_str (fa_cons (fe_rd (fe_lc (k := 0) (ow := [("_law_k", 9)]) rfl nd (fi_rng1 (by rfl) T.m_range (fe_var (v5 _))) (blkOk_by (N := ["_law_script", "_law_at", "_law_count", "_law_cell_here", "_law_words_here", "_law_size", "_law_place", "_law_rest", "_law_names_here", "_law_k", "_law_letter_here"]) (sc := defScope s_law_names) (by decide +kernel)) (by decide) (fun _ _ _ _ _ => (fg_name (i := 9) nd rfl (.inl rfl))) (fun _ _ _ _ _ => pts_yes) (fun _ _ _ _ _ => (fe_callO (ok_law_letter T) (hr.mono (by decide)) (by rfl) T.g_law_letter T.F_law_letter.kp T.b_law_letter (fa_cons (fe_div (fe_call (ok_law_cell T) (hr.mono (by decide)) (by rfl) T.g_law_cell T.F_law_cell.kp T.b_law_cell (fa_cons (fe_var (pv 0)) (fa_cons (fe_addI (fe_var (pv 1)) fe_int) fa_nil)) (alen_cons (alen_cons alen_nil))) (fe_addI (fe_var (pv 9)) fe_int)) fa_nil) (alen_cons alen_nil))))) fa_nil)))
      (fss_cons (fs_set (i := 8) nd rfl (.inl rfl) (fe_lst (kd := .ow 0) fa_nil))
      (fss_cons (fs_for PassesOwn.never rfl (fi_rng1 (by rfl) T.m_range (fe_var (v2 _))) (fg_name (i := 9) nd rfl (.inl rfl)) (fss_one (fs_if (ft_eq hr.units (fe_mod (fe_var (v3 _)) fe_int) fe_int) (fss_one (fs_app (pe_bm PySem.F.plainAttrs_list PySem.F.slot_list_append PySem.F.type_list_append mt_append (v8 _) (pa_cons (fe_ixS (fe_varS (v4 _)) (fe_mod (fe_addI (fe_div (fe_var (v3 _)) fe_int) (fe_mul (fe_var (v9 _)) fe_int)) fe_int)) pa_nil)))) (fss_one (fs_if (ft_eq hr.units (fe_mod (fe_var (v3 _)) fe_int) fe_int) (fss_cons (fs_set (i := 10) nd rfl (.inl rfl) (fe_callO (ok_law_letter T) (hr.mono (by decide)) (by rfl) T.g_law_letter T.F_law_letter.kp T.b_law_letter (fa_cons (fe_addI (fe_div (fe_var (v3 _)) fe_int) (fe_mul fe_int (fe_var (v9 _)))) fa_nil) (alen_cons alen_nil)))
      (fss_one (fs_app (pe_bm PySem.F.plainAttrs_list PySem.F.slot_list_append PySem.F.type_list_append mt_append (v8 _) (pa_cons (fe_catZ (fe_catZ (fe_slZ (fe_var (v7 _)) fo_none (fo_some (fe_var (v6 _)))) (fe_var (v10 _))) (fe_slZ (fe_var (v7 _)) (fo_some (fe_addI (fe_var (v6 _)) fe_int)) fo_none)) pa_nil))))) (fss_one (fs_app (pe_bm PySem.F.plainAttrs_list PySem.F.slot_list_append PySem.F.type_list_append mt_append (v8 _) (pa_cons (fe_callO (ok_law_free_name T) (hr.mono (by decide)) (by rfl) T.g_law_free_name T.F_law_free_name.kp T.b_law_free_name (fa_cons (fe_call (ok_law_spread T) (hr.mono (by decide)) (by rfl) T.g_law_spread T.F_law_spread.kp T.b_law_spread (fa_cons (fe_call (ok_law_cell T) (hr.mono (by decide)) (by rfl) T.g_law_cell T.F_law_cell.kp T.b_law_cell (fa_cons (fe_var (v0 _)) (fa_cons (fe_addI (fe_addI (fe_var (v1 _)) fe_int) (fe_var (v9 _))) fa_nil)) (alen_cons (alen_cons alen_nil))) (fa_cons (fe_var (v9 _)) fa_nil)) (alen_cons (alen_cons alen_nil))) (fa_cons (fe_var (v8 _)) fa_nil)) (alen_cons (alen_cons alen_nil))) pa_nil)))))))))
      (fss_one (fs_retV (v8 _))))))))))
theorem ok_law_term (T : Txt K mg) : FnOk P w K mg base CX0 1 T.a_law_term T.d_law_term ["_law_names_here", "_law_f"] (spF K 2 1 m_law_term) :=
  fn_ok (N := ["_law_names_here", "_law_f"]) T.F_law_term sc_law_term 1 g_law_term fun cdv A outer s H E hr => by
    have nd := sc_law_term.nd
    have v0 : ∀ pos : Pos, PE (cxOf CX0 P w K mg base ["_law_names_here", "_law_f"] "_law_term" (defScope s_law_term) T.a_law_term cdv A outer s H E).nox (.Name "_law_names_here" pos) (tVar 0) := fun _ => pv 0
    have v1 : ∀ pos : Pos, PE (cxOf CX0 P w K mg base ["_law_names_here", "_law_f"] "_law_term" (defScope s_law_term) T.a_law_term cdv A outer s H E).nox (.Name "_law_f" pos) (tVar 1) := fun _ => pv 1
    exact (fss_cons (fs_if (ft_eq hr.units (fe_mod (fe_var (v1 _)) fe_int) fe_int) (fss_one (fs_ret (fe_lst (kd := .ow 0) (fa_cons fe_str (fa_cons (fe_ixS (fe_varS (v0 _)) (fe_div (fe_var (v1 _)) fe_int)) fa_nil))))) fss_nil)
      (fss_one (fs_ret (fe_lst (kd := .ow 0) (fa_cons fe_str (fa_cons (fe_ixS (fe_varS (v0 _)) (fe_div (fe_var (v1 _)) fe_int)) fa_nil))))))
theorem ok_law_words (T : Txt K mg) : FnOk P w K mg base CX0 2 T.a_law_words T.d_law_words ["_law_names_here", "_law_side_here"] (spF K 2 0 m_law_words) :=
  fn_ok (N := ["_law_names_here", "_law_side_here", "_law_one", "_law_text", "_law_other"]) T.F_law_words sc_law_words 0 g_law_words fun cdv A outer s H E hr => by
    have nd := sc_law_words.nd
    have v0 : ∀ pos : Pos, PE (cxOf CX0 P w K mg base ["_law_names_here", "_law_side_here", "_law_one", "_law_text", "_law_other"] "_law_words" (defScope s_law_words) T.a_law_words cdv A outer s H E).nox (.Name "_law_names_here" pos) (tVar 0) := fun _ => pv 0
    have v1 : ∀ pos : Pos, PE (cxOf CX0 P w K mg base ["_law_names_here", "_law_side_here", "_law_one", "_law_text", "_law_other"] "_law_words" (defScope s_law_words) T.a_law_words cdv A outer s H E).nox (.Name "_law_side_here" pos) (tVar 1) := fun _ => pv 1
    have v2 : ∀ pos : Pos, PE (cxOf CX0 P w K mg base ["_law_names_here", "_law_side_here", "_law_one", "_law_text", "_law_other"] "_law_words" (defScope s_law_words) T.a_law_words cdv A outer s H E).nox (.Name "_law_one" pos) (tVar 2) := fun _ => pv 2
    have v3 : ∀ pos : Pos, PE (cxOf CX0 P w K mg base ["_law_names_here", "_law_side_here", "_law_one", "_law_text", "_law_other"] "_law_words" (defScope s_law_words) T.a_law_words cdv A outer s H E).nox (.Name "_law_text" pos) (tVar 3) := fun _ => pv 3
    have v4 : ∀ pos : Pos, PE (cxOf CX0 P w K mg base ["_law_names_here", "_law_side_here", "_law_one", "_law_text", "_law_other"] "_law_words" (defScope s_law_words) T.a_law_words cdv A outer s H E).nox (.Name "_law_other" pos) (tVar 4) := fun _ => pv 4
    exact (fss_cons (fs_set (i := 2) nd rfl (.inl rfl) (fe_fz (fe_callO (ok_law_term T) (hr.mono (by decide)) (by rfl) T.g_law_term T.F_law_term.kp T.b_law_term (fa_cons (fe_var (v0 _)) (fa_cons (fe_ix (fe_var (v1 _)) fe_int) fa_nil)) (alen_cons (alen_cons alen_nil)))))
      (fss_cons (fs_set (i := 3) nd rfl (.inl rfl) (fe_ixS (fe_varS (v2 _)) fe_int))
      (fss_cons (fs_if (ft_eq hr.units (fe_ix (fe_var (v2 _)) fe_int) fe_str) (fss_one (fs_set (i := 3) nd rfl (.inl rfl) (fe_catZ fe_str (fe_var (v3 _))))) fss_nil)
      (fss_cons (fs_if (ft_eq hr.units (fe_ix (fe_var (v1 _)) fe_int) (fe_ix (fe_var (v1 _)) fe_int)) (fss_one (fs_ret (fe_catZ (fe_catZ (fe_var (v3 _)) fe_str) (fe_stri (by rfl) T.m_str (fa_cons (fe_div (fe_ix (fe_var (v1 _)) fe_int) fe_int) fa_nil))))) fss_nil)
      (fss_cons (fs_set (i := 4) nd rfl (.inl rfl) (fe_fz (fe_callO (ok_law_term T) (hr.mono (by decide)) (by rfl) T.g_law_term T.F_law_term.kp T.b_law_term (fa_cons (fe_var (v0 _)) (fa_cons (fe_ix (fe_var (v1 _)) fe_int) fa_nil)) (alen_cons (alen_cons alen_nil)))))
      (fss_one (fs_ret (fe_catZ (fe_catZ (fe_catZ (fe_catZ (fe_catZ (fe_var (v3 _)) fe_str) (fe_ix (fe_var (v4 _)) fe_int)) (fe_ix (fe_var (v4 _)) fe_int)) fe_str) (fe_stri (by rfl) T.m_str (fa_cons (fe_ix (fe_var (v1 _)) fe_int) fa_nil))))))))))
theorem ok_law_side (T : Txt K mg) : FnOk P w K mg base CX0 2 T.a_law_side T.d_law_side ["_law_cell_here", "_law_k", "_law_count"] (spF K 3 0 m_law_side) :=
  fn_ok (N := ["_law_cell_here", "_law_k", "_law_count", "_law_f", "_law_g", "_law_number_here"]) T.F_law_side sc_law_side 0 g_law_side fun cdv A outer s H E hr => by
    have nd := sc_law_side.nd
    have v0 : ∀ pos : Pos, PE (cxOf CX0 P w K mg base ["_law_cell_here", "_law_k", "_law_count", "_law_f", "_law_g", "_law_number_here"] "_law_side" (defScope s_law_side) T.a_law_side cdv A outer s H E).nox (.Name "_law_cell_here" pos) (tVar 0) := fun _ => pv 0
    have v1 : ∀ pos : Pos, PE (cxOf CX0 P w K mg base ["_law_cell_here", "_law_k", "_law_count", "_law_f", "_law_g", "_law_number_here"] "_law_side" (defScope s_law_side) T.a_law_side cdv A outer s H E).nox (.Name "_law_k" pos) (tVar 1) := fun _ => pv 1
    have v2 : ∀ pos : Pos, PE (cxOf CX0 P w K mg base ["_law_cell_here", "_law_k", "_law_count", "_law_f", "_law_g", "_law_number_here"] "_law_side" (defScope s_law_side) T.a_law_side cdv A outer s H E).nox (.Name "_law_count" pos) (tVar 2) := fun _ => pv 2
    have v3 : ∀ pos : Pos, PE (cxOf CX0 P w K mg base ["_law_cell_here", "_law_k", "_law_count", "_law_f", "_law_g", "_law_number_here"] "_law_side" (defScope s_law_side) T.a_law_side cdv A outer s H E).nox (.Name "_law_f" pos) (tVar 3) := fun _ => pv 3
    have v4 : ∀ pos : Pos, PE (cxOf CX0 P w K mg base ["_law_cell_here", "_law_k", "_law_count", "_law_f", "_law_g", "_law_number_here"] "_law_side" (defScope s_law_side) T.a_law_side cdv A outer s H E).nox (.Name "_law_g" pos) (tVar 4) := fun _ => pv 4
    have v5 : ∀ pos : Pos, PE (cxOf CX0 P w K mg base ["_law_cell_here", "_law_k", "_law_count", "_law_f", "_law_g", "_law_number_here"] "_law_side" (defScope s_law_side) T.a_law_side cdv A outer s H E).nox (.Name "_law_number_here" pos) (tVar 5) := fun _ => pv 5
    exact (fss_cons (fs_set (i := 0) nd rfl (.inl rfl) (fe_callO (ok_law_spread T) (hr.mono (by decide)) (by rfl) T.g_law_spread T.F_law_spread.kp T.b_law_spread (fa_cons (fe_var (v0 _)) (fa_cons (fe_var (v1 _)) fa_nil)) (alen_cons (alen_cons alen_nil))))
      (fss_cons (fs_set (i := 3) nd rfl (.inl rfl) (fe_mod (fe_var (v0 _)) (fe_mul fe_int (fe_var (v2 _)))))
      (fss_cons (fs_set (i := 4) nd rfl (.inl rfl) (fe_addI (fe_mul (fe_mod (fe_addI (fe_addI (fe_div (fe_var (v3 _)) fe_int) fe_int) (fe_mod (fe_div (fe_var (v0 _)) fe_int) (fe_var (v2 _)))) (fe_var (v2 _))) fe_int) (fe_mod (fe_div (fe_var (v0 _)) fe_int) fe_int)))
      (fss_cons (fs_set (i := 5) nd rfl (.inl rfl) (fe_callO (ok_law_number T) (hr.mono (by decide)) (by rfl) T.g_law_number T.F_law_number.kp T.b_law_number (fa_cons (fe_div (fe_var (v0 _)) fe_int) fa_nil) (alen_cons alen_nil)))
      (fss_cons (fs_if (PW.pt (fw_or (ft_eq hr.units (fe_div (fe_var (v4 _)) fe_int) (fe_div (fe_var (v3 _)) fe_int)) (fw_or1 (ft_eq hr.units (fe_mod (fe_div (fe_var (v0 _)) fe_int) fe_int) fe_int)))) (fss_one (fs_ret (fe_tup (fa_cons (fe_varS (v3 _)) (fa_cons (fe_varS (v3 _)) (fa_cons (fe_mul fe_int (fe_var (v5 _))) fa_nil)))))) fss_nil)
      (fss_one (fs_ret (fe_tup (fa_cons (fe_varS (v3 _)) (fa_cons (fe_varS (v4 _)) (fa_cons (fe_varS (v5 _)) fa_nil)))))))))))
theorem ok_law (T : Txt K mg) : FnOk P w K mg base CX0 4 T.a_law T.d_law ["_law_script"] (spF K 1 0 m_law) :=
  fn_ok (N := ["_law_script", "_law_count", "_law_names_here", "_law_back", "_law_cells", "_law_k", "_law_side_here", "_law_some", "_law_handed", "_law_told"]) T.F_law sc_law 0 g_law fun cdv A outer s H E hr => by
    have nd := sc_law.nd
    have v0 : ∀ pos : Pos, PE (cxOf CX0 P w K mg base ["_law_script", "_law_count", "_law_names_here", "_law_back", "_law_cells", "_law_k", "_law_side_here", "_law_some", "_law_handed", "_law_told"] "law" (defScope s_law) T.a_law cdv A outer s H E).nox (.Name "_law_script" pos) (tVar 0) := fun _ => pv 0
    have v1 : ∀ pos : Pos, PE (cxOf CX0 P w K mg base ["_law_script", "_law_count", "_law_names_here", "_law_back", "_law_cells", "_law_k", "_law_side_here", "_law_some", "_law_handed", "_law_told"] "law" (defScope s_law) T.a_law cdv A outer s H E).nox (.Name "_law_count" pos) (tVar 1) := fun _ => pv 1
    have v2 : ∀ pos : Pos, PE (cxOf CX0 P w K mg base ["_law_script", "_law_count", "_law_names_here", "_law_back", "_law_cells", "_law_k", "_law_side_here", "_law_some", "_law_handed", "_law_told"] "law" (defScope s_law) T.a_law cdv A outer s H E).nox (.Name "_law_names_here" pos) (tVar 2) := fun _ => pv 2
    have v3 : ∀ pos : Pos, PE (cxOf CX0 P w K mg base ["_law_script", "_law_count", "_law_names_here", "_law_back", "_law_cells", "_law_k", "_law_side_here", "_law_some", "_law_handed", "_law_told"] "law" (defScope s_law) T.a_law cdv A outer s H E).nox (.Name "_law_back" pos) (tVar 3) := fun _ => pv 3
    have v4 : ∀ pos : Pos, PE (cxOf CX0 P w K mg base ["_law_script", "_law_count", "_law_names_here", "_law_back", "_law_cells", "_law_k", "_law_side_here", "_law_some", "_law_handed", "_law_told"] "law" (defScope s_law) T.a_law cdv A outer s H E).nox (.Name "_law_cells" pos) (tVar 4) := fun _ => pv 4
    have v5 : ∀ pos : Pos, PE (cxOf CX0 P w K mg base ["_law_script", "_law_count", "_law_names_here", "_law_back", "_law_cells", "_law_k", "_law_side_here", "_law_some", "_law_handed", "_law_told"] "law" (defScope s_law) T.a_law cdv A outer s H E).nox (.Name "_law_k" pos) (tVar 5) := fun _ => pv 5
    have v6 : ∀ pos : Pos, PE (cxOf CX0 P w K mg base ["_law_script", "_law_count", "_law_names_here", "_law_back", "_law_cells", "_law_k", "_law_side_here", "_law_some", "_law_handed", "_law_told"] "law" (defScope s_law) T.a_law cdv A outer s H E).nox (.Name "_law_side_here" pos) (tVar 6) := fun _ => pv 6
    have v7 : ∀ pos : Pos, PE (cxOf CX0 P w K mg base ["_law_script", "_law_count", "_law_names_here", "_law_back", "_law_cells", "_law_k", "_law_side_here", "_law_some", "_law_handed", "_law_told"] "law" (defScope s_law) T.a_law cdv A outer s H E).nox (.Name "_law_some" pos) (tVar 7) := fun _ => pv 7
    have v8 : ∀ pos : Pos, PE (cxOf CX0 P w K mg base ["_law_script", "_law_count", "_law_names_here", "_law_back", "_law_cells", "_law_k", "_law_side_here", "_law_some", "_law_handed", "_law_told"] "law" (defScope s_law) T.a_law cdv A outer s H E).nox (.Name "_law_handed" pos) (tVar 8) := fun _ => pv 8
    have v9 : ∀ pos : Pos, PE (cxOf CX0 P w K mg base ["_law_script", "_law_count", "_law_names_here", "_law_back", "_law_cells", "_law_k", "_law_side_here", "_law_some", "_law_handed", "_law_told"] "law" (defScope s_law) T.a_law cdv A outer s H E).nox (.Name "_law_told" pos) (tVar 9) := fun _ => pv 9
    exact (fss_cons (fs_set (i := 1) nd rfl (.inr rfl) (fe_addI fe_int (fe_mod (fe_call (ok_law_cell T) (hr.mono (by decide)) (by rfl) T.g_law_cell T.F_law_cell.kp T.b_law_cell (fa_cons (fe_var (v0 _)) (fa_cons fe_int fa_nil)) (alen_cons (alen_cons alen_nil))) fe_int)))
      (fss_cons (fs_set (i := 2) nd rfl (.inr rfl) (fe_fz (fe_callO (ok_law_names T) (hr.mono (by decide)) (by rfl) T.g_law_names T.F_law_names.kp T.b_law_names (fa_cons (fe_var (v0 _)) (fa_cons fe_int (fa_cons (fe_var (v1 _)) fa_nil))) (alen_cons (alen_cons (alen_cons alen_nil))))))
      (fss_cons (fs_setLc0 (i := 3) (k' := 0) (ow := [("_law_k", 5)]) rfl nd rfl rfl (sw_true rfl rfl rfl (by decide +kernel)) (fi_rng1 (by rfl) T.m_range (fe_var (v1 _))) (blkOk_by (N := ["_law_script", "_law_count", "_law_names_here", "_law_back", "_law_cells", "_law_k", "_law_side_here", "_law_some", "_law_handed", "_law_told"]) (sc := defScope s_law) (by decide +kernel)) (by decide) (fun _ _ _ _ _ => (fg_name (i := 5) nd rfl (.inl rfl))) (fun _ _ _ _ _ => pts_yes) (fun _ _ _ _ _ => (fe_ixS (fe_varS (pv 2)) (fe_sub (fe_sub (fe_var (pv 1)) fe_int) (fe_var (pv 5))))))
      (fss_cons (fs_set (i := 4) nd rfl (.inl rfl) (fe_fz (fe_slF (fe_var (v0 _)) (fo_some fe_int) (fo_some fe_int))))
      (fss_cons (fs_if (ft_eq hr.units (fe_len (by rfl) T.m_len (fa_cons (fe_var (v4 _)) fa_nil)) fe_int) (fss_one (fs_setLc0 (i := 4) (k' := 0) (ow := [("_law_k", 5)]) rfl nd rfl rfl (sw_true rfl rfl rfl (by decide +kernel)) (fi_rng1 (by rfl) T.m_range (fe_mod (fe_call (ok_law_cell T) (hr.mono (by decide)) (by rfl) T.g_law_cell T.F_law_cell.kp T.b_law_cell (fa_cons (fe_var (v0 _)) (fa_cons fe_int fa_nil)) (alen_cons (alen_cons alen_nil))) fe_int)) (blkOk_by (N := ["_law_script", "_law_count", "_law_names_here", "_law_back", "_law_cells", "_law_k", "_law_side_here", "_law_some", "_law_handed", "_law_told"]) (sc := defScope s_law) (by decide +kernel)) (by decide) (fun _ _ _ _ _ => (fg_name (i := 5) nd rfl (.inl rfl))) (fun _ _ _ _ _ => pts_yes) (fun _ _ _ _ _ => (fe_callO (ok_law_cell T) (hr.mono (by decide)) (by rfl) T.g_law_cell T.F_law_cell.kp T.b_law_cell (fa_cons (fe_var (pv 0)) (fa_cons (fe_addI fe_int (fe_var (pv 5))) fa_nil)) (alen_cons (alen_cons alen_nil)))))) fss_nil)
      (fss_cons (fs_for PassesOwn.never rfl (fi_rng1 (by rfl) T.m_range (fe_len (by rfl) T.m_len (fa_cons (fe_var (v4 _)) fa_nil))) (fg_name (i := 5) nd rfl (.inl rfl)) (fss_cons (fs_set (i := 6) nd rfl (.inl rfl) (fe_callO (ok_law_side T) (hr.mono (by decide)) (by rfl) T.g_law_side T.F_law_side.kp T.b_law_side (fa_cons (fe_ix (fe_var (v4 _)) (fe_var (v5 _))) (fa_cons (fe_var (v5 _)) (fa_cons (fe_var (v1 _)) fa_nil))) (alen_cons (alen_cons (alen_cons alen_nil)))))
      (fss_one (fs_for PassesOwn.never rfl (fi_seq (fe_fz (k := 1) (fe_lst (kd := .ow 0) (fa_cons (fe_varS (v2 _)) (fa_cons (fe_varS (v3 _)) fa_nil))))) (fg_name (i := 7) nd rfl (.inl rfl)) (fss_cons (fs_set (i := 8) nd rfl (.inl rfl) (fe_fz (fe_list (by rfl) T.m_list (fe_var (v7 _)))))
      (fss_cons (fs_set (i := 9) nd rfl (.inl rfl) (fe_callO (ok_show_side T) (hr.mono (by decide)) (by rfl) T.g_show_side T.F_show_side.kp T.b_show_side (fa_cons (fe_var (v8 _)) (fa_cons (fe_var (v6 _)) fa_nil)) (alen_cons (alen_cons alen_nil))))
      (fss_one (fs_if (PW.pt (fw_or (ft_not (ft_val (fe_isi (T := "str") (by rfl) T.m_isinstance (pe_bltn (by rfl) T.m_str (by decide +kernel) rfl) (fe_var (v9 _))))) (fw_or (ft_ne hr.units (fe_var (v9 _)) (fe_call (ok_law_words T) (hr.mono (by decide)) (by rfl) T.g_law_words T.F_law_words.kp T.b_law_words (fa_cons (fe_var (v7 _)) (fa_cons (fe_var (v6 _)) fa_nil)) (alen_cons (alen_cons alen_nil)))) (fw_or1 (ft_ne hr.units (fe_var (v8 _)) (fe_var (v7 _))))))) (fss_one (fs_ret fe_bl)) fss_nil))))))))
      (fss_one (fs_ret fe_bl))))))))
end
theorem all_mk {l : PySem.W.OpenLaw} {w : World} {K : PySem.W.Frag} {h : Heap} {mg : Str → Option Value} {fa : Addr} (X : K.In h) (G : h.Ns mainGlobals mg) (hfa : mg "law" = some (.ref fa))
    {f_show_first : Addr} {od_show_first an_show_first : Option Addr} {sl_show_first : Array (Option Value)} {oc_show_first kV_show_first dc_show_first pm_show_first cd_show_first ct_show_first : Value}
    (A_show_first : PySem.W.nsIn K mainGlobals "show_first" = some (some (.ref f_show_first))) (l_show_first : K.lookup f_show_first = some ⟨oc_show_first, od_show_first, .func (PySem.W.fnOf "show_first" "show_first" (defArgs s_show_first) (defBody s_show_first) (defScope s_show_first) .none kV_show_first dc_show_first pm_show_first an_show_first cd_show_first ct_show_first), sl_show_first⟩) (c_show_first : PySem.W.codeIn K cd_show_first "show_first" = true) (k_show_first : PySem.W.keepIn K (.ref f_show_first) = true)
    {f_show_later : Addr} {od_show_later an_show_later : Option Addr} {sl_show_later : Array (Option Value)} {oc_show_later kV_show_later dc_show_later pm_show_later cd_show_later ct_show_later : Value}
    (A_show_later : PySem.W.nsIn K mainGlobals "show_later" = some (some (.ref f_show_later))) (l_show_later : K.lookup f_show_later = some ⟨oc_show_later, od_show_later, .func (PySem.W.fnOf "show_later" "show_later" (defArgs s_show_later) (defBody s_show_later) (defScope s_show_later) .none kV_show_later dc_show_later pm_show_later an_show_later cd_show_later ct_show_later), sl_show_later⟩) (c_show_later : PySem.W.codeIn K cd_show_later "show_later" = true) (k_show_later : PySem.W.keepIn K (.ref f_show_later) = true)
    {f_show_sum : Addr} {od_show_sum an_show_sum : Option Addr} {sl_show_sum : Array (Option Value)} {oc_show_sum kV_show_sum dc_show_sum pm_show_sum cd_show_sum ct_show_sum : Value}
    (A_show_sum : PySem.W.nsIn K mainGlobals "show_sum" = some (some (.ref f_show_sum))) (l_show_sum : K.lookup f_show_sum = some ⟨oc_show_sum, od_show_sum, .func (PySem.W.fnOf "show_sum" "show_sum" (defArgs s_show_sum) (defBody s_show_sum) (defScope s_show_sum) .none kV_show_sum dc_show_sum pm_show_sum an_show_sum cd_show_sum ct_show_sum), sl_show_sum⟩) (c_show_sum : PySem.W.codeIn K cd_show_sum "show_sum" = true) (k_show_sum : PySem.W.keepIn K (.ref f_show_sum) = true)
    {f_show_side : Addr} {od_show_side an_show_side : Option Addr} {sl_show_side : Array (Option Value)} {oc_show_side kV_show_side dc_show_side pm_show_side cd_show_side ct_show_side : Value}
    (A_show_side : PySem.W.nsIn K mainGlobals "show_side" = some (some (.ref f_show_side))) (l_show_side : K.lookup f_show_side = some ⟨oc_show_side, od_show_side, .func (PySem.W.fnOf "show_side" "show_side" (defArgs s_show_side) (defBody s_show_side) (defScope s_show_side) .none kV_show_side dc_show_side pm_show_side an_show_side cd_show_side ct_show_side), sl_show_side⟩) (c_show_side : PySem.W.codeIn K cd_show_side "show_side" = true) (k_show_side : PySem.W.keepIn K (.ref f_show_side) = true)
    {f_law_cell : Addr} {od_law_cell an_law_cell : Option Addr} {sl_law_cell : Array (Option Value)} {oc_law_cell kV_law_cell dc_law_cell pm_law_cell cd_law_cell ct_law_cell : Value}
    (A_law_cell : PySem.W.nsIn K mainGlobals "_law_cell" = some (some (.ref f_law_cell))) (l_law_cell : K.lookup f_law_cell = some ⟨oc_law_cell, od_law_cell, .func (PySem.W.fnOf "_law_cell" "_law_cell" (defArgs s_law_cell) (defBody s_law_cell) (defScope s_law_cell) .none kV_law_cell dc_law_cell pm_law_cell an_law_cell cd_law_cell ct_law_cell), sl_law_cell⟩) (c_law_cell : PySem.W.codeIn K cd_law_cell "_law_cell" = true) (k_law_cell : PySem.W.keepIn K (.ref f_law_cell) = true)
    {f_law_spread : Addr} {od_law_spread an_law_spread : Option Addr} {sl_law_spread : Array (Option Value)} {oc_law_spread kV_law_spread dc_law_spread pm_law_spread cd_law_spread ct_law_spread : Value}
    (A_law_spread : PySem.W.nsIn K mainGlobals "_law_spread" = some (some (.ref f_law_spread))) (l_law_spread : K.lookup f_law_spread = some ⟨oc_law_spread, od_law_spread, .func (PySem.W.fnOf "_law_spread" "_law_spread" (defArgs s_law_spread) (defBody s_law_spread) (defScope s_law_spread) .none kV_law_spread dc_law_spread pm_law_spread an_law_spread cd_law_spread ct_law_spread), sl_law_spread⟩) (c_law_spread : PySem.W.codeIn K cd_law_spread "_law_spread" = true) (k_law_spread : PySem.W.keepIn K (.ref f_law_spread) = true)
    {f_law_number : Addr} {od_law_number an_law_number : Option Addr} {sl_law_number : Array (Option Value)} {oc_law_number kV_law_number dc_law_number pm_law_number cd_law_number ct_law_number : Value}
    (A_law_number : PySem.W.nsIn K mainGlobals "_law_number" = some (some (.ref f_law_number))) (l_law_number : K.lookup f_law_number = some ⟨oc_law_number, od_law_number, .func (PySem.W.fnOf "_law_number" "_law_number" (defArgs s_law_number) (defBody s_law_number) (defScope s_law_number) .none kV_law_number dc_law_number pm_law_number an_law_number cd_law_number ct_law_number), sl_law_number⟩) (c_law_number : PySem.W.codeIn K cd_law_number "_law_number" = true) (k_law_number : PySem.W.keepIn K (.ref f_law_number) = true)
    {f_law_letter : Addr} {od_law_letter an_law_letter : Option Addr} {sl_law_letter : Array (Option Value)} {oc_law_letter kV_law_letter dc_law_letter pm_law_letter cd_law_letter ct_law_letter : Value}
    (A_law_letter : PySem.W.nsIn K mainGlobals "_law_letter" = some (some (.ref f_law_letter))) (l_law_letter : K.lookup f_law_letter = some ⟨oc_law_letter, od_law_letter, .func (PySem.W.fnOf "_law_letter" "_law_letter" (defArgs s_law_letter) (defBody s_law_letter) (defScope s_law_letter) .none kV_law_letter dc_law_letter pm_law_letter an_law_letter cd_law_letter ct_law_letter), sl_law_letter⟩) (c_law_letter : PySem.W.codeIn K cd_law_letter "_law_letter" = true) (k_law_letter : PySem.W.keepIn K (.ref f_law_letter) = true)
    {f_law_free_name : Addr} {od_law_free_name an_law_free_name : Option Addr} {sl_law_free_name : Array (Option Value)} {oc_law_free_name kV_law_free_name dc_law_free_name pm_law_free_name cd_law_free_name ct_law_free_name : Value}
    (A_law_free_name : PySem.W.nsIn K mainGlobals "_law_free_name" = some (some (.ref f_law_free_name))) (l_law_free_name : K.lookup f_law_free_name = some ⟨oc_law_free_name, od_law_free_name, .func (PySem.W.fnOf "_law_free_name" "_law_free_name" (defArgs s_law_free_name) (defBody s_law_free_name) (defScope s_law_free_name) .none kV_law_free_name dc_law_free_name pm_law_free_name an_law_free_name cd_law_free_name ct_law_free_name), sl_law_free_name⟩) (c_law_free_name : PySem.W.codeIn K cd_law_free_name "_law_free_name" = true) (k_law_free_name : PySem.W.keepIn K (.ref f_law_free_name) = true)
    {f_law_names : Addr} {od_law_names an_law_names : Option Addr} {sl_law_names : Array (Option Value)} {oc_law_names kV_law_names dc_law_names pm_law_names cd_law_names ct_law_names : Value}
    (A_law_names : PySem.W.nsIn K mainGlobals "_law_names" = some (some (.ref f_law_names))) (l_law_names : K.lookup f_law_names = some ⟨oc_law_names, od_law_names, .func (PySem.W.fnOf "_law_names" "_law_names" (defArgs s_law_names) (defBody s_law_names) (defScope s_law_names) .none kV_law_names dc_law_names pm_law_names an_law_names cd_law_names ct_law_names), sl_law_names⟩) (c_law_names : PySem.W.codeIn K cd_law_names "_law_names" = true) (k_law_names : PySem.W.keepIn K (.ref f_law_names) = true)
    {f_law_term : Addr} {od_law_term an_law_term : Option Addr} {sl_law_term : Array (Option Value)} {oc_law_term kV_law_term dc_law_term pm_law_term cd_law_term ct_law_term : Value}
    (A_law_term : PySem.W.nsIn K mainGlobals "_law_term" = some (some (.ref f_law_term))) (l_law_term : K.lookup f_law_term = some ⟨oc_law_term, od_law_term, .func (PySem.W.fnOf "_law_term" "_law_term" (defArgs s_law_term) (defBody s_law_term) (defScope s_law_term) .none kV_law_term dc_law_term pm_law_term an_law_term cd_law_term ct_law_term), sl_law_term⟩) (c_law_term : PySem.W.codeIn K cd_law_term "_law_term" = true) (k_law_term : PySem.W.keepIn K (.ref f_law_term) = true)
    {f_law_words : Addr} {od_law_words an_law_words : Option Addr} {sl_law_words : Array (Option Value)} {oc_law_words kV_law_words dc_law_words pm_law_words cd_law_words ct_law_words : Value}
    (A_law_words : PySem.W.nsIn K mainGlobals "_law_words" = some (some (.ref f_law_words))) (l_law_words : K.lookup f_law_words = some ⟨oc_law_words, od_law_words, .func (PySem.W.fnOf "_law_words" "_law_words" (defArgs s_law_words) (defBody s_law_words) (defScope s_law_words) .none kV_law_words dc_law_words pm_law_words an_law_words cd_law_words ct_law_words), sl_law_words⟩) (c_law_words : PySem.W.codeIn K cd_law_words "_law_words" = true) (k_law_words : PySem.W.keepIn K (.ref f_law_words) = true)
    {f_law_side : Addr} {od_law_side an_law_side : Option Addr} {sl_law_side : Array (Option Value)} {oc_law_side kV_law_side dc_law_side pm_law_side cd_law_side ct_law_side : Value}
    (A_law_side : PySem.W.nsIn K mainGlobals "_law_side" = some (some (.ref f_law_side))) (l_law_side : K.lookup f_law_side = some ⟨oc_law_side, od_law_side, .func (PySem.W.fnOf "_law_side" "_law_side" (defArgs s_law_side) (defBody s_law_side) (defScope s_law_side) .none kV_law_side dc_law_side pm_law_side an_law_side cd_law_side ct_law_side), sl_law_side⟩) (c_law_side : PySem.W.codeIn K cd_law_side "_law_side" = true) (k_law_side : PySem.W.keepIn K (.ref f_law_side) = true)
    {f_law : Addr} {od_law an_law : Option Addr} {sl_law : Array (Option Value)} {oc_law kV_law dc_law pm_law cd_law ct_law : Value}
    (A_law : PySem.W.nsIn K mainGlobals "law" = some (some (.ref f_law))) (l_law : K.lookup f_law = some ⟨oc_law, od_law, .func (PySem.W.fnOf "law" "law" (defArgs s_law) (defBody s_law) (defScope s_law) .none kV_law dc_law pm_law an_law cd_law ct_law), sl_law⟩) (c_law : PySem.W.codeIn K cd_law "law" = true) (k_law : PySem.W.keepIn K (.ref f_law) = true)
    (z_isinstance : PySem.W.nsIn K mainGlobals "isinstance" = some none)
    (z_len : PySem.W.nsIn K mainGlobals "len" = some none)
    (z_list : PySem.W.nsIn K mainGlobals "list" = some none)
    (z_range : PySem.W.nsIn K mainGlobals "range" = some none)
    (z_str : PySem.W.nsIn K mainGlobals "str" = some none) :
    ∃ fd : FuncData, (∀ (s : Shared) (v : Value), BindsTo s fd ⟨[v], []⟩ [("_law_script", v)]) ∧ ∀ base : Heap, K.In base → base.Ns mainGlobals mg → FnOk l.prog w K mg base CX0 4 fa fd ["_law_script"] (spF K 1 0 m_law) := by
  have e := hfa.symm.trans (PySem.W.mg_of X G A_law)
  cases e
  exact ⟨PySem.W.fnOf "law" "law" (defArgs s_law) (defBody s_law) (defScope s_law) .none kV_law dc_law pm_law an_law cd_law ct_law, fun s v => .of_eq rfl, fun base _ _ => ok_law (P := l.prog) (w := w) (base := base) {
    a_show_first := f_show_first
    d_show_first := _
    F_show_first := fun_mk (st := s_show_first) l_show_first c_show_first k_show_first
    g_show_first := PySem.W.mg_of X G A_show_first
    b_show_first := (fun_mk (st := s_show_first) l_show_first c_show_first k_show_first).binds (ps := ["names", "f"]) fun _ _ _ _ _ _ us hl => match us, hl with | [_, _], _ => rfl
    a_show_later := f_show_later
    d_show_later := _
    F_show_later := fun_mk (st := s_show_later) l_show_later c_show_later k_show_later
    g_show_later := PySem.W.mg_of X G A_show_later
    b_show_later := (fun_mk (st := s_show_later) l_show_later c_show_later k_show_later).binds (ps := ["names", "f"]) fun _ _ _ _ _ _ us hl => match us, hl with | [_, _], _ => rfl
    a_show_sum := f_show_sum
    d_show_sum := _
    F_show_sum := fun_mk (st := s_show_sum) l_show_sum c_show_sum k_show_sum
    g_show_sum := PySem.W.mg_of X G A_show_sum
    b_show_sum := (fun_mk (st := s_show_sum) l_show_sum c_show_sum k_show_sum).binds (ps := ["names", "f", "g"]) fun _ _ _ _ _ _ us hl => match us, hl with | [_, _, _], _ => rfl
    a_show_side := f_show_side
    d_show_side := _
    F_show_side := fun_mk (st := s_show_side) l_show_side c_show_side k_show_side
    g_show_side := PySem.W.mg_of X G A_show_side
    b_show_side := (fun_mk (st := s_show_side) l_show_side c_show_side k_show_side).binds (ps := ["names", "side"]) fun _ _ _ _ _ _ us hl => match us, hl with | [_, _], _ => rfl
    a_law_cell := f_law_cell
    d_law_cell := _
    F_law_cell := fun_mk (st := s_law_cell) l_law_cell c_law_cell k_law_cell
    g_law_cell := PySem.W.mg_of X G A_law_cell
    b_law_cell := (fun_mk (st := s_law_cell) l_law_cell c_law_cell k_law_cell).binds (ps := ["_law_script", "_law_k"]) fun _ _ _ _ _ _ us hl => match us, hl with | [_, _], _ => rfl
    a_law_spread := f_law_spread
    d_law_spread := _
    F_law_spread := fun_mk (st := s_law_spread) l_law_spread c_law_spread k_law_spread
    g_law_spread := PySem.W.mg_of X G A_law_spread
    b_law_spread := (fun_mk (st := s_law_spread) l_law_spread c_law_spread k_law_spread).binds (ps := ["_law_cell_here", "_law_k"]) fun _ _ _ _ _ _ us hl => match us, hl with | [_, _], _ => rfl
    a_law_number := f_law_number
    d_law_number := _
    F_law_number := fun_mk (st := s_law_number) l_law_number c_law_number k_law_number
    g_law_number := PySem.W.mg_of X G A_law_number
    b_law_number := (fun_mk (st := s_law_number) l_law_number c_law_number k_law_number).binds (ps := ["_law_cell_here"]) fun _ _ _ _ _ _ us hl => match us, hl with | [_], _ => rfl
    a_law_letter := f_law_letter
    d_law_letter := _
    F_law_letter := fun_mk (st := s_law_letter) l_law_letter c_law_letter k_law_letter
    g_law_letter := PySem.W.mg_of X G A_law_letter
    b_law_letter := (fun_mk (st := s_law_letter) l_law_letter c_law_letter k_law_letter).binds (ps := ["_law_cell_here"]) fun _ _ _ _ _ _ us hl => match us, hl with | [_], _ => rfl
    a_law_free_name := f_law_free_name
    d_law_free_name := _
    F_law_free_name := fun_mk (st := s_law_free_name) l_law_free_name c_law_free_name k_law_free_name
    g_law_free_name := PySem.W.mg_of X G A_law_free_name
    b_law_free_name := (fun_mk (st := s_law_free_name) l_law_free_name c_law_free_name k_law_free_name).binds (ps := ["_law_cell_here", "_law_taken"]) fun _ _ _ _ _ _ us hl => match us, hl with | [_, _], _ => rfl
    a_law_names := f_law_names
    d_law_names := _
    F_law_names := fun_mk (st := s_law_names) l_law_names c_law_names k_law_names
    g_law_names := PySem.W.mg_of X G A_law_names
    b_law_names := (fun_mk (st := s_law_names) l_law_names c_law_names k_law_names).binds (ps := ["_law_script", "_law_at", "_law_count"]) fun _ _ _ _ _ _ us hl => match us, hl with | [_, _, _], _ => rfl
    a_law_term := f_law_term
    d_law_term := _
    F_law_term := fun_mk (st := s_law_term) l_law_term c_law_term k_law_term
    g_law_term := PySem.W.mg_of X G A_law_term
    b_law_term := (fun_mk (st := s_law_term) l_law_term c_law_term k_law_term).binds (ps := ["_law_names_here", "_law_f"]) fun _ _ _ _ _ _ us hl => match us, hl with | [_, _], _ => rfl
    a_law_words := f_law_words
    d_law_words := _
    F_law_words := fun_mk (st := s_law_words) l_law_words c_law_words k_law_words
    g_law_words := PySem.W.mg_of X G A_law_words
    b_law_words := (fun_mk (st := s_law_words) l_law_words c_law_words k_law_words).binds (ps := ["_law_names_here", "_law_side_here"]) fun _ _ _ _ _ _ us hl => match us, hl with | [_, _], _ => rfl
    a_law_side := f_law_side
    d_law_side := _
    F_law_side := fun_mk (st := s_law_side) l_law_side c_law_side k_law_side
    g_law_side := PySem.W.mg_of X G A_law_side
    b_law_side := (fun_mk (st := s_law_side) l_law_side c_law_side k_law_side).binds (ps := ["_law_cell_here", "_law_k", "_law_count"]) fun _ _ _ _ _ _ us hl => match us, hl with | [_, _, _], _ => rfl
    a_law := fa
    d_law := _
    F_law := fun_mk (st := s_law) l_law c_law k_law
    g_law := PySem.W.mg_of X G A_law
    b_law := (fun_mk (st := s_law) l_law c_law k_law).binds (ps := ["_law_script"]) fun _ _ _ _ _ _ us hl => match us, hl with | [_], _ => rfl
    m_isinstance := PySem.W.mg_none_of X G z_isinstance
    m_len := PySem.W.mg_none_of X G z_len
    m_list := PySem.W.mg_none_of X G z_list
    m_range := PySem.W.mg_none_of X G z_range
    m_str := PySem.W.mg_none_of X G z_str }⟩
end K50
open PySem PySem.W PyProof.Rows in
set_option maxRecDepth 100000 in
set_option maxHeartbeats 0 in
theorem PySem.Challenge.cw_eightsides_k50_side_words_holds : PySem.Challenge.rw_eightsides_k50_side_words.Holds := by
  w_on; o_law; k_head; (case hw => w_witness2)
  k_fill
  refine L2.walk_of (l := PySem.Challenge.rw_eightsides_k50_side_words) (n := 63) (k := 4) (x := "_law_script") (CX := fun _ => L2.CX0) (sp := fun w => FL.spF _ 1 0 K50.m_law) rfl (by decide) rfl ⟨rfl, by decide, by decide⟩ (fun w h Y => PySem.W.kIn_of Y) ?F (fun w H a ns hl hO hS => FL.sp_of (K50.law_true ns hl) hO hS) (fun _ _ _ _ _ h => h)
  case F =>
    intro w mg fa h KX G hmg
    refine' K50.all_mk KX G hmg ?A_show_first ?l_show_first ?c_show_first ?k_show_first ?A_show_later ?l_show_later ?c_show_later ?k_show_later ?A_show_sum ?l_show_sum ?c_show_sum ?k_show_sum ?A_show_side ?l_show_side ?c_show_side ?k_show_side ?A_law_cell ?l_law_cell ?c_law_cell ?k_law_cell ?A_law_spread ?l_law_spread ?c_law_spread ?k_law_spread ?A_law_number ?l_law_number ?c_law_number ?k_law_number ?A_law_letter ?l_law_letter ?c_law_letter ?k_law_letter ?A_law_free_name ?l_law_free_name ?c_law_free_name ?k_law_free_name ?A_law_names ?l_law_names ?c_law_names ?k_law_names ?A_law_term ?l_law_term ?c_law_term ?k_law_term ?A_law_words ?l_law_words ?c_law_words ?k_law_words ?A_law_side ?l_law_side ?c_law_side ?k_law_side ?A_law ?l_law ?c_law ?k_law ?z_isinstance ?z_len ?z_list ?z_range ?z_str
    (case A_show_first => k_is); (case l_show_first => k_is); (case c_show_first => k_is); (case k_show_first => k_is); (case A_show_later => k_is); (case l_show_later => k_is); (case c_show_later => k_is); (case k_show_later => k_is); (case A_show_sum => k_is); (case l_show_sum => k_is); (case c_show_sum => k_is); (case k_show_sum => k_is); (case A_show_side => k_is); (case l_show_side => k_is); (case c_show_side => k_is); (case k_show_side => k_is); (case A_law_cell => k_is); (case l_law_cell => k_is); (case c_law_cell => k_is); (case k_law_cell => k_is); (case A_law_spread => k_is); (case l_law_spread => k_is); (case c_law_spread => k_is); (case k_law_spread => k_is); (case A_law_number => k_is); (case l_law_number => k_is); (case c_law_number => k_is); (case k_law_number => k_is); (case A_law_letter => k_is); (case l_law_letter => k_is); (case c_law_letter => k_is); (case k_law_letter => k_is); (case A_law_free_name => k_is); (case l_law_free_name => k_is); (case c_law_free_name => k_is); (case k_law_free_name => k_is); (case A_law_names => k_is); (case l_law_names => k_is); (case c_law_names => k_is); (case k_law_names => k_is); (case A_law_term => k_is); (case l_law_term => k_is); (case c_law_term => k_is); (case k_law_term => k_is); (case A_law_words => k_is); (case l_law_words => k_is); (case c_law_words => k_is); (case k_law_words => k_is); (case A_law_side => k_is); (case l_law_side => k_is); (case c_law_side => k_is); (case k_law_side => k_is); (case A_law => k_is); (case l_law => k_is); (case c_law => k_is); (case k_law => k_is); (case z_isinstance => k_is); (case z_len => k_is); (case z_list => k_is); (case z_range => k_is); (case z_str => k_is)
