import PyProof.Rows.All
import Wide.All
import OpenK.AllK
import Wide.FinOn
import HandS.ForMost
import HandS.ForExc
import HandS.Wide
import HandS.WideBits
import HandS.IsInst
import HandS.Walk
import HandS.Deep
import HandS.Flow
import HandS.TupAny
import HandS.Style
import HandS.Rev
import HandS.Zip
import HandS.EndBits
import HandS.More
import HandS.HeadHook1
import HandS.CallSlots
import HandS.Defaults
import KE.GoesEnum
import HandS.SetFor
import KE.KDictList
import KE.KStateDown
import HandS.Head0
import HandS.Head1
import HandS.Head2
import HandS.HeadHook2
import HandS.HeadEnd
import HandS.RevRange
import HandS.Text
import HandS.RevTup
import KE.KDictZip
import KE.GoesMore
import PyProof.MaxThree
import PyProof.MinMaxWalk
import HandS.Strs
import KE.SortData
import PySem.Challenge.RW_roundglass_k56_benches_written
set_option Elab.async false
set_option linter.all false
set_option maxRecDepth 100000
set_option maxHeartbeats 4000000
/-! RgBa: data, stores, the relation with the abstract heap. -/
namespace Rg
open PySem PySem.Spec PyProof.Rows L2
/-- a value as data: tuples by their parts, changing things by a number -/
inductive D where
  | non | bl (b : Bool) | int (i : Int) | str (s : Str) | tup (l : List D) | ref (n : Nat)
/-- what stands at a number: a list of our own; a list that is read alone; a dict that is not looked into; an instance -/
inductive Cell where
  | lst (l : List D) | fro (l : List D) | dct | ins (C : Str) (fs : List (Str × D))
abbrev Store := List Cell
inductive Res (A : Type) where
  | ok (a : A) (S : Store) | exc (c : Str) (S : Store) | bad
def Res.bind {A B : Type} (r : Res A) (f : A → Store → Res B) : Res B := match r with
  | .ok a S => f a S
  | .exc c S => .exc c S
  | .bad => .bad
@[simp] theorem bind_ok {A B : Type} (a : A) (S : Store) (f : A → Store → Res B) : (Res.ok a S).bind f = f a S := rfl
@[simp] theorem bind_exc {A B : Type} (c : Str) (S : Store) (f : A → Store → Res B) : (Res.exc c S).bind f = .exc c S := rfl
@[simp] theorem bind_bad {A B : Type} (f : A → Store → Res B) : (Res.bad).bind f = .bad := rfl
abbrev Env := List (Option D)
abbrev SE := Env → Store → Res D
abbrev SA := Env → Store → Res (List D)
abbrev ST := Env → Store → Res Bool
mutual
def RV (K : PySem.W.Frag) (H : Hp) (p : List Addr) : D → V → Prop
  | .non, v => v = .non
  | .bl b, v => v = .bl b
  | .int i, v => v = .int i
  | .str s, v => v = .str s
  | .tup l, v => ∃ a xs, v = .ref a ∧ SqT K H a xs ∧ RVs K H p l xs
  | .ref n, v => ∃ a, v = .ref a ∧ p[n]? = some a
def RVs (K : PySem.W.Frag) (H : Hp) (p : List Addr) : List D → List V → Prop
  | [], xs => xs = []
  | d :: l, xs => ∃ x r, xs = x :: r ∧ RV K H p d x ∧ RVs K H p l r
end
structure Ext (K : PySem.W.Frag) (H H' : Hp) (p p' : List Addr) : Prop where
  pre : ∀ (n : Nat) (a : Addr), p[n]? = some a → p'[n]? = some a
  tup : ∀ a xs, SqT K H a xs → SqT K H' a xs
theorem Ext.refl {K : PySem.W.Frag} {H : Hp} {p : List Addr} : Ext K H H p p := ⟨fun _ _ h => h, fun _ _ h => h⟩
theorem Ext.trans {K : PySem.W.Frag} {H H1 H2 : Hp} {p p1 p2 : List Addr} (a : Ext K H H1 p p1) (b : Ext K H1 H2 p1 p2) : Ext K H H2 p p2 :=
  ⟨fun n x h => b.pre n x (a.pre n x h), fun x xs h => b.tup x xs (a.tup x xs h)⟩
mutual
theorem RV.mono {K : PySem.W.Frag} {H H' : Hp} {p p' : List Addr} (e : Ext K H H' p p') : ∀ (d : D) (v : V), RV K H p d v → RV K H' p' d v
  | .non, _, h => by unfold RV at h ⊢; exact h
  | .bl _, _, h => by unfold RV at h ⊢; exact h
  | .int _, _, h => by unfold RV at h ⊢; exact h
  | .str _, _, h => by unfold RV at h ⊢; exact h
  | .tup l, _, h => by
    unfold RV at h ⊢
    obtain ⟨a, xs, h1, h2, h3⟩ := h
    exact ⟨a, xs, h1, e.tup _ _ h2, RVs.mono e l xs h3⟩
  | .ref _, _, h => by
    unfold RV at h ⊢
    obtain ⟨a, h1, h2⟩ := h
    exact ⟨a, h1, e.pre _ _ h2⟩
theorem RVs.mono {K : PySem.W.Frag} {H H' : Hp} {p p' : List Addr} (e : Ext K H H' p p') : ∀ (l : List D) (xs : List V), RVs K H p l xs → RVs K H' p' l xs
  | [], _, h => by unfold RVs at h ⊢; exact h
  | d :: l, _, h => by
    unfold RVs at h ⊢
    obtain ⟨x, r, h1, h2, h3⟩ := h
    exact ⟨x, r, h1, RV.mono e d x h2, RVs.mono e l r h3⟩
end
section
variable {K : PySem.W.Frag} {H : Hp} {p : List Addr}
theorem RV.non_iff {v : V} : RV K H p .non v ↔ v = .non := by unfold RV; exact Iff.rfl
theorem RV.bl_iff {b : Bool} {v : V} : RV K H p (.bl b) v ↔ v = .bl b := by unfold RV; exact Iff.rfl
theorem RV.int_iff {i : Int} {v : V} : RV K H p (.int i) v ↔ v = .int i := by unfold RV; exact Iff.rfl
theorem RV.str_iff {s : Str} {v : V} : RV K H p (.str s) v ↔ v = .str s := by unfold RV; exact Iff.rfl
theorem RV.tup_iff {l : List D} {v : V} : RV K H p (.tup l) v ↔ ∃ a xs, v = .ref a ∧ SqT K H a xs ∧ RVs K H p l xs := by
  conv => lhs; unfold RV
theorem RV.ref_iff {n : Nat} {v : V} : RV K H p (.ref n) v ↔ ∃ a, v = .ref a ∧ p[n]? = some a := by
  conv => lhs; unfold RV
theorem RVs.nil_iff {xs : List V} : RVs K H p [] xs ↔ xs = [] := by unfold RVs; exact Iff.rfl
theorem RVs.cons_iff {d : D} {l : List D} {xs : List V} : RVs K H p (d :: l) xs ↔ ∃ x r, xs = x :: r ∧ RV K H p d x ∧ RVs K H p l r := by
  conv => lhs; unfold RVs
theorem RVs.nil : RVs K H p [] [] := RVs.nil_iff.mpr rfl
theorem RVs.cons {d : D} {l : List D} {x : V} {r : List V} (a : RV K H p d x) (b : RVs K H p l r) : RVs K H p (d :: l) (x :: r) := RVs.cons_iff.mpr ⟨x, r, rfl, a, b⟩
theorem RVs.len : ∀ {l : List D} {xs : List V}, RVs K H p l xs → l.length = xs.length
  | [], _, h => by rw [RVs.nil_iff] at h; subst h; rfl
  | d :: l, _, h => by
    obtain ⟨x, r, rfl, _, h3⟩ := RVs.cons_iff.mp h
    simp [RVs.len h3]
theorem RVs.get : ∀ {l : List D} {xs : List V} {i : Nat} {d : D}, RVs K H p l xs → l[i]? = some d → ∃ x, xs[i]? = some x ∧ RV K H p d x
  | [], _, _, _, _, e => by simp at e
  | d :: l, _, 0, d', h, e => by
    obtain ⟨x, r, rfl, h2, _⟩ := RVs.cons_iff.mp h
    simp at e
    subst e
    exact ⟨x, rfl, h2⟩
  | d :: l, _, i + 1, d', h, e => by
    obtain ⟨x, r, rfl, _, h3⟩ := RVs.cons_iff.mp h
    obtain ⟨y, e1, e2⟩ := RVs.get (i := i) (d := d') h3 (by simpa using e)
    exact ⟨y, by simpa using e1, e2⟩
theorem RVs.get' : ∀ {l : List D} {xs : List V} {i : Nat} {x : V}, RVs K H p l xs → xs[i]? = some x → ∃ d, l[i]? = some d ∧ RV K H p d x := fun {l xs i x} h e => by
  have hl := h.len
  have hi : i < l.length := by rw [hl]; exact (List.getElem?_eq_some_iff.mp e).1
  obtain ⟨y, e1, e2⟩ := h.get (d := l[i]) (i := i) (by simp [hi])
  rw [e] at e1
  cases e1
  exact ⟨_, by simp [hi], e2⟩
theorem RVs.app : ∀ {l l' : List D} {xs ys : List V}, RVs K H p l xs → RVs K H p l' ys → RVs K H p (l ++ l') (xs ++ ys)
  | [], _, _, _, h, h' => by rw [RVs.nil_iff] at h; subst h; exact h'
  | d :: l, _, _, _, h, h' => by
    obtain ⟨x, r, rfl, h2, h3⟩ := RVs.cons_iff.mp h
    exact RVs.cons h2 (RVs.app h3 h')
theorem RVs.set : ∀ {l : List D} {xs : List V} (i : Nat) {d : D} {x : V}, RVs K H p l xs → RV K H p d x → RVs K H p (l.set i d) (xs.set i x)
  | [], _, _, _, _, h, _ => by rw [RVs.nil_iff] at h; subst h; exact RVs.nil
  | d :: l, _, 0, d', x', h, q => by
    obtain ⟨x, r, rfl, _, h3⟩ := RVs.cons_iff.mp h
    exact RVs.cons q h3
  | d :: l, _, i + 1, d', x', h, q => by
    obtain ⟨x, r, rfl, h2, h3⟩ := RVs.cons_iff.mp h
    exact RVs.cons h2 (RVs.set i h3 q)
theorem RVs.take : ∀ {l : List D} {xs : List V} (n : Nat), RVs K H p l xs → RVs K H p (l.take n) (xs.take n)
  | _, _, 0, _ => RVs.nil
  | [], _, n + 1, h => by rw [RVs.nil_iff] at h; subst h; exact RVs.nil
  | d :: l, _, n + 1, h => by
    obtain ⟨x, r, rfl, h2, h3⟩ := RVs.cons_iff.mp h
    exact RVs.cons h2 (RVs.take n h3)
theorem RVs.drop : ∀ {l : List D} {xs : List V} (n : Nat), RVs K H p l xs → RVs K H p (l.drop n) (xs.drop n)
  | _, _, 0, h => h
  | [], _, n + 1, h => by rw [RVs.nil_iff] at h; subst h; exact RVs.nil
  | d :: l, _, n + 1, h => by
    obtain ⟨x, r, rfl, h2, h3⟩ := RVs.cons_iff.mp h
    exact RVs.drop n h3
theorem RVs.erase : ∀ {l : List D} {xs : List V} (n : Nat), RVs K H p l xs → RVs K H p (l.eraseIdx n) (xs.eraseIdx n)
  | [], _, _, h => by rw [RVs.nil_iff] at h; subst h; exact RVs.nil
  | d :: l, _, 0, h => by
    obtain ⟨x, r, rfl, h2, h3⟩ := RVs.cons_iff.mp h
    exact h3
  | d :: l, _, n + 1, h => by
    obtain ⟨x, r, rfl, h2, h3⟩ := RVs.cons_iff.mp h
    exact RVs.cons h2 (RVs.erase n h3)
theorem RVs.rev : ∀ {l : List D} {xs : List V}, RVs K H p l xs → RVs K H p l.reverse xs.reverse
  | [], _, h => by rw [RVs.nil_iff] at h; subst h; exact RVs.nil
  | d :: l, _, h => by
    obtain ⟨x, r, rfl, h2, h3⟩ := RVs.cons_iff.mp h
    rw [List.reverse_cons, List.reverse_cons]
    exact RVs.app (RVs.rev h3) (RVs.cons h2 RVs.nil)
theorem RVs.none_of {l : List D} {xs : List V} {i : Nat} (h : RVs K H p l xs) (e : l[i]? = none) : xs[i]? = none := by
  have := h.len
  rw [List.getElem?_eq_none_iff] at e ⊢
  omega
theorem RVs.all_int : ∀ {ns : List Int} {xs : List V}, RVs K H p (ns.map D.int) xs → xs = ns.map V.int
  | [], _, h => RVs.nil_iff.mp h
  | n :: ns, _, h => by
    obtain ⟨x, r, rfl, h2, h3⟩ := RVs.cons_iff.mp h
    rw [RV.int_iff] at h2
    rw [List.map_cons, RVs.all_int h3, h2]
theorem RVs.all_bl : ∀ {ns : List Bool} {xs : List V}, RVs K H p (ns.map D.bl) xs → xs = ns.map V.bl
  | [], _, h => RVs.nil_iff.mp h
  | n :: ns, _, h => by
    obtain ⟨x, r, rfl, h2, h3⟩ := RVs.cons_iff.mp h
    rw [RV.bl_iff] at h2
    rw [List.map_cons, RVs.all_bl h3, h2]
end
/-- a list that is read alone: the script; a list of the written part -/
def FroX (K : PySem.W.Frag) (H : Hp) (a : Addr) (xs : List V) : Prop :=
  (∃ o, H a = some (.frz o (.lst xs))) ∨ ∃ (o : Obj) (its : Array Value) (n : Nat), K.lookup a = some o ∧ o.cls = .type "list" ∧ o.dict = none ∧ o.data = .seq its n ∧ its.size ≤ sizeLine ∧ Vals xs its.toList
theorem FroX.sql {K : PySem.W.Frag} {H : Hp} {a : Addr} {xs : List V} (h : FroX K H a xs) : SqL K H a xs := by
  rcases h with ⟨o, h⟩ | h
  · exact .inl (.inr ⟨o, h⟩)
  · exact .inr h
/-- the fields of an instance -/
def RFs (K : PySem.W.Frag) (H : Hp) (p : List Addr) (fs : List (Str × D)) (vs : List (Str × V)) : Prop := fs.map (·.1) = vs.map (·.1) ∧ RVs K H p (fs.map (·.2)) (vs.map (·.2))
def RC (K : PySem.W.Frag) (H : Hp) (p : List Addr) (a : Addr) : Cell → Prop
  | .lst l => ∃ xs, H a = some (.lst xs) ∧ RVs K H p l xs
  | .fro l => ∃ xs, FroX K H a xs ∧ RVs K H p l xs
  | .dct => ∃ kvs, H a = some (.dK kvs)
  | .ins C fs => ∃ dx vs, H a = some (.ins (He.ga K C) dx vs) ∧ RFs K H p fs vs
def Cell.mut : Cell → Bool
  | .lst _ => true
  | .ins _ _ => true
  | _ => false
structure RSt (K : PySem.W.Frag) (H : Hp) (p : List Addr) (S : Store) : Prop where
  len : p.length = S.length
  cell : ∀ (n : Nat) (c : Cell) (a : Addr), S[n]? = some c → p[n]? = some a → RC K H p a c
  inj : ∀ (m n : Nat) (a : Addr) (c c' : Cell), S[m]? = some c → S[n]? = some c' → c.mut = true → c'.mut = true → p[m]? = some a → p[n]? = some a → m = n
/-- the heap grew by untouched things -/
theorem ext_same {K : PySem.W.Frag} {H H' : Hp} {p : List Addr} (s : Same H H') : Ext K H H' p p := by
  refine ⟨fun _ _ h => h, fun a xs h => ?_⟩
  rcases h with (h | ⟨o, h⟩) | h
  · exact .inl (.inl (s _ _ h))
  · exact .inl (.inr ⟨o, s _ _ h⟩)
  · exact .inr h
theorem RFs.mono {K : PySem.W.Frag} {H H' : Hp} {p p' : List Addr} (e : Ext K H H' p p') {fs : List (Str × D)} {vs : List (Str × V)} (h : RFs K H p fs vs) : RFs K H' p' fs vs := ⟨h.1, RVs.mono e _ _ h.2⟩
/-- a cell stays where its own object stays -/
theorem RC.stay {K : PySem.W.Frag} {H H' : Hp} {p p' : List Addr} {a : Addr} {c : Cell} (e : Ext K H H' p p') (k : ∀ o, H a = some o → (∀ xs, o ≠ .tup xs) → H' a = some o) (h : RC K H p a c) : RC K H' p' a c := by
  cases c with
  | lst l =>
    obtain ⟨xs, h1, h2⟩ := h
    exact ⟨xs, k _ h1 (fun _ z => by cases z), RVs.mono e _ _ h2⟩
  | fro l =>
    obtain ⟨xs, h1, h2⟩ := h
    refine ⟨xs, ?_, RVs.mono e _ _ h2⟩
    rcases h1 with ⟨o, h1⟩ | h1
    · exact .inl ⟨o, k _ h1 (fun _ z => by cases z)⟩
    · exact .inr h1
  | dct =>
    obtain ⟨kvs, h1⟩ := h
    exact ⟨kvs, k _ h1 (fun _ z => by cases z)⟩
  | ins C fs =>
    obtain ⟨dx, vs, h1, h2⟩ := h
    exact ⟨dx, vs, k _ h1 (fun _ z => by cases z), h2.mono e⟩
theorem RSt.same {K : PySem.W.Frag} {H H' : Hp} {p : List Addr} {S : Store} (s : Same H H') (R : RSt K H p S) : RSt K H' p S :=
  ⟨R.len, fun n c a e1 e2 => (R.cell n c a e1 e2).stay (ext_same s) fun o h _ => s _ _ h, R.inj⟩
theorem same_new {H : Hp} {q : Addr} {o : HO} (h : H q = none) : Same H (upd H q o) := fun b x e => by
  rw [upd_ne (ne_of_none e h)]
  exact e
theorem RC.there {K : PySem.W.Frag} {H : Hp} {p : List Addr} {a : Addr} {c : Cell} (h : RC K H p a c) (m : c.mut = true) : ∃ o, H a = some o ∧ Mut (some o) := by
  cases c with
  | lst l => obtain ⟨xs, h1, _⟩ := h; exact ⟨_, h1, trivial⟩
  | fro l => cases m
  | dct => cases m
  | ins C fs => obtain ⟨dx, vs, h1, _⟩ := h; exact ⟨_, h1, trivial⟩
/-- a new thing -/
theorem RSt.push {K : PySem.W.Frag} {H : Hp} {p : List Addr} {S : Store} {q : Addr} {o : HO} {c : Cell} (R : RSt K H p S) (h : H q = none) (r : RC K (upd H q o) (p ++ [q]) q c) :
    Ext K H (upd H q o) p (p ++ [q]) ∧ RSt K (upd H q o) (p ++ [q]) (S ++ [c]) ∧ (p ++ [q])[S.length]? = some q := by
  have s : Same H (upd H q o) := same_new h
  have pre : ∀ n a, p[n]? = some a → (p ++ [q])[n]? = some a := fun n a e => by
    have hn := (List.getElem?_eq_some_iff.mp e).1
    rw [List.getElem?_append_left hn]
    exact e
  have E : Ext K H (upd H q o) p (p ++ [q]) := ⟨pre, (ext_same (p := p) s).tup⟩
  have qn : (p ++ [q])[S.length]? = some q := by
    rw [← R.len, List.getElem?_append_right (Nat.le_refl _)]
    simp
  have old : ∀ n c', (S ++ [c])[n]? = some c' → (n < S.length ∧ S[n]? = some c') ∨ (n = S.length ∧ c' = c) := fun n c' e => by
    rcases Nat.lt_or_ge n S.length with hn | hn
    · rw [List.getElem?_append_left hn] at e
      exact .inl ⟨hn, e⟩
    · rw [List.getElem?_append_right hn] at e
      have : n - S.length = 0 := by
        have := (List.getElem?_eq_some_iff.mp e).1
        simp at this
        omega
      rw [this] at e
      simp at e
      exact .inr ⟨by omega, e.symm⟩
  have oldp : ∀ n a, n < S.length → (p ++ [q])[n]? = some a → p[n]? = some a := fun n a hn e => by
    rw [List.getElem?_append_left (by rw [R.len]; exact hn)] at e
    exact e
  refine ⟨E, ⟨by simp [R.len], fun n c' a e1 e2 => ?_, fun m n a l1 l2 e1 e2 m1 m2 e3 e4 => ?_⟩, qn⟩
  · rcases old n c' e1 with ⟨hn, e⟩ | ⟨rfl, rfl⟩
    · exact (R.cell n c' a e (oldp n a hn e2)).stay E fun o h _ => s _ _ h
    · rw [qn] at e2
      cases e2
      exact r
  · rcases old m _ e1 with ⟨hm, q1⟩ | ⟨rfl, q1⟩ <;> rcases old n _ e2 with ⟨hn, q2⟩ | ⟨rfl, q2⟩
    · exact R.inj m n a l1 l2 q1 q2 m1 m2 (oldp m a hm e3) (oldp n a hn e4)
    · rw [qn] at e4
      cases e4
      obtain ⟨ys, h1, _⟩ := (R.cell m _ _ q1 (oldp m _ hm e3)).there m1
      rw [h] at h1
      cases h1
    · rw [qn] at e3
      cases e3
      obtain ⟨ys, h1, _⟩ := (R.cell n _ _ q2 (oldp n _ hn e4)).there m2
      rw [h] at h1
      cases h1
    · rfl
/-- a thing written -/
theorem RSt.write {K : PySem.W.Frag} {H : Hp} {p : List Addr} {S : Store} {n : Nat} {a : Addr} {o o0 : HO} {c c0 : Cell} (R : RSt K H p S) (hS : S[n]? = some c0) (m0 : c0.mut = true) (mc : c.mut = true) (hp : p[n]? = some a) (r : RC K (upd H a o) p a c)
    (h0 : H a = some o0) (nt : ∀ xs, o0 ≠ .tup xs) (nf : ∀ ob xs, o0 ≠ .frz ob xs) (nd : ∀ kvs, o0 ≠ .dK kvs) :
    Ext K H (upd H a o) p p ∧ RSt K (upd H a o) p (S.set n c) := by
  have E : Ext K H (upd H a o) p p := by
    refine ⟨fun _ _ h => h, fun b ys h => ?_⟩
    rcases h with (h | ⟨ob, h⟩) | h
    · have hb : b ≠ a := fun e => by
        subst e
        rw [h0] at h
        cases h
        exact nt _ rfl
      exact .inl (.inl (by rw [upd_ne hb]; exact h))
    · have hb : b ≠ a := fun e => by
        subst e
        rw [h0] at h
        cases h
        exact nf _ _ rfl
      exact .inl (.inr ⟨ob, by rw [upd_ne hb]; exact h⟩)
    · exact .inr h
  have hn : n < S.length := (List.getElem?_eq_some_iff.mp hS).1
  refine ⟨E, ⟨by simp [R.len], fun m c' b e1 e2 => ?_, fun m k b l1 l2 e1 e2 m1 m2 e3 e4 => ?_⟩⟩
  · by_cases hm : m = n
    · subst hm
      rw [List.getElem?_set_self hn] at e1
      cases e1
      rw [hp] at e2
      cases e2
      exact r
    · rw [List.getElem?_set_ne (Ne.symm hm)] at e1
      have rc := R.cell m c' b e1 e2
      by_cases hb : b = a
      · subst hb
        cases hc : c'.mut with
        | true => exact absurd (R.inj m n b _ _ e1 hS hc m0 e2 hp) hm
        | false =>
          cases c' with
          | lst l => cases hc
          | ins C fs => cases hc
          | fro l =>
            obtain ⟨xs, h1, h2⟩ := rc
            rcases h1 with ⟨ob, h1⟩ | h1
            · rw [h0] at h1
              cases h1
              exact absurd rfl (nf _ _)
            · exact ⟨xs, .inr h1, RVs.mono E _ _ h2⟩
          | dct =>
            obtain ⟨kvs, h1⟩ := rc
            rw [h0] at h1
            cases h1
            exact absurd rfl (nd _)
      · exact rc.stay E fun o' h' n' => by
          rw [upd_ne hb]
          exact h'
  · have g : ∀ (j : Nat) (l' : Cell), (S.set n c)[j]? = some l' → l'.mut = true → ∃ l'' : Cell, S[j]? = some l'' ∧ l''.mut = true := fun j l' e mm => by
      by_cases hj : j = n
      · subst hj
        exact ⟨_, hS, m0⟩
      · rw [List.getElem?_set_ne (Ne.symm hj)] at e
        exact ⟨_, e, mm⟩
    obtain ⟨l1', q1, n1⟩ := g m l1 e1 m1
    obtain ⟨l2', q2, n2⟩ := g k l2 e2 m2
    exact R.inj m k b _ _ q1 q2 n1 n2 e3 e4
end Rg
/-! RgBb: the judgements by shallow functions; expressions. -/
namespace Rg
open PySem PySem.Spec PyProof.Rows L2
structure Gx where
  xv : Str → Value
  W : WX
def noW : WX := fun _ _ _ _ => False
structure Cok (X : Cx) (G : Gx) : Prop where
  tk : Takes X G.W
  po : PassesOwn (model X.prog X.w) X.A X.env X.xe
/-- slots as data -/
def Rs (K : PySem.W.Frag) (H : Hp) (p : List Addr) (env : Env) (σ : L2.St) : Prop := env.length = σ.length ∧ ∀ (i : Nat) (d : D), env[i]? = some (some d) → ∃ v, σ[i]? = some (some v) ∧ RV K H p d v
theorem Rs.mono {K : PySem.W.Frag} {H H' : Hp} {p p' : List Addr} {env : Env} {σ : L2.St} (e : Ext K H H' p p') (h : Rs K H p env σ) : Rs K H' p' env σ :=
  ⟨h.1, fun i d q => let ⟨v, a, b⟩ := h.2 i d q; ⟨v, a, RV.mono e _ _ b⟩⟩
theorem Rs.set {K : PySem.W.Frag} {H : Hp} {p : List Addr} {env : Env} {σ : L2.St} {d : D} {v : V} (i : Nat) (h : Rs K H p env σ) (r : RV K H p d v) : Rs K H p (env.set i (some d)) (σ.set i (some v)) := by
  refine ⟨by simp [h.1], fun j e q => ?_⟩
  by_cases hj : i = j
  · subst hj
    have hi : i < env.length := by
      have := (List.getElem?_eq_some_iff.mp q).1
      simpa using this
    rw [List.getElem?_set_self hi] at q
    cases q
    exact ⟨v, by rw [List.getElem?_set_self (by rw [← h.1]; exact hi)], r⟩
  · rw [List.getElem?_set_ne hj] at q
    obtain ⟨w, a, b⟩ := h.2 j e q
    exact ⟨w, by rw [List.getElem?_set_ne hj]; exact a, b⟩
/-- a result that is well, by what is wanted of it -/
def Good {A : Type} (K : PySem.W.Frag) (G : Gx) (σ : L2.St) (H : Hp) (p : List Addr) (r : Res A) (P : A → Store → Hp → List Addr → Prop) : Prop := match r with
  | .ok a S' => ∀ H' p', Ext K H H' p p' → RSt K H' p' S' → P a S' H' p'
  | .exc c S' => ∀ H' p', Ext K H H' p p' → RSt K H' p' S' → G.W (G.xv c) none σ H'
  | .bad => False
section
variable {K : PySem.W.Frag} {G : Gx} {σ : L2.St} {H H1 : Hp} {p p1 : List Addr}
theorem Good.at {A : Type} {r : Res A} {P : A → Store → Hp → List Addr → Prop} (e : Ext K H H1 p p1) (h : Good K G σ H p r P) : Good K G σ H1 p1 r P := by
  cases r with
  | ok a S => exact fun H' p' x => h H' p' (e.trans x)
  | exc c S => exact fun H' p' x => h H' p' (e.trans x)
  | bad => exact h
theorem Good.imp {A : Type} {r : Res A} {P P' : A → Store → Hp → List Addr → Prop} (h : Good K G σ H p r P) (hi : ∀ a S H' p', Ext K H H' p p' → RSt K H' p' S → P a S H' p' → P' a S H' p') : Good K G σ H p r P' := by
  cases r with
  | ok a S => exact fun H' p' x q => hi _ _ _ _ x q (h H' p' x q)
  | exc c S => exact h
  | bad => exact h
theorem Good.bind {A B : Type} {r : Res A} {f : A → Store → Res B} {P : B → Store → Hp → List Addr → Prop} (h : Good K G σ H p (r.bind f) P) : Good K G σ H p r fun a S1 H1 p1 => Good K G σ H1 p1 (f a S1) P := by
  cases r with
  | ok a S => exact fun H' p' x _ => Good.at x h
  | exc c S => exact h
  | bad => exact h
end
/-- what is wanted of a value -/
def PV (K : PySem.W.Frag) (Q : VK) : D → Store → Hp → List Addr → Prop := fun d _ H' p' => ∀ v, RV K H' p' d v → Q v H'
def TEo (K : PySem.W.Frag) (G : Gx) (s : SE) : TE := fun σ H Q => ∃ p env S, Rs K H p env σ ∧ RSt K H p S ∧ Good K G σ H p (s env S) (PV K Q)
def TTo (K : PySem.W.Frag) (G : Gx) (s : ST) : TT := fun σ H Q => ∃ p env S, Rs K H p env σ ∧ RSt K H p S ∧ Good K G σ H p (s env S) fun b _ H' _ => Q b H'
def TAo (K : PySem.W.Frag) (G : Gx) (s : SA) : TA := fun σ H Q => ∃ p env S, Rs K H p env σ ∧ RSt K H p S ∧ Good K G σ H p (s env S) fun ds _ H' p' => ∀ vs, RVs K H' p' ds vs → Q vs H'
def ME (X : Cx) (G : Gx) (e : Expr) (s : SE) : Prop := Cok X G → PE X e (TEo X.K G s)
def MT (X : Cx) (G : Gx) (e : Expr) (s : ST) : Prop := Cok X G → PT X e (TTo X.K G s)
def MW (X : Cx) (G : Gx) (e : Expr) (s : ST) : Prop := Cok X G → PW X e (TTo X.K G s)
def MA (X : Cx) (G : Gx) (es : List Expr) (s : SA) : Prop := Cok X G → PA X es (TAo X.K G s)
section
variable {X : Cx} {G : Gx} {e a b c : Expr} {pos : Pos}
theorem pe_imp {t t' : TE} (h : PE X e t) (hi : ∀ σ H Q, t' σ H Q → t σ H Q) : PE X e t' := ⟨fun pins s σ H Q I q => h.run pins s σ H Q I (hi _ _ _ q)⟩
theorem pt_imp {t t' : TT} (h : PT X e t) (hi : ∀ σ H Q, t' σ H Q → t σ H Q) : PT X e t' := ⟨fun pins s σ H Q I q => h.run pins s σ H Q I (hi _ _ _ q)⟩
theorem pw_imp {t t' : TT} (h : PW X e t) (hi : ∀ σ H Q, t' σ H Q → t σ H Q) : PW X e t' := ⟨fun w pins s σ H Q I q => h.run w pins s σ H Q I (hi _ _ _ q)⟩
theorem pa_imp {es : List Expr} {t t' : TA} (h : PA X es t) (hi : ∀ σ H Q, t' σ H Q → t σ H Q) : PA X es t' := ⟨fun po pins s σ H Q I q => h.run po pins s σ H Q I (hi _ _ _ q)⟩
/-! ### names, constants -/
def sVar (i : Nat) : SE := fun env S => match env[i]? with
  | some (some d) => .ok d S
  | _ => .bad
def sC (d : D) : SE := fun _ S => .ok d S
theorem me_var (i : Nat) {x : Str} (hN : X.N[i]? = some x := by rfl) (hv : Vis X.env.scope x := by first | exact Or.inl rfl | exact Or.inr (Or.inl rfl) | exact Or.inr (Or.inr rfl)) (hd : (x == ("__debug__" : Str)) = false := by decide)
    (hcd : (x == ("__classdict__" : Str)) = false := by decide) : ME X G (.Name x pos) (sVar i) := fun _ => by
  refine pe_imp (pe_var hN hv hd hcd) fun σ H Q h => ?_
  obtain ⟨p, env, S, rs, rst, g⟩ := h
  unfold sVar at g
  split at g
  · rename_i d hd
    obtain ⟨v, e1, e2⟩ := rs.2 _ _ hd
    exact ⟨v, e1, g H p .refl rst v e2⟩
  · exact g.elim
theorem me_c {d : D} {v : V} (h : PE X e (tC v)) (r : ∀ H p, RV X.K H p d v) : ME X G e (sC d) := fun _ => by
  refine pe_imp h fun σ H Q h => ?_
  obtain ⟨p, env, S, rs, rst, g⟩ := h
  exact g H p .refl rst v (r _ _)
theorem me_int {i : Int} {j} : ME X G (.Constant (.int i) j pos) (sC (.int i)) := me_c pe_int fun _ _ => RV.int_iff.mpr rfl
theorem me_str {i : Str} {j} : ME X G (.Constant (.str i) j pos) (sC (.str i)) := me_c pe_str fun _ _ => RV.str_iff.mpr rfl
theorem me_bl {i : Bool} {j} : ME X G (.Constant (.bool i) j pos) (sC (.bl i)) := me_c pe_bl fun _ _ => RV.bl_iff.mpr rfl
theorem me_non {j} : ME X G (.Constant .none j pos) (sC .non) := me_c pe_non fun _ _ => RV.non_iff.mpr rfl
/-- a constant of the module -/
def KD (K : PySem.W.Frag) (d : D) (v : V) : Prop := RV K (fun _ => none) [] d v
theorem KD.rv {K : PySem.W.Frag} {d : D} {v : V} (h : KD K d v) (H : Hp) (p : List Addr) : RV K H p d v := by
  refine RV.mono (H := fun _ => none) (p := []) ⟨fun n a e => by simp at e, fun a xs h => ?_⟩ d v h
  rcases h with (h | ⟨o, h⟩) | h
  · cases h
  · cases h
  · exact .inr h
theorem me_glob {x : Str} {d : D} {v : V} {u : Value} (hm : X.mg x = some u) (r : RelV v u) (k : KD X.K d v) (hg : Gl X x := by rfl) (hd : (x == ("__debug__" : Str)) = false := by decide) : ME X G (.Name x pos) (sC d) := me_c (pe_glob hg hm r hd) k.rv
/-! ### operators -/
def s2 (f : D → D → Store → Res D) (sa sb : SE) : SE := fun env S => (sa env S).bind fun d S1 => (sb env S1).bind fun e S2 => f d e S2
def s1 (f : D → Store → Res D) (sa : SE) : SE := fun env S => (sa env S).bind fun d S1 => f d S1
/-- two values: what is asked of them, by data -/
def RfO (K : PySem.W.Frag) (r : R2) (f : D → D → Store → Res D) : Prop := ∀ (G : Gx) (σ : L2.St) (H : Hp) (p : List Addr) (S : Store) (d e : D) (x y : V) (Q : VK), RSt K H p S → RV K H p d x → RV K H p e y → Good K G σ H p (f d e S) (PV K Q) → r x y H Q
def RfU (K : PySem.W.Frag) (r : V → Hp → VK → Prop) (f : D → Store → Res D) : Prop := ∀ (G : Gx) (σ : L2.St) (H : Hp) (p : List Addr) (S : Store) (d : D) (x : V) (Q : VK), RSt K H p S → RV K H p d x → Good K G σ H p (f d S) (PV K Q) → r x H Q
theorem one {K : PySem.W.Frag} {A : Type} {f : D → Store → Res A} {sa : SE} {σ : L2.St} {H : Hp} {P : A → Store → Hp → List Addr → Prop} {R : V → Hp → Prop} {p : List Addr} {env : Env} {S : Store} (rs : Rs K H p env σ) (rst : RSt K H p S) (g : Good K G σ H p ((sa env S).bind f) P)
    (hr : ∀ (H1 : Hp) (p1 : List Addr) (S1 : Store) (d : D) (x : V), Ext K H H1 p p1 → Rs K H1 p1 env σ → RSt K H1 p1 S1 → RV K H1 p1 d x → Good K G σ H1 p1 (f d S1) P → R x H1) : TEo K G sa σ H R :=
  ⟨p, env, S, rs, rst, g.bind.imp fun d S1 H1 p1 e1 r1 g1 x rx => hr H1 p1 S1 d x e1 (rs.mono e1) r1 rx g1⟩
theorem two {K : PySem.W.Frag} {f : D → D → Store → Res D} {sa sb : SE} {σ : L2.St} {H : Hp} {Q : VK} {R : V → V → Hp → Prop} (h : TEo K G (s2 f sa sb) σ H Q)
    (hr : ∀ (H : Hp) (p : List Addr) (S : Store) (d e : D) (x y : V), RSt K H p S → RV K H p d x → RV K H p e y → Good K G σ H p (f d e S) (PV K Q) → R x y H) :
    TEo K G sa σ H fun x H1 => TEo K G sb σ H1 fun y H2 => R x y H2 := by
  obtain ⟨p, env, S, rs, rst, g⟩ := h
  refine one rs rst g fun H1 p1 S1 d x e1 rs1 r1 rx g1 => ?_
  exact one rs1 r1 g1 fun H2 p2 S2 e y e2 rs2 r2 ry g2 => hr H2 p2 S2 d e x y r2 (RV.mono e2 _ _ rx) ry g2
theorem me_op {op : Operator} {r : R2} {f : D → D → Store → Res D} {sa sb : SE} (ho : OpR X (binaryOp op) r) (hf : RfO X.K r f) (ha : ME X G a sa) (hb : ME X G b sb) : ME X G (.BinOp a op b pos) (s2 f sa sb) := fun ok =>
  pe_imp (pe_op ho (ha ok) (hb ok)) fun σ H Q h => two h fun H p S d e x y rst rx ry g => hf G σ H p S d e x y Q rst rx ry g
theorem me_un {op : UnaryOp} {r : V → Hp → VK → Prop} {f : D → Store → Res D} {sa : SE} (ho : UnR X (unaryOp op) r) (hf : RfU X.K r f) (ha : ME X G a sa) : ME X G (.UnaryOp op a pos) (s1 f sa) := fun ok =>
  pe_imp (pe_un ho (ha ok)) fun σ H Q h => by
    obtain ⟨p, env, S, rs, rst, g⟩ := h
    exact one rs rst g fun H1 p1 S1 d x _ _ r1 rx g1 => hf G σ H1 p1 S1 d x Q r1 rx g1
theorem me_cmp {op : CmpOp} {r : R2} {f : D → D → Store → Res D} {sa sb : SE} (ho : OpR X (compareOp op) r) (hf : RfO X.K r f) (ha : ME X G a sa) (hb : ME X G b sb) (hm : behindInMarks op b = false) : ME X G (.Compare a [op] [b] pos) (s2 f sa sb) := fun ok =>
  pe_imp (pe_cmpR ho (ha ok) (hb ok) hm) fun σ H Q h => two h fun H p S d e x y rst rx ry g => hf G σ H p S d e x y Q rst rx ry g
theorem me_ix {r : R2} {f : D → D → Store → Res D} {sa sb : SE} (ho : IxR X r) (hf : RfO X.K r f) (ha : ME X G a sa) (hb : ME X G b sb) (hs : PlainIx b := by intro _ _; rfl) : ME X G (.Subscript a b pos) (s2 f sa sb) := fun ok =>
  pe_imp (pe_ix ho (ha ok) (hb ok) hs) fun σ H Q h => two h fun H p S d e x y rst rx ry g => hf G σ H p S d e x y Q rst rx ry g
/-! ### the operators by data -/
def fI (g : Int → Int → Int) : D → D → Store → Res D := fun d e S => match d, e with
  | .int i, .int j => .ok (.int (g i j)) S
  | _, _ => .bad
open Classical in
noncomputable def fIC (C : Int → Int → Prop) (g : Int → Int → Int) : D → D → Store → Res D := fun d e S => match d, e with
  | .int i, .int j => if C i j then .ok (.int (g i j)) S else .bad
  | _, _ => .bad
def fIB (g : Int → Int → Bool) : D → D → Store → Res D := fun d e S => match d, e with
  | .int i, .int j => .ok (.bl (g i j)) S
  | _, _ => .bad
theorem rf_I {K : PySem.W.Frag} {g : Int → Int → Int} : RfO K (rI0 fun i j => .int (g i j)) (fI g) := by
  intro G σ H p S d e x y Q rst rx ry h
  unfold fI at h
  split at h
  · rw [RV.int_iff] at rx ry
    exact ⟨_, _, rx, ry, h H p .refl rst _ (RV.int_iff.mpr rfl)⟩
  · exact h.elim
theorem rf_IC {K : PySem.W.Frag} {C : Int → Int → Prop} {g : Int → Int → Int} : RfO K (rI C fun i j => .int (g i j)) (fIC C g) := by
  intro G σ H p S d e x y Q rst rx ry h
  unfold fIC at h
  split at h
  · split at h
    · rename_i hc
      rw [RV.int_iff] at rx ry
      exact ⟨_, _, rx, ry, hc, h H p .refl rst _ (RV.int_iff.mpr rfl)⟩
    · exact h.elim
  · exact h.elim
theorem rf_IB {K : PySem.W.Frag} {g : Int → Int → Bool} : RfO K (rI0 fun i j => .bl (g i j)) (fIB g) := by
  intro G σ H p S d e x y Q rst rx ry h
  unfold fIB at h
  split at h
  · rw [RV.int_iff] at rx ry
    exact ⟨_, _, rx, ry, h H p .refl rst _ (RV.bl_iff.mpr rfl)⟩
  · exact h.elim
/-- * : one factor small, or both together below a million bits -/
def CM (i j : Int) : Prop := CMul i j ∨ CMulW i j
theorem op_mulA : OpR X (binaryOp .Mult) (rI CM fun i j => .int (i * j)) := opI fun _ _ _ _ _ _ _ hc q => mul_int q (hc.elim (·.ok) (·.ok))
/-- // : the divisor not nought, of not too many bits -/
def CDv (_ j : Int) : Prop := j ≠ 0 ∧ j.natAbs.log2 < 9000
theorem op_fdivV : OpR X (binaryOp .FloorDiv) (rI CDv fun i j => .int (i.fdiv j)) := opI fun _ _ _ _ _ _ _ hc q => floordiv_int hc.1 q (.inl (PyProof.noPylong_of_log2 hc.2))
/-- % : the divisor above nought -/
def CMo (_ j : Int) : Prop := 0 < j
theorem op_modA : OpR X (binaryOp .Mod) (rI CMo fun i j => .int (i % j)) := op_mod
noncomputable abbrev fMul := fIC CM fun i j => i * j
noncomputable abbrev fDiv := fIC CDv fun i j => i.fdiv j
noncomputable abbrev fMod := fIC CMo fun i j => i % j
noncomputable abbrev fPow := fIC CPow fun i j => i ^ j.toNat
abbrev fAdd := fI fun i j => i + j
abbrev fSub := fI fun i j => i - j
variable {sa sb : SE}
theorem me_mul (ha : ME X G a sa) (hb : ME X G b sb) : ME X G (.BinOp a .Mult b pos) (s2 fMul sa sb) := me_op op_mulA rf_IC ha hb
theorem me_div (ha : ME X G a sa) (hb : ME X G b sb) : ME X G (.BinOp a .FloorDiv b pos) (s2 fDiv sa sb) := me_op op_fdivV rf_IC ha hb
theorem me_mod (ha : ME X G a sa) (hb : ME X G b sb) : ME X G (.BinOp a .Mod b pos) (s2 fMod sa sb) := me_op op_modA rf_IC ha hb
theorem me_pow (ha : ME X G a sa) (hb : ME X G b sb) : ME X G (.BinOp a .Pow b pos) (s2 fPow sa sb) := me_op op_pow rf_IC ha hb
theorem me_sub (ha : ME X G a sa) (hb : ME X G b sb) : ME X G (.BinOp a .Sub b pos) (s2 fSub sa sb) := me_op op_sub rf_I ha hb
/-- + : ints; lists; tuples; texts -/
def lstOf (S : Store) (n : Nat) : Option (List D) := match S[n]? with
  | some (.lst l) => some l
  | some (.fro l) => some l
  | _ => none
open Classical in
noncomputable def fPlus : D → D → Store → Res D := fun d e S => match d, e with
  | .int i, .int j => .ok (.int (i + j)) S
  | .str x, .str y => if x.length + y.length ≤ sizeLine then .ok (.str (x ++ y)) S else .bad
  | .tup x, .tup y => if x.length + y.length ≤ sizeLine then .ok (.tup (x ++ y)) S else .bad
  | .ref m, .ref n => match lstOf S m, lstOf S n with
    | some x, some y => if x.length + y.length ≤ sizeLine then .ok (.ref S.length) (S ++ [.lst (x ++ y)]) else .bad
    | _, _ => .bad
  | _, _ => .bad
end
section
variable {K : PySem.W.Frag} {H : Hp} {p : List Addr} {S : Store}
theorem RSt.list (R : RSt K H p S) {n : Nat} {l : List D} {v : V} (h : lstOf S n = some l) (r : RV K H p (.ref n) v) : ∃ a xs, v = .ref a ∧ SqL K H a xs ∧ RVs K H p l xs := by
  obtain ⟨a, rfl, e⟩ := RV.ref_iff.mp r
  unfold lstOf at h
  split at h
  · rename_i l' hl
    cases h
    obtain ⟨xs, h1, h2⟩ := R.cell n _ a hl e
    exact ⟨a, xs, rfl, SqL.of h1, h2⟩
  · rename_i l' hl
    cases h
    obtain ⟨xs, h1, h2⟩ := R.cell n _ a hl e
    exact ⟨a, xs, rfl, h1.sql, h2⟩
  · cases h
/-- a new list in the heap -/
theorem RSt.newL {q : Addr} {xs : List V} {l : List D} (R : RSt K H p S) (h : H q = none) (r : RVs K H p l xs) :
    Ext K H (upd H q (.lst xs)) p (p ++ [q]) ∧ RSt K (upd H q (.lst xs)) (p ++ [q]) (S ++ [.lst l]) ∧ RV K (upd H q (.lst xs)) (p ++ [q]) (.ref S.length) (.ref q) := by
  have E : Ext K H (upd H q (.lst xs)) p (p ++ [q]) := ⟨fun n a e => by
    rw [List.getElem?_append_left (List.getElem?_eq_some_iff.mp e).1]
    exact e, (ext_same (p := p) (same_new h)).tup⟩
  obtain ⟨a1, a2, a3⟩ := R.push (c := .lst l) h ⟨xs, upd_same, RVs.mono E _ _ r⟩
  exact ⟨a1, a2, RV.ref_iff.mpr ⟨q, rfl, a3⟩⟩
/-- a new tuple in the heap -/
theorem RSt.newT {q : Addr} {xs : List V} {l : List D} (R : RSt K H p S) (h : H q = none) (r : RVs K H p l xs) :
    Ext K H (upd H q (.tup xs)) p p ∧ RSt K (upd H q (.tup xs)) p S ∧ RV K (upd H q (.tup xs)) p (.tup l) (.ref q) := by
  have E : Ext K H (upd H q (.tup xs)) p p := ext_same (same_new h)
  exact ⟨E, R.same (same_new h), RV.tup_iff.mpr ⟨q, xs, rfl, SqT.of upd_same, RVs.mono E _ _ r⟩⟩
/-- a list written anew -/
theorem RSt.setL {n : Nat} {a : Addr} {xs : List V} {l l0 : List D} (R : RSt K H p S) (hS : S[n]? = some (.lst l0)) (hp : p[n]? = some a) (r : RVs K H p l xs) :
    Ext K H (upd H a (.lst xs)) p p ∧ RSt K (upd H a (.lst xs)) p (S.set n (.lst l)) := by
  obtain ⟨ys, h0, _⟩ := R.cell n _ a hS hp
  have E : Ext K H (upd H a (.lst xs)) p p := by
    refine ⟨fun _ _ h => h, fun b zs h => ?_⟩
    rcases h with (h | ⟨ob, h⟩) | h
    · have hb : b ≠ a := fun e => by subst e; rw [h0] at h; cases h
      exact .inl (.inl (by rw [upd_ne hb]; exact h))
    · have hb : b ≠ a := fun e => by subst e; rw [h0] at h; cases h
      exact .inl (.inr ⟨ob, by rw [upd_ne hb]; exact h⟩)
    · exact .inr h
  exact R.write hS rfl rfl hp ⟨xs, upd_same, RVs.mono E _ _ r⟩ h0 (fun _ z => by cases z) (fun _ _ z => by cases z) (fun _ z => by cases z)
end
section
variable {X : Cx} {G : Gx} {e a b c : Expr} {pos : Pos} {sa sb : SE}
/-- list + list, either to be read -/
def rCatR (K : PySem.W.Frag) : R2 := fun x y H Q => ∃ l b xs zs, x = .ref l ∧ y = .ref b ∧ SqL K H l xs ∧ SqL K H b zs ∧ xs.length + zs.length ≤ sizeLine ∧ ∀ p, H p = none → Q (.ref p) (upd H p (.lst (xs ++ zs)))
theorem op_catR : OpR X (binaryOp .Add) (rCatR X.K) := by
  intro pins s σ H x y v u Q I rx ry h
  obtain ⟨l, b, xs, zs, rfl, rfl, hH, hB, hz, q⟩ := h
  cases rx
  cases ry
  obtain ⟨its, r, pl, _⟩ := I.list hH
  obtain ⟨its2, r2, pl2, _⟩ := I.list hB
  have hl := r.length
  have hl2 := r2.length
  obtain ⟨⟨cls, dd, data, sl⟩, ho, hc, n, hd⟩ := pl.isList
  obtain ⟨⟨cls2, dd2, data2, sl2⟩, ho2, hc2, n2, hd2⟩ := pl2.isList
  simp only at hc hd hc2 hd2
  subst hc hd hc2 hd2
  refine concat_meets ⟨_, ho, rfl⟩ ⟨_, ho2, rfl⟩ noFill_list_add seq_list_add PySem.F.slot_list_add PySem.F.entry_list_add (PySem.F.args_list_add_2 _ _) (list_addW l b its.toArray its2.toArray n n2 dd dd2 sl sl2 (by simp only [List.size_toArray]; omega)) ⟨ho, ho2, ?_⟩
  have ea : its.toArray ++ its2.toArray = (its ++ its2).toArray := by simp
  rw [ea]
  exact ⟨.ref _, _, I.lnew (t' := s.toks) (r.append r2) (by rw [List.length_append]; omega), rfl, q _ I.fresh⟩
theorem rf_plus {K : PySem.W.Frag} : RfO K (fun x y H Q => (rI0 fun i j => .int (i + j)) x y H Q ∨ ((∃ i j, x = .str i ∧ y = .str j ∧ i.length + j.length ≤ sizeLine ∧ Q (.str (i ++ j)) H) ∨ (rCatA K x y H Q ∨ rCatR K x y H Q))) fPlus := by
  intro G σ H p S d e x y Q rst rx ry h
  unfold fPlus at h
  split at h
  · rw [RV.int_iff] at rx ry
    exact .inl ⟨_, _, rx, ry, h H p .refl rst _ (RV.int_iff.mpr rfl)⟩
  · split at h
    · rename_i hc
      rw [RV.str_iff] at rx ry
      exact .inr (.inl ⟨_, _, rx, ry, hc, h H p .refl rst _ (RV.str_iff.mpr rfl)⟩)
    · exact h.elim
  · split at h
    · rename_i l1 l2 hc
      obtain ⟨a, xs, rfl, ha, hx⟩ := RV.tup_iff.mp rx
      obtain ⟨b, ys, rfl, hb, hy⟩ := RV.tup_iff.mp ry
      have e1 := hx.len
      have e2 := hy.len
      refine .inr (.inr (.inl ⟨a, b, xs, ys, rfl, rfl, ha, hb, by omega, fun z => ?_, fun _ z => ?_, fun _ _ q hq => ?_⟩))
      · subst z
        have z1 : l1 = [] := List.length_eq_zero_iff.mp (by simpa using e1)
        subst z1
        exact h H p .refl rst _ ry
      · subst z
        have z1 : l2 = [] := List.length_eq_zero_iff.mp (by simpa using e2)
        subst z1
        rw [List.append_nil] at h
        exact h H p .refl rst _ rx
      · obtain ⟨E, R, r⟩ := rst.newT hq (hx.app hy)
        exact h _ _ E R _ r
    · exact h.elim
  · split at h
    · rename_i m n l1 l2 h1 h2
      split at h
      · rename_i hc
        obtain ⟨a, xs, rfl, ha, hx⟩ := rst.list h1 rx
        obtain ⟨b, ys, rfl, hb, hy⟩ := rst.list h2 ry
        have e1 := hx.len
        have e2 := hy.len
        refine .inr (.inr (.inr ⟨a, b, xs, ys, rfl, rfl, ha, hb, by omega, fun q hq => ?_⟩))
        obtain ⟨E, R, r⟩ := rst.newL hq (hx.app hy)
        exact h _ _ E R _ r
      · exact h.elim
    · exact h.elim
  · exact h.elim
theorem me_add (ha : ME X G a sa) (hb : ME X G b sb) : ME X G (.BinOp a .Add b pos) (s2 fPlus sa sb) := me_op (op_add.or (op_add_str.or (op_catA.or op_catR))) rf_plus ha hb
open Classical in
/-- list * int -/
noncomputable def fMulL : D → D → Store → Res D := fun d e S => match d, e with
  | .ref m, .int k => match S[m]? with
    | some (.lst x) => if -(2 ^ 63) ≤ k ∧ k < 2 ^ 63 ∧ x.length * k.toNat ≤ sizeLine then .ok (.ref S.length) (S ++ [.lst (List.replicate k.toNat x).flatten]) else .bad
    | _ => .bad
  | _, _ => .bad
theorem RVs.rep {K : PySem.W.Frag} {H : Hp} {p : List Addr} {l : List D} {xs : List V} (h : RVs K H p l xs) : ∀ k : Nat, RVs K H p (List.replicate k l).flatten (List.replicate k xs).flatten
  | 0 => RVs.nil
  | k + 1 => by
    rw [List.replicate_succ, List.replicate_succ, List.flatten_cons, List.flatten_cons]
    exact h.app (RVs.rep h k)
theorem rf_mulL {K : PySem.W.Frag} : RfO K rRep fMulL := by
  intro G σ H p S d e x y Q rst rx ry h
  unfold fMulL at h
  split at h
  · rename_i m k
    split at h
    · rename_i l hl
      split at h
      · rename_i hc
        obtain ⟨a, rfl, ea⟩ := RV.ref_iff.mp rx
        rw [RV.int_iff] at ry
        obtain ⟨xs, h1, h2⟩ := rst.cell m _ a hl ea
        have e1 := h2.len
        refine ⟨a, k, xs, rfl, ry, h1, hc.1, hc.2.1, by rw [← e1]; exact hc.2.2, fun q hq => ?_⟩
        obtain ⟨E, R, r⟩ := rst.newL hq (h2.rep k.toNat)
        exact h _ _ E R _ r
      · exact h.elim
    · exact h.elim
  · exact h.elim
theorem me_mulL (ha : ME X G a sa) (hb : ME X G b sb) : ME X G (.BinOp a .Mult b pos) (s2 fMulL sa sb) := me_op op_rep rf_mulL ha hb
/-! ### unary minus -/
def fNeg : D → Store → Res D := fun d S => match d with
  | .int i => .ok (.int (-i)) S
  | _ => .bad
theorem rf_neg {K : PySem.W.Frag} : RfU K (rU fun i => .int (-i)) fNeg := by
  intro G σ H p S d x Q rst rx h
  unfold fNeg at h
  split at h
  · rw [RV.int_iff] at rx
    exact ⟨_, rx, h H p .refl rst _ (RV.int_iff.mpr rfl)⟩
  · exact h.elim
theorem me_neg (ha : ME X G a sa) : ME X G (.UnaryOp .USub a pos) (s1 fNeg sa) := me_un un_neg rf_neg ha
/-! ### items -/
def fIx : D → D → Store → Res D := fun d e S => match d, e with
  | .tup l, .int i => match atI l i with
    | some x => .ok x S
    | none => .bad
  | .ref n, .int i => match lstOf S n with
    | some l => match atI l i with
      | some x => .ok x S
      | none => .bad
    | none => .bad
  | .str z, .int i => if z.length ≤ sizeLine then match atI z.cps.toList i with
      | some c => .ok (.str ⟨#[c]⟩) S
      | none => .bad
    else .bad
  | _, _ => .bad
theorem RVs.atI {K : PySem.W.Frag} {H : Hp} {p : List Addr} {l : List D} {xs : List V} {i : Int} {d : D} (h : RVs K H p l xs) (e : atI l i = some d) : ∃ v, L2.atI xs i = some v ∧ RV K H p d v := by
  unfold L2.atI at e ⊢
  rw [← h.len]
  cases hx : ixN l.length i with
  | none => rw [hx] at e; cases e
  | some j =>
    rw [hx] at e
    exact h.get e
theorem rf_ix {K : PySem.W.Frag} : RfO K (rIx K) fIx := by
  intro G σ H p S d e x y Q rst rx ry h
  unfold fIx at h
  split at h
  · split at h
    · rename_i hc
      obtain ⟨a, xs, rfl, ha, hx⟩ := RV.tup_iff.mp rx
      rw [RV.int_iff] at ry
      obtain ⟨v, e1, e2⟩ := hx.atI hc
      exact .inr (.inl ⟨a, xs, _, v, rfl, ry, ha, e1, h H p .refl rst _ e2⟩)
    · exact h.elim
  · split at h
    · rename_i hl
      split at h
      · rename_i hc
        obtain ⟨a, xs, rfl, ha, hx⟩ := rst.list hl rx
        rw [RV.int_iff] at ry
        obtain ⟨v, e1, e2⟩ := hx.atI hc
        exact .inl ⟨a, xs, _, v, rfl, ry, ha, e1, h H p .refl rst _ e2⟩
      · exact h.elim
    · exact h.elim
  · split at h
    · rename_i hz
      split at h
      · rename_i hc
        rw [RV.str_iff] at rx
        rw [RV.int_iff] at ry
        exact .inr (.inr ⟨_, _, _, rx, ry, hz, hc, h H p .refl rst _ (RV.str_iff.mpr rfl)⟩)
      · exact h.elim
    · exact h.elim
  · exact h.elim
theorem me_item (ha : ME X G a sa) (hb : ME X G b sb) (hs : PlainIx b := by intro _ _; rfl) : ME X G (.Subscript a b pos) (s2 fIx sa sb) := me_ix ix_seq rf_ix ha hb hs
end
/-! ### data compared -/
def allP (f : D → Option PyData) : List D → Option (List PyData)
  | [] => some []
  | d :: l => match f d, allP f l with
    | some x, some r => some (x :: r)
    | _, _ => none
def toP (S : Store) : Nat → D → Option PyData
  | _, .non => some .none
  | _, .bl b => some (.bool b)
  | _, .int i => some (.int i)
  | _, .str s => if PyData.strOk s then some (.str s) else none
  | k + 1, .tup l => (allP (toP S k) l).map .tuple
  | k + 1, .ref n => match lstOf S n with
    | some l => (allP (toP S k) l).map .list
    | none => none
  | 0, .tup _ => none
  | 0, .ref _ => none
theorem allP_sh {k : Nat} {f : D → Option PyData} (hf : ∀ d x, f d = some x → x.canLay0 = true ∧ x.depth ≤ k) : ∀ {l : List D} {r : List PyData}, allP f l = some r → PyData.canLayAll0 r = true ∧ PyData.depthAll r ≤ k
  | [], r, h => by
    cases h
    exact ⟨rfl, Nat.zero_le _⟩
  | d :: l, r, h => by
    unfold allP at h
    split at h
    · rename_i x r' h1 h2
      cases h
      obtain ⟨a1, a2⟩ := hf d x h1
      obtain ⟨b1, b2⟩ := allP_sh hf h2
      unfold PyData.canLayAll0 PyData.depthAll
      exact ⟨by rw [a1, b1]; rfl, by omega⟩
    · cases h
theorem toP_sh {S : Store} : ∀ (k : Nat) (d : D) (x : PyData), toP S k d = some x → x.canLay0 = true ∧ x.depth ≤ k := by
  intro k
  induction k with
  | zero =>
    intro d x h
    cases d with
    | str s =>
      simp only [toP] at h
      split at h
      · rename_i hs
        cases h
        exact ⟨by simpa [PyData.canLay0] using hs, by simp [PyData.depth]⟩
      · cases h
    | tup l => simp [toP] at h
    | ref n => simp [toP] at h
    | non => simp only [toP] at h; cases h; exact ⟨rfl, by simp [PyData.depth]⟩
    | bl b => simp only [toP] at h; cases h; exact ⟨rfl, by simp [PyData.depth]⟩
    | int i => simp only [toP] at h; cases h; exact ⟨rfl, by simp [PyData.depth]⟩
  | succ k ih =>
    intro d x h
    cases d with
    | str s =>
      simp only [toP] at h
      split at h
      · rename_i hs
        cases h
        exact ⟨by simpa [PyData.canLay0] using hs, by simp [PyData.depth]⟩
      · cases h
    | tup l =>
      simp only [toP] at h
      cases e : allP (toP S k) l with
      | none => rw [e] at h; cases h
      | some r =>
        rw [e] at h
        cases h
        obtain ⟨a, b⟩ := allP_sh (k := k) ih e
        exact ⟨by simpa [PyData.canLay0] using a, by simp [PyData.depth]; omega⟩
    | ref n =>
      simp only [toP] at h
      split at h
      · rename_i l hl
        cases e : allP (toP S k) l with
        | none => rw [e] at h; cases h
        | some r =>
          rw [e] at h
          cases h
          obtain ⟨a, b⟩ := allP_sh (k := k) ih e
          exact ⟨by simpa [PyData.canLay0] using a, by simp [PyData.depth]; omega⟩
      · cases h
    | non => simp only [toP] at h; cases h; exact ⟨rfl, by simp [PyData.depth]⟩
    | bl b => simp only [toP] at h; cases h; exact ⟨rfl, by simp [PyData.depth]⟩
    | int i => simp only [toP] at h; cases h; exact ⟨rfl, by simp [PyData.depth]⟩
theorem toP_shaped {S : Store} {d : D} {x : PyData} (h : toP S 60 d = some x) : SeqAt.shaped x = true := by
  obtain ⟨a, b⟩ := toP_sh 60 d x h
  unfold SeqAt.shaped
  rw [a, Bool.true_and]
  exact decide_eq_true (by omega)
theorem allP_dp {K : PySem.W.Frag} {H : Hp} {p : List Addr} {f : D → Option PyData} (hf : ∀ d x v, f d = some x → RV K H p d v → Dp K H v x) : ∀ {l : List D} {r : List PyData} {xs : List V}, allP f l = some r → RVs K H p l xs → DpAll K H xs r
  | [], r, xs, h, q => by
    cases h
    rw [RVs.nil_iff] at q
    subst q
    exact .nil
  | d :: l, r, xs, h, q => by
    unfold allP at h
    split at h
    · rename_i x r' h1 h2
      cases h
      obtain ⟨v, vs, rfl, q1, q2⟩ := RVs.cons_iff.mp q
      exact .cons (hf d x v h1 q1) (allP_dp hf h2 q2)
    · cases h
theorem toP_dp {K : PySem.W.Frag} {H : Hp} {p : List Addr} {S : Store} (R : RSt K H p S) : ∀ (k : Nat) (d : D) (x : PyData) (v : V), toP S k d = some x → RV K H p d v → Dp K H v x := by
  intro k
  induction k with
  | zero =>
    intro d x v h q
    cases d with
    | str s =>
      simp only [toP] at h
      split at h
      · cases h; rw [RV.str_iff] at q; subst q; exact .str _
      · cases h
    | tup l => simp [toP] at h
    | ref n => simp [toP] at h
    | non => simp only [toP] at h; cases h; rw [RV.non_iff] at q; subst q; exact .non
    | bl b => simp only [toP] at h; cases h; rw [RV.bl_iff] at q; subst q; exact .bl _
    | int i => simp only [toP] at h; cases h; rw [RV.int_iff] at q; subst q; exact .int _
  | succ k ih =>
    intro d x v h q
    cases d with
    | str s =>
      simp only [toP] at h
      split at h
      · cases h; rw [RV.str_iff] at q; subst q; exact .str _
      · cases h
    | tup l =>
      simp only [toP] at h
      cases e : allP (toP S k) l with
      | none => rw [e] at h; cases h
      | some r =>
        rw [e] at h
        cases h
        obtain ⟨a, xs, rfl, ha, hx⟩ := RV.tup_iff.mp q
        exact .tup ha (allP_dp ih e hx)
    | ref n =>
      simp only [toP] at h
      split at h
      · rename_i l hl
        cases e : allP (toP S k) l with
        | none => rw [e] at h; cases h
        | some r =>
          rw [e] at h
          cases h
          obtain ⟨a, xs, rfl, ha, hx⟩ := R.list hl q
          exact .lst ha (allP_dp ih e hx)
      · cases h
    | non => simp only [toP] at h; cases h; rw [RV.non_iff] at q; subst q; exact .non
    | bl b => simp only [toP] at h; cases h; rw [RV.bl_iff] at q; subst q; exact .bl _
    | int i => simp only [toP] at h; cases h; rw [RV.int_iff] at q; subst q; exact .int _
def fEq : D → D → Store → Res D := fun d e S => match toP S 60 d, toP S 60 e with
  | some x, some y => .ok (.bl (PyData.eqv x y)) S
  | _, _ => .bad
def fNe : D → D → Store → Res D := fun d e S => match toP S 60 d, toP S 60 e with
  | some x, some y => .ok (.bl (!PyData.eqv x y)) S
  | _, _ => .bad
theorem rf_eq {K : PySem.W.Frag} : RfO K (rEqD K) fEq := by
  intro G σ H p S d e x y Q rst rx ry h
  unfold fEq at h
  split at h
  · rename_i a b h1 h2
    exact ⟨a, b, toP_dp rst 60 d a x h1 rx, toP_dp rst 60 e b y h2 ry, toP_shaped h1, toP_shaped h2, h H p .refl rst _ (RV.bl_iff.mpr rfl)⟩
  · exact h.elim
theorem rf_ne {K : PySem.W.Frag} : RfO K (rNeD K) fNe := by
  intro G σ H p S d e x y Q rst rx ry h
  unfold fNe at h
  split at h
  · rename_i a b h1 h2
    exact ⟨a, b, toP_dp rst 60 d a x h1 rx, toP_dp rst 60 e b y h2 ry, toP_shaped h1, toP_shaped h2, h H p .refl rst _ (RV.bl_iff.mpr rfl)⟩
  · exact h.elim
end Rg
/-! RgBc: tests, displays, calls, built-ins, slices. -/
namespace Rg
open PySem PySem.Spec PyProof.Rows L2
section
variable {X : Cx} {G : Gx} {e a b c : Expr} {pos : Pos} {sa sb : SE} {st su : ST} {es rest : List Expr} {sr : SA}
/-! ### tests -/
def sT (s : SE) : ST := fun env S => (s env S).bind fun d S1 => match d with
  | .bl b => .ok b S1
  | _ => .bad
def sB (s : ST) : SE := fun env S => (s env S).bind fun b S1 => .ok (.bl b) S1
def sNot (s : ST) : ST := fun env S => (s env S).bind fun b S1 => .ok (!b) S1
def sAnd (s t : ST) : ST := fun env S => (s env S).bind fun b S1 => if b = true then t env S1 else .ok false S1
def sOr (s t : ST) : ST := fun env S => (s env S).bind fun b S1 => if b = true then .ok true S1 else t env S1
def sAndV (sa sb : SE) : SE := fun env S => (sa env S).bind fun d S1 => match d with
  | .bl true => sb env S1
  | .bl false => .ok (.bl false) S1
  | _ => .bad
def sOrV (sa sb : SE) : SE := fun env S => (sa env S).bind fun d S1 => match d with
  | .bl true => .ok (.bl true) S1
  | .bl false => sb env S1
  | _ => .bad
def fNot : D → Store → Res D := fun d S => match d with
  | .bl b => .ok (.bl (!b)) S
  | _ => .bad
def sIf (t : ST) (sa sb : SE) : SE := fun env S => (t env S).bind fun b S1 => if b = true then sa env S1 else sb env S1
theorem sT_of {K : PySem.W.Frag} {σ : L2.St} {H : Hp} {Q : Bool → Hp → Prop} (h : TTo K G (sT sa) σ H Q) : TEo K G sa σ H fun x H' => ∃ k, x = .bl k ∧ Q k H' := by
  obtain ⟨p, env, S, rs, rst, g⟩ := h
  refine one rs rst g fun H1 p1 S1 d x _ _ r1 rx g1 => ?_
  cases d with
  | bl b =>
    rw [RV.bl_iff] at rx
    exact ⟨b, rx, g1 H1 p1 .refl r1⟩
  | _ => exact g1.elim
theorem mt_cmp {op : CmpOp} {r : R2} {f : D → D → Store → Res D} (ho : OpR X (compareOp op) r) (hf : RfO X.K r f) (ha : ME X G a sa) (hb : ME X G b sb) (hm : behindInMarks op b = false) : MT X G (.Compare a [op] [b] pos) (sT (s2 f sa sb)) := fun ok =>
  pt_imp (pt_cmpR ho (ha ok) (hb ok) hm) fun σ H Q h => by
    have h1 := sT_of h
    exact two h1 fun H p S d e x y rst rx ry g => hf G σ H p S d e x y _ rst rx ry g
theorem mt_val (ha : ME X G a sa) (he : ∀ whole, isTrue a X.env whole = (do let v ← whole; standAt a.pos; holding [v] (truthy v)) := by intro _; rfl) : MT X G a (sT sa) := fun ok =>
  pt_imp (pt_val (ha ok) he) fun σ H Q h => sT_of h
theorem TTo.bind {K : PySem.W.Frag} {A : Type} {f : Bool → Store → Res A} {σ : L2.St} {H : Hp} {P : A → Store → Hp → List Addr → Prop} {R : Bool → Hp → Prop} {p : List Addr} {env : Env} {S : Store} (rs : Rs K H p env σ) (rst : RSt K H p S) (g : Good K G σ H p ((st env S).bind f) P)
    (hr : ∀ (H1 : Hp) (p1 : List Addr) (S1 : Store) (b : Bool), Ext K H H1 p p1 → Rs K H1 p1 env σ → RSt K H1 p1 S1 → Good K G σ H1 p1 (f b S1) P → R b H1) : TTo K G st σ H R :=
  ⟨p, env, S, rs, rst, g.bind.imp fun b S1 H1 p1 e1 r1 g1 => hr H1 p1 S1 b e1 (rs.mono e1) r1 g1⟩
theorem mt_not (ha : MT X G a st) : MT X G (.UnaryOp .Not a pos) (sNot st) := fun ok =>
  pt_imp (pt_not (ha ok)) fun σ H Q h => by
    obtain ⟨p, env, S, rs, rst, g⟩ := h
    exact TTo.bind rs rst g fun H1 p1 S1 b _ _ r1 g1 => g1 H1 p1 .refl r1
theorem MW.pt (h : MW X G a st) : MT X G a st := fun ok => (h ok).pt
theorem mw_and1 (ha : MT X G a st) : MW X G (.BoolOp .And [a] pos) st := fun ok => pw_and1 (ha ok)
theorem mw_or1 (ha : MT X G a st) : MW X G (.BoolOp .Or [a] pos) st := fun ok => pw_or1 (ha ok)
theorem mw_and (ha : MT X G a st) (hb : MW X G (.BoolOp .And (b :: rest) pos) su) : MW X G (.BoolOp .And (a :: b :: rest) pos) (sAnd st su) := fun ok =>
  pw_imp (pw_and (ha ok) (hb ok)) fun σ H Q h => by
    obtain ⟨p, env, S, rs, rst, g⟩ := h
    refine TTo.bind rs rst g fun H1 p1 S1 b _ rs1 r1 g1 => ?_
    cases b with
    | true => exact ⟨p1, env, S1, rs1, r1, g1⟩
    | false => exact g1 H1 p1 .refl r1
theorem mw_or (ha : MT X G a st) (hb : MW X G (.BoolOp .Or (b :: rest) pos) su) : MW X G (.BoolOp .Or (a :: b :: rest) pos) (sOr st su) := fun ok =>
  pw_imp (pw_or (ha ok) (hb ok)) fun σ H Q h => by
    obtain ⟨p, env, S, rs, rst, g⟩ := h
    refine TTo.bind rs rst g fun H1 p1 S1 b _ rs1 r1 g1 => ?_
    cases b with
    | true => exact g1 H1 p1 .refl r1
    | false => exact ⟨p1, env, S1, rs1, r1, g1⟩
theorem me_one {op} (h : ME X G a sa) : ME X G (.BoolOp op [a] pos) sa := fun ok => pe_one (h ok)
theorem me_and (ha : ME X G a sa) (hb : ME X G (.BoolOp .And (b :: rest) pos) sb) : ME X G (.BoolOp .And (a :: b :: rest) pos) (sAndV sa sb) := fun ok =>
  pe_imp (pe_and (ha ok) (hb ok)) fun σ H Q h => by
    obtain ⟨p, env, S, rs, rst, g⟩ := h
    refine one rs rst g fun H1 p1 S1 d x _ rs1 r1 rx g1 => ?_
    cases d with
    | bl b =>
      rw [RV.bl_iff] at rx
      refine ⟨b, rx, ?_⟩
      cases b with
      | true => exact ⟨p1, env, S1, rs1, r1, g1⟩
      | false => exact g1 H1 p1 .refl r1 _ (RV.bl_iff.mpr rfl)
    | _ => exact g1.elim
theorem me_or (ha : ME X G a sa) (hb : ME X G (.BoolOp .Or (b :: rest) pos) sb) : ME X G (.BoolOp .Or (a :: b :: rest) pos) (sOrV sa sb) := fun ok =>
  pe_imp (pe_or (ha ok) (hb ok)) fun σ H Q h => by
    obtain ⟨p, env, S, rs, rst, g⟩ := h
    refine one rs rst g fun H1 p1 S1 d x _ rs1 r1 rx g1 => ?_
    cases d with
    | bl b =>
      rw [RV.bl_iff] at rx
      refine ⟨b, rx, ?_⟩
      cases b with
      | true => exact g1 H1 p1 .refl r1 _ (RV.bl_iff.mpr rfl)
      | false => exact ⟨p1, env, S1, rs1, r1, g1⟩
    | _ => exact g1.elim
theorem me_not (ha : ME X G a sa) : ME X G (.UnaryOp .Not a pos) (s1 fNot sa) := fun ok =>
  pe_imp (pe_not (ha ok)) fun σ H Q h => by
    obtain ⟨p, env, S, rs, rst, g⟩ := h
    refine one rs rst g fun H1 p1 S1 d x _ rs1 r1 rx g1 => ?_
    cases d with
    | bl b =>
      rw [RV.bl_iff] at rx
      exact ⟨b, rx, g1 H1 p1 .refl r1 _ (RV.bl_iff.mpr rfl)⟩
    | _ => exact g1.elim
theorem me_ifExp (hc : MT X G c st) (ha : ME X G a sa) (hb : ME X G b sb) : ME X G (.IfExp c a b pos) (sIf st sa sb) := fun ok =>
  pe_imp (pe_ifExp (hc ok) (ha ok) (hb ok)) fun σ H Q h => by
    obtain ⟨p, env, S, rs, rst, g⟩ := h
    refine TTo.bind rs rst g fun H1 p1 S1 b _ rs1 r1 g1 => ?_
    cases b with
    | true => exact ⟨p1, env, S1, rs1, r1, g1⟩
    | false => exact ⟨p1, env, S1, rs1, r1, g1⟩
/-! ### comparisons -/
abbrev fLt := fIB fun i j => decide (i < j)
abbrev fLe := fIB fun i j => decide (i ≤ j)
abbrev fGt := fIB fun i j => decide (j < i)
abbrev fGe := fIB fun i j => decide (j ≤ i)
theorem me_lt (ha : ME X G a sa) (hb : ME X G b sb) : ME X G (.Compare a [.Lt] [b] pos) (s2 fLt sa sb) := me_cmp op_lt rf_IB ha hb (nomark _)
theorem me_le (ha : ME X G a sa) (hb : ME X G b sb) : ME X G (.Compare a [.LtE] [b] pos) (s2 fLe sa sb) := me_cmp op_le rf_IB ha hb (nomark _)
theorem me_gt (ha : ME X G a sa) (hb : ME X G b sb) : ME X G (.Compare a [.Gt] [b] pos) (s2 fGt sa sb) := me_cmp op_gt rf_IB ha hb (nomark _)
theorem me_ge (ha : ME X G a sa) (hb : ME X G b sb) : ME X G (.Compare a [.GtE] [b] pos) (s2 fGe sa sb) := me_cmp op_ge rf_IB ha hb (nomark _)
theorem mt_lt (ha : ME X G a sa) (hb : ME X G b sb) : MT X G (.Compare a [.Lt] [b] pos) (sT (s2 fLt sa sb)) := mt_cmp op_lt rf_IB ha hb (nomark _)
theorem mt_le (ha : ME X G a sa) (hb : ME X G b sb) : MT X G (.Compare a [.LtE] [b] pos) (sT (s2 fLe sa sb)) := mt_cmp op_le rf_IB ha hb (nomark _)
theorem mt_gt (ha : ME X G a sa) (hb : ME X G b sb) : MT X G (.Compare a [.Gt] [b] pos) (sT (s2 fGt sa sb)) := mt_cmp op_gt rf_IB ha hb (nomark _)
theorem mt_ge (ha : ME X G a sa) (hb : ME X G b sb) : MT X G (.Compare a [.GtE] [b] pos) (sT (s2 fGe sa sb)) := mt_cmp op_ge rf_IB ha hb (nomark _)
/-- the room that an equality of data wants -/
theorem me_eq {k : Nat} (hr : Room k X.A) (ha : ME X G a sa) (hb : ME X G b sb) : ME X G (.Compare a [.Eq] [b] pos) (s2 fEq sa sb) := me_cmp (op_eqD hr.units) rf_eq ha hb (nomark _)
theorem me_ne {k : Nat} (hr : Room k X.A) (ha : ME X G a sa) (hb : ME X G b sb) : ME X G (.Compare a [.NotEq] [b] pos) (s2 fNe sa sb) := me_cmp (op_neD hr.units) rf_ne ha hb (nomark _)
theorem mt_eq {k : Nat} (hr : Room k X.A) (ha : ME X G a sa) (hb : ME X G b sb) : MT X G (.Compare a [.Eq] [b] pos) (sT (s2 fEq sa sb)) := mt_cmp (op_eqD hr.units) rf_eq ha hb (nomark _)
theorem mt_ne {k : Nat} (hr : Room k X.A) (ha : ME X G a sa) (hb : ME X G b sb) : MT X G (.Compare a [.NotEq] [b] pos) (sT (s2 fNe sa sb)) := mt_cmp (op_neD hr.units) rf_ne ha hb (nomark _)
/-- is None, is not None -/
def D.isNon : D → Bool
  | .non => true
  | _ => false
theorem RV.isNon {K : PySem.W.Frag} {H : Hp} {p : List Addr} {d : D} {v : V} (r : RV K H p d v) : decide (v = .non) = d.isNon := by
  cases d with
  | non => rw [RV.non_iff] at r; subst r; rfl
  | bl b => rw [RV.bl_iff] at r; subst r; rfl
  | int b => rw [RV.int_iff] at r; subst r; rfl
  | str b => rw [RV.str_iff] at r; subst r; rfl
  | tup l => obtain ⟨a, xs, rfl, _⟩ := RV.tup_iff.mp r; rfl
  | ref l => obtain ⟨a, rfl, _⟩ := RV.ref_iff.mp r; rfl
def fIsN : D → Store → Res D := fun d S => .ok (.bl d.isNon) S
def fNotN : D → Store → Res D := fun d S => .ok (.bl (!d.isNon)) S
theorem pc_isN'  {σ : L2.St} {H : Hp} {Q : VK} (h : TEo X.K G (s1 fIsN sa) σ H Q) : tIsN (TEo X.K G sa) σ H Q := by
  obtain ⟨p, env, S, rs, rst, g⟩ := h
  refine one rs rst g fun H1 p1 S1 d x _ rs1 r1 rx g1 => ?_
  rw [rx.isNon]
  exact g1 H1 p1 .refl r1 _ (RV.bl_iff.mpr rfl)
theorem pc_notN'  {σ : L2.St} {H : Hp} {Q : VK} (h : TEo X.K G (s1 fNotN sa) σ H Q) : tNotN (TEo X.K G sa) σ H Q := by
  obtain ⟨p, env, S, rs, rst, g⟩ := h
  refine one rs rst g fun H1 p1 S1 d x _ rs1 r1 rx g1 => ?_
  rw [rx.isNon]
  exact g1 H1 p1 .refl r1 _ (RV.bl_iff.mpr rfl)
theorem me_isN {j pos'} (ha : ME X G a sa) : ME X G (.Compare a [.Is] [.Constant .none j pos'] pos) (s1 fIsN sa) := fun ok => pe_imp (pe_cmp (pc_isN (ha ok))) fun σ H Q h => pc_isN' h
theorem me_notN {j pos'} (ha : ME X G a sa) : ME X G (.Compare a [.IsNot] [.Constant .none j pos'] pos) (s1 fNotN sa) := fun ok => pe_imp (pe_cmp (pc_notN (ha ok))) fun σ H Q h => pc_notN' h
theorem mt_isN {j pos'} (ha : ME X G a sa) : MT X G (.Compare a [.Is] [.Constant .none j pos'] pos) (sT (s1 fIsN sa)) := fun ok => pt_imp (pt_cmp (pc_isN (ha ok))) fun σ H Q h => pc_isN' (sT_of h)
theorem mt_notN {j pos'} (ha : ME X G a sa) : MT X G (.Compare a [.IsNot] [.Constant .none j pos'] pos) (sT (s1 fNotN sa)) := fun ok => pt_imp (pt_cmp (pc_notN (ha ok))) fun σ H Q h => pc_notN' (sT_of h)
/-- is True, is not True (of truths) -/
def fIsB : D → D → Store → Res D := fun d e S => match d, e with
  | .bl x, .bl y => .ok (.bl (decide (x = y))) S
  | _, _ => .bad
def fNotB : D → D → Store → Res D := fun d e S => match d, e with
  | .bl x, .bl y => .ok (.bl (!decide (x = y))) S
  | _, _ => .bad
theorem rf_isB {K : PySem.W.Frag} : RfO K rIsB fIsB := by
  intro G σ H p S d e x y Q rst rx ry h
  unfold fIsB at h
  split at h
  · rw [RV.bl_iff] at rx ry
    exact ⟨_, _, rx, ry, h H p .refl rst _ (RV.bl_iff.mpr rfl)⟩
  · exact h.elim
theorem rf_notB {K : PySem.W.Frag} : RfO K rNotB fNotB := by
  intro G σ H p S d e x y Q rst rx ry h
  unfold fNotB at h
  split at h
  · rw [RV.bl_iff] at rx ry
    exact ⟨_, _, rx, ry, h H p .refl rst _ (RV.bl_iff.mpr rfl)⟩
  · exact h.elim
theorem me_isB (ha : ME X G a sa) (hb : ME X G b sb) : ME X G (.Compare a [.Is] [b] pos) (s2 fIsB sa sb) := me_cmp op_isBl rf_isB ha hb (nomark _)
theorem me_notB (ha : ME X G a sa) (hb : ME X G b sb) : ME X G (.Compare a [.IsNot] [b] pos) (s2 fNotB sa sb) := me_cmp op_notBl rf_notB ha hb (nomark _)
theorem mt_isB (ha : ME X G a sa) (hb : ME X G b sb) : MT X G (.Compare a [.Is] [b] pos) (sT (s2 fIsB sa sb)) := mt_cmp op_isBl rf_isB ha hb (nomark _)
theorem mt_notB (ha : ME X G a sa) (hb : ME X G b sb) : MT X G (.Compare a [.IsNot] [b] pos) (sT (s2 fNotB sa sb)) := mt_cmp op_notBl rf_notB ha hb (nomark _)
/-- a < b < c -/
def sChain (f g : D → D → Store → Res D) (sa sb sc : SE) : SE := fun env S => (sa env S).bind fun d S1 => (sb env S1).bind fun e S2 => (f d e S2).bind fun r S3 => match r with
  | .bl true => (sc env S3).bind fun u S4 => g e u S4
  | .bl false => .ok (.bl false) S3
  | _ => .bad
/-! ### arguments, displays -/
def sNil : SA := fun _ S => .ok [] S
def sCons (s : SE) (r : SA) : SA := fun env S => (s env S).bind fun d S1 => (r env S1).bind fun ds S2 => .ok (d :: ds) S2
def sTup (s : SA) : SE := fun env S => (s env S).bind fun ds S1 => if ds.length ≤ sizeLine then .ok (.tup ds) S1 else .bad
def sLst (s : SA) : SE := fun env S => (s env S).bind fun ds S1 => if ds.length ≤ sizeLine then .ok (.ref S1.length) (S1 ++ [.lst ds]) else .bad
theorem ma_nil : MA X G [] sNil := fun _ => pa_imp pa_nil fun σ H Q h => by
  obtain ⟨p, env, S, rs, rst, g⟩ := h
  exact g H p .refl rst [] RVs.nil
theorem TAo.bind {K : PySem.W.Frag} {A : Type} {f : List D → Store → Res A} {σ : L2.St} {H : Hp} {P : A → Store → Hp → List Addr → Prop} {R : List V → Hp → Prop} {p : List Addr} {env : Env} {S : Store} (rs : Rs K H p env σ) (rst : RSt K H p S) (g : Good K G σ H p ((sr env S).bind f) P)
    (hr : ∀ (H1 : Hp) (p1 : List Addr) (S1 : Store) (ds : List D) (xs : List V), Ext K H H1 p p1 → Rs K H1 p1 env σ → RSt K H1 p1 S1 → RVs K H1 p1 ds xs → Good K G σ H1 p1 (f ds S1) P → R xs H1) : TAo K G sr σ H R :=
  ⟨p, env, S, rs, rst, g.bind.imp fun ds S1 H1 p1 e1 r1 g1 xs rx => hr H1 p1 S1 ds xs e1 (rs.mono e1) r1 rx g1⟩
theorem ma_cons (ha : ME X G e sa) (hr : MA X G es sr) (hs : starEach (e :: es) X.env = (false, eval e X.env) :: starEach es X.env := by rfl) : MA X G (e :: es) (sCons sa sr) := fun ok =>
  pa_imp (pa_cons (ha ok) (hr ok) hs) fun σ H Q h => by
    obtain ⟨p, env, S, rs, rst, g⟩ := h
    refine one rs rst g fun H1 p1 S1 d x _ rs1 r1 rx g1 => ?_
    refine TAo.bind rs1 r1 g1 fun H2 p2 S2 ds xs e2 rs2 r2 rxs g2 => ?_
    exact g2 H2 p2 .refl r2 _ (RVs.cons (RV.mono e2 _ _ rx) rxs)
theorem me_tup {x1} (h : MA X G es sr) : ME X G (.Tuple es x1 pos) (sTup sr) := fun ok =>
  pe_imp (pe_tup (h ok)) fun σ H Q h => by
    obtain ⟨p, env, S, rs, rst, g⟩ := h
    refine TAo.bind rs rst g fun H1 p1 S1 ds xs _ rs1 r1 rx g1 => ?_
    split at g1
    · rename_i hz
      refine ⟨by rw [← rx.len]; exact hz, fun q hq => ?_⟩
      obtain ⟨E, R, r⟩ := r1.newT hq rx
      exact g1 _ _ E R _ r
    · exact g1.elim
theorem me_lst (h : MA X G es sr) : ME X G (.List es pos) (sLst sr) := fun ok =>
  pe_imp (pe_lst (h ok)) fun σ H Q h => by
    obtain ⟨p, env, S, rs, rst, g⟩ := h
    refine TAo.bind rs rst g fun H1 p1 S1 ds xs _ rs1 r1 rx g1 => ?_
    split at g1
    · rename_i hz
      refine ⟨by rw [← rx.len]; exact hz, fun q hq => ?_⟩
      obtain ⟨E, R, r⟩ := r1.newL hq rx
      exact g1 _ _ E R _ r
    · exact g1.elim
/-! ### calls of own defs -/
abbrev Mf := List D → Store → Res D
def sCall (m : Mf) (s : SA) : SE := fun env S => (s env S).bind fun ds S1 => m ds S1
def SpOf (K : PySem.W.Frag) (xv : Str → Value) (m : Mf) : Sp := fun vs H Q E => ∃ ds p S, RVs K H p ds vs ∧ RSt K H p S ∧ Good K ⟨xv, fun cls d _ H' => E cls d H'⟩ [] H p (m ds S) (PV K Q)
theorem me_call {x : Str} {p : Pos} {k j : Nat} {f : Addr} {fd : FuncData} {ps : List Str} {m : Mf} (F : FnOk X.prog X.w X.K X.mg X.base (L2.CX X.prog X.w) k f fd ps (SpOf X.K G.xv m)) (hr : Room j X.A) (hj : k ≤ j) (hm : X.mg x = some (.ref f)) (hk : PySem.W.keepIn X.K (.ref f) = true) (hb : Binds X.K fd ps [])
    (ha : MA X G (e :: es) sr) (hg : Gl X x := by rfl) (hdb : (x == ("__debug__" : Str)) = false := by decide) (he : starEach (e :: es) X.env = (false, eval e X.env) :: starEach es X.env := by rfl) (hpl : (backTo pos (starEach es X.env)).any (·.1) = false := by rfl) :
    ME X G (.Call (.Name x p) (e :: es) [] pos) (sCall m sr) := fun ok =>
  pe_imp (pe_callS F (hr.mono hj) hg hm hk hb (fun σ => passAt ok.tk σ) (ha ok) hdb he hpl) fun σ H Q h => by
    obtain ⟨p, env, S, rs, rst, g⟩ := h
    refine TAo.bind rs rst g fun H1 p1 S1 ds xs _ rs1 r1 rx g1 => ?_
    refine ⟨ds, p1, S1, rx, r1, ?_⟩
    cases hm : m ds S1 with
    | ok d S2 => rw [hm] at g1; exact g1
    | exc c S2 => rw [hm] at g1; exact g1
    | bad => rw [hm] at g1; exact g1
/-- a call without arguments: nothing raised leaves it -/
def sCall0 (m : Mf) : SE := fun _ S => match m [] S with
  | .ok d S1 => .ok d S1
  | _ => .bad
theorem me_call0 {x : Str} {p : Pos} {k j : Nat} {f : Addr} {fd : FuncData} {ps : List Str} {m : Mf} (F : FnOk X.prog X.w X.K X.mg X.base (L2.CX X.prog X.w) k f fd ps (SpOf X.K G.xv m)) (hr : Room j X.A) (hj : k ≤ j) (hm : X.mg x = some (.ref f)) (hk : PySem.W.keepIn X.K (.ref f) = true) (hb : Binds X.K fd ps [])
    (hg : Gl X x := by rfl) (hdb : (x == ("__debug__" : Str)) = false := by decide) :
    ME X G (.Call (.Name x p) [] [] pos) (sCall0 m) := fun ok =>
  pe_imp (pe_call0 (E := fun _ _ _ => False) F (hr.mono hj) hg hm hk hb .nil passL hdb) fun σ H Q h => by
    obtain ⟨p, env, S, rs, rst, g⟩ := h
    refine ⟨[], p, S, RVs.nil, rst, ?_⟩
    unfold sCall0 at g
    cases hm : m [] S with
    | ok d S2 => rw [hm] at g; exact g
    | exc c S2 => rw [hm] at g; exact g.elim
    | bad => rw [hm] at g; exact g
/-! ### built-ins by their names -/
def RfC (K : PySem.W.Frag) (r : List V → Hp → VK → Prop) (f : Mf) : Prop := ∀ (G : Gx) (σ : L2.St) (H : Hp) (p : List Addr) (S : Store) (ds : List D) (xs : List V) (Q : VK), RSt K H p S → RVs K H p ds xs → Good K G σ H p (f ds S) (PV K Q) → r xs H Q
theorem me_callB {x : Str} {p : Pos} {id : String} {r : List V → Hp → VK → Prop} {f : Mf} (hc : CallR X (.builtin id) r) (hf : RfC X.K r f) (hm : X.mg x = none) (hv : bootBuiltins x = some (.builtin id)) (ha : MA X G (e :: es) sr) (hg : Gl X x := by rfl) (hn : x ≠ "__name__" := by decide) (hdb : (x == ("__debug__" : Str)) = false := by decide)
    (he : starEach (e :: es) X.env = (false, eval e X.env) :: starEach es X.env := by rfl) (hpl : (backTo pos (starEach es X.env)).any (·.1) = false := by rfl) : ME X G (.Call (.Name x p) (e :: es) [] pos) (sCall f sr) := fun ok =>
  pe_imp (pe_callB hc hg hm hv (ha ok) hn hdb he hpl) fun σ H Q h => by
    obtain ⟨p, env, S, rs, rst, g⟩ := h
    exact TAo.bind rs rst g fun H1 p1 S1 ds xs _ rs1 r1 rx g1 => hf G σ H1 p1 S1 ds xs Q r1 rx g1
theorem me_callTy {x : Str} {p : Pos} {id : String} {r : List V → Hp → VK → Prop} {f : Mf} (hc : CallR X (.type id) r) (hf : RfC X.K r f) (hm : X.mg x = none) (hv : bootBuiltins x = some (.type id)) (ha : MA X G (e :: es) sr) (hg : Gl X x := by rfl) (hn : x ≠ "__name__" := by decide) (hdb : (x == ("__debug__" : Str)) = false := by decide)
    (he : starEach (e :: es) X.env = (false, eval e X.env) :: starEach es X.env := by rfl) (hpl : (backTo pos (starEach es X.env)).any (·.1) = false := by rfl) : ME X G (.Call (.Name x p) (e :: es) [] pos) (sCall f sr) := fun ok =>
  pe_imp (pe_callTy hc hg hm hv (ha ok) hn hdb he hpl) fun σ H Q h => by
    obtain ⟨p, env, S, rs, rst, g⟩ := h
    exact TAo.bind rs rst g fun H1 p1 S1 ds xs _ rs1 r1 rx g1 => hf G σ H1 p1 S1 ds xs Q r1 rx g1
end
end Rg
/-! RgBd: built-ins by data, isinstance, slices, methods. -/
namespace Rg
open PySem PySem.Spec PyProof.Rows L2
theorem RVs.one {K : PySem.W.Frag} {H : Hp} {p : List Addr} {d : D} {xs : List V} (h : RVs K H p [d] xs) : ∃ x, xs = [x] ∧ RV K H p d x := by
  obtain ⟨x, r, rfl, h1, h2⟩ := RVs.cons_iff.mp h
  rw [RVs.nil_iff] at h2
  subst h2
  exact ⟨x, rfl, h1⟩
theorem RVs.two {K : PySem.W.Frag} {H : Hp} {p : List Addr} {d e : D} {xs : List V} (h : RVs K H p [d, e] xs) : ∃ x y, xs = [x, y] ∧ RV K H p d x ∧ RV K H p e y := by
  obtain ⟨x, r, rfl, h1, h2⟩ := RVs.cons_iff.mp h
  obtain ⟨y, rfl, h3⟩ := h2.one
  exact ⟨x, y, rfl, h1, h3⟩
section
variable {X : Cx} {G : Gx} {e a b c : Expr} {pos : Pos} {sa sb : SE} {st su : ST} {es rest : List Expr} {sr : SA}
def fAbs : Mf := fun ds S => match ds with
  | [.int i] => .ok (.int (i.natAbs : Int)) S
  | _ => .bad
theorem rc_abs {K : PySem.W.Frag} : RfC K (fun xs H Q => ∃ i, xs = [.int i] ∧ Q (.int (if i < 0 then -i else i)) H) fAbs := by
  intro G σ H p S ds xs Q rst rx h
  unfold fAbs at h
  split at h
  · rename_i i
    obtain ⟨x, rfl, r⟩ := rx.one
    rw [RV.int_iff] at r
    subst r
    refine ⟨i, rfl, h H p .refl rst _ (RV.int_iff.mpr ?_)⟩
    congr 1
    split <;> omega
  · exact h.elim
def fMax2 : Mf := fun ds S => match ds with
  | [.int i, .int j] => .ok (.int (max i j)) S
  | _ => .bad
theorem rc_max2 {K : PySem.W.Frag} : RfC K (fun xs H Q => ∃ i j, xs = [.int i, .int j] ∧ Q (.int (if j > i then j else i)) H) fMax2 := by
  intro G σ H p S ds xs Q rst rx h
  unfold fMax2 at h
  split at h
  · rename_i i j
    obtain ⟨x, y, rfl, r, r'⟩ := rx.two
    rw [RV.int_iff] at r r'
    subst r r'
    refine ⟨i, j, rfl, h H p .refl rst _ (RV.int_iff.mpr ?_)⟩
    congr 1
    split <;> omega
  · exact h.elim
def fMin2 : Mf := fun ds S => match ds with
  | [.int i, .int j] => .ok (.int (min i j)) S
  | _ => .bad
theorem rc_min2 {K : PySem.W.Frag} : RfC K (fun xs H Q => ∃ i j, xs = [.int i, .int j] ∧ Q (.int (if j < i then j else i)) H) fMin2 := by
  intro G σ H p S ds xs Q rst rx h
  unfold fMin2 at h
  split at h
  · rename_i i j
    obtain ⟨x, y, rfl, r, r'⟩ := rx.two
    rw [RV.int_iff] at r r'
    subst r r'
    refine ⟨i, j, rfl, h H p .refl rst _ (RV.int_iff.mpr ?_)⟩
    congr 1
    split <;> omega
  · exact h.elim
def fInt : Mf := fun ds S => match ds with
  | [.int i] => .ok (.int i) S
  | [.bl b] => .ok (.int (if b then 1 else 0)) S
  | _ => .bad
theorem rc_int {K : PySem.W.Frag} : RfC K (fun xs H Q => (∃ i, xs = [.int i] ∧ Q (.int i) H) ∨ ∃ k, xs = [.bl k] ∧ Q (.int (if k then 1 else 0)) H) fInt := by
  intro G σ H p S ds xs Q rst rx h
  unfold fInt at h
  split at h
  · obtain ⟨x, rfl, r⟩ := rx.one
    rw [RV.int_iff] at r
    subst r
    exact .inl ⟨_, rfl, h H p .refl rst _ (RV.int_iff.mpr rfl)⟩
  · obtain ⟨x, rfl, r⟩ := rx.one
    rw [RV.bl_iff] at r
    subst r
    exact .inr ⟨_, rfl, h H p .refl rst _ (RV.int_iff.mpr rfl)⟩
  · exact h.elim
def fLen : Mf := fun ds S => match ds with
  | [.tup l] => .ok (.int (l.length : Nat)) S
  | [.ref n] => match lstOf S n with
    | some l => .ok (.int (l.length : Nat)) S
    | none => .bad
  | [.str z] => if z.length ≤ sizeLine then .ok (.int (z.length : Nat)) S else .bad
  | _ => .bad
theorem rc_len {K : PySem.W.Frag} : RfC K (fun xs H Q => (∃ p ys, xs = [.ref p] ∧ (SqL K H p ys ∨ SqT K H p ys) ∧ Q (.int ys.length) H) ∨ ∃ z, xs = [.str z] ∧ z.length ≤ sizeLine ∧ Q (.int z.length) H) fLen := by
  intro G σ H p S ds xs Q rst rx h
  unfold fLen at h
  split at h
  · obtain ⟨x, rfl, r⟩ := rx.one
    obtain ⟨a, ys, rfl, h1, h2⟩ := RV.tup_iff.mp r
    refine .inl ⟨a, ys, rfl, .inr h1, h H p .refl rst _ (RV.int_iff.mpr ?_)⟩
    rw [h2.len]
  · obtain ⟨x, rfl, r⟩ := rx.one
    split at h
    · rename_i l hl
      obtain ⟨a, ys, rfl, h1, h2⟩ := rst.list hl r
      refine .inl ⟨a, ys, rfl, .inl h1, h H p .refl rst _ (RV.int_iff.mpr ?_)⟩
      rw [h2.len]
    · exact h.elim
  · obtain ⟨x, rfl, r⟩ := rx.one
    rw [RV.str_iff] at r
    subst r
    split at h
    · rename_i hz
      exact .inr ⟨_, rfl, hz, h H p .refl rst _ (RV.int_iff.mpr rfl)⟩
    · exact h.elim
  · exact h.elim
def fList : Mf := fun ds S => match ds with
  | [.tup l] => .ok (.ref S.length) (S ++ [.lst l])
  | [.ref n] => match lstOf S n with
    | some l => .ok (.ref S.length) (S ++ [.lst l])
    | none => .bad
  | _ => .bad
theorem rc_list {K : PySem.W.Frag} : RfC K (fun xs H Q => ∃ p ys, xs = [.ref p] ∧ (SqL K H p ys ∨ SqT K H p ys) ∧ ∀ l, H l = none → Q (.ref l) (upd H l (.lst ys))) fList := by
  intro G σ H p S ds xs Q rst rx h
  unfold fList at h
  split at h
  · obtain ⟨x, rfl, r⟩ := rx.one
    obtain ⟨a, ys, rfl, h1, h2⟩ := RV.tup_iff.mp r
    refine ⟨a, ys, rfl, .inr h1, fun q hq => ?_⟩
    obtain ⟨E, R, r⟩ := rst.newL hq h2
    exact h _ _ E R _ r
  · obtain ⟨x, rfl, r⟩ := rx.one
    split at h
    · rename_i l hl
      obtain ⟨a, ys, rfl, h1, h2⟩ := rst.list hl r
      refine ⟨a, ys, rfl, .inl h1, fun q hq => ?_⟩
      obtain ⟨E, R, r⟩ := rst.newL hq h2
      exact h _ _ E R _ r
    · exact h.elim
  · exact h.elim
def fTuple : Mf := fun ds S => match ds with
  | [.tup l] => .ok (.tup l) S
  | [.ref n] => match lstOf S n with
    | some l => .ok (.tup l) S
    | none => .bad
  | _ => .bad
theorem rc_tuple {K : PySem.W.Frag} : RfC K (fun xs H Q => ∃ p ys, xs = [.ref p] ∧ ((SqL K H p ys ∧ ∀ l, H l = none → Q (.ref l) (upd H l (.tup ys))) ∨ (SqT K H p ys ∧ Q (.ref p) H))) fTuple := by
  intro G σ H p S ds xs Q rst rx h
  unfold fTuple at h
  split at h
  · obtain ⟨x, rfl, r⟩ := rx.one
    obtain ⟨a, ys, rfl, h1, h2⟩ := RV.tup_iff.mp r
    exact ⟨a, ys, rfl, .inr ⟨h1, h H p .refl rst _ r⟩⟩
  · obtain ⟨x, rfl, r⟩ := rx.one
    split at h
    · rename_i l hl
      obtain ⟨a, ys, rfl, h1, h2⟩ := rst.list hl r
      refine ⟨a, ys, rfl, .inl ⟨h1, fun q hq => ?_⟩⟩
      obtain ⟨E, R, r⟩ := rst.newT hq h2
      exact h _ _ E R _ r
    · exact h.elim
  · exact h.elim
def boolsD : List D → Option (List Bool)
  | [] => some []
  | .bl b :: l => (boolsD l).map (b :: ·)
  | _ :: _ => none
theorem boolsD_eq : ∀ {l : List D} {bs : List Bool}, boolsD l = some bs → l = bs.map D.bl
  | [], _, h => by cases h; rfl
  | .bl b :: l, bs, h => by
    simp only [boolsD] at h
    cases e : boolsD l with
    | none => rw [e] at h; cases h
    | some r => rw [e] at h; cases h; rw [boolsD_eq e]; rfl
  | .non :: _, _, h => by cases h
  | .int _ :: _, _, h => by cases h
  | .str _ :: _, _, h => by cases h
  | .tup _ :: _, _, h => by cases h
  | .ref _ :: _, _, h => by cases h
def intsD : List D → Option (List Int)
  | [] => some []
  | .int b :: l => (intsD l).map (b :: ·)
  | _ :: _ => none
theorem intsD_eq : ∀ {l : List D} {bs : List Int}, intsD l = some bs → l = bs.map D.int
  | [], _, h => by cases h; rfl
  | .int b :: l, bs, h => by
    simp only [intsD] at h
    cases e : intsD l with
    | none => rw [e] at h; cases h
    | some r => rw [e] at h; cases h; rw [intsD_eq e]; rfl
  | .non :: _, _, h => by cases h
  | .bl _ :: _, _, h => by cases h
  | .str _ :: _, _, h => by cases h
  | .tup _ :: _, _, h => by cases h
  | .ref _ :: _, _, h => by cases h
def lst1 (S : Store) (ds : List D) : Option (List D) := match ds with
  | [.ref n] => lstOf S n
  | _ => none
theorem lst1_of {K : PySem.W.Frag} {H : Hp} {p : List Addr} {S : Store} {ds l : List D} {xs : List V} (R : RSt K H p S) (h : lst1 S ds = some l) (r : RVs K H p ds xs) : ∃ a ys, xs = [.ref a] ∧ SqL K H a ys ∧ RVs K H p l ys := by
  unfold lst1 at h
  split at h
  · obtain ⟨x, rfl, r2⟩ := r.one
    obtain ⟨a, ys, rfl, h1, h2⟩ := R.list h r2
    exact ⟨a, ys, rfl, h1, h2⟩
  · cases h
def fAll : Mf := fun ds S => match (lst1 S ds).bind boolsD with
  | some bs => .ok (.bl (bs.all id)) S
  | none => .bad
def fAny : Mf := fun ds S => match (lst1 S ds).bind boolsD with
  | some bs => .ok (.bl (bs.any id)) S
  | none => .bad
theorem bools_of {K : PySem.W.Frag} {H : Hp} {p : List Addr} {S : Store} {ds : List D} {bs : List Bool} {xs : List V} (R : RSt K H p S) (h : (lst1 S ds).bind boolsD = some bs) (r : RVs K H p ds xs) : ∃ a, xs = [.ref a] ∧ SqL K H a (bs.map V.bl) := by
  cases e : lst1 S ds with
  | none => rw [e] at h; cases h
  | some l =>
    rw [e] at h
    obtain ⟨a, ys, rfl, h1, h2⟩ := lst1_of R e r
    rw [boolsD_eq h] at h2
    rw [← h2.all_bl]
    exact ⟨a, rfl, h1⟩
theorem ints_of {K : PySem.W.Frag} {H : Hp} {p : List Addr} {S : Store} {ds : List D} {bs : List Int} {xs : List V} (R : RSt K H p S) (h : (lst1 S ds).bind intsD = some bs) (r : RVs K H p ds xs) : ∃ a, xs = [.ref a] ∧ SqL K H a (bs.map V.int) := by
  cases e : lst1 S ds with
  | none => rw [e] at h; cases h
  | some l =>
    rw [e] at h
    obtain ⟨a, ys, rfl, h1, h2⟩ := lst1_of R e r
    rw [intsD_eq h] at h2
    rw [← h2.all_int]
    exact ⟨a, rfl, h1⟩
theorem rc_all {K : PySem.W.Frag} : RfC K (rAll K) fAll := by
  intro G σ H p S ds xs Q rst rx h
  unfold fAll at h
  split at h
  · rename_i bs hb
    obtain ⟨a, rfl, h1⟩ := bools_of rst hb rx
    exact ⟨a, bs, rfl, h1, h H p .refl rst _ (RV.bl_iff.mpr rfl)⟩
  · exact h.elim
theorem rc_any {K : PySem.W.Frag} : RfC K (rAny K) fAny := by
  intro G σ H p S ds xs Q rst rx h
  unfold fAny at h
  split at h
  · rename_i bs hb
    obtain ⟨a, rfl, h1⟩ := bools_of rst hb rx
    exact ⟨a, bs, rfl, h1, h H p .refl rst _ (RV.bl_iff.mpr rfl)⟩
  · exact h.elim
def fSum : Mf := fun ds S => match (lst1 S ds).bind intsD with
  | some bs => .ok (.int bs.sum) S
  | none => .bad
theorem rc_sum {K : PySem.W.Frag} : RfC K (rSum K) fSum := by
  intro G σ H p S ds xs Q rst rx h
  unfold fSum at h
  split at h
  · rename_i bs hb
    obtain ⟨a, rfl, h1⟩ := ints_of rst hb rx
    exact ⟨a, bs, rfl, h1, h H p .refl rst _ (RV.int_iff.mpr rfl)⟩
  · exact h.elim
/-- the calls -/
theorem me_abs {p : Pos} (hm : X.mg "abs" = none) (ha : MA X G (e :: es) sr) (hg : Gl X "abs" := by rfl) (he : starEach (e :: es) X.env = (false, eval e X.env) :: starEach es X.env := by rfl) (hpl : (backTo pos (starEach es X.env)).any (·.1) = false := by rfl) :
    ME X G (.Call (.Name "abs" p) (e :: es) [] pos) (sCall fAbs sr) := me_callB call_abs rc_abs hm (by decide +kernel) ha hg (by decide) (by decide) he hpl
theorem me_max2 {p : Pos} (hm : X.mg "max" = none) (ha : MA X G (e :: es) sr) (hc : X.calm = true := by rfl) (hg : Gl X "max" := by rfl) (he : starEach (e :: es) X.env = (false, eval e X.env) :: starEach es X.env := by rfl) (hpl : (backTo pos (starEach es X.env)).any (·.1) = false := by rfl) :
    ME X G (.Call (.Name "max" p) (e :: es) [] pos) (sCall fMax2 sr) := me_callB (call_max2 hc) rc_max2 hm (by decide +kernel) ha hg (by decide) (by decide) he hpl
theorem me_min2 {p : Pos} (hm : X.mg "min" = none) (ha : MA X G (e :: es) sr) (hc : X.calm = true := by rfl) (hg : Gl X "min" := by rfl) (he : starEach (e :: es) X.env = (false, eval e X.env) :: starEach es X.env := by rfl) (hpl : (backTo pos (starEach es X.env)).any (·.1) = false := by rfl) :
    ME X G (.Call (.Name "min" p) (e :: es) [] pos) (sCall fMin2 sr) := me_callB (call_min2 hc) rc_min2 hm (by decide +kernel) ha hg (by decide) (by decide) he hpl
theorem me_len {p : Pos} (hm : X.mg "len" = none) (ha : MA X G (e :: es) sr) (hg : Gl X "len" := by rfl) (he : starEach (e :: es) X.env = (false, eval e X.env) :: starEach es X.env := by rfl) (hpl : (backTo pos (starEach es X.env)).any (·.1) = false := by rfl) :
    ME X G (.Call (.Name "len" p) (e :: es) [] pos) (sCall fLen sr) := me_callB (call_len_seq.or call_len_str) rc_len hm (by decide +kernel) ha hg (by decide) (by decide) he hpl
theorem me_all {p : Pos} (hm : X.mg "all" = none) (ha : MA X G (e :: es) sr) (hc : X.calm = true := by rfl) (hg : Gl X "all" := by rfl) (he : starEach (e :: es) X.env = (false, eval e X.env) :: starEach es X.env := by rfl) (hpl : (backTo pos (starEach es X.env)).any (·.1) = false := by rfl) :
    ME X G (.Call (.Name "all" p) (e :: es) [] pos) (sCall fAll sr) := me_callB (cr_all hc) rc_all hm (by decide +kernel) ha hg (by decide) (by decide) he hpl
theorem me_any {p : Pos} (hm : X.mg "any" = none) (ha : MA X G (e :: es) sr) (hc : X.calm = true := by rfl) (hg : Gl X "any" := by rfl) (he : starEach (e :: es) X.env = (false, eval e X.env) :: starEach es X.env := by rfl) (hpl : (backTo pos (starEach es X.env)).any (·.1) = false := by rfl) :
    ME X G (.Call (.Name "any" p) (e :: es) [] pos) (sCall fAny sr) := me_callB (cr_any hc) rc_any hm (by decide +kernel) ha hg (by decide) (by decide) he hpl
theorem me_sum {p : Pos} (hm : X.mg "sum" = none) (ha : MA X G (e :: es) sr) (hc : X.calm = true := by rfl) (hg : Gl X "sum" := by rfl) (he : starEach (e :: es) X.env = (false, eval e X.env) :: starEach es X.env := by rfl) (hpl : (backTo pos (starEach es X.env)).any (·.1) = false := by rfl) :
    ME X G (.Call (.Name "sum" p) (e :: es) [] pos) (sCall fSum sr) := me_callB (cr_sum hc) rc_sum hm (by decide +kernel) ha hg (by decide) (by decide) he hpl
theorem me_cint {p : Pos} (hm : X.mg "int" = none) (ha : MA X G (e :: es) sr) (hg : Gl X "int" := by rfl) (he : starEach (e :: es) X.env = (false, eval e X.env) :: starEach es X.env := by rfl) (hpl : (backTo pos (starEach es X.env)).any (·.1) = false := by rfl) :
    ME X G (.Call (.Name "int" p) (e :: es) [] pos) (sCall fInt sr) := me_callTy call_int1 rc_int hm (by decide +kernel) ha hg (by decide) (by decide) he hpl
theorem me_clist {p : Pos} (hm : X.mg "list" = none) (ha : MA X G (e :: es) sr) (hg : Gl X "list" := by rfl) (he : starEach (e :: es) X.env = (false, eval e X.env) :: starEach es X.env := by rfl) (hpl : (backTo pos (starEach es X.env)).any (·.1) = false := by rfl) :
    ME X G (.Call (.Name "list" p) (e :: es) [] pos) (sCall fList sr) := me_callTy call_list_of rc_list hm (by decide +kernel) ha hg (by decide) (by decide) he hpl
theorem me_ctuple {p : Pos} (hm : X.mg "tuple" = none) (ha : MA X G (e :: es) sr) (hg : Gl X "tuple" := by rfl) (he : starEach (e :: es) X.env = (false, eval e X.env) :: starEach es X.env := by rfl) (hpl : (backTo pos (starEach es X.env)).any (·.1) = false := by rfl) :
    ME X G (.Call (.Name "tuple" p) (e :: es) [] pos) (sCall fTuple sr) := me_callTy call_tuple_of rc_tuple hm (by decide +kernel) ha hg (by decide) (by decide) he hpl
/-! ### isinstance -/
inductive Ty where
  | non | bl | int | str | tup | lst | dct
def Ty.name : Ty → String
  | .non => "NoneType"
  | .bl => "bool"
  | .int => "int"
  | .str => "str"
  | .tup => "tuple"
  | .lst => "list"
  | .dct => "dict"
def Ty.isa : Ty → Ty → Bool
  | .bl, .bl => true
  | .bl, .int => true
  | .int, .int => true
  | .str, .str => true
  | .tup, .tup => true
  | .lst, .lst => true
  | .dct, .dct => true
  | .non, .non => true
  | _, _ => false
theorem Ty.kit (t c : Ty) : kitB t.name c.name = some (t.isa c) := by
  cases t <;> cases c <;> decide +kernel
def tyOf (S : Store) : D → Option Ty
  | .non => some .non
  | .bl _ => some .bl
  | .int _ => some .int
  | .str _ => some .str
  | .tup _ => some .tup
  | .ref n => match S[n]? with
    | some (.lst _) => some .lst
    | some (.fro _) => some .lst
    | some .dct => some .dct
    | _ => none
def fIsi (c : Ty) : D → Store → Res D := fun d S => match tyOf S d with
  | some t => .ok (.bl (t.isa c)) S
  | none => .bad
def fIsi2 (c c' : Ty) : D → Store → Res D := fun d S => match tyOf S d with
  | some t => .ok (.bl (t.isa c || t.isa c')) S
  | none => .bad
theorem tyOf_x {K : PySem.W.Frag} {H : Hp} {p : List Addr} {S : Store} {d : D} {v : V} {t : Ty} (R : RSt K H p S) (h : tyOf S d = some t) (r : RV K H p d v) : TyX K H v (.type t.name) := by
  cases d with
  | non => cases h; rw [RV.non_iff] at r; subst r; exact .base .non
  | bl b => cases h; rw [RV.bl_iff] at r; subst r; exact .base (.bl _)
  | int b => cases h; rw [RV.int_iff] at r; subst r; exact .base (.int _)
  | str b => cases h; rw [RV.str_iff] at r; subst r; exact .base (.str _)
  | tup l =>
    cases h
    obtain ⟨a, xs, rfl, h1, _⟩ := RV.tup_iff.mp r
    rcases h1 with (h1 | ⟨o, h1⟩) | ⟨o, its, n, h1, h2, _⟩
    · exact .base (.tup h1)
    · exact .fTuple h1
    · exact .kTuple h1 h2
  | ref n =>
    obtain ⟨a, rfl, e⟩ := RV.ref_iff.mp r
    unfold tyOf at h
    dsimp only at h
    split at h
    · rename_i l hl
      cases h
      obtain ⟨xs, h1, _⟩ := R.cell n _ a hl e
      exact .base (.lst h1)
    · rename_i l hl
      cases h
      obtain ⟨xs, h1 | ⟨o, its, k, h1, h2, _⟩, _⟩ := R.cell n _ a hl e
      · obtain ⟨o, h1⟩ := h1
        exact .base (.frz h1)
      · exact .kList h1 h2
    · rename_i hl
      cases h
      obtain ⟨xs, h1⟩ := R.cell n _ a hl e
      exact .base (.dK h1)
    · cases h
theorem me_isi (c : Ty) {x : Str} {p p2 : Pos} (hm : X.mg "isinstance" = none) (hm2 : X.mg x = none) (hx : bootBuiltins x = some (.type c.name)) (ha : ME X G a sa) (hg : Gl X "isinstance" := by rfl) (hg2 : Gl X x := by rfl) (hn : x ≠ "__name__" := by decide) (hdb : (x == ("__debug__" : Str)) = false := by decide)
    (h1 : starEach [a, .Name x p2] X.env = (false, eval a X.env) :: starEach [.Name x p2] X.env := by rfl) (h2 : starEach [.Name x p2] X.env = (false, eval (.Name x p2) X.env) :: starEach [] X.env := by rfl) (hpl : (backTo pos (starEach [.Name x p2] X.env)).any (·.1) = false := by rfl) :
    ME X G (.Call (.Name "isinstance" p) [a, .Name x p2] [] pos) (s1 (fIsi c) sa) := fun ok =>
  pe_imp (pe_callB call_isi hg hm (by decide +kernel) (pa_cons (ha ok) (pa_cons (pe_bltn (v := .ty c.name) hg2 hm2 hx rfl hn hdb) pa_nil h2) h1) (by decide) (by decide) h1 hpl) fun σ H Q h => by
    obtain ⟨p, env, S, rs, rst, g⟩ := h
    refine one rs rst g fun H1 p1 S1 d x _ rs1 r1 rx g1 => ?_
    unfold fIsi at g1
    split at g1
    · rename_i t ht
      exact ⟨x, .ty c.name, _, _, _, rfl, .ty _, tyOf_x r1 ht rx, kit_ty (Ty.kit t c), g1 H1 p1 .refl r1 _ (RV.bl_iff.mpr rfl)⟩
    · exact g1.elim
theorem me_isi2 (c c' : Ty) {x y : Str} {p p2 p3 p4 : Pos} {k} (hm : X.mg "isinstance" = none) (hm2 : X.mg x = none) (hx : bootBuiltins x = some (.type c.name)) (hm3 : X.mg y = none) (hy : bootBuiltins y = some (.type c'.name)) (ha : ME X G a sa) (hg : Gl X "isinstance" := by rfl) (hg2 : Gl X x := by rfl) (hn : x ≠ "__name__" := by decide) (hdb : (x == ("__debug__" : Str)) = false := by decide)
    (hg3 : Gl X y := by rfl) (hn3 : y ≠ "__name__" := by decide) (hdb3 : (y == ("__debug__" : Str)) = false := by decide)
    (h1 : starEach [a, .Tuple [.Name x p2, .Name y p3] k p4] X.env = (false, eval a X.env) :: starEach [.Tuple [.Name x p2, .Name y p3] k p4] X.env := by rfl) (h2 : starEach [.Tuple [.Name x p2, .Name y p3] k p4] X.env = (false, eval (.Tuple [.Name x p2, .Name y p3] k p4) X.env) :: starEach [] X.env := by rfl)
    (h3 : starEach [.Name x p2, .Name y p3] X.env = (false, eval (.Name x p2) X.env) :: starEach [.Name y p3] X.env := by rfl) (h4 : starEach [.Name y p3] X.env = (false, eval (.Name y p3) X.env) :: starEach [] X.env := by rfl)
    (hpl : (backTo pos (starEach [.Tuple [.Name x p2, .Name y p3] k p4] X.env)).any (·.1) = false := by rfl) :
    ME X G (.Call (.Name "isinstance" p) [a, .Tuple [.Name x p2, .Name y p3] k p4] [] pos) (s1 (fIsi2 c c') sa) := fun ok =>
  pe_imp (pe_callB call_isiT hg hm (by decide +kernel) (pa_cons (ha ok) (pa_cons (pe_tup (pa_cons (pe_bltn (v := .ty c.name) hg2 hm2 hx rfl hn hdb) (pa_cons (pe_bltn (v := .ty c'.name) hg3 hm3 hy rfl hn3 hdb3) pa_nil h4) h3)) pa_nil h2) h1) (by decide) (by decide) h1 hpl) fun σ H Q h => by
    obtain ⟨p, env, S, rs, rst, g⟩ := h
    refine one rs rst g fun H1 p1 S1 d x _ rs1 r1 rx g1 => ?_
    unfold fIsi2 at g1
    split at g1
    · rename_i t ht
      refine ⟨by show 2 ≤ sizeLine; decide, fun q hq => ?_⟩
      have s := same_new (o := HO.tup [.ty c.name, .ty c'.name]) hq
      refine ⟨x, q, _, _, _, _, rfl, upd_same, .cons (.ty _) (.cons (.ty _) .nil), tyOf_x (r1.same s) ht (RV.mono (ext_same s) _ _ rx),
        kitAny_cons (kit_ty (Ty.kit t c)) (r := t.isa c || t.isa c') (fun z => ?_) (fun z => by rw [z]; rfl), g1 _ _ (ext_same s) (r1.same s) _ (RV.bl_iff.mpr rfl)⟩
      rw [z, Bool.false_or]
      exact kitAny_cons (kit_ty (Ty.kit t c')) (fun z => by rw [z]; exact kitAny_nil) (fun z => z)
    · exact g1.elim
/-! ### slices -/
abbrev SO := Env → Store → Res (Option Int)
def sNoPart : SO := fun _ S => .ok none S
def sPart (s : SE) : SO := fun env S => (s env S).bind fun d S1 => match d with
  | .int i => .ok (some i) S1
  | _ => .bad
def cutL {α : Type} (xs : List α) (lo hi : Option Int) : List α := (xs.drop (HT.sIx xs.length 0 lo)).take (HT.sIx xs.length xs.length hi - HT.sIx xs.length 0 lo)
def fSl (d : D) (lo hi : Option Int) (S : Store) : Res D := match d with
  | .tup l => .ok (.tup (cutL l lo hi)) S
  | .ref n => match lstOf S n with
    | some l => .ok (.ref S.length) (S ++ [.lst (cutL l lo hi)])
    | none => .bad
  | .str z => if z.length ≤ sizeLine then .ok (.str (cutS z lo hi)) S else .bad
  | _ => .bad
def sSl (s : SE) (lo hi : SO) : SE := fun env S => (s env S).bind fun d S1 => (lo env S1).bind fun l S2 => (hi env S2).bind fun h S3 => fSl d l h S3
def TOo (K : PySem.W.Frag) (G : Gx) (s : SO) : TO := fun σ H Q => ∃ p env S, Rs K H p env σ ∧ RSt K H p S ∧ Good K G σ H p (s env S) fun o _ H' _ => Q o H'
def MO (X : Cx) (G : Gx) (e : Option Expr) (s : SO) : Prop := Cok X G → PO X e (TOo X.K G s)
theorem po_imp {o : Option Expr} {t t' : TO} (h : PO X o t) (hi : ∀ σ H Q, t' σ H Q → t σ H Q) : PO X o t' := ⟨fun pins s σ H Q I q => h.run pins s σ H Q I (hi _ _ _ q)⟩
theorem mo_none : MO X G none sNoPart := fun _ => po_imp po_none fun σ H Q h => by
  obtain ⟨p, env, S, rs, rst, g⟩ := h
  exact g H p .refl rst
theorem mo_some (ha : ME X G a sa) : MO X G (some a) (sPart sa) := fun ok => po_imp (po_some (ha ok)) fun σ H Q h => by
  obtain ⟨p, env, S, rs, rst, g⟩ := h
  refine one rs rst g fun H1 p1 S1 d x _ rs1 r1 rx g1 => ?_
  split at g1
  · rw [RV.int_iff] at rx
    exact ⟨_, rx, g1 H1 p1 .refl r1⟩
  · exact g1.elim
theorem TOo.bind {K : PySem.W.Frag} {A : Type} {so : SO} {f : Option Int → Store → Res A} {σ : L2.St} {H : Hp} {P : A → Store → Hp → List Addr → Prop} {R : Option Int → Hp → Prop} {p : List Addr} {env : Env} {S : Store} (rs : Rs K H p env σ) (rst : RSt K H p S) (g : Good K G σ H p ((so env S).bind f) P)
    (hr : ∀ (H1 : Hp) (p1 : List Addr) (S1 : Store) (o : Option Int), Ext K H H1 p p1 → Rs K H1 p1 env σ → RSt K H1 p1 S1 → Good K G σ H1 p1 (f o S1) P → R o H1) : TOo K G so σ H R :=
  ⟨p, env, S, rs, rst, g.bind.imp fun o S1 H1 p1 e1 r1 g1 => hr H1 p1 S1 o e1 (rs.mono e1) r1 g1⟩
theorem cutV_whole {α : Type} {xs : List α} {lo hi : Option Int} (h : HT.sIx xs.length 0 lo = 0 ∧ HT.sIx xs.length xs.length hi = xs.length) : cutL xs lo hi = xs := by
  unfold cutL
  rw [h.1, h.2]
  simp
theorem RVs.cut {K : PySem.W.Frag} {H : Hp} {p : List Addr} {l : List D} {xs : List V} (h : RVs K H p l xs) (lo hi : Option Int) : RVs K H p (cutL l lo hi) (cutV xs lo hi) := by
  unfold cutL cutV
  rw [h.len]
  exact (h.drop _).take _
theorem me_slice {lo hi : Option Expr} {so1 so2 : SO} {p2 : Pos} (ha : ME X G a sa) (hl : MO X G lo so1) (hh : MO X G hi so2) : ME X G (.Subscript a (.Slice lo hi none p2) pos) (sSl sa so1 so2) := fun ok =>
  pe_imp (pe_slice (sl_tupA.or (sl_list.or sl_str)) (ha ok) (hl ok) (hh ok)) fun σ H Q h => by
    obtain ⟨p, env, S, rs, rst, g⟩ := h
    refine one rs rst g fun H1 p1 S1 d x _ rs1 r1 rx g1 => ?_
    refine TOo.bind rs1 r1 g1 fun H2 p2 S2 o1 e2 rs2 r2 g2 => ?_
    refine TOo.bind rs2 r2 g2 fun H3 p3 S3 o2 e3 rs3 r3 g3 => ?_
    have rx3 := RV.mono (e2.trans e3) _ _ rx
    unfold fSl at g3
    split at g3
    · rename_i l
      obtain ⟨a, xs, rfl, h1, h2⟩ := RV.tup_iff.mp rx3
      refine .inl ⟨a, xs, rfl, h1, fun hw => ?_, fun _ q hq => ?_⟩
      · rw [← h2.len] at hw
        rw [cutV_whole hw] at g3
        exact g3 H3 p3 .refl r3 _ rx3
      · obtain ⟨E, R, r⟩ := r3.newT hq (h2.cut o1 o2)
        exact g3 _ _ E R _ r
    · split at g3
      · rename_i l hl
        obtain ⟨a, xs, rfl, h1, h2⟩ := r3.list hl rx3
        refine .inr (.inl ⟨a, xs, rfl, h1, fun q hq => ?_⟩)
        obtain ⟨E, R, r⟩ := r3.newL hq (h2.cut o1 o2)
        exact g3 _ _ E R _ r
      · exact g3.elim
    · split at g3
      · rename_i hz
        rw [RV.str_iff] at rx3
        exact .inr (.inr ⟨_, rx3, hz, g3 H3 p3 .refl r3 _ (RV.str_iff.mpr rfl)⟩)
      · exact g3.elim
    · exact g3.elim
end
end Rg
/-! RgBe: methods of lists; statements. -/
namespace Rg
open PySem PySem.Spec PyProof.Rows L2
section
variable {X : Cx} {G : Gx} {e a b c o : Expr} {pos : Pos} {sa sb so : SE} {st su : ST} {es rest : List Expr} {sr : SA}
def isLst (S : Store) : D → Bool
  | .ref n => (lstOf S n).isSome
  | _ => false
def sMethL (f : D → List D → Store → Res D) (so : SE) (sr : SA) : SE := fun env S => (so env S).bind fun d S1 => if isLst S1 d = true then (sr env S1).bind fun ds S2 => f d ds S2 else .bad
def RfM (K : PySem.W.Frag) (r : V → List V → Hp → VK → Prop) (f : D → List D → Store → Res D) : Prop := ∀ (G : Gx) (σ : L2.St) (H : Hp) (p : List Addr) (S : Store) (d : D) (x : V) (ds : List D) (xs : List V) (Q : VK), RSt K H p S → RV K H p d x → RVs K H p ds xs → Good K G σ H p (f d ds S) (PV K Q) → r x xs H Q
theorem isLst_ty {K : PySem.W.Frag} {H : Hp} {p : List Addr} {S : Store} {d : D} {x : V} (R : RSt K H p S) (h : isLst S d = true) (r : RV K H p d x) : tyV K "list" x H := by
  cases d with
  | ref n =>
    have h : (lstOf S n).isSome = true := h
    obtain ⟨l, hl⟩ := Option.isSome_iff_exists.mp h
    obtain ⟨a, xs, rfl, h1, h2⟩ := R.list hl r
    exact .inl ⟨rfl, xs, h1⟩
  | _ => cases h
theorem me_bmL {name : Str} {id : String} {apos : Pos} {r : V → List V → Hp → VK → Prop} {f : D → List D → Store → Res D} (slot : Slot "list" name id) (hty : typeOf (.builtin id) = pure (.type "method_descriptor")) (hm : MtR X id r) (hf : RfM X.K r f) (ho : ME X G o so) (ha : MA X G (e :: es) sr)
    (hbase : attributeBase o name X.env (eval o X.env) = eval o X.env)
    (hfew : ((backTo pos (starEach (e :: es) X.env)).all (fun x => !x.1) && (backToKw pos (keywordEach [] X.env)).all (fun x => x.1.isSome)
      && decide ((e :: es).length + ([] : List Keyword).length + (if ([] : List Keyword).isEmpty then 0 else 1) < 30)) = true)
    (hline : (apos.endLine == pos.line) = true) (hs : starEach (e :: es) X.env = (false, eval e X.env) :: starEach es X.env) (hplain : (backTo pos (starEach es X.env)).any (·.1) = false) :
    ME X G (.Call (.Attribute o name apos) (e :: es) [] pos) (sMethL f so sr) := fun ok =>
  pe_imp (pe_bm PySem.F.plainAttrs_list slot hty hm (ho ok) (ha ok) hbase hfew hline hs hplain) fun σ H Q h => by
    obtain ⟨p, env, S, rs, rst, g⟩ := h
    refine one rs rst g fun H1 p1 S1 d x _ rs1 r1 rx g1 => ?_
    split at g1
    · rename_i hl
      refine ⟨isLst_ty r1 hl rx, TAo.bind rs1 r1 g1 fun H2 p2 S2 ds xs e2 rs2 r2 rxs g2 => ?_⟩
      exact hf G σ H2 p2 S2 d x ds xs Q r2 (RV.mono e2 _ _ rx) rxs g2
    · exact g1.elim
theorem me_bmL0 {name : Str} {id : String} {apos : Pos} {r : V → List V → Hp → VK → Prop} {f : D → List D → Store → Res D} (slot : Slot "list" name id) (hty : typeOf (.builtin id) = pure (.type "method_descriptor")) (hm : MtR X id r) (hf : RfM X.K r f) (ho : ME X G o so)
    (hbase : attributeBase o name X.env (eval o X.env) = eval o X.env) (hline : (apos.endLine == pos.line) = true) :
    ME X G (.Call (.Attribute o name apos) [] [] pos) (sMethL f so sNil) := fun ok =>
  pe_imp (pe_bm0 PySem.F.plainAttrs_list slot hty hm (ho ok) hbase hline) fun σ H Q h => by
    obtain ⟨p, env, S, rs, rst, g⟩ := h
    refine one rs rst g fun H1 p1 S1 d x _ rs1 r1 rx g1 => ?_
    split at g1
    · rename_i hl
      exact ⟨isLst_ty r1 hl rx, hf G σ H1 p1 S1 d x [] [] Q r1 rx RVs.nil g1⟩
    · exact g1.elim
def fAppend : D → List D → Store → Res D := fun d ds S => match d, ds with
  | .ref n, [y] => match S[n]? with
    | some (.lst l) => if l.length < sizeLine then .ok .non (S.set n (.lst (l ++ [y]))) else .bad
    | _ => .bad
  | _, _ => .bad
theorem rm_append {K : PySem.W.Frag} : RfM K rAppend fAppend := by
  intro G σ H p S d x ds xs Q rst rx rxs h
  unfold fAppend at h
  split at h
  · rename_i n y
    split at h
    · rename_i l hl
      split at h
      · rename_i hz
        obtain ⟨a, rfl, e⟩ := RV.ref_iff.mp rx
        obtain ⟨v, rfl, rv⟩ := rxs.one
        obtain ⟨zs, h1, h2⟩ := rst.cell n _ a hl e
        obtain ⟨E, R⟩ := rst.setL hl e (h2.app (RVs.cons rv RVs.nil))
        exact ⟨a, zs, v, rfl, rfl, h1, by rw [← h2.len]; exact hz, h _ _ E R _ (RV.non_iff.mpr rfl)⟩
      · exact h.elim
    · exact h.elim
  · exact h.elim
def fExtend : D → List D → Store → Res D := fun d ds S => match d, ds with
  | .ref n, [.ref m] => match S[n]?, S[m]? with
    | some (.lst l), some (.lst z) => if l.length + z.length ≤ sizeLine then .ok .non (S.set n (.lst (l ++ z))) else .bad
    | _, _ => .bad
  | _, _ => .bad
theorem rm_extend {K : PySem.W.Frag} : RfM K rExtend fExtend := by
  intro G σ H p S d x ds xs Q rst rx rxs h
  unfold fExtend at h
  split at h
  · rename_i n m
    split at h
    · rename_i l z hl hz'
      split at h
      · rename_i hz
        obtain ⟨a, rfl, e⟩ := RV.ref_iff.mp rx
        obtain ⟨v, rfl, rv⟩ := rxs.one
        obtain ⟨b, rfl, e2⟩ := RV.ref_iff.mp rv
        obtain ⟨ys, h1, h2⟩ := rst.cell n _ a hl e
        obtain ⟨zs, h3, h4⟩ := rst.cell m _ b hz' e2
        obtain ⟨E, R⟩ := rst.setL hl e (h2.app h4)
        exact ⟨a, b, ys, zs, rfl, rfl, h1, h3, by rw [← h2.len, ← h4.len]; exact hz, h _ _ E R _ (RV.non_iff.mpr rfl)⟩
      · exact h.elim
    · exact h.elim
  · exact h.elim
def fInsert : D → List D → Store → Res D := fun d ds S => match d, ds with
  | .ref n, [.int i, y] => match S[n]? with
    | some (.lst l) => if l.length < sizeLine ∧ 0 ≤ i ∧ i < 2 ^ 63 then .ok .non (S.set n (.lst (l.take i.toNat ++ [y] ++ l.drop i.toNat))) else .bad
    | _ => .bad
  | _, _ => .bad
theorem rm_insert {K : PySem.W.Frag} : RfM K (fun x vs H Q => ∃ (l : Addr) (xs : List V) (i : Int) (y : V), x = .ref l ∧ vs = [.int i, y] ∧ H l = some (.lst xs) ∧ xs.length < sizeLine ∧ 0 ≤ i ∧ i < 2 ^ 63 ∧
    Q .non (upd H l (.lst (xs.take i.toNat ++ [y] ++ xs.drop i.toNat)))) fInsert := by
  intro G σ H p S d x ds xs Q rst rx rxs h
  unfold fInsert at h
  split at h
  · rename_i n i y
    split at h
    · rename_i l hl
      split at h
      · rename_i hz
        obtain ⟨a, rfl, e⟩ := RV.ref_iff.mp rx
        obtain ⟨v, w, rfl, rv, rw'⟩ := rxs.two
        rw [RV.int_iff] at rv
        subst rv
        obtain ⟨zs, h1, h2⟩ := rst.cell n _ a hl e
        obtain ⟨E, R⟩ := rst.setL hl e (((h2.take i.toNat).app (RVs.cons rw' RVs.nil)).app (h2.drop i.toNat))
        exact ⟨a, zs, i, w, rfl, rfl, h1, by rw [← h2.len]; exact hz.1, hz.2.1, hz.2.2, h _ _ E R _ (RV.non_iff.mpr rfl)⟩
      · exact h.elim
    · exact h.elim
  · exact h.elim
def fPop : D → List D → Store → Res D := fun d ds S => match d, ds with
  | .ref n, [] => match S[n]? with
    | some (.lst l) => match l[l.length - 1]? with
      | some y => .ok y (S.set n (.lst l.dropLast))
      | none => .bad
    | _ => .bad
  | _, _ => .bad
theorem RVs.dropLast {K : PySem.W.Frag} {H : Hp} {p : List Addr} {l : List D} {xs : List V} (h : RVs K H p l xs) : RVs K H p l.dropLast xs.dropLast := by
  rw [List.dropLast_eq_take, List.dropLast_eq_take, ← h.len]
  exact h.take _
theorem rm_pop {K : PySem.W.Frag} : RfM K rPop fPop := by
  intro G σ H p S d x ds xs Q rst rx rxs h
  unfold fPop at h
  split at h
  · rename_i n
    split at h
    · rename_i l hl
      split at h
      · rename_i y hy
        obtain ⟨a, rfl, e⟩ := RV.ref_iff.mp rx
        have q := RVs.nil_iff.mp rxs
        subst q
        obtain ⟨zs, h1, h2⟩ := rst.cell n _ a hl e
        obtain ⟨v, e1, e2⟩ := h2.get hy
        obtain ⟨E, R⟩ := rst.setL hl e h2.dropLast
        exact ⟨a, zs, v, rfl, rfl, h1, by rw [← h2.len]; exact e1, h _ _ E R _ (RV.mono E _ _ e2)⟩
      · exact h.elim
    · exact h.elim
  · exact h.elim
def fReverse : D → List D → Store → Res D := fun d ds S => match d, ds with
  | .ref n, [] => match S[n]? with
    | some (.lst l) => .ok .non (S.set n (.lst l.reverse))
    | _ => .bad
  | _, _ => .bad
theorem rm_reverse {K : PySem.W.Frag} : RfM K rReverse fReverse := by
  intro G σ H p S d x ds xs Q rst rx rxs h
  unfold fReverse at h
  split at h
  · rename_i n
    split at h
    · rename_i l hl
      obtain ⟨a, rfl, e⟩ := RV.ref_iff.mp rx
      have q := RVs.nil_iff.mp rxs
      subst q
      obtain ⟨zs, h1, h2⟩ := rst.cell n _ a hl e
      obtain ⟨E, R⟩ := rst.setL hl e h2.rev
      exact ⟨a, zs, rfl, rfl, h1, h _ _ E R _ (RV.non_iff.mpr rfl)⟩
    · exact h.elim
  · exact h.elim
theorem me_append {apos : Pos} (ho : ME X G o so) (ha : MA X G (e :: es) sr)
    (hbase : attributeBase o "append" X.env (eval o X.env) = eval o X.env := by rfl)
    (hfew : ((backTo pos (starEach (e :: es) X.env)).all (fun x => !x.1) && (backToKw pos (keywordEach [] X.env)).all (fun x => x.1.isSome)
      && decide ((e :: es).length + ([] : List Keyword).length + (if ([] : List Keyword).isEmpty then 0 else 1) < 30)) = true := by rfl)
    (hline : (apos.endLine == pos.line) = true := by rfl) (hs : starEach (e :: es) X.env = (false, eval e X.env) :: starEach es X.env := by rfl) (hplain : (backTo pos (starEach es X.env)).any (·.1) = false := by rfl) :
    ME X G (.Call (.Attribute o "append" apos) (e :: es) [] pos) (sMethL fAppend so sr) := me_bmL PySem.F.slot_list_append PySem.F.type_list_append mt_append rm_append ho ha hbase hfew hline hs hplain
theorem me_extend {apos : Pos} (ho : ME X G o so) (ha : MA X G (e :: es) sr)
    (hbase : attributeBase o "extend" X.env (eval o X.env) = eval o X.env := by rfl)
    (hfew : ((backTo pos (starEach (e :: es) X.env)).all (fun x => !x.1) && (backToKw pos (keywordEach [] X.env)).all (fun x => x.1.isSome)
      && decide ((e :: es).length + ([] : List Keyword).length + (if ([] : List Keyword).isEmpty then 0 else 1) < 30)) = true := by rfl)
    (hline : (apos.endLine == pos.line) = true := by rfl) (hs : starEach (e :: es) X.env = (false, eval e X.env) :: starEach es X.env := by rfl) (hplain : (backTo pos (starEach es X.env)).any (·.1) = false := by rfl) :
    ME X G (.Call (.Attribute o "extend" apos) (e :: es) [] pos) (sMethL fExtend so sr) := me_bmL PySem.F.slot_list_extend PySem.F.type_list_extend mt_extend rm_extend ho ha hbase hfew hline hs hplain
theorem me_insert {apos : Pos} (ho : ME X G o so) (ha : MA X G (e :: es) sr)
    (hbase : attributeBase o "insert" X.env (eval o X.env) = eval o X.env := by rfl)
    (hfew : ((backTo pos (starEach (e :: es) X.env)).all (fun x => !x.1) && (backToKw pos (keywordEach [] X.env)).all (fun x => x.1.isSome)
      && decide ((e :: es).length + ([] : List Keyword).length + (if ([] : List Keyword).isEmpty then 0 else 1) < 30)) = true := by rfl)
    (hline : (apos.endLine == pos.line) = true := by rfl) (hs : starEach (e :: es) X.env = (false, eval e X.env) :: starEach es X.env := by rfl) (hplain : (backTo pos (starEach es X.env)).any (·.1) = false := by rfl) :
    ME X G (.Call (.Attribute o "insert" apos) (e :: es) [] pos) (sMethL fInsert so sr) := me_bmL PySem.F.slot_list_insert PySem.F.type_list_insert mt_insert rm_insert ho ha hbase hfew hline hs hplain
theorem me_pop {apos : Pos} (ho : ME X G o so) (hbase : attributeBase o "pop" X.env (eval o X.env) = eval o X.env := by rfl) (hline : (apos.endLine == pos.line) = true := by rfl) :
    ME X G (.Call (.Attribute o "pop" apos) [] [] pos) (sMethL fPop so sNil) := me_bmL0 PySem.F.slot_list_pop PySem.F.type_list_pop mt_pop rm_pop ho hbase hline
theorem me_reverse {apos : Pos} (ho : ME X G o so) (hbase : attributeBase o "reverse" X.env (eval o X.env) = eval o X.env := by rfl) (hline : (apos.endLine == pos.line) = true := by rfl) :
    ME X G (.Call (.Attribute o "reverse" apos) [] [] pos) (sMethL fReverse so sNil) := me_bmL0 PySem.F.slot_list_reverse PySem.F.type_list_reverse mt_reverse rm_reverse ho hbase hline
/-- n.bit_length() -/
def fBits : D → Store → Res D := fun d S => match d with
  | .int i => .ok (.int (Builtin.Int.intBits i : Nat)) S
  | _ => .bad
theorem me_bits {apos : Pos} (ho : ME X G o so) (hbase : attributeBase o "bit_length" X.env (eval o X.env) = eval o X.env := by rfl) (hline : (apos.endLine == pos.line) = true := by rfl) :
    ME X G (.Call (.Attribute o "bit_length" apos) [] [] pos) (s1 fBits so) := fun ok =>
  pe_imp (pe_bits (ho ok) hbase hline) fun σ H Q h => by
    obtain ⟨p, env, S, rs, rst, g⟩ := h
    refine one rs rst g fun H1 p1 S1 d x _ rs1 r1 rx g1 => ?_
    cases d with
    | int i =>
      rw [RV.int_iff] at rx
      exact ⟨i, rx, g1 H1 p1 .refl r1 _ (RV.int_iff.mpr rfl)⟩
    | _ => exact g1.elim
/-- xs[::-1] -/
def fRevL : D → Store → Res D := fun d S => match d with
  | .ref n => match lstOf S n with
    | some l => .ok (.ref S.length) (S ++ [.lst l.reverse])
    | none => .bad
  | _ => .bad
theorem me_revL {k : Nat} {p1 p2 p3 : Pos} (ha : ME X G a sa) : ME X G (.Subscript a (.Slice none none (some (.UnaryOp .USub (.Constant (.int 1) k p1) p2)) p3) pos) (s1 fRevL sa) := fun ok =>
  pe_imp (pe_revL (ha ok)) fun σ H Q h => by
    obtain ⟨p, env, S, rs, rst, g⟩ := h
    refine one rs rst g fun H1 p1 S1 d x _ rs1 r1 rx g1 => ?_
    unfold fRevL at g1
    split at g1
    · split at g1
      · rename_i l hl
        obtain ⟨a, xs, rfl, h1, h2⟩ := r1.list hl rx
        refine ⟨a, xs, rfl, h1, fun q hq => ?_⟩
        obtain ⟨E, R, r⟩ := r1.newL hq h2.rev
        exact g1 _ _ E R _ r
      · exact g1.elim
    · exact g1.elim
/-- in, not in: data among the data of a list -/
def fIn (neg : Bool) : D → D → Store → Res D := fun d e S => match toP S 60 d, toP S 60 e with
  | some x, some (.list ds) => .ok (.bl (if neg then !ds.any fun z => PyData.eqv z x else ds.any fun z => PyData.eqv z x)) S
  | _, _ => .bad
theorem rf_in {K : PySem.W.Frag} : RfO K (rInD K) (fIn false) := by
  intro G σ H p S d e x y Q rst rx ry h
  unfold fIn at h
  split at h
  · rename_i a ds h1 h2
    exact ⟨a, ds, toP_dp rst 60 d a x h1 rx, toP_dp rst 60 e _ y h2 ry, toP_shaped h1, toP_shaped h2, h H p .refl rst _ (RV.bl_iff.mpr rfl)⟩
  · exact h.elim
theorem rf_notin {K : PySem.W.Frag} : RfO K (rNotInD K) (fIn true) := by
  intro G σ H p S d e x y Q rst rx ry h
  unfold fIn at h
  split at h
  · rename_i a ds h1 h2
    exact ⟨a, ds, toP_dp rst 60 d a x h1 rx, toP_dp rst 60 e _ y h2 ry, toP_shaped h1, toP_shaped h2, h H p .refl rst _ (RV.bl_iff.mpr rfl)⟩
  · exact h.elim
theorem room65 {k : Nat} {A : Around} (hr : Room (k + 1) A) : A.units + 65 < cLine := by
  have := hr.un
  omega
theorem me_in {k : Nat} (hr : Room (k + 1) X.A) (ha : ME X G a sa) (hb : ME X G b sb) (hm : behindInMarks .In b = false := by rfl) : ME X G (.Compare a [.In] [b] pos) (s2 (fIn false) sa sb) := me_cmp (op_inD (room65 hr)) rf_in ha hb hm
theorem me_notin {k : Nat} (hr : Room (k + 1) X.A) (ha : ME X G a sa) (hb : ME X G b sb) (hm : behindInMarks .NotIn b = false := by rfl) : ME X G (.Compare a [.NotIn] [b] pos) (s2 (fIn true) sa sb) := me_cmp (op_notInD (room65 hr)) rf_notin ha hb hm
theorem mt_in {k : Nat} (hr : Room (k + 1) X.A) (ha : ME X G a sa) (hb : ME X G b sb) (hm : behindInMarks .In b = false := by rfl) : MT X G (.Compare a [.In] [b] pos) (sT (s2 (fIn false) sa sb)) := mt_cmp (op_inD (room65 hr)) rf_in ha hb hm
theorem mt_notin {k : Nat} (hr : Room (k + 1) X.A) (ha : ME X G a sa) (hb : ME X G b sb) (hm : behindInMarks .NotIn b = false := by rfl) : MT X G (.Compare a [.NotIn] [b] pos) (sT (s2 (fIn true) sa sb)) := mt_cmp (op_notInD (room65 hr)) rf_notin ha hb hm
end
/-! ### statements -/
inductive ResS where
  | nx (e : Env) (S : Store) | rt (d : D) (S : Store) | bk (e : Env) (S : Store) | ct (e : Env) (S : Store) | exc (c : Str) (e : Env) (S : Store) | bad
abbrev SS := Env → Store → ResS
def GoodS (K : PySem.W.Frag) (G : Gx) (H : Hp) (p : List Addr) (r : ResS) (E : Ends) : Prop := match r with
  | .nx e S' => ∀ σ' H' p', Ext K H H' p p' → Rs K H' p' e σ' → RSt K H' p' S' → E.nx σ' H'
  | .bk e S' => ∀ σ' H' p', Ext K H H' p p' → Rs K H' p' e σ' → RSt K H' p' S' → E.bk σ' H'
  | .ct e S' => ∀ σ' H' p', Ext K H H' p p' → Rs K H' p' e σ' → RSt K H' p' S' → E.ct σ' H'
  | .rt d S' => ∀ v H' p', Ext K H H' p p' → RSt K H' p' S' → RV K H' p' d v → E.rt v H'
  | .exc c e S' => ∀ σ' H' p', Ext K H H' p p' → Rs K H' p' e σ' → RSt K H' p' S' → G.W (G.xv c) none σ' H'
  | .bad => False
def TSo (K : PySem.W.Frag) (G : Gx) (s : SS) : TS := fun E σ H => ∃ p env S, Rs K H p env σ ∧ RSt K H p S ∧ GoodS K G H p (s env S) E
def MS (X : Cx) (G : Gx) (st : Stmt) (s : SS) : Prop := Cok X G → PS X st (TSo X.K G s)
def MSs (X : Cx) (G : Gx) (st : List Stmt) (s : SS) : Prop := Cok X G → PSs X st (TSo X.K G s)
theorem ps_imp {X : Cx} {st : Stmt} {t t' : TS} (h : PS X st t) (hi : ∀ E σ H, t' E σ H → t E σ H) : PS X st t' := ⟨fun pins s σ H E I q => h.run pins s σ H E I (hi _ _ _ q)⟩
theorem pss_imp {X : Cx} {st : List Stmt} {t t' : TS} (h : PSs X st t) (hi : ∀ E σ H, t' E σ H → t E σ H) : PSs X st t' := ⟨fun pins s σ H E I q => h.run pins s σ H E I (hi _ _ _ q)⟩
theorem GoodS.at {K : PySem.W.Frag} {G : Gx} {H H1 : Hp} {p p1 : List Addr} {r : ResS} {E : Ends} (e : Ext K H H1 p p1) (h : GoodS K G H p r E) : GoodS K G H1 p1 r E := by
  cases r with
  | nx a S => exact fun σ' H' p' x => h σ' H' p' (e.trans x)
  | bk a S => exact fun σ' H' p' x => h σ' H' p' (e.trans x)
  | ct a S => exact fun σ' H' p' x => h σ' H' p' (e.trans x)
  | rt a S => exact fun σ' H' p' x => h σ' H' p' (e.trans x)
  | exc c a S => exact fun σ' H' p' x => h σ' H' p' (e.trans x)
  | bad => exact h
/-- a result of an expression handed on to a statement -/
def Res.andS {A : Type} (r : Res A) (env : Env) (f : A → Store → ResS) : ResS := match r with
  | .ok a S => f a S
  | .exc c S => .exc c env S
  | .bad => .bad
@[simp] theorem andS_ok {A : Type} (a : A) (S : Store) (env : Env) (f : A → Store → ResS) : (Res.ok a S).andS env f = f a S := rfl
@[simp] theorem andS_exc {A : Type} (c : Str) (S : Store) (env : Env) (f : A → Store → ResS) : (Res.exc c S).andS env f = .exc c env S := rfl
@[simp] theorem andS_bad {A : Type} (env : Env) (f : A → Store → ResS) : (Res.bad).andS env f = .bad := rfl
theorem GoodS.and {K : PySem.W.Frag} {G : Gx} {A : Type} {r : Res A} {env : Env} {f : A → Store → ResS} {σ : L2.St} {H : Hp} {p : List Addr} {E : Ends} (rs : Rs K H p env σ) (h : GoodS K G H p (r.andS env f) E) :
    Good K G σ H p r fun a S1 H1 p1 => Rs K H1 p1 env σ ∧ RSt K H1 p1 S1 ∧ GoodS K G H1 p1 (f a S1) E := by
  cases r with
  | ok a S => exact fun H' p' x q => ⟨rs.mono x, q, h.at x⟩
  | exc c S => exact fun H' p' x q => h σ H' p' x (rs.mono x) q
  | bad => exact h
section
variable {X : Cx} {G : Gx} {e a b c o : Expr} {pos : Pos} {sa sb so : SE} {st su : ST} {es : List Expr} {sr : SA} {s t : SS} {x : Stmt} {rest xs ys : List Stmt}
def sSkip : SS := fun env S => .nx env S
def sSeq (s t : SS) : SS := fun env S => match s env S with
  | .nx e S1 => t e S1
  | r => r
theorem mss_nil : MSs X G [] sSkip := fun _ => pss_imp pss_nil fun E σ H h => by
  obtain ⟨p, env, S, rs, rst, g⟩ := h
  exact g σ H p .refl rs rst
theorem seq_of {K : PySem.W.Frag} {E : Ends} {σ : L2.St} {H : Hp} (h : TSo K G (sSeq s t) E σ H) : TSo K G s { E with nx := TSo K G t E } σ H := by
  obtain ⟨p, env, S, rs, rst, g⟩ := h
  refine ⟨p, env, S, rs, rst, ?_⟩
  unfold sSeq at g
  cases hs : s env S with
  | nx e1 S1 =>
    rw [hs] at g
    exact fun σ' H' p' x rs' rst' => ⟨p', e1, S1, rs', rst', g.at x⟩
  | bk e1 S1 => rw [hs] at g; exact g
  | ct e1 S1 => rw [hs] at g; exact g
  | rt e1 S1 => rw [hs] at g; exact g
  | exc c e1 S1 => rw [hs] at g; exact g
  | bad => rw [hs] at g; exact g
theorem mss_cons (h1 : MS X G x s) (h2 : MSs X G rest t) : MSs X G (x :: rest) (sSeq s t) := fun ok => pss_imp (pss_cons (h1 ok) (h2 ok)) fun E σ H h => seq_of h
theorem mss_one (h1 : MS X G x s) : MSs X G [x] s := fun ok => pss_one (h1 ok)
theorem ms_pass : MS X G (.Pass pos) sSkip := fun _ => ps_imp ps_pass fun E σ H h => by
  obtain ⟨p, env, S, rs, rst, g⟩ := h
  exact g σ H p .refl rs rst
theorem ms_doc {x : Str} {j pos'} : MS X G (.Expr (.Constant (.str x) j pos) pos') sSkip := fun _ => ps_imp ps_doc fun E σ H h => by
  obtain ⟨p, env, S, rs, rst, g⟩ := h
  exact g σ H p .refl rs rst
def sBreak : SS := fun env S => .bk env S
def sCont : SS := fun env S => .ct env S
theorem ms_break : MS X G (.Break pos) sBreak := fun _ => ps_imp ps_break fun E σ H h => by
  obtain ⟨p, env, S, rs, rst, g⟩ := h
  exact g σ H p .refl rs rst
theorem ms_continue : MS X G (.Continue pos) sCont := fun _ => ps_imp ps_continue fun E σ H h => by
  obtain ⟨p, env, S, rs, rst, g⟩ := h
  exact g σ H p .refl rs rst
def sNever : SS := fun _ _ => .bad
theorem ms_never : MS X G x sNever := fun _ => ps_imp ps_never fun E σ H h => by
  obtain ⟨p, env, S, rs, rst, g⟩ := h
  exact g.elim
theorem mss_never : MSs X G xs sNever := fun _ => pss_imp pss_never fun E σ H h => by
  obtain ⟨p, env, S, rs, rst, g⟩ := h
  exact g.elim
def sDrop (s : SE) : SS := fun env S => (s env S).andS env fun _ S1 => .nx env S1
theorem ms_expr (he : ME X G e sa) (hs : swapsWith e none pos.line X.env = pure false := by rfl) : MS X G (.Expr e pos) (sDrop sa) := fun ok => ps_imp (ps_expr (he ok) hs) fun E σ H h => by
  obtain ⟨p, env, S, rs, rst, g⟩ := h
  exact ⟨p, env, S, rs, rst, (g.and rs).imp fun d S1 H1 p1 e1 r1 g1 v rv => g1.2.2 σ H1 p1 .refl g1.1 g1.2.1⟩
def sRet (s : SE) : SS := fun env S => (s env S).andS env fun d S1 => .rt d S1
theorem ms_ret (he : ME X G e sa) : MS X G (.Return (some e) pos) (sRet sa) := fun ok => ps_imp (ps_ret (he ok)) fun E σ H h => by
  obtain ⟨p, env, S, rs, rst, g⟩ := h
  exact ⟨p, env, S, rs, rst, (g.and rs).imp fun d S1 H1 p1 e1 r1 g1 v rv => g1.2.2 v H1 p1 .refl g1.2.1 rv⟩
def sRetN : SS := fun _ S => .rt .non S
theorem ms_retN : MS X G (.Return none pos) sRetN := fun ok => ps_imp ps_retN fun E σ H h => by
  obtain ⟨p, env, S, rs, rst, g⟩ := h
  exact g _ H p .refl rst (RV.non_iff.mpr rfl)
def sIfS (c : ST) (s t : SS) : SS := fun env S => (c env S).andS env fun b S1 => if b = true then s env S1 else t env S1
theorem ms_if (hc : MT X G c st) (ha : MSs X G xs s) (hb : MSs X G ys t) : MS X G (.If c xs ys pos) (sIfS st s t) := fun ok => ps_imp (ps_if (hc ok) (ha ok) (hb ok)) fun E σ H h => by
  obtain ⟨p, env, S, rs, rst, g⟩ := h
  refine ⟨p, env, S, rs, rst, (g.and rs).imp fun b S1 H1 p1 e1 r1 g1 => ?_⟩
  obtain ⟨q1, q2, q3⟩ := g1
  cases b with
  | true => exact ⟨p1, env, S1, q1, q2, q3⟩
  | false => exact ⟨p1, env, S1, q1, q2, q3⟩
/-! ### targets -/
abbrev SG := D → Env → Store → Option Env
/-- a target: what it does to the slots, by data; vs: the slots it may change -/
def TgOk (K : PySem.W.Frag) (vs : List Nat) (g : TG) (sg : SG) : Prop := ∀ (σ : L2.St) (H : Hp) (p : List Addr) (env env' : Env) (S : Store) (d : D) (v : V) (Q : L2.St → Hp → Prop), Rs K H p env σ → RSt K H p S → RV K H p d v → sg d env S = some env' →
  (∀ σ', Rs K H p env' σ' → (∀ ws : List Nat, (∀ i ∈ vs, i ∈ ws) → wipe σ' ws = wipe σ ws) → Q σ' H) → g v σ H Q
def TgsOk (K : PySem.W.Frag) (vs : List Nat) (g : TGs) (sg : List D → Env → Store → Option Env) : Prop := ∀ (σ : L2.St) (H : Hp) (p : List Addr) (env env' : Env) (S : Store) (ds : List D) (xs : List V) (Q : L2.St → Hp → Prop), Rs K H p env σ → RSt K H p S → RVs K H p ds xs → sg ds env S = some env' →
  (∀ σ', Rs K H p env' σ' → (∀ ws : List Nat, (∀ i ∈ vs, i ∈ ws) → wipe σ' ws = wipe σ ws) → Q σ' H) → g xs σ H Q
def gN (i : Nat) : SG := fun d env _ => some (env.set i (some d))
def gsNil : List D → Env → Store → Option Env := fun ds env _ => match ds with
  | [] => some env
  | _ => none
def gsCons (g : SG) (r : List D → Env → Store → Option Env) : List D → Env → Store → Option Env := fun ds env S => match ds with
  | d :: l => (g d env S).bind fun e => r l e S
  | [] => none
def gT (n : Nat) (r : List D → Env → Store → Option Env) : SG := fun d env S => match d with
  | .tup l => if l.length = n then r l env S else none
  | _ => none
def gL (n : Nat) (r : List D → Env → Store → Option Env) : SG := fun d env S => match d with
  | .ref m => match lstOf S m with
    | some l => if l.length = n then r l env S else none
    | none => none
  | _ => none
theorem wipe_set {σ : L2.St} {i : Nat} {o : Option V} : ∀ {ws : List Nat}, i ∈ ws → wipe (σ.set i o) ws = wipe σ ws
  | [], h => by cases h
  | w :: ws, h => by
    unfold wipe
    by_cases hi : i ∈ ws
    · rw [wipe_set hi]
    · have e : i = w := (List.mem_cons.mp h).resolve_right hi
      subst e
      have k : ∀ (l : List Nat), i ∉ l → ∀ τ : L2.St, wipe (τ.set i o) l = (wipe τ l).set i o := by
        intro l
        induction l with
        | nil => intro _ _; rfl
        | cons w l ih =>
          intro hn τ
          unfold wipe
          rw [ih (fun z => hn (List.mem_cons_of_mem _ z)), List.set_comm _ _ (fun z => hn (by simp [z]))]
      rw [k ws hi, List.set_set]
theorem tg_name (K : PySem.W.Frag) (i : Nat) : TgOk K [i] (gName i) (gN i) := by
  intro σ H p env env' S d v Q rs rst r e k
  cases e
  exact k _ (rs.set i r) fun ws hw => wipe_set (hw i (by simp))
theorem tgs_nil (K : PySem.W.Frag) : TgsOk K [] gNil gsNil := by
  intro σ H p env env' S ds xs Q rs rst r e k
  unfold gsNil at e
  split at e
  · cases e
    exact ⟨RVs.nil_iff.mp r, k σ rs fun _ _ => rfl⟩
  · cases e
theorem tgs_cons {K : PySem.W.Frag} {vs ws : List Nat} {g : TG} {gr : TGs} {sg : SG} {sgr : List D → Env → Store → Option Env} (h1 : TgOk K vs g sg) (h2 : TgsOk K ws gr sgr) : TgsOk K (vs ++ ws) (gCons g gr) (gsCons sg sgr) := by
  intro σ H p env env' S ds xs Q rs rst r e k
  unfold gsCons at e
  split at e
  · rename_i d l
    obtain ⟨x, xs', rfl, r1, r2⟩ := RVs.cons_iff.mp r
    cases he : sg d env S with
    | none => rw [he] at e; cases e
    | some env1 =>
      rw [he] at e
      refine ⟨x, xs', rfl, h1 σ H p env env1 S d x _ rs rst r1 he fun σ1 rs1 w1 => ?_⟩
      exact h2 σ1 H p env1 env' S l xs' Q rs1 rst r2 e fun σ2 rs2 w2 => k σ2 rs2 fun us hu => (w2 us fun i hi => hu i (List.mem_append_right _ hi)).trans (w1 us fun i hi => hu i (List.mem_append_left _ hi))
  · cases e
theorem tg_tup {K : PySem.W.Frag} {vs : List Nat} {n : Nat} {g : TGs} {sg : List D → Env → Store → Option Env} (h : TgsOk K vs g sg) : TgOk K vs (gTup K n g) (gT n sg) := by
  intro σ H p env env' S d v Q rs rst r e k
  unfold gT at e
  split at e
  · split at e
    · rename_i l hl
      obtain ⟨a, xs, rfl, h1, h2⟩ := RV.tup_iff.mp r
      exact ⟨a, xs, rfl, h1, by rw [← h2.len]; exact hl, h σ H p env env' S l xs Q rs rst h2 e k⟩
    · cases e
  · cases e
theorem tg_lst {K : PySem.W.Frag} {vs : List Nat} {n : Nat} {g : TGs} {sg : List D → Env → Store → Option Env} (h : TgsOk K vs g sg) : TgOk K vs (gLst K n g) (gL n sg) := by
  intro σ H p env env' S d v Q rs rst r e k
  unfold gL at e
  split at e
  · split at e
    · rename_i l hll
      split at e
      · rename_i hl
        obtain ⟨a, xs, rfl, h1, h2⟩ := rst.list hll r
        exact ⟨a, xs, rfl, h1, by rw [← h2.len]; exact hl, h σ H p env env' S l xs Q rs rst h2 e k⟩
      · cases e
    · cases e
  · cases e
def sAsg (s : SE) (g : SG) : SS := fun env S => (s env S).andS env fun d S1 => match g d env S1 with
  | some e => .nx e S1
  | none => .bad
theorem ms_asg {tg : Expr} {g : TG} {sg : SG} {vs : List Nat} (he : ME X G e sa) (hg : PG X tg g) (ht : TgOk X.K vs g sg) (hs : swapsWithSole [tg] e pos.line X.env = pure false := by rfl) (hw : swappedStores [tg] e X.env = pure none := by rfl)
    (h1 : (assignEach [tg] X.env).map (·.2) = [assign tg X.env] := by rfl) : MS X G (.Assign [tg] e pos) (sAsg sa sg) := fun ok => ps_imp (ps_asg (he ok) hg hs hw h1) fun E σ H h => by
  obtain ⟨p, env, S, rs, rst, g⟩ := h
  refine ⟨p, env, S, rs, rst, (g.and rs).imp fun d S1 H1 p1 e1 r1 g1 v rv => ?_⟩
  obtain ⟨q1, q2, q3⟩ := g1
  split at q3
  · rename_i env' he
    exact ht σ H1 p1 env env' S1 d v _ q1 q2 rv he fun σ' rs' _ => q3 σ' H1 p1 .refl rs' q2
  · exact q3.elim
def sSet (i : Nat) (s : SE) : SS := fun env S => (s env S).andS env fun d S1 => .nx (env.set i (some d)) S1
theorem ms_set {i : Nat} {x : Str} {pos' : Pos} (hN : X.N.Nodup) (he : ME X G e sa) (hi : X.N[i]? = some x := by rfl) (hx : Loc X.env.scope x := by first | exact Or.inl rfl | exact Or.inr rfl) (hs : swapsWith e (some (.Name x pos')) pos.line X.env = pure false := by rfl) (hf : X.fn x = true ∨ X.env.scope.names.lookup x = some .local := by first | exact .inl rfl | exact .inr rfl) :
    MS X G (.Assign [.Name x pos'] e pos) (sSet i sa) := fun ok => ps_imp (ps_set hN hi hx (he ok) hs hf) fun E σ H h => by
  obtain ⟨p, env, S, rs, rst, g⟩ := h
  exact ⟨p, env, S, rs, rst, (g.and rs).imp fun d S1 H1 p1 e1 r1 g1 v rv => g1.2.2 _ H1 p1 .refl (g1.1.set i rv) g1.2.1⟩
def sPar (i j : Nat) (s : SA) : SS := fun env S => (s env S).andS env fun ds S1 => match ds with
  | [d, e] => .nx ((env.set i (some d)).set j (some e)) S1
  | _ => .bad
theorem ms_par {i j : Nat} {x y : Str} {px py pt : Pos} {kt k2 pt2} (hN : X.N.Nodup) (ha : MA X G [a, b] sr) (hi : X.N[i]? = some x := by rfl) (hj : X.N[j]? = some y := by rfl) (hij : i ≠ j := by decide)
    (hx : X.env.scope.names.lookup x = some .local := by rfl) (hy : X.env.scope.names.lookup y = some .local := by rfl)
    (hw : swappedStores [.Tuple [.Name x px, .Name y py] kt pt] (.Tuple [a, b] k2 pt2) X.env = pure (some [x, y]) := by rfl) (hc : X.calm = true := by rfl)
    (hs : swapsWithSole [.Tuple [.Name x px, .Name y py] kt pt] (.Tuple [a, b] k2 pt2) pos.line X.env = pure false := by rfl) :
    MS X G (.Assign [.Tuple [.Name x px, .Name y py] kt pt] (.Tuple [a, b] k2 pt2) pos) (sPar i j sr) := fun ok => ps_imp (ps_par hc hN hi hj hij hx hy (ha ok) hw hs) fun E σ H h => by
  obtain ⟨p, env, S, rs, rst, g⟩ := h
  refine ⟨p, env, S, rs, rst, (g.and rs).imp fun ds S1 H1 p1 e1 r1 g1 xs rx => ?_⟩
  obtain ⟨q1, q2, q3⟩ := g1
  split at q3
  · obtain ⟨v, w, rfl, rv, rw'⟩ := rx.two
    exact ⟨v, w, rfl, q3 _ H1 p1 .refl ((q1.set i rv).set j rw') q2⟩
  · exact q3.elim
def sPar3 (i j l : Nat) (s : SA) : SS := fun env S => (s env S).andS env fun ds S1 => match ds with
  | [d, e, f] => .nx (((env.set i (some d)).set j (some e)).set l (some f)) S1
  | _ => .bad
/-- o[i] = e, a list's place -/
def sSetIx (se so si : SE) : SS := fun env S => (se env S).andS env fun d S1 => (so env S1).andS env fun o S2 => (si env S2).andS env fun i S3 => match o, i with
  | .ref n, .int k => match S3[n]? with
    | some (.lst l) => match ixN l.length k with
      | some j => .nx env (S3.set n (.lst (l.set j d)))
      | none => .bad
    | _ => .bad
  | _, _ => .bad
theorem ms_setIx {i : Expr} {si : SE} {tpos : Pos} (he : ME X G e sa) (ho : ME X G o so) (hi : ME X G i si) (hp : ∀ v, assign (.Subscript o i tpos) X.env v = (do
      let ov ← holding [v] (eval o X.env)
      let iv ← holding [v, ov] (eval i X.env)
      standAt tpos
      holding [v, ov, iv] (setItem ov iv v)
      release [v, ov, iv] []) := by intro _; rfl) (hs : swapsWithSole [.Subscript o i tpos] e pos.line X.env = pure false := by rfl) (hw : swappedStores [.Subscript o i tpos] e X.env = pure none := by rfl)
    (h1 : (assignEach [.Subscript o i tpos] X.env).map (·.2) = [assign (.Subscript o i tpos) X.env] := by rfl) : MS X G (.Assign [.Subscript o i tpos] e pos) (sSetIx sa so si) := fun ok => ps_imp (ps_asg (he ok) (pg_sub (ho ok) (hi ok) set_list hp) hs hw h1) fun E σ H h => by
  obtain ⟨p, env, S, rs, rst, g⟩ := h
  refine ⟨p, env, S, rs, rst, (g.and rs).imp fun d S1 H1 p1 e1 r1 g1 v rv => ?_⟩
  obtain ⟨q1, q2, q3⟩ := g1
  refine ⟨p1, env, S1, q1, q2, (q3.and q1).imp fun od S2 H2 p2 e2 r2 g2 ov rov => ?_⟩
  obtain ⟨q4, q5, q6⟩ := g2
  refine ⟨p2, env, S2, q4, q5, (q6.and q4).imp fun id S3 H3 p3 e3 r3 g3 iv riv => ?_⟩
  obtain ⟨q7, q8, q9⟩ := g3
  split at q9
  · rename_i n k
    split at q9
    · rename_i l hl
      split at q9
      · rename_i j hj
        have ro := RV.mono e3 _ _ rov
        have rd := RV.mono (e2.trans e3) _ _ rv
        obtain ⟨a, rfl, ea⟩ := RV.ref_iff.mp ro
        rw [RV.int_iff] at riv
        obtain ⟨xs, x1, x2⟩ := q8.cell n _ a hl ea
        obtain ⟨E', R'⟩ := q8.setL hl ea (x2.set j rd)
        exact ⟨a, xs, k, j, rfl, riv, x1, by rw [← x2.len]; exact hj, q9 σ _ p3 E' (q7.mono E') R'⟩
      · exact q9.elim
    · exact q9.elim
  · exact q9.elim
end
end Rg
/-! RgB0: enumerate of a tuple; zip of a tuple and a list. -/
namespace Rg
open PySem PySem.Spec PyProof.Rows L2
/-- the tuple at a, each item in a new pair -/
def IteU (K : PySem.W.Frag) (a : Addr) : It :=
  ⟨fun i H => ∃ (xs : List V) (x : V), SqT K H a xs ∧ xs[i]? = some x, fun i H v H' => ∃ T x, v = .ref T ∧ H T = none ∧ H' = upd H T (.tup [.int (i : Nat), x]) ∧ ∀ xs, SqT K H a xs → xs[i]? = some x, fun i H => ∃ xs : List V, SqT K H a xs ∧ xs.length = i⟩
/-- a tuple's and a list's items in new pairs -/
def ItzU (K : PySem.W.Frag) (a b : Addr) : It :=
  ⟨fun i H => ∃ (xs ys : List V) (x y : V), SqT K H a xs ∧ SqL K H b ys ∧ xs[i]? = some x ∧ ys[i]? = some y,
    fun i H v H' => ∃ T x y, v = .ref T ∧ H T = none ∧ H' = upd H T (.tup [x, y]) ∧ (∀ xs, SqT K H a xs → xs[i]? = some x) ∧ ∀ ys, SqL K H b ys → ys[i]? = some y,
    fun i H => ∃ xs ys : List V, SqT K H a xs ∧ SqL K H b ys ∧ min xs.length ys.length = i⟩
theorem turn_enumU {P : Program} {w : World} {K : PySem.W.Frag} {elts : List Expr} {kk : Nat} {tpos : Pos} (a e it : Addr) (hei : e ≠ it) (hea : e ≠ a) (hai : a ≠ it) :
    Turn P w K (.Tuple elts kk tpos) (IteU K a) [e, it] e (fun i h => (∃ old, IsEnum h e it ((i : Nat) : Int) old) ∧ h.IsTupleIter it a i) where
  mem := by simp
  obj := fun i h st b hb => by
    obtain ⟨⟨old, he⟩, ⟨o, ho, hc, hd⟩⟩ := st
    rcases List.mem_cons.mp hb with z | z
    · rw [z]; exact ⟨_, he, fun v q => nomatch q⟩
    · rw [List.mem_singleton.mp z]; exact ⟨o, ho, fun v q => by rw [hd] at q; cases q⟩
  keep := fun i h h' st k => ⟨st.1.imp fun old he => k e (by simp) _ he, st.2.at fun o q => k it (by simp) o q⟩
  item := by
    intro X hP hw hK hc i pins s σ H E I hf st hg
    subst hP hw hK
    obtain ⟨⟨old, he⟩, hit⟩ := st
    obtain ⟨xs, x, hq, hx⟩ := hg
    obtain ⟨its, rv, p, hz⟩ := I.tuple hq
    obtain ⟨u, hu, ru⟩ := rv.get hx
    have hu' : its.toArray[i]? = some u := by simpa using hu
    have hi : i < its.toArray.size := (Array.getElem?_eq_some_iff.mp hu').1
    have W := WalksT.enumFrom (prog := X.prog) (w := X.w) (A := X.A) 0 (Draws.tuple (A := X.A.in1) (I.ok.hd hc) it a hai its.toArray) e hei (by simp [hei, hea]) (by simp)
    have z0 : (0 : Int) + (i : Int) = ((i : Nat) : Int) := by omega
    have z1 : (0 : Int) + ((i + 1 : Nat) : Int) = ((i + 1 : Nat) : Int) := by omega
    refine W.item i s _ _ hi ⟨⟨old, by rw [z0]; exact he⟩, hit, p⟩ fun T vals h' tk hP hT htup hmid hk => ?_
    obtain ⟨t, y, hy, rfl⟩ := hP
    rw [hu'] at hy
    cases hy
    refine ⟨_, rfl, W.go elts kk tpos i T { s with heap := h', toks := tk } _ _ hmid fun h'' hst hk2 => ?_⟩
    have hTw := W.apart i T h' hmid
    obtain ⟨⟨old', he'⟩, hit', _⟩ := hst
    rw [z1] at he'
    obtain ⟨o, ho, hoc, nn, hod⟩ := htup
    have new : ObjOk X.prog X.w (upd H T (.tup [.int (i : Nat), x])) h'' T (.tup [.int (i : Nat), x]) :=
      ⟨by show 2 ≤ sizeLine; decide, [.int (0 + (i : Int)) t, u], .cons ⟨t, by rw [z0]⟩ (.cons ru .nil), ⟨o, hk2 T o hTw ho, hoc, nn, hod⟩⟩
    have I1 : Inv X pins σ (upd H T (.tup [.int (i : Nat), x])) { s with heap := h'', toks := tk } :=
      I.turnedNew (t' := tk) (ch := [e, it]) (fun b ob hb q => hk2 b ob hb (hk b ob hb q)) hf hT new
    refine ⟨.ref T, _, I1, rfl, ⟨T, x, rfl, I.hok.fresh hT, rfl, fun ys hy => by rw [I.tuple_inj hy hq]; exact hx⟩, ⟨⟨old', he'⟩, hit'⟩, fun b hb => ?_⟩
    have hne : b ≠ T := fun z => hTw (z ▸ hb)
    rw [upd_ne hne]
    exact (hf b hb).1
  done := by
    intro X hP hw hK hc i pins s σ H E I hf st hg
    subst hP hw hK
    obtain ⟨⟨old, he⟩, hit⟩ := st
    obtain ⟨xs, hq, hx⟩ := hg
    obtain ⟨its, rv, p, hz⟩ := I.tuple hq
    have hl := rv.length
    have hn : i = its.toArray.size := by rw [List.size_toArray]; omega
    subst hn
    have W := WalksT.enumFrom (prog := X.prog) (w := X.w) (A := X.A) 0 (Draws.tuple (A := X.A.in1) (I.ok.hd hc) it a hai its.toArray) e hei (by simp [hei, hea]) (by simp)
    have z0 : (0 : Int) + (its.toArray.size : Int) = ((its.toArray.size : Nat) : Int) := by omega
    exact W.done s _ _ ⟨⟨old, by rw [z0]; exact he⟩, hit, p⟩ fun h' tk hk => ⟨rfl, I.turnedL (t' := tk) (ch := [e, it]) hk hf⟩
  self := fun A i s Q E st h => by
    obtain ⟨⟨old, he⟩, _⟩ := st
    exact wpAny_pyIter_enum he h
theorem turn_zipU {P : Program} {w : World} {K : PySem.W.Frag} {elts : List Expr} {kk : Nat} {tpos : Pos} {a b z TI TO i1 i2 : Addr} (S : ZipSep2 z TI TO i1 i2 [i1, a] [i2, b]) (ha : a ≠ i1) (hb : b ≠ i2) :
    Turn P w K (.Tuple elts kk tpos) (ItzU K a b) [z, TI, TO, i1, i2] z (fun i h => IsZip h z TI TO .none ∧ IsTupOf2 h TI (.ref i1) (.ref i2) ∧ (∃ x y, IsTupOf2 h TO x y) ∧ h.IsTupleIter i1 a i ∧ h.IsListIter i2 b i) where
  mem := by simp
  obj := fun i h st c hc => by
    obtain ⟨hz, hTI, ⟨x, y, hTO⟩, ⟨o1, e1, _, d1⟩, ⟨o2, e2, _, d2⟩⟩ := st
    have e' : c = z ∨ c = TI ∨ c = TO ∨ c = i1 ∨ c = i2 := by simpa using hc
    rcases e' with rfl | rfl | rfl | rfl | rfl
    · exact ⟨_, hz, fun v q => nomatch q⟩
    · exact ⟨_, hTI, fun v q => nomatch q⟩
    · exact ⟨_, hTO, fun v q => nomatch q⟩
    · exact ⟨o1, e1, fun v q => by rw [d1] at q; cases q⟩
    · exact ⟨o2, e2, fun v q => by rw [d2] at q; cases q⟩
  keep := fun i h h' st k => by
    obtain ⟨hz, hTI, ⟨x, y, hTO⟩, h1, h2⟩ := st
    exact ⟨k z (by simp) _ hz, k TI (by simp) _ hTI, ⟨x, y, k TO (by simp) _ hTO⟩, h1.at fun o q => k i1 (by simp) o q, h2.at fun o q => k i2 (by simp) o q⟩
  item := by
    intro X hP hw hK hc i pins s σ H E I hf st hg
    subst hP hw hK
    obtain ⟨hz, hTI, hTO, h1, h2⟩ := st
    obtain ⟨xs, ys, x, y, hqx, hqy, hx, hy⟩ := hg
    obtain ⟨its, rv, p, _⟩ := I.tuple hqx
    obtain ⟨its2, rv2, p2, _⟩ := I.list hqy
    obtain ⟨u, hu, ru⟩ := rv.get hx
    obtain ⟨u2, hu2, ru2⟩ := rv2.get hy
    have hu' : its.toArray[i]? = some u := by simpa using hu
    have hu2' : its2.toArray[i]? = some u2 := by simpa using hu2
    have hi1 : i < its.toArray.size := (Array.getElem?_eq_some_iff.mp hu').1
    have hi2 : i < its2.toArray.size := (Array.getElem?_eq_some_iff.mp hu2').1
    have W := WalksT.zipD2 (prog := X.prog) (w := X.w) (A := X.A) S (Draws.tuple (A := X.A.in1) (I.ok.hd hc) i1 a ha its.toArray) (Draws.list (A := X.A.in1) (I.ok.hd hc) i2 b hb its2.toArray)
    refine W.item i s _ _ (by omega) ⟨hz, hTI, hTO, ⟨h1, p⟩, h2, p2.isList⟩ fun T vals h' tk hP hT htup hmid hk => ?_
    obtain ⟨v1, v2, e1, e2, rfl⟩ := hP
    rw [hu'] at e1
    rw [hu2'] at e2
    cases e1
    cases e2
    refine ⟨_, rfl, W.go elts kk tpos i T { s with heap := h', toks := tk } _ _ hmid fun h'' hst hk2 => ?_⟩
    have hTw := W.apart i T h' hmid
    obtain ⟨hz', hTI', hTO', ⟨h1', _⟩, h2', _⟩ := hst
    obtain ⟨o, ho, hoc, nn, hod⟩ := htup
    have new : ObjOk X.prog X.w (upd H T (.tup [x, y])) h'' T (.tup [x, y]) :=
      ⟨by show 2 ≤ sizeLine; decide, [u, u2], .cons ru (.cons ru2 .nil), ⟨o, hk2 T o hTw ho, hoc, nn, hod⟩⟩
    have sub : ∀ c, c ∉ [z, TI, TO, i1, i2] → c ∉ [z, TO, i1, i2] := fun c hc hm => hc (by simp at hm ⊢; rcases hm with h | h | h | h <;> simp [h])
    have I1 : Inv X pins σ (upd H T (.tup [x, y])) { s with heap := h'', toks := tk } :=
      I.turnedNew (t' := tk) (ch := [z, TI, TO, i1, i2]) (fun c ob hb q => hk2 c ob (sub c hb) (hk c ob (sub c hb) q)) hf hT new
    refine ⟨.ref T, _, I1, rfl, ⟨T, x, y, rfl, I.hok.fresh hT, rfl, fun ys hw => by rw [I.tuple_inj hw hqx]; exact hx, fun ys hw => by rw [I.list_inj hw hqy]; exact hy⟩, ⟨hz', hTI', hTO', h1', h2'⟩, fun c hcm => ?_⟩
    have hTI2 : TI ≠ T := fun e => by
      have := Heap.lt_size hTI
      rw [e] at this
      exact absurd (Nat.lt_of_lt_of_le this hT) (Nat.lt_irrefl _)
    have hne : c ≠ T := fun e => by
      by_cases q : c = TI
      · exact hTI2 (q ▸ e)
      · exact hTw (e ▸ (by simp at hcm ⊢; rcases hcm with h | h | h | h | h <;> simp_all))
    rw [upd_ne hne]
    exact (hf c hcm).1
  done := by
    intro X hP hw hK hc i pins s σ H E I hf st hg
    subst hP hw hK
    obtain ⟨hz, hTI, hTO, h1, h2⟩ := st
    obtain ⟨xs, ys, hqx, hqy, hn⟩ := hg
    obtain ⟨its, rv, p, _⟩ := I.tuple hqx
    obtain ⟨its2, rv2, p2, _⟩ := I.list hqy
    have l1 := rv.length
    have l2 := rv2.length
    have W := WalksT.zipD2 (prog := X.prog) (w := X.w) (A := X.A) S (Draws.tuple (A := X.A.in1) (I.ok.hd hc) i1 a ha its.toArray) (Draws.list (A := X.A.in1) (I.ok.hd hc) i2 b hb its2.toArray)
    have hn' : i = min its.toArray.size its2.toArray.size := by rw [List.size_toArray, List.size_toArray]; omega
    subst hn'
    have sub : ∀ c, c ∉ [z, TI, TO, i1, i2] → c ∉ [z, TO, i1, i2] := fun c hc hm => hc (by simp at hm ⊢; rcases hm with h | h | h | h <;> simp [h])
    exact W.done s _ _ ⟨hz, hTI, hTO, ⟨h1, p⟩, h2, p2.isList⟩ fun h' tk hk => ⟨rfl, I.turnedL (t' := tk) (ch := [z, TI, TO, i1, i2]) (fun c o hc q => hk c o (sub c hc) q) hf⟩
  self := fun A i s Q E st h => wpAny_pyIter_zip st.1 h
theorem meets_enum_newU (l : Addr) (items : Array Value) :
    Meets (Builtin.«enumerate.__new__» ⟨[.type "enumerate", .ref l], []⟩) (fun _ R s => s.heap.IsTuple l items ∧
      R (.ok (.ret (.ref (s.heap.push { cls := .type "tuple_iterator", data := .fields #[.ref l, .int 0 0] }).objs.size)))
        { s with heap := (s.heap.push { cls := .type "tuple_iterator", data := .fields #[.ref l, .int 0 0] }).push { cls := .type "enumerate", data := .fields #[.none, .bool false, .ref s.heap.objs.size, rawInt 0, .none, .none] } }) :=
  .of_wp fun prog w A R s h => by
    obtain ⟨hp, g, d, tk, os⟩ := s
    obtain ⟨hL, h⟩ := h
    obtain ⟨o, hl, hc, n, hd⟩ := id hL
    have hsub := sub_enumerate
    wp_walk using AutoSeq1.wpAny_loadPart' hl
    refine wpAny_stack_any fun st => wpAny_pure ?_
    split
    · rename_i c _ _ _ _ _
      cases (c == Value.type "enumerate")
      · wp_walk using AutoSeq1.wpAny_loadPart' hl, wpAny_pyIter_tuple hL
        exact ⟨_, rfl, h⟩
      · wp_walk using AutoSeq1.wpAny_loadPart' hl, wpAny_pyIter_tuple hL
        exact ⟨_, rfl, h⟩
    · wp_walk using AutoSeq1.wpAny_loadPart' hl, wpAny_pyIter_tuple hL
      exact ⟨_, rfl, h⟩
section
variable {prog : Program} {w : World} {A : Around} {E : Value → Shared → Prop} {s : Shared}
theorem call_enumU {l : Addr} {items : Array Value} {Q : Value → Shared → Prop} (hL : s.heap.IsTuple l items)
    (h : ∀ h', IsEnum h' (s.heap.objs.size + 1) s.heap.objs.size 0 .none → h'.IsTupleIter s.heap.objs.size l 0 → h'.objs.size = s.heap.objs.size + 2 →
      (∀ b o, s.heap.get? b = some o → h'.get? b = some o) → Q (.ref (s.heap.objs.size + 1)) { s with heap := h' }) :
    wpAny (model prog w) A (call (.type "enumerate") [.ref l]) Q E s := by
  refine callType_new F.called_enumerate (by decide) (F.typeCall_enumerate_1 _) (F.newCall_enumerate_1 _) (fun obj => F.args_object_init_2 obj _) F.entry_enumerate_new
    (meets_enum_newU l items) ⟨hL, ?_⟩
  have hz : (s.heap.push { cls := .type "tuple_iterator", data := .fields #[.ref l, .int 0 0] }).objs.size = s.heap.objs.size + 1 := Heap.size_push ..
  have he := Heap.get?_push_size (s.heap.push { cls := .type "tuple_iterator", data := .fields #[.ref l, .int 0 0] })
    (o := { cls := .type "enumerate", data := .fields #[.none, .bool false, .ref s.heap.objs.size, rawInt 0, .none, .none] }) rfl
  show _ ∧ _
  rw [hz] at he ⊢
  exact ⟨⟨_, he, rfl⟩, h _ he ⟨_, Heap.get?_push_of_some _ (Heap.get?_push_size _ rfl), rfl, rfl⟩ (by rw [Heap.size_push, hz]) fun b o x => Heap.get?_push_of_some _ (Heap.get?_push_of_some _ x)⟩
end
def iEnumU (K : PySem.W.Frag) (ta : TA) : TI := fun σ H R => ta σ H fun vs H1 => ∃ a xs, vs = [.ref a] ∧ ((SqL K H1 a xs ∧ R (Ite K a) H1) ∨ (SqT K H1 a xs ∧ R (IteU K a) H1))
theorem pi_enumU {X : Cx} {e : Expr} {ta : TA} {p pos tpos : Pos} {elts : List Expr} {kk : Nat} (hg : Gl X "enumerate") (hm : X.mg "enumerate" = none) (ha : PA X [e] ta) (hs : starEach [e] X.env = [(false, eval e X.env)] := by rfl) :
    PI X (.Tuple elts kk tpos) (.Call (.Name "enumerate" p) [e] [] pos) (iEnumU X.K ta) := by
  refine ⟨fun pins s σ H R I h => ?_⟩
  refine Call_ (ld_blt I hg hm boot_enumerate (PyProof.Rows.callWith_type1 (thn (ha.run pos pins s σ H _ I h) fun us s1 ⟨vs, H1, I1, r1, q1⟩ => ?_) hs rfl))
  obtain ⟨a, xs, ex, q1⟩ := q1
  subst ex
  cases r1 with
  | cons r rr =>
    cases rr
    cases r
    have fr : ∀ b ∈ [s1.heap.objs.size + 1, s1.heap.objs.size], FpOk X pins H1 b := fun b hb => by
      have hle : s1.heap.objs.size ≤ b := by
        rcases List.mem_cons.mp hb with z | z
        · rw [z]; exact Nat.le_add_right _ _
        · rw [List.mem_singleton.mp z]; exact Nat.le_refl _
      exact I1.fpOk hle (I1.hok.fresh hle)
    rcases q1 with ⟨hq, q⟩ | ⟨hq, q⟩
    · obtain ⟨its, rv, p', hz⟩ := I1.list hq
      refine call_enumerate_list p'.isList fun h' he hit hsz hk => wpAny_pyIter_enum he ?_
      have I2 : Inv X pins σ H1 { s1 with heap := h' } := I1.kept (t' := s1.toks) hk
      exact ⟨s1.heap.objs.size + 1, [s1.heap.objs.size + 1, s1.heap.objs.size], _, _, H1, rfl, I2, turn_enum a (s1.heap.objs.size + 1) s1.heap.objs.size, ⟨⟨.none, he⟩, hit, Nat.succ_ne_self _⟩, fr, q⟩
    · obtain ⟨its, rv, p', hz⟩ := I1.tuple hq
      obtain ⟨o1, ho1, _⟩ := id p'
      have hlt := Heap.lt_size ho1
      refine call_enumU (items := its.toArray) p' fun h' he hit hsz hk => wpAny_pyIter_enum he ?_
      have I2 : Inv X pins σ H1 { s1 with heap := h' } := I1.kept (t' := s1.toks) hk
      exact ⟨s1.heap.objs.size + 1, [s1.heap.objs.size + 1, s1.heap.objs.size], _, _, H1, rfl, I2, turn_enumU a (s1.heap.objs.size + 1) s1.heap.objs.size (Nat.succ_ne_self _) (fun z => absurd (Nat.lt_trans (Nat.lt_succ_self _) (z ▸ hlt)) (Nat.lt_irrefl _)) (Nat.ne_of_lt hlt), ⟨⟨.none, he⟩, hit⟩, fr, q⟩
def iZipU (K : PySem.W.Frag) (ta : TA) : TI := fun σ H R => ta σ H fun vs H1 => ∃ a b xs ys, vs = [.ref a, .ref b] ∧ ((SqL K H1 a xs ∧ SqL K H1 b ys ∧ R (Itz K a b) H1) ∨ (SqT K H1 a xs ∧ SqT K H1 b ys ∧ R (RZ.ItzT K a b) H1) ∨ (SqT K H1 a xs ∧ SqL K H1 b ys ∧ R (ItzU K a b) H1))
theorem pi_zipU {X : Cx} {e e2 : Expr} {ta : TA} {p pos tpos : Pos} {elts : List Expr} {kk : Nat} (hg : Gl X "zip") (hm : X.mg "zip" = none) (ha : PA X [e, e2] ta)
    (hs : starEach [e, e2] X.env = (false, eval e X.env) :: starEach [e2] X.env := by rfl) (hpl : (backTo pos (starEach [e2] X.env)).any (·.1) = false := by rfl) :
    PI X (.Tuple elts kk tpos) (.Call (.Name "zip" p) [e, e2] [] pos) (iZipU X.K ta) := by
  refine ⟨fun pins s σ H R I h => ?_⟩
  refine Call_ (ld_blt I hg hm PyProof.Rows.boot_zip (PyProof.Rows.callWith_type1 (thn (ha.run pos pins s σ H _ I h) fun us s1 ⟨vs, H1, I1, r1, q1⟩ => ?_) hs hpl))
  obtain ⟨a, b, xs, ys, ex, q1⟩ := q1
  subst ex
  cases r1 with
  | cons r rr =>
    cases rr with
    | cons r' rr =>
      cases rr
      cases r
      cases r'
      have fr : ∀ c, c ∈ [s1.heap.objs.size + 4, s1.heap.objs.size + 2, s1.heap.objs.size + 3, s1.heap.objs.size, s1.heap.objs.size + 1] → FpOk X pins H1 c := fun c hcm => by
        have hle : s1.heap.objs.size ≤ c := by
          have e' : c = s1.heap.objs.size + 4 ∨ c = s1.heap.objs.size + 2 ∨ c = s1.heap.objs.size + 3 ∨ c = s1.heap.objs.size ∨ c = s1.heap.objs.size + 1 := by simpa using hcm
          rcases e' with z | z | z | z | z <;> rw [z] <;> first | exact Nat.le_add_right _ _ | exact Nat.le_refl _
        exact I1.fpOk hle (I1.hok.fresh hle)
      rcases q1 with ⟨hqx, hqy, q⟩ | ⟨hqx, hqy, q⟩ | ⟨hqx, hqy, q⟩
      · obtain ⟨its, rv, p1, _⟩ := I1.list hqx
        obtain ⟨its2, rv2, p2, _⟩ := I1.list hqy
        refine call_zip_2 p1.isList p2.isList fun h' hz hTI hTO h1 h2 hsz hk => wpAny_pyIter_zip hz ?_
        have I2 : Inv X pins σ H1 { s1 with heap := h' } := I1.kept (t' := s1.toks) hk
        exact ⟨s1.heap.objs.size + 4, [s1.heap.objs.size + 4, s1.heap.objs.size + 2, s1.heap.objs.size + 3, s1.heap.objs.size, s1.heap.objs.size + 1], _, _, H1, rfl, I2, turn_zip (PySem.W.ktu_apart s1.heap.objs.size a b p1.lt p2.lt), ⟨hz, hTI, ⟨_, _, hTO⟩, h1, h2⟩, fr, q⟩
      · obtain ⟨its, rv, p1, _⟩ := I1.tuple hqx
        obtain ⟨its2, rv2, p2, _⟩ := I1.tuple hqy
        obtain ⟨o1, ho1, _⟩ := id p1
        obtain ⟨o2, ho2, _⟩ := id p2
        refine RZ.call_zipT (show s1.heap.IsTuple a its.toArray from p1) (show s1.heap.IsTuple b its2.toArray from p2) fun h' hz hTI hTO h1 h2 hsz hk => wpAny_pyIter_zip hz ?_
        have I2 : Inv X pins σ H1 { s1 with heap := h' } := I1.kept (t' := s1.toks) hk
        exact ⟨s1.heap.objs.size + 4, [s1.heap.objs.size + 4, s1.heap.objs.size + 2, s1.heap.objs.size + 3, s1.heap.objs.size, s1.heap.objs.size + 1], _, _, H1, rfl, I2, RZ.turn_zipT (PySem.W.ktu_apart s1.heap.objs.size a b (Heap.lt_size ho1) (Heap.lt_size ho2)), ⟨hz, hTI, ⟨_, _, hTO⟩, h1, h2⟩, fr, q⟩
      · obtain ⟨its, rv, p1, _⟩ := I1.tuple hqx
        obtain ⟨its2, rv2, p2, _⟩ := I1.list hqy
        obtain ⟨o1, ho1, _⟩ := id p1
        have la := Heap.lt_size ho1
        have lb : b < s1.heap.objs.size := p2.lt
        refine zip_begins2 (begins_tuple a its.toArray) (begins_list b its2.toArray) p1 p2.isList fun h' hz hTI hTO h1 h2 hsz hk => wpAny_pyIter_zip hz ?_
        have I2 : Inv X pins σ H1 { s1 with heap := h' } := I1.kept (t' := s1.toks) hk
        have Z := zip_sep2 (N := s1.heap.objs.size) (fp1 := [a]) (fp2 := [b]) (fun c hc => by rw [List.mem_singleton.mp hc]; exact la) (fun c hc => by rw [List.mem_singleton.mp hc]; exact lb)
        exact ⟨s1.heap.objs.size + 4, [s1.heap.objs.size + 4, s1.heap.objs.size + 2, s1.heap.objs.size + 3, s1.heap.objs.size, s1.heap.objs.size + 1], _, _, H1, rfl, I2, turn_zipU Z (Nat.ne_of_lt la) (Nat.ne_of_lt (Nat.lt_succ_of_lt lb)), ⟨hz, hTI, ⟨_, _, hTO⟩, ⟨_, h1, rfl, rfl⟩, ⟨_, h2, rfl, rfl⟩⟩, fr, q⟩
end Rg
/-! RgBf: loops, comprehensions, defs. -/
namespace Rg
open PySem PySem.Spec PyProof.Rows L2
/-! ### while -/
def runW (c : ST) (b : SS) : Nat → Env → Store → Option ResS
  | 0, _, _ => none
  | n + 1, env, S => match c env S with
    | .ok true S1 => match b env S1 with
      | .nx e S2 => runW c b n e S2
      | .ct e S2 => runW c b n e S2
      | .bk e S2 => some (.nx e S2)
      | .rt d S2 => some (.rt d S2)
      | .exc x e S2 => some (.exc x e S2)
      | .bad => some .bad
    | .ok false S1 => some (.nx env S1)
    | .exc x S1 => some (.exc x env S1)
    | .bad => some .bad
theorem runW_succ {c : ST} {b : SS} : ∀ {n : Nat} {env : Env} {S : Store} {r : ResS}, runW c b n env S = some r → runW c b (n + 1) env S = some r
  | 0, _, _, _, h => by cases h
  | n + 1, env, S, r, h => by
    unfold runW at h ⊢
    cases hc : c env S with
    | ok k S1 =>
      rw [hc] at h
      cases k with
      | false => exact h
      | true =>
        dsimp only at h ⊢
        cases hb : b env S1 with
        | nx e S2 => rw [hb] at h; exact runW_succ (n := n) h
        | ct e S2 => rw [hb] at h; exact runW_succ (n := n) h
        | bk e S2 => rw [hb] at h; exact h
        | rt e S2 => rw [hb] at h; exact h
        | exc x e S2 => rw [hb] at h; exact h
        | bad => rw [hb] at h; exact h
    | exc x S1 => rw [hc] at h; exact h
    | bad => rw [hc] at h; exact h
theorem runW_le {c : ST} {b : SS} {m n : Nat} {env : Env} {S : Store} {r : ResS} (h : runW c b m env S = some r) (l : m ≤ n) : runW c b n env S = some r := by
  induction n with
  | zero =>
    have : m = 0 := by omega
    subst this
    exact h
  | succ n ih =>
    rcases Nat.lt_or_ge m (n + 1) with q | q
    · exact runW_succ (ih (by omega))
    · have : m = n + 1 := by omega
      subst this
      exact h
theorem runW_det {c : ST} {b : SS} {m n : Nat} {env : Env} {S : Store} {r r' : ResS} (h : runW c b m env S = some r) (h' : runW c b n env S = some r') : r = r' := by
  have a := runW_le h (Nat.le_max_left m n)
  have b := runW_le h' (Nat.le_max_right m n)
  rw [a] at b
  exact Option.some.inj b
open Classical in
noncomputable def sWhile (c : ST) (b : SS) : SS := fun env S => if h : ∃ n r, runW c b n env S = some r then h.choose_spec.choose else .bad
theorem sWhile_of {c : ST} {b : SS} {n : Nat} {env : Env} {S : Store} {r : ResS} (h : runW c b n env S = some r) : sWhile c b env S = r := by
  have e : ∃ n r, runW c b n env S = some r := ⟨n, r, h⟩
  unfold sWhile
  rw [dif_pos e]
  exact runW_det e.choose_spec.choose_spec h
theorem sWhile_no {c : ST} {b : SS} {env : Env} {S : Store} (h : ¬ ∃ n r, runW c b n env S = some r) : sWhile c b env S = .bad := by
  unfold sWhile
  rw [dif_neg h]
/-- one turn -/
theorem sWhile_eq (c : ST) (b : SS) (env : Env) (S : Store) : sWhile c b env S = match c env S with
    | .ok true S1 => (match b env S1 with
      | .nx e S2 => sWhile c b e S2
      | .ct e S2 => sWhile c b e S2
      | .bk e S2 => .nx e S2
      | .rt d S2 => .rt d S2
      | .exc x e S2 => .exc x e S2
      | .bad => .bad)
    | .ok false S1 => .nx env S1
    | .exc x S1 => .exc x env S1
    | .bad => .bad := by
  have go : ∀ {e : Env} {S1 S2 : Store}, c env S = .ok true S1 → (∀ n, runW c b (n + 1) env S = runW c b n e S2) → sWhile c b env S = sWhile c b e S2 := fun {e S1 S2} hc hn => by
    by_cases h : ∃ n r, runW c b n e S2 = some r
    · obtain ⟨n, r, h⟩ := h
      rw [sWhile_of h, sWhile_of (n := n + 1) ((hn n).trans h)]
    · rw [sWhile_no h]
      refine sWhile_no fun ⟨n, r, h'⟩ => h ⟨n, r, ?_⟩
      rw [← hn n]
      exact runW_succ h'
  cases hc : c env S with
  | ok k S1 =>
    cases k with
    | false => exact sWhile_of (n := 1) (by unfold runW; rw [hc])
    | true =>
      dsimp only
      cases hb : b env S1 with
      | nx e S2 => exact go hc fun n => by rw [runW, hc]; dsimp only; rw [hb]
      | ct e S2 => exact go hc fun n => by rw [runW, hc]; dsimp only; rw [hb]
      | bk e S2 => exact sWhile_of (n := 1) (by unfold runW; rw [hc]; dsimp only; rw [hb])
      | rt e S2 => exact sWhile_of (n := 1) (by unfold runW; rw [hc]; dsimp only; rw [hb])
      | exc x e S2 => exact sWhile_of (n := 1) (by unfold runW; rw [hc]; dsimp only; rw [hb])
      | bad => exact sWhile_of (n := 1) (by unfold runW; rw [hc]; dsimp only; rw [hb])
  | exc x S1 => exact sWhile_of (n := 1) (by unfold runW; rw [hc])
  | bad => exact sWhile_of (n := 1) (by unfold runW; rw [hc])
section
variable {X : Cx} {G : Gx} {e a b c o tg iter : Expr} {pos : Pos} {sa sb so : SE} {st su : ST} {es : List Expr} {sr : SA} {s t : SS} {x : Stmt} {rest xs ys body : List Stmt}
theorem ms_while (hc : MT X G c st) (hb : MSs X G body s) : MS X G (.While c body [] pos) (sWhile st s) := fun ok => ps_imp (ps_while ok.po (hc ok) (hb ok)) fun E σ H h => by
  obtain ⟨p, env, S, rs, rst, g⟩ := h
  by_cases ex : ∃ n r, runW st s n env S = some r
  · obtain ⟨n, r, hr⟩ := ex
    rw [sWhile_of hr] at g
    refine ⟨fun m σ H => ∃ p env S r, Rs X.K H p env σ ∧ RSt X.K H p S ∧ runW st s m env S = some r ∧ GoodS X.K G H p r E, ⟨n, p, env, S, r, rs, rst, hr, g⟩, ?_⟩
    rintro m σ H ⟨p, env, S, r, rs, rst, hr, g⟩
    cases m with
    | zero => cases hr
    | succ m =>
      unfold runW at hr
      refine ⟨p, env, S, rs, rst, ?_⟩
      cases hc : st env S with
      | ok k S1 =>
        rw [hc] at hr
        cases k with
        | false =>
          cases hr
          exact fun H' p' x r' => g σ H' p' x (rs.mono x) r'
        | true =>
          dsimp only at hr
          intro H' p' x r'
          dsimp only
          rw [if_pos rfl]
          refine ⟨fun σ' H' => ∃ p e S2 r, Rs X.K H' p e σ' ∧ RSt X.K H' p S2 ∧ runW st s m e S2 = some r ∧ GoodS X.K G H' p r E, fun σ' H' q => ⟨m, Nat.lt_succ_self m, q⟩, p', env, S1, rs.mono x, r', ?_⟩
          cases hb : s env S1 with
          | nx e S2 => rw [hb] at hr; exact fun σ2 H2 p2 x2 rs2 r2 => ⟨p2, e, S2, r, rs2, r2, hr, g.at (x.trans x2)⟩
          | ct e S2 => rw [hb] at hr; exact fun σ2 H2 p2 x2 rs2 r2 => ⟨p2, e, S2, r, rs2, r2, hr, g.at (x.trans x2)⟩
          | bk e S2 => rw [hb] at hr; cases hr; exact g.at x
          | rt e S2 => rw [hb] at hr; cases hr; exact g.at x
          | exc y e S2 => rw [hb] at hr; cases hr; exact g.at x
          | bad => rw [hb] at hr; cases hr; exact g
      | exc y S1 =>
        rw [hc] at hr
        cases hr
        exact fun H' p' x r' => g σ H' p' x (rs.mono x) r'
      | bad =>
        rw [hc] at hr
        cases hr
        exact g
  · rw [sWhile_no ex] at g
    exact g.elim
/-! ### what is walked -/
structure Wk where
  items : List D
  chk : Store → Prop
abbrev SI := Env → Store → Res Wk
/-- J walks w: while w.chk holds of the store -/
def WalkD (K : PySem.W.Frag) (J : It) (w : Wk) (H1 : Hp) (p1 : List Addr) : Prop :=
  Walk J w.items.length (fun H => ∃ p S, Ext K H1 H p1 p ∧ RSt K H p S ∧ w.chk S)
    (fun i H x H' => ∀ p S, Ext K H1 H p1 p → RSt K H p S → w.chk S → ∃ d, w.items[i]? = some d ∧ Ext K H H' p p ∧ RSt K H' p S ∧ RV K H' p d x)
def TIo (K : PySem.W.Frag) (G : Gx) (si : SI) : TI := fun σ H R => ∃ p env S, Rs K H p env σ ∧ RSt K H p S ∧ Good K G σ H p (si env S) fun w S1 H1 p1 => ∀ J, WalkD K J w H1 p1 → R J H1
def MI (X : Cx) (G : Gx) (tg iter : Expr) (si : SI) : Prop := Cok X G → PI X tg iter (TIo X.K G si)
theorem pi_imp {t t' : TI} (h : PI X tg iter t) (hi : ∀ σ H R, t' σ H R → t σ H R) : PI X tg iter t' := ⟨fun pins s σ H R I q => h.run pins s σ H R I (hi _ _ _ q)⟩
/-- a list, a tuple, a text by its signs -/
def signs (z : Str) : List D := z.cps.toList.map fun c => .str ⟨#[c]⟩
def fIter (d : D) (S : Store) : Res Wk := match d with
  | .tup l => .ok ⟨l, fun _ => True⟩ S
  | .ref n => match lstOf S n with
    | some l => .ok ⟨l, fun S => lstOf S n = some l⟩ S
    | none => .bad
  | .str z => .ok ⟨signs z, fun _ => True⟩ S
  | _ => .bad
def sIter (s : SE) : SI := fun env S => (s env S).bind fIter
def iSeq (K : PySem.W.Frag) (tl : TE) : TI := fun σ H R => tl σ H fun x H1 => (∃ a, x = .ref a ∧ (∃ xs, SqL K H1 a xs) ∧ R (Itl K a) H1) ∨ (∃ a, x = .ref a ∧ (∃ xs, SqT K H1 a xs) ∧ R (Itt K a) H1) ∨ ∃ z, x = .str z ∧ R (Its z) H1
theorem pi_seq {tl : TE} (hl : PE X a tl) : PI X tg a (iSeq X.K tl) := by
  refine ⟨fun pins s σ H R I h => ?_⟩
  refine thn (hl.run pins s σ H _ I h) fun v s1 ⟨x, H1, I1, r1, q1⟩ => ?_
  rcases q1 with ⟨a, e, ⟨xs, hq⟩, q⟩ | ⟨a, e, ⟨xs, hq⟩, q⟩ | ⟨z, e, q⟩
  · subst e
    cases r1
    obtain ⟨its, rv, p, hz⟩ := I1.list hq
    refine wpAny_pyIter_list p.isList ?_
    refine ⟨s1.heap.objs.size, [s1.heap.objs.size], _, _, H1, rfl, I1.kept (t' := s1.toks) fun b o e => Heap.get?_push_of_some _ e, turn_list a _, ⟨_, Heap.get?_push_size _ rfl, rfl, rfl⟩, fun b hb => ?_, q⟩
    have e : b = s1.heap.objs.size := by simpa using hb
    subst e
    exact I1.fpOk (Nat.le_refl _) (I1.hok.fresh (Nat.le_refl _))
  · subst e
    cases r1
    obtain ⟨its, rv, p, hz⟩ := I1.tuple hq
    refine wpAny_pyIter_tuple (show s1.heap.IsTuple a its.toArray from p) ?_
    refine ⟨s1.heap.objs.size, [s1.heap.objs.size], _, _, H1, rfl, I1.kept (t' := s1.toks) fun b o e => Heap.get?_push_of_some _ e, turn_tuple a _, ⟨_, Heap.get?_push_size _ rfl, rfl, rfl⟩, fun b hb => ?_, q⟩
    have e : b = s1.heap.objs.size := by simpa using hb
    subst e
    exact I1.fpOk (Nat.le_refl _) (I1.hok.fresh (Nat.le_refl _))
  · subst e
    obtain ⟨t, rfl⟩ := r1
    cases ha : z.cps.all (· < 128)
    · exact wpAny_pyIter_wide ha (pi_one (tk := s1.toks) I1 _ (turn_str _ z t "str_iterator" (.inr rfl)) ⟨_, Heap.get?_push_size _ rfl, rfl, rfl⟩ q)
    · exact wpAny_pyIter_ascii ha (pi_one (tk := s1.toks) I1 _ (turn_str _ z t "str_ascii_iterator" (.inl rfl)) ⟨_, Heap.get?_push_size _ rfl, rfl, rfl⟩ q)
section
variable {K : PySem.W.Frag} {H1 : Hp} {p1 : List Addr} {a b : Addr} {l l2 : List D} {n m : Nat}
/-- the list of a number, later on -/
theorem list_at {H : Hp} {p : List Addr} {S : Store} (hp : p1[n]? = some a) (e : Ext K H1 H p1 p) (R : RSt K H p S) (h : lstOf S n = some l) : ∃ xs, SqL K H a xs ∧ RVs K H p l xs := by
  obtain ⟨a', xs, e1, h1, h2⟩ := R.list h (RV.ref_iff.mpr ⟨a, rfl, e.pre _ _ hp⟩)
  cases e1
  exact ⟨xs, h1, h2⟩
theorem walkd_list (hp : p1[n]? = some a) : WalkD K (Itl K a) ⟨l, fun S => lstOf S n = some l⟩ H1 p1 := by
  refine ⟨fun i H hi q => ?_, fun H q => ?_, fun i H x H' hi q y p S e R hc => ?_⟩
  · obtain ⟨p, S, e, R, hc⟩ := q
    obtain ⟨xs, h1, h2⟩ := list_at hp e R hc
    obtain ⟨x, e1, e2⟩ := h2.get (d := l[i]) (i := i) (by simp [show i < l.length from hi])
    exact ⟨xs, x, h1, e1⟩
  · obtain ⟨p, S, e, R, hc⟩ := q
    obtain ⟨xs, h1, h2⟩ := list_at hp e R hc
    exact ⟨xs, h1, by rw [← h2.len]; exact Nat.le_refl _⟩
  · obtain ⟨e1, y⟩ := y
    subst e1
    obtain ⟨xs, h1, h2⟩ := list_at hp e R hc
    obtain ⟨d, e1, e2⟩ := h2.get' (y xs h1)
    exact ⟨d, e1, .refl, R, e2⟩
theorem walkd_tup {xs : List V} (h1 : SqT K H1 a xs) (h2 : RVs K H1 p1 l xs) : WalkD K (Itt K a) ⟨l, fun _ => True⟩ H1 p1 := by
  refine ⟨fun i H hi q => ?_, fun H q => ?_, fun i H x H' hi q y p S e R hc => ?_⟩
  · obtain ⟨p, S, e, R, hc⟩ := q
    obtain ⟨x, e1, e2⟩ := h2.get (d := l[i]) (i := i) (by simp [show i < l.length from hi])
    exact ⟨xs, x, e.tup _ _ h1, e1⟩
  · obtain ⟨p, S, e, R, hc⟩ := q
    exact ⟨xs, e.tup _ _ h1, by rw [← h2.len]; exact Nat.le_refl _⟩
  · obtain ⟨e1, y⟩ := y
    subst e1
    obtain ⟨d, e1, e2⟩ := h2.get' (y xs (e.tup _ _ h1))
    exact ⟨d, e1, .refl, R, RV.mono e _ _ e2⟩
theorem walkd_fn {J : It} {f : Nat → V} (w : Walk J l.length (fun _ => True) (fun i H x H' => H' = H ∧ x = f i)) (hf : ∀ i d, l[i]? = some d → ∀ H p, RV K H p d (f i)) : WalkD K J ⟨l, fun _ => True⟩ H1 p1 := by
  refine ⟨fun i H hi q => w.goes i H hi trivial, fun H q => w.stops H trivial, fun i H x H' hi q y p S e R hc => ?_⟩
  obtain ⟨rfl, rfl⟩ := w.yields i H x H' hi trivial y
  exact ⟨l[i], by simp [show i < l.length from hi], .refl, R, hf i _ (by simp [show i < l.length from hi]) _ _⟩
end
theorem mi_seq (ha : ME X G a sa) : MI X G tg a (sIter sa) := fun ok => pi_imp (pi_seq (ha ok)) fun σ H R h => by
  obtain ⟨p, env, S, rs, rst, g⟩ := h
  refine one rs rst g fun H1 p1 S1 d x _ rs1 r1 rx g1 => ?_
  unfold fIter at g1
  split at g1
  · rename_i l
    obtain ⟨a, xs, rfl, h1, h2⟩ := RV.tup_iff.mp rx
    exact .inr (.inl ⟨a, rfl, ⟨xs, h1⟩, g1 H1 p1 .refl r1 _ (walkd_tup h1 h2)⟩)
  · split at g1
    · rename_i n l hl
      obtain ⟨a, rfl, e⟩ := RV.ref_iff.mp rx
      obtain ⟨xs, h1, h2⟩ := list_at e .refl r1 hl
      exact .inl ⟨a, rfl, ⟨xs, h1⟩, g1 H1 p1 .refl r1 _ (walkd_list e)⟩
    · exact g1.elim
  · rename_i z
    rw [RV.str_iff] at rx
    subst rx
    refine .inr (.inr ⟨z, rfl, g1 H1 p1 .refl r1 _ ?_⟩)
    have hlen : (signs z).length = z.cps.size := by unfold signs; simp
    have w := walk_str (z := z)
    refine ⟨fun i H hi q => w.goes i H (by rw [← hlen]; exact hi) trivial, fun H q => ?_, fun i H x H' hi q y p S e R hc => ?_⟩
    · have q := w.stops H trivial
      rw [← hlen] at q
      exact q
    · obtain ⟨rfl, c, hc, rfl⟩ := w.yields i H x H' (by rw [← hlen]; exact hi) trivial y
      refine ⟨.str ⟨#[c]⟩, ?_, .refl, R, RV.str_iff.mpr rfl⟩
      unfold signs
      rw [List.getElem?_map, Array.getElem?_toList, hc]
      rfl
  · exact g1.elim
/-- range -/
def rangeD (lo : Int) (n : Nat) : List D := (List.range n).map fun i => .int (lo + (i : Nat))
theorem rangeD_len (lo : Int) (n : Nat) : (rangeD lo n).length = n := by unfold rangeD; simp
def fRng1 (ds : List D) (S : Store) : Res Wk := match ds with
  | [.int j] => if -(2 ^ 62) ≤ j ∧ j < 2 ^ 62 then .ok ⟨rangeD 0 j.toNat, fun _ => True⟩ S else .bad
  | _ => .bad
def fRng2 (ds : List D) (S : Store) : Res Wk := match ds with
  | [.int i, .int j] => if -(2 ^ 62) ≤ i ∧ i < 2 ^ 62 ∧ -(2 ^ 62) ≤ j ∧ j < 2 ^ 62 then .ok ⟨rangeD i (j - i).toNat, fun _ => True⟩ S else .bad
  | _ => .bad
def sRng (f : List D → Store → Res Wk) (s : SA) : SI := fun env S => (s env S).bind f
theorem walkd_range {K : PySem.W.Frag} {H1 : Hp} {p1 : List Addr} {lo : Int} {n : Nat} : WalkD K (Itr lo n) ⟨rangeD lo n, fun _ => True⟩ H1 p1 := by
  refine walkd_fn (f := fun i => .int (lo + (i : Nat))) ?_ fun i d h H p => ?_
  · rw [rangeD_len]
    exact walk_range
  · unfold rangeD at h
    rw [List.getElem?_map] at h
    by_cases hi : i < n
    · rw [List.getElem?_range hi] at h
      cases h
      exact RV.int_iff.mpr rfl
    · rw [List.getElem?_eq_none (by simpa using hi)] at h
      cases h
theorem mi_range1 {p : Pos} (hm : X.mg "range" = none) (ha : MA X G [a] sr) (hg : Gl X "range" := by rfl) (hs : starEach [a] X.env = [(false, eval a X.env)] := by rfl) : MI X G tg (.Call (.Name "range" p) [a] [] pos) (sRng fRng1 sr) := fun ok => pi_imp (pi_range1 hg hm (ha ok) hs) fun σ H R h => by
  obtain ⟨p, env, S, rs, rst, g⟩ := h
  refine TAo.bind rs rst g fun H1 p1 S1 ds xs _ rs1 r1 rx g1 => ?_
  unfold fRng1 at g1
  split at g1
  · split at g1
    · rename_i j hj
      obtain ⟨x, rfl, r⟩ := rx.one
      rw [RV.int_iff] at r
      subst r
      exact ⟨j, rfl, hj.1, hj.2, g1 H1 p1 .refl r1 _ walkd_range⟩
    · exact g1.elim
  · exact g1.elim
theorem mi_range2 {p : Pos} (hm : X.mg "range" = none) (ha : MA X G [a, b] sr) (hg : Gl X "range" := by rfl) (hs : starEach [a, b] X.env = [(false, eval a X.env), (false, eval b X.env)] := by rfl) (hs2 : starEach [b] X.env = [(false, eval b X.env)] := by rfl) : MI X G tg (.Call (.Name "range" p) [a, b] [] pos) (sRng fRng2 sr) := fun ok => pi_imp (pi_range2 hg hm (ha ok) hs hs2) fun σ H R h => by
  obtain ⟨p, env, S, rs, rst, g⟩ := h
  refine TAo.bind rs rst g fun H1 p1 S1 ds xs _ rs1 r1 rx g1 => ?_
  unfold fRng2 at g1
  split at g1
  · split at g1
    · rename_i i j hj
      obtain ⟨x, y, rfl, r, r'⟩ := rx.two
      rw [RV.int_iff] at r r'
      subst r r'
      exact ⟨i, j, rfl, hj, g1 H1 p1 .refl r1 _ walkd_range⟩
    · exact g1.elim
  · exact g1.elim
/-- enumerate(list) -/
def enumD (l : List D) : List D := (List.range l.length).map fun i => .tup [.int (i : Nat), l.getD i .non]
def fEnum (ds : List D) (S : Store) : Res Wk := match ds with
  | [.ref n] => match lstOf S n with
    | some l => .ok ⟨enumD l, fun S => lstOf S n = some l⟩ S
    | none => .bad
  | [.tup l] => .ok ⟨enumD l, fun _ => True⟩ S
  | _ => .bad
theorem newpair {K : PySem.W.Frag} {H : Hp} {p : List Addr} {S : Store} {T : Addr} {x y : V} {d e : D} (R : RSt K H p S) (hT : H T = none) (rx : RV K H p d x) (ry : RV K H p e y) :
    Ext K H (upd H T (.tup [x, y])) p p ∧ RSt K (upd H T (.tup [x, y])) p S ∧ RV K (upd H T (.tup [x, y])) p (.tup [d, e]) (.ref T) := R.newT hT (RVs.cons rx (RVs.cons ry RVs.nil))
theorem mi_enum {elts : List Expr} {kk : Nat} {tpos p : Pos} (hm : X.mg "enumerate" = none) (ha : MA X G [a] sr) (hg : Gl X "enumerate" := by rfl) (hs : starEach [a] X.env = [(false, eval a X.env)] := by rfl) : MI X G (.Tuple elts kk tpos) (.Call (.Name "enumerate" p) [a] [] pos) (sRng fEnum sr) := fun ok => pi_imp (pi_enumU hg hm (ha ok) hs) fun σ H R h => by
  obtain ⟨p, env, S, rs, rst, g⟩ := h
  refine TAo.bind rs rst g fun H1 p1 S1 ds xs _ rs1 r1 rx g1 => ?_
  unfold fEnum at g1
  split at g1
  · split at g1
    · rename_i n l hl
      obtain ⟨x, rfl, r⟩ := rx.one
      obtain ⟨a, rfl, e⟩ := RV.ref_iff.mp r
      obtain ⟨zs, h1, h2⟩ := list_at e .refl r1 hl
      refine ⟨a, zs, rfl, .inl ⟨h1, g1 H1 p1 .refl r1 _ ?_⟩⟩
      have hlen : (enumD l).length = l.length := by unfold enumD; simp
      refine ⟨fun i H hi q => ?_, fun H q => ?_, fun i H x H' hi q y p S e' R hc => ?_⟩
      · obtain ⟨p, S, e', R, hc⟩ := q
        obtain ⟨xs, h1, h2⟩ := list_at e e' R hc
        have hi : i < l.length := by rw [← hlen]; exact hi
        obtain ⟨x, e1, e2⟩ := h2.get (d := l[i]) (i := i) (by simp [hi])
        exact ⟨xs, x, h1, e1⟩
      · obtain ⟨p, S, e', R, hc⟩ := q
        obtain ⟨xs, h1, h2⟩ := list_at e e' R hc
        exact ⟨xs, h1, by rw [← h2.len, ← hlen]; exact Nat.le_refl _⟩
      · obtain ⟨T, x, rfl, hT, rfl, hx⟩ := y
        obtain ⟨xs, h1, h2⟩ := list_at e e' R hc
        obtain ⟨d, e1, e2⟩ := h2.get' (hx xs h1)
        have hi : i < l.length := by rw [← hlen]; exact hi
        refine ⟨.tup [.int (i : Nat), d], ?_, newpair R hT (RV.int_iff.mpr rfl) e2⟩
        unfold enumD
        dsimp only
        rw [List.getElem?_map, List.getElem?_range hi, Option.map_some, List.getD_eq_getElem?_getD, e1]
        rfl
    · exact g1.elim
  · rename_i l
    obtain ⟨x, rfl, r⟩ := rx.one
    obtain ⟨a, zs, rfl, h1, h2⟩ := RV.tup_iff.mp r
    refine ⟨a, zs, rfl, .inr ⟨h1, g1 H1 p1 .refl r1 _ ?_⟩⟩
    have hlen : (enumD l).length = l.length := by unfold enumD; simp
    refine ⟨fun i H hi q => ?_, fun H q => ?_, fun i H x H' hi q y p S e' R hc => ?_⟩
    · obtain ⟨p, S, e', R, hc⟩ := q
      have hi : i < l.length := by rw [← hlen]; exact hi
      obtain ⟨x, e1, e2⟩ := h2.get (d := l[i]) (i := i) (by simp [hi])
      exact ⟨zs, x, e'.tup _ _ h1, e1⟩
    · obtain ⟨p, S, e', R, hc⟩ := q
      exact ⟨zs, e'.tup _ _ h1, by rw [← h2.len, ← hlen]⟩
    · obtain ⟨T, x, rfl, hT, rfl, hx⟩ := y
      obtain ⟨d, e1, e2⟩ := h2.get' (hx zs (e'.tup _ _ h1))
      have hi : i < l.length := by rw [← hlen]; exact hi
      refine ⟨.tup [.int (i : Nat), d], ?_, newpair R hT (RV.int_iff.mpr rfl) (RV.mono e' _ _ e2)⟩
      unfold enumD
      dsimp only
      rw [List.getElem?_map, List.getElem?_range hi, Option.map_some, List.getD_eq_getElem?_getD, e1]
      rfl
  · exact g1.elim
/-- zip of two lists or two tuples -/
def zipD (l m : List D) : List D := (l.zip m).map fun q => .tup [q.1, q.2]
def fZip (ds : List D) (S : Store) : Res Wk := match ds with
  | [.ref n, .ref m] => match lstOf S n, lstOf S m with
    | some l, some k => .ok ⟨zipD l k, fun S => lstOf S n = some l ∧ lstOf S m = some k⟩ S
    | _, _ => .bad
  | [.tup l, .tup k] => .ok ⟨zipD l k, fun _ => True⟩ S
  | [.tup l, .ref m] => match lstOf S m with
    | some k => .ok ⟨zipD l k, fun S => lstOf S m = some k⟩ S
    | none => .bad
  | _ => .bad
theorem zipD_get {l k : List D} {i : Nat} {d e : D} (h1 : l[i]? = some d) (h2 : k[i]? = some e) : (zipD l k)[i]? = some (.tup [d, e]) := by
  unfold zipD
  rw [List.getElem?_map, List.getElem?_zip_eq_some (z := (d, e)) |>.mpr ⟨h1, h2⟩]
  rfl
theorem zipD_len (l k : List D) : (zipD l k).length = min l.length k.length := by unfold zipD; simp
theorem mi_zip {elts : List Expr} {kk : Nat} {tpos p : Pos} (hm : X.mg "zip" = none) (ha : MA X G [a, b] sr) (hg : Gl X "zip" := by rfl) (hs : starEach [a, b] X.env = (false, eval a X.env) :: starEach [b] X.env := by rfl) (hpl : (backTo pos (starEach [b] X.env)).any (·.1) = false := by rfl) : MI X G (.Tuple elts kk tpos) (.Call (.Name "zip" p) [a, b] [] pos) (sRng fZip sr) := fun ok => pi_imp (pi_zipU hg hm (ha ok) hs hpl) fun σ H R h => by
  obtain ⟨p, env, S, rs, rst, g⟩ := h
  refine TAo.bind rs rst g fun H1 p1 S1 ds xs _ rs1 r1 rx g1 => ?_
  unfold fZip at g1
  split at g1
  · split at g1
    · rename_i n m l k hl hk
      obtain ⟨x, y, rfl, r, r'⟩ := rx.two
      obtain ⟨a, rfl, ea⟩ := RV.ref_iff.mp r
      obtain ⟨b, rfl, eb⟩ := RV.ref_iff.mp r'
      obtain ⟨zs, h1, h2⟩ := list_at ea .refl r1 hl
      obtain ⟨ws, h3, h4⟩ := list_at eb .refl r1 hk
      refine ⟨a, b, zs, ws, rfl, .inl ⟨h1, h3, g1 H1 p1 .refl r1 _ ?_⟩⟩
      refine ⟨fun i H hi q => ?_, fun H q => ?_, fun i H x H' hi q y p S e' R hc => ?_⟩
      · obtain ⟨p, S, e', R, hc, hc'⟩ := q
        obtain ⟨xs, h1, h2⟩ := list_at ea e' R hc
        obtain ⟨ys, h3, h4⟩ := list_at eb e' R hc'
        have hi : i < min l.length k.length := by rw [← zipD_len]; exact hi
        obtain ⟨x, e1, e2⟩ := h2.get (d := l[i]) (i := i) (by simp [show i < l.length by omega])
        obtain ⟨y, e3, e4⟩ := h4.get (d := k[i]) (i := i) (by simp [show i < k.length by omega])
        exact ⟨xs, ys, x, y, h1, h3, e1, e3⟩
      · obtain ⟨p, S, e', R, hc, hc'⟩ := q
        obtain ⟨xs, h1, h2⟩ := list_at ea e' R hc
        obtain ⟨ys, h3, h4⟩ := list_at eb e' R hc'
        refine ⟨xs, ys, h1, h3, ?_⟩
        rw [← h2.len, ← h4.len]
        show l.length ≤ (zipD l k).length ∨ k.length ≤ (zipD l k).length
        rw [zipD_len]
        omega
      · obtain ⟨T, x, y, rfl, hT, rfl, hx, hy⟩ := y
        obtain ⟨xs, h1, h2⟩ := list_at ea e' R hc.1
        obtain ⟨ys, h3, h4⟩ := list_at eb e' R hc.2
        obtain ⟨d, e1, e2⟩ := h2.get' (hx xs h1)
        obtain ⟨f, e3, e4⟩ := h4.get' (hy ys h3)
        exact ⟨.tup [d, f], zipD_get e1 e3, newpair R hT e2 e4⟩
    · exact g1.elim
  · rename_i l k
    obtain ⟨x, y, rfl, r, r'⟩ := rx.two
    obtain ⟨a, zs, rfl, h1, h2⟩ := RV.tup_iff.mp r
    obtain ⟨b, ws, rfl, h3, h4⟩ := RV.tup_iff.mp r'
    refine ⟨a, b, zs, ws, rfl, .inr (.inl ⟨h1, h3, g1 H1 p1 .refl r1 _ ?_⟩)⟩
    refine ⟨fun i H hi q => ?_, fun H q => ?_, fun i H x H' hi q y p S e' R hc => ?_⟩
    · obtain ⟨p, S, e', R, hc⟩ := q
      have hi : i < min l.length k.length := by rw [← zipD_len]; exact hi
      obtain ⟨x, e1, e2⟩ := h2.get (d := l[i]) (i := i) (by simp [show i < l.length by omega])
      obtain ⟨y, e3, e4⟩ := h4.get (d := k[i]) (i := i) (by simp [show i < k.length by omega])
      exact ⟨zs, ws, x, y, e'.tup _ _ h1, e'.tup _ _ h3, e1, e3⟩
    · obtain ⟨p, S, e', R, hc⟩ := q
      refine ⟨zs, ws, e'.tup _ _ h1, e'.tup _ _ h3, ?_⟩
      rw [← h2.len, ← h4.len]
      show l.length ≤ (zipD l k).length ∨ k.length ≤ (zipD l k).length
      rw [zipD_len]
      omega
    · obtain ⟨T, x, y, rfl, hT, rfl, hx, hy⟩ := y
      obtain ⟨d, e1, e2⟩ := h2.get' (hx zs (e'.tup _ _ h1))
      obtain ⟨f, e3, e4⟩ := h4.get' (hy ws (e'.tup _ _ h3))
      exact ⟨.tup [d, f], zipD_get e1 e3, newpair R hT (RV.mono e' _ _ e2) (RV.mono e' _ _ e4)⟩
  · rename_i l m
    split at g1
    · rename_i k hk
      obtain ⟨x, y, rfl, r, r'⟩ := rx.two
      obtain ⟨a, zs, rfl, h1, h2⟩ := RV.tup_iff.mp r
      obtain ⟨b, rfl, eb⟩ := RV.ref_iff.mp r'
      obtain ⟨ws, h3, h4⟩ := list_at eb .refl r1 hk
      refine ⟨a, b, zs, ws, rfl, .inr (.inr ⟨h1, h3, g1 H1 p1 .refl r1 _ ?_⟩)⟩
      refine ⟨fun i H hi q => ?_, fun H q => ?_, fun i H x H' hi q y p S e' R hc => ?_⟩
      · obtain ⟨p, S, e', R, hc⟩ := q
        obtain ⟨ys, h3, h4⟩ := list_at eb e' R hc
        have hi : i < min l.length k.length := by rw [← zipD_len]; exact hi
        obtain ⟨x, e1, e2⟩ := h2.get (d := l[i]) (i := i) (by simp [show i < l.length by omega])
        obtain ⟨y, e3, e4⟩ := h4.get (d := k[i]) (i := i) (by simp [show i < k.length by omega])
        exact ⟨zs, ys, x, y, e'.tup _ _ h1, h3, e1, e3⟩
      · obtain ⟨p, S, e', R, hc⟩ := q
        obtain ⟨ys, h3, h4⟩ := list_at eb e' R hc
        refine ⟨zs, ys, e'.tup _ _ h1, h3, ?_⟩
        rw [← h2.len, ← h4.len]
        exact (zipD_len l k).symm
      · obtain ⟨T, x, y, rfl, hT, rfl, hx, hy⟩ := y
        obtain ⟨ys, h3, h4⟩ := list_at eb e' R hc
        obtain ⟨d, e1, e2⟩ := h2.get' (hx zs (e'.tup _ _ h1))
        obtain ⟨f, e3, e4⟩ := h4.get' (hy ys h3)
        exact ⟨.tup [d, f], zipD_get e1 e3, newpair R hT (RV.mono e' _ _ e2) e4⟩
    · exact g1.elim
  · exact g1.elim
/-! ### for -/
open Classical in
noncomputable def forRun (g : SG) (b : SS) (chk : Store → Prop) : List D → SS
  | [], env, S => if chk S then .nx env S else .bad
  | d :: l, env, S => if chk S then match g d env S with
    | some e => match b e S with
      | .nx e S2 => forRun g b chk l e S2
      | .ct e S2 => forRun g b chk l e S2
      | .bk e S2 => .nx e S2
      | .rt d S2 => .rt d S2
      | .exc x e S2 => .exc x e S2
      | .bad => .bad
    | none => .bad
    else .bad
noncomputable def sFor (si : SI) (g : SG) (b : SS) : SS := fun env S => (si env S).andS env fun w S1 => forRun g b w.chk w.items env S1
theorem forRun_chk {g : SG} {b : SS} {chk : Store → Prop} {l : List D} {env : Env} {S : Store} (h : forRun g b chk l env S ≠ .bad) : chk S := by
  cases l with
  | nil =>
    unfold forRun at h
    split at h
    · assumption
    · exact absurd rfl h
  | cons d l =>
    unfold forRun at h
    split at h
    · assumption
    · exact absurd rfl h
theorem GoodS.ne {K : PySem.W.Frag} {H : Hp} {p : List Addr} {r : ResS} {E : Ends} (h : GoodS K G H p r E) : r ≠ .bad := fun e => by
  subst e
  exact h
theorem ms_for {g : TG} {sg : SG} {vs : List Nat} {si : SI} (hi : MI X G tg iter si) (hg : PG X tg g) (ht : TgOk X.K vs g sg) (hb : MSs X G body s) (hc : X.calm = true := by rfl)
    (hs : ∀ x, foldedSetIterable iter X.env x = pure x := by intro _; rfl) : MS X G (.For tg iter body [] pos) (sFor si sg s) := fun ok => ps_imp (ps_for ok.po hc (hi ok) hg (hb ok) hs) fun E σ H h => by
  obtain ⟨p, env, S, rs, rst, g0⟩ := h
  refine ⟨p, env, S, rs, rst, (g0.and rs).imp fun w S1 H1 p1 e1 r1 g1 J hw => ?_⟩
  obtain ⟨q1, q2, q3⟩ := g1
  refine for_it hw (fun i σ H => ∃ p env S, Ext X.K H1 H p1 p ∧ Rs X.K H p env σ ∧ RSt X.K H p S ∧ GoodS X.K G H p (forRun sg s w.chk (w.items.drop i) env S) E) ⟨p1, env, S1, .refl, q1, q2, q3⟩ ?_ ?_ ?_
  · rintro i σ H hi ⟨p, env, S, ex, rs, rst, g⟩
    exact ⟨p, S, ex, rst, forRun_chk g.ne⟩
  · rintro i x σ H H' hi ⟨p, env, S, ex, rs, rst, g⟩ hy
    have hck : w.chk S := forRun_chk g.ne
    obtain ⟨d, hd, ex2, rst2, rx⟩ := hy p S ex rst hck
    have hdrop : w.items.drop i = d :: w.items.drop (i + 1) := by
      obtain ⟨h1, h2⟩ := List.getElem?_eq_some_iff.mp hd
      rw [List.drop_eq_getElem_cons h1, h2]
    rw [hdrop] at g
    unfold forRun at g
    rw [if_pos hck] at g
    cases hgd : sg d env S with
    | none => rw [hgd] at g; exact g.elim
    | some e =>
      rw [hgd] at g
      dsimp only at g
      refine ht σ H' p env e S d x _ (rs.mono ex2) rst2 rx hgd fun σ2 rs2 _ => ?_
      refine ⟨p, e, S, rs2, rst2, ?_⟩
      have g := GoodS.at ex2 g
      have ex3 := ex.trans ex2
      cases hb : s e S with
      | nx e' S2 => rw [hb] at g; exact fun σ3 H3 p3 x3 rs3 r3 => ⟨p3, e', S2, ex3.trans x3, rs3, r3, g.at x3⟩
      | ct e' S2 => rw [hb] at g; exact fun σ3 H3 p3 x3 rs3 r3 => ⟨p3, e', S2, ex3.trans x3, rs3, r3, g.at x3⟩
      | bk e' S2 => rw [hb] at g; exact g
      | rt e' S2 => rw [hb] at g; exact g
      | exc y e' S2 => rw [hb] at g; exact g
      | bad => rw [hb] at g; exact g
  · rintro σ H ⟨p, env, S, ex, rs, rst, g⟩
    rw [List.drop_length] at g
    have hck : w.chk S := forRun_chk g.ne
    unfold forRun at g
    rw [if_pos hck] at g
    exact g σ H p .refl rs rst
end
end Rg
/-! RgBg: comprehensions, defs, the end. -/
namespace Rg
open PySem PySem.Spec PyProof.Rows L2
def wipeD (env : Env) : List Nat → Env
  | [] => env
  | v :: vs => (wipeD env vs).set v none
theorem Rs.wipe {K : PySem.W.Frag} {H : Hp} {p : List Addr} {env : Env} {σ : L2.St} (h : Rs K H p env σ) : ∀ vs : List Nat, Rs K H p (wipeD env vs) (L2.wipe σ vs)
  | [] => h
  | v :: vs => by
    have ih := Rs.wipe h vs
    refine ⟨by simp [wipeD, L2.wipe, ih.1], fun i d q => ?_⟩
    unfold wipeD at q
    unfold L2.wipe
    by_cases hi : v = i
    · subst hi
      by_cases hv : v < (wipeD env vs).length
      · rw [List.getElem?_set_self hv] at q
        cases q
      · rw [List.getElem?_eq_none (by simpa using hv)] at q
        cases q
    · rw [List.getElem?_set_ne hi] at q ⊢
      exact ih.2 i d q
theorem wipe_mem {σ : L2.St} {v : Nat} : ∀ {vs : List Nat}, v ∈ vs → (wipe σ vs).set v none = wipe σ vs
  | [], h => by cases h
  | w :: vs, h => by
    unfold wipe
    by_cases e : v = w
    · subst e
      rw [List.set_set]
    · rw [List.set_comm _ _ (Ne.symm e), wipe_mem ((List.mem_cons.mp h).resolve_left e)]
theorem wipe_sub {σ : L2.St} {vs : List Nat} : ∀ {ws : List Nat}, (∀ i ∈ ws, i ∈ vs) → wipe (wipe σ vs) ws = wipe σ vs
  | [], _ => rfl
  | w :: ws, h => by
    show (wipe (wipe σ vs) ws).set w none = wipe σ vs
    rw [wipe_sub fun i hi => h i (List.mem_cons_of_mem _ hi)]
    exact wipe_mem (h w (by simp))
def Gno (xv : Str → Value) : Gx := ⟨xv, fun _ _ _ _ => False⟩
section
variable {X : Cx} {G : Gx} {e a b c o tg iter elt : Expr} {pos : Pos} {sa sb so : SE} {st su : ST} {es ifs : List Expr} {sr : SA} {s t : SS} {x : Stmt} {rest xs ys body : List Stmt}
def MTs (X : Cx) (G : Gx) (ifs : List Expr) (s : ST) : Prop := Cok X G → PTs X ifs (TTo X.K G s)
def sYes : ST := fun _ S => .ok true S
theorem pts_imp {t t' : TT} (h : PTs X ifs t) (hi : ∀ σ H Q, t' σ H Q → t σ H Q) : PTs X ifs t' := ⟨fun pins s σ H Q I q => h.run pins s σ H Q I (hi _ _ _ q)⟩
theorem mts_nil : MTs X G [] sYes := fun _ => pts_imp pts_nil fun σ H Q h => by
  obtain ⟨p, env, S, rs, rst, g⟩ := h
  exact g H p .refl rst
theorem mts_one (h : MT X G c st) : MTs X G [c] st := fun ok => pts_one (h ok)
open Classical in
noncomputable def compRun (g : SG) (t : ST) (e : SE) (chk : Store → Prop) (n0 : Nat) (env0 : Env) : List D → Store → Res Unit
  | [], S => if chk S then .ok () S else .bad
  | d :: l, S => if chk S then match g d env0 S with
    | some env => match t env S with
      | .ok true S1 => match e env S1 with
        | .ok y S2 => match S2[n0]? with
          | some (.lst acc) => if acc.length < sizeLine then compRun g t e chk n0 env0 l (S2.set n0 (.lst (acc ++ [y]))) else .bad
          | _ => .bad
        | _ => .bad
      | .ok false S1 => compRun g t e chk n0 env0 l S1
      | _ => .bad
    | none => .bad
    else .bad
noncomputable def sComp (si : SI) (g : SG) (t : ST) (e : SE) (vs : List Nat) : SE := fun env S => (si env S).bind fun w S1 => (compRun g t e w.chk S1.length (wipeD env vs) w.items (S1 ++ [.lst []])).bind fun _ S2 => .ok (.ref S1.length) S2
theorem compRun_chk {g : SG} {t : ST} {e : SE} {chk : Store → Prop} {n0 : Nat} {env0 : Env} {l : List D} {S : Store} (h : compRun g t e chk n0 env0 l S ≠ .bad) : chk S := by
  cases l with
  | nil =>
    unfold compRun at h
    split at h
    · assumption
    · exact absurd rfl h
  | cons d l =>
    unfold compRun at h
    split at h
    · assumption
    · exact absurd rfl h
theorem Good.ne {K : PySem.W.Frag} {A : Type} {σ : L2.St} {H : Hp} {p : List Addr} {r : Res A} {P : A → Store → Hp → List Addr → Prop} (h : Good K G σ H p r P) : r ≠ .bad := fun e => by
  subst e
  exact h
theorem lc_of {K : PySem.W.Frag} {g : TG} {sg : SG} {vs us : List Nat} {si : SI} {xv : Str → Value} (ht : TgOk K us g sg) (hus : ∀ i ∈ us, i ∈ vs) {σ : L2.St} {H : Hp} {Q : VK} (h : TEo K G (sComp si sg st sa vs) σ H Q) :
    tLc (TIo K G si) g (TTo K (Gno xv) st) (TEo K (Gno xv) sa) vs σ H Q := by
  obtain ⟨p, env, S, rs, rst, g0⟩ := h
  refine ⟨p, env, S, rs, rst, g0.bind.imp fun w S1 H1 p1 e1 r1 g1 J hw D hD => ?_⟩
  have rs1 : Rs K H1 p1 env σ := rs.mono e1
  have P0 := r1.push (c := .lst []) (o := .lst []) hD ⟨[], upd_same, RVs.nil⟩
  obtain ⟨E0, R0, q0⟩ := P0
  refine lc_it hw (fun i H => ∃ p S, Ext K H1 H p1 p ∧ RSt K H p S ∧ p[S1.length]? = some D ∧ Good K G σ H p ((compRun sg st sa w.chk S1.length (wipeD env vs) (w.items.drop i) S).bind fun _ S2 => .ok (.ref S1.length) S2) (PV K Q)) ⟨_, _, E0, R0, q0, by rw [List.drop_zero]; exact g1.at E0⟩ ?_ ?_ ?_
  · rintro i H hi ⟨p, S, ex, R, q, g⟩
    exact ⟨p, S, ex, R, compRun_chk fun z => g.ne (by rw [z]; rfl)⟩
  · rintro i x H H' hi ⟨p, S, ex, R, q, g⟩ hy
    have hck : w.chk S := compRun_chk fun z => g.ne (by rw [z]; rfl)
    obtain ⟨d, hd, ex2, R2, rx⟩ := hy p S ex R hck
    have hdrop : w.items.drop i = d :: w.items.drop (i + 1) := by
      obtain ⟨h1, h2⟩ := List.getElem?_eq_some_iff.mp hd
      rw [List.drop_eq_getElem_cons h1, h2]
    rw [hdrop] at g
    unfold compRun at g
    rw [if_pos hck] at g
    have ex3 := ex.trans ex2
    have g := g.at ex2
    have rsw : Rs K H' p (wipeD env vs) (wipe σ vs) := (rs1.mono ex3).wipe vs
    cases hgd : sg d (wipeD env vs) S with
    | none => rw [hgd] at g; exact g.elim
    | some env' =>
      rw [hgd] at g
      dsimp only at g
      refine ht (wipe σ vs) H' p (wipeD env vs) env' S d x _ rsw R2 rx hgd fun σ2 rs2 w2 => ⟨(w2 vs hus).trans (wipe_sub fun i hi => hi), ?_⟩
      refine ⟨p, env', S, rs2, R2, ?_⟩
      cases hst : st env' S with
      | ok b S2 =>
        rw [hst] at g
        intro H3 p3 x3 R3
        cases b with
        | false =>
          dsimp only at g ⊢
          rw [if_neg Bool.false_ne_true]
          exact ⟨p3, S2, ex3.trans x3, R3, x3.pre _ _ q, g.at x3⟩
        | true =>
          dsimp only at g ⊢
          rw [if_pos rfl]
          refine ⟨p3, env', S2, rs2.mono x3, R3, ?_⟩
          cases hsa : sa env' S2 with
          | ok y S3 =>
            rw [hsa] at g
            dsimp only at g
            intro H4 p4 x4 R4 v rv
            split at g
            · rename_i acc hacc
              split at g
              · rename_i hz
                have q4 := x4.pre _ _ (x3.pre _ _ q)
                obtain ⟨zs, z1, z2⟩ := R4.cell _ _ D hacc q4
                obtain ⟨E5, R5⟩ := R4.setL hacc q4 (z2.app (RVs.cons rv RVs.nil))
                exact ⟨zs, z1, by rw [← z2.len]; exact hz, p4, _, (ex3.trans (x3.trans x4)).trans E5, R5, q4, g.at ((x3.trans x4).trans E5)⟩
              · exact g.elim
            · exact g.elim
          | exc c S3 => rw [hsa] at g; exact g.elim
          | bad => rw [hsa] at g; exact g.elim
      | exc c S2 => rw [hst] at g; exact g.elim
      | bad => rw [hst] at g; exact g.elim
  · rintro H ⟨p, S, ex, R, q, g⟩
    rw [List.drop_length] at g
    have hck : w.chk S := compRun_chk fun z => g.ne (by rw [z]; rfl)
    unfold compRun at g
    rw [if_pos hck] at g
    exact g H p .refl R _ (RV.ref_iff.mpr ⟨D, rfl, q⟩)
theorem me_lc {scope : Scope} {own : List (Str × Nat)} {g : TG} {sg : SG} {us : List Nat} {si : SI} (hN : X.N.Nodup) (hi : MI X G tg iter si) (ok : BlkOk X.N X.env.scope scope own)
    (hg : ∀ (s : Shared) (H : Hp) (C : Addr) (cl : List (Str × Addr)) (fp : List Addr), PG (X.blk s H scope (compEnvC scope cl C X.env) fp) tg g) (ht : TgOk X.K us g sg) (hus : ∀ i ∈ us, i ∈ own.map (·.2))
    (htt : ∀ (s : Shared) (H : Hp) (C : Addr) (cl : List (Str × Addr)) (fp : List Addr), MTs (X.blk s H scope (compEnvC scope cl C X.env) fp) (Gno G.xv) ifs st)
    (he : ∀ (s : Shared) (H : Hp) (C : Addr) (cl : List (Str × Addr)) (fp : List Addr), ME (X.blk s H scope (compEnvC scope cl C X.env) fp) (Gno G.xv) elt sa) (hc : X.calm = true := by rfl) (hs : ∀ x, foldedSetIterable iter X.env x = pure x := by intro _; rfl) :
    ME X G (.ListComp elt [⟨tg, iter, ifs, 0⟩] scope pos) (sComp si sg st sa (own.map (·.2))) := fun ck =>
  pe_imp (pe_lc hc hN (hi ck) ok hg (fun s H C cl fp => htt s H C cl fp ⟨takes0, PassesOwn.never⟩) (fun s H C cl fp => he s H C cl fp ⟨takes0, PassesOwn.never⟩) hs) fun σ H Q h => lc_of (xv := G.xv) ht hus h
theorem ms_setLc {i : Nat} {y : Str} {py : Pos} {spos : Pos} {scope : Scope} {own : List (Str × Nat)} {g : TG} {sg : SG} {us : List Nat} {si : SI} (hN : X.N.Nodup) (hi : MI X G tg iter si) (ok : BlkOk X.N X.env.scope scope own)
    (hg : ∀ (s : Shared) (H : Hp) (C : Addr) (cl : List (Str × Addr)) (fp : List Addr), PG (X.blk s H scope (compEnvC scope cl C X.env) fp) tg g) (ht : TgOk X.K us g sg) (hus : ∀ i ∈ us, i ∈ own.map (·.2))
    (htt : ∀ (s : Shared) (H : Hp) (C : Addr) (cl : List (Str × Addr)) (fp : List Addr), MTs (X.blk s H scope (compEnvC scope cl C X.env) fp) (Gno G.xv) ifs st)
    (he : ∀ (s : Shared) (H : Hp) (C : Addr) (cl : List (Str × Addr)) (fp : List Addr), ME (X.blk s H scope (compEnvC scope cl C X.env) fp) (Gno G.xv) elt sa)
    (hsw : swapsWith (.ListComp elt [⟨tg, iter, ifs, 0⟩] scope pos) (some (.Name y py)) spos.line X.env = pure true) (hy : X.N[i]? = some y := by rfl) (hyl : X.env.scope.names.lookup y = some .local := by rfl) (hc : X.calm = true := by rfl) (hs : ∀ x, foldedSetIterable iter X.env x = pure x := by intro _; rfl) :
    MS X G (.Assign [.Name y py] (.ListComp elt [⟨tg, iter, ifs, 0⟩] scope pos) spos) (sSet i (sComp si sg st sa (own.map (·.2)))) := fun ck =>
  ps_imp (L2.ps_setLc hc hN hy hyl hsw (hi ck) ok hg (fun s H C cl fp => htt s H C cl fp ⟨takes0, PassesOwn.never⟩) (fun s H C cl fp => he s H C cl fp ⟨takes0, PassesOwn.never⟩) hs) fun E σ H h => by
    obtain ⟨p, env, S, rs, rst, g⟩ := h
    refine lc_of (G := G) (xv := G.xv) (Q := fun x H1 => gName i x σ H1 E.nx) ht hus ⟨p, env, S, rs, rst, (g.and rs).imp fun d S1 H1 p1 e1 r1 g1 v rv => ?_⟩
    exact g1.2.2 _ H1 p1 .refl (g1.1.set i rv) g1.2.1
/-! ### reversed -/
def fRev (d : D) (S : Store) : Res Wk := match d with
  | .tup l => .ok ⟨l.reverse, fun _ => True⟩ S
  | .ref n => match lstOf S n with
    | some l => .ok ⟨l.reverse, fun S => lstOf S n = some l⟩ S
    | none => .bad
  | _ => .bad
def sRev (s : SE) : SI := fun env S => (s env S).bind fun d S1 => fRev d S1
theorem rev_at {α : Type} {l : List α} {i : Nat} (hi : i < l.length) : l.reverse[i]? = l[l.length - 1 - i]? := by
  rw [List.getElem?_reverse hi]
theorem mi_rev {p : Pos} (hm : X.mg "reversed" = none) (ha : ME X G a sa) (hg : Gl X "reversed" := by rfl) (hs : starEach [a] X.env = (false, eval a X.env) :: starEach [] X.env := by rfl) : MI X G tg (.Call (.Name "reversed" p) [a] [] pos) (sRev sa) := fun ok => pi_imp (RT.pi_revA hg hm (ha ok) hs) fun σ H R h => by
  obtain ⟨p, env, S, rs, rst, g⟩ := h
  refine one rs rst g fun H1 p1 S1 d x _ rs1 r1 rx g1 => ?_
  unfold fRev at g1
  split at g1
  · rename_i l
    obtain ⟨a, xs, rfl, h1, h2⟩ := RV.tup_iff.mp rx
    refine ⟨a, xs, rfl, .inr ⟨h1, g1 H1 p1 .refl r1 _ ?_⟩⟩
    have e := h2.len
    refine ⟨fun i H hi q => ?_, fun H q => ?_, fun i H x H' hi q y p S e' R hc => ?_⟩
    · obtain ⟨p, S, e', R, hc⟩ := q
      have hi : i < xs.length := by rw [← e]; simpa using hi
      exact ⟨hi, xs, xs[xs.length - 1 - i]'(by omega), e'.tup _ _ h1, by simp [show xs.length - 1 - i < xs.length by omega]⟩
    · show xs.length ≤ l.reverse.length
      simp [e]
    · have hi : i < l.length := by simpa using hi
      obtain ⟨rfl, y⟩ := y
      obtain ⟨d, e1, e2⟩ := h2.get' (y xs (e'.tup _ _ h1))
      refine ⟨d, ?_, .refl, R, RV.mono e' _ _ e2⟩
      show l.reverse[i]? = some d
      rw [rev_at hi, e]
      exact e1
  · split at g1
    · rename_i l hl
      obtain ⟨a, rfl, e⟩ := RV.ref_iff.mp rx
      obtain ⟨xs, h1, h2⟩ := list_at e .refl r1 hl
      refine ⟨a, xs, rfl, .inl ⟨h1, g1 H1 p1 .refl r1 _ ?_⟩⟩
      have el := h2.len
      refine ⟨fun i H hi q => ?_, fun H q => ?_, fun i H x H' hi q y p S e' R hc => ?_⟩
      · obtain ⟨p, S, e', R, hc⟩ := q
        have hi : i < l.length := by simpa using hi
        obtain ⟨ys, h3, h4⟩ := list_at e e' R hc
        have el2 := h4.len
        refine ⟨by omega, ys, ys[xs.length - 1 - i]'(by omega), h3, by simp [show xs.length - 1 - i < ys.length by omega]⟩
      · show xs.length ≤ l.reverse.length
        simp [el]
      · have hi : i < l.length := by simpa using hi
        obtain ⟨rfl, y⟩ := y
        obtain ⟨ys, h3, h4⟩ := list_at e e' R hc
        obtain ⟨d, e1, e2⟩ := h4.get' (y ys h3)
        refine ⟨d, ?_, .refl, R, e2⟩
        show l.reverse[i]? = some d
        rw [rev_at hi, el]
        exact e1
    · exact g1.elim
  · exact g1.elim
end
/-! ### defs -/
mutual
/-- no reference to a thing from N on -/
def D.under (N : Nat) : D → Bool
  | .ref n => decide (n < N)
  | .tup l => unders N l
  | _ => true
def unders (N : Nat) : List D → Bool
  | [] => true
  | d :: l => d.under N && unders N l
end
mutual
/-- each reference from N on is n -/
def D.only (N n : Nat) : D → Bool
  | .ref m => decide (m < N) || decide (m = n)
  | .tup l => onlys N n l
  | _ => true
def onlys (N n : Nat) : List D → Bool
  | [] => true
  | d :: l => d.only N n && onlys N n l
end
mutual
/-- references from N on become N -/
def D.subst (N : Nat) : D → D
  | .ref m => .ref (if m < N then m else N)
  | .tup l => .tup (substs N l)
  | d => d
def substs (N : Nat) : List D → List D
  | [] => []
  | d :: l => d.subst N :: substs N l
end
mutual
/-- a reference from N on, if any -/
def D.fresh (N : Nat) : D → Option Nat
  | .ref m => if m < N then none else some m
  | .tup l => freshs N l
  | _ => none
def freshs (N : Nat) : List D → Option Nat
  | [] => none
  | d :: l => (d.fresh N).or (freshs N l)
end
def Cell.under (N : Nat) : Cell → Bool
  | .lst l => unders N l
  | .fro l => unders N l
  | .dct => true
  | .ins _ fs => unders N (fs.map (·.2))
/-- what stood stands, or refers to what stood -/
def Kept (S0 S1 : Store) : Prop := S0.length ≤ S1.length ∧ ∀ n, n < S0.length → S1[n]? = S0[n]? ∨ ∃ c, S1[n]? = some c ∧ c.under S0.length = true
open Classical in
/-- at a def's end what nobody reaches is left out -/
noncomputable def gc (S0 : Store) (d : D) (S1 : Store) : Res D :=
  if Kept S0 S1 then match d.fresh S0.length with
    | none => .ok d (S1.take S0.length)
    | some n => if d.only S0.length n = true then match S1[n]? with
        | some (.lst l) => if unders S0.length l = true then .ok (d.subst S0.length) (S1.take S0.length ++ [.lst l]) else .ok d S1
        | _ => .ok d S1
      else .ok d S1
  else .ok d S1
noncomputable def mkDef (n np : Nat) (body : SS) : Mf := fun ds S => if ds.length = np then match body (ds.map some ++ List.replicate (n - ds.length) none) S with
    | .rt d S1 => gc S d S1
    | .nx _ S1 => gc S .non S1
    | .exc c _ S1 => .exc c S1
    | _ => .bad
  else .bad
mutual
theorem fresh_none {N n : Nat} : ∀ (d : D), d.fresh N = none → d.under N = true
  | .non, _ => rfl
  | .bl _, _ => rfl
  | .int _, _ => rfl
  | .str _, _ => rfl
  | .ref m, h => by
    unfold D.fresh at h
    unfold D.under
    split at h
    · simpa
    · cases h
  | .tup l, h => by
    unfold D.fresh at h
    unfold D.under
    exact freshs_none (n := n) l h
theorem freshs_none {N n : Nat} : ∀ (l : List D), freshs N l = none → unders N l = true
  | [], _ => rfl
  | d :: l, h => by
    unfold freshs at h
    unfold unders
    cases hd : d.fresh N with
    | some m => rw [hd] at h; cases h
    | none =>
      rw [hd] at h
      rw [fresh_none (n := n) d hd, freshs_none (n := n) l (by simpa using h)]
      rfl
end
mutual
theorem fresh_ge {N n : Nat} : ∀ (d : D), d.fresh N = some n → N ≤ n
  | .ref m, h => by
    unfold D.fresh at h
    split at h
    · cases h
    · cases h; omega
  | .tup l, h => by
    unfold D.fresh at h
    exact freshs_ge l h
theorem freshs_ge {N n : Nat} : ∀ (l : List D), freshs N l = some n → N ≤ n
  | d :: l, h => by
    unfold freshs at h
    cases hd : d.fresh N with
    | some m =>
      rw [hd] at h
      cases h
      exact fresh_ge d hd
    | none =>
      rw [hd] at h
      exact freshs_ge l (by simpa using h)
end
section
variable {K : PySem.W.Frag} {H H' : Hp} {p p' q : List Addr}
mutual
theorem RV.under : ∀ (d : D) (v : V), RV K H p d v → d.under p.length = true
  | .non, _, _ => rfl
  | .bl _, _, _ => rfl
  | .int _, _, _ => rfl
  | .str _, _, _ => rfl
  | .ref m, v, h => by
    obtain ⟨a, rfl, e⟩ := RV.ref_iff.mp h
    unfold D.under
    exact decide_eq_true (List.getElem?_eq_some_iff.mp e).1
  | .tup l, v, h => by
    obtain ⟨a, xs, rfl, _, r⟩ := RV.tup_iff.mp h
    unfold D.under
    exact RVs.under l xs r
theorem RVs.under : ∀ (l : List D) (xs : List V), RVs K H p l xs → unders p.length l = true
  | [], _, _ => rfl
  | d :: l, _, h => by
    obtain ⟨x, r, rfl, h2, h3⟩ := RVs.cons_iff.mp h
    unfold unders
    rw [RV.under d x h2, RVs.under l r h3]
    rfl
end
mutual
theorem RV.down {N : Nat} (e : ∀ n, n < N → q[n]? = p[n]?) : ∀ (d : D) (v : V), d.under N = true → RV K H p d v → RV K H q d v
  | .non, _, _, h => by rw [RV.non_iff] at h ⊢; exact h
  | .bl _, _, _, h => by rw [RV.bl_iff] at h ⊢; exact h
  | .int _, _, _, h => by rw [RV.int_iff] at h ⊢; exact h
  | .str _, _, _, h => by rw [RV.str_iff] at h ⊢; exact h
  | .ref m, v, b, h => by
    obtain ⟨a, rfl, x⟩ := RV.ref_iff.mp h
    unfold D.under at b
    exact RV.ref_iff.mpr ⟨a, rfl, by rw [e m (of_decide_eq_true b)]; exact x⟩
  | .tup l, v, b, h => by
    obtain ⟨a, xs, rfl, x, r⟩ := RV.tup_iff.mp h
    unfold D.under at b
    exact RV.tup_iff.mpr ⟨a, xs, rfl, x, RVs.down e l xs b r⟩
theorem RVs.down {N : Nat} (e : ∀ n, n < N → q[n]? = p[n]?) : ∀ (l : List D) (xs : List V), unders N l = true → RVs K H p l xs → RVs K H q l xs
  | [], _, _, h => by rw [RVs.nil_iff] at h ⊢; exact h
  | d :: l, _, b, h => by
    obtain ⟨x, r, rfl, h2, h3⟩ := RVs.cons_iff.mp h
    unfold unders at b
    rw [Bool.and_eq_true] at b
    exact RVs.cons (RV.down e d x b.1 h2) (RVs.down e l r b.2 h3)
end
mutual
theorem RV.subst {N n : Nat} (e : ∀ m, m < N → q[m]? = p[m]?) (en : q[N]? = p[n]?) : ∀ (d : D) (v : V), d.only N n = true → RV K H p d v → RV K H q (d.subst N) v
  | .non, _, _, h => by unfold D.subst; rw [RV.non_iff] at h ⊢; exact h
  | .bl _, _, _, h => by unfold D.subst; rw [RV.bl_iff] at h ⊢; exact h
  | .int _, _, _, h => by unfold D.subst; rw [RV.int_iff] at h ⊢; exact h
  | .str _, _, _, h => by unfold D.subst; rw [RV.str_iff] at h ⊢; exact h
  | .ref m, v, b, h => by
    obtain ⟨a, rfl, x⟩ := RV.ref_iff.mp h
    unfold D.only at b
    unfold D.subst
    refine RV.ref_iff.mpr ⟨a, rfl, ?_⟩
    by_cases hm : m < N
    · rw [if_pos hm, e m hm]; exact x
    · have : m = n := by simpa [hm] using b
      subst this
      rw [if_neg hm, en]; exact x
  | .tup l, v, b, h => by
    obtain ⟨a, xs, rfl, x, r⟩ := RV.tup_iff.mp h
    unfold D.only at b
    unfold D.subst
    exact RV.tup_iff.mpr ⟨a, xs, rfl, x, RVs.subst e en l xs b r⟩
theorem RVs.subst {N n : Nat} (e : ∀ m, m < N → q[m]? = p[m]?) (en : q[N]? = p[n]?) : ∀ (l : List D) (xs : List V), onlys N n l = true → RVs K H p l xs → RVs K H q (substs N l) xs
  | [], _, _, h => by unfold substs; rw [RVs.nil_iff] at h ⊢; exact h
  | d :: l, _, b, h => by
    obtain ⟨x, r, rfl, h2, h3⟩ := RVs.cons_iff.mp h
    unfold onlys at b
    rw [Bool.and_eq_true] at b
    unfold substs
    exact RVs.cons (RV.subst e en d x b.1 h2) (RVs.subst e en l r b.2 h3)
end
theorem RC.down {N : Nat} (e : ∀ n, n < N → q[n]? = p[n]?) {a : Addr} {c : Cell} (b : c.under N = true) (h : RC K H p a c) : RC K H q a c := by
  cases c with
  | lst l => obtain ⟨xs, h1, h2⟩ := h; exact ⟨xs, h1, RVs.down e _ _ b h2⟩
  | fro l => obtain ⟨xs, h1, h2⟩ := h; exact ⟨xs, h1, RVs.down e _ _ b h2⟩
  | dct => exact h
  | ins C fs => obtain ⟨dx, vs, h1, h2, h3⟩ := h; exact ⟨dx, vs, h1, h2, RVs.down e _ _ b h3⟩
theorem RC.under {a : Addr} {c : Cell} (h : RC K H p a c) : c.under p.length = true := by
  cases c with
  | lst l => obtain ⟨xs, h1, h2⟩ := h; exact RVs.under _ _ h2
  | fro l => obtain ⟨xs, h1, h2⟩ := h; exact RVs.under _ _ h2
  | dct => rfl
  | ins C fs => obtain ⟨dx, vs, h1, h2, h3⟩ := h; exact RVs.under _ _ h3
theorem RSt.lt {S : Store} {n : Nat} {a : Addr} (R : RSt K H p S) (h : p[n]? = some a) : n < S.length := by
  rw [← R.len]; exact (List.getElem?_eq_some_iff.mp h).1
/-- what was left out is not missed -/
theorem gc_ok {S0 S1 : Store} {d : D} {v : V} {P : D → Store → Hp → List Addr → Prop} {G : Gx} {σ : L2.St} (r0 : RSt K H p S0) (x : Ext K H H' p p') (r : RSt K H' p' S1) (rv : RV K H' p' d v)
    (g : Good K G σ H p (gc S0 d S1) P) : ∃ d' S' p'', P d' S' H' p'' ∧ RV K H' p'' d' v := by
  have plain : P d S1 H' p' → ∃ d' S' p'', P d' S' H' p'' ∧ RV K H' p'' d' v := fun h => ⟨d, S1, p', h, rv⟩
  unfold gc at g
  split at g
  · rename_i kept
    have hp : p.length = S0.length := r0.len
    have hag : ∀ n, n < S0.length → p[n]? = p'[n]? := fun n hn => by
      have e : p[n]? = some (p[n]'(by omega)) := List.getElem?_eq_getElem _
      rw [x.pre n _ e]
      exact e
    -- the cells that stood
    have cell : ∀ (n : Nat) (c : Cell) (a : Addr), n < S0.length → S1[n]? = some c → p[n]? = some a → c.under S0.length = true ∧ RC K H' p' a c := fun n c a hn e1 e2 => by
      refine ⟨?_, r.cell n c a e1 (x.pre n a e2)⟩
      rcases kept.2 n hn with z | ⟨c', z, b⟩
      · rw [z] at e1
        rw [← hp]
        exact (r0.cell n c a e1 e2).under
      · rw [z] at e1
        cases e1
        exact b
    split at g
    · rename_i hf
      have b := fresh_none (n := 0) d hf
      refine ⟨d, S1.take S0.length, p, g H' p ⟨fun _ _ h => h, x.tup⟩ ⟨?_, fun n c a e1 e2 => ?_, fun m n a c c' e1 e2 m1 m2 e3 e4 => ?_⟩, RV.down hag d v b rv⟩
      · rw [List.length_take, hp]; have := kept.1; omega
      · have hn : n < S0.length := r0.lt e2
        rw [List.getElem?_take_of_lt hn] at e1
        obtain ⟨b, h⟩ := cell n c a hn e1 e2
        exact h.down hag b
      · have hm : m < S0.length := r0.lt e3
        have hn : n < S0.length := r0.lt e4
        rw [List.getElem?_take_of_lt hm] at e1
        rw [List.getElem?_take_of_lt hn] at e2
        exact r.inj m n a c c' e1 e2 m1 m2 (x.pre _ _ e3) (x.pre _ _ e4)
    · rename_i k hf
      have hk := fresh_ge d hf
      split at g
      · rename_i ho
        split at g
        · rename_i l hl
          split at g
          · rename_i bl
            have hk1 : k < S1.length := (List.getElem?_eq_some_iff.mp hl).1
            have hk2 : k < p'.length := by rw [r.len]; exact hk1
            have ek : p'[k]? = some (p'[k]'hk2) := List.getElem?_eq_getElem _
            generalize p'[k]'hk2 = qa at ek
            have len0 : (S1.take S0.length).length = S0.length := by rw [List.length_take]; have := kept.1; omega
            have up : ∀ n, n < S0.length → (p ++ [qa])[n]? = p'[n]? := fun n hn => by
              rw [List.getElem?_append_left (by omega)]
              exact hag n hn
            have un : (p ++ [qa])[S0.length]? = p'[k]? := by
              rw [List.getElem?_append_right (by omega), hp, ek]
              simp
            -- the places that stood, and the new one
            have place : ∀ (n : Nat) (c : Cell) (a : Addr), (S1.take S0.length ++ [.lst l])[n]? = some c → (p ++ [qa])[n]? = some a → (n < S0.length ∧ S1[n]? = some c ∧ p[n]? = some a ∧ p'[n]? = some a) ∨ (n = S0.length ∧ c = .lst l ∧ p'[k]? = some a) := fun n c a e1 e2 => by
              rcases Nat.lt_or_ge n S0.length with hn | hn
              · rw [List.getElem?_append_left (by omega), List.getElem?_take_of_lt hn] at e1
                rw [List.getElem?_append_left (by omega)] at e2
                exact .inl ⟨hn, e1, e2, x.pre _ _ e2⟩
              · have hn2 : n < S0.length + 1 := by
                  have := (List.getElem?_eq_some_iff.mp e1).1
                  rw [List.length_append, len0] at this
                  simpa using this
                have hn3 : n = S0.length := by omega
                subst hn3
                rw [un] at e2
                rw [List.getElem?_append_right (by omega), len0] at e1
                simp at e1
                exact .inr ⟨rfl, e1.symm, e2⟩
            refine ⟨d.subst S0.length, S1.take S0.length ++ [.lst l], p ++ [qa], g H' (p ++ [qa]) ⟨fun n a e => ?_, x.tup⟩ ⟨?_, fun n c a e1 e2 => ?_, fun m n a c c' e1 e2 m1 m2 e3 e4 => ?_⟩, RV.subst up un d v ho rv⟩
            · rw [List.getElem?_append_left (by rw [hp]; exact r0.lt e)]
              exact e
            · rw [List.length_append, List.length_append, len0, hp]; rfl
            · rcases place n c a e1 e2 with ⟨hn, q1, q2, q3⟩ | ⟨rfl, rfl, q3⟩
              · obtain ⟨b, h⟩ := cell n c a hn q1 q2
                exact h.down up b
              · exact (r.cell k _ a hl q3).down up bl
            · rcases place m c a e1 e3 with ⟨hm, q1, q2, q3⟩ | ⟨rfl, rfl, q3⟩ <;> rcases place n c' a e2 e4 with ⟨hn, w1, w2, w3⟩ | ⟨rfl, rfl, w3⟩
              · exact r.inj m n a c c' q1 w1 m1 m2 q3 w3
              · have := r.inj m k a _ _ q1 hl m1 rfl q3 w3
                omega
              · have := r.inj n k a _ _ w1 hl m2 rfl w3 q3
                omega
              · rfl
          · exact plain (g H' p' x r)
        · exact plain (g H' p' x r)
      · exact plain (g H' p' x r)
  · exact plain (g H' p' x r)
end
theorem start_rs {K : PySem.W.Frag} {H : Hp} {p : List Addr} {N : List Str} {ds : List D} {vs : List V} (h : RVs K H p ds vs) : Rs K H p (ds.map some ++ List.replicate (N.length - ds.length) none) (L2.start N vs) := by
  have e := h.len
  unfold L2.start
  refine ⟨by simp [e], fun i d q => ?_⟩
  by_cases hi : i < ds.length
  · rw [List.getElem?_append_left (by simpa using hi), List.getElem?_map] at q
    have q' : ds[i]? = some d := by
      cases hd : ds[i]? with
      | none => rw [hd] at q; cases q
      | some x => rw [hd] at q; cases q; rfl
    obtain ⟨v, e1, e2⟩ := h.get q'
    refine ⟨v, ?_, e2⟩
    rw [List.getElem?_append_left (by simp; omega), List.getElem?_map, e1]
    rfl
  · rw [List.getElem?_append_right (by simpa using hi)] at q
    obtain ⟨h1, h2⟩ := List.getElem?_eq_some_iff.mp q
    simp at h2
section
variable {P : Program} {w : World} {K : PySem.W.Frag} {mg : Str → Option Value} {base : Heap} {x qual : Str} {st : Stmt} {dvs : List V} {kws : List (Str × V)} {f : Addr} {fd : FuncData}
theorem fn_def {N ps : List Str} {k n np : Nat} {body : SS} {xv : Str → Value} (F : FunD K x qual (defArgs st) (defBody st) (defScope st) dvs kws f fd) (S : FnScope N ps (defScope st))
    (hbody : ∀ (cdv : Value) (A : Around) (outer : List PySem.Env) (s : Shared) (H : Hp) (E : XK), Room k (A.deeper (envOfC qual (defScope st) s.heap.objs.size f cdv)) →
      MSs (cxOf (L2.CX P w) P w K mg base N qual (defScope st) f cdv A outer s H E) ⟨xv, fun cls d _ H => E cls d H⟩ (defBody st) body) (hn : N.length = n := by rfl) (hp : ps.length = np := by rfl) : FnOk P w K mg base (L2.CX P w) (k + 1) f fd ps (SpOf K xv (mkDef n np body)) := by
  subst hn hp
  refine F.ok S (fun vs H Q E h => ?_) fun cdv A outer s H vs Q E hr h => ?_
  · obtain ⟨ds, p, S0, r, rst, g⟩ := h
    unfold mkDef at g
    split at g
    · rename_i hl
      rw [← r.len]
      exact hl
    · exact g.elim
  · obtain ⟨ds, p, S0, r, rst, g⟩ := h
    refine ⟨_, hbody cdv A outer s H E hr ⟨takes_of rfl rfl rfl rfl, passes_of rfl⟩, p, _, S0, start_rs r, rst, ?_⟩
    unfold mkDef at g
    split at g
    · cases hb : body (ds.map some ++ List.replicate (N.length - ds.length) none) S0 with
      | rt d S1 =>
        rw [hb] at g
        exact fun v H' p' x r' rv => let ⟨_, _, _, q, rv'⟩ := gc_ok rst x r' rv g; q v rv'
      | nx e S1 =>
        rw [hb] at g
        exact fun σ' H' p' x _ r' => let ⟨_, _, _, q, rv'⟩ := gc_ok rst x r' (RV.non_iff.mpr rfl) g; q _ rv'
      | exc c e S1 => rw [hb] at g; exact fun σ' H' p' x _ r' => g H' p' x r'
      | bk e S1 => rw [hb] at g; exact g.elim
      | ct e S1 => rw [hb] at g; exact g.elim
      | bad => rw [hb] at g; exact g.elim
    · exact g.elim
theorem _root_.L2.FunD.lk (F : FunD K x qual (defArgs st) (defBody st) (defScope st) dvs kws f fd) : ∃ oc od osl, K.lookup f = some ⟨oc, od, .func fd, osl⟩ := by
  obtain ⟨oc, od, dV, kV, doc, pm, an, cdv, ct, osl, rfl, lk, _⟩ := F.ex
  exact ⟨oc, od, osl, lk⟩
/-- a def as it stands behind the top: the facts of it -/
structure FAt (K : PySem.W.Frag) (x : Str) (st : Stmt) (dvs : List V) : Prop where
  ex : ∃ (f : Addr) (fd : FuncData), PySem.W.nsIn K mainGlobals x = some (some (.ref f)) ∧ FunD K x x (defArgs st) (defBody st) (defScope st) dvs [] f fd
theorem fat_mk {x : Str} {st : Stmt} {dvs : List V} {f : Addr} {oc dV kV dc pm cd ct : Value} {od an : Option Addr} {sl : Array (Option Value)} (a : PySem.W.nsIn K mainGlobals x = some (some (.ref f)))
    (l : K.lookup f = some ⟨oc, od, .func (PySem.W.fnOf x x (defArgs st) (defBody st) (defScope st) dV kV dc pm an cd ct), sl⟩) (c : PySem.W.codeIn K cd x = true) (k : PySem.W.keepIn K (.ref f) = true) (d : DflV K dV dvs) : FAt K x st dvs :=
  ⟨f, _, a, ⟨oc, od, dV, kV, dc, pm, an, cd, ct, sl, rfl, l, c, d, .inl rfl⟩, k⟩
end
/-- a def with its promise, ready to be called -/
structure DefOk (P : Program) (w : World) (K : PySem.W.Frag) (mg : Str → Option Value) (base : Heap) (xv : Str → Value) (x : Str) (k : Nat) (ps : List Str) (m : Mf) : Prop where
  ex : ∃ (f : Addr) (fd : FuncData), mg x = some (.ref f) ∧ PySem.W.keepIn K (.ref f) = true ∧ Binds K fd ps [] ∧ FnOk P w K mg base (L2.CX P w) k f fd ps (SpOf K xv m) ∧ ∃ oc od osl, K.lookup f = some ⟨oc, od, .func fd, osl⟩
section
variable {X : Cx} {G : Gx} {e : Expr} {es : List Expr} {sr : SA} {pos : Pos}
theorem me_fn {x : Str} {p : Pos} {k j : Nat} {ps : List Str} {m : Mf} (F : DefOk X.prog X.w X.K X.mg X.base G.xv x k ps m) (hr : Room j X.A) (ha : MA X G (e :: es) sr) (hj : k ≤ j := by decide)
    (hg : Gl X x := by rfl) (hdb : (x == ("__debug__" : Str)) = false := by decide) (he : starEach (e :: es) X.env = (false, eval e X.env) :: starEach es X.env := by rfl) (hpl : (backTo pos (starEach es X.env)).any (·.1) = false := by rfl) :
    ME X G (.Call (.Name x p) (e :: es) [] pos) (sCall m sr) := by
  obtain ⟨f, fd, h1, h2, h3, h4, _⟩ := F.ex
  exact me_call h4 hr hj h1 h2 h3 ha hg hdb he hpl
theorem me_fn0 {x : Str} {p : Pos} {k j : Nat} {ps : List Str} {m : Mf} (F : DefOk X.prog X.w X.K X.mg X.base G.xv x k ps m) (hr : Room j X.A) (hj : k ≤ j := by decide)
    (hg : Gl X x := by rfl) (hdb : (x == ("__debug__" : Str)) = false := by decide) : ME X G (.Call (.Name x p) [] [] pos) (sCall0 m) := by
  obtain ⟨f, fd, h1, h2, h3, h4, _⟩ := F.ex
  exact me_call0 h4 hr hj h1 h2 h3 hg hdb
end
section
variable {P : Program} {w : World} {K : PySem.W.Frag} {mg : Str → Option Value} {base h : Heap}
theorem defok_mk {x : Str} {st : Stmt} {N ps : List Str} {k n np : Nat} {body : SS} {xv : Str → Value} (X : K.In h) (G : h.Ns mainGlobals mg) (F : FAt K x st []) (S : FnScope N ps (defScope st))
    (hb : ∀ (kV doc pm : Value) (an : Option Addr) (cdv ct : Value) (us : List Value), us.length = ps.length → bindArgs (PySem.W.fnOf x x (defArgs st) (defBody st) (defScope st) .none kV doc pm an cdv ct) ⟨us, []⟩ = pure (ps.zip us))
    (hbody : ∀ (f : Addr) (cdv : Value) (A : Around) (outer : List PySem.Env) (s : Shared) (H : Hp) (E : XK), Room k (A.deeper (envOfC x (defScope st) s.heap.objs.size f cdv)) →
      MSs (cxOf (L2.CX P w) P w K mg base N x (defScope st) f cdv A outer s H E) ⟨xv, fun cls d _ H => E cls d H⟩ (defBody st) body) (hn : N.length = n := by rfl) (hp : ps.length = np := by rfl) : DefOk P w K mg base xv x (k + 1) ps (mkDef n np body) := by
  obtain ⟨f, fd, a, F⟩ := F.ex
  exact ⟨f, fd, PySem.W.mg_of X G a, F.kp, F.bindsN hb, fn_def F S (hbody f) hn hp, F.lk⟩
/-- .. with defaults that are never used -/
theorem defok_mkD {x : Str} {st : Stmt} {N ps : List Str} {dvs : List V} {k n np : Nat} {body : SS} {xv : Str → Value} (X : K.In h) (G : h.Ns mainGlobals mg) (F : FAt K x st dvs) (hd : dvs ≠ []) (S : FnScope N ps (defScope st))
    (hb : ∀ (T : Addr) (kV doc pm : Value) (an : Option Addr) (cdv ct : Value) (us its : List Value), us.length = ps.length → its.length = dvs.length →
      ∃ k, bindArgs (PySem.W.fnOf x x (defArgs st) (defBody st) (defScope st) (.ref T) kV doc pm an cdv ct) ⟨us, []⟩ = seqItems? (.ref T) >>= k ∧ k (some its.toArray) = pure (ps.zip (us ++ its.drop dvs.length)))
    (hbody : ∀ (f : Addr) (cdv : Value) (A : Around) (outer : List PySem.Env) (s : Shared) (H : Hp) (E : XK), Room k (A.deeper (envOfC x (defScope st) s.heap.objs.size f cdv)) →
      MSs (cxOf (L2.CX P w) P w K mg base N x (defScope st) f cdv A outer s H E) ⟨xv, fun cls d _ H => E cls d H⟩ (defBody st) body) (hn : N.length = n := by rfl) (hp : ps.length = np := by rfl) : DefOk P w K mg base xv x (k + 1) ps (mkDef n np body) := by
  obtain ⟨f, fd, a, F⟩ := F.ex
  obtain ⟨ds, e1, e2⟩ := F.binds1 ps.length dvs.length hd (by omega) hb
  have e3 : ds = [] := by
    have := e1.length
    rw [List.drop_length] at this
    exact List.length_eq_zero_iff.mp this.symm
  subst e3
  exact ⟨f, fd, PySem.W.mg_of X G a, F.kp, e2, fn_def F S (hbody f) hn hp, F.lk⟩
end
/-- the law's own promise, at the script -/
theorem law_sp {K : PySem.W.Frag} {xv : Str → Value} {m : Mf} {H : Hp} {a : Addr} {ns : List Int} (hO : Only H) (hS : SqL K H a (ns.map V.int)) (S' : Store) (h : m [.ref 0] [.fro (ns.map D.int)] = .ok (.bl true) S') :
    SpOf K xv m [.ref a] H (fun v _ => v = .bl true) fun _ _ _ => False := by
  have hf : FroX K H a (ns.map V.int) := by
    rcases hS with (h | h) | h
    · rcases hO a with z | ⟨o, xs, z⟩
      · rw [z] at h; cases h
      · rw [z] at h; cases h
    · exact .inl h
    · exact .inr h
  have ri : ∀ ns : List Int, RVs K H [a] (ns.map D.int) (ns.map V.int) := by
    intro ns
    induction ns with
    | nil => exact RVs.nil
    | cons n r ih => exact RVs.cons (RV.int_iff.mpr rfl) ih
  refine ⟨[.ref 0], [a], [.fro (ns.map D.int)], RVs.cons (RV.ref_iff.mpr ⟨a, rfl, rfl⟩) RVs.nil, ⟨rfl, fun n c b e1 e2 => ?_, fun m n b c c' e1 e2 m1 m2 e3 e4 => ?_⟩, ?_⟩
  · cases n with
    | zero =>
      cases e1
      cases e2
      exact ⟨_, hf, ri ns⟩
    | succ n => simp at e1
  · cases m with
    | zero => cases e1; cases m1
    | succ m => simp at e1
  · rw [h]
    exact fun H' p' _ _ v rv => RV.bl_iff.mp rv
end Rg
/-! RgBh: further constructs; constants of the module; the end. -/
namespace Rg
open PySem PySem.Spec PyProof.Rows L2
/-- a constant of the module, by data -/
structure CAt (K : PySem.W.Frag) (mg : Str → Option Value) (x : Str) (d : D) : Prop where
  ex : ∃ (v : V) (u : Value), mg x = some u ∧ RelV v u ∧ KD K d v
def noXv : Str → Value := fun _ => .none
section
variable {X : Cx} {G : Gx} {e a b c o : Expr} {pos : Pos} {sa sb sc so : SE} {st su : ST} {es : List Expr} {sr : SA}
theorem me_const {x : Str} {d : D} (h : CAt X.K X.mg x d) (hg : Gl X x := by rfl) (hd : (x == ("__debug__" : Str)) = false := by decide) : ME X G (.Name x pos) (sC d) := by
  obtain ⟨v, u, h1, h2, h3⟩ := h.ex
  exact me_glob h1 h2 h3 hg hd
/-- a < b < c -/
theorem chain_of {K : PySem.W.Frag} {r r' : R2} {f g : D → D → Store → Res D} (hf : RfO K r f) (hg : RfO K r' g) {σ : L2.St} {H : Hp} {Q : VK} (h : TEo K G (sChain f g sa sb sc) σ H Q) : tChain r r' (TEo K G sa) (TEo K G sb) (TEo K G sc) σ H Q := by
  obtain ⟨p, env, S, rs, rst, g0⟩ := h
  refine one rs rst g0 fun H1 p1 S1 d x _ rs1 r1 rx g1 => ?_
  refine one rs1 r1 g1 fun H2 p2 S2 e y e2 rs2 r2 ry g2 => ?_
  refine hf G σ H2 p2 S2 d e x y _ r2 (RV.mono e2 _ _ rx) ry (g2.bind.imp fun k S3 H3 p3 e3 r3 g3 z rz => ?_)
  cases k with
  | bl k =>
    rw [RV.bl_iff] at rz
    refine ⟨k, rz, ?_⟩
    cases k with
    | false => exact g3 H3 p3 .refl r3 _ (RV.bl_iff.mpr rfl)
    | true =>
      exact one (rs2.mono e3) r3 g3 fun H4 p4 S4 u w e4 rs4 r4 rw' g4 => hg G σ H4 p4 S4 e u y w Q r4 (RV.mono (e3.trans e4) _ _ ry) rw' g4
  | _ => exact g3.elim
theorem me_chain {op op' : CmpOp} {r r' : R2} {f g : D → D → Store → Res D} (ho : OpR X (compareOp op) r) (ho' : OpR X (compareOp op') r') (hf : RfO X.K r f) (hg : RfO X.K r' g) (ha : ME X G a sa) (hb : ME X G b sb) (hc : ME X G c sc)
    (hm : lastMarks [op, op'] [b, c] = false := by rfl) : ME X G (.Compare a [op, op'] [b, c] pos) (sChain f g sa sb sc) := fun ok =>
  pe_imp (pe_chain ho ho' (ha ok) (hb ok) (hc ok) hm) fun σ H Q h => chain_of hf hg h
theorem mt_chain {op op' : CmpOp} {r r' : R2} {f g : D → D → Store → Res D} (ho : OpR X (compareOp op) r) (ho' : OpR X (compareOp op') r') (hf : RfO X.K r f) (hg : RfO X.K r' g) (ha : ME X G a sa) (hb : ME X G b sb) (hc : ME X G c sc) (hm : lastMarks [op, op'] [b, c] = false := by rfl) : MT X G (.Compare a [op, op'] [b, c] pos) (sT (sChain f g sa sb sc)) := fun ok =>
  pt_imp (pt_chain ho ho' (ha ok) (hb ok) (hc ok) hm) fun σ H Q h => chain_of hf hg (sT_of h)
theorem ms_par3 {i j l : Nat} {x y z : Str} {px py pz pt : Pos} {kt k2 pt2} (hN : X.N.Nodup) (ha : MA X G [a, b, c] sr) (hi : X.N[i]? = some x := by rfl) (hj : X.N[j]? = some y := by rfl) (hl : X.N[l]? = some z := by rfl) (hij : i ≠ j := by decide) (hil : i ≠ l := by decide) (hjl : j ≠ l := by decide)
    (hx : X.env.scope.names.lookup x = some .local := by rfl) (hy : X.env.scope.names.lookup y = some .local := by rfl) (hz : X.env.scope.names.lookup z = some .local := by rfl)
    (hw : swappedStores [.Tuple [.Name x px, .Name y py, .Name z pz] kt pt] (.Tuple [a, b, c] k2 pt2) X.env = pure (some [x, y, z]) := by rfl) (hc : X.calm = true := by rfl)
    (hs : swapsWithSole [.Tuple [.Name x px, .Name y py, .Name z pz] kt pt] (.Tuple [a, b, c] k2 pt2) pos.line X.env = pure false := by rfl) :
    MS X G (.Assign [.Tuple [.Name x px, .Name y py, .Name z pz] kt pt] (.Tuple [a, b, c] k2 pt2) pos) (sPar3 i j l sr) := fun ok => ps_imp (ps_par3 hc hN hi hj hl hij hil hjl hx hy hz (ha ok) hw hs) fun E σ H h => by
  obtain ⟨p, env, S, rs, rst, g⟩ := h
  refine ⟨p, env, S, rs, rst, (g.and rs).imp fun ds S1 H1 p1 e1 r1 g1 xs rx => ?_⟩
  obtain ⟨q1, q2, q3⟩ := g1
  split at q3
  · obtain ⟨u, r, rfl, ru, rr⟩ := RVs.cons_iff.mp rx
    obtain ⟨v, w, rfl, rv, rw'⟩ := rr.two
    exact ⟨u, v, w, rfl, q3 _ H1 p1 .refl (((q1.set i ru).set j rv).set l rw') q2⟩
  · exact q3.elim
/-- x += e, ints -/
def sAugI (i : Nat) (s : SE) : SS := fun env S => match env[i]? with
  | some (some (.int x)) => (s env S).andS env fun d S1 => match d with
    | .int y => .nx (env.set i (some (.int (x + y)))) S1
    | _ => .bad
  | _ => .bad
theorem ms_augI {i : Nat} {x : Str} {pos' : Pos} (hN : X.N.Nodup) (he : ME X G e sa) (hi : X.N[i]? = some x := by rfl) (hx : Loc X.env.scope x := by first | exact Or.inl rfl | exact Or.inr rfl) (hf : X.fn x = true ∨ X.env.scope.names.lookup x = some .local := by first | exact .inl rfl | exact .inr rfl) :
    MS X G (.AugAssign (.Name x pos') .Add e pos) (sAugI i sa) := fun ok => ps_imp (ps_aug hN hi hx (he ok) ip_add hf) fun E σ H h => by
  obtain ⟨p, env, S, rs, rst, g⟩ := h
  unfold sAugI at g
  split at g
  · rename_i k hk
    obtain ⟨v, e1, e2⟩ := rs.2 _ _ hk
    rw [RV.int_iff] at e2
    subst e2
    refine ⟨.int k, e1, p, env, S, rs, rst, (g.and rs).imp fun d S1 H1 p1 x1 r1 g1 y ry => ?_⟩
    obtain ⟨q1, q2, q3⟩ := g1
    split at q3
    · rw [RV.int_iff] at ry
      exact ⟨k, _, rfl, ry, q3 _ H1 p1 .refl (q1.set i (RV.int_iff.mpr rfl)) q2⟩
    · exact q3.elim
  · exact g.elim
/-- min(list of ints) -/
def minL : List Int → Int
  | [] => 0
  | [a] => a
  | a :: r => min a (minL r)
theorem minL_le : ∀ {l : List Int} {y : Int}, y ∈ l → minL l ≤ y
  | [a], y, h => by
    have : y = a := by simpa using h
    subst this
    exact Int.le_refl _
  | a :: b :: r, y, h => by
    show min a (minL (b :: r)) ≤ y
    rcases List.mem_cons.mp h with e | h
    · subst e; omega
    · have := minL_le h
      omega
theorem minL_mem : ∀ {l : List Int}, l ≠ [] → minL l ∈ l
  | [a], _ => by simp [minL]
  | a :: b :: r, _ => by
    have ih := minL_mem (l := b :: r) (by simp)
    show min a (minL (b :: r)) ∈ a :: b :: r
    by_cases q : a ≤ minL (b :: r)
    · rw [Int.min_eq_left q]; simp
    · rw [Int.min_eq_right (by omega)]
      exact List.mem_cons_of_mem _ ih
def fMinL : Mf := fun ds S => match (lst1 S ds).bind intsD with
  | some (a :: r) => .ok (.int (minL (a :: r))) S
  | _ => .bad
theorem rc_minL {K : PySem.W.Frag} : RfC K (rMin K) fMinL := by
  intro G σ H p S ds xs Q rst rx h
  unfold fMinL at h
  split at h
  · rename_i n r hb
    obtain ⟨a, rfl, h1⟩ := ints_of rst hb rx
    refine ⟨a, n :: r, rfl, h1, by simp, fun m hm hl => h H p .refl rst _ (RV.int_iff.mpr ?_)⟩
    have e1 := minL_le hm
    have e2 := hl _ (minL_mem (l := n :: r) (by simp))
    rw [show m = minL (n :: r) by omega]
  · exact h.elim
theorem me_minL {p : Pos} (hm : X.mg "min" = none) (ha : MA X G (e :: es) sr) (hc : X.calm = true := by rfl) (hg : Gl X "min" := by rfl) (he : starEach (e :: es) X.env = (false, eval e X.env) :: starEach es X.env := by rfl) (hpl : (backTo pos (starEach es X.env)).any (·.1) = false := by rfl) :
    ME X G (.Call (.Name "min" p) (e :: es) [] pos) (sCall fMinL sr) := me_callB (cr_min hc) rc_minL hm (by decide +kernel) ha hg (by decide) (by decide) he hpl
end
theorem cx_no {P : Program} {w : World} {H : Hp} {s s' : Shared} {e : Value} (z : L2.CX P w [] H s (fun _ _ _ => False) e s') : False := by
  obtain ⟨_, _, _, _, _, _, _, _, _, _, _, _, q⟩ := z
  exact q.elim
/-- the law's def, ready for the end -/
theorem law_end {P : Program} {w : World} {K : PySem.W.Frag} {mg : Str → Option Value} {h : Heap} {fa : Addr} {k : Nat} {ps : List Str} {m : Mf} {x : Str} {st : Stmt} {xv : Str → Value} (X : K.In h) (G : h.Ns mainGlobals mg) (hfa : mg x = some (.ref fa)) (F : FAt K x st [])
    (hb : ∀ (kV doc pm : Value) (an : Option Addr) (cdv ct : Value) (u : Value), bindArgs (PySem.W.fnOf x x (defArgs st) (defBody st) (defScope st) .none kV doc pm an cdv ct) ⟨[u], []⟩ = pure [(ps.headD x, u)])
    (hp : ps = [ps.headD x])
    (ok : ∀ base : Heap, K.In base → base.Ns mainGlobals mg → DefOk P w K mg base xv x k ps m) :
    ∃ fd : FuncData, (∀ (s : Shared) (u : Value), BindsTo s fd ⟨[u], []⟩ [(ps.headD x, u)]) ∧ ∀ base : Heap, K.In base → base.Ns mainGlobals mg → FnOk P w K mg base (L2.CX P w) k fa fd [ps.headD x] (SpOf K xv m) := by
  obtain ⟨f, fd, a, F⟩ := F.ex
  have e := hfa.symm.trans (PySem.W.mg_of X G a)
  cases e
  have F0 := F
  obtain ⟨oc, od, dV, kV, doc, pm, an, cdv, ct, osl, rfl, lk, hcd, hD, hK⟩ := F.ex
  have hdv : dV = .none := by
    rcases hD with ⟨_, e⟩ | ⟨e, _⟩
    · exact e
    · exact absurd rfl e
  subst hdv
  refine ⟨_, fun s u => .of_eq (hb kV doc pm an cdv ct u), fun base h1 h2 => ?_⟩
  obtain ⟨f', fd', g1, g2, g3, g4, oc', od', osl', lk'⟩ := (ok base h1 h2).ex
  have e2 := hfa.symm.trans g1
  cases e2
  rw [← hp]
  rw [lk] at lk'
  cases lk'
  exact g4
/-- a def that is not called -/
theorem defok_bad {P : Program} {w : World} {K : PySem.W.Frag} {mg : Str → Option Value} {base h : Heap} {x : Str} {st : Stmt} {ps : List Str} {k : Nat} {xv : Str → Value} (X : K.In h) (G : h.Ns mainGlobals mg) (F : FAt K x st [])
    (hb : ∀ (kV doc pm : Value) (an : Option Addr) (cdv ct : Value) (us : List Value), us.length = ps.length → bindArgs (PySem.W.fnOf x x (defArgs st) (defBody st) (defScope st) .none kV doc pm an cdv ct) ⟨us, []⟩ = pure (ps.zip us)) : DefOk P w K mg base xv x k ps (fun _ _ => .bad) := by
  obtain ⟨f, fd, a, F⟩ := F.ex
  have no : ∀ vs H Q E, ¬ SpOf K xv (fun _ _ => .bad) vs H Q E := fun vs H Q E h => by
    obtain ⟨_, _, _, _, _, g⟩ := h
    exact g
  exact ⟨f, fd, PySem.W.mg_of X G a, F.kp, F.bindsN hb, ⟨fun vs H Q E h => absurd h (no vs H Q E), fun A outer s H args us vs Q E _ _ _ _ h => absurd h (no vs H Q E)⟩, F.lk⟩
end Rg
/-! RgBj: further constructs: {}, a list's count of a truth. -/
namespace Rg
open PySem PySem.Spec PyProof.Rows L2
section
variable {X : Cx} {G : Gx} {e a b c o : Expr} {pos : Pos} {sa sb so : SE} {st : ST} {es : List Expr} {sr : SA}
/-- {} : a thing that is not looked into -/
def sDct : SE := fun _ S => .ok (.ref S.length) (S ++ [.dct])
theorem me_dct : ME X G (.Dict [] [] pos) sDct := fun _ => by
  refine pe_imp pe_dnewK fun σ H Q h => ?_
  obtain ⟨p, env, S, rs, rst, g⟩ := h
  intro q hq
  obtain ⟨E, R, e⟩ := rst.push (o := .dK []) (c := .dct) hq ⟨[], upd_same⟩
  exact g _ _ E R _ (RV.ref_iff.mpr ⟨q, rfl, e⟩)
/-- xs.count(truth) -/
def fCountB : D → List D → Store → Res D := fun d ds S => match d, ds with
  | .ref n, [.bl k] => match (lstOf S n).bind boolsD with
    | some bs => .ok (.int (bs.count k : Nat)) S
    | none => .bad
  | _, _ => .bad
def rCntB (K : PySem.W.Frag) : V → List V → Hp → VK → Prop := fun x xs H Q => ∃ (p : Addr) (ns : List Bool) (k : Bool), x = .ref p ∧ xs = [.bl k] ∧ SqL K H p (ns.map V.bl) ∧ Q (.int (ns.count k : Nat)) H
theorem bools_vals : ∀ {ns : List Bool} {its : List Value}, Vals (ns.map V.bl) its → its = ns.map Value.bool
  | [], its, h => by cases h; rfl
  | b :: ns, its, h => by
    cases h with
    | cons r rs =>
      rw [bools_vals rs]
      have : _ = Value.bool b := r
      rw [this]
      rfl
theorem boolOf_count {k : Bool} : ∀ {ns : List Bool}, (ns.map Value.bool).countP (isBoolOf k) = ns.count k
  | [] => rfl
  | b :: ns => by
    rw [List.map_cons, List.countP_cons, List.count_cons, boolOf_count]
    rfl
theorem mt_lcountB : MtR X "list.count" (rCntB X.K) := by
  intro pins s σ H x xs v us Q I rx rxs h
  obtain ⟨p, ns, k, rfl, rfl, hs, q⟩ := h
  cases rx
  obtain ⟨u, rfl, ru⟩ := rxs.one
  have ru : u = Value.bool k := ru
  subst ru
  obtain ⟨its, rv, ⟨⟨cls, dd, data, sl⟩, n, ho, hc, hdn, hd⟩, hlen⟩ := I.list hs
  simp only at hc hd
  subst hc hd
  have hi := bools_vals rv
  refine call_meets PySem.F.slot_list_count ⟨_, ho, rfl⟩ PySem.F.entry_list_count (PySem.F.args_list_count_2 _ _)
    (SeqAt.list_countAt p its.toArray n dd sl (.bool k) (isBoolOf k)) ⟨ho, fun y hy => ?_, ?_⟩
  · have hy : y ∈ its := by simpa using hy
    rw [hi] at hy
    obtain ⟨b, _, rfl⟩ := List.mem_map.mp hy
    exact SeqAt.EqAt.bool_bool b k
  · have ec : its.toArray.toList.countP (isBoolOf k) = ns.count k := by rw [hi]; exact boolOf_count
    refine ⟨.int (ns.count k : Nat), H, I.tok _, ⟨s.toks, ?_⟩, q⟩
    show Value.int ((its.toArray.toList.countP (isBoolOf k) : Nat) : Int) s.toks = Value.int ((ns.count k : Nat) : Int) s.toks
    rw [ec]
theorem rm_countB {K : PySem.W.Frag} : RfM K (rCntB K) fCountB := by
  intro G σ H p S d x ds xs Q rst rx rxs h
  unfold fCountB at h
  split at h
  · rename_i n k
    cases e : lstOf S n with
    | none => rw [e] at h; exact h.elim
    | some l =>
      rw [e] at h
      cases e2 : boolsD l with
      | none => rw [Option.bind_some, e2] at h; exact h.elim
      | some bs =>
        rw [Option.bind_some, e2] at h
        obtain ⟨a, zs, rfl, h1, h2⟩ := rst.list e rx
        rw [boolsD_eq e2] at h2
        have h3 := RVs.all_bl h2
        subst h3
        obtain ⟨v, rfl, rv⟩ := rxs.one
        rw [RV.bl_iff] at rv
        subst rv
        exact ⟨a, bs, k, rfl, rfl, h1, h H p .refl rst _ (RV.int_iff.mpr rfl)⟩
  · exact h.elim
theorem me_countB {apos : Pos} (ho : ME X G o so) (ha : MA X G (e :: es) sr)
    (hbase : attributeBase o "count" X.env (eval o X.env) = eval o X.env := by rfl)
    (hfew : ((backTo pos (starEach (e :: es) X.env)).all (fun x => !x.1) && (backToKw pos (keywordEach [] X.env)).all (fun x => x.1.isSome)
      && decide ((e :: es).length + ([] : List Keyword).length + (if ([] : List Keyword).isEmpty then 0 else 1) < 30)) = true := by rfl)
    (hline : (apos.endLine == pos.line) = true := by rfl) (hs : starEach (e :: es) X.env = (false, eval e X.env) :: starEach es X.env := by rfl) (hplain : (backTo pos (starEach es X.env)).any (·.1) = false := by rfl) :
    ME X G (.Call (.Attribute o "count" apos) (e :: es) [] pos) (sMethL fCountB so sr) := me_bmL PySem.F.slot_list_count PySem.F.type_list_count mt_lcountB rm_countB ho ha hbase hfew hline hs hplain
end
end Rg
/-! RgBk: list(reversed(a list)). -/
namespace Rg
open PySem PySem.Spec PyProof.Rows L2
section
variable {prog : Program} {w : World} {A : Around} {E : Value → Shared → Prop} {s : Shared} {it l : Addr} {items : Array Value}
/-- an iterator that is its own, walked over and put into a list -/
structure OwnSrc (prog : Program) (w : World) (T : String) (r d : Addr) (n : Nat) (P : Nat → Value → Prop) (St : Nat → Heap → Prop) : Prop where
  type : ∀ s : Shared, St 0 s.heap → s.TypeIs (.ref r) T
  there : ∀ h : Heap, St 0 h → r < h.objs.size ∧ d < h.objs.size
  notList : (Value.type T == Value.type "list") = false
  notTuple : (Value.type T == Value.type "tuple") = false
  hint : ∀ (A : Around) (E : Value → Shared → Prop) (s : Shared) (Q : Bool → Shared → Prop), St 0 s.heap → (∀ b tk, Q b { s with toks := tk }) → wpAny (model prog w) A (Builtin.List.listLengthHint (.ref r)) Q E s
  walk : ∀ (A : Around), A.handled = none → Walks prog w A r [r, d] [r] n P St
variable {T : String} {r d : Addr} {n : Nat} {P : Nat → Value → Prop} {St : Nat → Heap → Prop}
theorem own_extend {R : Result → Shared → Prop} (K : OwnSrc prog w T r d n P St) (hh : A.handled = none) (hok : St 0 s.heap) (S : Addr) (hSr : S ≠ r) (hSd : S ≠ d) (res : Value) (c₀ : Nat) (hS : s.heap.get? S = some { cls := .type "list", data := .seq #[] c₀ })
    (hR : ∀ h' tk acc' c', (∀ b o, b ≠ S → b ≠ r → s.heap.get? b = some o → h'.get? b = some o) → h'.get? S = some { cls := .type "list", dict := none, data := .seq acc' c', slots := #[] } → ItemsOf P acc' n → R (.ok (.ret res)) { s with heap := h', toks := tk }) (hn : n ≤ sizeLine) :
    wpAny (model prog w) A.in1 (Builtin.List.listExtendWith (.ref S) (.ref r) res)
      (fun fin s' => match fin with | .done f => R (.ok f) s' | .again c' => c'.quiet = true ∧ codeAny (model prog w) A c' R s') (fun e s' => R (.error e) s') s := by
  have hSf : S ∉ [r, d] := by simp only [List.mem_cons, List.not_mem_nil, or_false, not_or]; exact ⟨hSr, hSd⟩
  have W := K.walk A.in1 hh
  have key : ∀ (h : Heap) (c₁ tk : Nat), St 0 h → (∀ b o, b ≠ S → s.heap.get? b = some o → h.get? b = some o) →
      h.get? S = some { cls := .type "list", data := .seq #[] c₁ } → codeAny (model prog w) A (.builtin "list.extend.loop" ⟨[.ref S, .ref r, res], []⟩) R { s with heap := h, toks := tk } := by
    intro h c₁ tk hst hk hS₁
    refine codeAny_extend_loopS W.toS hn S hSf res n 0 _ #[] c₁ rfl (Nat.zero_le _) hst hS₁ (ItemsOf.nil _) fun s' acc' c' hm hS' hacc => ?_
    rw [Moved.eq_with hm]
    refine hR s'.heap s'.toks acc' c' (fun b o hb hbr e => hm.heap b o (fun hmem => ?_) (hk b o hb e)) hS' hacc
    rcases List.mem_cons.mp hmem with e' | hmem
    · exact hb e'
    · exact hbr (List.mem_singleton.mp hmem)
  unfold Builtin.List.listExtendWith
  refine wpAny_bind (wpAny_typeOf (T := T) (K.type s hok) ?_)
  have h1 : Builtin.List.listSameRef (.ref S) (.ref r) = false := by simp [Builtin.List.listSameRef, hSr]
  simp only [h1, K.notList, K.notTuple, Bool.or_false, Bool.false_eq_true, if_false]
  refine wpAny_bind (W.self 0 s _ _ hok ?_)
  refine wpAny_bind (wpAny_holding (K.hint _ _ _ _ hok fun bb tk1 => ?_))
  refine wpAny_ite_split (fun _ => ?_) (fun _ => wpAny_pure ⟨plainId_quiet PySem.F.plain_extend_loop _, key _ c₀ _ hok (fun b o _ e => e) hS⟩)
  refine wpAny_bind (wpAny_rule ?_)
  refine wpAny_bind ?_
  show wpAny _ _ (updateSeq S (·.push .none) >>= fun _ => updateSeq S (·.pop)) _ _ _
  refine wpAny_bind (wpAny_updateSeq hS rfl ?_)
  have hS₂ := Heap.get?_update_self (Obj.mapSeq (·.push Value.none)) hS rfl
  refine wpAny_updateSeq (hz := by seq_fits) hS₂ rfl ?_
  have hS₃ := Heap.get?_update_self (Obj.mapSeq (·.pop)) hS₂ rfl
  refine wpAny_pure ⟨plainId_quiet PySem.F.plain_extend_loop _, key _ _ _ ?_ (fun b o hb e => ?_) hS₃⟩
  · refine W.frame 0 _ _ hok fun b hb o e => ?_
    have hbS : b ≠ S := fun h => hSf (h ▸ hb)
    exact (Heap.get?_update_other _ _ (Ne.symm hbS)).trans ((Heap.get?_update_other _ _ (Ne.symm hbS)).trans e)
  · exact (Heap.get?_update_other _ _ (Ne.symm hb)).trans ((Heap.get?_update_other _ _ (Ne.symm hb)).trans e)
theorem own_init {R : Result → Shared → Prop} (K : OwnSrc prog w T r d n P St) (hh : A.handled = none) (hok : St 0 s.heap) (S : Addr) (hSr : S ≠ r) (hSd : S ≠ d) (hS : s.heap.get? S = some { cls := .type "list", data := .seq #[] })
    (hR : ∀ h' tk acc' c', (∀ b o, b ≠ S → b ≠ r → s.heap.get? b = some o → h'.get? b = some o) → h'.get? S = some { cls := .type "list", dict := none, data := .seq acc' c', slots := #[] } → ItemsOf P acc' n → R (.ok (.ret .none)) { s with heap := h', toks := tk }) (hn : n ≤ sizeLine) :
    wpAny (model prog w) A.in1 (Builtin.«list.__init__» ⟨[.ref S, .ref r], []⟩)
      (fun fin s' => match fin with | .done f => R (.ok f) s' | .again c' => c'.quiet = true ∧ codeAny (model prog w) A c' R s') (fun e s' => R (.error e) s') s := by
  show wpAny _ _ (do let old ← Builtin.List.listItems (.ref S); Builtin.List.listUpdate (.ref S) (fun _ => #[]); letGo old.toList.reverse; Builtin.List.listExtendWith (.ref S) (.ref r) .none) _ _ s
  refine wpAny_bind ?_
  unfold Builtin.List.listItems
  refine wpAny_bind (wpAny_seqItems hS rfl (wpAny_pure ?_))
  show wpAny _ _ (updateSeq S (fun _ => #[]) >>= fun _ => letGo (#[] : Array Value).toList.reverse >>= fun _ => Builtin.List.listExtendWith (.ref S) (.ref r) .none) _ _ s
  refine wpAny_bind (wpAny_updateSeq hS rfl ?_)
  have hS₂ := Heap.get?_update_self (Obj.mapSeq (fun _ => (#[] : Array Value))) hS rfl
  have oth : ∀ b o, b ≠ S → s.heap.get? b = some o → (s.heap.update S (Obj.mapSeq (fun _ => (#[] : Array Value)))).get? b = some o :=
    fun b o hb e => (Heap.get?_update_other _ _ (Ne.symm hb)).trans e
  refine wpAny_bind (wpAny_letGo ?_)
  have hfr := (K.walk A hh).frame 0 s.heap (s.heap.update S (Obj.mapSeq (fun _ => (#[] : Array Value)))) hok fun b hb o e => oth b o (by
    rcases List.mem_cons.mp hb with rfl | hb
    · exact hSr.symm
    · rw [List.mem_singleton.mp hb]; exact hSd.symm) e
  refine own_extend K hh hfr S hSr hSd .none _ hS₂ (fun h' tk acc' c' hk hS' hacc => ?_) hn
  exact hR h' tk acc' c' (fun b o hb hbr e => hk b o hb hbr (oth b o hb e)) hS' hacc
theorem own_call {Q : Value → Shared → Prop} (K : OwnSrc prog w T r d n P St) (hh : A.handled = none) (hok : St 0 s.heap) (hn : n ≤ sizeLine)
    (hQ : ∀ h' tk acc' c', (∀ b o, b ≠ r → s.heap.get? b = some o → h'.get? b = some o) → h'.get? s.heap.objs.size = some { cls := .type "list", dict := none, data := .seq acc' c', slots := #[] } → ItemsOf P acc' n → Q (.ref s.heap.objs.size) { s with heap := h', toks := tk }) :
    wpAny (model prog w) A (call (.type "list") [.ref r]) Q E s := by
  refine callType_codes (Q₁ := fun obj s₁ => obj = .ref s.heap.objs.size ∧ s₁ = { s with heap := s.heap.push { cls := .type "list", data := .seq #[] } }) PySem.F.called_list (PySem.F.typeCall_list_1 _) PySem.F.entry_list_init
    (code_list_new _ ⟨rfl, rfl⟩) fun obj s₁ h₁ => ?_
  obtain ⟨rfl, rfl⟩ := h₁
  have hS : (s.heap.push { cls := .type "list", data := .seq #[] }).get? s.heap.objs.size = some { cls := .type "list", data := .seq #[] } := Heap.get?_push_size _ rfl
  have hlt := K.there _ hok
  have hfr := (K.walk A hh).frame 0 s.heap (s.heap.push { cls := .type "list", data := .seq #[] }) hok fun b _ o e => Heap.get?_push_of_some _ e
  refine ⟨⟨_, hS, rfl⟩, PySem.F.args_list_init_2 _ _, own_init (A := A.in1) K hh hfr _ (Nat.ne_of_gt hlt.1) (Nat.ne_of_gt hlt.2) hS (fun h' tk acc' c' hk hS' hacc => ?_) hn⟩
  exact ⟨rfl, hQ h' tk acc' c' (fun b o hbr e => hk b o (Nat.ne_of_lt (Heap.lt_size e)) hbr (Heap.get?_push_of_some _ e)) hS' hacc⟩
theorem hint_rev {Q : Bool → Shared → Prop} (hT : s.TypeIs (.ref it) "list_reverseiterator") (h : Q false s) : wpAny (model prog w) A (Builtin.List.listLengthHint (.ref it)) Q E s := by
  unfold Builtin.List.listLengthHint
  refine wpAny_bind (wpAny_specialOf hT RT.nolen_lri ?_)
  show wpAny _ A (specialOf (Value.ref it) (Str.ofString "__length_hint__") >>= _) _ _ _
  refine wpAny_bind (wpAny_specialOf hT RT.hint_lri ?_)
  generalize hid : ("list_reverseiterator.__length_hint__" : String) = id0
  wp_delta
  rw [show splitId id0 = some ("list_reverseiterator", "__length_hint__") from by subst hid; decide +kernel]
  subst hid
  refine wpAny_bind (wpAny_isInstance (b := true) hT (by rw [isSubtype_type]; kernel_rfl) ?_)
  exact wpAny_pure h
theorem own_rev (hne : l ≠ it) : OwnSrc prog w "list_reverseiterator" it l items.size (fun i v => items[items.size - 1 - i]? = some v) (fun i h => i ≤ items.size ∧ h.IsRevIter it l ((items.size : Int) - 1 - (i : Int)) ∧ h.IsList l items) where
  type := fun s st => Heap.IsRevIter.typeIs st.2.1
  there := fun h st => ⟨let ⟨_, ho, _⟩ := st.2.1; Heap.lt_size ho, let ⟨_, ho, _⟩ := st.2.2; Heap.lt_size ho⟩
  notList := by decide
  notTuple := by decide
  hint := fun _ _ s _ st hq => hint_rev (Heap.IsRevIter.typeIs st.2.1) (hq false s.toks)
  walk := fun _ hh => Walks.listRev hh it l hne items
end
section
variable {X : Cx} {G : Gx} {e : Expr} {sa : SE}
/-- list(reversed(x)), x a list: a new list -/
def tListRev (K : PySem.W.Frag) (te : TE) : TE := fun σ H Q => te σ H fun v H1 => ∃ (a : Addr) (xs : List V), v = .ref a ∧ SqL K H1 a xs ∧ ∀ q, H1 q = none → Q (.ref q) (upd H1 q (.lst xs.reverse))
theorem pe_listRev {te : TE} {p p2 pos pos2 : Pos} (hc : X.calm = true) (hg : Gl X "list") (hm : X.mg "list" = none) (hg2 : Gl X "reversed") (hm2 : X.mg "reversed" = none) (he : PE X e te)
    (hs : starEach [e] X.env = (false, eval e X.env) :: starEach [] X.env := by rfl)
    (hs2 : starEach [.Call (.Name "reversed" p2) [e] [] pos2] X.env = (false, eval (.Call (.Name "reversed" p2) [e] [] pos2) X.env) :: starEach [] X.env := by rfl) :
    PE X (.Call (.Name "list" p) [.Call (.Name "reversed" p2) [e] [] pos2] [] pos) (tListRev X.K te) := by
  refine ⟨fun pins s σ H Q I h => ?_⟩
  refine Call_ (ld_blt I hg hm boot_list (PyProof.Rows.callWith_type1 (args_cons (Call_ (ld_blt I hg2 hm2 PyProof.Rows.boot_reversed (PyProof.Rows.callWith_type1 (args_cons (thn (he.run pins s σ H _ I h) fun u s1 ⟨v, H1, I1, r1, q1⟩ => args_nil ?_) hs) hs rfl))) hs2) hs2 rfl))
  obtain ⟨a, xs, ev, hq, q⟩ := q1
  subst ev
  obtain rfl : u = Value.ref a := r1
  obtain ⟨its, rv, p', hz⟩ := I1.list hq
  refine call_reversed_list p'.isList (args_nil ?_)
  have k0 : ∀ b o, s1.heap.get? b = some o → (s1.heap.push (revObj a ((its.toArray.size : Int) - 1))).get? b = some o := fun b o e => Heap.get?_push_of_some _ e
  have I2 : Inv X pins σ H1 { s1 with heap := s1.heap.push (revObj a ((its.toArray.size : Int) - 1)) } := I1.kept (t' := s1.toks) k0
  obtain ⟨f0, f1, f2, f3, f4, f5⟩ := I1.fpOk (H' := H1) (b := s1.heap.objs.size) (Nat.le_refl _) (I1.hok.fresh (Nat.le_refl _))
  have hl := p'.isList
  obtain ⟨ol, hol, _⟩ := id hl
  have hne : a ≠ s1.heap.objs.size := Nat.ne_of_lt (Heap.lt_size hol)
  have hn : its.toArray.size ≤ sizeLine := by rw [List.size_toArray, ← rv.length]; exact hz
  have e0 : ((its.toArray.size : Nat) : Int) - 1 - ((0 : Nat) : Int) = (its.toArray.size : Int) - 1 := by omega
  refine own_call (s := { s1 with heap := s1.heap.push (revObj a ((its.toArray.size : Int) - 1)) }) (own_rev (items := its.toArray) hne) (I1.ok.hd hc) ⟨Nat.zero_le _, by rw [e0]; exact ⟨_, Heap.get?_push_size _ rfl, rfl, rfl⟩, hl.push _⟩ hn fun h' tk acc c' hk hS hi => ?_
  have hsz : s1.heap.objs.size ≤ (s1.heap.push (revObj a ((its.toArray.size : Int) - 1))).objs.size := by rw [Heap.size_push]; omega
  have hfr : ∀ b ∈ [s1.heap.objs.size], FpOk X pins H1 b := fun b hb => by
    rw [List.mem_singleton.mp hb]
    exact ⟨f0, f1, f2, f3, f4, f5⟩
  refine ⟨.ref (s1.heap.push (revObj a ((its.toArray.size : Int) - 1))).objs.size, upd H1 (s1.heap.push (revObj a ((its.toArray.size : Int) - 1))).objs.size (.lst xs.reverse), I2.turnedNew (ch := [s1.heap.objs.size]) (t' := tk) (fun b o hb e => hk b o (fun z => hb (by simp [z])) e) hfr (Nat.le_refl _)
    ⟨by rw [List.length_reverse]; exact hz, acc.toList, c', RT.vals_rev rv hi, by rw [Array.toArray_toList]; exact hS⟩, rfl, q _ (I2.hok.fresh (Nat.le_refl _))⟩
/-- a new list: the items of a list in the other order -/
theorem me_listRev {p p2 pos pos2 : Pos} (hm : X.mg "list" = none) (hm2 : X.mg "reversed" = none) (he : ME X G e sa) (hc : X.calm = true := by rfl) (hg : Gl X "list" := by rfl) (hg2 : Gl X "reversed" := by rfl)
    (hs : starEach [e] X.env = (false, eval e X.env) :: starEach [] X.env := by rfl)
    (hs2 : starEach [.Call (.Name "reversed" p2) [e] [] pos2] X.env = (false, eval (.Call (.Name "reversed" p2) [e] [] pos2) X.env) :: starEach [] X.env := by rfl) :
    ME X G (.Call (.Name "list" p) [.Call (.Name "reversed" p2) [e] [] pos2] [] pos) (s1 fRevL sa) := fun ok =>
  pe_imp (pe_listRev hc hg hm hg2 hm2 (he ok) hs hs2) fun σ H Q h => by
    obtain ⟨p, env, S, rs, rst, g⟩ := h
    refine one rs rst g fun H1 p1 S1 d x _ rs1 r1 rx g1 => ?_
    unfold fRevL at g1
    split at g1
    · split at g1
      · rename_i l hl
        obtain ⟨a, xs, rfl, h1, h2⟩ := r1.list hl rx
        refine ⟨a, xs, rfl, h1, fun q hq => ?_⟩
        obtain ⟨E, R, r⟩ := r1.newL hq h2.rev
        exact g1 _ _ E R _ r
      · exact g1.elim
    · exact g1.elim
end
end Rg
/-! RgBi: the head by facts. -/
namespace Rg
open PySem PySem.Spec PyProof.Rows L2
mutual
/-- a value of the written part, by data -/
def kdB (K : PySem.W.Frag) : D → Value → Bool
  | .non, .none => true
  | .bl b, .bool c => b == c
  | .int i, .int j _ => decide (i = j)
  | .str x, .str y _ => decide (x = y)
  | .tup l, .ref a => (match K.lookup a with
    | some ⟨.type c, _, .seq its _, _⟩ => decide (c = "tuple") && (decide (its.size ≤ sizeLine) && kdAll K l its.toList)
    | _ => false)
  | _, _ => false
def kdAll (K : PySem.W.Frag) : List D → List Value → Bool
  | [], [] => true
  | d :: l, u :: us => kdB K d u && kdAll K l us
  | _, _ => false
end
mutual
theorem kdB_ok {K : PySem.W.Frag} : ∀ (d : D) (u : Value), kdB K d u = true → ∃ v, RelV v u ∧ KD K d v
  | .non, u, h => by
    cases u with
    | none => exact ⟨.non, rfl, RV.non_iff.mpr rfl⟩
    | _ => simp [kdB] at h
  | .bl b, u, h => by
    cases u with
    | bool c =>
      have e : b = c := by simpa [kdB] using h
      subst e
      exact ⟨.bl b, rfl, RV.bl_iff.mpr rfl⟩
    | _ => simp [kdB] at h
  | .int i, u, h => by
    cases u with
    | int j t =>
      have e : i = j := by simpa [kdB] using h
      subst e
      exact ⟨.int i, ⟨_, rfl⟩, RV.int_iff.mpr rfl⟩
    | _ => simp [kdB] at h
  | .str x, u, h => by
    cases u with
    | str y t =>
      have e : x = y := by simpa [kdB] using h
      subst e
      exact ⟨.str x, ⟨_, rfl⟩, RV.str_iff.mpr rfl⟩
    | _ => simp [kdB] at h
  | .ref n, u, h => by simp [kdB] at h
  | .tup l, u, h => by
    cases u with
    | ref a =>
      unfold kdB at h
      cases q : K.lookup a with
      | none => rw [q] at h; cases h
      | some o =>
        obtain ⟨oc, od, dt, osl⟩ := o
        rw [q] at h
        cases oc with
        | type c =>
          cases dt with
          | seq its n =>
            dsimp only at h
            rw [Bool.and_eq_true, Bool.and_eq_true] at h
            obtain ⟨h1, h2, h3⟩ := h
            obtain ⟨xs, h4, h5⟩ := kdAll_ok l its.toList h3
            exact ⟨.ref a, rfl, RV.tup_iff.mpr ⟨a, xs, rfl, .inr ⟨_, its, n, q, congrArg Value.type (of_decide_eq_true h1), rfl, of_decide_eq_true h2, h4⟩, h5⟩⟩
          | _ => cases h
        | _ => cases h
    | _ => simp [kdB] at h
theorem kdAll_ok {K : PySem.W.Frag} : ∀ (l : List D) (us : List Value), kdAll K l us = true → ∃ xs, Vals xs us ∧ RVs K (fun _ => none) [] l xs
  | [], us, h => by
    cases us with
    | nil => exact ⟨[], .nil, RVs.nil⟩
    | cons u us => simp [kdAll] at h
  | d :: l, us, h => by
    cases us with
    | nil => simp [kdAll] at h
    | cons u us =>
      unfold kdAll at h
      rw [Bool.and_eq_true] at h
      obtain ⟨v, h1, h2⟩ := kdB_ok d u h.1
      obtain ⟨xs, h3, h4⟩ := kdAll_ok l us h.2
      exact ⟨v :: xs, .cons h1 h3, RVs.cons h2 h4⟩
end
def constB (K : PySem.W.Frag) (q : Str × D) : Bool := match PySem.W.nsIn K mainGlobals q.1 with
  | some (some u) => kdB K q.2 u
  | _ => false
theorem constB_ok {K : PySem.W.Frag} {h : Heap} {mg : Str → Option Value} {x : Str} {d : D} (X : K.In h) (G : h.Ns mainGlobals mg) (c : constB K (x, d) = true) : CAt K mg x d := by
  unfold constB at c
  cases e : PySem.W.nsIn K mainGlobals x with
  | none =>
    have e : PySem.W.nsIn K mainGlobals (x, d).1 = none := e
    rw [e] at c; cases c
  | some o =>
    have e2 : PySem.W.nsIn K mainGlobals (x, d).1 = some o := e
    rw [e2] at c
    cases o with
    | none => cases c
    | some u =>
      obtain ⟨v, h1, h2⟩ := kdB_ok d u c
      exact ⟨v, u, PySem.W.mg_of X G e, h1, h2⟩
/-! ### the Hook -/
abbrev AlR : Type := Bool × He.AlD
def obsR (fa : List He.Fa) (fn : List He.DefD) (cs : List (Str × D)) (K : PySem.W.Frag) : AlR := (cs.all (constB K), He.obsD fa fn K)
def valR (fn : List He.DefD) : AlR := (true, He.valD fn)
def SaysR (fa : List He.Fa) (fn : List He.DefD) (cs : List (Str × D)) (K : PySem.W.Frag) : Prop := obsR fa fn cs K = valR fn
def obsRG (n : Nat) (fa : List He.Fa) (fn : List He.DefD) (cs : List (Str × D)) (g : Addr → Option Obj) : AlR := obsR fa fn cs (He.frG g (He.asD g n))
def hookR (n : Nat) (fa : List He.Fa) (fn : List He.DefD) (cs : List (Str × D)) : PySem.W.Hook where
  α := AlR
  obs := fun s => obsRG n fa fn cs s.heap.get?
  val := fun _ => valR fn
  says := fun _ h => ∃ K : PySem.W.Frag, K.In h ∧ SaysR fa fn cs K
  of := fun _ _ e => ⟨_, He.frG_in, e⟩
  keeps := fun _ _ _ ⟨K, hK, c⟩ k => ⟨K, PySem.W.Frag.In.keeps hK k, c⟩
theorem obsRG_eq {n : Nat} {fa : List He.Fa} {fn : List He.DefD} {cs : List (Str × D)} {g : Addr → Option Obj} {s : Shared} (h : ∀ a, g a = s.heap.get? a) : obsRG n fa fn cs g = (hookR n fa fn cs).obs s := by
  have e : g = s.heap.get? := funext h
  rw [e] <;> rfl
section
variable {fa : List He.Fa} {fn : List He.DefD} {cs : List (Str × D)} {K : PySem.W.Frag}
theorem SaysR.d (c : SaysR fa fn cs K) : He.SaysD fa fn K := congrArg (fun z : AlR => z.2) c
theorem SaysR.c (c : SaysR fa fn cs K) {h : Heap} {mg : Str → Option Value} (X : K.In h) (G : h.Ns mainGlobals mg) (i : Nat) {x : Str} {d : D} (e : cs[i]? = some (x, d) := by rfl) : CAt K mg x d := by
  have c1 : cs.all (constB K) = true := congrArg (fun z : AlR => z.1) c
  exact constB_ok X G (List.all_eq_true.mp c1 _ (List.mem_of_getElem? e))
/-- a def's facts -/
theorem SaysR.f (c : SaysR fa fn cs K) (i j : Nat) {x : Str} {st : Stmt} {dvs : List He.Dv} (e : fn[i]? = some ⟨(x, none), x, x, defArgs st, defBody st, defScope st, dvs, []⟩ := by rfl) (g : fa[j]? = some (.glo x) := by rfl) : FAt K x st (dvs.map (He.Dv.v K)) := by
  obtain ⟨fd, F⟩ := c.d.def_ i e
  exact ⟨⟨_, fd, He.eqO_ok (c.d.fact j g), F⟩⟩
end
theorem fnD (x : Str) (st : Stmt) (dvs : List He.Dv) : (⟨(x, none), x, x, defArgs st, defBody st, defScope st, dvs, []⟩ : He.DefD).at_ = (x, none) := rfl
/-- the law's end -/
theorem walk_ofR {l : PySem.W.OpenLaw} {n k : Nat} {q : Program} {loose : List Str} {XP : (Str → Option Value) → Heap → Prop} {YP : World → Heap → Prop} {d : DefRec} {CX : World → CXT} {x : Str}
    (hn : l.most = some n) (hn2 : n ≤ sizeLine) (hdf : d.params.defaults = []) (hr : Room k callerA)
    (F : ∀ (w : World) (mg : Str → Option Value) (fa : Addr) (h : Heap), YP w h → h.Ns mainGlobals mg → mg d.name = some (.ref fa) →
      ∃ (K : PySem.W.Frag) (fd : FuncData) (sp : Sp), K.In h ∧ (∀ (s : Shared) (u : Value), BindsTo s fd ⟨[u], []⟩ [(x, u)]) ∧
        (∀ (H : Hp) (a : Addr) (ns : List Int), ns.length ≤ n → (∀ z ∈ ns, Builtin.Int.intBits z ≤ 1048576) → Only H → SqL K H a (ns.map V.int) → sp [.ref a] H (fun v _ => v = .bl true) fun _ _ _ => False) ∧
        ∀ base : Heap, K.In base → base.Ns mainGlobals mg → FnOk l.prog w K mg base (CX w) k fa fd [x] sp)
    (hCX : ∀ (w : World) (H : Hp) (s : Shared) (e : Value) (s' : Shared), CX w [] H s (fun _ _ _ => False) e s' → False) :
    PySem.W.WalkO q loose XP YP l.row.toRowW d [] (fun f vs => PySem.call f vs) := by
  refine Att.attach_callB hn hdf fun w s₀ s₁ mg mb fa o pm cd doc a vs ns G Y ho hd hcd hmg hobj hints hlen hbits hg => ?_
  obtain ⟨K, fd, sp, KX, hb, hsp, hF⟩ := F w mg fa _ Y G.T.g hmg
  exact law_call KX G.T.g G.T.b G.T.builtins G.T.nolimit hg hobj hints (Nat.le_trans hlen hn2) hr hF hb (fun H hO hS => hsp H a ns hlen hbits hO hS) fun H e s' => hCX w H s₁ e s'
end Rg
/-! RgBn: calls that leave arguments to their defaults (whole numbers); reversed(range(n)). -/
namespace Rg
open PySem PySem.Spec PyProof.Rows L2
def sCallD (m : Mf) (dv : List Int) (s : SA) : SE := fun env S => (s env S).bind fun ds S1 => m (ds ++ dv.map D.int) S1
/-- a def with its promise, the last arguments left out -/
structure DefOkD (P : Program) (w : World) (K : PySem.W.Frag) (mg : Str → Option Value) (base : Heap) (xv : Str → Value) (x : Str) (k : Nat) (ps : List Str) (dv : List Int) (m : Mf) : Prop where
  ex : ∃ (f : Addr) (fd : FuncData) (its : List Value), mg x = some (.ref f) ∧ PySem.W.keepIn K (.ref f) = true ∧ Vals (dv.map V.int) its ∧ Binds K fd ps its ∧ FnOk P w K mg base (L2.CX P w) k f fd ps (SpOf K xv m)
section
variable {X : Cx} {G : Gx} {e : Expr} {es : List Expr} {sr : SA} {pos : Pos}
theorem RVs.ints {K : PySem.W.Frag} {H : Hp} {p : List Addr} : ∀ {dv : List Int}, RVs K H p (dv.map D.int) (dv.map V.int)
  | [] => RVs.nil
  | _ :: _ => RVs.cons (RV.int_iff.mpr rfl) RVs.ints
theorem me_fnD {x : Str} {p : Pos} {k j : Nat} {ps : List Str} {dv : List Int} {m : Mf} (F : DefOkD X.prog X.w X.K X.mg X.base G.xv x k ps dv m) (hr : Room j X.A) (ha : MA X G (e :: es) sr) (hj : k ≤ j := by decide)
    (hg : Gl X x := by rfl) (hdb : (x == ("__debug__" : Str)) = false := by decide) (he : starEach (e :: es) X.env = (false, eval e X.env) :: starEach es X.env := by rfl) (hpl : (backTo pos (starEach es X.env)).any (·.1) = false := by rfl) :
    ME X G (.Call (.Name x p) (e :: es) [] pos) (sCallD m dv sr) := fun ok => by
  obtain ⟨f, fd, its, h1, h2, h3, h4, h5⟩ := F.ex
  refine pe_imp (pe_callSD h5 (hr.mono hj) hg h1 h2 h4 h3 (fun σ => passAt ok.tk σ) (ha ok) hdb he hpl) fun σ H Q h => ?_
  obtain ⟨p, env, S, rs, rst, g⟩ := h
  refine TAo.bind rs rst g fun H1 p1 S1 ds xs _ rs1 r1 rx g1 => ?_
  refine ⟨ds ++ dv.map D.int, p1, S1, rx.app RVs.ints, r1, ?_⟩
  cases hm : m (ds ++ dv.map D.int) S1 with
  | ok d S2 => rw [hm] at g1; exact g1
  | exc c S2 => rw [hm] at g1; exact g1
  | bad => rw [hm] at g1; exact g1
end
section
variable {P : Program} {w : World} {K : PySem.W.Frag} {mg : Str → Option Value} {base h : Heap}
theorem defok_mkD2 {x : Str} {st : Stmt} {N ps : List Str} {dv : List Int} {i j k n np : Nat} {body : SS} {xv : Str → Value} (X : K.In h) (G : h.Ns mainGlobals mg) (F : FAt K x st (dv.map V.int)) (hd : dv ≠ []) (S : FnScope N ps (defScope st))
    (hij : i + (dv.length - j) = ps.length)
    (hb : ∀ (T : Addr) (kV doc pm : Value) (an : Option Addr) (cdv ct : Value) (us its : List Value), us.length = i → its.length = (dv.map V.int).length →
      ∃ k, bindArgs (PySem.W.fnOf x x (defArgs st) (defBody st) (defScope st) (.ref T) kV doc pm an cdv ct) ⟨us, []⟩ = seqItems? (.ref T) >>= k ∧ k (some its.toArray) = pure (ps.zip (us ++ its.drop j)))
    (hbody : ∀ (f : Addr) (cdv : Value) (A : Around) (outer : List PySem.Env) (s : Shared) (H : Hp) (E : XK), Room k (A.deeper (envOfC x (defScope st) s.heap.objs.size f cdv)) →
      MSs (cxOf (L2.CX P w) P w K mg base N x (defScope st) f cdv A outer s H E) ⟨xv, fun cls d _ H => E cls d H⟩ (defBody st) body) (hn : N.length = n := by rfl) (hp : ps.length = np := by rfl) : DefOkD P w K mg base xv x (k + 1) ps (dv.drop j) (mkDef n np body) := by
  obtain ⟨f, fd, a, F⟩ := F.ex
  obtain ⟨ds, e1, e2⟩ := F.binds1 i j (by simpa using hd) (by rw [List.length_map]; exact hij) hb
  exact ⟨f, fd, ds, PySem.W.mg_of X G a, F.kp, by rw [← List.map_drop] at e1; exact e1, e2, fn_def F S (hbody f) hn hp⟩
end
/-! ### reversed(range(n)) -/
def fRevRng1 (ds : List D) (S : Store) : Res Wk := match ds with
  | [.int j] => if -(2 ^ 62) ≤ j ∧ j < 2 ^ 62 then .ok ⟨(rangeD 0 j.toNat).reverse, fun _ => True⟩ S else .bad
  | _ => .bad
section
def sRevRng (sa : SE) : SI := fun env S => (sa env S).bind fun d S1 => fRevRng1 [d] S1
variable {X : Cx} {G : Gx} {tg a : Expr} {pos pos2 : Pos} {sa : SE}
theorem walkd_revRange {K : PySem.W.Frag} {H1 : Hp} {p1 : List Addr} {n : Nat} : WalkD K (Itc ((n : Int) - 1) (-1) n) ⟨(rangeD 0 n).reverse, fun _ => True⟩ H1 p1 := by
  refine walkd_fn (f := fun i => .int ((n : Int) - 1 + (i : Nat) * (-1))) ?_ fun i d h H p => ?_
  · rw [List.length_reverse, rangeD_len]
    exact walk_rangeC
  · have hi : i < n := by
      have := (List.getElem?_eq_some_iff.mp h).1
      rw [List.length_reverse, rangeD_len] at this
      exact this
    rw [List.getElem?_reverse (by rw [rangeD_len]; exact hi), rangeD_len] at h
    unfold rangeD at h
    rw [List.getElem?_map, List.getElem?_range (by omega)] at h
    cases h
    rw [RV.int_iff]
    congr 1
    omega
theorem mi_revRange1 {p p2 : Pos} (hm : X.mg "reversed" = none) (hm2 : X.mg "range" = none) (ha : ME X G a sa) (hg : Gl X "reversed" := by rfl) (hg2 : Gl X "range" := by rfl) (hs2 : starEach [a] X.env = (false, eval a X.env) :: starEach [] X.env := by rfl)
    (hs : starEach [.Call (.Name "range" p2) [a] [] pos2] X.env = (false, eval (.Call (.Name "range" p2) [a] [] pos2) X.env) :: starEach [] X.env := by rfl) :
    MI X G tg (.Call (.Name "reversed" p) [.Call (.Name "range" p2) [a] [] pos2] [] pos) (sRevRng sa) := fun ok => pi_imp (pi_revR hg hm (prg_1 hg2 hm2 (ha ok) hs2) hs) fun σ H R h => by
  obtain ⟨p, env, S, rs, rst, g⟩ := h
  refine one rs rst g fun H1 p1 S1 d x _ rs1 r1 rx g1 => ?_
  unfold fRevRng1 at g1
  split at g1
  · rename_i j hj2
    split at g1
    · rename_i hj
      cases hj2
      rw [RV.int_iff] at rx
      subst rx
      refine ⟨j, rfl, by omega, by omega, hj.1, hj.2, ?_⟩
      have := g1 H1 p1 .refl r1 _ walkd_revRange
      have e : (0 : Int) + ((((j - 0).toNat : Nat)) : Int) - 1 = ((j.toNat : Nat) : Int) - 1 := by
        rw [Int.sub_zero]; omega
      rw [e, Int.sub_zero]
      exact this
    · exact g1.elim
  · exact g1.elim
end
end Rg
/-! RgB1: own classes: instances made, fields read and written, methods called. -/
namespace Rg
open PySem PySem.Spec PyProof.Rows L2
def putD (f : Str) (v : D) : List (Str × D) → List (Str × D)
  | [] => [(f, v)]
  | (g, w) :: r => if g = f then (g, v) :: r else (g, w) :: putD f v r
section
variable {K : PySem.W.Frag} {H H' : Hp} {p p' : List Addr}
theorem RFs.look {f : Str} {d : D} : ∀ {fs : List (Str × D)} {vs : List (Str × V)}, RFs K H p fs vs → fs.lookup f = some d → ∃ v, vs.lookup f = some v ∧ RV K H p d v
  | [], vs, _, e => by simp at e
  | (g, w) :: fs, vs, h, e => by
    obtain ⟨h1, h2⟩ := h
    cases vs with
    | nil => simp at h1
    | cons q vs =>
      obtain ⟨g', u⟩ := q
      simp only [List.map_cons, List.cons.injEq] at h1
      obtain ⟨x, r, e1, r1, r2⟩ := RVs.cons_iff.mp h2
      simp only [List.map_cons, List.cons.injEq] at e1
      obtain ⟨rfl, rfl⟩ := e1
      obtain ⟨rfl, h3⟩ := h1
      rw [List.lookup_cons] at e ⊢
      cases hf : f == g with
      | true =>
        rw [hf] at e
        simp only [Option.some.injEq] at e
        subst e
        exact ⟨u, by simp, r1⟩
      | false =>
        rw [hf] at e
        obtain ⟨v, e1, e2⟩ := RFs.look (fs := fs) (vs := vs) ⟨h3, r2⟩ e
        exact ⟨v, by simpa using e1, e2⟩
theorem RFs.lookN {f : Str} : ∀ {fs : List (Str × D)} {vs : List (Str × V)}, RFs K H p fs vs → fs.lookup f = none → vs.lookup f = none
  | [], vs, h, e => by
    cases vs with
    | nil => rfl
    | cons q vs => have := h.1; simp at this
  | (g, w) :: fs, vs, h, e => by
    obtain ⟨h1, h2⟩ := h
    cases vs with
    | nil => simp at h1
    | cons q vs =>
      obtain ⟨g', u⟩ := q
      simp only [List.map_cons, List.cons.injEq] at h1
      obtain ⟨x, r, e1, r1, r2⟩ := RVs.cons_iff.mp h2
      simp only [List.map_cons, List.cons.injEq] at e1
      obtain ⟨rfl, rfl⟩ := e1
      obtain ⟨rfl, h3⟩ := h1
      rw [List.lookup_cons] at e ⊢
      cases hf : f == g with
      | true => rw [hf] at e; cases e
      | false =>
        rw [hf] at e
        simpa using RFs.lookN (fs := fs) (vs := vs) ⟨h3, r2⟩ e
theorem RFs.put {f : Str} {d : D} {v : V} (r : RV K H p d v) : ∀ {fs : List (Str × D)} {vs : List (Str × V)}, RFs K H p fs vs → RFs K H p (putD f d fs) (putF f v vs)
  | [], vs, h => by
    cases vs with
    | nil => exact ⟨rfl, RVs.cons r RVs.nil⟩
    | cons q vs => have := h.1; simp at this
  | (g, w) :: fs, vs, h => by
    obtain ⟨h1, h2⟩ := h
    cases vs with
    | nil => simp at h1
    | cons q vs =>
      obtain ⟨g', u⟩ := q
      simp only [List.map_cons, List.cons.injEq] at h1
      obtain ⟨x, r0, e1, r1, r2⟩ := RVs.cons_iff.mp h2
      simp only [List.map_cons, List.cons.injEq] at e1
      obtain ⟨rfl, rfl⟩ := e1
      obtain ⟨rfl, h3⟩ := h1
      unfold putD putF
      split
      · exact ⟨by simp [h3], RVs.cons r r2⟩
      · have := RFs.put (f := f) r (fs := fs) (vs := vs) ⟨h3, r2⟩
        exact ⟨by simp [this.1], RVs.cons r1 this.2⟩
theorem RFs.len {fs : List (Str × D)} {vs : List (Str × V)} (h : RFs K H p fs vs) : fs.length = vs.length := by
  have := congrArg List.length h.1
  simpa using this
end
/-- an instance of a class: its fields -/
def fldsOf (c : Str) (d : D) (S : Store) : Option (Nat × List (Str × D)) := match d with
  | .ref n => match S[n]? with
    | some (.ins c' fs) => if c' = c then some (n, fs) else none
    | _ => none
  | _ => none
theorem fldsOf_iff {c : Str} {d : D} {S : Store} {n : Nat} {fs : List (Str × D)} (h : fldsOf c d S = some (n, fs)) : d = .ref n ∧ S[n]? = some (.ins c fs) := by
  unfold fldsOf at h
  split at h
  · split at h
    · split at h
      · rename_i hc
        cases h
        subst hc
        exact ⟨rfl, by assumption⟩
      · cases h
    · cases h
  · cases h
theorem RSt.inst {K : PySem.W.Frag} {H : Hp} {p : List Addr} {S : Store} {c : Str} {d : D} {n : Nat} {fs : List (Str × D)} {x : V} (R : RSt K H p S) (h : fldsOf c d S = some (n, fs)) (r : RV K H p d x) :
    ∃ a dx vs, x = .ref a ∧ p[n]? = some a ∧ H a = some (.ins (He.ga K c) dx vs) ∧ RFs K H p fs vs := by
  obtain ⟨rfl, hS⟩ := fldsOf_iff h
  obtain ⟨a, rfl, e⟩ := RV.ref_iff.mp r
  obtain ⟨dx, vs, h1, h2⟩ := R.cell n _ a hS e
  exact ⟨a, dx, vs, rfl, e, h1, h2⟩
def fFld (c f : Str) : D → Store → Res D := fun d S => match fldsOf c d S with
  | some (_, fs) => match fs.lookup f with
    | some v => .ok v S
    | none => .bad
  | none => .bad
section
variable {X : Cx} {G : Gx} {e a b o : Expr} {pos : Pos} {sa sb so sv : SE} {es : List Expr} {sr : SA}
theorem me_fld {c f : Str} (hc : Cls X.K (He.ga X.K c)) (hn : NoAttr X.K (He.ga X.K c) f) (ha : ME X G a sa) (hb : attributeBase a f X.env (eval a X.env) = eval a X.env := by rfl) : ME X G (.Attribute a f pos) (s1 (fFld c f) sa) := fun ok => pe_imp (pe_fld (ha ok) hb) fun σ H Q h => by
  obtain ⟨p, env, S, rs, rst, g⟩ := h
  refine one rs rst g fun H1 p1 S1 d x _ _ r1 rx g1 => ?_
  unfold fFld at g1
  split at g1
  · rename_i n fs hf
    split at g1
    · rename_i v hv
      obtain ⟨q, dx, vs, rfl, _, h1, h2⟩ := r1.inst hf rx
      obtain ⟨u, e1, e2⟩ := h2.look hv
      exact ⟨q, _, dx, vs, u, rfl, h1, hc, hn, e1, g1 H1 p1 .refl r1 u e2⟩
    · exact g1.elim
  · exact g1.elim
/-- o.f = e -/
def sSetFld (c f : Str) (sv so : SE) : SS := fun env S => (sv env S).andS env fun d S1 => (so env S1).andS env fun e S2 => match fldsOf c e S2 with
  | some (n, fs) => if fs.length < 1000 then .nx env (S2.set n (.ins c (putD f d fs))) else .bad
  | none => .bad
theorem ms_setFld {c f : Str} {pos' : Pos} (hc : Cls X.K (He.ga X.K c)) (hn : NoAttr X.K (He.ga X.K c) f) (hv : ME X G e sv) (ho : ME X G o so) (hs : swapsWith e (some (.Attribute o f pos')) pos.line X.env = pure false := by rfl) :
    MS X G (.Assign [.Attribute o f pos'] e pos) (sSetFld c f sv so) := fun ok => ps_imp (ps_fld (ho ok) (hv ok) hs) fun E σ H h => by
  obtain ⟨p, env, S, rs, rst, g⟩ := h
  refine ⟨p, env, S, rs, rst, (g.and rs).imp fun d S1 H1 p1 e1 r1 g1 v rv => ?_⟩
  obtain ⟨q1, q2, q3⟩ := g1
  refine ⟨p1, env, S1, q1, q2, (q3.and q1).imp fun od S2 H2 p2 e2 r2 g2 ov rov => ?_⟩
  obtain ⟨q4, q5, q6⟩ := g2
  split at q6
  · rename_i n fs hf
    split at q6
    · rename_i hl
      obtain ⟨q, dx, vs, rfl, ep, h1, h2⟩ := q5.inst hf rov
      have rd := RV.mono e2 _ _ rv
      obtain ⟨_, hS⟩ := fldsOf_iff hf
      have W : ∀ {H' : Hp}, Ext X.K H2 H' p2 p2 → RFs X.K H' p2 (putD f d fs) (putF f v vs) := fun E' => (h2.mono E').put (RV.mono E' _ _ rd)
      have E0 : Ext X.K H2 (upd H2 q (.ins (He.ga X.K c) dx (putF f v vs))) p2 p2 := by
        refine ⟨fun _ _ h => h, fun b ys h => ?_⟩
        rcases h with (h | ⟨ob, h⟩) | h
        · have hb : b ≠ q := fun e => by subst e; rw [h1] at h; cases h
          exact .inl (.inl (by rw [upd_ne hb]; exact h))
        · have hb : b ≠ q := fun e => by subst e; rw [h1] at h; cases h
          exact .inl (.inr ⟨ob, by rw [upd_ne hb]; exact h⟩)
        · exact .inr h
      obtain ⟨E', R'⟩ := q5.write (c := .ins c (putD f d fs)) hS rfl rfl ep ⟨dx, _, upd_same, W E0⟩ h1 (fun _ z => by cases z) (fun _ _ z => by cases z) (fun _ z => by cases z)
      exact ⟨q, _, dx, vs, rfl, h1, hc, hn, by rw [← h2.len]; exact hl, q6 σ _ p2 E' (q4.mono E') R'⟩
    · exact q6.elim
  · exact q6.elim
/-- C(..) -/
def sMake (c : Str) (m : Mf) (s : SA) : SE := fun env S => (s env S).bind fun ds S1 => match m (.ref S1.length :: ds) (S1 ++ [.ins c []]) with
  | .ok .non S2 => .ok (.ref S1.length) S2
  | _ => .bad
/-- o.m(..) -/
def sMeth (c mn : Str) (m : Mf) (so : SE) (s : SA) : SE := fun env S => (so env S).bind fun d S1 => match fldsOf c d S1 with
  | some (_, fs) => if fs.lookup mn = none then (s env S1).bind fun ds S2 => match m (d :: ds) S2 with
      | .ok e S3 => .ok e S3
      | _ => .bad
    else .bad
  | none => .bad
theorem RSt.newI {K : PySem.W.Frag} {H : Hp} {p : List Addr} {S : Store} {x dx : Addr} {c : Str} (R : RSt K H p S) (hx : H x = none) (hd : H dx = none) (ne : dx ≠ x) :
    Ext K H (upd (upd H dx (.own x)) x (.ins (He.ga K c) dx [])) p (p ++ [x]) ∧ RSt K (upd (upd H dx (.own x)) x (.ins (He.ga K c) dx [])) (p ++ [x]) (S ++ [.ins c []]) ∧ (p ++ [x])[S.length]? = some x := by
  have s1 : Same H (upd H dx (.own x)) := same_new hd
  have hx' : (upd H dx (.own x)) x = none := by rw [upd_ne (Ne.symm ne)]; exact hx
  obtain ⟨E, R', e⟩ := (R.same s1).push (c := .ins c []) (o := .ins (He.ga K c) dx []) hx' ⟨dx, [], upd_same, rfl, RVs.nil⟩
  exact ⟨(ext_same s1).trans E, R', e⟩
theorem me_make {c : Str} {p : Pos} {k j : Nat} {f : Addr} {fd : FuncData} {ps : List Str} {m : Mf} (M : Mk X.K (He.ga X.K c) f) (F : FnOk X.prog X.w X.K X.mg X.base (L2.CX X.prog X.w) k f fd ps (SpOf X.K G.xv m)) (hr : Room j X.A) (hj : k + 1 ≤ j) (hm : X.mg c = some (.ref (He.ga X.K c))) (hb : Binds X.K fd ps [])
    (ha : MA X G (e :: es) sr) (hg : Gl X c := by rfl) (hdb : (c == ("__debug__" : Str)) = false := by decide) (he : starEach (e :: es) X.env = (false, eval e X.env) :: starEach es X.env := by rfl) (hpl : (backTo pos (starEach es X.env)).any (·.1) = false := by rfl) :
    ME X G (.Call (.Name c p) (e :: es) [] pos) (sMake c m sr) := fun ok =>
  pe_imp (pe_make (E := fun _ _ _ => False) M F (hr.mono hj) hg hm hb .nil passL (ha ok) hdb he hpl) fun σ H Q h => by
    obtain ⟨p, env, S, rs, rst, g⟩ := h
    refine TAo.bind rs rst g fun H1 p1 S1 ds xs _ rs1 r1 rx g1 x dx hx hd ne => ?_
    obtain ⟨E, R, ex⟩ := r1.newI (c := c) hx hd ne
    refine ⟨.ref S1.length :: ds, _, _, RVs.cons (RV.ref_iff.mpr ⟨x, rfl, ex⟩) (by rw [List.append_nil]; exact RVs.mono E _ _ rx), R, ?_⟩
    cases hm : m (.ref S1.length :: ds) (S1 ++ [.ins c []]) with
    | ok d S2 =>
      rw [hm] at g1
      cases d with
      | non => exact fun H' p' x' r' v rv => ⟨RV.non_iff.mp rv, g1 H' p' (E.trans x') r' _ (RV.ref_iff.mpr ⟨x, rfl, x'.pre _ _ ex⟩)⟩
      | _ => exact g1.elim
    | exc c S2 => rw [hm] at g1; exact g1.elim
    | bad => rw [hm] at g1; exact g1.elim
theorem me_mt {c mn : Str} {apos : Pos} {k j : Nat} {f : Addr} {fd : FuncData} {ps : List Str} {m : Mf} {pl : Sem Bool} (hc : Cls X.K (He.ga X.K c)) (M : Meth X.K (He.ga X.K c) mn f) (F : FnOk X.prog X.w X.K X.mg X.base (L2.CX X.prog X.w) k f fd ps (SpOf X.K G.xv m)) (hr : Room j X.A) (hj : k ≤ j) (hb : Binds X.K fd ps [])
    (ho : ME X G o so) (ha : MA X G (e :: es) sr) (he : starEach (e :: es) X.env = (false, eval e X.env) :: starEach es X.env := by rfl) (hpl : (backTo pos (starEach es X.env)).any (·.1) = false := by rfl)
    (hev : eval (.Call (.Attribute o mn apos) (e :: es) [] pos) X.env = (do
      let ov ← eval o X.env
      standAt apos.atName
      let (f, first) ← holding [ov] (getMethod ov mn pl)
      callWith pos f first (backTo pos (starEach (e :: es) X.env)) (backToKw pos (keywordEach [] X.env))) := by rfl) :
    ME X G (.Call (.Attribute o mn apos) (e :: es) [] pos) (sMeth c mn m so sr) := fun ok =>
  pe_imp (pe_meth (E := fun _ _ _ => False) (ho ok) hc M F (hr.mono hj) hb .nil passL (ha ok) he hpl hev) fun σ H Q h => by
    obtain ⟨p, env, S, rs, rst, g⟩ := h
    refine one rs rst g fun H1 p1 S1 d x _ rs1 r1 rx g1 => ?_
    split at g1
    · rename_i n fs hf
      split at g1
      · rename_i hl
        obtain ⟨q, dx, vs, rfl, _, h1, h2⟩ := r1.inst hf rx
        refine ⟨q, dx, vs, rfl, h1, h2.lookN hl, TAo.bind rs1 r1 g1 fun H2 p2 S2 ds xs e2 rs2 r2 rxs g2 => ?_⟩
        refine ⟨d :: ds, p2, S2, RVs.cons (RV.mono e2 _ _ rx) (by rw [List.append_nil]; exact rxs), r2, ?_⟩
        cases hm : m (d :: ds) S2 with
        | ok d S3 => rw [hm] at g2; exact g2
        | exc c S2 => rw [hm] at g2; exact g2.elim
        | bad => rw [hm] at g2; exact g2.elim
      · exact g1.elim
    · exact g1.elim
theorem me_mt0 {c mn : Str} {apos : Pos} {k j : Nat} {f : Addr} {fd : FuncData} {ps : List Str} {m : Mf} {pl : Sem Bool} (hc : Cls X.K (He.ga X.K c)) (M : Meth X.K (He.ga X.K c) mn f) (F : FnOk X.prog X.w X.K X.mg X.base (L2.CX X.prog X.w) k f fd ps (SpOf X.K G.xv m)) (hr : Room j X.A) (hj : k ≤ j) (hb : Binds X.K fd ps [])
    (ho : ME X G o so)
    (hev : eval (.Call (.Attribute o mn apos) [] [] pos) X.env = (do
      let ov ← eval o X.env
      standAt apos.atName
      let (f, first) ← holding [ov] (getMethod ov mn pl)
      callWith pos f first (backTo pos (starEach [] X.env)) (backToKw pos (keywordEach [] X.env))) := by rfl) :
    ME X G (.Call (.Attribute o mn apos) [] [] pos) (sMeth c mn m so sNil) := fun ok =>
  pe_imp (pe_meth0 (E := fun _ _ _ => False) (ho ok) hc M F (hr.mono hj) hb .nil passL hev) fun σ H Q h => by
    obtain ⟨p, env, S, rs, rst, g⟩ := h
    refine one rs rst g fun H1 p1 S1 d x _ rs1 r1 rx g1 => ?_
    split at g1
    · rename_i n fs hf
      split at g1
      · rename_i hl
        obtain ⟨q, dx, vs, rfl, _, h1, h2⟩ := r1.inst hf rx
        refine ⟨q, dx, vs, rfl, h1, h2.lookN hl, ?_⟩
        refine ⟨[d], p1, S1, RVs.cons rx RVs.nil, r1, ?_⟩
        have g2 : Good X.K G σ H1 p1 (match m [d] S1 with
          | .ok e S3 => Res.ok e S3
          | _ => .bad) (PV X.K Q) := g1
        cases hm : m [d] S1 with
        | ok d S3 => rw [hm] at g2; exact g2
        | exc c S2 => rw [hm] at g2; exact g2.elim
        | bad => rw [hm] at g2; exact g2.elim
      · exact g1.elim
    · exact g1.elim
end
/-- a method as it stands behind the top -/
def clsBody : Stmt → List Stmt
  | .ClassDef _ _ _ b _ _ _ _ _ _ _ => b
  | _ => []
def clsAt (s : Stmt) (i : Nat) : Stmt := (clsBody s).getD i (.Pass ⟨0, 0, 0, 0⟩)
structure MAt (K : PySem.W.Frag) (c mn q : Str) (st : Stmt) : Prop where
  ex : ∃ fd : FuncData, FunD K mn q (defArgs st) (defBody st) (defScope st) [] [] (He.ma K (He.ga K c) mn) fd
/-- a method with its promise -/
structure MetOk (P : Program) (w : World) (K : PySem.W.Frag) (mg : Str → Option Value) (base : Heap) (xv : Str → Value) (c mn : Str) (k : Nat) (ps : List Str) (m : Mf) : Prop where
  ex : ∃ fd : FuncData, Binds K fd ps [] ∧ FnOk P w K mg base (L2.CX P w) k (He.ma K (He.ga K c) mn) fd ps (SpOf K xv m)
section
variable {P : Program} {w : World} {K : PySem.W.Frag} {mg : Str → Option Value} {base h : Heap}
theorem metok_mk {c mn q : Str} {st : Stmt} {N ps : List Str} {k n np : Nat} {body : SS} {xv : Str → Value} (F : MAt K c mn q st) (S : FnScope N ps (defScope st))
    (hb : ∀ (kV doc pm : Value) (an : Option Addr) (cdv ct : Value) (us : List Value), us.length = ps.length → bindArgs (PySem.W.fnOf mn q (defArgs st) (defBody st) (defScope st) .none kV doc pm an cdv ct) ⟨us, []⟩ = pure (ps.zip us))
    (hbody : ∀ (f : Addr) (cdv : Value) (A : Around) (outer : List PySem.Env) (s : Shared) (H : Hp) (E : XK), Room k (A.deeper (envOfC q (defScope st) s.heap.objs.size f cdv)) →
      MSs (cxOf (L2.CX P w) P w K mg base N q (defScope st) f cdv A outer s H E) ⟨xv, fun cls d _ H => E cls d H⟩ (defBody st) body) (hn : N.length = n := by rfl) (hp : ps.length = np := by rfl) : MetOk P w K mg base xv c mn (k + 1) ps (mkDef n np body) := by
  obtain ⟨fd, F⟩ := F.ex
  exact ⟨fd, F.bindsN hb, fn_def F S (hbody _) hn hp⟩
end
section
variable {X : Cx} {G : Gx} {e o : Expr} {es : List Expr} {so : SE} {sr : SA} {pos : Pos}
theorem me_mk {c : Str} {p : Pos} {k j : Nat} {ps : List Str} {m : Mf} (F : MetOk X.prog X.w X.K X.mg X.base G.xv c "__init__" k ps m) (M : Mk X.K (He.ga X.K c) (He.ma X.K (He.ga X.K c) "__init__")) (hm : X.mg c = some (.ref (He.ga X.K c))) (hr : Room j X.A) (ha : MA X G (e :: es) sr) (hj : k + 1 ≤ j := by decide)
    (hg : Gl X c := by rfl) (hdb : (c == ("__debug__" : Str)) = false := by decide) (he : starEach (e :: es) X.env = (false, eval e X.env) :: starEach es X.env := by rfl) (hpl : (backTo pos (starEach es X.env)).any (·.1) = false := by rfl) :
    ME X G (.Call (.Name c p) (e :: es) [] pos) (sMake c m sr) := by
  obtain ⟨fd, h1, h2⟩ := F.ex
  exact me_make M h2 hr hj hm h1 ha hg hdb he hpl
theorem me_met {c mn : Str} {apos : Pos} {k j : Nat} {ps : List Str} {m : Mf} {pl : Sem Bool} (F : MetOk X.prog X.w X.K X.mg X.base G.xv c mn k ps m) (hc : Cls X.K (He.ga X.K c)) (M : Meth X.K (He.ga X.K c) mn (He.ma X.K (He.ga X.K c) mn)) (hr : Room j X.A) (ho : ME X G o so) (ha : MA X G (e :: es) sr) (hj : k ≤ j := by decide)
    (he : starEach (e :: es) X.env = (false, eval e X.env) :: starEach es X.env := by rfl) (hpl : (backTo pos (starEach es X.env)).any (·.1) = false := by rfl)
    (hev : eval (.Call (.Attribute o mn apos) (e :: es) [] pos) X.env = (do
      let ov ← eval o X.env
      standAt apos.atName
      let (f, first) ← holding [ov] (getMethod ov mn pl)
      callWith pos f first (backTo pos (starEach (e :: es) X.env)) (backToKw pos (keywordEach [] X.env))) := by rfl) :
    ME X G (.Call (.Attribute o mn apos) (e :: es) [] pos) (sMeth c mn m so sr) := by
  obtain ⟨fd, h1, h2⟩ := F.ex
  exact me_mt hc M h2 hr hj h1 ho ha he hpl hev
theorem me_met0 {c mn : Str} {apos : Pos} {k j : Nat} {ps : List Str} {m : Mf} {pl : Sem Bool} (F : MetOk X.prog X.w X.K X.mg X.base G.xv c mn k ps m) (hc : Cls X.K (He.ga X.K c)) (M : Meth X.K (He.ga X.K c) mn (He.ma X.K (He.ga X.K c) mn)) (hr : Room j X.A) (ho : ME X G o so) (hj : k ≤ j := by decide)
    (hev : eval (.Call (.Attribute o mn apos) [] [] pos) X.env = (do
      let ov ← eval o X.env
      standAt apos.atName
      let (f, first) ← holding [ov] (getMethod ov mn pl)
      callWith pos f first (backTo pos (starEach [] X.env)) (backToKw pos (keywordEach [] X.env))) := by rfl) :
    ME X G (.Call (.Attribute o mn apos) [] [] pos) (sMeth c mn m so sNil) := by
  obtain ⟨fd, h1, h2⟩ := F.ex
  exact me_mt0 hc M h2 hr hj h1 ho hev
end
end Rg
/-! RgB2: texts: str(int), join, startswith, split. -/
namespace Rg
open PySem PySem.Spec PyProof.Rows L2
def strI (i : Int) : Str := Str.ofString (toString i)
def fStrI (ds : List D) (S : Store) : Res D := match ds with
  | [.int i] => if i.natAbs.log2 < 1920 then .ok (.str (strI i)) S else .bad
  | _ => .bad
theorem rc_strI {K : PySem.W.Frag} : RfC K (fun xs H Q => ∃ i, xs = [V.int i] ∧ i.natAbs.log2 < 1920 ∧ Q (V.str (Str.ofString (toString i))) H) fStrI := by
  intro G σ H p S ds xs Q rst rxs h
  unfold fStrI at h
  split at h
  · rename_i i
    split at h
    · rename_i hz
      obtain ⟨x, r, rfl, rx, rr⟩ := RVs.cons_iff.mp rxs
      rw [RVs.nil_iff] at rr
      rw [RV.int_iff] at rx
      subst rr rx
      exact ⟨i, rfl, hz, h H p .refl rst _ (RV.str_iff.mpr rfl)⟩
    · exact h.elim
  · exact h.elim
section
variable {X : Cx} {G : Gx} {e o : Expr} {pos apos : Pos} {so se : SE} {es : List Expr} {sr : SA}
theorem me_strI {p : Pos} (hm : X.mg "str" = none) (ha : MA X G (e :: es) sr) (hg : Gl X "str" := by rfl) (he : starEach (e :: es) X.env = (false, eval e X.env) :: starEach es X.env := by rfl) (hpl : (backTo pos (starEach es X.env)).any (·.1) = false := by rfl) :
    ME X G (.Call (.Name "str" p) (e :: es) [] pos) (sCall fStrI sr) := me_callTy call_str_int rc_strI hm (by decide +kernel) ha hg (by decide) (by decide) he hpl
/-- a method of a text, with one thing handed -/
def sM1 (f : Str → D → Store → Res D) (so se : SE) : SE := fun env S => (so env S).bind fun d S1 => match d with
  | .str a => (se env S1).bind fun y S2 => f a y S2
  | _ => .bad
def RfS (K : PySem.W.Frag) (r : V → List V → Hp → VK → Prop) (f : Str → D → Store → Res D) : Prop := ∀ (G : Gx) (σ : L2.St) (H : Hp) (p : List Addr) (S : Store) (a : Str) (d : D) (y : V) (Q : VK), RSt K H p S → RV K H p d y → Good K G σ H p (f a d S) (PV K Q) → r (.str a) [y] H Q
theorem me_m1 {name : Str} {id : String} {r : V → List V → Hp → VK → Prop} {f : Str → D → Store → Res D} (slot : Slot "str" name id) (hty : typeOf (.builtin id) = pure (.type "method_descriptor")) (hm : MtR X id r) (hf : RfS X.K r f) (ho : ME X G o so) (he : ME X G e se)
    (hs : starEach [e] X.env = [(false, eval e X.env)]) (hb : attributeBase o name X.env (eval o X.env) = eval o X.env) (hl : (apos.endLine == pos.line) = true) :
    ME X G (.Call (.Attribute o name apos) [e] [] pos) (sM1 f so se) := fun ok =>
  pe_imp (pe_m1 slot hty hm (ho ok) (he ok) hs hb hl) fun σ H Q h => by
    obtain ⟨p, env, S, rs, rst, g⟩ := h
    refine one rs rst g fun H1 p1 S1 d x _ rs1 r1 rx g1 => ?_
    split at g1
    · rename_i a
      rw [RV.str_iff] at rx
      subst rx
      refine ⟨⟨a, rfl⟩, ?_⟩
      exact one rs1 r1 g1 fun H2 p2 S2 dy y _ _ r2 ry g2 => hf G σ H2 p2 S2 a dy y Q r2 ry g2
    · exact g1.elim
def strsD : List D → Option (List Str)
  | [] => some []
  | .str s :: l => (strsD l).map (s :: ·)
  | _ :: _ => none
theorem strsD_ok {K : PySem.W.Frag} {H : Hp} {p : List Addr} : ∀ {l : List D} {ys : List Str} {xs : List V}, strsD l = some ys → RVs K H p l xs → xs = ys.map V.str
  | [], ys, xs, h, r => by cases h; exact RVs.nil_iff.mp r
  | .str s :: l, ys, xs, h, r => by
    obtain ⟨ys', e, rfl⟩ := Option.map_eq_some_iff.mp h
    obtain ⟨x, r', rfl, rx, rr⟩ := RVs.cons_iff.mp r
    rw [RV.str_iff] at rx
    rw [List.map_cons, ← rx, strsD_ok e rr]
  | .non :: _, _, _, h, _ => by cases h
  | .bl _ :: _, _, _, h, _ => by cases h
  | .int _ :: _, _, _, h, _ => by cases h
  | .tup _ :: _, _, _, h, _ => by cases h
  | .ref _ :: _, _, _, h, _ => by cases h
def fJoin (a : Str) (d : D) (S : Store) : Res D := match d with
  | .ref n => match (lstOf S n).bind strsD with
    | some ys => if (ys.map (·.length)).sum + ys.length * a.length ≤ 16777216 then .ok (.str (Txt.join a ys)) S else .bad
    | none => .bad
  | _ => .bad
theorem rs_join {K : PySem.W.Frag} : RfS K (fun x xs H Q => ∃ a p, ∃ ys : List Str, x = .str a ∧ xs = [.ref p] ∧ (SqL K H p (ys.map V.str) ∨ SqT K H p (ys.map V.str)) ∧ (ys.map (·.length)).sum + ys.length * a.length ≤ 16777216 ∧ Q (.str (Txt.join a ys)) H) fJoin := by
  intro G σ H p S a d y Q rst ry h
  unfold fJoin at h
  split at h
  · split at h
    · rename_i n ys hy
      split at h
      · rename_i hz
        obtain ⟨l, hl, hs⟩ := Option.bind_eq_some_iff.mp hy
        obtain ⟨q, xs, rfl, h1, h2⟩ := rst.list hl ry
        have e := strsD_ok hs h2
        subst e
        exact ⟨a, q, ys, rfl, rfl, .inl h1, hz, h H p .refl rst _ (RV.str_iff.mpr rfl)⟩
      · exact h.elim
    · exact h.elim
  · exact h.elim
theorem me_join (ho : ME X G o so) (he : ME X G e se) (hs : starEach [e] X.env = [(false, eval e X.env)] := by rfl) (hb : attributeBase o "join" X.env (eval o X.env) = eval o X.env := by rfl) (hl : (apos.endLine == pos.line) = true := by rfl) :
    ME X G (.Call (.Attribute o "join" apos) [e] [] pos) (sM1 fJoin so se) := me_m1 PySem.F.slot_str_join PySem.F.type_str_join mt_join rs_join ho he hs hb hl
def fStarts (a : Str) (d : D) (S : Store) : Res D := match d with
  | .str b => .ok (.bl (Txt.startswith a b)) S
  | _ => .bad
theorem rs_starts {K : PySem.W.Frag} : RfS K (fun x xs H Q => ∃ a b, x = .str a ∧ xs = [.str b] ∧ Q (.bl (Txt.startswith a b)) H) fStarts := by
  intro G σ H p S a d y Q rst ry h
  unfold fStarts at h
  split at h
  · rename_i b
    rw [RV.str_iff] at ry
    subst ry
    exact ⟨a, b, rfl, rfl, h H p .refl rst _ (RV.bl_iff.mpr rfl)⟩
  · exact h.elim
theorem me_starts (ho : ME X G o so) (he : ME X G e se) (hs : starEach [e] X.env = [(false, eval e X.env)] := by rfl) (hb : attributeBase o "startswith" X.env (eval o X.env) = eval o X.env := by rfl) (hl : (apos.endLine == pos.line) = true := by rfl) :
    ME X G (.Call (.Attribute o "startswith" apos) [e] [] pos) (sM1 fStarts so se) := me_m1 PySem.F.slot_str_startswith PySem.F.type_str_startswith mt_startswith rs_starts ho he hs hb hl
def fSplit (a : Str) (d : D) (S : Store) : Res D := match d with
  | .str b => if (b.length == 0) = false ∧ a.length + 2 ≤ sizeLine then .ok (.ref S.length) (S ++ [.lst ((Txt.split a b).map D.str)]) else .bad
  | _ => .bad
theorem rvs_strs {K : PySem.W.Frag} {H : Hp} {p : List Addr} : ∀ {ys : List Str}, RVs K H p (ys.map D.str) (ys.map V.str)
  | [] => RVs.nil
  | y :: ys => RVs.cons (RV.str_iff.mpr rfl) rvs_strs
theorem rs_split {K : PySem.W.Frag} : RfS K (fun x xs H Q => ∃ a b, x = .str a ∧ xs = [.str b] ∧ (b.length == 0) = false ∧ a.length + 2 ≤ sizeLine ∧ rNewStrs (Txt.split a b) H Q) fSplit := by
  intro G σ H p S a d y Q rst ry h
  unfold fSplit at h
  split at h
  · rename_i b
    split at h
    · rename_i hz
      rw [RV.str_iff] at ry
      subst ry
      refine ⟨a, b, rfl, rfl, hz.1, hz.2, fun q hq => ?_⟩
      obtain ⟨E, R, r⟩ := rst.newL hq (rvs_strs (ys := Txt.split a b))
      exact h _ _ E R _ r
    · exact h.elim
  · exact h.elim
theorem me_split (ho : ME X G o so) (he : ME X G e se) (hs : starEach [e] X.env = [(false, eval e X.env)] := by rfl) (hb : attributeBase o "split" X.env (eval o X.env) = eval o X.env := by rfl) (hl : (apos.endLine == pos.line) = true := by rfl) :
    ME X G (.Call (.Attribute o "split" apos) [e] [] pos) (sM1 fSplit so se) := me_m1 PySem.F.slot_str_split PySem.F.type_str_split mt_split rs_split ho he hs hb hl
end
end Rg
/-! RgBl: list(reversed(a list or a tuple)). -/
namespace Rg
open PySem PySem.Spec PyProof.Rows L2
theorem nolen_rt : typeLookup (.type "reversed") "__len__" = pure none := by rw [typeLookup_type, builtinLookup_eq_fast]; kernel_rfl
theorem slot_rt_hint : Slot "reversed" "__length_hint__" "reversed.__length_hint__" :=
  .of (owner := "reversed") (n := "__length_hint__") (by rw [typeLookup_type, builtinLookup_eq_fast]; kernel_rfl) (by decide +kernel) (by decide +kernel) (by decide +kernel)
    (by first | exact .inl (by decide +kernel) | exact .inr (by decide +kernel)) (by rw [isSubtype_type]; kernel_rfl)
theorem entry_rt_hint : entryFor table "reversed.__length_hint__" = some Builtin.«reversed.__length_hint__» := entryFor_of_tree (by kernel_rfl)
theorem args_rt_hint (a : Value) : argsOk "reversed.__length_hint__" ⟨[a], []⟩ := by
  unfold argsOk; rw [signature?_of (id := "reversed.__length_hint__") (n := ['_', '_', 't', 'n', 'i', 'h', '_', 'h', 't', 'g', 'n', 'e', 'l', '_', '_']) (o := ['d', 'e', 's', 'r', 'e', 'v', 'e', 'r']) (by kernel_rfl) RT.owner_rt]; kernel_rfl
section
variable {prog : Program} {w : World} {A : Around} {E : Value → Shared → Prop} {s : Shared}
theorem call_rt_hint {it t : Addr} {items : Array Value} {Q : Value → Shared → Prop} (hit : RT.IsRt s.heap it t ((items.size : Int) - 1)) (ht : IsTup s.heap t items) (hsz : items.size ≤ sizeLine)
    (hQ : ∀ tk tk', Q (.int items.size tk) { s with toks := tk' }) : wpAny (model prog w) A (call (.builtin "reversed.__length_hint__") [.ref it]) Q E s := by
  obtain ⟨o, ho, hc, hd⟩ := id hit
  rw [sizeLine_eq] at hsz
  refine wpAny_call_entry slot_rt_hint hit.typeIs entry_rt_hint ?_ (args_rt_hint _)
  unfold Builtin.«reversed.__length_hint__»
  refine wpAny_bind (wpAny_of_eq (a := Value.ref it) rfl ?_)
  try dsimp only
  refine wpAny_bind (wpAny_field ho hd (x := .ref t) rfl ?_)
  try dsimp only
  rw [if_neg (show ¬ ((Value.ref t == Value.none) = true) from Bool.false_ne_true)]
  try dsimp only
  refine wpAny_bind (PyProof.Rows.len_tuple ht (by omega) ?_)
  refine wpAny_bind (wpAny_of_eq (a := some ((items.size : Nat) : Int)) rfl ?_)
  try dsimp only
  refine wpAny_bind (wpAny_field (s := { s with toks := s.toks + 1 + 1 }) ho hd (x := rawInt ((items.size : Int) - 1)) rfl ?_)
  show wpAny _ _ (if ((items.size : Nat) : Int) < ((items.size : Int) - 1) + 1 then _ else _) _ _ _
  rw [if_neg (by omega)]
  have e : (items.size : Int) - 1 + 1 = (items.size : Int) := by omega
  rw [e]
  show wpAny _ _ (mkInt ((items.size : Nat) : Int) >>= fun v => ret v) _ _ _
  exact wpAny_bind (wpAny_mkInt (wpAny_pure ⟨_, rfl, hQ _ _⟩))
theorem hint_rt {it t : Addr} {items : Array Value} {Q : Bool → Shared → Prop} (hit : RT.IsRt s.heap it t ((items.size : Int) - 1)) (ht : IsTup s.heap t items) (hsz : items.size ≤ sizeLine)
    (h : ∀ b tk, Q b { s with toks := tk }) : wpAny (model prog w) A (Builtin.List.listLengthHint (.ref it)) Q E s := by
  have hT := hit.typeIs
  have hz := hsz
  rw [sizeLine_eq] at hz
  unfold Builtin.List.listLengthHint
  refine wpAny_bind (wpAny_specialOf hT nolen_rt ?_)
  show wpAny _ A (specialOf (Value.ref it) (Str.ofString "__length_hint__") >>= _) _ _ _
  refine wpAny_bind (wpAny_specialOf hT slot_rt_hint.lookup ?_)
  generalize hid : ("reversed.__length_hint__" : String) = id0
  wp_delta
  rw [show splitId id0 = some ("reversed", "__length_hint__") from by subst hid; decide +kernel]
  subst hid
  refine wpAny_bind (wpAny_isInstance (b := true) hT (by rw [isSubtype_type]; kernel_rfl) ?_)
  refine wpAny_ite_split (fun hab => absurd hab (by decide)) (fun _ => ?_)
  refine wpAny_ite_split (fun hab => absurd hab (by decide +kernel)) (fun _ => ?_)
  refine wpAny_bind (wpAny_rule ?_)
  rw [slot_rt_hint.bind]
  refine wpAny_bind (wpAny_pure ?_)
  dsimp only
  refine wpAny_bind (wpAny_attempt (call_rt_hint hit ht hsz fun tk tk' => ?_))
  dsimp only
  have ha : asInt? (Value.int (items.size : Nat) tk) = (pure (some ((items.size : Nat) : Int)) : Sem (Option Int)) := rfl
  rw [ha]
  generalize hz2 : ((items.size : Nat) : Int) = z
  refine wpAny_bind (wpAny_pure ?_)
  dsimp only
  have htl : Builtin.List.listTooLong z.toNat = false := by rw [← hz2]; simp [Builtin.List.listTooLong, sizeLine]; omega
  have hfi : Builtin.List.listFitsIndex z = true := by
    rw [← hz2]
    unfold Builtin.List.listFitsIndex
    simp
    omega
  rw [hfi]
  refine wpAny_ite_split (fun hab => absurd hab (by decide)) (fun _ => ?_)
  refine wpAny_ite_split (fun hab => absurd hab (by omega)) (fun _ => ?_)
  refine wpAny_ite_split (fun hab => absurd hab (by rw [htl]; decide)) (fun _ => ?_)
  exact wpAny_pure (h _ _)
theorem isTup_at {h h' : Heap} {t : Addr} {items : Array Value} (x : IsTup h t items) (e : ∀ o, h.get? t = some o → h'.get? t = some o) : IsTup h' t items := let ⟨o, ho, r⟩ := x; ⟨o, e o ho, r⟩
theorem walk_rt (hh : A.handled = none) (I t : Addr) (hne : t ≠ I) (items : Array Value) (hz : items.size ≤ sizeLine) :
    Walks prog w A I [I, t] [I] items.size (fun i v => items[items.size - 1 - i]? = some v) (fun i h => i ≤ items.size ∧ RT.IsRt h I t ((items.size : Int) - 1 - (i : Int)) ∧ IsTup h t items) where
  sub := fun b hb => by rw [List.mem_singleton.mp hb]; simp
  frame := fun _ _ _ y k => ⟨y.1, y.2.1.at fun o e => k I (by simp) o e, isTup_at y.2.2 fun o e => k t (by simp) o e⟩
  item := fun i s Q E hi y k => by
    obtain ⟨_, y1, y2⟩ := y
    have e1 : (items.size : Int) - 1 - (i : Int) = ((items.size - 1 - i : Nat) : Int) := by omega
    have hx : items[items.size - 1 - i]? = some (items[items.size - 1 - i]'(by omega)) := Array.getElem?_eq_getElem (by omega)
    rw [e1] at y1
    refine RT.next_rt_item y1 y2 hx hz fun h' it' sb => ?_
    have e2 : ((items.size - 1 - i : Nat) : Int) - 1 = (items.size : Int) - 1 - ((i + 1 : Nat) : Int) := by omega
    rw [e2] at it'
    exact k _ h' _ hx ⟨hi, it', isTup_at y2 fun o eo => (sb.2 t hne).trans eo⟩ fun b o hb eo => (sb.2 b (fun z => hb (by simp [z]))).trans eo
  done := fun s Q E y k => by
    obtain ⟨_, y1, y2⟩ := y
    have e1 : (items.size : Int) - 1 - (items.size : Int) = -1 := by omega
    rw [e1] at y1
    exact RT.next_rt_end hh y1 fun h' he => k h' s.toks fun b o hb eo => he b o (fun z => hb (by simp [z])) eo
  self := fun _ _ _ _ y k => RT.iter_rt y.2.1 k
theorem own_rt {it t : Addr} {items : Array Value} (hne : t ≠ it) (hz : items.size ≤ sizeLine) : OwnSrc prog w "reversed" it t items.size (fun i v => items[items.size - 1 - i]? = some v) (fun i h => i ≤ items.size ∧ RT.IsRt h it t ((items.size : Int) - 1 - (i : Int)) ∧ IsTup h t items) where
  type := fun s st => st.2.1.typeIs
  there := fun h st => ⟨let ⟨_, ho, _⟩ := st.2.1; Heap.lt_size ho, let ⟨_, ho, _⟩ := st.2.2; Heap.lt_size ho⟩
  notList := by decide
  notTuple := by decide
  hint := fun _ _ s _ st hq => hint_rt (by have := st.2.1; rwa [show (items.size : Int) - 1 - ((0 : Nat) : Int) = (items.size : Int) - 1 by omega] at this) st.2.2 hz hq
  walk := fun _ hh => walk_rt hh it t hne items hz
end
section
variable {X : Cx} {G : Gx} {e : Expr} {sa : SE}
/-- list(reversed(x)), x a list or a tuple: a new list -/
def tListRevA (K : PySem.W.Frag) (te : TE) : TE := fun σ H Q => te σ H fun v H1 => ∃ (a : Addr) (xs : List V), v = .ref a ∧ (SqL K H1 a xs ∨ SqT K H1 a xs) ∧ ∀ q, H1 q = none → Q (.ref q) (upd H1 q (.lst xs.reverse))
theorem pe_listRevA {te : TE} {p p2 pos pos2 : Pos} (hc : X.calm = true) (hg : Gl X "list") (hm : X.mg "list" = none) (hg2 : Gl X "reversed") (hm2 : X.mg "reversed" = none) (he : PE X e te)
    (hs : starEach [e] X.env = (false, eval e X.env) :: starEach [] X.env := by rfl)
    (hs2 : starEach [.Call (.Name "reversed" p2) [e] [] pos2] X.env = (false, eval (.Call (.Name "reversed" p2) [e] [] pos2) X.env) :: starEach [] X.env := by rfl) :
    PE X (.Call (.Name "list" p) [.Call (.Name "reversed" p2) [e] [] pos2] [] pos) (tListRevA X.K te) := by
  refine ⟨fun pins s σ H Q I h => ?_⟩
  refine Call_ (ld_blt I hg hm boot_list (PyProof.Rows.callWith_type1 (args_cons (Call_ (ld_blt I hg2 hm2 PyProof.Rows.boot_reversed (PyProof.Rows.callWith_type1 (args_cons (thn (he.run pins s σ H _ I h) fun u s1 ⟨v, H1, I1, r1, q1⟩ => args_nil ?_) hs) hs rfl))) hs2) hs2 rfl))
  obtain ⟨a, xs, ev, hq, q⟩ := q1
  subst ev
  obtain rfl : u = Value.ref a := r1
  rcases hq with hq | hq
  · obtain ⟨its, rv, p', hz⟩ := I1.list hq
    refine call_reversed_list p'.isList (args_nil ?_)
    have k0 : ∀ b o, s1.heap.get? b = some o → (s1.heap.push (revObj a ((its.toArray.size : Int) - 1))).get? b = some o := fun b o e => Heap.get?_push_of_some _ e
    have I2 : Inv X pins σ H1 { s1 with heap := s1.heap.push (revObj a ((its.toArray.size : Int) - 1)) } := I1.kept (t' := s1.toks) k0
    obtain ⟨f0, f1, f2, f3, f4, f5⟩ := I1.fpOk (H' := H1) (b := s1.heap.objs.size) (Nat.le_refl _) (I1.hok.fresh (Nat.le_refl _))
    have hl := p'.isList
    obtain ⟨ol, hol, _⟩ := id hl
    have hne : a ≠ s1.heap.objs.size := Nat.ne_of_lt (Heap.lt_size hol)
    have hn : its.toArray.size ≤ sizeLine := by rw [List.size_toArray, ← rv.length]; exact hz
    have e0 : ((its.toArray.size : Nat) : Int) - 1 - ((0 : Nat) : Int) = (its.toArray.size : Int) - 1 := by omega
    refine own_call (s := { s1 with heap := s1.heap.push (revObj a ((its.toArray.size : Int) - 1)) }) (own_rev (items := its.toArray) hne) (I1.ok.hd hc) ⟨Nat.zero_le _, by rw [e0]; exact ⟨_, Heap.get?_push_size _ rfl, rfl, rfl⟩, hl.push _⟩ hn fun h' tk acc c' hk hS hi => ?_
    have hsz : s1.heap.objs.size ≤ (s1.heap.push (revObj a ((its.toArray.size : Int) - 1))).objs.size := by rw [Heap.size_push]; omega
    have hfr : ∀ b ∈ [s1.heap.objs.size], FpOk X pins H1 b := fun b hb => by
      rw [List.mem_singleton.mp hb]
      exact ⟨f0, f1, f2, f3, f4, f5⟩
    refine ⟨.ref (s1.heap.push (revObj a ((its.toArray.size : Int) - 1))).objs.size, upd H1 (s1.heap.push (revObj a ((its.toArray.size : Int) - 1))).objs.size (.lst xs.reverse), I2.turnedNew (ch := [s1.heap.objs.size]) (t' := tk) (fun b o hb e => hk b o (fun z => hb (by simp [z])) e) hfr (Nat.le_refl _)
      ⟨by rw [List.length_reverse]; exact hz, acc.toList, c', RT.vals_rev rv hi, by rw [Array.toArray_toList]; exact hS⟩, rfl, q _ (I2.hok.fresh (Nat.le_refl _))⟩
  · obtain ⟨its, rv, p', hz⟩ := I1.tuple hq
    have hn : its.toArray.size ≤ sizeLine := by rw [List.size_toArray, ← rv.length]; exact hz
    have hz2 := hn
    rw [sizeLine_eq] at hz2
    refine RT.call_reversed_tup p' (fun A E Q k => PyProof.Rows.len_tuple p' (by omega) k) (args_nil ?_)
    have k0 : ∀ b o, s1.heap.get? b = some o → (s1.heap.push (RT.rtObj a ((its.toArray.size : Int) - 1))).get? b = some o := fun b o e => Heap.get?_push_of_some _ e
    have I2 : Inv X pins σ H1 { s1 with heap := s1.heap.push (RT.rtObj a ((its.toArray.size : Int) - 1)), toks := s1.toks + 1 + 1 } := I1.kept (t' := s1.toks + 1 + 1) k0
    obtain ⟨f0, f1, f2, f3, f4, f5⟩ := I1.fpOk (H' := H1) (b := s1.heap.objs.size) (Nat.le_refl _) (I1.hok.fresh (Nat.le_refl _))
    obtain ⟨ol, hol, _⟩ := id p'
    have hne : a ≠ s1.heap.objs.size := Nat.ne_of_lt (Heap.lt_size hol)
    have e0 : ((its.toArray.size : Nat) : Int) - 1 - ((0 : Nat) : Int) = (its.toArray.size : Int) - 1 := by omega
    refine own_call (s := { s1 with heap := s1.heap.push (RT.rtObj a ((its.toArray.size : Int) - 1)), toks := s1.toks + 1 + 1 }) (own_rt (items := its.toArray) hne hn) (I1.ok.hd hc) ⟨Nat.zero_le _, by rw [e0]; exact ⟨_, Heap.get?_push_size _ rfl, rfl, rfl⟩, isTup_at p' fun o e => Heap.get?_push_of_some _ e⟩ hn fun h' tk acc c' hk hS hi => ?_
    have hsz : s1.heap.objs.size ≤ (s1.heap.push (RT.rtObj a ((its.toArray.size : Int) - 1))).objs.size := by rw [Heap.size_push]; omega
    have hfr : ∀ b ∈ [s1.heap.objs.size], FpOk X pins H1 b := fun b hb => by
      rw [List.mem_singleton.mp hb]
      exact ⟨f0, f1, f2, f3, f4, f5⟩
    refine ⟨.ref (s1.heap.push (RT.rtObj a ((its.toArray.size : Int) - 1))).objs.size, upd H1 (s1.heap.push (RT.rtObj a ((its.toArray.size : Int) - 1))).objs.size (.lst xs.reverse), I2.turnedNew (ch := [s1.heap.objs.size]) (t' := tk) (fun b o hb e => hk b o (fun z => hb (by simp [z])) e) hfr (Nat.le_refl _)
      ⟨by rw [List.length_reverse]; exact hz, acc.toList, c', RT.vals_rev rv hi, by rw [Array.toArray_toList]; exact hS⟩, rfl, q _ (I2.hok.fresh (Nat.le_refl _))⟩
/-- a new list: the items of a list or a tuple in the other order -/
def fListRev : D → Store → Res D := fun d S => match d with
  | .tup l => .ok (.ref S.length) (S ++ [.lst l.reverse])
  | .ref n => match lstOf S n with
    | some l => .ok (.ref S.length) (S ++ [.lst l.reverse])
    | none => .bad
  | _ => .bad
theorem me_listRevA {p p2 pos pos2 : Pos} (hm : X.mg "list" = none) (hm2 : X.mg "reversed" = none) (he : ME X G e sa) (hc : X.calm = true := by rfl) (hg : Gl X "list" := by rfl) (hg2 : Gl X "reversed" := by rfl)
    (hs : starEach [e] X.env = (false, eval e X.env) :: starEach [] X.env := by rfl)
    (hs2 : starEach [.Call (.Name "reversed" p2) [e] [] pos2] X.env = (false, eval (.Call (.Name "reversed" p2) [e] [] pos2) X.env) :: starEach [] X.env := by rfl) :
    ME X G (.Call (.Name "list" p) [.Call (.Name "reversed" p2) [e] [] pos2] [] pos) (s1 fListRev sa) := fun ok =>
  pe_imp (pe_listRevA hc hg hm hg2 hm2 (he ok) hs hs2) fun σ H Q h => by
    obtain ⟨p, env, S, rs, rst, g⟩ := h
    refine one rs rst g fun H1 p1 S1 d x _ rs1 r1 rx g1 => ?_
    unfold fListRev at g1
    split at g1
    · rename_i l
      obtain ⟨a, xs, rfl, h1, h2⟩ := RV.tup_iff.mp rx
      refine ⟨a, xs, rfl, .inr h1, fun q hq => ?_⟩
      obtain ⟨E, R, r⟩ := r1.newL hq h2.rev
      exact g1 _ _ E R _ r
    · split at g1
      · rename_i l hl
        obtain ⟨a, xs, rfl, h1, h2⟩ := r1.list hl rx
        refine ⟨a, xs, rfl, .inl h1, fun q hq => ?_⟩
        obtain ⟨E, R, r⟩ := r1.newL hq h2.rev
        exact g1 _ _ E R _ r
      · exact g1.elim
    · exact g1.elim
end
end Rg
/-! RgBx: what is raised and caught. -/
namespace Rg
open PySem PySem.Spec PyProof.Rows L2
/-- the classes of what is raised, by their names -/
def xvK (K : PySem.W.Frag) : Str → Value := fun x => .ref (He.ga K x)
structure XAt (K : PySem.W.Frag) (mg : Str → Option Value) (xv : Str → Value) (x : Str) : Prop where
  v : xv x = .ref (He.ga K x)
  g : mg x = some (.ref (He.ga K x))
  e : PySem.W.excIn K (He.ga K x) He.veBase "ValueError.__new__" = true
  k : PySem.W.keepIn K (.ref (He.ga K x)) = true
  b : PySem.W.subIn K (.ref (He.ga K x)) (.type "BaseException") = some true
  t : PySem.W.typeIn K (.ref (He.ga K x)) = some (.type "type")
/-- one class beneath another one, or not -/
def XSub (K : PySem.W.Frag) (x y : Str) (b : Bool) : Prop := PySem.W.exmOne K (.ref (He.ga K x)) (.ref (He.ga K y)) = some b
theorem xat_mk {K : PySem.W.Frag} {h : Heap} {mg : Str → Option Value} {x : Str} (X : K.In h) (G : h.Ns mainGlobals mg) (a : (He.Fa.glo x).ok K = true) (e : (He.Fa.exc x).ok K = true) : XAt K mg (xvK K) x :=
  let ⟨h1, h2, h3, h4⟩ := He.exc_ok e
  ⟨rfl, He.glo_ok X G a, h1, h2, h3, h4⟩
def sRaise (x : Str) : SS := fun env S => .exc x env S
/-- what of the known classes a clause catches -/
def XKnown (K : PySem.W.Frag) (xv : Str → Value) (y : Str) (ks : List (Str × Bool)) : Prop := ∀ x b, (x, b) ∈ ks → PySem.W.exmOne K (xv x) (.ref (He.ga K y)) = some b
def caughtIn : List (Str × Bool) → Str → Option Bool
  | [], _ => none
  | (y, b) :: l, x => if y = x then some b else caughtIn l x
theorem caught_mem {x : Str} {b : Bool} : ∀ {l : List (Str × Bool)}, caughtIn l x = some b → (x, b) ∈ l
  | [], h => by cases h
  | (y, c) :: l, h => by
    unfold caughtIn at h
    by_cases e : y = x
    · rw [if_pos e] at h
      cases h
      subst e
      exact List.mem_cons_self
    · rw [if_neg e] at h
      exact List.mem_cons_of_mem _ (caught_mem h)
def noExc : ResS → ResS
  | .exc _ _ _ => .bad
  | r => r
/-- try .. except y: .. -/
def sTry (ks : List (Str × Bool)) (b h : SS) : SS := fun env S => match b env S with
  | .exc x e S1 => match caughtIn ks x with
    | some true => noExc (h e S1)
    | some false => .exc x e S1
    | none => .bad
  | r => r
section
variable {X : Cx} {G : Gx} {pos : Pos}
theorem ms_raise {x m : Str} {j : Nat} {p p2 pos2 : Pos} (q : XAt X.K X.mg G.xv x) (hc : X.calm = true := by rfl) (hg : Gl X x := by rfl) (hdb : (x == ("__debug__" : Str)) = false := by decide) : MS X G (.Raise (some (.Call (.Name x p) [.Constant (.str m) j p2] [] pos2)) none pos) (sRaise x) := fun ok =>
  ps_imp (ps_raise hc ok.tk (pmk_own PySem.F.excBase_ValueError q.e q.g q.k (raises_own q.b q.t) hg hdb)) fun E σ H h => by
    obtain ⟨p, env, S, rs, rst, g⟩ := h
    have := g σ H p .refl rs rst
    rw [q.v] at this
    exact this
theorem goodS_no {K : PySem.W.Frag} {G G' : Gx} {H : Hp} {p : List Addr} {r : ResS} {E : Ends} (h : GoodS K G H p (noExc r) E) : GoodS K G' H p r E := by
  cases r with
  | exc c e S => exact h.elim
  | _ => exact h
theorem ms_try {y : Str} {ks : List (Str × Bool)} {body suite : List Stmt} {b₀ : Stmt} {np pos' : Pos} {sb sh : SS} (q : XKnown X.K G.xv y ks) (hy : X.mg y = some (.ref (He.ga X.K y)))
    (hb : ∀ (W : WX) (pn : List (Addr × Obj)) (xe : Value → Shared → Prop), MSs (X.tr pn xe) ⟨G.xv, W⟩ body sb)
    (hsu : ∀ (a : Addr) (oe : Obj) (cls : Value) (pn : List (Addr × Obj)), Zc cls none oe → (∃ vs, oe.data = .fields vs) → MSs (X.suite a ((a, oe) :: pn)) ⟨G.xv, noW⟩ (b₀ :: suite) sh)
    (hs : X.stack = X.env :: X.outer := by rfl) (hf : X.env.frame = some X.env.locals := by rfl) (hg : Gl X y := by rfl) (hdb : (y == ("__debug__" : Str)) = false := by decide) :
    MS X G (.Try body [.ExceptHandler (some (.Name y np)) none (b₀ :: suite) pos'] [] [] pos) (sTry ks sb sh) := fun ok => by
  refine ps_imp (ps_try_only (tb := fun W => TSo X.K ⟨G.xv, W⟩ sb) (ts := fun a cls d D σ H => d = none ∧ TSo X.K ⟨G.xv, noW⟩ sh D σ H) hs hf ⟨hg, hdb, .inl hy⟩ ok.tk (fun W pn xe tk po => hb W pn xe ⟨tk, po⟩) (fun a oe cls d pn hz hd => ?_)) fun D σ H h => ?_
  · refine ⟨fun pins s σ H D I q => ?_⟩
    obtain ⟨rfl, q⟩ := q
    exact (hsu a oe cls pn hz hd ⟨fun u s' ⟨_, _, _, _, _, _, _, _, _, _, _, _, _, _, _, _, w⟩ => w.elim, PassesOwn.never⟩).run pins s σ H D I q
  · obtain ⟨p, env, S, rs, rst, g⟩ := h
    refine ⟨p, env, S, rs, rst, ?_⟩
    unfold sTry at g
    cases hb : sb env S with
    | exc x e S1 =>
      rw [hb] at g
      dsimp only at g
      cases hk : caughtIn ks x with
      | none => rw [hk] at g; exact g.elim
      | some b =>
        rw [hk] at g
        intro σ' H' p' x' rs' rst'
        refine ⟨b, q x b (caught_mem hk), fun hbt a na => ?_, fun hbf => ?_⟩
        · subst hbt
          dsimp only at g
          exact ⟨rfl, p', e, S1, rs', rst', goodS_no (g.at x')⟩
        · subst hbf
          exact g σ' H' p' x' rs' rst'
    | _ => rw [hb] at g; exact g
end
end Rg
/-! RgBq: {a text: a name}. -/
namespace Rg
open PySem PySem.Spec PyProof.Rows L2
section
variable {X : Cx} {G : Gx} {pos : Pos}
def sDct1 (i : Nat) : SE := fun env S => (sVar i env S).bind fun _ S1 => .ok (.ref S1.length) (S1 ++ [.dct])
theorem me_dct1 (i : Nat) {k : Str} {x : Str} {j : Nat} {kp vp : Pos} (hN : X.N[i]? = some x := by rfl) (hv : Vis X.env.scope x := by first | exact Or.inl rfl | exact Or.inr (Or.inl rfl) | exact Or.inr (Or.inr rfl)) (hd : (x == ("__debug__" : Str)) = false := by decide)
    (hcd : (x == ("__classdict__" : Str)) = false := by decide) : ME X G (.Dict [some (.Constant (.str k) j kp)] [.Name x vp] pos) (sDct1 i) := fun _ => by
  refine pe_imp (pe_disp (pps_cons pe_str (pe_var hN hv hd hcd) pps_nil) rfl rfl (by simp) (by simp)) fun σ H Q h => ?_
  obtain ⟨p, env, S, rs, rst, g⟩ := h
  intro q hq
  unfold sDct1 sVar at g
  split at g
  · rename_i d hd
    obtain ⟨v, e1, e2⟩ := rs.2 _ _ hd
    refine ⟨v, e1, upd_same, [(.inr k, v)], rfl, by simp, ?_⟩
    have e : upd (upd H q (.dK [])) q (.dK (mergeK [] [((Sum.inr k : Key), v)])) = upd H q (.dK (mergeK [] [((Sum.inr k : Key), v)])) := by
      funext b
      by_cases hb : b = q
      · subst hb; rw [upd_same, upd_same]
      · rw [upd_ne hb, upd_ne hb, upd_ne hb]
    rw [e]
    obtain ⟨E, R, e3⟩ := rst.push (o := .dK (mergeK [] [((Sum.inr k : Key), v)])) (c := .dct) hq ⟨_, upd_same⟩
    exact g _ _ E R _ (RV.ref_iff.mpr ⟨q, rfl, e3⟩)
  · exact g.elim
end
end Rg
/-! RgBo: list(enumerate(a list or a tuple)): what is drawn stays in the new list. -/
namespace Rg
open PySem PySem.Spec PyProof.Rows L2
section
variable {prog : Program} {w : World} {A : Around} {E : Value → Shared → Prop} {s : Shared}
/-- an iterator that is its own: what is put together is told with the heap -/
structure HeapSrc (prog : Program) (w : World) (T : String) (S r : Addr) (fp wr : List Addr) (n : Nat) (J : Nat → Array Value → Heap → Prop) (F : Array Value → Heap → Prop) : Prop where
  type : ∀ (s : Shared) acc, J 0 acc s.heap → s.TypeIs (.ref r) T
  notList : (Value.type T == Value.type "list") = false
  notTuple : (Value.type T == Value.type "tuple") = false
  hint : ∀ (A : Around) (E : Value → Shared → Prop) (s : Shared) (Q : Bool → Shared → Prop) acc, J 0 acc s.heap → (∀ b tk, Q b { s with toks := tk }) → wpAny (model prog w) A (Builtin.List.listLengthHint (.ref r)) Q E s
  off : S ∉ wr
  ne : S ≠ r
  size : ∀ i acc h, J i acc h → acc.size = i
  frame : ∀ i acc h h', J i acc h → (∀ b o, b ≠ S → h.get? b = some o → h'.get? b = some o) → J i acc h'
  item : ∀ (A : Around), A.handled = none → ∀ i (s : Shared) acc (Q : Option Value → Shared → Prop) (E : Value → Shared → Prop), i < n → S < s.heap.objs.size → J i acc s.heap →
    (∀ v h' tk, J (i + 1) (acc.push v) h' → (∀ b o, b ∉ wr → s.heap.get? b = some o → h'.get? b = some o) → Q (some v) { s with heap := h', toks := tk }) → wpAny (model prog w) A (pyNext (.ref r)) Q E s
  done : ∀ (A : Around), A.handled = none → ∀ (s : Shared) acc (Q : Option Value → Shared → Prop) (E : Value → Shared → Prop), J n acc s.heap →
    (∀ h' tk, F acc h' → (∀ b o, b ∉ wr → s.heap.get? b = some o → h'.get? b = some o) → Q none { s with heap := h', toks := tk }) → wpAny (model prog w) A (pyNext (.ref r)) Q E s
  self : ∀ (A : Around) (s : Shared) acc (Q : Value → Shared → Prop) (E : Value → Shared → Prop), J 0 acc s.heap → Q (.ref r) s → wpAny (model prog w) A (pyIter (.ref r)) Q E s
variable {T : String} {S r : Addr} {fp wr : List Addr} {n : Nat} {J : Nat → Array Value → Heap → Prop} {F : Array Value → Heap → Prop} {R : Result → Shared → Prop}
theorem heap_loop (K : HeapSrc prog w T S r fp wr n J F) (hh : A.handled = none) (hn : n ≤ sizeLine) (res : Value) :
    ∀ (k i : Nat) (s : Shared) (acc : Array Value) (c : Nat), n - i = k → i ≤ n → J i acc s.heap → s.heap.get? S = some { cls := .type "list", dict := none, data := .seq acc c, slots := #[] } →
    (∀ h' tk acc' c', (∀ b o, b ≠ S → b ∉ wr → s.heap.get? b = some o → h'.get? b = some o) → h'.get? S = some { cls := .type "list", dict := none, data := .seq acc' c', slots := #[] } → F acc' h' → R (.ok (.ret res)) { s with heap := h', toks := tk }) →
    codeAny (model prog w) A (.builtin "list.extend.loop" ⟨[.ref S, .ref r, res], []⟩) R s := by
  intro k
  induction k with
  | zero =>
    intro i s acc c hk hi hJ hS hR
    have hin : i = n := by omega
    subst hin
    refine codeAny_builtin PySem.F.entry_extend_loop ?_
    rw [Around.under_plainId PySem.F.plain_extend_loop _]
    show wpAny _ A.in1 (pyNext (.ref r) >>= _) _ _ s
    refine wpAny_bind (K.done A.in1 hh s acc _ _ hJ fun h' tk hJ' hm => ?_)
    exact wpAny_pure (hR h' tk acc c (fun b o _ hb e => hm b o hb e) (hm S _ K.off hS) hJ')
  | succ k ih =>
    intro i s acc c hk hi hJ hS hR
    have hlt : i < n := by omega
    refine codeAny_builtin PySem.F.entry_extend_loop ?_
    rw [Around.under_plainId PySem.F.plain_extend_loop _]
    show wpAny _ A.in1 (pyNext (.ref r) >>= _) _ _ s
    refine wpAny_bind (K.item A.in1 hh i s acc _ _ hlt (Heap.lt_size hS) hJ fun v h' tk hJ' hm => ?_)
    have hS' := hm S _ K.off hS
    have hz := K.size _ _ _ hJ
    show wpAny _ A.in1 (updateSeq S (·.push v) >>= _) _ _ _
    refine wpAny_bind ?_
    refine wpAny_updateSeq hS' rfl (wpAny_pure ⟨plainId_quiet PySem.F.plain_extend_loop _, ih (i + 1) _ (acc.push v) _ (by omega) hlt (K.frame _ _ h' _ hJ' fun b o hb e => ?_) (Heap.get?_update_self _ hS' rfl) fun h'' tk' acc' c' hm'' hS'' hacc' => ?_⟩)
      (by rw [hz]; omega) (by show (acc.push v).size ≤ sizeLine + 1; rw [Array.size_push, hz]; omega)
    · exact (Heap.get?_update_other _ _ (Ne.symm hb)).trans e
    · refine hR h'' tk' acc' c' (fun b o hb hw e => hm'' b o hb hw ?_) hS'' hacc'
      exact (Heap.get?_update_other _ _ (Ne.symm hb)).trans (hm b o hw e)
theorem heap_extend (K : HeapSrc prog w T S r fp wr n J F) (hh : A.handled = none) (hok : J 0 #[] s.heap) (res : Value) (c₀ : Nat) (hS : s.heap.get? S = some { cls := .type "list", data := .seq #[] c₀ })
    (hR : ∀ h' tk acc' c', (∀ b o, b ≠ S → b ∉ wr → s.heap.get? b = some o → h'.get? b = some o) → h'.get? S = some { cls := .type "list", dict := none, data := .seq acc' c', slots := #[] } → F acc' h' → R (.ok (.ret res)) { s with heap := h', toks := tk }) (hn : n ≤ sizeLine) :
    wpAny (model prog w) A.in1 (Builtin.List.listExtendWith (.ref S) (.ref r) res)
      (fun fin s' => match fin with | .done f => R (.ok f) s' | .again c' => c'.quiet = true ∧ codeAny (model prog w) A c' R s') (fun e s' => R (.error e) s') s := by
  have key : ∀ (h : Heap) (c₁ tk : Nat), J 0 #[] h → (∀ b o, b ≠ S → s.heap.get? b = some o → h.get? b = some o) →
      h.get? S = some { cls := .type "list", data := .seq #[] c₁ } → codeAny (model prog w) A (.builtin "list.extend.loop" ⟨[.ref S, .ref r, res], []⟩) R { s with heap := h, toks := tk } := by
    intro h c₁ tk hst hk hS₁
    refine heap_loop K hh hn res n 0 _ #[] c₁ rfl (Nat.zero_le _) hst hS₁ fun h' tk' acc' c' hm hS' hacc => ?_
    exact hR h' tk' acc' c' (fun b o hb hbr e => hm b o hb hbr (hk b o hb e)) hS' hacc
  unfold Builtin.List.listExtendWith
  refine wpAny_bind (wpAny_typeOf (T := T) (K.type s _ hok) ?_)
  have h1 : Builtin.List.listSameRef (.ref S) (.ref r) = false := by simp [Builtin.List.listSameRef, K.ne]
  simp only [h1, K.notList, K.notTuple, Bool.or_false, Bool.false_eq_true, if_false]
  refine wpAny_bind (K.self _ s _ _ _ hok ?_)
  refine wpAny_bind (wpAny_holding (K.hint _ _ _ _ _ hok fun bb tk1 => ?_))
  refine wpAny_ite_split (fun _ => ?_) (fun _ => wpAny_pure ⟨plainId_quiet PySem.F.plain_extend_loop _, key _ c₀ _ hok (fun b o _ e => e) hS⟩)
  refine wpAny_bind (wpAny_rule ?_)
  refine wpAny_bind ?_
  show wpAny _ _ (updateSeq S (·.push .none) >>= fun _ => updateSeq S (·.pop)) _ _ _
  refine wpAny_bind (wpAny_updateSeq hS rfl ?_)
  have hS₂ := Heap.get?_update_self (Obj.mapSeq (·.push Value.none)) hS rfl
  refine wpAny_updateSeq (hz := by seq_fits) hS₂ rfl ?_
  have hS₃ := Heap.get?_update_self (Obj.mapSeq (·.pop)) hS₂ rfl
  refine wpAny_pure ⟨plainId_quiet PySem.F.plain_extend_loop _, key _ _ _ ?_ (fun b o hb e => ?_) hS₃⟩
  · exact K.frame 0 _ _ _ hok fun b o hb e => (Heap.get?_update_other _ _ (Ne.symm hb)).trans ((Heap.get?_update_other _ _ (Ne.symm hb)).trans e)
  · exact (Heap.get?_update_other _ _ (Ne.symm hb)).trans ((Heap.get?_update_other _ _ (Ne.symm hb)).trans e)
theorem heap_call {Q : Value → Shared → Prop} (K : HeapSrc prog w T s.heap.objs.size r fp wr n J F) (hh : A.handled = none) (hok : ∀ h', (∀ b o, s.heap.get? b = some o → h'.get? b = some o) → J 0 #[] h') (hn : n ≤ sizeLine)
    (hQ : ∀ h' tk acc' c', (∀ b o, b ∉ wr → s.heap.get? b = some o → h'.get? b = some o) → h'.get? s.heap.objs.size = some { cls := .type "list", dict := none, data := .seq acc' c', slots := #[] } → F acc' h' → Q (.ref s.heap.objs.size) { s with heap := h', toks := tk }) :
    wpAny (model prog w) A (call (.type "list") [.ref r]) Q E s := by
  refine callType_codes (Q₁ := fun obj s₁ => obj = .ref s.heap.objs.size ∧ s₁ = { s with heap := s.heap.push { cls := .type "list", data := .seq #[] } }) PySem.F.called_list (PySem.F.typeCall_list_1 _) PySem.F.entry_list_init
    (code_list_new _ ⟨rfl, rfl⟩) fun obj s₁ h₁ => ?_
  obtain ⟨rfl, rfl⟩ := h₁
  have hS : (s.heap.push { cls := .type "list", data := .seq #[] }).get? s.heap.objs.size = some { cls := .type "list", data := .seq #[] } := Heap.get?_push_size _ rfl
  refine ⟨⟨_, hS, rfl⟩, PySem.F.args_list_init_2 _ _, ?_⟩
  show wpAny _ _ (do let old ← Builtin.List.listItems (.ref s.heap.objs.size); Builtin.List.listUpdate (.ref s.heap.objs.size) (fun _ => #[]); letGo old.toList.reverse; Builtin.List.listExtendWith (.ref s.heap.objs.size) (.ref r) .none) _ _ _
  refine wpAny_bind ?_
  unfold Builtin.List.listItems
  refine wpAny_bind (wpAny_seqItems hS rfl (wpAny_pure ?_))
  show wpAny _ _ (updateSeq s.heap.objs.size (fun _ => #[]) >>= fun _ => letGo (#[] : Array Value).toList.reverse >>= fun _ => Builtin.List.listExtendWith (.ref s.heap.objs.size) (.ref r) .none) _ _ _
  refine wpAny_bind (wpAny_updateSeq hS rfl ?_)
  have hS₂ := Heap.get?_update_self (Obj.mapSeq (fun _ => (#[] : Array Value))) hS rfl
  have oth : ∀ b o, s.heap.get? b = some o → ((s.heap.push { cls := .type "list", data := .seq #[] }).update s.heap.objs.size (Obj.mapSeq (fun _ => (#[] : Array Value)))).get? b = some o :=
    fun b o e => (Heap.get?_update_other _ _ (Nat.ne_of_gt (Heap.lt_size e))).trans (Heap.get?_push_of_some _ e)
  refine wpAny_bind (wpAny_letGo ?_)
  refine heap_extend (A := A.in1) K hh (hok _ oth) .none _ hS₂ (fun h' tk acc' c' hk hS' hacc => ?_) hn
  exact ⟨rfl, hQ h' tk acc' c' (fun b o hbr e => hk b o (Nat.ne_of_lt (Heap.lt_size e)) hbr (oth b o e)) hS' hacc⟩
end
end Rg
/-! RgBp: list(enumerate(a list or a tuple)). -/
namespace Rg
open PySem PySem.Spec PyProof.Rows L2
theorem nolen_enum : typeLookup (.type "enumerate") "__len__" = pure none := by rw [typeLookup_type, builtinLookup_eq_fast]; kernel_rfl
theorem nohint_enum : typeLookup (.type "enumerate") "__length_hint__" = pure none := by rw [typeLookup_type, builtinLookup_eq_fast]; kernel_rfl
section
variable {prog : Program} {w : World} {A : Around} {E : Value → Shared → Prop} {s : Shared}
theorem hint_enum {e : Addr} {Q : Bool → Shared → Prop} (hT : s.TypeIs (.ref e) "enumerate") (h : ∀ b tk, Q b { s with toks := tk }) : wpAny (model prog w) A (Builtin.List.listLengthHint (.ref e)) Q E s := by
  unfold Builtin.List.listLengthHint
  refine wpAny_bind (wpAny_specialOf hT nolen_enum ?_)
  show wpAny _ A (specialOf (Value.ref e) (Str.ofString "__length_hint__") >>= _) _ _ _
  refine wpAny_bind (wpAny_specialOf hT nohint_enum ?_)
  exact wpAny_pure (h _ _)
theorem enum_heldD {e it T : Addr} {fp : List Addr} {n i : Nat} {P : Nat → Value → Prop} {St : Nat → Heap → Prop} {old : Value} {f : Bool} {oT : Obj} {Q : Value → Shared → Prop}
    (D : Draws prog w A it fp n P St) (he : IsEnumHeld s.heap e it i old T f) (hT : s.heap.get? T = some oT) (hTe : T ≠ e) (hTi : T ≠ it) (hst : St i s.heap) (hlt : i < n) (hne : e ≠ it) (hef : e ∉ fp)
    (hQ : ∀ x h' tk, P i x → IsEnumHeld h' e it ((i : Int) + 1) old T true → St (i + 1) h' →
      h'.get? s.heap.objs.size = some { cls := .type "tuple", data := .seq #[.int i tk, x] } → h'.objs.size = s.heap.objs.size + 1 →
      (∀ b o, b ≠ e → b ≠ it → s.heap.get? b = some o → h'.get? b = some o) → Q (.ref s.heap.objs.size) { s with heap := h', toks := tk + 1 }) :
    wpAny (model prog w) A (Builtin.«enumerate.__next__» ⟨[.ref e], []⟩) (fun fin s' => ∃ v, fin = .done (.ret v) ∧ Q v s') E s := by
  obtain ⟨hp, g, d, tk₀, os⟩ := s
  show wpAny _ _ (field (.ref e) 2 >>= _) _ _ _
  refine wpAny_bind (wpAny_field he rfl (x := .ref it) rfl ?_)
  refine wpAny_bind (D.item i _ _ _ hlt hst fun x h₁ tk hPx hit₁ hs₁ => ?_)
  replace hs₁ : Heap.SameBut it hp h₁ := hs₁
  have he₁ : IsEnumHeld h₁ e it i old T f := (hs₁.2 e hne).trans he
  show wpAny _ _ (field (.ref e) 3 >>= _) _ _ ⟨h₁, g, d, tk, os⟩
  refine wpAny_bind (wpAny_field he₁ rfl (x := rawInt i) rfl ?_)
  show wpAny _ _ (field (.ref e) 4 >>= _) _ _ ⟨h₁, g, d, tk, os⟩
  refine wpAny_bind (wpAny_field he₁ rfl (x := .none) rfl ?_)
  show wpAny _ _ (mkInt i >>= _) _ _ ⟨h₁, g, d, tk, os⟩
  refine wpAny_bind (wpAny_mkInt ?_)
  show wpAny _ _ (setField (.ref e) 3 (rawInt ((i : Int) + 1)) >>= _) _ _ ⟨h₁, g, d, tk + 1, os⟩
  refine wpAny_bind (wpAny_setField_rec he₁ (by simp) fun h₂ he₂ hs₂ => ?_)
  replace hs₂ : Heap.SameBut e h₁ h₂ := hs₂
  replace he₂ : IsEnumHeld h₂ e it ((i : Int) + 1) old T f := he₂
  show wpAny _ _ (setField (.ref e) 4 .none >>= _) _ _ ⟨h₂, g, d, tk + 1, os⟩
  refine wpAny_bind (wpAny_setField_rec he₂ (by simp) fun h₃ he₃ hs₃ => ?_)
  replace hs₃ : Heap.SameBut e h₂ h₃ := hs₃
  replace he₃ : IsEnumHeld h₃ e it ((i : Int) + 1) old T f := he₃
  show wpAny _ _ (newTuple [.int i tk, x] >>= _) _ _ ⟨h₃, g, d, tk + 1, os⟩
  refine wpAny_bind (wpAny_newTuple ?_)
  have he₄ : IsEnumHeld (h₃.push { cls := .type "tuple", data := .seq #[.int i tk, x] }) e it ((i : Int) + 1) old T f := Heap.get?_push_of_some _ he₃
  generalize hh₄ : h₃.push { cls := .type "tuple", data := .seq #[.int i tk, x] } = h₄ at he₄
  have hsz : h₃.objs.size = hp.objs.size := by rw [hs₃.1, hs₂.1, hs₁.1]
  have hel : e < hp.objs.size := Heap.lt_size he
  have ht₄ : h₄.get? hp.objs.size = some { cls := .type "tuple", data := .seq #[.int i tk, x] } := by rw [← hh₄, ← hsz]; exact Heap.get?_push_size _ rfl
  have hz₄ : h₄.objs.size = hp.objs.size + 1 := by rw [← hh₄, Heap.size_push, hsz]
  have hk₄ : ∀ b o, b ≠ e → b ≠ it → hp.get? b = some o → h₄.get? b = some o := fun b o hbe hbi hb => by
    rw [← hh₄]; exact Heap.get?_push_of_some _ (hs₃.extBut b o hbe (hs₂.extBut b o hbe (hs₁.extBut b o hbi hb)))
  have hit₄ : St (i + 1) h₄ := D.frame _ _ _ hit₁ fun b hb o y => by
    have hbe : b ≠ e := fun q => hef (q ▸ hb)
    rw [← hh₄]; exact Heap.get?_push_of_some _ (hs₃.extBut b o hbe (hs₂.extBut b o hbe y))
  show wpAny _ _ (Builtin.SmallTypes.ownedTupleIsFree (.ref e) >>= _) _ _ ⟨h₄, g, d, tk + 1, os⟩
  rw [hsz]
  clear hh₄ he₃ hs₃ he₂ hs₂ he₁ hs₁ hit₁ hsz h₃ h₂ h₁
  refine wpAny_bind (wpAny_tupleHeld_enum (s := ⟨h₄, g, d, tk + 1, os⟩) he₄ (hk₄ T oT hTe hTi hT) fun h₅ he₅ hs₅ => ?_)
  replace hs₅ : Heap.SameBut e h₄ h₅ := hs₅
  simp only [Bool.false_eq_true, if_false]
  refine wpAny_pure ⟨_, rfl, hQ x h₅ tk hPx he₅ (D.frame _ _ _ hit₄ fun b hb o y => hs₅.extBut b o (fun q => hef (q ▸ hb)) y) (hs₅.extBut _ _ (Nat.ne_of_gt hel) ht₄) ?_ fun b o hbe hbi hb => hs₅.extBut b o hbe (hk₄ b o hbe hbi hb)⟩
  show h₅.objs.size = hp.objs.size + 1
  rw [hs₅.1, hz₄]
theorem next_heldD {e it T : Addr} {fp : List Addr} {n i : Nat} {P : Nat → Value → Prop} {St : Nat → Heap → Prop} {old : Value} {f : Bool} {oT : Obj} {Q : Option Value → Shared → Prop}
    (D : Draws prog w A.in1 it fp n P St) (he : IsEnumHeld s.heap e it i old T f) (hT : s.heap.get? T = some oT) (hTe : T ≠ e) (hTi : T ≠ it) (hst : St i s.heap) (hlt : i < n) (hne : e ≠ it) (hef : e ∉ fp)
    (hQ : ∀ x h' tk, P i x → IsEnumHeld h' e it ((i : Int) + 1) old T true → St (i + 1) h' →
      h'.get? s.heap.objs.size = some { cls := .type "tuple", data := .seq #[.int i tk, x] } → h'.objs.size = s.heap.objs.size + 1 →
      (∀ b o, b ≠ e → b ≠ it → s.heap.get? b = some o → h'.get? b = some o) → Q (some (.ref s.heap.objs.size)) { s with heap := h', toks := tk + 1 }) :
    wpAny (model prog w) A (pyNext (.ref e)) Q E s := by
  have hTy : s.TypeIs (.ref e) "enumerate" := ⟨_, he, rfl⟩
  unfold pyNext
  exact wpAny_bind (wpAny_attempt (wpAny_callSpecial?_slot (name := Str.ofString "__next__") hTy F.slot_enumerate_next
    (wpAny_call_entry F.slot_enumerate_next hTy F.entry_enumerate_next
      (enum_heldD D he hT hTe hTi hst hlt hne hef fun x h' tk a1 a2 a3 a4 a5 a6 => wpAny_pure (hQ x h' tk a1 a2 a3 a4 a5 a6)) (F.args_enumerate_next_1 _))))
theorem end_heldD {e it T : Addr} {fp : List Addr} {n : Nat} {P : Nat → Value → Prop} {St : Nat → Heap → Prop} {i : Int} {old : Value} {f : Bool} {Q : Option Value → Shared → Prop}
    (D : Draws prog w A.in1 it fp n P St) (he : IsEnumHeld s.heap e it i old T f) (hst : St n s.heap)
    (hQ : ∀ h', Heap.ExtBut it s.heap h' → Q none { s with heap := h' }) : wpAny (model prog w) A (pyNext (.ref e)) Q E s := by
  have hTy : s.TypeIs (.ref e) "enumerate" := ⟨_, he, rfl⟩
  unfold pyNext
  refine wpAny_bind (wpAny_attempt (wpAny_callSpecial?_slot (name := Str.ofString "__next__") hTy F.slot_enumerate_next
    (wpAny_call_entry F.slot_enumerate_next hTy F.entry_enumerate_next ?_ (F.args_enumerate_next_1 _))))
  show wpAny _ _ (field (.ref e) 2 >>= _) _ _ _
  refine wpAny_bind (wpAny_field he rfl (x := .ref it) rfl ?_)
  refine wpAny_bind (D.done _ _ _ hst fun h' x he' hx' => ?_)
  obtain ⟨o, ho, hc⟩ := hx'
  refine wpAny_bind (wpAny_isInstance (T := "StopIteration") (b := true) ⟨o, ho, hc⟩ isSubtype_stop ?_)
  exact wpAny_pure (hQ _ he')
end
structure EJ (N0 : Nat) (S e it : Addr) (P : Nat → Value → Prop) (St : Nat → Heap → Prop) (i : Nat) (acc : Array Value) (h : Heap) : Prop where
  size : acc.size = i
  st : St i h
  tup : ∀ j, j < i → ∃ a t x, acc[j]? = some (.ref a) ∧ h.get? a = some { cls := .type "tuple", data := .seq #[.int j t, x] } ∧ P j x ∧ N0 ≤ a ∧ a ≠ S ∧ a ≠ e ∧ a ≠ it
  en : (i = 0 ∧ ∃ old, IsEnum h e it 0 old) ∨ 0 < i ∧ ∃ T f old oT, IsEnumHeld h e it i old T f ∧ h.get? T = some oT ∧ T ≠ e ∧ T ≠ it ∧ T ≠ S
/-- the new tuples -/
def EF (N0 : Nat) (S : Addr) (P : Nat → Value → Prop) (n : Nat) (acc : Array Value) (h : Heap) : Prop := acc.size = n ∧ ∀ j, j < n → ∃ a t x, acc[j]? = some (.ref a) ∧ h.get? a = some { cls := .type "tuple", data := .seq #[.int j t, x] } ∧ P j x ∧ N0 ≤ a ∧ a ≠ S
section
variable {prog : Program} {w : World}
theorem src_enum {S e it : Addr} {N0 : Nat} {fp : List Addr} {n : Nat} {P : Nat → Value → Prop} {St : Nat → Heap → Prop} (hn0 : N0 ≤ e) (hei : e ≠ it) (hSe : S ≠ e) (hSi : S ≠ it) (hef : e ∉ fp) (hSf : S ∉ fp) (hif : it ∈ fp)
    (D : ∀ A : Around, A.handled = none → Draws prog w A it fp n P St) :
    HeapSrc prog w "enumerate" S e fp [e, it] n (EJ N0 S e it P St) (EF N0 S P n) := by
  have live : ∀ {i acc h}, EJ N0 S e it P St i acc h → e < h.objs.size := fun J => by
    rcases J.en with ⟨_, old, he⟩ | ⟨_, T, f, old, oT, he, _⟩
    · exact Heap.lt_size he
    · exact Heap.lt_size he
  have more : ∀ {i acc} {h h' : Heap} {tk : Nat} {x : Value}, i < n → EJ N0 S e it P St i acc h → S < h.objs.size → it < h.objs.size → P i x → St (i + 1) h' → h'.get? h.objs.size = some { cls := .type "tuple", data := .seq #[.int i tk, x] } →
      (∀ b o, b ≠ e → b ≠ it → h.get? b = some o → h'.get? b = some o) →
      ((∃ T f old oT, IsEnumHeld h' e it ((i : Int) + 1) old T f ∧ h'.get? T = some oT ∧ T ≠ e ∧ T ≠ it ∧ T ≠ S)) → EJ N0 S e it P St (i + 1) (acc.push (.ref h.objs.size)) h' := fun {i acc h h' tk x} hlt J hS hit hP hst hT hk hen => by
    have hle := live J
    refine ⟨by rw [Array.size_push, J.size], hst, fun j hj => ?_, .inr ?_⟩
    · rcases Nat.lt_or_ge j i with q | q
      · obtain ⟨a, t, x', e1, e2, e3, e4, e5, e6, e7⟩ := J.tup j q
        exact ⟨a, t, x', by rw [Array.getElem?_push_lt (by rw [J.size]; exact q)]; rw [← e1, Array.getElem?_eq_getElem], hk _ _ e6 e7 e2, e3, e4, e5, e6, e7⟩
      · have : j = i := by omega
        subst this
        exact ⟨h.objs.size, tk, x, by rw [← J.size, Array.getElem?_push_size], hT, hP, Nat.le_trans hn0 (Nat.le_of_lt hle), Nat.ne_of_gt hS, Nat.ne_of_gt hle, Nat.ne_of_gt hit⟩
    · obtain ⟨T, f, old, oT, r⟩ := hen
      exact ⟨Nat.succ_pos _, T, f, old, oT, by rw [Int.natCast_add]; exact r⟩
  have itl : ∀ {i acc h}, EJ N0 S e it P St i acc h → it < h.objs.size := fun {i acc h} J => by
    obtain ⟨o, ho⟩ := (D {} rfl).live _ _ J.st
    exact Heap.lt_size ho
  refine ⟨fun s acc J => ?_, by decide, by decide, fun A E s Q acc J h => ?_, by simp [hSe, hSi], hSe, fun i acc h J => J.size, fun i acc h h' J hk => ?_, fun A hh i s acc Q E hlt hS J h => ?_, fun A hh s acc Q E J h => ?_, fun A s acc Q E J h => ?_⟩
  · rcases J.en with ⟨_, old, he⟩ | ⟨_, T, f, old, oT, he, _⟩
    · exact ⟨_, he, rfl⟩
    · exact ⟨_, he, rfl⟩
  · refine hint_enum ?_ h
    rcases J.en with ⟨_, old, he⟩ | ⟨_, T, f, old, oT, he, _⟩
    · exact ⟨_, he, rfl⟩
    · exact ⟨_, he, rfl⟩
  · refine ⟨J.size, (D {} rfl).frame _ _ _ J.st fun b hb o x => hk b o (fun z => hSf (z ▸ hb)) x, fun j hj => ?_, ?_⟩
    · obtain ⟨a, t, x', e1, e2, e3, e4, e5, e6⟩ := J.tup j hj
      exact ⟨a, t, x', e1, hk _ _ e5 e2, e3, e4, e5, e6⟩
    · rcases J.en with ⟨h0, old, he⟩ | ⟨i0, T, f, old, oT, he, hT, r1, r2, r3⟩
      · exact .inl ⟨h0, old, hk _ _ (Ne.symm hSe) he⟩
      · exact .inr ⟨i0, T, f, old, oT, hk _ _ (Ne.symm hSe) he, hk _ _ r3 hT, r1, r2, r3⟩
  · rcases J.en with ⟨h0, old, he⟩ | ⟨i0, T, f, old, oT, he, hT, r1, r2, r3⟩
    · subst h0
      refine wpAny_pyNext_enum_itemD (i := 0) (D A.in1 hh) he J.st hlt hei hef fun x h' tk hP hO hst hT hz hk => h _ h' _ (more hlt J hS (itl J) hP hst hT hk ?_) fun b o hb x => hk b o (fun z => hb (by simp [z])) (fun z => hb (by simp [z])) x
      exact ⟨s.heap.objs.size, false, x, _, hO, hT, Nat.ne_of_gt (live J), Nat.ne_of_gt (itl J), Nat.ne_of_gt hS⟩
    · refine next_heldD (i := i) (D A.in1 hh) he hT r1 r2 J.st hlt hei hef fun x h' tk hP hO hst hT2 hz hk => h _ h' _ (more hlt J hS (itl J) hP hst hT2 hk ?_) fun b o hb x => hk b o (fun z => hb (by simp [z])) (fun z => hb (by simp [z])) x
      exact ⟨T, true, old, oT, hO, hk _ _ r1 r2 hT, r1, r2, r3⟩
  · have keep : ∀ h', Heap.ExtBut it s.heap h' → EF N0 S P n acc h' := fun h' x => ⟨J.size, fun j hj => by
      obtain ⟨a, t, x', e1, e2, e3, e4, e5, e6, e7⟩ := J.tup j hj
      exact ⟨a, t, x', e1, x _ _ e7 e2, e3, e4, e5⟩⟩
    rcases J.en with ⟨h0, old, he⟩ | ⟨i0, T, f, old, oT, he, hT, r1, r2, r3⟩
    · subst h0
      exact wpAny_pyNext_enum_endD (D A.in1 hh) he J.st fun h' x => h h' s.toks (keep h' x) fun b o hb y => x b o (fun z => hb (by simp [z])) y
    · exact end_heldD (D A.in1 hh) he J.st fun h' x => h h' s.toks (keep h' x) fun b o hb y => x b o (fun z => hb (by simp [z])) y
  · rcases J.en with ⟨h0, old, he⟩ | ⟨i0, T, f, old, oT, he, hT, r1, r2, r3⟩
    · exact wpAny_pyIter_enum he h
    · exact absurd i0 (Nat.lt_irrefl _)
end
end Rg
/-! RgBr: list(enumerate(x)): the rule. -/
namespace Rg
open PySem PySem.Spec PyProof.Rows L2
section
variable {X : Cx} {pins : List (Addr × Obj)} {σ : L2.St} {H H' : Hp} {s : Shared} {h' : Heap}
/-- many new things laid at once -/
theorem inv_lays {t' : Nat} (I : Inv X pins σ H s) (k : ∀ b u, s.heap.get? b = some u → h'.get? b = some u) (old : ∀ b, b < s.heap.objs.size → H' b = H b)
    (new : ∀ b u, s.heap.objs.size ≤ b → H' b = some u → ObjOk X.prog X.w H' h' b u) : Inv X pins σ H' { s with heap := h', toks := t' } := by
  have lt : ∀ {b u}, H b = some u → b < s.heap.objs.size := fun e => I.hok.lt e
  refine I.un ⟨fun b o e _ _ _ => k b o e, fun b o e _ _ _ => ⟨o.slots, k b o e⟩, fun b o e n _ => by rw [old b (Heap.lt_size e)]; exact n, fun b o e _ => ⟨o, k b o e⟩, fun b xs e => by rw [old b (lt e)]; exact e, fun b o u e => by rw [old b (lt e)]; exact e, fun b ps e => ⟨#[], by rw [old b (lt e), e]; simp⟩⟩ fun b u e => ?_
  rcases Nat.lt_or_ge b s.heap.objs.size with hb | hb
  · rw [old b hb] at e
    exact (I.hok b u e).stay (fun c v _ q => k c v q) (fun c q => by rw [old c (lt q)]; exact q) fun c xs q => by rw [old c (lt q)]; exact q
  · exact new b u hb e
end
def adr : Value → Addr
  | .ref a => a
  | _ => 0
/-- the heap with the new tuples -/
def laidT (H : Hp) (N0 : Nat) (S : Addr) (xs : List V) (as : List Addr) : Hp := fun b =>
  if b < N0 then H b else if b = S then none else match (List.range xs.length).find? (fun j => decide (as[j]? = some b)) with
    | some j => some (.tup [.int (j : Nat), xs.getD j .non])
    | none => none
/-- list(enumerate(x)): a new list of new pairs -/
def tListEnum (K : PySem.W.Frag) (te : TE) : TE := fun σ H Q => te σ H fun v H1 => ∃ (a : Addr) (xs : List V), v = .ref a ∧ (SqL K H1 a xs ∨ SqT K H1 a xs) ∧
  ∀ (q : Addr) (H2 : Hp) (as : List Addr), Same H1 H2 → H2 q = none → as.length = xs.length → (∀ j b, as[j]? = some b → H2 b = some (.tup [.int (j : Nat), xs.getD j .non])) → Q (.ref q) (upd H2 q (.lst (as.map V.ref)))
section
variable {X : Cx} {G : Gx} {e : Expr} {sa : SE} {pins : List (Addr × Obj)} {σ : L2.St} {H1 : Hp}
theorem paired_ix {α β : Type} {R : α → β → Prop} : ∀ {xs : List α} {ys : List β}, xs.length = ys.length → (∀ (j : Nat) x y, xs[j]? = some x → ys[j]? = some y → R x y) → Paired R xs ys
  | [], [], _, _ => .nil
  | x :: xs, y :: ys, h, k => .cons (k 0 x y rfl rfl) (paired_ix (by simpa using h) fun j a b h1 h2 => k (j + 1) a b h1 h2)
theorem listEnum_end {s1 : Shared} {Q : VK} {xs : List V} {its : List Value} {N0 S : Nat} {h' : Heap} {tk : Nat} {acc : Array Value} {c' : Nat} (I1 : Inv X pins σ H1 s1) (rv : Vals xs its) (hz : xs.length ≤ sizeLine) (hN : N0 = s1.heap.objs.size) (hS0 : N0 ≤ S)
    (hk : ∀ b o, s1.heap.get? b = some o → h'.get? b = some o) (hS : h'.get? S = some { cls := .type "list", dict := none, data := .seq acc c', slots := #[] })
    (hF : EF N0 S (fun i v => its.toArray[i]? = some v) its.length acc h')
    (q : ∀ (q : Addr) (H2 : Hp) (as : List Addr), Same H1 H2 → H2 q = none → as.length = xs.length → (∀ j b, as[j]? = some b → H2 b = some (.tup [.int (j : Nat), xs.getD j .non])) → Q (.ref q) (upd H2 q (.lst (as.map V.ref)))) :
    ∃ x H2, Inv X pins σ H2 { s1 with heap := h', toks := tk } ∧ RelV x (.ref S) ∧ Q x H2 := by
  obtain ⟨hsz, hF⟩ := hF
  have hlen := rv.length
  let as := acc.toList.map adr
  have hget : ∀ j b, as[j]? = some b → j < its.length ∧ N0 ≤ b ∧ b ≠ S ∧ acc[j]? = some (.ref b) ∧ ∃ t x, h'.get? b = some { cls := .type "tuple", data := .seq #[.int j t, x] } ∧ its[j]? = some x := fun j b e => by
    have hj : j < its.length := by
      have := (List.getElem?_eq_some_iff.mp e).1
      simp [as] at this
      omega
    obtain ⟨a, t, x, e1, e2, e3, e4, e5⟩ := hF j hj
    have : b = a := by
      simp only [as, List.getElem?_map, Array.getElem?_toList, e1] at e
      simpa [adr] using e.symm
    subst this
    exact ⟨hj, e4, e5, e1, t, x, e2, by simpa using e3⟩
  have hall : ∀ j, j < its.length → ∃ b, as[j]? = some b := fun j hj => ⟨as[j]'(by simp [as]; omega), List.getElem?_eq_getElem _⟩
  have uniq : ∀ j k b, as[j]? = some b → as[k]? = some b → j = k := fun j k b e1 e2 => by
    obtain ⟨_, _, _, _, t, x, h1, _⟩ := hget j b e1
    obtain ⟨_, _, _, _, t2, x2, h2, _⟩ := hget k b e2
    rw [h1] at h2
    simp at h2
    omega
  have hlaid : ∀ j b, as[j]? = some b → laidT H1 N0 S xs as b = some (.tup [.int (j : Nat), xs.getD j .non]) := fun j b e => by
    obtain ⟨h1, h2, h3, _⟩ := hget j b e
    unfold laidT
    rw [if_neg (Nat.not_lt.mpr h2), if_neg h3]
    cases hf : (List.range xs.length).find? (fun j => decide (as[j]? = some b)) with
    | none =>
      rw [List.find?_eq_none] at hf
      exact absurd (by simpa using e) (hf j (by simp; omega))
    | some k =>
      have := List.find?_some hf
      have := uniq j k b e (by simpa using this)
      subst this
      rfl
  have hLS : laidT H1 N0 S xs as S = none := by
    unfold laidT
    rw [if_neg (Nat.not_lt.mpr hS0), if_pos rfl]
  refine ⟨.ref S, upd (laidT H1 N0 S xs as) S (.lst (as.map V.ref)), inv_lays (t' := tk) I1 hk (fun b hb => ?_) (fun b u hb e => ?_), rfl, q S _ as (fun b u e => ?_) hLS (by simp [as]; omega) hlaid⟩
  · have hb2 : b < N0 := by rw [hN]; exact hb
    rw [upd_ne (Nat.ne_of_lt (Nat.lt_of_lt_of_le hb2 hS0))]
    unfold laidT
    rw [if_pos hb2]
  · by_cases hbS : b = S
    · subst hbS
      rw [upd_same] at e
      cases e
      refine ⟨by simp [as]; omega, acc.toList, c', ?_, by rw [Array.toArray_toList]; exact hS⟩
      refine paired_ix (by simp [as]) fun j x y hx hy => ?_
      rw [List.getElem?_map] at hx
      cases ha : as[j]? with
      | none => rw [ha] at hx; cases hx
      | some b2 =>
        rw [ha] at hx
        simp at hx
        subst hx
        obtain ⟨_, _, _, h4, _⟩ := hget j b2 ha
        rw [Array.getElem?_toList, h4] at hy
        cases hy
        rfl
    · rw [upd_ne hbS] at e
      unfold laidT at e
      rw [if_neg (Nat.not_lt.mpr (by rw [hN]; exact hb)), if_neg hbS] at e
      split at e
      · rename_i j hf
        cases e
        have hj := List.find?_some hf
        have hj : as[j]? = some b := by simpa using hj
        obtain ⟨h1, h2, h3, h4, t, x, h5, h6⟩ := hget j b hj
        refine ⟨by simp [sizeLine_eq], [.int j t, x], ?_, ?_⟩
        · have hxj : j < xs.length := by omega
          have e1 : xs.getD j .non = xs[j] := by simp [List.getD, hxj]
          rw [e1]
          obtain ⟨u, hu, hr⟩ := rv.get (i := j) (x := xs[j]) (List.getElem?_eq_getElem hxj)
          rw [h6] at hu
          cases hu
          exact .cons ⟨_, rfl⟩ (.cons hr .nil)
        · exact ⟨_, h5, rfl, _, rfl⟩
      · cases e
  · have := I1.hok.lt e
    unfold laidT
    rw [if_pos (by rw [hN]; exact this)]
    exact e
theorem pe_listEnum {te : TE} {p p2 pos pos2 : Pos} (hc : X.calm = true) (hg : Gl X "list") (hm : X.mg "list" = none) (hg2 : Gl X "enumerate") (hm2 : X.mg "enumerate" = none) (he : PE X e te)
    (hs : starEach [e] X.env = (false, eval e X.env) :: starEach [] X.env := by rfl)
    (hs2 : starEach [.Call (.Name "enumerate" p2) [e] [] pos2] X.env = (false, eval (.Call (.Name "enumerate" p2) [e] [] pos2) X.env) :: starEach [] X.env := by rfl) :
    PE X (.Call (.Name "list" p) [.Call (.Name "enumerate" p2) [e] [] pos2] [] pos) (tListEnum X.K te) := by
  refine ⟨fun pins s σ H Q I h => ?_⟩
  refine Call_ (ld_blt I hg hm boot_list (PyProof.Rows.callWith_type1 (args_cons (Call_ (ld_blt I hg2 hm2 PyProof.Rows.boot_enumerate (PyProof.Rows.callWith_type1 (args_cons (thn (he.run pins s σ H _ I h) fun u s1 ⟨v, H1, I1, r1, q1⟩ => args_nil ?_) hs) hs rfl))) hs2) hs2 rfl))
  obtain ⟨a, xs, ev, hq, q⟩ := q1
  subst ev
  obtain rfl : u = Value.ref a := r1
  rcases hq with hq | hq
  · obtain ⟨its, rv, p', hz⟩ := I1.list hq
    refine call_enumerate_list p'.isList fun h' he hit hsz hk => args_nil ?_
    have hl := p'.isList
    obtain ⟨ol, hol, _⟩ := id hl
    have hal : a < s1.heap.objs.size := Heap.lt_size hol
    have hn : its.toArray.size ≤ sizeLine := by rw [List.size_toArray, ← rv.length]; exact hz
    refine heap_call (s := { s1 with heap := h' }) (src_enum (S := h'.objs.size) (e := s1.heap.objs.size + 1) (it := s1.heap.objs.size) (N0 := s1.heap.objs.size) (Nat.le_succ _) (Nat.succ_ne_self _) (by rw [hsz]; exact Nat.succ_ne_self _) (by rw [hsz]; exact Nat.ne_of_gt (Nat.lt_add_of_pos_right (by decide)))
      (fun hb => ?_) (fun hb => ?_) (by simp) (fun A hA => Draws.list hA s1.heap.objs.size a (Nat.ne_of_lt hal) its.toArray)) (I1.ok.hd hc) (fun h'' hk2 => ⟨rfl, ⟨hit.at fun o e => hk2 _ o e, hl.at fun o e => hk2 _ o (hk _ o e)⟩, fun j hj => absurd hj (Nat.not_lt_zero _), .inl ⟨rfl, .none, hk2 _ _ he⟩⟩) hn fun h'' tk acc c' hk2 hS hF => ?_
    · rcases List.mem_cons.mp hb with z | hb
      · exact Nat.succ_ne_self _ z
      · rw [List.mem_singleton] at hb; exact Nat.ne_of_gt (Nat.lt_succ_of_lt hal) hb
    · rcases List.mem_cons.mp hb with z | hb
      · rw [hsz] at z; exact Nat.ne_of_gt (Nat.lt_add_of_pos_right (by decide)) z
      · rw [List.mem_singleton, hsz] at hb; exact Nat.ne_of_gt (Nat.lt_of_lt_of_le hal (Nat.le_add_right _ _)) hb
    · refine listEnum_end (s1 := s1) (tk := tk) I1 rv hz rfl (by rw [hsz]; exact Nat.le_add_right s1.heap.objs.size 2) (fun b o e => hk2 b o (fun z => ?_) (hk b o e)) hS hF q
      have hb := Heap.lt_size e
      rcases List.mem_cons.mp z with z | z
      · exact Nat.ne_of_lt (Nat.lt_succ_of_lt hb) z
      · rw [List.mem_singleton] at z; exact Nat.ne_of_lt hb z
  · obtain ⟨its, rv, p', hz⟩ := I1.tuple hq
    refine call_enumU (items := its.toArray) p' fun h' he hit hsz hk => args_nil ?_
    obtain ⟨ol, hol, _⟩ := id p'
    have hal : a < s1.heap.objs.size := Heap.lt_size hol
    have hn : its.toArray.size ≤ sizeLine := by rw [List.size_toArray, ← rv.length]; exact hz
    have hl : s1.heap.IsTuple a its.toArray := p'
    refine heap_call (s := { s1 with heap := h' }) (src_enum (S := h'.objs.size) (e := s1.heap.objs.size + 1) (it := s1.heap.objs.size) (N0 := s1.heap.objs.size) (Nat.le_succ _) (Nat.succ_ne_self _) (by rw [hsz]; exact Nat.succ_ne_self _) (by rw [hsz]; exact Nat.ne_of_gt (Nat.lt_add_of_pos_right (by decide)))
      (fun hb => ?_) (fun hb => ?_) (by simp) (fun A hA => Draws.tuple hA s1.heap.objs.size a (Nat.ne_of_lt hal) its.toArray)) (I1.ok.hd hc) (fun h'' hk2 => ⟨rfl, ⟨hit.at fun o e => hk2 _ o e, hl.at fun o e => hk2 _ o (hk _ o e)⟩, fun j hj => absurd hj (Nat.not_lt_zero _), .inl ⟨rfl, .none, hk2 _ _ he⟩⟩) hn fun h'' tk acc c' hk2 hS hF => ?_
    · rcases List.mem_cons.mp hb with z | hb
      · exact Nat.succ_ne_self _ z
      · rw [List.mem_singleton] at hb; exact Nat.ne_of_gt (Nat.lt_succ_of_lt hal) hb
    · rcases List.mem_cons.mp hb with z | hb
      · rw [hsz] at z; exact Nat.ne_of_gt (Nat.lt_add_of_pos_right (by decide)) z
      · rw [List.mem_singleton, hsz] at hb; exact Nat.ne_of_gt (Nat.lt_of_lt_of_le hal (Nat.le_add_right _ _)) hb
    · refine listEnum_end (s1 := s1) (tk := tk) I1 rv hz rfl (by rw [hsz]; exact Nat.le_add_right s1.heap.objs.size 2) (fun b o e => hk2 b o (fun z => ?_) (hk b o e)) hS hF q
      have hb := Heap.lt_size e
      rcases List.mem_cons.mp z with z | z
      · exact Nat.ne_of_lt (Nat.lt_succ_of_lt hb) z
      · rw [List.mem_singleton] at z; exact Nat.ne_of_lt hb z
/-- a new list: the items of a list or a tuple with their numbers -/
def fListEnum : D → Store → Res D := fun d S => match d with
  | .tup l => .ok (.ref S.length) (S ++ [.lst (enumD l)])
  | .ref n => match lstOf S n with
    | some l => .ok (.ref S.length) (S ++ [.lst (enumD l)])
    | none => .bad
  | _ => .bad
theorem rvs_ix {K : PySem.W.Frag} {H : Hp} {p : List Addr} : ∀ {l : List D} {xs : List V}, l.length = xs.length → (∀ (j : Nat) d x, l[j]? = some d → xs[j]? = some x → RV K H p d x) → RVs K H p l xs
  | [], [], _, _ => .nil
  | d :: l, x :: xs, h, k => .cons (k 0 d x rfl rfl) (rvs_ix (by simpa using h) fun j a b h1 h2 => k (j + 1) a b h1 h2)
theorem enum_rvs {K : PySem.W.Frag} {H2 : Hp} {p : List Addr} {l : List D} {xs : List V} {as : List Addr} (r : RVs K H2 p l xs) (hlen : as.length = xs.length) (hT : ∀ j b, as[j]? = some b → H2 b = some (.tup [.int (j : Nat), xs.getD j .non])) : RVs K H2 p (enumD l) (as.map V.ref) := by
  have hl := r.len
  have rr : RVs K H2 p (enumD l) (as.map V.ref) ↔ True := ⟨fun _ => trivial, fun _ => rvs_ix (by unfold enumD; simp; omega) fun j d x hd hx => ?_⟩
  · exact rr.mpr trivial
  · unfold enumD at hd
    rw [List.getElem?_map] at hd hx
    cases hb : as[j]? with
    | none => rw [hb] at hx; cases hx
    | some b =>
      rw [hb] at hx
      simp at hx
      subst hx
      have hj : j < as.length := (List.getElem?_eq_some_iff.mp hb).1
      have hjl : j < l.length := by omega
      have hjx : j < xs.length := by omega
      rw [List.getElem?_range hjl] at hd
      simp only [Option.map_some, Option.some.injEq] at hd
      subst hd
      obtain ⟨x, e1, e2⟩ := r.get (d := l[j]) (i := j) (by simp [hjl])
      have e3 : xs.getD j .non = x := by rw [List.getD_eq_getElem?_getD, e1]; rfl
      have e4 : l.getD j .non = l[j] := by simp [List.getD, hjl]
      rw [e4]
      exact RV.tup_iff.mpr ⟨b, _, rfl, .inl (.inl (hT j b hb)), .cons (RV.int_iff.mpr rfl) (.cons (by rw [e3]; exact e2) .nil)⟩
theorem me_listEnum {p p2 pos pos2 : Pos} (hm : X.mg "list" = none) (hm2 : X.mg "enumerate" = none) (he : ME X G e sa) (hc : X.calm = true := by rfl) (hg : Gl X "list" := by rfl) (hg2 : Gl X "enumerate" := by rfl)
    (hs : starEach [e] X.env = (false, eval e X.env) :: starEach [] X.env := by rfl)
    (hs2 : starEach [.Call (.Name "enumerate" p2) [e] [] pos2] X.env = (false, eval (.Call (.Name "enumerate" p2) [e] [] pos2) X.env) :: starEach [] X.env := by rfl) :
    ME X G (.Call (.Name "list" p) [.Call (.Name "enumerate" p2) [e] [] pos2] [] pos) (s1 fListEnum sa) := fun ok =>
  pe_imp (pe_listEnum hc hg hm hg2 hm2 (he ok) hs hs2) fun σ H Q h => by
    obtain ⟨p, env, S, rs, rst, g⟩ := h
    refine one rs rst g fun H1 p1 S1 d x _ rs1 r1 rx g1 => ?_
    unfold fListEnum at g1
    split at g1
    · rename_i l
      obtain ⟨a, xs, rfl, h1, h2⟩ := RV.tup_iff.mp rx
      refine ⟨a, xs, rfl, .inr h1, fun q H2 as sm hq hlen hT => ?_⟩
      have e1 : Ext X.K H1 H2 p1 p1 := ext_same sm
      obtain ⟨E, R, r⟩ := (r1.same sm).newL hq (enum_rvs (RVs.mono e1 _ _ h2) hlen hT)
      exact g1 _ _ (e1.trans E) R _ r
    · split at g1
      · rename_i l hl
        obtain ⟨a, xs, rfl, h1, h2⟩ := r1.list hl rx
        refine ⟨a, xs, rfl, .inl h1, fun q H2 as sm hq hlen hT => ?_⟩
        have e1 : Ext X.K H1 H2 p1 p1 := ext_same sm
        obtain ⟨E, R, r⟩ := (r1.same sm).newL hq (enum_rvs (RVs.mono e1 _ _ h2) hlen hT)
        exact g1 _ _ (e1.trans E) R _ r
      · exact g1.elim
    · exact g1.elim
end
end Rg
/-! RgBs: min of four whole numbers. -/
namespace Rg
open PySem PySem.Spec PyProof.Rows L2
section
variable {prog : Program} {w : World} {A : Around} {E : Value → Shared → Prop} {s : Shared}
theorem F_args_min4 (a b c d : Value) : argsOk "min" ⟨[a, b, c, d], []⟩ := by unfold argsOk; kernel_rfl
theorem call_min_four {a b c d : Value} {Q : Value → Shared → Prop}
    (h : wpAny (model prog w) A.in1 (pyIter (.ref s.heap.objs.size)) (fun it s₂ => ∃ I fp wr n P St bt, it = .ref I ∧ Walks prog w A.in1 I fp wr n P St ∧ St 0 s₂.heap ∧ (∀ b ∈ fp, b < s₂.heap.objs.size) ∧ 0 < n ∧ CmpOf prog w A.in1 .Lt P bt ∧
      ∀ v h' tk, P (argBest bt (n - 1)) v → (∀ b o, b ∉ wr → s₂.heap.get? b = some o → h'.get? b = some o) → Q v { s₂ with heap := h', toks := tk }) E
      { s with heap := s.heap.push { cls := .type "tuple", data := .seq #[a, b, c, d] } }) :
    wpAny (model prog w) A (call (.builtin "min") [a, b, c, d]) Q E s := by
  have hname : (toString "min" ++ toString ".loop" : String) = "min.loop" := by decide
  refine call_function_tree F.kind_min F.plain_min F.entry_min (F_args_min4 _ _ _ _) ?_
  show wpAny _ A.in1 (Builtin.Builtins.bindParams "min" ["key", "default"] 0 ⟨[], []⟩ >>= _) _ _ s
  refine wpAny_bind (wpAny_of_eq (show Builtin.Builtins.bindParams "min" ["key", "default"] 0 ⟨[], []⟩ = pure [none, none] from rfl) ?_)
  show wpAny _ A.in1 (newTuple [a, b, c, d] >>= _) _ _ s
  refine wpAny_bind (wpAny_newObj_type ?_)
  refine wpAny_bind (wpAny_mono h (fun it s₂ h₂ => ?_) fun _ _ e => e)
  obtain ⟨I, fp, wr, n, P, St, bt, rfl, W, hst, hfp, hn, hcmp, hQ⟩ := h₂
  refine wpAny_bind (wpAny_newObj_type ?_)
  have hSf : s₂.heap.objs.size ∉ fp := fun hm => Nat.lt_irrefl _ (hfp _ hm)
  rw [hname]
  refine wpAny_pure ⟨plainId_quiet F.plain_min_loop _, codeAny_min_loop_first W bt hcmp s₂.heap.objs.size hSf hn (W.frame _ _ _ hst fun b _ o e => Heap.get?_push_of_some _ e) (Heap.get?_push_size _ rfl) fun v h' tk hP hk => ?_⟩
  exact hQ v h' tk hP fun b o hbw e => hk b o hbw (Nat.ne_of_lt (Heap.lt_size e)) (Heap.get?_push_of_some _ e)
theorem min_four_ints {a b c d : Int} {t u x y : Tok} {Q : Value → Shared → Prop} (hh : A.handled = none)
    (h : ∀ h' tk tz, (∀ d o, s.heap.get? d = some o → h'.get? d = some o) → Q (.int (min (min (min a b) c) d) tz) { s with heap := h', toks := tk }) :
    wpAny (model prog w) A (call (.builtin "min") [.int a t, .int b u, .int c x, .int d y]) Q E s := by
  have hT : (s.heap.push { cls := .type "tuple", data := .seq #[.int a t, .int b u, .int c x, .int d y] }).IsTuple s.heap.objs.size (intItems #[(a, t), (b, u), (c, x), (d, y)]) := ⟨_, Heap.get?_push_size _ rfl, rfl, 0, by simp [intItems]⟩
  refine call_min_four (wpAny_pyIter_tuple hT ?_)
  have hsz : (s.heap.push { cls := .type "tuple", data := .seq #[.int a t, .int b u, .int c x, .int d y] }).objs.size = s.heap.objs.size + 1 := Heap.size_push ..
  refine ⟨_, [_, s.heap.objs.size], [_], _, _, _, _, rfl, Walks.tuple (A := A.in1) hh _ s.heap.objs.size (by rw [hsz]; exact Nat.ne_of_lt (Nat.lt_succ_self _)) (intItems #[(a, t), (b, u), (c, x), (d, y)]),
    ⟨⟨_, Heap.get?_push_size _ rfl, rfl, rfl⟩, hT.push _⟩, fun d hd => ?_, by simp [intItems], CmpOf.ints_lt (numAt #[(a, t), (b, u), (c, x), (d, y)]) (fun _ _ => intItems_at), fun v h' tk hP hk => ?_⟩
  · show d < ((s.heap.push _).push _).objs.size
    rw [Heap.size_push, hsz]
    rcases List.mem_cons.mp hd with rfl | hd
    · rw [hsz]; exact Nat.lt_succ_self _
    · rcases List.mem_cons.mp hd with rfl | hd
      · exact Nat.lt_succ_of_lt (Nat.lt_succ_self _)
      · cases hd
  · have hold : ∀ d o, s.heap.get? d = some o → h'.get? d = some o := fun d o e => by
      refine hk d o (fun hm => ?_) (Heap.get?_push_of_some _ (Heap.get?_push_of_some _ e))
      rcases List.mem_cons.mp hm with e1 | hm
      · have := Heap.lt_size e; rw [e1, hsz] at this; exact Nat.lt_irrefl _ (Nat.lt_of_succ_lt this)
      · cases hm
    have hP' : (intItems #[(a, t), (b, u), (c, x), (d, y)])[argBest (fun i j => decide (numAt #[(a, t), (b, u), (c, x), (d, y)] i < numAt #[(a, t), (b, u), (c, x), (d, y)] j)) 3]? = some v := by
      have hsz2 : (intItems #[(a, t), (b, u), (c, x), (d, y)]).size - 1 = 3 := by simp [intItems]
      rw [← hsz2]; exact hP
    have hv : ∃ tz, v = .int (min (min (min a b) c) d) tz := by
      by_cases h1 : b < a
      · have := h1
        by_cases h2 : c < b
        · have := h2
          by_cases h3 : d < c
          · have := h3
            have e : argBest (fun i j => decide (numAt #[(a, t), (b, u), (c, x), (d, y)] i < numAt #[(a, t), (b, u), (c, x), (d, y)] j)) 3 = 3 := by simp [argBest, numAt, h1, h2, h3]
            rw [e] at hP'
            have em : min (min (min a b) c) d = d := by omega
            rw [em]
            simp [intItems] at hP'
            exact ⟨_, hP'.symm⟩
          · have := h3
            have e : argBest (fun i j => decide (numAt #[(a, t), (b, u), (c, x), (d, y)] i < numAt #[(a, t), (b, u), (c, x), (d, y)] j)) 3 = 2 := by simp [argBest, numAt, h1, h2, h3]
            rw [e] at hP'
            have em : min (min (min a b) c) d = c := by omega
            rw [em]
            simp [intItems] at hP'
            exact ⟨_, hP'.symm⟩
        · have := h2
          by_cases h3 : d < b
          · have := h3
            have e : argBest (fun i j => decide (numAt #[(a, t), (b, u), (c, x), (d, y)] i < numAt #[(a, t), (b, u), (c, x), (d, y)] j)) 3 = 3 := by simp [argBest, numAt, h1, h2, h3]
            rw [e] at hP'
            have em : min (min (min a b) c) d = d := by omega
            rw [em]
            simp [intItems] at hP'
            exact ⟨_, hP'.symm⟩
          · have := h3
            have e : argBest (fun i j => decide (numAt #[(a, t), (b, u), (c, x), (d, y)] i < numAt #[(a, t), (b, u), (c, x), (d, y)] j)) 3 = 1 := by simp [argBest, numAt, h1, h2, h3]
            rw [e] at hP'
            have em : min (min (min a b) c) d = b := by omega
            rw [em]
            simp [intItems] at hP'
            exact ⟨_, hP'.symm⟩
      · have := h1
        by_cases h2 : c < a
        · have := h2
          by_cases h3 : d < c
          · have := h3
            have e : argBest (fun i j => decide (numAt #[(a, t), (b, u), (c, x), (d, y)] i < numAt #[(a, t), (b, u), (c, x), (d, y)] j)) 3 = 3 := by simp [argBest, numAt, h1, h2, h3]
            rw [e] at hP'
            have em : min (min (min a b) c) d = d := by omega
            rw [em]
            simp [intItems] at hP'
            exact ⟨_, hP'.symm⟩
          · have := h3
            have e : argBest (fun i j => decide (numAt #[(a, t), (b, u), (c, x), (d, y)] i < numAt #[(a, t), (b, u), (c, x), (d, y)] j)) 3 = 2 := by simp [argBest, numAt, h1, h2, h3]
            rw [e] at hP'
            have em : min (min (min a b) c) d = c := by omega
            rw [em]
            simp [intItems] at hP'
            exact ⟨_, hP'.symm⟩
        · have := h2
          by_cases h3 : d < a
          · have := h3
            have e : argBest (fun i j => decide (numAt #[(a, t), (b, u), (c, x), (d, y)] i < numAt #[(a, t), (b, u), (c, x), (d, y)] j)) 3 = 3 := by simp [argBest, numAt, h1, h2, h3]
            rw [e] at hP'
            have em : min (min (min a b) c) d = d := by omega
            rw [em]
            simp [intItems] at hP'
            exact ⟨_, hP'.symm⟩
          · have := h3
            have e : argBest (fun i j => decide (numAt #[(a, t), (b, u), (c, x), (d, y)] i < numAt #[(a, t), (b, u), (c, x), (d, y)] j)) 3 = 0 := by simp [argBest, numAt, h1, h2, h3]
            rw [e] at hP'
            have em : min (min (min a b) c) d = a := by omega
            rw [em]
            simp [intItems] at hP'
            exact ⟨_, hP'.symm⟩
    obtain ⟨tz, rfl⟩ := hv
    exact h h' tk tz hold
end
theorem vals4 {x y z q : V} {us : List Value} (r : Vals [x, y, z, q] us) : ∃ a b c d, us = [a, b, c, d] ∧ RelV x a ∧ RelV y b ∧ RelV z c ∧ RelV q d := by
  cases r with
  | cons r1 r => cases r with
    | cons r2 r => cases r with
      | cons r3 r => cases r with
        | cons r4 r => cases r; exact ⟨_, _, _, _, rfl, r1, r2, r3, r4⟩
section
variable {X : Cx}
theorem call_min4 (hc : X.calm = true) : CallR X (.builtin "min") (fun xs H Q => ∃ i j k l, xs = [.int i, .int j, .int k, .int l] ∧ Q (.int (min (min (min i j) k) l)) H) := by
  intro pins s σ H xs us Q I r h
  obtain ⟨i, j, k, l, rfl, q⟩ := h
  obtain ⟨_, _, _, _, rfl, ⟨t, rfl⟩, ⟨t', rfl⟩, ⟨t2, rfl⟩, ⟨t3, rfl⟩⟩ := vals4 r
  exact min_four_ints (I.ok.hd hc) fun h' tk tz kk => ⟨.int (min (min (min i j) k) l), H, I.kept kk, ⟨_, rfl⟩, q⟩
end
def fMin4 : Mf := fun ds S => match ds with
  | [.int i, .int j, .int k, .int l] => .ok (.int (min (min (min i j) k) l)) S
  | _ => .bad
theorem rc_min4 {K : PySem.W.Frag} : RfC K (fun xs H Q => ∃ i j k l, xs = [.int i, .int j, .int k, .int l] ∧ Q (.int (min (min (min i j) k) l)) H) fMin4 := by
  intro G σ H p S ds xs Q rst rx h
  unfold fMin4 at h
  split at h
  · rename_i i j k l
    obtain ⟨x, r, rfl, h1, h2⟩ := RVs.cons_iff.mp rx
    obtain ⟨y, r, rfl, h3, h4⟩ := RVs.cons_iff.mp h2
    obtain ⟨z, v, rfl, h5, h6⟩ := h4.two
    rw [RV.int_iff] at h1 h3 h5 h6
    subst h1 h3 h5 h6
    exact ⟨i, j, k, l, rfl, h H p .refl rst _ (RV.int_iff.mpr rfl)⟩
  · exact h.elim
section
variable {X : Cx} {G : Gx} {e : Expr} {es : List Expr} {sr : SA} {pos : Pos}
theorem me_min4 {p : Pos} (hm : X.mg "min" = none) (ha : MA X G (e :: es) sr) (hc : X.calm = true := by rfl) (hg : Gl X "min" := by rfl) (he : starEach (e :: es) X.env = (false, eval e X.env) :: starEach es X.env := by rfl) (hpl : (backTo pos (starEach es X.env)).any (·.1) = false := by rfl) :
    ME X G (.Call (.Name "min" p) (e :: es) [] pos) (sCall fMin4 sr) := me_callB (call_min4 hc) rc_min4 hm (by decide +kernel) ha hg (by decide) (by decide) he hpl
end
end Rg
/-! RgBt: min of a tuple of four whole numbers. -/
namespace Rg
open PySem PySem.Spec PyProof.Rows L2
section
variable {prog : Program} {w : World} {A : Around} {E : Value → Shared → Prop} {s : Shared}
theorem min_tup_four {ta : Addr} {a b c d : Int} {t u x y : Tok} {Q : Value → Shared → Prop} (hh : A.handled = none) (hT : s.heap.IsTuple ta (intItems #[(a, t), (b, u), (c, x), (d, y)]))
    (h : ∀ h' tk tz, (∀ d o, s.heap.get? d = some o → h'.get? d = some o) → Q (.int (min (min (min a b) c) d) tz) { s with heap := h', toks := tk }) :
    wpAny (model prog w) A (call (.builtin "min") [.ref ta]) Q E s := by
  have hlt : ta < s.heap.objs.size := Heap.lt_size hT.choose_spec.1
  refine call_min_walk (wpAny_pyIter_tuple hT ?_)
  refine ⟨_, [_, ta], [_], _, _, _, _, rfl, Walks.tuple (A := A.in1) hh _ ta (Nat.ne_of_lt hlt) (intItems #[(a, t), (b, u), (c, x), (d, y)]),
    ⟨⟨_, Heap.get?_push_size _ rfl, rfl, rfl⟩, hT.push _⟩, fun d hd => ?_, by simp [intItems], CmpOf.ints_lt (numAt #[(a, t), (b, u), (c, x), (d, y)]) (fun _ _ => intItems_at), fun v h' tk hP hk => ?_⟩
  · show d < (s.heap.push _).objs.size
    rw [Heap.size_push]
    rcases List.mem_cons.mp hd with rfl | hd
    · exact Nat.lt_succ_self _
    · rcases List.mem_cons.mp hd with rfl | hd
      · exact Nat.lt_succ_of_lt hlt
      · cases hd
  · have hold : ∀ d o, s.heap.get? d = some o → h'.get? d = some o := fun d o e => by
      refine hk d o (fun hm => ?_) (Heap.get?_push_of_some _ e)
      rcases List.mem_cons.mp hm with e1 | hm
      · have := Heap.lt_size e; rw [e1] at this; exact Nat.lt_irrefl _ this
      · cases hm
    have hP' : (intItems #[(a, t), (b, u), (c, x), (d, y)])[argBest (fun i j => decide (numAt #[(a, t), (b, u), (c, x), (d, y)] i < numAt #[(a, t), (b, u), (c, x), (d, y)] j)) 3]? = some v := by
      have hsz2 : (intItems #[(a, t), (b, u), (c, x), (d, y)]).size - 1 = 3 := by simp [intItems]
      rw [← hsz2]; exact hP
    have hv : ∃ tz, v = .int (min (min (min a b) c) d) tz := by
      by_cases h1 : b < a
      · have := h1
        by_cases h2 : c < b
        · have := h2
          by_cases h3 : d < c
          · have := h3
            have e : argBest (fun i j => decide (numAt #[(a, t), (b, u), (c, x), (d, y)] i < numAt #[(a, t), (b, u), (c, x), (d, y)] j)) 3 = 3 := by simp [argBest, numAt, h1, h2, h3]
            rw [e] at hP'
            have em : min (min (min a b) c) d = d := by omega
            rw [em]
            simp [intItems] at hP'
            exact ⟨_, hP'.symm⟩
          · have := h3
            have e : argBest (fun i j => decide (numAt #[(a, t), (b, u), (c, x), (d, y)] i < numAt #[(a, t), (b, u), (c, x), (d, y)] j)) 3 = 2 := by simp [argBest, numAt, h1, h2, h3]
            rw [e] at hP'
            have em : min (min (min a b) c) d = c := by omega
            rw [em]
            simp [intItems] at hP'
            exact ⟨_, hP'.symm⟩
        · have := h2
          by_cases h3 : d < b
          · have := h3
            have e : argBest (fun i j => decide (numAt #[(a, t), (b, u), (c, x), (d, y)] i < numAt #[(a, t), (b, u), (c, x), (d, y)] j)) 3 = 3 := by simp [argBest, numAt, h1, h2, h3]
            rw [e] at hP'
            have em : min (min (min a b) c) d = d := by omega
            rw [em]
            simp [intItems] at hP'
            exact ⟨_, hP'.symm⟩
          · have := h3
            have e : argBest (fun i j => decide (numAt #[(a, t), (b, u), (c, x), (d, y)] i < numAt #[(a, t), (b, u), (c, x), (d, y)] j)) 3 = 1 := by simp [argBest, numAt, h1, h2, h3]
            rw [e] at hP'
            have em : min (min (min a b) c) d = b := by omega
            rw [em]
            simp [intItems] at hP'
            exact ⟨_, hP'.symm⟩
      · have := h1
        by_cases h2 : c < a
        · have := h2
          by_cases h3 : d < c
          · have := h3
            have e : argBest (fun i j => decide (numAt #[(a, t), (b, u), (c, x), (d, y)] i < numAt #[(a, t), (b, u), (c, x), (d, y)] j)) 3 = 3 := by simp [argBest, numAt, h1, h2, h3]
            rw [e] at hP'
            have em : min (min (min a b) c) d = d := by omega
            rw [em]
            simp [intItems] at hP'
            exact ⟨_, hP'.symm⟩
          · have := h3
            have e : argBest (fun i j => decide (numAt #[(a, t), (b, u), (c, x), (d, y)] i < numAt #[(a, t), (b, u), (c, x), (d, y)] j)) 3 = 2 := by simp [argBest, numAt, h1, h2, h3]
            rw [e] at hP'
            have em : min (min (min a b) c) d = c := by omega
            rw [em]
            simp [intItems] at hP'
            exact ⟨_, hP'.symm⟩
        · have := h2
          by_cases h3 : d < a
          · have := h3
            have e : argBest (fun i j => decide (numAt #[(a, t), (b, u), (c, x), (d, y)] i < numAt #[(a, t), (b, u), (c, x), (d, y)] j)) 3 = 3 := by simp [argBest, numAt, h1, h2, h3]
            rw [e] at hP'
            have em : min (min (min a b) c) d = d := by omega
            rw [em]
            simp [intItems] at hP'
            exact ⟨_, hP'.symm⟩
          · have := h3
            have e : argBest (fun i j => decide (numAt #[(a, t), (b, u), (c, x), (d, y)] i < numAt #[(a, t), (b, u), (c, x), (d, y)] j)) 3 = 0 := by simp [argBest, numAt, h1, h2, h3]
            rw [e] at hP'
            have em : min (min (min a b) c) d = a := by omega
            rw [em]
            simp [intItems] at hP'
            exact ⟨_, hP'.symm⟩
    obtain ⟨tz, rfl⟩ := hv
    exact h h' tk tz hold
end
section
variable {X : Cx}
def rMin4 (K : PySem.W.Frag) : List V → Hp → VK → Prop := fun vs H Q => ∃ (a : Addr) (i j k l : Int), vs = [V.ref a] ∧ SqT K H a [.int i, .int j, .int k, .int l] ∧ Q (.int (min (min (min i j) k) l)) H
theorem cr_minA (hc : X.calm = true) : CallR X (.builtin "min") (fun xs H Q => rMin X.K xs H Q ∨ rMin4 X.K xs H Q) := by
  intro pins s σ H vs us Q I r h
  rcases h with h | ⟨a, i, j, k, l, rfl, hs, q⟩
  · exact cr_min hc pins s σ H vs us Q I r h
  · obtain ⟨its, rv, p1, _⟩ := I.tuple hs
    obtain ⟨_, _, _, _, rfl, ⟨t, rfl⟩, ⟨t', rfl⟩, ⟨t2, rfl⟩, ⟨t3, rfl⟩⟩ := vals4 rv
    rw [Vals.ref1 r]
    exact min_tup_four (t := t) (u := t') (x := t2) (y := t3) (I.ok.hd hc) (by rw [show intItems #[(i, t), (j, t'), (k, t2), (l, t3)] = #[.int i t, .int j t', .int k t2, .int l t3] by simp [intItems]]; exact p1) fun h' tk tz kk => ⟨.int (min (min (min i j) k) l), H, I.kept kk, ⟨_, rfl⟩, q⟩
end
def fMinA : Mf := fun ds S => match ds with
  | [.tup [.int i, .int j, .int k, .int l]] => .ok (.int (min (min (min i j) k) l)) S
  | _ => fMinL ds S
theorem rc_minA {K : PySem.W.Frag} : RfC K (fun xs H Q => rMin K xs H Q ∨ rMin4 K xs H Q) fMinA := by
  intro G σ H p S ds xs Q rst rx h
  unfold fMinA at h
  split at h
  · rename_i i j k l
    obtain ⟨x, rfl, r⟩ := rx.one
    obtain ⟨a, ys, rfl, h1, h2⟩ := RV.tup_iff.mp r
    obtain ⟨x, r, rfl, q1, h2⟩ := RVs.cons_iff.mp h2
    obtain ⟨y, r, rfl, q2, h4⟩ := RVs.cons_iff.mp h2
    obtain ⟨z, v, rfl, q3, q4⟩ := h4.two
    rw [RV.int_iff] at q1 q2 q3 q4
    subst q1 q2 q3 q4
    exact .inr ⟨a, i, j, k, l, rfl, h1, h H p .refl rst _ (RV.int_iff.mpr rfl)⟩
  · exact .inl (rc_minL G σ H p S ds xs Q rst rx h)
section
variable {X : Cx} {G : Gx} {e : Expr} {es : List Expr} {sr : SA} {pos : Pos}
theorem me_minA {p : Pos} (hm : X.mg "min" = none) (ha : MA X G (e :: es) sr) (hc : X.calm = true := by rfl) (hg : Gl X "min" := by rfl) (he : starEach (e :: es) X.env = (false, eval e X.env) :: starEach es X.env := by rfl) (hpl : (backTo pos (starEach es X.env)).any (·.1) = false := by rfl) :
    ME X G (.Call (.Name "min" p) (e :: es) [] pos) (sCall fMinA sr) := me_callB (cr_minA hc) rc_minA hm (by decide +kernel) ha hg (by decide) (by decide) he hpl
end
end Rg
/-! RgBu: list(zip(a list, a list)): a new list of new pairs. -/
namespace Rg
open PySem PySem.Spec PyProof.Rows L2
theorem nolen_zip : typeLookup (.type "zip") "__len__" = pure none := by rw [typeLookup_type, builtinLookup_eq_fast]; kernel_rfl
theorem nohint_zip : typeLookup (.type "zip") "__length_hint__" = pure none := by rw [typeLookup_type, builtinLookup_eq_fast]; kernel_rfl
section
variable {prog : Program} {w : World} {A : Around} {E : Value → Shared → Prop} {s : Shared}
theorem hint_zip {e : Addr} {Q : Bool → Shared → Prop} (hT : s.TypeIs (.ref e) "zip") (h : ∀ b tk, Q b { s with toks := tk }) : wpAny (model prog w) A (Builtin.List.listLengthHint (.ref e)) Q E s := by
  unfold Builtin.List.listLengthHint
  refine wpAny_bind (wpAny_specialOf hT nolen_zip ?_)
  show wpAny _ A (specialOf (Value.ref e) (Str.ofString "__length_hint__") >>= _) _ _ _
  refine wpAny_bind (wpAny_specialOf hT nohint_zip ?_)
  exact wpAny_pure (h _ _)
end
structure ZJ (N0 : Nat) (S z TI TO i1 i2 l1 l2 : Addr) (xs ys : Array Value) (i : Nat) (acc : Array Value) (h : Heap) : Prop where
  size : acc.size = i
  ti : IsPair h TI (.ref i1) (.ref i2)
  h1 : h.IsListIter i1 l1 i
  h2 : h.IsListIter i2 l2 i
  hl1 : h.IsList l1 xs
  hl2 : h.IsList l2 ys
  tup : ∀ j, j < i → ∃ a x y, acc[j]? = some (.ref a) ∧ IsPair h a x y ∧ xs[j]? = some x ∧ ys[j]? = some y ∧ N0 ≤ a ∧ a ≠ S ∧ a ≠ z ∧ a ≠ TO ∧ a ≠ i1 ∧ a ≠ i2
  inj : ∀ (j k : Nat) (a : Addr), acc[j]? = some (.ref a) → acc[k]? = some (.ref a) → j = k
  to : ∃ a b, IsPair h TO a b
  en : (i = 0 ∧ IsZip h z TI TO .none) ∨ 0 < i ∧ ∃ T f oT, IsZipHeld h z TI TO T f ∧ h.get? T = some oT ∧ T ≠ z ∧ T ≠ i1 ∧ T ≠ i2 ∧ T ≠ S
/-- the new tuples -/
def ZF (N0 : Nat) (S : Addr) (xs ys : Array Value) (n : Nat) (acc : Array Value) (h : Heap) : Prop := acc.size = n ∧ (∀ (j k : Nat) (a : Addr), acc[j]? = some (.ref a) → acc[k]? = some (.ref a) → j = k) ∧ ∀ j, j < n → ∃ a x y, acc[j]? = some (.ref a) ∧ IsPair h a x y ∧ xs[j]? = some x ∧ ys[j]? = some y ∧ N0 ≤ a ∧ a ≠ S
section
variable {prog : Program} {w : World}
theorem pair_lt {h : Heap} {a : Addr} {x y : Value} (p : IsPair h a x y) : a < h.objs.size := Heap.lt_size p
theorem src_zip {S z TI TO i1 i2 l1 l2 : Addr} {N0 : Nat} (D : ZipApart z TI TO i1 i2 l1 l2) (xs ys : Array Value) (hn0 : N0 ≤ z) (Sz : S ≠ z) (STI : S ≠ TI) (STO : S ≠ TO) (S1 : S ≠ i1) (S2 : S ≠ i2) (L1 : S ≠ l1) (L2 : S ≠ l2) :
    HeapSrc prog w "zip" S z [] [z, TO, i1, i2] (min xs.size ys.size) (ZJ N0 S z TI TO i1 i2 l1 l2 xs ys) (ZF N0 S xs ys (min xs.size ys.size)) := by
  have live : ∀ {i acc h}, ZJ N0 S z TI TO i1 i2 l1 l2 xs ys i acc h → z < h.objs.size := fun J => by
    rcases J.en with ⟨_, he⟩ | ⟨_, T, f, oT, he, _⟩
    · exact Heap.lt_size he
    · exact Heap.lt_size he
  have ty : ∀ {i acc} {s : Shared}, ZJ N0 S z TI TO i1 i2 l1 l2 xs ys i acc s.heap → s.TypeIs (.ref z) "zip" := fun J => by
    rcases J.en with ⟨_, he⟩ | ⟨_, T, f, oT, he, _⟩
    · exact ⟨_, he, rfl⟩
    · exact ⟨_, he, rfl⟩
  refine ⟨fun s acc J => ty J, by decide, by decide, fun A E s Q acc J h => hint_zip (ty J) h, by simp [Sz, STO, S1, S2], Sz, fun i acc h J => J.size, fun i acc h h' J hk => ?_, fun A hh i s acc Q E hlt hS J hq => ?_, fun A hh s acc Q E J hq => ?_, fun A s acc Q E J hq => ?_⟩
  · refine ⟨J.size, hk _ _ (Ne.symm STI) J.ti, J.h1.at fun o e => hk _ o (Ne.symm S1) e, J.h2.at fun o e => hk _ o (Ne.symm S2) e, J.hl1.at fun o e => hk _ o (Ne.symm L1) e, J.hl2.at fun o e => hk _ o (Ne.symm L2) e, fun j hj => ?_, J.inj, ?_, ?_⟩
    · obtain ⟨a, x, y, e1, e2, e3, e4, e5, e6, r⟩ := J.tup j hj
      exact ⟨a, x, y, e1, hk _ _ e6 e2, e3, e4, e5, e6, r⟩
    · obtain ⟨a, b, hTO⟩ := J.to
      exact ⟨a, b, hk _ _ (Ne.symm STO) hTO⟩
    · rcases J.en with ⟨i0, hz⟩ | ⟨i0, T, f, oT, hz, hT, r1, r2, r3, r4⟩
      · exact .inl ⟨i0, hk _ _ (Ne.symm Sz) hz⟩
      · exact .inr ⟨i0, T, f, oT, hk _ _ (Ne.symm Sz) hz, hk _ _ r4 hT, r1, r2, r3, r4⟩
  · have hix : i < xs.size := Nat.lt_of_lt_of_le hlt (Nat.min_le_left ..)
    have hiy : i < ys.size := Nat.lt_of_lt_of_le hlt (Nat.min_le_right ..)
    have ex := Array.getElem?_eq_getElem hix
    have ey := Array.getElem?_eq_getElem hiy
    have lt : ∀ {c o}, s.heap.get? c = some o → s.heap.objs.size ≠ c := fun e => Nat.ne_of_gt (Heap.lt_size e)
    have n1 : s.heap.objs.size ≠ i1 := let ⟨_, e, _⟩ := J.h1; lt e
    have n2 : s.heap.objs.size ≠ i2 := let ⟨_, e, _⟩ := J.h2; lt e
    have nz : s.heap.objs.size ≠ z := Nat.ne_of_gt (live J)
    have more : ∀ h' : Heap, (∃ a b, IsPair h' TO a b) → IsPair h' s.heap.objs.size xs[i] ys[i] → (∀ c o, c ≠ z → c ≠ TO → c ≠ i1 → c ≠ i2 → s.heap.get? c = some o → h'.get? c = some o) → h'.IsListIter i1 l1 (i + 1) → h'.IsListIter i2 l2 (i + 1) →
        (∃ T f oT, IsZipHeld h' z TI TO T f ∧ h'.get? T = some oT ∧ T ≠ z ∧ T ≠ i1 ∧ T ≠ i2 ∧ T ≠ S) → ZJ N0 S z TI TO i1 i2 l1 l2 xs ys (i + 1) (acc.push (.ref s.heap.objs.size)) h' := fun h' hTO hp hk g1 g2 hen => by
      have nTO : s.heap.objs.size ≠ TO := by
        obtain ⟨a, b, h⟩ := J.to
        exact Nat.ne_of_gt (pair_lt h)
      refine ⟨by rw [Array.size_push, J.size], hk _ _ D.TIz D.TITO D.TIi1 D.TIi2 J.ti, g1, g2, J.hl1.at fun o e => hk _ o D.l1z D.l1TO D.l1i1 D.l1i2 e, J.hl2.at fun o e => hk _ o D.l2z D.l2TO D.l2i1 D.l2i2 e, fun j hj => ?_, fun j k a hj hk2 => ?_, hTO, .inr ⟨Nat.succ_pos _, hen⟩⟩
      · rcases Nat.lt_or_ge j i with q | q
        · obtain ⟨a, x, y, e1, e2, e3, e4, e5, e6, e7, e8, e9, e10⟩ := J.tup j q
          exact ⟨a, x, y, by rw [Array.getElem?_push_lt (by rw [J.size]; exact q)]; rw [← e1, Array.getElem?_eq_getElem], hk _ _ e7 e8 e9 e10 e2, e3, e4, e5, e6, e7, e8, e9, e10⟩
        · have : j = i := by omega
          subst this
          exact ⟨s.heap.objs.size, xs[j], ys[j], by rw [← J.size, Array.getElem?_push_size], hp, ex, ey, Nat.le_trans hn0 (Nat.le_of_lt (live J)), Nat.ne_of_gt hS, nz, nTO, n1, n2⟩
      · have old : ∀ m, m < i → ∀ b, acc[m]? = some (.ref b) → b < s.heap.objs.size := fun m hm b e => by
          obtain ⟨a2, x, y, e1, e2, _⟩ := J.tup m hm
          rw [e1] at e
          cases e
          exact pair_lt e2
        have get : ∀ m, (acc.push (.ref s.heap.objs.size))[m]? = if m < i then acc[m]? else if m = i then some (.ref s.heap.objs.size) else none := fun m => by
          rw [Array.getElem?_push, J.size]
          by_cases h1 : m = i
          · simp [h1]
          · rw [if_neg h1]
            by_cases h2 : m < i
            · rw [if_pos h2]
            · rw [if_neg h2, if_neg h1]
              exact Array.getElem?_eq_none (by rw [J.size]; omega)
        rw [get] at hj hk2
        split at hj
        · rename_i q1
          split at hk2
          · exact J.inj j k a hj hk2
          · split at hk2
            · cases hk2
              exact absurd (old j q1 _ hj) (Nat.lt_irrefl _)
            · cases hk2
        · split at hj
          · rename_i q1
            cases hj
            split at hk2
            · rename_i q2
              exact absurd (old k q2 _ hk2) (Nat.lt_irrefl _)
            · split at hk2
              · omega
              · cases hk2
          · cases hj
    obtain ⟨a, b, hTO⟩ := J.to
    rcases J.en with ⟨i0, hz⟩ | ⟨i0, T, f, oT, hz, hT, r1, r2, r3, r4⟩
    · refine wpAny_pyNext_zip_item D hz J.ti hTO J.h1 J.h2 J.hl1 J.hl2 ex ey fun h' a1 a2 a3 a4 a5 a6 hk => ?_
      refine hq (.ref s.heap.objs.size) h' s.toks (more h' ⟨_, _, a2⟩ a5 hk a3 a4 ⟨s.heap.objs.size, false, _, a1, a5, nz, n1, n2, Nat.ne_of_gt hS⟩) fun c o hc e => hk c o (fun x => hc (by simp [x])) (fun x => hc (by simp [x])) (fun x => hc (by simp [x])) (fun x => hc (by simp [x])) e
    · refine wpAny_pyNext_zip_item_held D hz hT J.ti J.h1 J.h2 J.hl1 J.hl2 ex ey fun h' a1 a3 a4 a5 a6 hk => ?_
      exact hq (.ref s.heap.objs.size) h' s.toks (more h' ⟨a, b, hk _ _ D.TOz D.TOi1 D.TOi2 hTO⟩ a5 (fun c o c1 c2 c3 c4 e => hk c o c1 c3 c4 e) a3 a4 ⟨T, true, oT, a1, hk _ _ r1 r2 r3 hT, r1, r2, r3, r4⟩) fun c o hc e => hk c o (fun x => hc (by simp [x])) (fun x => hc (by simp [x])) (fun x => hc (by simp [x])) e
  · have hend : xs[min xs.size ys.size]? = none ∨ ys[min xs.size ys.size]? = none := by
      rcases Nat.le_total xs.size ys.size with h | h
      · exact .inl (Array.getElem?_eq_none (by rw [Nat.min_eq_left h]; exact Nat.le_refl _))
      · exact .inr (Array.getElem?_eq_none (by rw [Nat.min_eq_right h]; exact Nat.le_refl _))
    have keep : ∀ h' : Heap, (∀ c o, c ≠ z → c ≠ TO → c ≠ i1 → c ≠ i2 → s.heap.get? c = some o → h'.get? c = some o) → ZF N0 S xs ys (min xs.size ys.size) acc h' := fun h' x => ⟨J.size, J.inj, fun j hj => by
      obtain ⟨a, u, v, e1, e2, e3, e4, e5, e6, e7, e8, e9, e10⟩ := J.tup j hj
      exact ⟨a, u, v, e1, x _ _ e7 e8 e9 e10 e2, e3, e4, e5, e6⟩⟩
    obtain ⟨a, b, hTO⟩ := J.to
    rcases J.en with ⟨i0, hz⟩ | ⟨i0, T, f, oT, hz, hT, r1, r2, r3, r4⟩
    · exact wpAny_pyNext_zip_end hh D hz J.ti hTO J.h1 J.h2 J.hl1 J.hl2 hend fun h' hk => hq h' s.toks (keep h' hk) fun c o hc e => hk c o (fun x => hc (by simp [x])) (fun x => hc (by simp [x])) (fun x => hc (by simp [x])) (fun x => hc (by simp [x])) e
    · exact wpAny_pyNext_zip_end_held hh D hz hT J.ti J.h1 J.h2 J.hl1 J.hl2 hend fun h' hk => hq h' s.toks (keep h' fun c o c1 c2 c3 c4 e => hk c o c1 c3 c4 e) fun c o hc e => hk c o (fun x => hc (by simp [x])) (fun x => hc (by simp [x])) (fun x => hc (by simp [x])) e
  · rcases J.en with ⟨_, hz⟩ | ⟨i0, T, f, oT, hz, _⟩
    · exact wpAny_pyIter_zip hz hq
    · exact absurd i0 (Nat.lt_irrefl _)
end
/-- the heap with the new tuples -/
def laidZ (H : Hp) (N0 : Nat) (S : Addr) (xs ys : List V) (n : Nat) (as : List Addr) : Hp := fun b =>
  if b < N0 then H b else if b = S then none else match (List.range n).find? (fun j => decide (as[j]? = some b)) with
    | some j => some (.tup [xs.getD j .non, ys.getD j .non])
    | none => none
/-- list(zip(x, y)) -/
def tListZip (K : PySem.W.Frag) (ta : TA) : TE := fun σ H Q => ta σ H fun vs H1 => ∃ (a b : Addr) (xs ys : List V), vs = [.ref a, .ref b] ∧ SqL K H1 a xs ∧ SqL K H1 b ys ∧
  ∀ (q : Addr) (H2 : Hp) (as : List Addr), Same H1 H2 → H2 q = none → as.length = min xs.length ys.length → (∀ j b, as[j]? = some b → H2 b = some (.tup [xs.getD j .non, ys.getD j .non])) → Q (.ref q) (upd H2 q (.lst (as.map V.ref)))
section
variable {X : Cx} {G : Gx} {e e2 : Expr} {sr : SA} {pins : List (Addr × Obj)} {σ : L2.St} {H1 : Hp}
theorem listZip_end {s1 : Shared} {Q : VK} {xs ys : List V} {its its2 : List Value} {N0 S : Nat} {h' : Heap} {tk : Nat} {acc : Array Value} {c' : Nat} (I1 : Inv X pins σ H1 s1) (rv : Vals xs its) (rv2 : Vals ys its2) (hz : xs.length ≤ sizeLine) (hN : N0 = s1.heap.objs.size) (hS0 : N0 ≤ S)
    (hk : ∀ b o, s1.heap.get? b = some o → h'.get? b = some o) (hS : h'.get? S = some { cls := .type "list", dict := none, data := .seq acc c', slots := #[] })
    (hF : ZF N0 S its.toArray its2.toArray (min its.length its2.length) acc h')
    (q : ∀ (q : Addr) (H2 : Hp) (as : List Addr), Same H1 H2 → H2 q = none → as.length = min xs.length ys.length → (∀ j b, as[j]? = some b → H2 b = some (.tup [xs.getD j .non, ys.getD j .non])) → Q (.ref q) (upd H2 q (.lst (as.map V.ref)))) :
    ∃ x H2, Inv X pins σ H2 { s1 with heap := h', toks := tk } ∧ RelV x (.ref S) ∧ Q x H2 := by
  obtain ⟨hsz, hinj, hF⟩ := hF
  have hlen := rv.length
  have hlen2 := rv2.length
  let as := acc.toList.map adr
  have hget : ∀ j b, as[j]? = some b → j < min its.length its2.length ∧ N0 ≤ b ∧ b ≠ S ∧ acc[j]? = some (.ref b) ∧ ∃ x y, IsPair h' b x y ∧ its[j]? = some x ∧ its2[j]? = some y := fun j b e => by
    have hj : j < min its.length its2.length := by
      have := (List.getElem?_eq_some_iff.mp e).1
      simp [as] at this
      omega
    obtain ⟨a, x, y, e1, e2, e3, e4, e5, e6⟩ := hF j hj
    have : b = a := by
      simp only [as, List.getElem?_map, Array.getElem?_toList, e1] at e
      simpa [adr] using e.symm
    subst this
    exact ⟨hj, e5, e6, e1, x, y, e2, by simpa using e3, by simpa using e4⟩
  have uniq : ∀ j k b, as[j]? = some b → as[k]? = some b → j = k := fun j k b e1 e2 => hinj j k b (hget j b e1).2.2.2.1 (hget k b e2).2.2.2.1
  have hlaid : ∀ j b, as[j]? = some b → laidZ H1 N0 S xs ys (min xs.length ys.length) as b = some (.tup [xs.getD j .non, ys.getD j .non]) := fun j b e => by
    obtain ⟨h1, h2, h3, _⟩ := hget j b e
    unfold laidZ
    rw [if_neg (Nat.not_lt.mpr h2), if_neg h3]
    cases hf : (List.range (min xs.length ys.length)).find? (fun j => decide (as[j]? = some b)) with
    | none =>
      rw [List.find?_eq_none] at hf
      exact absurd (by simpa using e) (hf j (by simp; omega))
    | some k =>
      have := List.find?_some hf
      have := uniq j k b e (by simpa using this)
      subst this
      rfl
  have hLS : laidZ H1 N0 S xs ys (min xs.length ys.length) as S = none := by
    unfold laidZ
    rw [if_neg (Nat.not_lt.mpr hS0), if_pos rfl]
  refine ⟨.ref S, upd (laidZ H1 N0 S xs ys (min xs.length ys.length) as) S (.lst (as.map V.ref)), inv_lays (t' := tk) I1 hk (fun b hb => ?_) (fun b u hb e => ?_), rfl, q S _ as (fun b u e => ?_) hLS (by simp [as]; omega) hlaid⟩
  · have hb2 : b < N0 := by rw [hN]; exact hb
    rw [upd_ne (Nat.ne_of_lt (Nat.lt_of_lt_of_le hb2 hS0))]
    unfold laidZ
    rw [if_pos hb2]
  · by_cases hbS : b = S
    · subst hbS
      rw [upd_same] at e
      cases e
      refine ⟨by simp [as]; omega, acc.toList, c', ?_, by rw [Array.toArray_toList]; exact hS⟩
      refine paired_ix (by simp [as]) fun j x y hx hy => ?_
      rw [List.getElem?_map] at hx
      cases ha : as[j]? with
      | none => rw [ha] at hx; cases hx
      | some b2 =>
        rw [ha] at hx
        simp at hx
        subst hx
        obtain ⟨_, _, _, h4, _⟩ := hget j b2 ha
        rw [Array.getElem?_toList, h4] at hy
        cases hy
        rfl
    · rw [upd_ne hbS] at e
      unfold laidZ at e
      rw [if_neg (Nat.not_lt.mpr (by rw [hN]; exact hb)), if_neg hbS] at e
      split at e
      · rename_i j hf
        cases e
        have hj := List.find?_some hf
        have hj : as[j]? = some b := by simpa using hj
        obtain ⟨h1, h2, h3, h4, x, y, h5, h6, h7⟩ := hget j b hj
        refine ⟨by simp [sizeLine_eq], [x, y], ?_, ?_⟩
        · have hxj : j < xs.length := by omega
          have hyj : j < ys.length := by omega
          have e1 : xs.getD j .non = xs[j] := by simp [List.getD, hxj]
          have e2 : ys.getD j .non = ys[j] := by simp [List.getD, hyj]
          rw [e1, e2]
          obtain ⟨u, hu, hr⟩ := rv.get (i := j) (x := xs[j]) (List.getElem?_eq_getElem hxj)
          obtain ⟨u2, hu2, hr2⟩ := rv2.get (i := j) (x := ys[j]) (List.getElem?_eq_getElem hyj)
          rw [h6] at hu
          rw [h7] at hu2
          cases hu
          cases hu2
          exact .cons hr (.cons hr2 .nil)
        · exact ⟨_, h5, rfl, _, rfl⟩
      · cases e
  · have := I1.hok.lt e
    unfold laidZ
    rw [if_pos (by rw [hN]; exact this)]
    exact e
theorem pe_listZip {ta : TA} {p p2 pos pos2 : Pos} (hc : X.calm = true) (hg : Gl X "list") (hm : X.mg "list" = none) (hg2 : Gl X "zip") (hm2 : X.mg "zip" = none) (ha : PA X [e, e2] ta)
    (hs : starEach [e, e2] X.env = (false, eval e X.env) :: starEach [e2] X.env := by rfl) (hpl : (backTo pos2 (starEach [e2] X.env)).any (·.1) = false := by rfl)
    (hs2 : starEach [.Call (.Name "zip" p2) [e, e2] [] pos2] X.env = (false, eval (.Call (.Name "zip" p2) [e, e2] [] pos2) X.env) :: starEach [] X.env := by rfl) :
    PE X (.Call (.Name "list" p) [.Call (.Name "zip" p2) [e, e2] [] pos2] [] pos) (tListZip X.K ta) := by
  refine ⟨fun pins s σ H Q I h => ?_⟩
  refine Call_ (ld_blt I hg hm boot_list (PyProof.Rows.callWith_type1 (args_cons (Call_ (ld_blt I hg2 hm2 PyProof.Rows.boot_zip (PyProof.Rows.callWith_type1 (thn (ha.run pos2 pins s σ H _ I h) fun us s1 ⟨vs, H1, I1, r1, q1⟩ => ?_) hs hpl))) hs2) hs2 rfl))
  obtain ⟨a, b, xs, ys, ex, hqx, hqy, q⟩ := q1
  subst ex
  cases r1 with
  | cons r rr =>
    cases rr with
    | cons r' rr =>
      cases rr
      cases r
      cases r'
      obtain ⟨its, rv, p1, z1⟩ := I1.list hqx
      obtain ⟨its2, rv2, p2, z2⟩ := I1.list hqy
      refine call_zip_2 p1.isList p2.isList fun h' hz hTI hTO h1 h2 hsz hk => args_nil ?_
      have la : a < s1.heap.objs.size := p1.lt
      have lb : b < s1.heap.objs.size := p2.lt
      have D := PySem.W.ktu_apart s1.heap.objs.size a b la lb
      have nS : ∀ c, c < s1.heap.objs.size + 5 → h'.objs.size ≠ c := fun c hc => by rw [hsz]; exact Nat.ne_of_gt hc
      have hn : min its.toArray.size its2.toArray.size ≤ sizeLine := Nat.le_trans (Nat.min_le_left ..) (by rw [List.size_toArray, ← rv.length]; exact z1)
      refine heap_call (s := { s1 with heap := h' }) (src_zip (S := h'.objs.size) (N0 := s1.heap.objs.size) D its.toArray its2.toArray (Nat.le_add_right _ 4) (nS _ (Nat.lt_succ_self _)) (nS _ (Nat.add_lt_add_left (by decide) _)) (nS _ (Nat.add_lt_add_left (by decide) _)) (nS _ (Nat.lt_add_of_pos_right (by decide))) (nS _ (Nat.add_lt_add_left (by decide) _)) (nS _ (Nat.lt_of_lt_of_le la (Nat.le_add_right _ _))) (nS _ (Nat.lt_of_lt_of_le lb (Nat.le_add_right _ _)))) (I1.ok.hd hc)
        (fun h'' hk2 => ⟨rfl, hk2 _ _ hTI, h1.at fun o e => hk2 _ o e, h2.at fun o e => hk2 _ o e, p1.isList.at fun o e => hk2 _ o (hk _ o e), p2.isList.at fun o e => hk2 _ o (hk _ o e), fun j hj => absurd hj (Nat.not_lt_zero _), fun j k a hj => by simp at hj, ⟨_, _, hk2 _ _ hTO⟩, .inl ⟨rfl, hk2 _ _ hz⟩⟩) hn fun h'' tk acc c' hk2 hS hF => ?_
      refine listZip_end (s1 := s1) (tk := tk) I1 rv rv2 z1 rfl (by rw [hsz]; exact Nat.le_add_right _ _) (fun b o e => hk2 b o (fun z => ?_) (hk b o e)) hS (by simpa using hF) q
      have hb := Heap.lt_size e
      simp only [List.mem_cons, List.not_mem_nil, or_false] at z
      rcases z with z | z | z | z
      · rw [z] at hb; exact Nat.lt_irrefl _ (Nat.lt_of_le_of_lt (Nat.le_add_right _ _) hb)
      · rw [z] at hb; exact Nat.lt_irrefl _ (Nat.lt_of_le_of_lt (Nat.le_add_right _ _) hb)
      · rw [z] at hb; exact Nat.lt_irrefl _ hb
      · rw [z] at hb; exact Nat.lt_irrefl _ (Nat.lt_of_le_of_lt (Nat.le_add_right _ _) hb)
/-- a new list: the pairs of two lists -/
def fListZip : Mf := fun ds S => match ds with
  | [.ref n, .ref m] => match lstOf S n, lstOf S m with
    | some l, some k => .ok (.ref S.length) (S ++ [.lst (zipD l k)])
    | _, _ => .bad
  | _ => .bad
theorem zip_rvs {K : PySem.W.Frag} {H2 : Hp} {p : List Addr} {l k : List D} {xs ys : List V} {as : List Addr} (r : RVs K H2 p l xs) (r2 : RVs K H2 p k ys) (hlen : as.length = min xs.length ys.length) (hT : ∀ j b, as[j]? = some b → H2 b = some (.tup [xs.getD j .non, ys.getD j .non])) : RVs K H2 p (zipD l k) (as.map V.ref) := by
  have hl := r.len
  have hl2 := r2.len
  have rr : RVs K H2 p (zipD l k) (as.map V.ref) ↔ True := ⟨fun _ => trivial, fun _ => rvs_ix (by rw [zipD_len]; simp; omega) fun j d x hd hx => ?_⟩
  · exact rr.mpr trivial
  · rw [List.getElem?_map] at hx
    cases hb : as[j]? with
    | none => rw [hb] at hx; cases hx
    | some b =>
      rw [hb] at hx
      simp at hx
      subst hx
      have hj : j < as.length := (List.getElem?_eq_some_iff.mp hb).1
      have hjl : j < l.length := by omega
      have hjk : j < k.length := by omega
      rw [zipD_get (d := l[j]) (e := k[j]) (by simp [hjl]) (by simp [hjk])] at hd
      cases hd
      obtain ⟨x, e1, e2⟩ := r.get (d := l[j]) (i := j) (by simp [hjl])
      obtain ⟨y, e3, e4⟩ := r2.get (d := k[j]) (i := j) (by simp [hjk])
      have e5 : xs.getD j .non = x := by rw [List.getD_eq_getElem?_getD, e1]; rfl
      have e6 : ys.getD j .non = y := by rw [List.getD_eq_getElem?_getD, e3]; rfl
      exact RV.tup_iff.mpr ⟨b, _, rfl, .inl (.inl (hT j b hb)), .cons (by rw [e5]; exact e2) (.cons (by rw [e6]; exact e4) .nil)⟩
theorem me_listZip {p p2 pos pos2 : Pos} (hm : X.mg "list" = none) (hm2 : X.mg "zip" = none) (ha : MA X G [e, e2] sr) (hc : X.calm = true := by rfl) (hg : Gl X "list" := by rfl) (hg2 : Gl X "zip" := by rfl)
    (hs : starEach [e, e2] X.env = (false, eval e X.env) :: starEach [e2] X.env := by rfl) (hpl : (backTo pos2 (starEach [e2] X.env)).any (·.1) = false := by rfl)
    (hs2 : starEach [.Call (.Name "zip" p2) [e, e2] [] pos2] X.env = (false, eval (.Call (.Name "zip" p2) [e, e2] [] pos2) X.env) :: starEach [] X.env := by rfl) :
    ME X G (.Call (.Name "list" p) [.Call (.Name "zip" p2) [e, e2] [] pos2] [] pos) (sCall fListZip sr) := fun ok =>
  pe_imp (pe_listZip hc hg hm hg2 hm2 (ha ok) hs hpl hs2) fun σ H Q h => by
    obtain ⟨p, env, S, rs, rst, g⟩ := h
    refine TAo.bind rs rst g fun H1 p1 S1 ds xs _ rs1 r1 rx g1 => ?_
    unfold fListZip at g1
    split at g1
    · split at g1
      · rename_i n m l k hl hk
        obtain ⟨x, y, rfl, r, r'⟩ := rx.two
        obtain ⟨a, us, rfl, h1, h2⟩ := r1.list hl r
        obtain ⟨b, vs, rfl, h3, h4⟩ := r1.list hk r'
        refine ⟨a, b, us, vs, rfl, h1, h3, fun q H2 as sm hq hlen hT => ?_⟩
        have e1 : Ext X.K H1 H2 p1 p1 := ext_same sm
        obtain ⟨E, R, r⟩ := (r1.same sm).newL hq (zip_rvs (RVs.mono e1 _ _ h2) (RVs.mono e1 _ _ h4) hlen hT)
        exact g1 _ _ (e1.trans E) R _ r
      · exact g1.elim
    · exact g1.elim
end
end Rg
/-! RgBv: powers of whole numbers of many bits. -/
namespace Rg
open PySem PySem.Spec PyProof.Rows L2
section
variable {X : Cx} {G : Gx} {a b : Expr} {pos : Pos} {sa sb : SE}
def CPw (i j : Int) : Prop := 0 ≤ j ∧ (Builtin.Int.intBits i : Int) * j ≤ 2 ^ 27
theorem op_powW : OpR X (binaryOp .Pow) (rI CPw fun i j => .int (i ^ j.toNat)) := opI fun _ _ _ _ _ _ _ hc q => pow_int hc.1 hc.2 q
noncomputable abbrev fPowW := fIC CPw fun i j => i ^ j.toNat
theorem me_powW (ha : ME X G a sa) (hb : ME X G b sb) : ME X G (.BinOp a .Pow b pos) (s2 fPowW sa sb) := me_op op_powW rf_IC ha hb
end
end Rg
/-! RgBy: sorted(set(numbers)); pop at a place. -/
namespace Rg
open PySem PySem.Spec PyProof.Rows L2
section
variable {P : Program} {w : World} {A : Around} {E : Value → Shared → Prop} {s : Shared}
set_option maxHeartbeats 8000000 in
/-- a set of a list of whole numbers, in an order that is known -/
theorem call_set_lstI {l : Addr} {items : Array Value} (ns : List Int) {Q : Value → Shared → Prop} (hh : A.handled = none) (hl : s.heap.IsList l items) (hit : IntsAre items.toList ns) (hb : ns.length + 1 < scanBound)
    (h : ∀ (h' : Heap) (tk c : Nat), SetR w h' s.heap.objs.size (fun j => decide (j ∈ ns)) c → c ≤ ns.length → (∀ b o, s.heap.get? b = some o → h'.get? b = some o) → Q (.ref s.heap.objs.size) { s with heap := h', toks := tk }) :
    wpAny (model P w) A (call (.type "set") [.ref l]) Q E s := by
  have size_is : items.size = ns.length := by rw [← Array.length_toList]; exact IntsAre.length hit
  obtain ⟨mc, mt, mro⟩ := F.called_set.mro
  have made := F.called_set.made
  have under := F.called_set.sub
  have f1 := F.called_set.notType
  have f2 := F.called_set.canCreate
  have f3 := F.typeCall_set_1 (.ref l)
  refine wpAny_call (codeAny_of_tree (wpAny_pure ⟨Code.quiet_builtin _ (by decide +kernel), codeAny_builtin F.entry_type_call ?_⟩))
  rw [Around.under_plain (weight_type_call_type "set" [.ref l] []) rfl]
  repeat (any_goals (first | assumption | wp_step))
  obtain ⟨N, eN⟩ : ∃ N : Heap, N = s.heap.push { cls := .type "set", dict := none, data := .set #[] 0 (.fresh 0 0 (!w.params.followText "set-order")) } := ⟨_, rfl⟩
  have szN : N.objs.size = s.heap.objs.size + 1 := by rw [eN]; exact Heap.size_push ..
  have old : ∀ b o, s.heap.get? b = some o → N.get? b = some o := fun b o e => by rw [eN]; exact Heap.get?_push_of_some _ e
  have atS : N.get? s.heap.objs.size = some { cls := .type "set", dict := none, data := .set #[] 0 (.fresh 0 0 (!w.params.followText "set-order")) } := by rw [eN]; exact Heap.get?_push_size _ rfl
  refine codeAny_mono (code_set_led1 (.ref l) (E := E) (Q₁ := fun obj s₁ => obj = .ref s.heap.objs.size ∧ s₁ = { s with heap := N }) ⟨rfl, by rw [eN]⟩) fun r s₁ hr => ?_
  match r, hr with
  | .error e, hr => exact hr
  | .ok (.ret _), ⟨rfl, e1⟩ =>
    cases e1
    have hT : Shared.TypeIs { s with heap := N } (.ref s.heap.objs.size) "set" := ⟨_, atS, rfl⟩
    have g1 := F.called_set.init.lookup
    have g2 := F.called_set.init.bind (.ref s.heap.objs.size)
    repeat (any_goals (first | assumption | wp_step))
    refine codeAny_mono (codeAny_call_builtin (R := wants (fun r s₂ => r = .none ∧ ∃ h' tk c, s₂ = { s with heap := h', toks := tk } ∧ SetR w h' s.heap.objs.size (fun j => decide (j ∈ ns)) c ∧ c ≤ ns.length ∧
      (∀ b o, s.heap.get? b = some o → h'.get? b = some o)) E) F.called_set.init.plain F.entry_set_init (check_set_init_1 hT ?_)) fun r₂ s₂ hr₂ => ?_
    · have lS : l < s.heap.objs.size := by
        obtain ⟨ol, hol, _⟩ := hl
        exact Heap.lt_size hol
      have hl1 : N.IsList l items := hl.at fun o e => old _ o e
      obtain ⟨⟨ocls, odict, odata, oslots⟩, hol, hcl, nl, hdl⟩ := hl1
      simp only at hcl hdl
      subst hcl; subst hdl
      have n1 := F.sub_list_set
      have n2 := F.sub_list_frozenset
      have n3 : (Value.type "list" == Value.type "dict") = false := by decide
      have hl2 : N.IsList l items := ⟨_, hol, rfl, nl, rfl⟩
      unfold Builtin.«set.__init__» noKeywords Builtin.Frozenset.updateFrom
      generalize hPI : pyIter = PI
      wp_walk
      subst hPI
      refine wpAny_pyIter_list hl2 (wpAny_bind (wpAny_runValue ?_))
      have in3 : A.in1.in1.in1.handled = none := by simp [hh]
      have lN : l ≠ N.objs.size := by rw [szN]; exact Nat.ne_of_lt (Nat.lt_succ_of_lt lS)
      have sf : s.heap.objs.size ∉ [N.objs.size, l] := by
        intro z
        rcases List.mem_cons.mp z with z | z
        · rw [szN] at z; exact Nat.ne_of_lt (Nat.lt_succ_self _) z
        · rw [List.mem_singleton] at z; exact Nat.ne_of_gt lS z
      refine set_update_ints ((Walks.list in3 _ l lN items).toS) s.heap.objs.size sf ns size_is hb (fun i v hv => ?_) (items.size - 0) 0 _ (by omega) (Nat.zero_le _) ⟨⟨_, Heap.get?_push_size _ rfl, rfl, rfl⟩, hl2.push _⟩
        ⟨0, Nat.le_refl 0, setR_new_at (Heap.get?_push_of_some _ atS)⟩ fun s' c' hm hc' hS' => ?_
      · have hi : i < ns.length := by rw [← size_is]; exact (Array.getElem?_eq_some_iff.mp hv).1
        obtain ⟨t, e⟩ := PyProof.Rows.IntsAre.int_at hit i v (by rw [Array.getElem?_toList]; exact hv)
        exact ⟨ns[i], t, List.getElem?_eq_getElem hi, by rw [e, List.getD_eq_getElem?_getD, List.getElem?_eq_getElem hi] <;> rfl⟩
      · obtain ⟨h', g2, d', tk', os'⟩ := s'
        have eg : g2 = s.gens := hm.gens
        have ed : d' = s.drawn := hm.drawn
        have eo : os' = s.os := hm.os
        subst eg; subst ed; subst eo
        show wpAny _ _ _ _ _ _
        refine wpAny_pure (wpAny_pure ⟨rfl, h', tk', c', rfl, hS', by rw [← size_is]; exact hc', fun b o e => ?_⟩)
        have hb0 : b < s.heap.objs.size := Heap.lt_size e
        refine hm.heap b o (fun z => ?_) (Heap.get?_push_of_some _ (old b o e))
        rcases List.mem_cons.mp z with z | z
        · exact Nat.ne_of_lt hb0 z
        · rw [List.mem_singleton, szN] at z; exact Nat.ne_of_lt (Nat.lt_succ_of_lt hb0) z
    · match r₂, hr₂ with
      | .error e, hr₂ => exact hr₂
      | .ok (.ret _), ⟨rfl, h', tk, c', e2, k1, k2, k3⟩ =>
        cases e2
        repeat (any_goals (first | assumption | wp_step))
        exact h _ _ _ k1 k2 k3
end
/-- what is in it, rising -/
def insU (x : Int) : List Int → List Int
  | [] => [x]
  | y :: l => if x < y then x :: y :: l else if x = y then y :: l else y :: insU x l
def sortSet : List Int → List Int
  | [] => []
  | x :: l => insU x (sortSet l)
theorem mem_insU {x k : Int} : ∀ {l : List Int}, k ∈ insU x l ↔ k = x ∨ k ∈ l
  | [] => by simp [insU]
  | y :: l => by
    unfold insU
    split
    · simp
    · split
      · rename_i e
        subst e
        simp
      · rw [List.mem_cons, mem_insU, List.mem_cons]
        constructor
        · rintro (h | h | h) <;> simp [h]
        · rintro (h | h | h) <;> simp [h]
theorem mem_sortSet {k : Int} : ∀ {l : List Int}, k ∈ sortSet l ↔ k ∈ l
  | [] => by simp [sortSet]
  | x :: l => by
    unfold sortSet
    rw [mem_insU, mem_sortSet, List.mem_cons]
theorem pw_insU {x : Int} : ∀ {l : List Int}, l.Pairwise (· < ·) → (insU x l).Pairwise (· < ·)
  | [], _ => by simp [insU]
  | y :: l, h => by
    obtain ⟨h1, h2⟩ := List.pairwise_cons.mp h
    unfold insU
    split
    · rename_i hx
      refine List.pairwise_cons.mpr ⟨fun z hz => ?_, h⟩
      rcases List.mem_cons.mp hz with rfl | hz
      · exact hx
      · have := h1 z hz; omega
    · split
      · exact h
      · refine List.pairwise_cons.mpr ⟨fun z hz => ?_, pw_insU h2⟩
        rcases mem_insU.mp hz with rfl | hz
        · omega
        · exact h1 z hz
theorem pw_sortSet : ∀ {l : List Int}, (sortSet l).Pairwise (· < ·)
  | [] => List.Pairwise.nil
  | x :: l => pw_insU pw_sortSet
theorem pw_ext : ∀ {a b : List Int}, a.Pairwise (· < ·) → b.Pairwise (· < ·) → (∀ k, k ∈ a ↔ k ∈ b) → a = b
  | [], [], _, _, _ => rfl
  | [], y :: b, _, _, h => absurd ((h y).mpr (by simp)) (by simp)
  | x :: a, [], _, _, h => absurd ((h x).mp (by simp)) (by simp)
  | x :: a, y :: b, ha, hb, h => by
    obtain ⟨a1, a2⟩ := List.pairwise_cons.mp ha
    obtain ⟨b1, b2⟩ := List.pairwise_cons.mp hb
    have e : x = y := by
      rcases List.mem_cons.mp ((h x).mp (by simp)) with z | z
      · exact z
      · rcases List.mem_cons.mp ((h y).mpr (by simp)) with z2 | z2
        · exact z2.symm
        · have := b1 x z; have := a1 y z2; omega
    subst e
    rw [pw_ext a2 b2 fun k => ⟨fun hk => ?_, fun hk => ?_⟩]
    · rcases List.mem_cons.mp ((h k).mp (by simp [hk])) with z | z
      · have := a1 k hk; omega
      · exact z
    · rcases List.mem_cons.mp ((h k).mpr (by simp [hk])) with z | z
      · have := b1 k hk; omega
      · exact z
theorem sortSet_eq {l : List Int} (h : l.Pairwise (· < ·)) : sortSet l = l := pw_ext pw_sortSet h fun _ => mem_sortSet
section
variable {X : Cx} {G : Gx} {e a b c o : Expr} {pos : Pos} {sa sb so : SE} {es : List Expr} {sr : SA}
def rSetL (K : PySem.W.Frag) (w : World) : List V → Hp → VK → Prop := fun xs H Q => ∃ (l : Addr) (ns : List Int), xs = [.ref l] ∧ SqL K H l (ns.map V.int) ∧ ns.length ≤ 1000 ∧ ∀ p c, H p = none → c ≤ ns.length → Q (.ref p) (upd H p (SetO w p (fun j => decide (j ∈ ns)) c))
theorem cr_setL (hc : X.calm = true) : CallR X (.type "set") (rSetL X.K X.w) := by
  intro pins s σ H xs us Q I r h
  obtain ⟨l, ns, rfl, hq, hn, q⟩ := h
  obtain ⟨its, rv, p', hz⟩ := I.list hq
  rw [Vals.ref1 r]
  refine call_set_lstI ns (I.ok.hd hc) p'.isList (by rw [List.toList_toArray]; exact ints_of_vals rv) (by unfold scanBound; omega) fun h' tk c R hle k => ?_
  exact ⟨.ref _, upd H s.heap.objs.size (SetO X.w s.heap.objs.size (fun j => decide (j ∈ ns)) c), I.laid (t' := tk) (fun b u e => k b u e) (Nat.le_refl _) (setO_new R), rfl, q _ c (I.hok.fresh (Nat.le_refl _)) hle⟩
def fSortSet : D → Store → Res D := fun d S => match d with
  | .ref n => match (lstOf S n).bind intsD with
    | some ns => if ns.length < 64 then .ok (.ref S.length) (S ++ [.lst ((sortSet ns).map D.int)]) else .bad
    | none => .bad
  | _ => .bad
theorem rvs_ints {K : PySem.W.Frag} {H : Hp} {p : List Addr} : ∀ (ns : List Int), RVs K H p (ns.map D.int) (ns.map V.int)
  | [] => .nil
  | n :: ns => .cons (RV.int_iff.mpr rfl) (rvs_ints ns)
theorem me_sortSet {p p2 pos2 : Pos} (hm : X.mg "sorted" = none) (hm2 : X.mg "set" = none) (he : ME X G e sa) (hc : X.calm = true := by rfl) (hg : Gl X "sorted" := by rfl) (hg2 : Gl X "set" := by rfl)
    (hs : starEach [e] X.env = (false, eval e X.env) :: starEach [] X.env := by rfl) (hpl : (backTo pos2 (starEach [] X.env)).any (·.1) = false := by rfl)
    (hs2 : starEach [.Call (.Name "set" p2) [e] [] pos2] X.env = (false, eval (.Call (.Name "set" p2) [e] [] pos2) X.env) :: starEach [] X.env := by rfl) (hpl2 : (backTo pos (starEach [] X.env)).any (·.1) = false := by rfl) :
    ME X G (.Call (.Name "sorted" p) [.Call (.Name "set" p2) [e] [] pos2] [] pos) (s1 fSortSet sa) := fun ok =>
  pe_imp (pe_callB (cr_sortedSet hc) hg hm (by decide +kernel) (pa_cons (pe_callTy (cr_setL hc) hg2 hm2 (by decide +kernel) (pa_cons (he ok) pa_nil hs) (by decide) (by decide) hs hpl) pa_nil hs2) (by decide) (by decide) hs2 hpl2) fun σ H Q h => by
    obtain ⟨p, env, S, rs, rst, g⟩ := h
    refine one rs rst g fun H1 p1 S1 d x _ rs1 r1 rx g1 => ?_
    unfold fSortSet at g1
    split at g1
    · split at g1
      · rename_i n _ ns hl
        split at g1
        · rename_i h64
          obtain ⟨a, e, hq⟩ := ints_of (ds := [.ref n]) r1 (by simpa [lst1] using hl) (.cons rx .nil)
          refine ⟨a, ns, e, hq, by omega, fun q c hq0 hle => ?_⟩
          refine ⟨q, _, c, rfl, upd_same, by omega, fun ms p' pw mm hl2 hp' => ?_⟩
          have em : ms = sortSet ns := pw_ext pw pw_sortSet fun k => by rw [mm k, mem_sortSet]; simp
          subst em
          have e1 : Ext X.K H1 (upd H1 q (SetO X.w q (fun j => decide (j ∈ ns)) c)) p1 p1 := ext_same (same_new hq0)
          obtain ⟨E, R, r⟩ := (r1.same (same_new hq0)).newL hp' (rvs_ints (sortSet ns))
          exact g1 _ _ (e1.trans E) R _ r
        · exact g1.elim
      · exact g1.elim
    · exact g1.elim
/-! ### pop at a place -/
def fPopA : D → List D → Store → Res D := fun d ds S => match d, ds with
  | .ref n, [.int i] => match S[n]? with
    | some (.lst l) => match l[i.toNat]? with
      | some y => if 0 ≤ i ∧ i < 2 ^ 63 then .ok y (S.set n (.lst (l.eraseIdx i.toNat))) else .bad
      | none => .bad
    | _ => .bad
  | _, _ => .bad
theorem rm_popA {K : PySem.W.Frag} : RfM K rPopAt fPopA := by
  intro G σ H p S d x ds xs Q rst rx rxs h
  unfold fPopA at h
  split at h
  · rename_i n i
    split at h
    · rename_i l hl
      split at h
      · rename_i y hy
        split at h
        · rename_i hi
          obtain ⟨a, rfl, e⟩ := RV.ref_iff.mp rx
          obtain ⟨xi, rfl, hxi⟩ := rxs.one
          rw [RV.int_iff] at hxi
          subst hxi
          obtain ⟨zs, h1, h2⟩ := rst.cell n _ a hl e
          obtain ⟨v, e1, e2⟩ := h2.get hy
          obtain ⟨E, R⟩ := rst.setL hl e (h2.erase i.toNat)
          have hlt := (List.getElem?_eq_some_iff.mp e1).1
          exact ⟨a, zs, i, i.toNat, v, rfl, rfl, h1, by omega, hi.2, by
            have h3 : ¬ i < 0 := by omega
            have h4 : (decide (0 ≤ i) && decide (i < (zs.length : Int))) = true := by simp; omega
            unfold seqIndex?
            simp only [h3, if_false, h4, if_true], e1, h _ _ E R _ (RV.mono E _ _ e2)⟩
        · exact h.elim
      · exact h.elim
    · exact h.elim
  · exact h.elim
theorem me_popA {apos : Pos} (ho : ME X G o so) (ha : MA X G (e :: es) sr)
    (hbase : attributeBase o "pop" X.env (eval o X.env) = eval o X.env := by rfl)
    (hfew : ((backTo pos (starEach (e :: es) X.env)).all (fun x => !x.1) && (backToKw pos (keywordEach [] X.env)).all (fun x => x.1.isSome)
      && decide ((e :: es).length + ([] : List Keyword).length + (if ([] : List Keyword).isEmpty then 0 else 1) < 30)) = true := by rfl)
    (hline : (apos.endLine == pos.line) = true := by rfl) (hs : starEach (e :: es) X.env = (false, eval e X.env) :: starEach es X.env := by rfl) (hplain : (backTo pos (starEach es X.env)).any (·.1) = false := by rfl) :
    ME X G (.Call (.Attribute o "pop" apos) (e :: es) [] pos) (sMethL fPopA so sr) := me_bmL PySem.F.slot_list_pop PySem.F.type_list_pop mt_popAt rm_popA ho ha hbase hfew hline hs hplain
end
end Rg
/-! RgBz: in over a tuple; sorted lists of things alike. -/
namespace Rg
open PySem PySem.Spec PyProof.Rows L2
/-! ### x in (a, b) -/
def rInT (K : PySem.W.Frag) (neg : Bool) : R2 := fun x y H Q => ∃ d ds, Dp K H x d ∧ Dp K H y (.tuple ds) ∧ SeqAt.shaped d = true ∧ SeqAt.shaped (.tuple ds) = true ∧ Q (.bl (if neg then !ds.any fun z => PyData.eqv z d else ds.any fun z => PyData.eqv z d)) H
def fInT (neg : Bool) : D → D → Store → Res D := fun d e S => match toP S 60 d, toP S 60 e with
  | some x, some (.tuple ds) => .ok (.bl (if neg then !ds.any fun z => PyData.eqv z x else ds.any fun z => PyData.eqv z x)) S
  | _, _ => .bad
theorem rf_inT {K : PySem.W.Frag} {neg : Bool} : RfO K (rInT K neg) (fInT neg) := by
  intro G σ H p S d e x y Q rst rx ry h
  unfold fInT at h
  split at h
  · rename_i a ds h1 h2
    exact ⟨a, ds, toP_dp rst 60 d a x h1 rx, toP_dp rst 60 e _ y h2 ry, toP_shaped h1, toP_shaped h2, h H p .refl rst _ (RV.bl_iff.mpr rfl)⟩
  · exact h.elim
section
variable {X : Cx} {G : Gx} {a b e : Expr} {pos : Pos} {sa sb : SE} {es : List Expr} {sr : SA}
theorem room_t {A : Around} {ds : List PyData} {d : PyData} (hd : SeqAt.shaped d = true) (hu : A.units + 65 < cLine) : A.units + 1 + min (PyData.depthAll ds) d.depth < cLine := room_in_shaped hd hu
theorem op_inT (hu : X.A.units + 65 < cLine) : OpR X (compareOp .In) (rInT X.K false) := by
  intro pins s σ H x y v u Q I rx ry h
  obtain ⟨d, ds, hd, he, sd, se, q⟩ := h
  obtain ⟨as, r1⟩ := Dp.reads I d x v hd rx
  obtain ⟨bs, r2⟩ := Dp.reads I (.tuple ds) y u he ry
  exact SeqAt.in_tuple_reads r2 r1 (SeqAt.canLay_of_shaped se) (SeqAt.canLay_of_shaped sd) (room_t sd hu) ⟨.bl _, H, I, rfl, q⟩
theorem op_notInT (hu : X.A.units + 65 < cLine) : OpR X (compareOp .NotIn) (rInT X.K true) := by
  intro pins s σ H x y v u Q I rx ry h
  obtain ⟨d, ds, hd, he, sd, se, q⟩ := h
  obtain ⟨as, r1⟩ := Dp.reads I d x v hd rx
  obtain ⟨bs, r2⟩ := Dp.reads I (.tuple ds) y u he ry
  exact SeqAt.notIn_tuple_reads r2 r1 (SeqAt.canLay_of_shaped se) (SeqAt.canLay_of_shaped sd) (room_t sd hu) ⟨.bl _, H, I, rfl, q⟩
theorem me_inT {k : Nat} (hr : Room (k + 1) X.A) (ha : ME X G a sa) (hb : ME X G b sb) (hm : behindInMarks .In b = false := by rfl) : ME X G (.Compare a [.In] [b] pos) (s2 (fInT false) sa sb) := me_cmp (op_inT (room65 hr)) rf_inT ha hb hm
theorem me_notinT {k : Nat} (hr : Room (k + 1) X.A) (ha : ME X G a sa) (hb : ME X G b sb) (hm : behindInMarks .NotIn b = false := by rfl) : ME X G (.Compare a [.NotIn] [b] pos) (s2 (fInT true) sa sb) := me_cmp (op_notInT (room65 hr)) rf_inT ha hb hm
theorem mt_inT {k : Nat} (hr : Room (k + 1) X.A) (ha : ME X G a sa) (hb : ME X G b sb) (hm : behindInMarks .In b = false := by rfl) : MT X G (.Compare a [.In] [b] pos) (sT (s2 (fInT false) sa sb)) := mt_cmp (op_inT (room65 hr)) rf_inT ha hb hm
theorem mt_notinT {k : Nat} (hr : Room (k + 1) X.A) (ha : ME X G a sa) (hb : ME X G b sb) (hm : behindInMarks .NotIn b = false := by rfl) : MT X G (.Compare a [.NotIn] [b] pos) (sT (s2 (fInT true) sa sb)) := mt_cmp (op_notInT (room65 hr)) rf_inT ha hb hm
/-! ### sorted(list) -/
def rSortG (K : PySem.W.Frag) : List V → Hp → VK → Prop := fun vs H Q => ∃ (a : Addr) (bs : List (V × PyData)), vs = [.ref a] ∧ SqL K H a (bs.map (·.1)) ∧ (∀ b ∈ bs, Dp K H b.1 b.2 ∧ b.2.depth ≤ 60) ∧ PySem.W.AllAlike (bs.map (·.2)) ∧ PySem.W.Sortable (bs.map (·.2)) ∧
  ∀ p, H p = none → Q (.ref p) (upd H p (.lst ((bs.mergeSort (PySem.W.dataLe false (·.2))).map (·.1))))
theorem each_of_vals {R : V → PyData → Prop} : ∀ {bs : List (V × PyData)} {us : List Value}, Vals (bs.map (·.1)) us → PySem.W.EachIs (fun u (b : V × PyData) => RelV b.1 u) us bs
  | [], us, h => by cases h; exact .nil
  | b :: bs, us, h => by
    cases h with
    | cons r1 r => exact .cons r1 (each_of_vals (R := R) r)
theorem vals_of_each : ∀ {bs : List (V × PyData)} {us : List Value}, PySem.W.EachIs (fun u (b : V × PyData) => RelV b.1 u) us bs → Vals (bs.map (·.1)) us
  | [], _, .nil => .nil
  | _ :: _, _, .cons r1 r => .cons r1 (vals_of_each r)
theorem cr_sortG (hu : X.A.units + 65 < cLine) : CallR X (.builtin "sorted") (rSortG X.K) := by
  intro pins s σ H vs us Q I r h
  obtain ⟨a, bs, rfl, hq, hd, hal, hs, q⟩ := h
  obtain ⟨its, rv, p', hz⟩ := I.list hq
  rw [Vals.ref1 r]
  have e := each_of_vals (R := fun _ _ => True) rv
  have hL : bs.length ≤ sizeLine := by rw [List.length_map] at hz; exact hz
  refine PySem.W.sorted_data (enc := fun b : V × PyData => b.2) p'.isList e ?_ hal hs hL (fun b hb => ?_) fun out ho eo => ?_
  · refine (PySem.W.each_mem e).mono fun u b ⟨h1, h2⟩ => ?_
    exact Dp.reads I _ _ _ (hd b h2).1 h1
  · have h3 : b.2.depth ≤ 60 := (hd b hb).2
    show X.A.units + 2 + b.2.depth < cLine
    omega
  · have hn : H (s.heap.objs.size + 1) = none := I.hok.fresh (Nat.le_succ _)
    obtain ⟨c, hc⟩ := sortedAll_at s.heap its out.toArray
    exact ⟨.ref _, upd H (s.heap.objs.size + 1) (.lst ((bs.mergeSort (PySem.W.dataLe false (·.2))).map (·.1))), I.laid (t' := s.toks) (fun b u e => sortedAll_old e) (Nat.le_succ _) ⟨by rw [List.length_map, List.length_mergeSort]; exact hL, out, c, vals_of_each eo, hc⟩, rfl, q _ hn⟩
/-- the things, each with what it is as data -/
def datas (S : Store) (l : List D) : Option (List (D × PyData)) := match allP (toP S 60) l with
  | some ds => some (l.zip ds)
  | none => none
theorem zip_fst {α β : Type} : ∀ {l : List α} {m : List β}, l.length = m.length → (l.zip m).map (·.1) = l
  | [], [], _ => rfl
  | a :: l, b :: m, h => by simp [zip_fst (l := l) (m := m) (by simpa using h)]
theorem zip_snd {α β : Type} : ∀ {l : List α} {m : List β}, l.length = m.length → (l.zip m).map (·.2) = m
  | [], [], _ => rfl
  | a :: l, b :: m, h => by simp [zip_snd (l := l) (m := m) (by simpa using h)]
theorem allP_length {f : D → Option PyData} : ∀ {l : List D} {r : List PyData}, allP f l = some r → l.length = r.length
  | [], r, h => by unfold allP at h; cases h; rfl
  | d :: l, r, h => by
    unfold allP at h
    split at h
    · rename_i x r' h1 h2
      cases h
      simp [allP_length h2]
    · cases h
open Classical in
noncomputable def fSorted : Mf := fun ds S => match lst1 S ds with
  | some l => match datas S l with
    | some bs => if PySem.W.AllAlike (bs.map (·.2)) ∧ PySem.W.Sortable (bs.map (·.2)) then .ok (.ref S.length) (S ++ [.lst ((bs.mergeSort (PySem.W.dataLe false (·.2))).map (·.1))]) else .bad
    | none => .bad
  | none => .bad
/-- things, values, data side by side -/
theorem three_of {K : PySem.W.Frag} {H : Hp} {p : List Addr} {S : Store} (R : RSt K H p S) : ∀ {l : List D} {ds : List PyData} {xs : List V}, allP (toP S 60) l = some ds → RVs K H p l xs →
    ∃ zs : List (D × V × PyData), zs.map (·.1) = l ∧ zs.map (·.2.1) = xs ∧ zs.map (·.2.2) = ds ∧ (∀ z ∈ zs, RV K H p z.1 z.2.1 ∧ Dp K H z.2.1 z.2.2 ∧ z.2.2.depth ≤ 60)
  | [], ds, xs, h, r => by
    unfold allP at h
    cases h
    rw [RVs.nil_iff] at r
    subst r
    exact ⟨[], rfl, rfl, rfl, by simp⟩
  | d :: l, ds, xs, h, r => by
    unfold allP at h
    split at h
    · rename_i x r' h1 h2
      cases h
      obtain ⟨v, t, rfl, r1, r2⟩ := RVs.cons_iff.mp r
      obtain ⟨zs, e1, e2, e3, e4⟩ := three_of R h2 r2
      refine ⟨(d, v, x) :: zs, by simp [e1], by simp [e2], by simp [e3], fun z hz => ?_⟩
      rcases List.mem_cons.mp hz with rfl | hz
      · exact ⟨r1, toP_dp R 60 d x v h1 r1, (toP_sh 60 d x h1).2⟩
      · exact e4 z hz
    · cases h
theorem rvs_map {K : PySem.W.Frag} {H : Hp} {p : List Addr} : ∀ {zs : List (D × V × PyData)}, (∀ z ∈ zs, RV K H p z.1 z.2.1) → RVs K H p (zs.map (·.1)) (zs.map (·.2.1))
  | [], _ => .nil
  | z :: zs, h => .cons (h z (by simp)) (rvs_map fun y hy => h y (by simp [hy]))
theorem rc_sortG {K : PySem.W.Frag} : RfC K (rSortG K) fSorted := by
  intro G σ H p S ds xs Q rst rx h
  unfold fSorted at h
  split at h
  · rename_i l hl
    split at h
    · rename_i bs hb
      split at h
      · rename_i hc
        obtain ⟨a, ys, rfl, hq, hr⟩ := lst1_of rst hl rx
        unfold datas at hb
        split at hb
        · rename_i ps hp
          cases hb
          obtain ⟨zs, e1, e2, e3, e4⟩ := three_of rst hp hr
          have lz : l.zip ps = zs.map fun z => (z.1, z.2.2) := by
            rw [← e1, ← e3]
            clear e1 e2 e3 e4 hp hr hq hl hc h
            induction zs with
            | nil => rfl
            | cons z zs ih => simp [ih]
          have h1 : (zs.map fun z => (z.2.1, z.2.2)).map (·.1) = ys := by rw [List.map_map]; exact e2
          have h2 : (zs.map fun z => (z.2.1, z.2.2)).map (·.2) = (l.zip ps).map (·.2) := by rw [lz, List.map_map, List.map_map]; rfl
          refine ⟨a, zs.map fun z => (z.2.1, z.2.2), rfl, by rw [h1]; exact hq, fun b hb => ?_, by rw [h2]; exact hc.1, by rw [h2]; exact hc.2, fun q hq0 => ?_⟩
          · obtain ⟨z, hz, rfl⟩ := List.mem_map.mp hb
            exact (e4 z hz).2
          · have m1 : ((zs.map fun z => (z.2.1, z.2.2)).mergeSort (PySem.W.dataLe false (·.2))).map (·.1) = (zs.mergeSort (PySem.W.dataLe false (·.2.2))).map (·.2.1) := by
              rw [← List.map_mergeSort (s := PySem.W.dataLe false (·.2)) (r := PySem.W.dataLe false (·.2.2)) (f := fun z : D × V × PyData => (z.2.1, z.2.2)) (fun _ _ _ _ => rfl), List.map_map]
              rfl
            have m2 : ((l.zip ps).mergeSort (PySem.W.dataLe false (·.2))).map (·.1) = (zs.mergeSort (PySem.W.dataLe false (·.2.2))).map (·.1) := by
              rw [lz, ← List.map_mergeSort (s := PySem.W.dataLe false (·.2)) (r := PySem.W.dataLe false (·.2.2)) (f := fun z : D × V × PyData => (z.1, z.2.2)) (fun _ _ _ _ => rfl), List.map_map]
              rfl
            rw [m1]
            rw [m2] at h
            obtain ⟨E, R, r⟩ := rst.newL hq0 (rvs_map (zs := zs.mergeSort (PySem.W.dataLe false (·.2.2))) fun z hz => (e4 z (List.mem_mergeSort.mp hz)).1)
            exact h _ _ E R _ r
        · cases hb
      · exact h.elim
    · exact h.elim
  · exact h.elim
theorem me_sorted {k : Nat} {p : Pos} (hr : Room (k + 1) X.A) (hm : X.mg "sorted" = none) (ha : MA X G (e :: es) sr) (hg : Gl X "sorted" := by rfl) (he : starEach (e :: es) X.env = (false, eval e X.env) :: starEach es X.env := by rfl) (hpl : (backTo pos (starEach es X.env)).any (·.1) = false := by rfl) :
    ME X G (.Call (.Name "sorted" p) (e :: es) [] pos) (sCall fSorted sr) := me_callB (cr_sortG (room65 hr)) rc_sortG hm (by decide +kernel) ha hg (by decide) (by decide) he hpl
/-- x or y, of a list -/
def sOrL (s t : SE) : SE := fun env S => (s env S).bind fun d S1 => match d with
  | .ref n => match lstOf S1 n with
    | some [] => t env S1
    | some (_ :: _) => .ok d S1
    | none => .bad
  | _ => .bad
theorem me_orL {rest : List Expr} (ha : ME X G a sa) (hb : ME X G (.BoolOp .Or (b :: rest) pos) sb) : ME X G (.BoolOp .Or (a :: b :: rest) pos) (sOrL sa sb) := fun ok =>
  pe_imp (pe_orT (ha ok) (hb ok)) fun σ H Q h => by
    obtain ⟨p, env, S, rs, rst, g⟩ := h
    refine one rs rst g fun H1 p1 S1 d x _ rs1 r1 rx g1 => ?_
    split at g1
    · rename_i n
      split at g1
      · rename_i hl
        obtain ⟨q, xs, rfl, h1, h2⟩ := r1.list hl rx
        have : xs = [] := RVs.nil_iff.mp h2
        subst this
        exact ⟨false, .inl ⟨[], h1, rfl⟩, ⟨p1, env, S1, rs1, r1, g1⟩⟩
      · rename_i y l hl
        obtain ⟨q, xs, rfl, h1, h2⟩ := r1.list hl rx
        obtain ⟨v, r, rfl, _, _⟩ := RVs.cons_iff.mp h2
        exact ⟨true, .inl ⟨_, h1, rfl⟩, g1 H1 p1 .refl r1 _ rx⟩
      · exact g1.elim
    · exact g1.elim
end
end Rg
/-! RgM: the shallow functions of all laws, printed by gen.py. -/
namespace Rg
open PySem L2
noncomputable def m_is_whole : Mf := mkDef 1 1 (sRet (sAndV (s1 (fIsi .int) (sVar 0)) (s1 fNot (s1 (fIsi .bl) (sVar 0)))))
noncomputable def m_divisor : Mf := mkDef 2 2 (sSeq (sSet 0 (sCall fAbs (sCons (sVar 0) (sNil)))) (sSeq (sWhile (sT (s2 fGt (sVar 0) (sC (.int (0))))) (sPar 0 1 (sCons (s2 fMod (sVar 1) (sVar 0)) (sCons (sVar 0) (sNil))))) (sRet (sVar 1))))
noncomputable def m_is_ratio : Mf := mkDef 1 1 (sSeq (sIfS (sOr (sNot (sT (s1 (fIsi .tup) (sVar 0)))) (sT (s2 fNe (sCall fLen (sCons (sVar 0) (sNil))) (sC (.int (2)))))) (sRet (sC (.bl false))) (sSkip)) (sSeq (sIfS (sOr (sNot (sT (sCall m_is_whole (sCons (s2 fIx (sVar 0) (sC (.int (0)))) (sNil))))) (sOr (sNot (sT (sCall m_is_whole (sCons (s2 fIx (sVar 0) (sC (.int (1)))) (sNil))))) (sT (s2 fLt (s2 fIx (sVar 0) (sC (.int (1)))) (sC (.int (1))))))) (sRet (sC (.bl false))) (sSkip)) (sRet (s2 fEq (sCall m_divisor (sCons (s2 fIx (sVar 0) (sC (.int (0)))) (sCons (s2 fIx (sVar 0) (sC (.int (1)))) (sNil)))) (sC (.int (1)))))))
noncomputable def m_ratio : Mf := mkDef 3 2 (sSeq (sIfS (sOr (sNot (sT (sCall m_is_whole (sCons (sVar 0) (sNil))))) (sOr (sNot (sT (sCall m_is_whole (sCons (sVar 1) (sNil))))) (sT (s2 fEq (sVar 1) (sC (.int (0))))))) (sNever) (sSkip)) (sSeq (sIfS (sT (s2 fLt (sVar 1) (sC (.int (0))))) (sPar 0 1 (sCons (s2 fSub (sC (.int (0))) (sVar 0)) (sCons (s2 fSub (sC (.int (0))) (sVar 1)) (sNil)))) (sSkip)) (sSeq (sSet 2 (sCall m_divisor (sCons (sVar 0) (sCons (sVar 1) (sNil))))) (sRet (sTup (sCons (s2 fDiv (sVar 0) (sVar 2)) (sCons (s2 fDiv (sVar 1) (sVar 2)) (sNil))))))))
noncomputable def m_l_pool : Mf := mkDef 1 1 (sRet (sLst (sCons (sCall fMax2 (sCons (sC (.int (0))) (sCons (s2 fSub (sVar 0) (s2 fPow (sC (.int (10))) (sC (.int (18))))) (sNil)))) (sCons (s2 fMod (sVar 0) (s2 fPow (sC (.int (10))) (sC (.int (18))))) (sCons (sC (.int (0))) (sNil))))))
noncomputable def m_l_next : Mf := mkDef 5 2 (sSeq (sIfS (sT (s2 fGt (s2 fIx (sVar 0) (sC (.int (0)))) (sC (.int (0))))) (sSeq (sSet 2 (s2 fMod (s2 fIx (sVar 0) (sC (.int (0)))) (sVar 1))) (sSeq (sSetIx (s2 fDiv (s2 fIx (sVar 0) (sC (.int (0)))) (sVar 1)) (sVar 0) (sC (.int (0)))) (sRet (sVar 2)))) (sSkip)) (sSeq (sSetIx (s2 fPlus (s2 fIx (sVar 0) (sC (.int (2)))) (sC (.int (1)))) (sVar 0) (sC (.int (2)))) (sSeq (sSet 3 (s2 fMod (s2 fPlus (s2 fIx (sVar 0) (sC (.int (1)))) (s2 fMul (sC (.int (7919))) (s2 fIx (sVar 0) (sC (.int (2)))))) (sC (.int (1000000007))))) (sSeq (sSet 4 (s2 fMod (s2 fMul (s2 fPlus (sVar 3) (sC (.int (11)))) (s2 fPlus (sVar 3) (sC (.int (48271))))) (sC (.int (998244353))))) (sRet (s2 fMod (s2 fDiv (s2 fMod (s2 fMul (sVar 4) (sVar 4)) (sC (.int (2147483647)))) (sC (.int (8)))) (sVar 1)))))))
noncomputable def m_l_wide : Mf := mkDef 4 2 (sSeq (sIfS (sOr (sT (s2 fGt (s2 fIx (sVar 0) (sC (.int (0)))) (sC (.int (0))))) (sT (s2 fLt (sVar 1) (s2 fPow (sC (.int (10))) (sC (.int (6))))))) (sRet (sCall m_l_next (sCons (sVar 0) (sCons (sVar 1) (sNil))))) (sSkip)) (sSeq (sSet 2 (sC (.int (0)))) (sSeq (sFor (sRng fRng1 (sCons (s2 fPlus (sC (.int (3))) (s2 fDiv (s1 fBits (sVar 1)) (sC (.int (20))))) (sNil))) (gN 3) (sSet 2 (s2 fPlus (s2 fMul (sVar 2) (sC (.int (1000003)))) (sCall m_l_next (sCons (sVar 0) (sCons (sC (.int (1000003))) (sNil))))))) (sRet (s2 fMod (sVar 2) (sVar 1))))))
noncomputable def m_l_low : Mf := mkDef 4 2 (sSeq (sPar 2 3 (sCons (sCall fAbs (sCons (sVar 0) (sNil))) (sCons (sCall fAbs (sCons (sVar 1) (sNil))) (sNil)))) (sSeq (sWhile (sT (s2 fGt (sVar 3) (sC (.int (0))))) (sPar 2 3 (sCons (sVar 3) (sCons (s2 fMod (sVar 2) (sVar 3)) (sNil))))) (sSeq (sIfS (sT (s2 fLt (sVar 1) (sC (.int (0))))) (sSet 2 (s2 fSub (sC (.int (0))) (sVar 2))) (sSkip)) (sRet (sTup (sCons (s2 fDiv (sVar 0) (sVar 2)) (sCons (s2 fDiv (sVar 1) (sVar 2)) (sNil))))))))
noncomputable def m_l_whole : Mf := mkDef 1 1 (sRet (sAndV (s1 (fIsi .int) (sVar 0)) (s1 fNot (s1 (fIsi .bl) (sVar 0)))))
noncomputable def m_l_plain : Mf := mkDef 2 2 (sRet (sAndV (s1 (fIsi .tup) (sVar 0)) (sAndV (s2 fEq (sVar 0) (sVar 1)) (sAndV (sCall m_l_whole (sCons (s2 fIx (sVar 0) (sC (.int (0)))) (sNil))) (sCall m_l_whole (sCons (s2 fIx (sVar 0) (sC (.int (1)))) (sNil)))))))
noncomputable def m_plus : Mf := mkDef 2 2 (sRet (sCall m_ratio (sCons (s2 fPlus (s2 fMul (s2 fIx (sVar 0) (sC (.int (0)))) (s2 fIx (sVar 1) (sC (.int (1))))) (s2 fMul (s2 fIx (sVar 1) (sC (.int (0)))) (s2 fIx (sVar 0) (sC (.int (1)))))) (sCons (s2 fMul (s2 fIx (sVar 0) (sC (.int (1)))) (s2 fIx (sVar 1) (sC (.int (1))))) (sNil)))))
noncomputable def m_minus : Mf := mkDef 2 2 (sRet (sCall m_ratio (sCons (s2 fSub (s2 fMul (s2 fIx (sVar 0) (sC (.int (0)))) (s2 fIx (sVar 1) (sC (.int (1))))) (s2 fMul (s2 fIx (sVar 1) (sC (.int (0)))) (s2 fIx (sVar 0) (sC (.int (1)))))) (sCons (s2 fMul (s2 fIx (sVar 0) (sC (.int (1)))) (s2 fIx (sVar 1) (sC (.int (1))))) (sNil)))))
noncomputable def m_times : Mf := mkDef 2 2 (sRet (sCall m_ratio (sCons (s2 fMul (s2 fIx (sVar 0) (sC (.int (0)))) (s2 fIx (sVar 1) (sC (.int (0))))) (sCons (s2 fMul (s2 fIx (sVar 0) (sC (.int (1)))) (s2 fIx (sVar 1) (sC (.int (1))))) (sNil)))))
noncomputable def m_over : Mf := mkDef 2 2 (sRet (sCall m_ratio (sCons (s2 fMul (s2 fIx (sVar 0) (sC (.int (0)))) (s2 fIx (sVar 1) (sC (.int (1))))) (sCons (s2 fMul (s2 fIx (sVar 0) (sC (.int (1)))) (s2 fIx (sVar 1) (sC (.int (0))))) (sNil)))))
noncomputable def m_less : Mf := mkDef 2 2 (sRet (s2 fLt (s2 fMul (s2 fIx (sVar 0) (sC (.int (0)))) (s2 fIx (sVar 1) (sC (.int (1))))) (s2 fMul (s2 fIx (sVar 1) (sC (.int (0)))) (s2 fIx (sVar 0) (sC (.int (1)))))))
noncomputable def m_l_sum : Mf := mkDef 2 2 (sRet (sCall m_l_low (sCons (s2 fPlus (s2 fMul (s2 fIx (sVar 0) (sC (.int (0)))) (s2 fIx (sVar 1) (sC (.int (1))))) (s2 fMul (s2 fIx (sVar 1) (sC (.int (0)))) (s2 fIx (sVar 0) (sC (.int (1)))))) (sCons (s2 fMul (s2 fIx (sVar 0) (sC (.int (1)))) (s2 fIx (sVar 1) (sC (.int (1))))) (sNil)))))
noncomputable def m_l_taken : Mf := mkDef 2 2 (sRet (sCall m_l_low (sCons (s2 fMul (s2 fIx (sVar 0) (sC (.int (0)))) (s2 fIx (sVar 1) (sC (.int (0))))) (sCons (s2 fMul (s2 fIx (sVar 0) (sC (.int (1)))) (s2 fIx (sVar 1) (sC (.int (1))))) (sNil)))))
noncomputable def m_l_back : Mf := mkDef 1 1 (sRet (sTup (sCons (s2 fSub (sC (.int (0))) (s2 fIx (sVar 0) (sC (.int (0))))) (sCons (s2 fIx (sVar 0) (sC (.int (1)))) (sNil)))))
noncomputable def m_l_below : Mf := mkDef 2 2 (sRet (s2 fLt (s2 fMul (s2 fIx (sVar 0) (sC (.int (0)))) (s2 fIx (sVar 1) (sC (.int (1))))) (s2 fMul (s2 fIx (sVar 1) (sC (.int (0)))) (s2 fIx (sVar 0) (sC (.int (1)))))))
noncomputable def m_l_number : Mf := mkDef 3 1 (sSeq (sSet 1 (sCall m_l_next (sCons (sVar 0) (sCons (sC (.int (8))) (sNil))))) (sSeq (sIfS (sT (s2 fLt (sVar 1) (sC (.int (5))))) (sRet (sCall m_l_low (sCons (s2 fSub (sCall m_l_next (sCons (sVar 0) (sCons (sC (.int (13))) (sNil)))) (sC (.int (6)))) (sCons (s2 fIx (sLst (sCons (sC (.int (1))) (sCons (sC (.int (1))) (sCons (sC (.int (1))) (sCons (sC (.int (2))) (sCons (sC (.int (3))) (sCons (sC (.int (4))) (sNil)))))))) (sCall m_l_next (sCons (sVar 0) (sCons (sC (.int (6))) (sNil))))) (sNil))))) (sSkip)) (sSeq (sIfS (sT (s2 fEq (sVar 1) (sC (.int (5))))) (sRet (sCall m_l_low (sCons (s2 fSub (sCall m_l_next (sCons (sVar 0) (sCons (sC (.int (81))) (sNil)))) (sC (.int (40)))) (sCons (s2 fPlus (sC (.int (1))) (sCall m_l_next (sCons (sVar 0) (sCons (sC (.int (30))) (sNil))))) (sNil))))) (sSkip)) (sSeq (sIfS (sT (s2 fEq (sVar 1) (sC (.int (6))))) (sSeq (sSet 2 (s2 fSub (s2 fPow (sC (.int (10))) (sC (.int (12)))) (sC (.int (1))))) (sRet (sCall m_l_low (sCons (s2 fSub (sCall m_l_wide (sCons (sVar 0) (sCons (s2 fPlus (s2 fMul (sC (.int (2))) (sVar 2)) (sC (.int (1)))) (sNil)))) (sVar 2)) (sCons (s2 fPlus (sC (.int (1))) (sCall m_l_wide (sCons (sVar 0) (sCons (sVar 2) (sNil))))) (sNil)))))) (sSkip)) (sRet (sTup (sCons (sC (.int (0))) (sCons (sC (.int (1))) (sNil)))))))))
noncomputable def m_whole_root : Mf := mkDef 4 1 (sSeq (sPar 1 2 (sCons (sC (.int (0))) (sCons (s2 fPlus (sVar 0) (sC (.int (1)))) (sNil)))) (sSeq (sWhile (sT (s2 fGt (s2 fSub (sVar 2) (sVar 1)) (sC (.int (1))))) (sSeq (sSet 3 (s2 fDiv (s2 fPlus (sVar 1) (sVar 2)) (sC (.int (2))))) (sIfS (sT (s2 fLe (s2 fMul (sVar 3) (sVar 3)) (sVar 0))) (sSet 1 (sVar 3)) (sSet 2 (sVar 3))))) (sRet (sVar 1))))
noncomputable def m_root : Mf := mkDef 3 1 (sSeq (sIfS (sT (s2 fLt (s2 fIx (sVar 0) (sC (.int (0)))) (sC (.int (0))))) (sRet (sC (.non))) (sSkip)) (sSeq (sPar 1 2 (sCons (sCall m_whole_root (sCons (s2 fIx (sVar 0) (sC (.int (0)))) (sNil))) (sCons (sCall m_whole_root (sCons (s2 fIx (sVar 0) (sC (.int (1)))) (sNil))) (sNil)))) (sSeq (sIfS (sOr (sT (s2 fNe (s2 fMul (sVar 1) (sVar 1)) (s2 fIx (sVar 0) (sC (.int (0)))))) (sT (s2 fNe (s2 fMul (sVar 2) (sVar 2)) (s2 fIx (sVar 0) (sC (.int (1))))))) (sRet (sC (.non))) (sSkip)) (sRet (sTup (sCons (sVar 1) (sCons (sVar 2) (sNil))))))))
noncomputable def m_l_of_squares : Mf := mkDef 5 1 (sSeq (sSet 1 (sC (.int (0)))) (sSeq (sSet 2 (s2 fPlus (sVar 0) (sC (.int (1))))) (sSeq (sFor (sRng fRng1 (sCons (s2 fPlus (s1 fBits (sVar 0)) (sC (.int (1)))) (sNil))) (gN 3) (sSeq (sSet 4 (s2 fDiv (s2 fPlus (sVar 1) (sVar 2)) (sC (.int (2))))) (sIfS (sT (s2 fLe (s2 fMul (sVar 4) (sVar 4)) (sVar 0))) (sSet 1 (sVar 4)) (sSet 2 (sVar 4))))) (sRet (s2 fIx (sLst (sCons (s1 fNeg (sC (.int (1)))) (sCons (sVar 1) (sNil)))) (sCall fInt (sCons (s2 fEq (s2 fMul (sVar 1) (sVar 1)) (sVar 0)) (sNil))))))))
noncomputable def m_is_ray : Mf := mkDef 1 1 (sRet (sAndV (s1 (fIsi .tup) (sVar 0)) (sAndV (s2 fEq (sCall fLen (sCons (sVar 0) (sNil))) (sC (.int (2)))) (sAndV (sCall m_is_ratio (sCons (s2 fIx (sVar 0) (sC (.int (0)))) (sNil))) (sCall m_is_ratio (sCons (s2 fIx (sVar 0) (sC (.int (1)))) (sNil)))))))
noncomputable def m_is_table : Mf := mkDef 6 1 (sSeq (sIfS (sOr (sNot (sT (s1 (fIsi .tup) (sVar 0)))) (sOr (sT (s2 fNe (sCall fLen (sCons (sVar 0) (sNil))) (sC (.int (4))))) (sNot (sT (sCall fAll (sCons (sComp (sIter (sVar 0)) (gN 5) (sYes) (sCall m_is_ratio (sCons (sVar 5) (sNil))) [5]) (sNil))))))) (sRet (sC (.bl false))) (sSkip)) (sSeq (sAsg (sVar 0) (gT 4 (gsCons (gN 1) (gsCons (gN 2) (gsCons (gN 3) (gsCons (gN 4) (gsNil))))))) (sRet (s2 fEq (sCall m_minus (sCons (sCall m_times (sCons (sVar 1) (sCons (sVar 4) (sNil)))) (sCons (sCall m_times (sCons (sVar 2) (sCons (sVar 3) (sNil)))) (sNil)))) (sC (.tup [.int (1), .int (1)]))))))
noncomputable def m_l_ray : Mf := mkDef 1 1 (sRet (sTup (sCons (sCall m_l_number (sCons (sVar 0) (sNil))) (sCons (sCall m_l_number (sCons (sVar 0) (sNil))) (sNil)))))
noncomputable def m_l_led : Mf := mkDef 8 2 (sSeq (sAsg (sVar 0) (gT 4 (gsCons (gN 2) (gsCons (gN 3) (gsCons (gN 4) (gsCons (gN 5) (gsNil))))))) (sSeq (sAsg (sVar 1) (gT 2 (gsCons (gN 6) (gsCons (gN 7) (gsNil))))) (sRet (sTup (sCons (sCall m_l_sum (sCons (sCall m_l_taken (sCons (sVar 2) (sCons (sVar 6) (sNil)))) (sCons (sCall m_l_taken (sCons (sVar 3) (sCons (sVar 7) (sNil)))) (sNil)))) (sCons (sCall m_l_sum (sCons (sCall m_l_taken (sCons (sVar 4) (sCons (sVar 6) (sNil)))) (sCons (sCall m_l_taken (sCons (sVar 5) (sCons (sVar 7) (sNil)))) (sNil)))) (sNil)))))))
noncomputable def m_l_then : Mf := mkDef 3 2 (sSeq (sSet 2 (sLst (sCons (sCall m_l_led (sCons (sVar 1) (sCons (sTup (sCons (s2 fIx (sVar 0) (sC (.int (0)))) (sCons (s2 fIx (sVar 0) (sC (.int (2)))) (sNil)))) (sNil)))) (sCons (sCall m_l_led (sCons (sVar 1) (sCons (sTup (sCons (s2 fIx (sVar 0) (sC (.int (1)))) (sCons (s2 fIx (sVar 0) (sC (.int (3)))) (sNil)))) (sNil)))) (sNil))))) (sRet (sTup (sCons (s2 fIx (s2 fIx (sVar 2) (sC (.int (0)))) (sC (.int (0)))) (sCons (s2 fIx (s2 fIx (sVar 2) (sC (.int (1)))) (sC (.int (0)))) (sCons (s2 fIx (s2 fIx (sVar 2) (sC (.int (0)))) (sC (.int (1)))) (sCons (s2 fIx (s2 fIx (sVar 2) (sC (.int (1)))) (sC (.int (1)))) (sNil))))))))
noncomputable def m_l_table : Mf := mkDef 7 1 (sSeq (sSet 1 (sTup (sCons (sTup (sCons (sC (.int (1))) (sCons (sC (.int (1))) (sNil)))) (sCons (sTup (sCons (sC (.int (0))) (sCons (sC (.int (1))) (sNil)))) (sCons (sTup (sCons (sC (.int (0))) (sCons (sC (.int (1))) (sNil)))) (sCons (sTup (sCons (sC (.int (1))) (sCons (sC (.int (1))) (sNil)))) (sNil))))))) (sSeq (sFor (sRng fRng1 (sCons (sCall m_l_next (sCons (sVar 0) (sCons (sC (.int (5))) (sNil)))) (sNil))) (gN 2) (sSeq (sSet 3 (sCall m_l_number (sCons (sVar 0) (sNil)))) (sSeq (sSet 4 (sTup (sCons (sTup (sCons (sC (.int (1))) (sCons (sC (.int (1))) (sNil)))) (sCons (sTup (sCons (sC (.int (0))) (sCons (sC (.int (1))) (sNil)))) (sCons (sVar 3) (sCons (sTup (sCons (sC (.int (1))) (sCons (sC (.int (1))) (sNil)))) (sNil))))))) (sSeq (sIfS (sT (s2 fEq (sCall m_l_next (sCons (sVar 0) (sCons (sC (.int (2))) (sNil)))) (sC (.int (0))))) (sSet 4 (sTup (sCons (sTup (sCons (sC (.int (1))) (sCons (sC (.int (1))) (sNil)))) (sCons (sVar 3) (sCons (sTup (sCons (sC (.int (0))) (sCons (sC (.int (1))) (sNil)))) (sCons (sTup (sCons (sC (.int (1))) (sCons (sC (.int (1))) (sNil)))) (sNil))))))) (sSkip)) (sSet 1 (sCall m_l_then (sCons (sVar 1) (sCons (sVar 4) (sNil))))))))) (sSeq (sSet 5 (sCall m_l_next (sCons (sVar 0) (sCons (sC (.int (8))) (sNil))))) (sSeq (sSet 3 (sCall m_l_low (sCons (s2 fPlus (sC (.int (1))) (sCall m_l_next (sCons (sVar 0) (sCons (sC (.int (9))) (sNil))))) (sCons (s2 fPlus (sC (.int (1))) (sCall m_l_next (sCons (sVar 0) (sCons (sC (.int (9))) (sNil))))) (sNil))))) (sSeq (sIfS (sT (s2 fEq (sVar 5) (sC (.int (0))))) (sSet 1 (sCall m_l_then (sCons (sVar 1) (sCons (sTup (sCons (sVar 3) (sCons (sTup (sCons (sC (.int (0))) (sCons (sC (.int (1))) (sNil)))) (sCons (sTup (sCons (sC (.int (0))) (sCons (sC (.int (1))) (sNil)))) (sCons (sTup (sCons (s2 fIx (sVar 3) (sC (.int (1)))) (sCons (s2 fIx (sVar 3) (sC (.int (0)))) (sNil)))) (sNil)))))) (sNil))))) (sSkip)) (sSeq (sIfS (sT (s2 fEq (sVar 5) (sC (.int (1))))) (sSet 1 (sCall fTuple (sCons (sComp (sIter (sVar 1)) (gN 6) (sYes) (sCall m_l_back (sCons (sVar 6) (sNil))) [6]) (sNil)))) (sSkip)) (sRet (sVar 1))))))))
noncomputable def m_negative : Mf := mkDef 1 1 (sRet (sTup (sCons (s2 fSub (sC (.int (0))) (s2 fIx (sVar 0) (sC (.int (0))))) (sCons (s2 fIx (sVar 0) (sC (.int (1)))) (sNil)))))
noncomputable def m_summed : Mf := mkDef 3 3 (sRet (sCall m_plus (sCons (sCall m_times (sCons (sVar 0) (sCons (s2 fIx (sVar 2) (sC (.int (0)))) (sNil)))) (sCons (sCall m_times (sCons (sVar 1) (sCons (s2 fIx (sVar 2) (sC (.int (1)))) (sNil)))) (sNil)))))
noncomputable def m_led : Mf := mkDef 6 2 (sSeq (sAsg (sVar 0) (gT 4 (gsCons (gN 2) (gsCons (gN 3) (gsCons (gN 4) (gsCons (gN 5) (gsNil))))))) (sRet (sTup (sCons (sCall m_summed (sCons (sVar 2) (sCons (sVar 3) (sCons (sVar 1) (sNil))))) (sCons (sCall m_summed (sCons (sVar 4) (sCons (sVar 5) (sCons (sVar 1) (sNil))))) (sNil))))))
noncomputable def m_behind : Mf := mkDef 4 2 (sSeq (sSet 2 (sCall m_led (sCons (sVar 1) (sCons (sTup (sCons (s2 fIx (sVar 0) (sC (.int (0)))) (sCons (s2 fIx (sVar 0) (sC (.int (2)))) (sNil)))) (sNil))))) (sSeq (sSet 3 (sCall m_led (sCons (sVar 1) (sCons (sTup (sCons (s2 fIx (sVar 0) (sC (.int (1)))) (sCons (s2 fIx (sVar 0) (sC (.int (3)))) (sNil)))) (sNil))))) (sRet (sTup (sCons (s2 fIx (sVar 2) (sC (.int (0)))) (sCons (s2 fIx (sVar 3) (sC (.int (0)))) (sCons (s2 fIx (sVar 2) (sC (.int (1)))) (sCons (s2 fIx (sVar 3) (sC (.int (1)))) (sNil)))))))))
noncomputable def m_undone : Mf := mkDef 5 1 (sSeq (sAsg (sVar 0) (gT 4 (gsCons (gN 1) (gsCons (gN 2) (gsCons (gN 3) (gsCons (gN 4) (gsNil))))))) (sRet (sTup (sCons (sVar 4) (sCons (sCall m_negative (sCons (sVar 2) (sNil))) (sCons (sCall m_negative (sCons (sVar 3) (sNil))) (sCons (sVar 1) (sNil))))))))
noncomputable def m_turned : Mf := mkDef 5 1 (sSeq (sAsg (sVar 0) (gT 4 (gsCons (gN 1) (gsCons (gN 2) (gsCons (gN 3) (gsCons (gN 4) (gsNil))))))) (sRet (sTup (sCons (sVar 4) (sCons (sVar 2) (sCons (sVar 3) (sCons (sVar 1) (sNil))))))))
noncomputable def m_cross : Mf := mkDef 2 2 (sRet (sCall m_minus (sCons (sCall m_times (sCons (s2 fIx (sVar 0) (sC (.int (0)))) (sCons (s2 fIx (sVar 1) (sC (.int (1)))) (sNil)))) (sCons (sCall m_times (sCons (s2 fIx (sVar 0) (sC (.int (1)))) (sCons (s2 fIx (sVar 1) (sC (.int (0)))) (sNil)))) (sNil)))))
noncomputable def m_power : Mf := mkDef 4 2 (sSeq (sSet 2 (sC (.tup [.tup [.int (1), .int (1)], .tup [.int (0), .int (1)], .tup [.int (0), .int (1)], .tup [.int (1), .int (1)]]))) (sSeq (sFor (sRng fRng1 (sCons (sVar 1) (sNil))) (gN 3) (sSet 2 (sCall m_behind (sCons (sVar 2) (sCons (sVar 0) (sNil)))))) (sRet (sVar 2))))
noncomputable def m_l_less : Mf := mkDef 2 2 (sRet (sCall m_l_sum (sCons (sVar 0) (sCons (sCall m_l_back (sCons (sVar 1) (sNil))) (sNil)))))
noncomputable def m_is_number_for : Mf := mkDef 2 2 (sSeq (sIfS (sT (s2 fEq (sVar 0) (sC (.str ("gap" : Str))))) (sRet (s1 fNot (sCall m_less (sCons (sVar 1) (sCons (sC (.tup [.int (0), .int (1)])) (sNil)))))) (sSkip)) (sSeq (sIfS (sT (s2 fEq (sVar 0) (sC (.str ("stop" : Str))))) (sRet (sCall m_less (sCons (sC (.tup [.int (0), .int (1)])) (sCons (sVar 1) (sNil))))) (sSkip)) (sRet (s2 fEq (sVar 0) (sC (.str ("glass" : Str)))))))
noncomputable def m_is_part : Mf := mkDef 1 1 (sSeq (sIfS (sOr (sNot (sT (s1 (fIsi .tup) (sVar 0)))) (sT (s2 fNe (sCall fLen (sCons (sVar 0) (sNil))) (sC (.int (2)))))) (sRet (sC (.bl false))) (sSkip)) (sRet (sAndV (s1 (fIsi .str) (s2 fIx (sVar 0) (sC (.int (0))))) (sAndV (sCall m_is_ratio (sCons (s2 fIx (sVar 0) (sC (.int (1)))) (sNil))) (sCall m_is_number_for (sCons (s2 fIx (sVar 0) (sC (.int (0)))) (sCons (s2 fIx (sVar 0) (sC (.int (1)))) (sNil))))))))
noncomputable def m_l_draw : Mf := mkDef 4 2 (sSeq (sIfS (sT (s2 fGt (s2 fIx (sVar 0) (sC (.int (0)))) (sC (.int (0))))) (sSeq (sSet 2 (s2 fMod (s2 fIx (sVar 0) (sC (.int (0)))) (sVar 1))) (sSeq (sSetIx (s2 fDiv (s2 fIx (sVar 0) (sC (.int (0)))) (sVar 1)) (sVar 0) (sC (.int (0)))) (sRet (sVar 2)))) (sSkip)) (sSeq (sSetIx (s2 fPlus (s2 fIx (sVar 0) (sC (.int (2)))) (sC (.int (1)))) (sVar 0) (sC (.int (2)))) (sSeq (sSet 3 (s2 fMod (s2 fPlus (s2 fIx (sVar 0) (sC (.int (1)))) (s2 fMul (sC (.int (7919))) (s2 fIx (sVar 0) (sC (.int (2)))))) (sC (.int (1000000007))))) (sSeq (sSet 3 (s2 fMod (s2 fMul (s2 fPlus (sVar 3) (sC (.int (11)))) (s2 fPlus (sVar 3) (sC (.int (48271))))) (sC (.int (998244353))))) (sRet (s2 fMod (s2 fDiv (s2 fMod (s2 fMul (sVar 3) (sVar 3)) (sC (.int (2147483647)))) (sC (.int (8)))) (sVar 1)))))))
noncomputable def m_l_pick : Mf := mkDef 2 2 (sRet (s2 fIx (sVar 1) (sCall m_l_draw (sCons (sVar 0) (sCons (sCall fLen (sCons (sVar 1) (sNil))) (sNil))))))
noncomputable def m_l_ratio : Mf := mkDef 4 2 (sSeq (sSet 2 (sCall fAbs (sCons (sVar 0) (sNil)))) (sSeq (sSet 3 (sCall fAbs (sCons (sVar 1) (sNil)))) (sSeq (sWhile (sT (s2 fGt (sVar 3) (sC (.int (0))))) (sPar 2 3 (sCons (sVar 3) (sCons (s2 fMod (sVar 2) (sVar 3)) (sNil))))) (sSeq (sSet 2 (s2 fMul (sVar 2) (s2 fSub (sC (.int (1))) (s2 fMul (sC (.int (2))) (sCall fInt (sCons (s2 fLt (sVar 1) (sC (.int (0)))) (sNil))))))) (sRet (sTup (sCons (s2 fDiv (sVar 0) (sVar 2)) (sCons (s2 fDiv (sVar 1) (sVar 2)) (sNil)))))))))
noncomputable def m_l_plus : Mf := mkDef 2 2 (sRet (sCall m_l_ratio (sCons (s2 fPlus (s2 fMul (s2 fIx (sVar 0) (sC (.int (0)))) (s2 fIx (sVar 1) (sC (.int (1))))) (s2 fMul (s2 fIx (sVar 1) (sC (.int (0)))) (s2 fIx (sVar 0) (sC (.int (1)))))) (sCons (s2 fMul (s2 fIx (sVar 0) (sC (.int (1)))) (s2 fIx (sVar 1) (sC (.int (1))))) (sNil)))))
noncomputable def m_l_times : Mf := mkDef 2 2 (sRet (sCall m_l_ratio (sCons (s2 fMul (s2 fIx (sVar 0) (sC (.int (0)))) (s2 fIx (sVar 1) (sC (.int (0))))) (sCons (s2 fMul (s2 fIx (sVar 0) (sC (.int (1)))) (s2 fIx (sVar 1) (sC (.int (1))))) (sNil)))))
noncomputable def m_l_less_2 : Mf := mkDef 2 2 (sRet (s2 fLt (s2 fMul (s2 fIx (sVar 0) (sC (.int (0)))) (s2 fIx (sVar 1) (sC (.int (1))))) (s2 fMul (s2 fIx (sVar 1) (sC (.int (0)))) (s2 fIx (sVar 0) (sC (.int (1)))))))
noncomputable def m_l_minus : Mf := mkDef 2 2 (sRet (sCall m_l_plus (sCons (sVar 0) (sCons (sTup (sCons (s1 fNeg (s2 fIx (sVar 1) (sC (.int (0))))) (sCons (s2 fIx (sVar 1) (sC (.int (1)))) (sNil)))) (sNil)))))
noncomputable def m_l_number_2 : Mf := mkDef 2 1 (sSeq (sSet 1 (sCall m_l_draw (sCons (sVar 0) (sCons (sC (.int (8))) (sNil))))) (sSeq (sIfS (sT (s2 fEq (sVar 1) (sC (.int (0))))) (sRet (sTup (sCons (sC (.int (0))) (sCons (sC (.int (1))) (sNil))))) (sSkip)) (sSeq (sIfS (sT (s2 fLt (sVar 1) (sC (.int (4))))) (sRet (sTup (sCons (s2 fSub (sCall m_l_draw (sCons (sVar 0) (sCons (sC (.int (9))) (sNil)))) (sC (.int (4)))) (sCons (sC (.int (1))) (sNil))))) (sSkip)) (sSeq (sIfS (sT (s2 fLt (sVar 1) (sC (.int (7))))) (sRet (sCall m_l_ratio (sCons (s2 fSub (sCall m_l_draw (sCons (sVar 0) (sCons (sC (.int (13))) (sNil)))) (sC (.int (6)))) (sCons (s2 fPlus (sC (.int (1))) (sCall m_l_draw (sCons (sVar 0) (sCons (sC (.int (6))) (sNil))))) (sNil))))) (sSkip)) (sRet (sCall m_l_ratio (sCons (s2 fSub (sCall m_l_draw (sCons (sVar 0) (sCons (s2 fPow (sC (.int (10))) (sC (.int (11)))) (sNil)))) (sCall m_l_draw (sCons (sVar 0) (sCons (s2 fPow (sC (.int (10))) (sC (.int (11)))) (sNil))))) (sCons (s2 fPlus (sC (.int (1))) (sCall m_l_draw (sCons (sVar 0) (sCons (s2 fSub (s2 fPow (sC (.int (10))) (sC (.int (11)))) (sC (.int (1)))) (sNil))))) (sNil)))))))))
noncomputable def m_l_greatest : Mf := mkDef 2 2 (sSeq (sWhile (sT (s2 fGt (sVar 1) (sC (.int (0))))) (sPar 0 1 (sCons (sVar 1) (sCons (s2 fMod (sVar 0) (sVar 1)) (sNil))))) (sRet (sVar 0)))
noncomputable def m_l_is_ratio : Mf := mkDef 2 1 (sSeq (sIfS (sOr (sNot (sT (s1 (fIsi .tup) (sVar 0)))) (sT (s2 fNe (sCall fLen (sCons (sVar 0) (sNil))) (sC (.int (2)))))) (sRet (sC (.bl false))) (sSkip)) (sSeq (sFor (sIter (sVar 0)) (gN 1) (sIfS (sOr (sNot (sT (s1 (fIsi .int) (sVar 1)))) (sT (s1 (fIsi .bl) (sVar 1)))) (sRet (sC (.bl false))) (sSkip))) (sRet (sAndV (s2 fGt (s2 fIx (sVar 0) (sC (.int (1)))) (sC (.int (0)))) (s2 fEq (sCall m_l_greatest (sCons (sCall fAbs (sCons (s2 fIx (sVar 0) (sC (.int (0)))) (sNil))) (sCons (s2 fIx (sVar 0) (sC (.int (1)))) (sNil)))) (sC (.int (1))))))))
noncomputable def m_part_table : Mf := mkDef 3 1 (sSeq (sAsg (sVar 0) (gT 2 (gsCons (gN 1) (gsCons (gN 2) (gsNil))))) (sSeq (sIfS (sT (s2 fEq (sVar 1) (sC (.str ("gap" : Str))))) (sRet (sTup (sCons (sC (.tup [.int (1), .int (1)])) (sCons (sVar 2) (sCons (sC (.tup [.int (0), .int (1)])) (sCons (sC (.tup [.int (1), .int (1)])) (sNil))))))) (sSkip)) (sSeq (sIfS (sT (s2 fEq (sVar 1) (sC (.str ("glass" : Str))))) (sRet (sTup (sCons (sC (.tup [.int (1), .int (1)])) (sCons (sC (.tup [.int (0), .int (1)])) (sCons (sCall m_minus (sCons (sC (.tup [.int (0), .int (1)])) (sCons (sVar 2) (sNil)))) (sCons (sC (.tup [.int (1), .int (1)])) (sNil))))))) (sSkip)) (sRet (sC (.tup [.tup [.int (1), .int (1)], .tup [.int (0), .int (1)], .tup [.int (0), .int (1)], .tup [.int (1), .int (1)]]))))))
noncomputable def m_table_of : Mf := mkDef 3 1 (sSeq (sSet 1 (sC (.tup [.tup [.int (1), .int (1)], .tup [.int (0), .int (1)], .tup [.int (0), .int (1)], .tup [.int (1), .int (1)]]))) (sSeq (sFor (sIter (sVar 0)) (gN 2) (sSet 1 (sCall m_behind (sCons (sVar 1) (sCons (sCall m_part_table (sCons (sVar 2) (sNil))) (sNil)))))) (sRet (sVar 1))))
noncomputable def m_l_part : Mf := mkDef 4 1 (sSeq (sSet 1 (sCall m_l_pick (sCons (sVar 0) (sCons (sLst (sCons (sC (.str ("gap" : Str))) (sCons (sC (.str ("gap" : Str))) (sCons (sC (.str ("glass" : Str))) (sCons (sC (.str ("glass" : Str))) (sCons (sC (.str ("stop" : Str))) (sNil))))))) (sNil))))) (sSeq (sAsg (sCall m_l_number_2 (sCons (sVar 0) (sNil))) (gT 2 (gsCons (gN 2) (gsCons (gN 3) (gsNil))))) (sSeq (sIfS (sT (s2 fEq (sVar 1) (sC (.str ("gap" : Str))))) (sRet (sTup (sCons (sVar 1) (sCons (sTup (sCons (sCall fAbs (sCons (sVar 2) (sNil))) (sCons (sVar 3) (sNil)))) (sNil))))) (sSkip)) (sSeq (sIfS (sT (s2 fEq (sVar 1) (sC (.str ("stop" : Str))))) (sRet (sTup (sCons (sVar 1) (sCons (s2 fIx (sLst (sCons (sTup (sCons (sCall fAbs (sCons (sVar 2) (sNil))) (sCons (sVar 3) (sNil)))) (sCons (sTup (sCons (sC (.int (1))) (sCons (sC (.int (1))) (sNil)))) (sNil)))) (sCall fInt (sCons (s2 fEq (sVar 2) (sC (.int (0)))) (sNil)))) (sNil))))) (sSkip)) (sRet (sTup (sCons (sVar 1) (sCons (sTup (sCons (sVar 2) (sCons (sVar 3) (sNil)))) (sNil)))))))))
noncomputable def m_l_bench : Mf := mkDef 2 1 (sRet (sComp (sRng fRng1 (sCons (sCall m_l_pick (sCons (sVar 0) (sCons (sLst (sCons (sC (.int (0))) (sCons (sC (.int (1))) (sCons (sC (.int (2))) (sCons (sC (.int (3))) (sCons (sC (.int (4))) (sCons (sC (.int (5))) (sCons (sC (.int (8))) (sCons (sC (.int (12))) (sNil)))))))))) (sNil)))) (sNil))) (gN 1) (sYes) (sCall m_l_part (sCons (sVar 0) (sNil))) [1]))
noncomputable def m_l_ray_2 : Mf := mkDef 1 1 (sRet (sTup (sCons (sCall m_l_number_2 (sCons (sVar 0) (sNil))) (sCons (sCall m_l_number_2 (sCons (sVar 0) (sNil))) (sNil)))))
noncomputable def m_l_led_2 : Mf := mkDef 4 2 (sSeq (sAsg (sVar 1) (gT 2 (gsCons (gN 2) (gsCons (gN 3) (gsNil))))) (sSeq (sIfS (sT (s2 fEq (s2 fIx (sVar 0) (sC (.int (0)))) (sC (.str ("gap" : Str))))) (sRet (sTup (sCons (sCall m_l_plus (sCons (sVar 2) (sCons (sCall m_l_times (sCons (s2 fIx (sVar 0) (sC (.int (1)))) (sCons (sVar 3) (sNil)))) (sNil)))) (sCons (sVar 3) (sNil))))) (sSkip)) (sSeq (sIfS (sT (s2 fEq (s2 fIx (sVar 0) (sC (.int (0)))) (sC (.str ("glass" : Str))))) (sRet (sTup (sCons (sVar 2) (sCons (sCall m_l_minus (sCons (sVar 3) (sCons (sCall m_l_times (sCons (s2 fIx (sVar 0) (sC (.int (1)))) (sCons (sVar 2) (sNil)))) (sNil)))) (sNil))))) (sSkip)) (sRet (sVar 1)))))
noncomputable def m_l_out : Mf := mkDef 3 2 (sSeq (sFor (sIter (sVar 0)) (gN 2) (sSet 1 (sCall m_l_led_2 (sCons (sVar 2) (sCons (sVar 1) (sNil)))))) (sRet (sVar 1)))
noncomputable def m_l_same_2 : Nat → Mf := Nat.rec (fun _ _ => .bad) (fun _ rec_ => mkDef 4 2 (sSeq (sIfS (sT (s1 (fIsi2 .tup .lst) (sVar 1))) (sSeq (sIfS (sOr (sT (s2 fNe (s1 (fIsi .lst) (sVar 0)) (s1 (fIsi .lst) (sVar 1)))) (sNot (sT (s1 (fIsi2 .tup .lst) (sVar 0))))) (sRet (sC (.bl false))) (sSkip)) (sSeq (sIfS (sT (s2 fNe (sCall fLen (sCons (sVar 0) (sNil))) (sCall fLen (sCons (sVar 1) (sNil))))) (sRet (sC (.bl false))) (sSkip)) (sRet (sCall fAll (sCons (sComp (sRng fZip (sCons (sVar 0) (sCons (sVar 1) (sNil)))) (gT 2 (gsCons (gN 2) (gsCons (gN 3) (gsNil)))) (sYes) (sCall rec_ (sCons (sVar 2) (sCons (sVar 3) (sNil)))) [2, 3]) (sNil)))))) (sSkip)) (sRet (sAndV (s1 fNot (s1 (fIsi .bl) (sVar 0))) (s2 fEq (sVar 0) (sVar 1))))))
theorem m_l_same_2_succ (n : Nat) : m_l_same_2 (n + 1) = mkDef 4 2 (sSeq (sIfS (sT (s1 (fIsi2 .tup .lst) (sVar 1))) (sSeq (sIfS (sOr (sT (s2 fNe (s1 (fIsi .lst) (sVar 0)) (s1 (fIsi .lst) (sVar 1)))) (sNot (sT (s1 (fIsi2 .tup .lst) (sVar 0))))) (sRet (sC (.bl false))) (sSkip)) (sSeq (sIfS (sT (s2 fNe (sCall fLen (sCons (sVar 0) (sNil))) (sCall fLen (sCons (sVar 1) (sNil))))) (sRet (sC (.bl false))) (sSkip)) (sRet (sCall fAll (sCons (sComp (sRng fZip (sCons (sVar 0) (sCons (sVar 1) (sNil)))) (gT 2 (gsCons (gN 2) (gsCons (gN 3) (gsNil)))) (sYes) (sCall (m_l_same_2 n) (sCons (sVar 2) (sCons (sVar 3) (sNil)))) [2, 3]) (sNil)))))) (sSkip)) (sRet (sAndV (s1 fNot (s1 (fIsi .bl) (sVar 0))) (s2 fEq (sVar 0) (sVar 1))))) := rfl
noncomputable def m_turned_bench : Mf := mkDef 1 1 (sRet (s1 fListRev (sVar 0)))
noncomputable def m_way : Mf := mkDef 4 2 (sSeq (sSet 2 (sLst (sCons (sVar 1) (sNil)))) (sSeq (sFor (sIter (sVar 0)) (gN 3) (sDrop (sMethL fAppend (sVar 2) (sCons (sCall m_led (sCons (sCall m_part_table (sCons (sVar 3) (sNil))) (sCons (s2 fIx (sVar 2) (s1 fNeg (sC (.int (1))))) (sNil)))) (sNil))))) (sRet (sVar 2))))
noncomputable def m_l_cross : Mf := mkDef 2 2 (sRet (sCall m_l_minus (sCons (sCall m_l_times (sCons (s2 fIx (sVar 0) (sC (.int (0)))) (sCons (s2 fIx (sVar 1) (sC (.int (1)))) (sNil)))) (sCons (sCall m_l_times (sCons (s2 fIx (sVar 0) (sC (.int (1)))) (sCons (s2 fIx (sVar 1) (sC (.int (0)))) (sNil)))) (sNil)))))
noncomputable def m_is_beyond : Mf := mkDef 2 2 (sRet (sOrV (sCall m_less (sCons (sVar 1) (sCons (sVar 0) (sNil)))) (sCall m_less (sCons (sVar 1) (sCons (sCall m_minus (sCons (sC (.tup [.int (0), .int (1)])) (sCons (sVar 0) (sNil)))) (sNil))))))
noncomputable def m_stopped_by : Mf := mkDef 4 2 (sSeq (sFor (sRng fEnum (sCons (sSl (sCall m_way (sCons (sVar 0) (sCons (sVar 1) (sNil)))) (sNoPart) (sPart (s1 fNeg (sC (.int (1)))))) (sNil))) (gT 2 (gsCons (gN 2) (gsCons (gN 3) (gsNil)))) (sIfS (sAnd (sT (s2 fEq (s2 fIx (s2 fIx (sVar 0) (sVar 2)) (sC (.int (0)))) (sC (.str ("stop" : Str))))) (sT (sCall m_is_beyond (sCons (s2 fIx (sVar 3) (sC (.int (0)))) (sCons (s2 fIx (s2 fIx (sVar 0) (sVar 2)) (sC (.int (1)))) (sNil)))))) (sRet (sVar 2)) (sSkip))) (sRet (sC (.non))))
noncomputable def m_l_near : Mf := mkDef 2 2 (sRet (s2 fIx (sLst (sCons (sVar 0) (sCons (sVar 1) (sNil)))) (sCall fInt (sCons (s2 fGe (sCall fMax2 (sCons (sCall fAbs (sCons (s2 fIx (sVar 0) (sC (.int (0)))) (sNil))) (sCons (s2 fIx (sVar 0) (sC (.int (1)))) (sNil)))) (s2 fPow (sC (.int (10))) (sC (.int (12))))) (sNil)))))
noncomputable def m_l_over_2 : Mf := mkDef 2 2 (sRet (sCall m_l_ratio (sCons (s2 fMul (s2 fIx (sVar 0) (sC (.int (0)))) (s2 fIx (sVar 1) (sC (.int (1))))) (sCons (s2 fMul (s2 fIx (sVar 0) (sC (.int (1)))) (s2 fIx (sVar 1) (sC (.int (0))))) (sNil)))))
noncomputable def m_seen_from : Mf := mkDef 6 2 (sSeq (sAsg (sVar 0) (gT 4 (gsCons (gN 2) (gsCons (gN 3) (gsCons (gN 4) (gsCons (gN 5) (gsNil))))))) (sRet (sTup (sCons (sCall m_plus (sCons (sCall m_times (sCons (sVar 2) (sCons (sVar 1) (sNil)))) (sCons (sVar 3) (sNil)))) (sCons (sCall m_plus (sCons (sCall m_times (sCons (sVar 4) (sCons (sVar 1) (sNil)))) (sCons (sVar 5) (sNil)))) (sNil))))))
noncomputable def m_image : Mf := mkDef 4 2 (sSeq (sIfS (sT (s1 fIsN (sVar 1))) (sSeq (sIfS (sT (s2 fEq (s2 fIx (sVar 0) (sC (.int (2)))) (sC (.tup [.int (0), .int (1)])))) (sRet (sTup (sCons (sC (.non)) (sCons (sC (.non)) (sNil))))) (sSkip)) (sRet (sTup (sCons (sCall m_over (sCons (sCall m_minus (sCons (sC (.tup [.int (0), .int (1)])) (sCons (s2 fIx (sVar 0) (sC (.int (0)))) (sNil)))) (sCons (s2 fIx (sVar 0) (sC (.int (2)))) (sNil)))) (sCons (sC (.non)) (sNil)))))) (sSkip)) (sSeq (sAsg (sCall m_seen_from (sCons (sVar 0) (sCons (sVar 1) (sNil)))) (gT 2 (gsCons (gN 2) (gsCons (gN 3) (gsNil))))) (sSeq (sIfS (sT (s2 fEq (sVar 3) (sC (.tup [.int (0), .int (1)])))) (sRet (sTup (sCons (sC (.non)) (sCons (sC (.non)) (sNil))))) (sSkip)) (sRet (sTup (sCons (sCall m_over (sCons (sCall m_minus (sCons (sC (.tup [.int (0), .int (1)])) (sCons (sVar 2) (sNil)))) (sCons (sVar 3) (sNil)))) (sCons (sCall m_over (sCons (sC (.tup [.int (1), .int (1)])) (sCons (sVar 3) (sNil)))) (sNil))))))))
noncomputable def m_l_meeting : Mf := mkDef 4 2 (sSeq (sSet 2 (sCall m_l_minus (sCons (s2 fIx (sVar 0) (sC (.int (1)))) (sCons (s2 fIx (sVar 1) (sC (.int (1)))) (sNil))))) (sSeq (sIfS (sT (s2 fEq (s2 fIx (sVar 2) (sC (.int (0)))) (sC (.int (0))))) (sRet (sC (.non))) (sSkip)) (sSeq (sSet 3 (sCall m_l_over_2 (sCons (sCall m_l_minus (sCons (s2 fIx (sVar 1) (sC (.int (0)))) (sCons (s2 fIx (sVar 0) (sC (.int (0)))) (sNil)))) (sCons (sVar 2) (sNil))))) (sRet (sTup (sCons (sVar 3) (sCons (sCall m_l_plus (sCons (s2 fIx (sVar 0) (sC (.int (0)))) (sCons (sCall m_l_times (sCons (sVar 3) (sCons (s2 fIx (sVar 0) (sC (.int (1)))) (sNil)))) (sNil)))) (sNil))))))))
noncomputable def m_l_due_2 : Mf := mkDef 7 3 (sSeq (sSet 3 (sLst (sNil))) (sSeq (sFor (sIter (sLst (sCons (sTup (sCons (sC (.int (0))) (sCons (sC (.int (1))) (sNil)))) (sCons (sTup (sCons (sC (.int (1))) (sCons (sC (.int (1))) (sNil)))) (sNil))))) (gN 4) (sSeq (sSet 5 (sTup (sCons (sVar 4) (sCons (sTup (sCons (sC (.int (2))) (sCons (sC (.int (1))) (sNil)))) (sNil))))) (sSeq (sIfS (sT (s1 fNotN (sVar 1))) (sSet 5 (sTup (sCons (sCall m_l_plus (sCons (sVar 2) (sCons (sCall m_l_times (sCons (sVar 1) (sCons (sVar 4) (sNil)))) (sNil)))) (sCons (sVar 4) (sNil))))) (sSkip)) (sDrop (sMethL fAppend (sVar 3) (sCons (sCall m_l_out (sCons (sVar 0) (sCons (sVar 5) (sNil)))) (sNil))))))) (sSeq (sSet 6 (sCall m_l_meeting (sCons (s2 fIx (sVar 3) (sC (.int (0)))) (sCons (s2 fIx (sVar 3) (sC (.int (1)))) (sNil))))) (sSeq (sIfS (sT (s1 fIsN (sVar 6))) (sRet (sTup (sCons (sC (.non)) (sCons (sC (.non)) (sNil))))) (sSkip)) (sSeq (sIfS (sT (s1 fIsN (sVar 1))) (sRet (sTup (sCons (s2 fIx (sVar 6) (sC (.int (0)))) (sCons (sC (.non)) (sNil))))) (sSkip)) (sRet (sTup (sCons (s2 fIx (sVar 6) (sC (.int (0)))) (sCons (sCall m_l_over_2 (sCons (s2 fIx (sVar 6) (sC (.int (1)))) (sCons (sVar 2) (sNil)))) (sNil))))))))))
noncomputable def m_l_other_2 : Mf := mkDef 1 1 (sSeq (sIfS (sT (s1 fIsN (sVar 0))) (sRet (sC (.non))) (sSkip)) (sRet (sTup (sCons (s1 fNeg (s2 fIx (sVar 0) (sC (.int (0))))) (sCons (s2 fIx (sVar 0) (sC (.int (1)))) (sNil))))))
noncomputable def m_l_through : Mf := mkDef 9 5 (sSeq (sAsg (sCall m_image (sCons (sCall m_table_of (sCons (sSl (sVar 0) (sNoPart) (sPart (sVar 1))) (sNil))) (sCons (sVar 2) (sNil)))) (gT 2 (gsCons (gN 5) (gsCons (gN 6) (gsNil))))) (sSeq (sIfS (sAnd (sT (s1 fNotN (sVar 5))) (sT (s2 fGe (sCall fMax2 (sCons (sCall fAbs (sCons (s2 fIx (sVar 5) (sC (.int (0)))) (sNil))) (sCons (s2 fIx (sVar 5) (sC (.int (1)))) (sNil)))) (s2 fPow (sC (.int (10))) (sC (.int (12))))))) (sRet (sC (.bl true))) (sSkip)) (sSeq (sAsg (sCall m_image (sCons (sCall m_table_of (sCons (sSl (sVar 0) (sPart (sVar 1)) (sNoPart)) (sNil))) (sCons (sCall m_l_other_2 (sCons (sVar 5) (sNil))) (sNil)))) (gT 2 (gsCons (gN 7) (gsCons (gN 8) (gsNil))))) (sSeq (sIfS (sNot (sT (sCall (m_l_same_2 8) (sCons (sVar 3) (sCons (sVar 7) (sNil)))))) (sRet (sC (.bl false))) (sSkip)) (sRet (sOrV (s2 (fIn false) (sC (.non)) (sLst (sCons (sVar 2) (sCons (sVar 3) (sCons (sVar 5) (sNil)))))) (s2 fEq (sVar 4) (sCall m_l_times (sCons (sVar 6) (sCons (sVar 8) (sNil)))))))))))
noncomputable def m_with_number : Mf := mkDef 4 3 (sSeq (sSet 3 (sCall fList (sCons (sVar 0) (sNil)))) (sSeq (sSetIx (sTup (sCons (s2 fIx (s2 fIx (sVar 3) (sVar 1)) (sC (.int (0)))) (sCons (sVar 2) (sNil)))) (sVar 3) (sVar 1)) (sRet (sVar 3))))
noncomputable def m_height_at : Mf := mkDef 6 4 (sSeq (sAsg (sCall m_seen_from (sCons (sCall m_table_of (sCons (sCall m_with_number (sCons (sVar 0) (sCons (sVar 1) (sCons (sVar 2) (sNil))))) (sNil))) (sCons (s2 fIx (sVar 3) (sC (.int (0)))) (sNil)))) (gT 2 (gsCons (gN 4) (gsCons (gN 5) (gsNil))))) (sRet (sCall m_plus (sCons (sVar 4) (sCons (sCall m_times (sCons (s2 fIx (sVar 3) (sC (.int (1)))) (sCons (sVar 5) (sNil)))) (sNil))))))
noncomputable def m_setting : Mf := mkDef 6 4 (sSeq (sSet 4 (sCall m_height_at (sCons (sVar 0) (sCons (sVar 1) (sCons (sC (.tup [.int (0), .int (1)])) (sCons (sTup (sCons (sVar 2) (sCons (sVar 3) (sNil)))) (sNil))))))) (sSeq (sSet 5 (sCall m_minus (sCons (sCall m_height_at (sCons (sVar 0) (sCons (sVar 1) (sCons (sC (.tup [.int (1), .int (1)])) (sCons (sTup (sCons (sVar 2) (sCons (sVar 3) (sNil)))) (sNil)))))) (sCons (sVar 4) (sNil))))) (sSeq (sIfS (sT (s2 fNe (sVar 5) (sC (.tup [.int (0), .int (1)])))) (sRet (sTup (sCons (sC (.str ("one" : Str))) (sCons (sCall m_over (sCons (sCall m_minus (sCons (sC (.tup [.int (0), .int (1)])) (sCons (sVar 4) (sNil)))) (sCons (sVar 5) (sNil)))) (sNil))))) (sSkip)) (sSeq (sIfS (sT (s2 fEq (sVar 4) (sC (.tup [.int (0), .int (1)])))) (sRet (sTup (sCons (sC (.str ("all" : Str))) (sNil)))) (sSkip)) (sRet (sTup (sCons (sC (.str ("none" : Str))) (sNil))))))))
noncomputable def m_l_height : Mf := mkDef 8 5 (sSeq (sSet 5 (sCall fList (sCons (sVar 0) (sNil)))) (sSeq (sSetIx (sTup (sCons (s2 fIx (s2 fIx (sVar 5) (sVar 1)) (sC (.int (0)))) (sCons (sVar 2) (sNil)))) (sVar 5) (sVar 1)) (sSeq (sAsg (sCall m_l_out (sCons (sVar 5) (sCons (sTup (sCons (sVar 3) (sCons (sTup (sCons (sC (.int (1))) (sCons (sC (.int (1))) (sNil)))) (sNil)))) (sNil)))) (gT 2 (gsCons (gN 6) (gsCons (gN 7) (gsNil))))) (sRet (sCall m_l_plus (sCons (sVar 6) (sCons (sCall m_l_times (sCons (sVar 4) (sCons (sVar 7) (sNil)))) (sNil))))))))
noncomputable def m_l_due_3 : Mf := mkDef 6 4 (sSeq (sSet 4 (sCall m_l_height (sCons (sVar 0) (sCons (sVar 1) (sCons (sTup (sCons (sC (.int (0))) (sCons (sC (.int (1))) (sNil)))) (sCons (sVar 2) (sCons (sVar 3) (sNil)))))))) (sSeq (sSet 5 (sCall m_l_minus (sCons (sCall m_l_height (sCons (sVar 0) (sCons (sVar 1) (sCons (sTup (sCons (sC (.int (1))) (sCons (sC (.int (1))) (sNil)))) (sCons (sVar 2) (sCons (sVar 3) (sNil))))))) (sCons (sVar 4) (sNil))))) (sSeq (sIfS (sT (s2 fNe (s2 fIx (sVar 5) (sC (.int (0)))) (sC (.int (0))))) (sRet (sTup (sCons (sC (.str ("one" : Str))) (sCons (sCall m_l_over_2 (sCons (sTup (sCons (s1 fNeg (s2 fIx (sVar 4) (sC (.int (0))))) (sCons (s2 fIx (sVar 4) (sC (.int (1)))) (sNil)))) (sCons (sVar 5) (sNil)))) (sNil))))) (sSkip)) (sRet (s2 fIx (sLst (sCons (sTup (sCons (sC (.str ("none" : Str))) (sNil))) (sCons (sTup (sCons (sC (.str ("all" : Str))) (sNil))) (sNil)))) (sCall fInt (sCons (s2 fEq (s2 fIx (sVar 4) (sC (.int (0)))) (sC (.int (0)))) (sNil))))))))
noncomputable def m_lines_of : Mf := mkDef 4 1 (sSeq (sSet 1 (sLst (sNil))) (sSeq (sSet 2 (sC (.tup [.tup [.int (1), .int (1)], .tup [.int (0), .int (1)], .tup [.int (0), .int (1)], .tup [.int (1), .int (1)]]))) (sSeq (sFor (sIter (sVar 0)) (gN 3) (sSeq (sIfS (sT (s2 fEq (s2 fIx (sVar 3) (sC (.int (0)))) (sC (.str ("stop" : Str))))) (sDrop (sMethL fAppend (sVar 1) (sCons (sTup (sCons (s2 fIx (sVar 2) (sC (.int (0)))) (sCons (s2 fIx (sVar 2) (sC (.int (1)))) (sCons (s2 fIx (sVar 3) (sC (.int (1)))) (sNil))))) (sNil)))) (sSkip)) (sSet 2 (sCall m_behind (sCons (sVar 2) (sCons (sCall m_part_table (sCons (sVar 3) (sNil))) (sNil))))))) (sRet (sVar 1)))))
noncomputable def m_size : Mf := mkDef 1 1 (sRet (sTup (sCons (sCall fAbs (sCons (s2 fIx (sVar 0) (sC (.int (0)))) (sNil))) (sCons (s2 fIx (sVar 0) (sC (.int (1)))) (sNil)))))
noncomputable def m_l_line : Mf := mkDef 3 1 (sSeq (sSet 1 (sCall m_l_number (sCons (sVar 0) (sNil)))) (sSeq (sSet 2 (sCall m_l_number (sCons (sVar 0) (sNil)))) (sSeq (sIfS (sAnd (sT (s2 fEq (s2 fIx (sVar 1) (sC (.int (0)))) (sC (.int (0))))) (sT (s2 fEq (s2 fIx (sVar 2) (sC (.int (0)))) (sC (.int (0)))))) (sSet 1 (sTup (sCons (s2 fPlus (sC (.int (1))) (sCall m_l_next (sCons (sVar 0) (sCons (sC (.int (3))) (sNil))))) (sCons (sC (.int (1))) (sNil))))) (sSkip)) (sRet (sTup (sCons (sVar 1) (sCons (sVar 2) (sCons (sCall m_l_low (sCons (s2 fPlus (sC (.int (1))) (sCall m_l_next (sCons (sVar 0) (sCons (sC (.int (12))) (sNil))))) (sCons (s2 fIx (sLst (sCons (sC (.int (1))) (sCons (sC (.int (1))) (sCons (sC (.int (2))) (sCons (sC (.int (5))) (sNil)))))) (sCall m_l_next (sCons (sVar 0) (sCons (sC (.int (4))) (sNil))))) (sNil)))) (sNil)))))))))
noncomputable def m_l_ratio_2 : Mf := mkDef 4 2 (sSeq (sIfS (sT (s2 fLt (sVar 1) (sC (.int (0))))) (sPar 0 1 (sCons (s2 fSub (sC (.int (0))) (sVar 0)) (sCons (s2 fSub (sC (.int (0))) (sVar 1)) (sNil)))) (sSkip)) (sSeq (sPar 2 3 (sCons (sCall fAbs (sCons (sVar 0) (sNil))) (sCons (sVar 1) (sNil)))) (sSeq (sWhile (sT (s2 fGt (sVar 2) (sC (.int (0))))) (sPar 2 3 (sCons (s2 fMod (sVar 3) (sVar 2)) (sCons (sVar 2) (sNil))))) (sRet (sTup (sCons (s2 fDiv (sVar 0) (sVar 3)) (sCons (s2 fDiv (sVar 1) (sVar 3)) (sNil))))))))
noncomputable def m_l_add : Mf := mkDef 2 2 (sRet (sCall m_l_ratio_2 (sCons (s2 fPlus (s2 fMul (s2 fIx (sVar 0) (sC (.int (0)))) (s2 fIx (sVar 1) (sC (.int (1))))) (s2 fMul (s2 fIx (sVar 1) (sC (.int (0)))) (s2 fIx (sVar 0) (sC (.int (1)))))) (sCons (s2 fMul (s2 fIx (sVar 0) (sC (.int (1)))) (s2 fIx (sVar 1) (sC (.int (1))))) (sNil)))))
noncomputable def m_l_take : Mf := mkDef 2 2 (sRet (sCall m_l_ratio_2 (sCons (s2 fSub (s2 fMul (s2 fIx (sVar 0) (sC (.int (0)))) (s2 fIx (sVar 1) (sC (.int (1))))) (s2 fMul (s2 fIx (sVar 1) (sC (.int (0)))) (s2 fIx (sVar 0) (sC (.int (1)))))) (sCons (s2 fMul (s2 fIx (sVar 0) (sC (.int (1)))) (s2 fIx (sVar 1) (sC (.int (1))))) (sNil)))))
noncomputable def m_l_by : Mf := mkDef 2 2 (sRet (sCall m_l_ratio_2 (sCons (s2 fMul (s2 fIx (sVar 0) (sC (.int (0)))) (s2 fIx (sVar 1) (sC (.int (0))))) (sCons (s2 fMul (s2 fIx (sVar 0) (sC (.int (1)))) (s2 fIx (sVar 1) (sC (.int (1))))) (sNil)))))
noncomputable def m_l_under : Mf := mkDef 2 2 (sRet (s2 fLt (s2 fMul (s2 fIx (sVar 0) (sC (.int (0)))) (s2 fIx (sVar 1) (sC (.int (1))))) (s2 fMul (s2 fIx (sVar 1) (sC (.int (0)))) (s2 fIx (sVar 0) (sC (.int (1)))))))
noncomputable def m_l_number_3 : Mf := mkDef 3 1 (sSeq (sSet 1 (sCall m_l_next (sCons (sVar 0) (sCons (sC (.int (9))) (sNil))))) (sSeq (sIfS (sT (s2 fLt (sVar 1) (sC (.int (4))))) (sRet (sTup (sCons (s2 fSub (sCall m_l_next (sCons (sVar 0) (sCons (sC (.int (7))) (sNil)))) (sC (.int (3)))) (sCons (sC (.int (1))) (sNil))))) (sSkip)) (sSeq (sIfS (sT (s2 fLt (sVar 1) (sC (.int (8))))) (sRet (sCall m_l_ratio_2 (sCons (s2 fSub (sCall m_l_next (sCons (sVar 0) (sCons (sC (.int (19))) (sNil)))) (sC (.int (9)))) (sCons (s2 fPlus (sC (.int (1))) (sCall m_l_next (sCons (sVar 0) (sCons (sC (.int (6))) (sNil))))) (sNil))))) (sSkip)) (sSeq (sSet 2 (s2 fSub (sCall m_l_next (sCons (sVar 0) (sCons (s2 fPow (sC (.int (10))) (sC (.int (12)))) (sNil)))) (sCall m_l_next (sCons (sVar 0) (sCons (s2 fPow (sC (.int (10))) (sC (.int (12)))) (sNil)))))) (sRet (sCall m_l_ratio_2 (sCons (sVar 2) (sCons (s2 fPlus (sC (.int (1))) (sCall m_l_next (sCons (sVar 0) (sCons (s2 fPow (sC (.int (10))) (sC (.int (9)))) (sNil))))) (sNil)))))))))
noncomputable def m_l_part_3 : Mf := mkDef 5 2 (sSeq (sSet 2 (s2 fIx (sVar 1) (sCall m_l_next (sCons (sVar 0) (sCons (sCall fLen (sCons (sVar 1) (sNil))) (sNil)))))) (sSeq (sAsg (sCall m_l_number_3 (sCons (sVar 0) (sNil))) (gT 2 (gsCons (gN 3) (gsCons (gN 4) (gsNil))))) (sSeq (sIfS (sT (s2 fEq (sVar 2) (sC (.str ("gap" : Str))))) (sRet (sTup (sCons (sVar 2) (sCons (sTup (sCons (sCall fAbs (sCons (sVar 3) (sNil))) (sCons (sVar 4) (sNil)))) (sNil))))) (sSkip)) (sSeq (sIfS (sT (s2 fEq (sVar 2) (sC (.str ("stop" : Str))))) (sRet (sTup (sCons (sVar 2) (sCons (sTup (sCons (sCall fMax2 (sCons (sC (.int (1))) (sCons (sCall fAbs (sCons (sVar 3) (sNil))) (sNil)))) (sCons (sVar 4) (sNil)))) (sNil))))) (sSkip)) (sRet (sTup (sCons (sVar 2) (sCons (sTup (sCons (sVar 3) (sCons (sVar 4) (sNil)))) (sNil)))))))))
noncomputable def m_l_bench_3 : Mf := mkDef 4 3 (sRet (sComp (sRng fRng1 (sCons (sCall m_l_next (sCons (sVar 0) (sCons (s2 fPlus (sVar 1) (sC (.int (1)))) (sNil)))) (sNil))) (gN 3) (sYes) (sCall m_l_part_3 (sCons (sVar 0) (sCons (sVar 2) (sNil)))) [3]))
noncomputable def m_l_led_3 : Mf := mkDef 4 2 (sSeq (sAsg (sVar 1) (gT 2 (gsCons (gN 2) (gsCons (gN 3) (gsNil))))) (sSeq (sIfS (sT (s2 fEq (s2 fIx (sVar 0) (sC (.int (0)))) (sC (.str ("gap" : Str))))) (sRet (sTup (sCons (sCall m_l_add (sCons (sVar 2) (sCons (sCall m_l_by (sCons (s2 fIx (sVar 0) (sC (.int (1)))) (sCons (sVar 3) (sNil)))) (sNil)))) (sCons (sVar 3) (sNil))))) (sSkip)) (sSeq (sIfS (sT (s2 fEq (s2 fIx (sVar 0) (sC (.int (0)))) (sC (.str ("glass" : Str))))) (sRet (sTup (sCons (sVar 2) (sCons (sCall m_l_take (sCons (sVar 3) (sCons (sCall m_l_by (sCons (s2 fIx (sVar 0) (sC (.int (1)))) (sCons (sVar 2) (sNil)))) (sNil)))) (sNil))))) (sSkip)) (sRet (sVar 1)))))
noncomputable def m_l_over_3 : Mf := mkDef 2 2 (sRet (sCall m_l_ratio_2 (sCons (s2 fMul (s2 fIx (sVar 0) (sC (.int (0)))) (s2 fIx (sVar 1) (sC (.int (1))))) (sCons (s2 fMul (s2 fIx (sVar 0) (sC (.int (1)))) (s2 fIx (sVar 1) (sC (.int (0))))) (sNil)))))
noncomputable def m_l_through_2 : Mf := mkDef 3 2 (sSeq (sFor (sIter (sVar 0)) (gN 2) (sSet 1 (sCall m_l_led_3 (sCons (sVar 2) (sCons (sVar 1) (sNil)))))) (sRet (sVar 1)))
noncomputable def m_mirror_table : Mf := mkDef 1 1 (sRet (sTup (sCons (sC (.tup [.int (1), .int (1)])) (sCons (sC (.tup [.int (0), .int (1)])) (sCons (sCall m_negative (sCons (sVar 0) (sNil))) (sCons (sC (.tup [.int (1), .int (1)])) (sNil)))))))
noncomputable def m_round_of : Mf := mkDef 5 1 (sSeq (sAsg (sVar 0) (gT 3 (gsCons (gN 1) (gsCons (gN 2) (gsCons (gN 3) (gsNil)))))) (sSeq (sSet 4 (sCall m_table_of (sCons (sVar 2) (sNil)))) (sRet (sCall m_behind (sCons (sCall m_behind (sCons (sCall m_behind (sCons (sVar 4) (sCons (sCall m_mirror_table (sCons (sVar 3) (sNil))) (sNil)))) (sCons (sCall m_turned (sCons (sVar 4) (sNil))) (sNil)))) (sCons (sCall m_mirror_table (sCons (sVar 1) (sNil))) (sNil)))))))
noncomputable def m_l_ratio_3 : Mf := mkDef 3 3 (sRet (sCall m_ratio (sCons (s2 fIx (sVar 1) (sCall m_l_next (sCons (sVar 0) (sCons (sCall fLen (sCons (sVar 1) (sNil))) (sNil))))) (sCons (s2 fIx (sVar 2) (sCall m_l_next (sCons (sVar 0) (sCons (sCall fLen (sCons (sVar 2) (sNil))) (sNil))))) (sNil)))))
noncomputable def m_l_pieces : Mf := mkDef 6 2 (sSeq (sSet 2 (s2 fPlus (sC (.int (1))) (sCall m_l_next (sCons (sVar 0) (sCons (sC (.int (3))) (sNil)))))) (sSeq (sSet 3 (sLst (sNil))) (sSeq (sFor (sRng fRng1 (sCons (s2 fSub (sVar 2) (sC (.int (1)))) (sNil))) (gN 4) (sSeq (sSet 5 (sCall m_ratio (sCons (s2 fIx (sVar 1) (sC (.int (0)))) (sCons (s2 fMul (s2 fIx (sVar 1) (sC (.int (1)))) (s2 fPlus (sC (.int (2))) (sCall m_l_next (sCons (sVar 0) (sCons (sC (.int (2))) (sNil)))))) (sNil))))) (sSeq (sDrop (sMethL fAppend (sVar 3) (sCons (sTup (sCons (sC (.str ("gap" : Str))) (sCons (sVar 5) (sNil)))) (sNil)))) (sSet 1 (sCall m_minus (sCons (sVar 1) (sCons (sVar 5) (sNil)))))))) (sRet (s2 fPlus (sVar 3) (sLst (sCons (sTup (sCons (sC (.str ("gap" : Str))) (sCons (sVar 1) (sNil)))) (sNil))))))))
noncomputable def m_l_stops_2 : Mf := mkDef 6 3 (sSeq (sSet 3 (sCall fList (sCons (sVar 1) (sNil)))) (sSeq (sFor (sRng fRng1 (sCons (sCall m_l_next (sCons (sVar 0) (sCons (s2 fPlus (sVar 2) (sC (.int (1)))) (sNil)))) (sNil))) (gN 4) (sSeq (sSet 5 (sCall m_l_ratio_3 (sCons (sVar 0) (sCons (sLst (sCons (sC (.int (1))) (sCons (sC (.int (2))) (sCons (sC (.int (3))) (sCons (sC (.int (4))) (sCons (sC (.int (5))) (sCons (sC (.int (7))) (sCons (sC (.int (12))) (sCons (sC (.int (40))) (sCons (sC (.int (1000))) (sNil))))))))))) (sCons (sLst (sCons (sC (.int (1))) (sCons (sC (.int (1))) (sCons (sC (.int (2))) (sCons (sC (.int (3))) (sNil)))))) (sNil)))))) (sDrop (sMethL fInsert (sVar 3) (sCons (sCall m_l_next (sCons (sVar 0) (sCons (s2 fPlus (sCall fLen (sCons (sVar 3) (sNil))) (sC (.int (1)))) (sNil)))) (sCons (sTup (sCons (sC (.str ("stop" : Str))) (sCons (sVar 5) (sNil)))) (sNil))))))) (sRet (sVar 3))))
noncomputable def m_l_known_hall : Mf := mkDef 9 1 (sSeq (sSet 1 (sLst (sCons (sTup (sCons (sC (.int (3))) (sCons (sC (.int (4))) (sNil)))) (sCons (sTup (sCons (sC (.int (3))) (sCons (sC (.int (5))) (sNil)))) (sCons (sTup (sCons (sC (.int (1))) (sCons (s1 fNeg (sC (.int (1)))) (sNil)))) (sCons (sTup (sCons (sC (.int (3))) (sCons (sC (.int (3))) (sNil)))) (sCons (sTup (sCons (sC (.int (1))) (sCons (sC (.int (1))) (sNil)))) (sCons (sTup (sCons (sC (.int (2))) (sCons (sC (.int (2))) (sNil)))) (sCons (sTup (sCons (sC (.int (2))) (sCons (sC (.int (5))) (sNil)))) (sCons (sTup (sCons (sC (.int (0))) (sCons (sC (.int (0))) (sNil)))) (sCons (sTup (sCons (sC (.int (4))) (sCons (sC (.int (4))) (sNil)))) (sCons (sTup (sCons (sC (.int (3))) (sCons (sC (.int (6))) (sNil)))) (sCons (sTup (sCons (sC (.int (5))) (sCons (sC (.int (5))) (sNil)))) (sCons (sTup (sCons (sC (.int (0))) (sCons (sC (.int (4))) (sNil)))) (sNil))))))))))))))) (sSeq (sAsg (s2 fIx (sVar 1) (sCall m_l_next (sCons (sVar 0) (sCons (sC (.int (12))) (sNil))))) (gT 2 (gsCons (gN 2) (gsCons (gN 3) (gsNil))))) (sSeq (sSet 4 (sTup (sCons (sC (.int (1))) (sCons (sC (.int (1))) (sNil))))) (sSeq (sIfS (sT (s2 fEq (sCall m_l_next (sCons (sVar 0) (sCons (sC (.int (2))) (sNil)))) (sC (.int (0))))) (sSeq (sSet 5 (sLst (sCons (sTup (sCons (sC (.int (1))) (sCons (sC (.int (1))) (sNil)))) (sCons (sTup (sCons (sC (.int (2))) (sCons (sC (.int (1))) (sNil)))) (sCons (sTup (sCons (s1 fNeg (sC (.int (1)))) (sCons (s1 fNeg (sC (.int (1)))) (sNil)))) (sCons (sTup (sCons (sC (.int (9))) (sCons (sC (.int (9))) (sNil)))) (sCons (sTup (sCons (sC (.int (6))) (sCons (sC (.int (13))) (sNil)))) (sCons (sTup (sCons (sC (.int (2))) (sCons (s1 fNeg (sC (.int (5)))) (sNil)))) (sCons (sTup (sCons (sC (.int (5))) (sCons (sC (.int (2))) (sNil)))) (sCons (sTup (sCons (sC (.int (3))) (sCons (sC (.int (5))) (sNil)))) (sCons (sTup (sCons (sC (.int (1))) (sCons (sC (.int (3))) (sNil)))) (sCons (sTup (sCons (sC (.int (7))) (sCons (sC (.int (5))) (sNil)))) (sCons (sTup (sCons (sC (.int (3))) (sCons (sC (.int (2))) (sNil)))) (sCons (sTup (sCons (sC (.int (1))) (sCons (s1 fNeg (sC (.int (7)))) (sNil)))) (sNil))))))))))))))) (sSeq (sAsg (s2 fIx (sVar 5) (sCall m_l_next (sCons (sVar 0) (sCons (sC (.int (12))) (sNil))))) (gT 2 (gsCons (gN 2) (gsCons (gN 3) (gsNil))))) (sSet 4 (sTup (sCons (sC (.int (2))) (sCons (sC (.int (2))) (sNil))))))) (sSkip)) (sSeq (sSet 6 (sCall m_l_ratio_3 (sCons (sVar 0) (sCons (sLst (sCons (sC (.int (1))) (sCons (sC (.int (2))) (sCons (sC (.int (3))) (sCons (sC (.int (5))) (sCons (sC (.int (1))) (sCons (sC (.int (2))) (sCons (sC (.int (3))) (sCons (sC (.int (5))) (sCons (s2 fPow (sC (.int (10))) (sC (.int (20)))) (sNil))))))))))) (sCons (sLst (sCons (sC (.int (1))) (sCons (sC (.int (1))) (sCons (sC (.int (2))) (sCons (sC (.int (3))) (sNil)))))) (sNil)))))) (sSeq (sSet 7 (sCall m_l_stops_2 (sCons (sVar 0) (sCons (sCall m_l_pieces (sCons (sVar 0) (sCons (sVar 6) (sNil)))) (sCons (sC (.int (4))) (sNil)))))) (sSeq (sSet 8 (sCall m_ratio (sCons (s2 fMul (sVar 2) (s2 fIx (sVar 6) (sC (.int (1))))) (sCons (s2 fMul (s2 fIx (sVar 4) (sC (.int (0)))) (s2 fIx (sVar 6) (sC (.int (0))))) (sNil))))) (sRet (sTup (sCons (sVar 8) (sCons (sVar 7) (sCons (sCall m_ratio (sCons (s2 fMul (sVar 3) (s2 fIx (sVar 6) (sC (.int (1))))) (sCons (s2 fMul (s2 fIx (sVar 4) (sC (.int (1)))) (s2 fIx (sVar 6) (sC (.int (0))))) (sNil)))) (sNil)))))))))))))
noncomputable def m_l_hall : Mf := mkDef 5 1 (sSeq (sSet 1 (sCall m_l_next (sCons (sVar 0) (sCons (sC (.int (8))) (sNil))))) (sSeq (sIfS (sT (s2 fLt (sVar 1) (sC (.int (5))))) (sRet (sCall m_l_known_hall (sCons (sVar 0) (sNil)))) (sSkip)) (sSeq (sSet 2 (sCall m_l_ratio_3 (sCons (sVar 0) (sCons (sLst (sCons (sC (.int (0))) (sCons (sC (.int (1))) (sCons (s1 fNeg (sC (.int (1)))) (sCons (sC (.int (2))) (sCons (sC (.int (1))) (sCons (s1 fNeg (sC (.int (3)))) (sNil)))))))) (sCons (sLst (sCons (sC (.int (1))) (sCons (sC (.int (2))) (sCons (sC (.int (3))) (sNil))))) (sNil)))))) (sSeq (sIfS (sT (s2 fEq (sVar 1) (sC (.int (5))))) (sRet (sTup (sCons (sVar 2) (sCons (sCall m_l_stops_2 (sCons (sVar 0) (sCons (sLst (sNil)) (sCons (sC (.int (3))) (sNil))))) (sCons (sCall m_minus (sCons (sTup (sCons (sC (.int (0))) (sCons (sC (.int (1))) (sNil)))) (sCons (sVar 2) (sNil)))) (sNil)))))) (sSkip)) (sSeq (sSet 3 (sLst (sNil))) (sSeq (sFor (sRng fRng1 (sCons (sCall m_l_next (sCons (sVar 0) (sCons (sC (.int (5))) (sNil)))) (sNil))) (gN 4) (sIfS (sT (s2 fEq (sCall m_l_next (sCons (sVar 0) (sCons (sC (.int (2))) (sNil)))) (sC (.int (0))))) (sDrop (sMethL fAppend (sVar 3) (sCons (sTup (sCons (sC (.str ("gap" : Str))) (sCons (sCall m_l_ratio_3 (sCons (sVar 0) (sCons (sLst (sCons (sC (.int (0))) (sCons (sC (.int (1))) (sCons (sC (.int (2))) (sCons (sC (.int (3))) (sCons (sC (.int (1))) (sCons (sC (.int (5))) (sNil)))))))) (sCons (sLst (sCons (sC (.int (1))) (sCons (sC (.int (2))) (sCons (sC (.int (3))) (sNil))))) (sNil))))) (sNil)))) (sNil)))) (sDrop (sMethL fAppend (sVar 3) (sCons (sTup (sCons (sC (.str ("glass" : Str))) (sCons (sCall m_l_ratio_3 (sCons (sVar 0) (sCons (sLst (sCons (sC (.int (0))) (sCons (sC (.int (1))) (sCons (s1 fNeg (sC (.int (1)))) (sCons (sC (.int (2))) (sCons (s1 fNeg (sC (.int (2)))) (sCons (sC (.int (3))) (sNil)))))))) (sCons (sLst (sCons (sC (.int (1))) (sCons (sC (.int (2))) (sCons (sC (.int (3))) (sNil))))) (sNil))))) (sNil)))) (sNil)))))) (sRet (sTup (sCons (sVar 2) (sCons (sCall m_l_stops_2 (sCons (sVar 0) (sCons (sVar 3) (sCons (sC (.int (3))) (sNil))))) (sCons (sCall m_l_ratio_3 (sCons (sVar 0) (sCons (sLst (sCons (sC (.int (0))) (sCons (sC (.int (1))) (sCons (s1 fNeg (sC (.int (1)))) (sCons (sC (.int (2))) (sCons (s1 fNeg (sC (.int (2)))) (sCons (sC (.int (3))) (sNil)))))))) (sCons (sLst (sCons (sC (.int (1))) (sCons (sC (.int (2))) (sNil)))) (sNil))))) (sNil))))))))))))
noncomputable def m_l_part_4 : Mf := mkDef 4 2 (sSeq (sAsg (sVar 0) (gT 2 (gsCons (gN 2) (gsCons (gN 3) (gsNil))))) (sSeq (sIfS (sT (s2 fEq (sVar 2) (sC (.str ("gap" : Str))))) (sRet (sTup (sCons (sCall m_plus (sCons (s2 fIx (sVar 1) (sC (.int (0)))) (sCons (sCall m_times (sCons (sVar 3) (sCons (s2 fIx (sVar 1) (sC (.int (1)))) (sNil)))) (sNil)))) (sCons (s2 fIx (sVar 1) (sC (.int (1)))) (sNil))))) (sSkip)) (sSeq (sIfS (sT (s2 fEq (sVar 2) (sC (.str ("glass" : Str))))) (sRet (sTup (sCons (s2 fIx (sVar 1) (sC (.int (0)))) (sCons (sCall m_minus (sCons (s2 fIx (sVar 1) (sC (.int (1)))) (sCons (sCall m_times (sCons (sVar 3) (sCons (s2 fIx (sVar 1) (sC (.int (0)))) (sNil)))) (sNil)))) (sNil))))) (sSkip)) (sRet (sVar 1)))))
noncomputable def m_l_parts : Mf := mkDef 4 1 (sSeq (sSet 1 (sComp (sRng fEnum (sCons (s2 fIx (sVar 0) (sC (.int (1)))) (sNil))) (gT 2 (gsCons (gN 2) (gsCons (gN 3) (gsNil)))) (sYes) (sTup (sCons (sC (.str ("forth" : Str))) (sCons (sVar 2) (sCons (sVar 3) (sNil))))) [2, 3])) (sSeq (sDrop (sMethL fAppend (sVar 1) (sCons (sTup (sCons (sC (.non)) (sCons (sC (.non)) (sCons (sTup (sCons (sC (.str ("glass" : Str))) (sCons (s2 fIx (sVar 0) (sC (.int (2)))) (sNil)))) (sNil))))) (sNil)))) (sSeq (sDrop (sMethL fExtend (sVar 1) (sCons (sComp (sRevRng (sCall fLen (sCons (s2 fIx (sVar 0) (sC (.int (1)))) (sNil)))) (gN 2) (sYes) (sTup (sCons (sC (.str ("back" : Str))) (sCons (sVar 2) (sCons (s2 fIx (s2 fIx (sVar 0) (sC (.int (1)))) (sVar 2)) (sNil))))) [2]) (sNil)))) (sSeq (sDrop (sMethL fAppend (sVar 1) (sCons (sTup (sCons (sC (.non)) (sCons (sC (.non)) (sCons (sTup (sCons (sC (.str ("glass" : Str))) (sCons (s2 fIx (sVar 0) (sC (.int (0)))) (sNil)))) (sNil))))) (sNil)))) (sRet (sVar 1))))))
noncomputable def m_l_round_2 : Mf := mkDef 5 2 (sSeq (sFor (sIter (sCall m_l_parts (sCons (sVar 0) (sNil)))) (gT 3 (gsCons (gN 2) (gsCons (gN 3) (gsCons (gN 4) (gsNil))))) (sSet 1 (sCall m_l_part_4 (sCons (sVar 4) (sCons (sVar 1) (sNil)))))) (sRet (sVar 1)))
noncomputable def m_trace_of : Mf := mkDef 1 1 (sRet (sCall m_plus (sCons (s2 fIx (sVar 0) (sC (.int (0)))) (sCons (s2 fIx (sVar 0) (sC (.int (3)))) (sNil)))))
noncomputable def m_kept_ray : Mf := mkDef 6 2 (sSeq (sAsg (sVar 0) (gT 4 (gsCons (gN 2) (gsCons (gN 3) (gsCons (gN 4) (gsCons (gN 5) (gsNil))))))) (sSeq (sIfS (sT (s2 fNe (sTup (sCons (sVar 2) (sCons (sVar 3) (sNil)))) (sTup (sCons (sVar 1) (sCons (sC (.tup [.int (0), .int (1)])) (sNil)))))) (sRet (sTup (sCons (sVar 3) (sCons (sCall m_minus (sCons (sVar 1) (sCons (sVar 2) (sNil)))) (sNil))))) (sSkip)) (sRet (sTup (sCons (sCall m_minus (sCons (sVar 5) (sCons (sVar 1) (sNil)))) (sCons (sCall m_negative (sCons (sVar 4) (sNil))) (sNil)))))))
noncomputable def m_lesser_factor : Mf := mkDef 2 1 (sSeq (sSet 1 (sCall m_root (sCons (sCall m_minus (sCons (sCall m_times (sCons (sVar 0) (sCons (sVar 0) (sNil)))) (sCons (sC (.tup [.int (4), .int (1)])) (sNil)))) (sNil)))) (sSeq (sIfS (sT (s1 fIsN (sVar 1))) (sRet (sC (.non))) (sSkip)) (sSeq (sIfS (sT (s2 fLt (s2 fIx (sVar 0) (sC (.int (0)))) (sC (.int (0))))) (sSet 1 (sCall m_negative (sCons (sVar 1) (sNil)))) (sSkip)) (sRet (sCall m_over (sCons (sCall m_minus (sCons (sVar 0) (sCons (sVar 1) (sNil)))) (sCons (sC (.tup [.int (2), .int (1)])) (sNil))))))))
noncomputable def m_form : Mf := mkDef 5 1 (sSeq (sAsg (sCall m_round_of (sCons (sVar 0) (sNil))) (gT 4 (gsCons (gN 1) (gsCons (gN 2) (gsCons (gN 3) (gsCons (gN 4) (gsNil))))))) (sRet (sTup (sCons (sVar 3) (sCons (sCall m_minus (sCons (sVar 4) (sCons (sVar 1) (sNil)))) (sCons (sCall m_negative (sCons (sVar 2) (sNil))) (sNil)))))))
noncomputable def m_kind : Mf := mkDef 6 1 (sSeq (sSet 1 (sCall m_round_of (sCons (sVar 0) (sNil)))) (sSeq (sSet 2 (sCall m_trace_of (sCons (sVar 1) (sNil)))) (sSeq (sIfS (sT (s2 fEq (sVar 1) (sC (.tup [.tup [.int (1), .int (1)], .tup [.int (0), .int (1)], .tup [.int (0), .int (1)], .tup [.int (1), .int (1)]])))) (sRet (sTup (sCons (sC (.str ("same" : Str))) (sCons (sC (.int (1))) (sNil))))) (sSkip)) (sSeq (sIfS (sT (s2 fEq (sVar 1) (sCall fTuple (sCons (sComp (sIter (sC (.tup [.tup [.int (1), .int (1)], .tup [.int (0), .int (1)], .tup [.int (0), .int (1)], .tup [.int (1), .int (1)]]))) (gN 5) (sYes) (sCall m_negative (sCons (sVar 5) (sNil))) [5]) (sNil))))) (sRet (sTup (sCons (sC (.str ("same" : Str))) (sCons (sC (.int (2))) (sNil))))) (sSkip)) (sSeq (sFor (sIter (sLst (sCons (sTup (sCons (sTup (sCons (s1 fNeg (sC (.int (1)))) (sCons (sC (.int (1))) (sNil)))) (sCons (sC (.int (3))) (sNil)))) (sCons (sTup (sCons (sC (.tup [.int (0), .int (1)])) (sCons (sC (.int (4))) (sNil)))) (sCons (sTup (sCons (sC (.tup [.int (1), .int (1)])) (sCons (sC (.int (6))) (sNil)))) (sNil)))))) (gT 2 (gsCons (gN 3) (gsCons (gN 4) (gsNil)))) (sIfS (sT (s2 fEq (sVar 2) (sVar 3))) (sRet (sTup (sCons (sC (.str ("same" : Str))) (sCons (sVar 4) (sNil))))) (sSkip))) (sSeq (sIfS (sT (sCall m_less (sCons (sCall m_size (sCons (sVar 2) (sNil))) (sCons (sC (.tup [.int (2), .int (1)])) (sNil))))) (sRet (sTup (sCons (sC (.str ("turns" : Str))) (sCons (sCall m_form (sCons (sVar 0) (sNil))) (sNil))))) (sSkip)) (sSeq (sIfS (sT (s2 fEq (sCall m_size (sCons (sVar 2) (sNil))) (sC (.tup [.int (2), .int (1)])))) (sRet (sTup (sCons (sC (.str ("shear" : Str))) (sCons (sCall m_kept_ray (sCons (sVar 1) (sCons (sCallD m_ratio [1] (sCons (s2 fDiv (s2 fIx (sVar 2) (sC (.int (0)))) (sC (.int (2)))) (sNil))) (sNil)))) (sNil))))) (sSkip)) (sRet (sTup (sCons (sC (.str ("off" : Str))) (sCons (sCall m_lesser_factor (sCons (sVar 2) (sNil))) (sNil))))))))))))
noncomputable def m_l_small : Mf := mkDef 1 1 (sRet (sCall m_l_ratio_2 (sCons (s2 fSub (sCall m_l_next (sCons (sVar 0) (sCons (sC (.int (19))) (sNil)))) (sC (.int (9)))) (sCons (s2 fPlus (sC (.int (1))) (sCall m_l_next (sCons (sVar 0) (sCons (sC (.int (6))) (sNil))))) (sNil)))))
noncomputable def m_l_behind : Mf := mkDef 13 2 (sSeq (sAsg (sVar 0) (gT 4 (gsCons (gN 2) (gsCons (gN 3) (gsCons (gN 4) (gsCons (gN 5) (gsNil))))))) (sSeq (sAsg (sVar 1) (gT 4 (gsCons (gN 6) (gsCons (gN 7) (gsCons (gN 8) (gsCons (gN 9) (gsNil))))))) (sSeq (sSet 10 (sLst (sNil))) (sSeq (sFor (sIter (sLst (sCons (sTup (sCons (sVar 6) (sCons (sVar 7) (sNil)))) (sCons (sTup (sCons (sVar 8) (sCons (sVar 9) (sNil)))) (sNil))))) (gT 2 (gsCons (gN 11) (gsCons (gN 12) (gsNil)))) (sSeq (sDrop (sMethL fAppend (sVar 10) (sCons (sCall m_l_add (sCons (sCall m_l_by (sCons (sVar 11) (sCons (sVar 2) (sNil)))) (sCons (sCall m_l_by (sCons (sVar 12) (sCons (sVar 4) (sNil)))) (sNil)))) (sNil)))) (sDrop (sMethL fAppend (sVar 10) (sCons (sCall m_l_add (sCons (sCall m_l_by (sCons (sVar 11) (sCons (sVar 3) (sNil)))) (sCons (sCall m_l_by (sCons (sVar 12) (sCons (sVar 5) (sNil)))) (sNil)))) (sNil)))))) (sRet (sCall fTuple (sCons (sVar 10) (sNil))))))))
noncomputable def m_l_part_table : Mf := mkDef 1 1 (sSeq (sIfS (sT (s2 fEq (s2 fIx (sVar 0) (sC (.int (0)))) (sC (.str ("gap" : Str))))) (sRet (sTup (sCons (sTup (sCons (sC (.int (1))) (sCons (sC (.int (1))) (sNil)))) (sCons (s2 fIx (sVar 0) (sC (.int (1)))) (sCons (sTup (sCons (sC (.int (0))) (sCons (sC (.int (1))) (sNil)))) (sCons (sTup (sCons (sC (.int (1))) (sCons (sC (.int (1))) (sNil)))) (sNil))))))) (sSkip)) (sRet (sTup (sCons (sTup (sCons (sC (.int (1))) (sCons (sC (.int (1))) (sNil)))) (sCons (sTup (sCons (sC (.int (0))) (sCons (sC (.int (1))) (sNil)))) (sCons (sTup (sCons (s2 fSub (sC (.int (0))) (s2 fIx (s2 fIx (sVar 0) (sC (.int (1)))) (sC (.int (0))))) (sCons (s2 fIx (s2 fIx (sVar 0) (sC (.int (1)))) (sC (.int (1)))) (sNil)))) (sCons (sTup (sCons (sC (.int (1))) (sCons (sC (.int (1))) (sNil)))) (sNil))))))))
noncomputable def m_l_table_of : Mf := mkDef 3 1 (sSeq (sSet 1 (sTup (sCons (sTup (sCons (sC (.int (1))) (sCons (sC (.int (1))) (sNil)))) (sCons (sTup (sCons (sC (.int (0))) (sCons (sC (.int (1))) (sNil)))) (sCons (sTup (sCons (sC (.int (0))) (sCons (sC (.int (1))) (sNil)))) (sCons (sTup (sCons (sC (.int (1))) (sCons (sC (.int (1))) (sNil)))) (sNil))))))) (sSeq (sFor (sIter (sVar 0)) (gN 2) (sSet 1 (sCall m_l_behind (sCons (sVar 1) (sCons (sCall m_l_part_table (sCons (sVar 2) (sNil))) (sNil)))))) (sRet (sVar 1))))
noncomputable def m_l_many : Mf := mkDef 3 2 (sRet (sCall fLen (sCons (sComp (sIter (sVar 0)) (gN 2) (sT (s2 fEq (s2 fIx (sVar 2) (sC (.int (0)))) (sVar 1))) (sVar 2) [2]) (sNil))))
noncomputable def m_ratio_text : Mf := mkDef 1 1 (sSeq (sIfS (sT (s2 fEq (s2 fIx (sVar 0) (sC (.int (1)))) (sC (.int (1))))) (sRet (sCall fStrI (sCons (s2 fIx (sVar 0) (sC (.int (0)))) (sNil)))) (sSkip)) (sRet (s2 fPlus (s2 fPlus (sCall fStrI (sCons (s2 fIx (sVar 0) (sC (.int (0)))) (sNil))) (sC (.str ("/" : Str)))) (sCall fStrI (sCons (s2 fIx (sVar 0) (sC (.int (1)))) (sNil))))))
noncomputable def m_l_ratio_text : Mf := mkDef 1 1 (sSeq (sIfS (sT (s2 fEq (s2 fIx (sVar 0) (sC (.int (1)))) (sC (.int (1))))) (sRet (sCall fStrI (sCons (s2 fIx (sVar 0) (sC (.int (0)))) (sNil)))) (sSkip)) (sRet (s2 fPlus (s2 fPlus (sCall fStrI (sCons (s2 fIx (sVar 0) (sC (.int (0)))) (sNil))) (sC (.str ("/" : Str)))) (sCall fStrI (sCons (s2 fIx (sVar 0) (sC (.int (1)))) (sNil))))))
noncomputable def m_l_bench_text : Mf := mkDef 6 1 (sSeq (sSet 1 (sC (.str ("none" : Str)))) (sSeq (sFor (sRng fEnum (sCons (sVar 0) (sNil))) (gT 2 (gsCons (gN 2) (gsCons (gT 2 (gsCons (gN 3) (gsCons (gN 4) (gsNil)))) (gsNil)))) (sSeq (sSet 5 (s2 fIx (sLst (sCons (s2 fPlus (sVar 1) (sC (.str ("; " : Str)))) (sCons (sC (.str ("" : Str))) (sNil)))) (sCall fInt (sCons (s2 fEq (sVar 2) (sC (.int (0)))) (sNil))))) (sSet 1 (s2 fPlus (s2 fPlus (s2 fPlus (sVar 5) (sVar 3)) (sC (.str (" " : Str)))) (sCall m_l_ratio_text (sCons (sVar 4) (sNil))))))) (sRet (sVar 1))))
noncomputable def m_bench_text : Mf := mkDef 2 1 (sSeq (sIfS (sT (s2 fEq (sCall fLen (sCons (sVar 0) (sNil))) (sC (.int (0))))) (sRet (sC (.str ("none" : Str)))) (sSkip)) (sRet (sM1 fJoin (sC (.str ("; " : Str))) (sComp (sIter (sVar 0)) (gN 1) (sYes) (s2 fPlus (s2 fPlus (s2 fIx (sVar 1) (sC (.int (0)))) (sC (.str (" " : Str)))) (sCall m_ratio_text (sCons (s2 fIx (sVar 1) (sC (.int (1)))) (sNil)))) [1]))))
noncomputable def m_hall_text : Mf := mkDef 1 1 (sRet (sM1 fJoin (sC (.str (" | " : Str))) (sLst (sCons (sCall m_ratio_text (sCons (s2 fIx (sVar 0) (sC (.int (0)))) (sNil))) (sCons (sCall m_bench_text (sCons (s2 fIx (sVar 0) (sC (.int (1)))) (sNil))) (sCons (sCall m_ratio_text (sCons (s2 fIx (sVar 0) (sC (.int (2)))) (sNil))) (sNil)))))))
noncomputable def m_law_k56 : Mf := mkDef 8 1 (sSeq (sFor (sIter (s2 fPlus (sVar 0) (sLst (sCons (sC (.int (0))) (sCons (sC (.int (1))) (sCons (sC (.int (2))) (sNil))))))) (gN 1) (sSeq (sSet 2 (sCall m_l_pool (sCons (sVar 1) (sNil)))) (sSeq (sSet 3 (sCall m_l_bench (sCons (sVar 2) (sNil)))) (sSeq (sSet 4 (sCall m_l_bench_text (sCons (sVar 3) (sNil)))) (sSeq (sIfS (sOr (sT (s2 fNe (sCall m_bench_text (sCons (sVar 3) (sNil))) (sVar 4))) (sT (s2 fNe (sCall m_bench_text (sCons (sCall fTuple (sCons (sVar 3) (sNil))) (sNil))) (sVar 4)))) (sRet (sC (.bl false))) (sSkip)) (sSeq (sSet 5 (sCall m_l_number_2 (sCons (sVar 2) (sNil)))) (sSeq (sSet 6 (sCall m_l_number_2 (sCons (sVar 2) (sNil)))) (sSeq (sSet 7 (sTup (sCons (sVar 5) (sCons (sSl (sVar 3) (sNoPart) (sPart (sC (.int (8))))) (sCons (sVar 6) (sNil)))))) (sSeq (sSet 4 (sLst (sCons (sCall m_l_ratio_text (sCons (sVar 5) (sNil))) (sCons (sCall m_l_bench_text (sCons (sSl (sVar 3) (sNoPart) (sPart (sC (.int (8))))) (sNil))) (sCons (sCall m_l_ratio_text (sCons (sVar 6) (sNil))) (sNil)))))) (sIfS (sOr (sT (s2 fNe (sCall m_hall_text (sCons (sVar 7) (sNil))) (sM1 fJoin (sC (.str (" | " : Str))) (sVar 4)))) (sT (s2 fNe (sCall m_hall_text (sCons (sTup (sCons (sVar 5) (sCons (sCall fTuple (sCons (sSl (sVar 3) (sNoPart) (sPart (sC (.int (8))))) (sNil))) (sCons (sVar 6) (sNil))))) (sNil))) (sM1 fJoin (sC (.str (" | " : Str))) (sVar 4))))) (sRet (sC (.bl false))) (sSkip))))))))))) (sRet (sC (.bl true))))
end Rg
/-! RgS0: how the shallow functions are read: Rk, Sk and the rows that simp uses. -/
namespace Rg
open PySem L2
def Rk {A : Type} (r : Res A) (P : A → Store → Prop) : Prop := ∃ a S, r = .ok a S ∧ P a S
structure SPt where
  nx : Env → Store → Prop
  rt : D → Store → Prop
  bk : Env → Store → Prop := fun _ _ => False
  ct : Env → Store → Prop := fun _ _ => False
def Sk (r : ResS) (P : SPt) : Prop := match r with
  | .nx e S => P.nx e S
  | .rt d S => P.rt d S
  | .bk e S => P.bk e S
  | .ct e S => P.ct e S
  | _ => False
theorem Rk.imp {A : Type} {r : Res A} {P Q : A → Store → Prop} (h : Rk r P) (hi : ∀ a S, P a S → Q a S) : Rk r Q := by
  obtain ⟨a, S, e, p⟩ := h
  exact ⟨a, S, e, hi a S p⟩
theorem Rk.of {A : Type} {r : Res A} {a : A} {S : Store} {P : A → Store → Prop} (h : r = .ok a S) (p : P a S) : Rk r P := ⟨a, S, h, p⟩
@[simp] theorem rk_ok {A : Type} {a : A} {S : Store} {P : A → Store → Prop} : Rk (.ok a S) P ↔ P a S :=
  ⟨fun ⟨_, _, e, p⟩ => by cases e; exact p, fun p => ⟨a, S, rfl, p⟩⟩
@[simp] theorem rk_bad {A : Type} {P : A → Store → Prop} : Rk (.bad : Res A) P ↔ False := ⟨fun ⟨_, _, e, p⟩ => (by cases e), fun h => h.elim⟩
@[simp] theorem rk_exc {A : Type} {c : Str} {S : Store} {P : A → Store → Prop} : Rk (.exc c S : Res A) P ↔ False := ⟨fun ⟨_, _, e, p⟩ => (by cases e), fun h => h.elim⟩
@[simp] theorem rk_bind {A B : Type} {r : Res A} {f : A → Store → Res B} {P : B → Store → Prop} : Rk (r.bind f) P ↔ Rk r fun a S => Rk (f a S) P := by
  constructor
  · intro h
    cases r with
    | ok a S => exact ⟨a, S, rfl, h⟩
    | exc c S => obtain ⟨_, _, e, _⟩ := h; cases e
    | bad => obtain ⟨_, _, e, _⟩ := h; cases e
  · intro ⟨a, S, e, h⟩
    subst e
    exact h
@[simp] theorem rk_ite {A : Type} {c : Prop} [Decidable c] {r s : Res A} {P : A → Store → Prop} : Rk (if c then r else s) P ↔ (c → Rk r P) ∧ (¬c → Rk s P) := by
  by_cases h : c <;> simp [h]
@[simp] theorem sk_ite {c : Prop} [Decidable c] {r s : ResS} {P : SPt} : Sk (if c then r else s) P ↔ (c → Sk r P) ∧ (¬c → Sk s P) := by
  by_cases h : c <;> simp [h]
@[simp] theorem sk_nx {e : Env} {S : Store} {P : SPt} : Sk (.nx e S) P ↔ P.nx e S := Iff.rfl
@[simp] theorem sk_rt {d : D} {S : Store} {P : SPt} : Sk (.rt d S) P ↔ P.rt d S := Iff.rfl
@[simp] theorem sk_bk {d : Env} {S : Store} {P : SPt} : Sk (.bk d S) P ↔ P.bk d S := Iff.rfl
@[simp] theorem sk_ct {d : Env} {S : Store} {P : SPt} : Sk (.ct d S) P ↔ P.ct d S := Iff.rfl
@[simp] theorem sk_bad {P : SPt} : Sk .bad P ↔ False := Iff.rfl
@[simp] theorem sk_exc {c : Str} {e : Env} {S : Store} {P : SPt} : Sk (.exc c e S) P ↔ False := Iff.rfl
theorem Sk.imp {r : ResS} {P Q : SPt} (h : Sk r P) (h1 : ∀ e S, P.nx e S → Q.nx e S) (h2 : ∀ e S, P.rt e S → Q.rt e S) (h3 : ∀ e S, P.bk e S → Q.bk e S) (h4 : ∀ e S, P.ct e S → Q.ct e S) : Sk r Q := by
  cases r with
  | nx e S => exact h1 _ _ h
  | rt e S => exact h2 _ _ h
  | bk e S => exact h3 _ _ h
  | ct e S => exact h4 _ _ h
  | exc c e S => exact h
  | bad => exact h
@[simp] theorem sk_andS {A : Type} {r : Res A} {env : Env} {f : A → Store → ResS} {P : SPt} : Sk (r.andS env f) P ↔ Rk r fun a S => Sk (f a S) P := by
  constructor
  · intro h
    cases r with
    | ok a S => exact ⟨a, S, rfl, h⟩
    | exc c S => exact h.elim
    | bad => exact h.elim
  · intro ⟨a, S, e, h⟩
    subst e
    exact h
@[simp] theorem sk_seq {s t : SS} {env : Env} {S : Store} {P : SPt} : Sk (sSeq s t env S) P ↔ Sk (s env S) { P with nx := fun e S1 => Sk (t e S1) P } := by
  unfold sSeq
  cases s env S <;> exact Iff.rfl
theorem rk_def {n np : Nat} {body : SS} {ds : List D} {S : Store} {P : D → Store → Prop} : Rk (mkDef n np body ds S) P ↔ ds.length = np ∧ Sk (body (ds.map some ++ List.replicate (n - ds.length) none) S) { nx := fun _ S1 => Rk (gc S .non S1) P, rt := fun d S1 => Rk (gc S d S1) P } := by
  unfold mkDef
  by_cases h : ds.length = np
  · rw [if_pos h]
    constructor
    · intro q
      refine ⟨h, ?_⟩
      cases hb : body (ds.map some ++ List.replicate (n - ds.length) none) S <;> rw [hb] at q <;> first | exact q | (obtain ⟨_, _, e, _⟩ := q; cases e)
    · intro ⟨_, q⟩
      cases hb : body (ds.map some ++ List.replicate (n - ds.length) none) S <;> rw [hb] at q <;> first | exact q.elim | exact q
  · rw [if_neg h]
    constructor
    · intro ⟨_, _, e, _⟩; cases e
    · intro ⟨q, _⟩; exact absurd q h
theorem kept_app {S C : Store} : Kept S (S ++ C) := ⟨by simp, fun n hn => .inl (List.getElem?_append_left hn)⟩
theorem gc_under {S0 S1 : Store} {d : D} (k : Kept S0 S1) (h : d.fresh S0.length = none) : gc S0 d S1 = .ok d (S1.take S0.length) := by
  unfold gc
  rw [if_pos k, h]
theorem gc_self {S : Store} {d : D} (h : d.fresh S.length = none) : gc S d S = .ok d S := by
  rw [gc_under ⟨Nat.le_refl _, fun n _ => .inl rfl⟩ h, List.take_length]
theorem gc_app {S C : Store} {d : D} (h : d.fresh S.length = none) : gc S d (S ++ C) = .ok d S := by
  rw [gc_under kept_app h, List.take_left]
theorem gc_new {S C : Store} {d : D} {n : Nat} {l : List D} (h : d.fresh S.length = some n) (ho : d.only S.length n = true) (hl : (S ++ C)[n]? = some (.lst l)) (u : unders S.length l = true) : gc S d (S ++ C) = .ok (d.subst S.length) (S ++ [.lst l]) := by
  unfold gc
  rw [if_pos kept_app, h]
  dsimp only
  rw [if_pos ho, hl]
  dsimp only
  rw [if_pos u, List.take_left]
@[simp] theorem rk_call {m : Mf} {s : SA} {env : Env} {S : Store} {P : D → Store → Prop} : Rk (sCall m s env S) P ↔ Rk (s env S) fun ds S1 => Rk (m ds S1) P := rk_bind
@[simp] theorem rk_call0 {m : Mf} {env : Env} {S : Store} {P : D → Store → Prop} : Rk (sCall0 m env S) P ↔ Rk (m [] S) P := by
  unfold sCall0
  cases m [] S <;> simp
@[simp] theorem rk_s2 {f : D → D → Store → Res D} {sa sb : SE} {env : Env} {S : Store} {P : D → Store → Prop} : Rk (s2 f sa sb env S) P ↔ Rk (sa env S) fun d S1 => Rk (sb env S1) fun e S2 => Rk (f d e S2) P := by
  unfold s2; simp
@[simp] theorem rk_s1 {f : D → Store → Res D} {sa : SE} {env : Env} {S : Store} {P : D → Store → Prop} : Rk (s1 f sa env S) P ↔ Rk (sa env S) fun d S1 => Rk (f d S1) P := by
  unfold s1; simp
@[simp] theorem rk_C {d : D} {env : Env} {S : Store} {P : D → Store → Prop} : Rk (sC d env S) P ↔ P d S := rk_ok
@[simp] theorem rk_var {i : Nat} {env : Env} {S : Store} {P : D → Store → Prop} : Rk (sVar i env S) P ↔ ∃ d, env[i]? = some (some d) ∧ P d S := by
  unfold sVar
  split
  · rename_i d h
    rw [rk_ok]
    exact ⟨fun p => ⟨d, h, p⟩, fun ⟨d', h', p⟩ => by rw [h] at h'; cases h'; exact p⟩
  · rename_i h
    exact ⟨fun ⟨_, _, e, _⟩ => (by cases e), fun ⟨d, h', p⟩ => (h d h').elim⟩
@[simp] theorem rk_nil {env : Env} {S : Store} {P : List D → Store → Prop} : Rk (sNil env S) P ↔ P [] S := rk_ok
@[simp] theorem rk_cons {s : SE} {r : SA} {env : Env} {S : Store} {P : List D → Store → Prop} : Rk (sCons s r env S) P ↔ Rk (s env S) fun d S1 => Rk (r env S1) fun ds S2 => P (d :: ds) S2 := by
  unfold sCons; simp
@[simp] theorem rk_tup {s : SA} {env : Env} {S : Store} {P : D → Store → Prop} : Rk (sTup s env S) P ↔ Rk (s env S) fun ds S1 => ds.length ≤ sizeLine ∧ P (.tup ds) S1 := by
  unfold sTup; simp only [rk_bind, rk_ite, rk_ok, rk_bad]
  constructor
  · intro h; exact h.imp fun ds S q => by
      by_cases c : ds.length ≤ sizeLine
      · exact ⟨c, q.1 c⟩
      · exact (q.2 c).elim
  · intro h; exact h.imp fun ds S q => ⟨fun _ => q.2, fun c => c q.1⟩
@[simp] theorem rk_lst {s : SA} {env : Env} {S : Store} {P : D → Store → Prop} : Rk (sLst s env S) P ↔ Rk (s env S) fun ds S1 => ds.length ≤ sizeLine ∧ P (.ref S1.length) (S1 ++ [.lst ds]) := by
  unfold sLst; simp only [rk_bind, rk_ite, rk_ok, rk_bad]
  constructor
  · intro h; exact h.imp fun ds S q => by
      by_cases c : ds.length ≤ sizeLine
      · exact ⟨c, q.1 c⟩
      · exact (q.2 c).elim
  · intro h; exact h.imp fun ds S q => ⟨fun _ => q.2, fun c => c q.1⟩
def onB (d : D) (P : Bool → Prop) : Prop := match d with
  | .bl b => P b
  | _ => False
@[simp] theorem onB_bl {b : Bool} {P : Bool → Prop} : onB (.bl b) P ↔ P b := Iff.rfl
@[simp] theorem rk_T {s : SE} {env : Env} {S : Store} {P : Bool → Store → Prop} : Rk (sT s env S) P ↔ Rk (s env S) fun d S1 => onB d fun b => P b S1 := by
  unfold sT; simp only [rk_bind]
  constructor
  · intro h; exact h.imp fun d S q => by
      cases d <;> simp_all [onB]
  · intro h; exact h.imp fun d S q => by cases d <;> simp_all [onB]
@[simp] theorem rk_not {s : ST} {env : Env} {S : Store} {P : Bool → Store → Prop} : Rk (sNot s env S) P ↔ Rk (s env S) fun b S1 => P (!b) S1 := by
  unfold sNot; simp
@[simp] theorem rk_and {s t : ST} {env : Env} {S : Store} {P : Bool → Store → Prop} : Rk (sAnd s t env S) P ↔ Rk (s env S) fun b S1 => (b = true → Rk (t env S1) P) ∧ (b = false → P false S1) := by
  unfold sAnd; simp
@[simp] theorem rk_or {s t : ST} {env : Env} {S : Store} {P : Bool → Store → Prop} : Rk (sOr s t env S) P ↔ Rk (s env S) fun b S1 => (b = true → P true S1) ∧ (b = false → Rk (t env S1) P) := by
  unfold sOr; simp
@[simp] theorem rk_andV {s t : SE} {env : Env} {S : Store} {P : D → Store → Prop} : Rk (sAndV s t env S) P ↔ Rk (s env S) fun d S1 => onB d fun b => (b = true → Rk (t env S1) P) ∧ (b = false → P (.bl false) S1) := by
  unfold sAndV; simp only [rk_bind]
  constructor
  · intro h; exact h.imp fun d S q => by
      cases d with
      | bl b => cases b <;> simp_all [onB]
      | _ => simp_all [onB]
  · intro h; exact h.imp fun d S q => by
      cases d with
      | bl b => cases b <;> simp_all [onB]
      | _ => simp_all [onB]
@[simp] theorem rk_orV {s t : SE} {env : Env} {S : Store} {P : D → Store → Prop} : Rk (sOrV s t env S) P ↔ Rk (s env S) fun d S1 => onB d fun b => (b = true → P (.bl true) S1) ∧ (b = false → Rk (t env S1) P) := by
  unfold sOrV; simp only [rk_bind]
  constructor
  · intro h; exact h.imp fun d S q => by
      cases d with
      | bl b => cases b <;> simp_all [onB]
      | _ => simp_all [onB]
  · intro h; exact h.imp fun d S q => by
      cases d with
      | bl b => cases b <;> simp_all [onB]
      | _ => simp_all [onB]
@[simp] theorem rk_if {t : ST} {sa sb : SE} {env : Env} {S : Store} {P : D → Store → Prop} : Rk (sIf t sa sb env S) P ↔ Rk (t env S) fun b S1 => (b = true → Rk (sa env S1) P) ∧ (b = false → Rk (sb env S1) P) := by
  unfold sIf; simp
/-! ### statements -/
@[simp] theorem sk_skip {env : Env} {S : Store} {P : SPt} : Sk (sSkip env S) P ↔ P.nx env S := Iff.rfl
@[simp] theorem sk_break {env : Env} {S : Store} {P : SPt} : Sk (sBreak env S) P ↔ P.bk env S := Iff.rfl
@[simp] theorem sk_cont {env : Env} {S : Store} {P : SPt} : Sk (sCont env S) P ↔ P.ct env S := Iff.rfl
@[simp] theorem sk_never {env : Env} {S : Store} {P : SPt} : Sk (sNever env S) P ↔ False := Iff.rfl
@[simp] theorem sk_drop {s : SE} {env : Env} {S : Store} {P : SPt} : Sk (sDrop s env S) P ↔ Rk (s env S) fun _ S1 => P.nx env S1 := by unfold sDrop; simp
@[simp] theorem sk_ret {s : SE} {env : Env} {S : Store} {P : SPt} : Sk (sRet s env S) P ↔ Rk (s env S) fun d S1 => P.rt d S1 := by unfold sRet; simp
@[simp] theorem sk_retN {env : Env} {S : Store} {P : SPt} : Sk (sRetN env S) P ↔ P.rt .non S := Iff.rfl
@[simp] theorem sk_ifS {c : ST} {s t : SS} {env : Env} {S : Store} {P : SPt} : Sk (sIfS c s t env S) P ↔ Rk (c env S) fun b S1 => (b = true → Sk (s env S1) P) ∧ (b = false → Sk (t env S1) P) := by
  unfold sIfS; simp
@[simp] theorem sk_set {i : Nat} {s : SE} {env : Env} {S : Store} {P : SPt} : Sk (sSet i s env S) P ↔ Rk (s env S) fun d S1 => P.nx (env.set i (some d)) S1 := by unfold sSet; simp
def on2 (ds : List D) (P : D → D → Prop) : Prop := match ds with
  | [d, e] => P d e
  | _ => False
@[simp] theorem on2_mk {d e : D} {P : D → D → Prop} : on2 [d, e] P ↔ P d e := Iff.rfl
def on3 (ds : List D) (P : D → D → D → Prop) : Prop := match ds with
  | [d, e, f] => P d e f
  | _ => False
@[simp] theorem on3_mk {d e f : D} {P : D → D → D → Prop} : on3 [d, e, f] P ↔ P d e f := Iff.rfl
def onRI (o i : D) (P : Nat → Int → Prop) : Prop := match o, i with
  | .ref n, .int k => P n k
  | _, _ => False
@[simp] theorem onRI_mk {n : Nat} {k : Int} {P : Nat → Int → Prop} : onRI (.ref n) (.int k) P ↔ P n k := Iff.rfl
@[simp] theorem sk_par {i j : Nat} {s : SA} {env : Env} {S : Store} {P : SPt} : Sk (sPar i j s env S) P ↔ Rk (s env S) fun ds S1 => on2 ds fun d e => P.nx ((env.set i (some d)).set j (some e)) S1 := by
  unfold sPar; simp only [sk_andS]
  constructor
  · intro h; exact h.imp fun ds S q => by
      split at q
      · exact q
      · exact q.elim
  · intro h; exact h.imp fun ds S q => by
      unfold on2 at q
      split at q
      · exact q
      · exact q.elim
@[simp] theorem sk_par3 {i j l : Nat} {s : SA} {env : Env} {S : Store} {P : SPt} : Sk (sPar3 i j l s env S) P ↔ Rk (s env S) fun ds S1 => on3 ds fun d e f => P.nx (((env.set i (some d)).set j (some e)).set l (some f)) S1 := by
  unfold sPar3; simp only [sk_andS]
  constructor
  · intro h; exact h.imp fun ds S q => by
      split at q
      · exact q
      · exact q.elim
  · intro h; exact h.imp fun ds S q => by
      unfold on3 at q
      split at q
      · exact q
      · exact q.elim
@[simp] theorem sk_asg {s : SE} {g : SG} {env : Env} {S : Store} {P : SPt} : Sk (sAsg s g env S) P ↔ Rk (s env S) fun d S1 => ∃ e, g d env S1 = some e ∧ P.nx e S1 := by
  unfold sAsg; simp only [sk_andS]
  constructor
  · intro h; exact h.imp fun d S q => by
      split at q
      · rename_i e he; exact ⟨e, he, q⟩
      · exact q.elim
  · intro h; exact h.imp fun d S ⟨e, he, q⟩ => by rw [he]; exact q
@[simp] theorem gN_some {i : Nat} {d : D} {env e : Env} {S : Store} : gN i d env S = some e ↔ env.set i (some d) = e := by unfold gN; simp
@[simp] theorem gN_def {i : Nat} {d : D} {env : Env} {S : Store} : gN i d env S = some (env.set i (some d)) := rfl
@[simp] theorem gsNil_def {env : Env} {S : Store} : gsNil [] env S = some env := rfl
@[simp] theorem gsCons_def {g : SG} {r : List D → Env → Store → Option Env} {d : D} {l : List D} {env : Env} {S : Store} : gsCons g r (d :: l) env S = (g d env S).bind fun e => r l e S := rfl
@[simp] theorem gT_def {n : Nat} {r : List D → Env → Store → Option Env} {l : List D} {env : Env} {S : Store} : gT n r (.tup l) env S = if l.length = n then r l env S else none := rfl
@[simp] theorem sk_setIx {se so si : SE} {env : Env} {S : Store} {P : SPt} : Sk (sSetIx se so si env S) P ↔ Rk (se env S) fun d S1 => Rk (so env S1) fun o S2 => Rk (si env S2) fun i S3 =>
    onRI o i fun n k => ∃ l, S3[n]? = some (.lst l) ∧ ∃ j, ixN l.length k = some j ∧ P.nx env (S3.set n (.lst (l.set j d))) := by
  unfold sSetIx; simp only [sk_andS]
  constructor
  · intro h; exact h.imp fun d S q => q.imp fun o S q => q.imp fun i S q => by
      cases o with
      | ref n =>
        cases i with
        | int k =>
          dsimp only at q
          split at q
          · rename_i l hl
            split at q
            · rename_i j hj
              exact ⟨l, hl, j, hj, q⟩
            · exact q.elim
          · exact q.elim
        | _ => exact q.elim
      | _ => exact q.elim
  · intro h; exact h.imp fun d S q => q.imp fun o S q => q.imp fun i S q => by
      unfold onRI at q
      split at q
      · obtain ⟨l, h3, j, h4, q9⟩ := q
        try dsimp only
        rw [h3]
        try dsimp only
        rw [h4]
        exact q9
      · exact q.elim
/-! ### values -/
@[simp] theorem rk_fI {g : Int → Int → Int} {i j : Int} {S : Store} {P : D → Store → Prop} : Rk (fI g (.int i) (.int j) S) P ↔ P (.int (g i j)) S := rk_ok
@[simp] theorem rk_fIB {g : Int → Int → Bool} {i j : Int} {S : Store} {P : D → Store → Prop} : Rk (fIB g (.int i) (.int j) S) P ↔ P (.bl (g i j)) S := rk_ok
@[simp] theorem rk_fIC {C : Int → Int → Prop} {g : Int → Int → Int} {i j : Int} {S : Store} {P : D → Store → Prop} : Rk (fIC C g (.int i) (.int j) S) P ↔ C i j ∧ P (.int (g i j)) S := by
  unfold fIC
  by_cases h : C i j <;> simp [h]
@[simp] theorem rk_plusI {i j : Int} {S : Store} {P : D → Store → Prop} : Rk (fPlus (.int i) (.int j) S) P ↔ P (.int (i + j)) S := by
  unfold fPlus; simp
@[simp] theorem rk_plusT {x y : List D} {S : Store} {P : D → Store → Prop} : Rk (fPlus (.tup x) (.tup y) S) P ↔ x.length + y.length ≤ sizeLine ∧ P (.tup (x ++ y)) S := by
  unfold fPlus
  by_cases h : x.length + y.length ≤ sizeLine <;> simp [h]
@[simp] theorem rk_plusL {m n : Nat} {S : Store} {P : D → Store → Prop} : Rk (fPlus (.ref m) (.ref n) S) P ↔ ∃ x y, lstOf S m = some x ∧ lstOf S n = some y ∧ x.length + y.length ≤ sizeLine ∧ P (.ref S.length) (S ++ [.lst (x ++ y)]) := by
  unfold fPlus
  dsimp only
  split
  · rename_i x y h1 h2
    by_cases h : x.length + y.length ≤ sizeLine
    · rw [if_pos h, rk_ok]
      exact ⟨fun p => ⟨x, y, h1, h2, h, p⟩, fun ⟨x', y', e1, e2, _, p⟩ => by rw [h1] at e1; rw [h2] at e2; cases e1; cases e2; exact p⟩
    · rw [if_neg h, rk_bad]
      exact ⟨fun p => p.elim, fun ⟨x', y', e1, e2, z, p⟩ => by rw [h1] at e1; rw [h2] at e2; cases e1; cases e2; exact h z⟩
  · rename_i h
    rw [rk_bad]
    exact ⟨fun p => p.elim, fun ⟨x', y', e1, e2, z, p⟩ => h _ _ e1 e2⟩
@[simp] theorem rk_neg {i : Int} {S : Store} {P : D → Store → Prop} : Rk (fNeg (.int i) S) P ↔ P (.int (-i)) S := rk_ok
@[simp] theorem rk_fnot {b : Bool} {S : Store} {P : D → Store → Prop} : Rk (fNot (.bl b) S) P ↔ P (.bl (!b)) S := rk_ok
@[simp] theorem rk_isN {d : D} {S : Store} {P : D → Store → Prop} : Rk (fIsN d S) P ↔ P (.bl d.isNon) S := rk_ok
@[simp] theorem rk_notN {d : D} {S : Store} {P : D → Store → Prop} : Rk (fNotN d S) P ↔ P (.bl (!d.isNon)) S := rk_ok
@[simp] theorem rk_isB {a b : Bool} {S : Store} {P : D → Store → Prop} : Rk (fIsB (.bl a) (.bl b) S) P ↔ P (.bl (decide (a = b))) S := rk_ok
@[simp] theorem rk_notB {a b : Bool} {S : Store} {P : D → Store → Prop} : Rk (fNotB (.bl a) (.bl b) S) P ↔ P (.bl (!decide (a = b))) S := rk_ok
@[simp] theorem rk_ixT {l : List D} {i : Int} {S : Store} {P : D → Store → Prop} : Rk (fIx (.tup l) (.int i) S) P ↔ ∃ x, atI l i = some x ∧ P x S := by
  unfold fIx
  cases h : atI l i <;> simp [h]
@[simp] theorem rk_ixL {n : Nat} {i : Int} {S : Store} {P : D → Store → Prop} : Rk (fIx (.ref n) (.int i) S) P ↔ ∃ l x, lstOf S n = some l ∧ atI l i = some x ∧ P x S := by
  unfold fIx
  cases h : lstOf S n with
  | none => simp [h]
  | some l => cases h2 : atI l i <;> simp [h, h2]
@[simp] theorem rk_abs {i : Int} {S : Store} {P : D → Store → Prop} : Rk (fAbs [.int i] S) P ↔ P (.int (i.natAbs : Int)) S := rk_ok
@[simp] theorem rk_max2 {i j : Int} {S : Store} {P : D → Store → Prop} : Rk (fMax2 [.int i, .int j] S) P ↔ P (.int (max i j)) S := rk_ok
@[simp] theorem rk_min2 {i j : Int} {S : Store} {P : D → Store → Prop} : Rk (fMin2 [.int i, .int j] S) P ↔ P (.int (min i j)) S := rk_ok
@[simp] theorem rk_intI {i : Int} {S : Store} {P : D → Store → Prop} : Rk (fInt [.int i] S) P ↔ P (.int i) S := rk_ok
@[simp] theorem rk_intB {b : Bool} {S : Store} {P : D → Store → Prop} : Rk (fInt [.bl b] S) P ↔ P (.int (if b then 1 else 0)) S := rk_ok
@[simp] theorem rk_bits {i : Int} {S : Store} {P : D → Store → Prop} : Rk (fBits (.int i) S) P ↔ P (.int (Builtin.Int.intBits i : Nat)) S := rk_ok
@[simp] theorem rk_lenT {l : List D} {S : Store} {P : D → Store → Prop} : Rk (fLen [.tup l] S) P ↔ P (.int (l.length : Nat)) S := rk_ok
@[simp] theorem rk_lenL {n : Nat} {S : Store} {P : D → Store → Prop} : Rk (fLen [.ref n] S) P ↔ ∃ l, lstOf S n = some l ∧ P (.int (l.length : Nat)) S := by
  unfold fLen
  cases h : lstOf S n <;> simp [h]
@[simp] theorem rk_isi {c : Ty} {d : D} {S : Store} {P : D → Store → Prop} : Rk (fIsi c d S) P ↔ ∃ t, tyOf S d = some t ∧ P (.bl (t.isa c)) S := by
  unfold fIsi
  cases h : tyOf S d <;> simp [h]
@[simp] theorem rk_isi2 {c c' : Ty} {d : D} {S : Store} {P : D → Store → Prop} : Rk (fIsi2 c c' d S) P ↔ ∃ t, tyOf S d = some t ∧ P (.bl (t.isa c || t.isa c')) S := by
  unfold fIsi2
  cases h : tyOf S d <;> simp [h]
@[simp] theorem ty_non {S : Store} : tyOf S .non = some .non := rfl
@[simp] theorem ty_bl {S : Store} {b : Bool} : tyOf S (.bl b) = some .bl := rfl
@[simp] theorem ty_int {S : Store} {b : Int} : tyOf S (.int b) = some .int := rfl
@[simp] theorem ty_str {S : Store} {b : Str} : tyOf S (.str b) = some .str := rfl
@[simp] theorem ty_tup {S : Store} {b : List D} : tyOf S (.tup b) = some .tup := rfl
@[simp] theorem rk_eq {d e : D} {S : Store} {P : D → Store → Prop} : Rk (fEq d e S) P ↔ ∃ x y, toP S 60 d = some x ∧ toP S 60 e = some y ∧ P (.bl (PyData.eqv x y)) S := by
  unfold fEq
  cases h : toP S 60 d <;> cases h' : toP S 60 e <;> simp
@[simp] theorem rk_ne {d e : D} {S : Store} {P : D → Store → Prop} : Rk (fNe d e S) P ↔ ∃ x y, toP S 60 d = some x ∧ toP S 60 e = some y ∧ P (.bl (!PyData.eqv x y)) S := by
  unfold fNe
  cases h : toP S 60 d <;> cases h' : toP S 60 e <;> simp
@[simp] theorem toP_int {S : Store} {k : Nat} {i : Int} : toP S k (.int i) = some (.int i) := by cases k <;> rfl
@[simp] theorem toP_bl {S : Store} {k : Nat} {i : Bool} : toP S k (.bl i) = some (.bool i) := by cases k <;> rfl
@[simp] theorem toP_non {S : Store} {k : Nat} : toP S k .non = some .none := by cases k <;> rfl
@[simp] theorem toP_str {S : Store} {k : Nat} {z : Str} : toP S k (.str z) = if PyData.strOk z then some (.str z) else none := by cases k <;> rfl
@[simp] theorem toP_tup {S : Store} {k : Nat} {l : List D} : toP S (k + 1) (.tup l) = (allP (toP S k) l).map .tuple := rfl
@[simp] theorem toP_tup60 {S : Store} {l : List D} : toP S 60 (.tup l) = (allP (toP S 59) l).map .tuple := rfl
@[simp] theorem toP_tup59 {S : Store} {l : List D} : toP S 59 (.tup l) = (allP (toP S 58) l).map .tuple := rfl
@[simp] theorem toP_tup58 {S : Store} {l : List D} : toP S 58 (.tup l) = (allP (toP S 57) l).map .tuple := rfl
@[simp] theorem allP_nil {f : D → Option PyData} : allP f [] = some [] := rfl
@[simp] theorem allP_cons {f : D → Option PyData} {d : D} {l : List D} : allP f (d :: l) = match f d, allP f l with
  | some x, some r => some (x :: r)
  | _, _ => none := rfl
@[simp] theorem ev_int {i j : Int} : PyData.eqv (.int i) (.int j) = decide (i = j) := by unfold PyData.eqv; exact Bool.beq_eq_decide_eq _ _
@[simp] theorem ev_bl {i j : Bool} : PyData.eqv (.bool i) (.bool j) = decide (i = j) := by unfold PyData.eqv; exact Bool.beq_eq_decide_eq _ _
@[simp] theorem ev_str {i j : Str} : PyData.eqv (.str i) (.str j) = decide (i = j) := by unfold PyData.eqv; exact Bool.beq_eq_decide_eq _ _
@[simp] theorem ev_tup {i j : List PyData} : PyData.eqv (.tuple i) (.tuple j) = PyData.eqvAll i j := by rw [PyData.eqv]
@[simp] theorem ev_lst {i j : List PyData} : PyData.eqv (.list i) (.list j) = PyData.eqvAll i j := by rw [PyData.eqv]
@[simp] theorem ev_nn : PyData.eqv .none .none = true := by rw [PyData.eqv]
@[simp] theorem ev_nt {i : List PyData} : PyData.eqv .none (.tuple i) = false := by rw [PyData.eqv]
@[simp] theorem ev_tn {i : List PyData} : PyData.eqv (.tuple i) .none = false := by rw [PyData.eqv]
@[simp] theorem ev_all0 : PyData.eqvAll [] [] = true := by rw [PyData.eqvAll]
@[simp] theorem ev_all1 {x y : PyData} {xs ys : List PyData} : PyData.eqvAll (x :: xs) (y :: ys) = (PyData.eqv x y && PyData.eqvAll xs ys) := by rw [PyData.eqvAll]
@[simp] theorem ev_all2 {x : PyData} {xs : List PyData} : PyData.eqvAll (x :: xs) [] = false := by rw [PyData.eqvAll]
@[simp] theorem ev_all3 {x : PyData} {xs : List PyData} : PyData.eqvAll [] (x :: xs) = false := by rw [PyData.eqvAll]
@[simp] theorem rk_append {n : Nat} {y : D} {S : Store} {P : D → Store → Prop} : Rk (fAppend (.ref n) [y] S) P ↔ ∃ l, S[n]? = some (.lst l) ∧ l.length < sizeLine ∧ P .non (S.set n (.lst (l ++ [y]))) := by
  unfold fAppend
  dsimp only
  split
  · rename_i l hl
    by_cases h : l.length < sizeLine <;> simp [h, hl]
  · rename_i h
    constructor
    · intro ⟨_, _, e, _⟩; cases e
    · intro ⟨l, e, _⟩; exact absurd e (h l)
@[simp] theorem rk_methL {f : D → List D → Store → Res D} {so : SE} {sr : SA} {env : Env} {S : Store} {P : D → Store → Prop} : Rk (sMethL f so sr env S) P ↔ Rk (so env S) fun d S1 => isLst S1 d = true ∧ Rk (sr env S1) fun ds S2 => Rk (f d ds S2) P := by
  unfold sMethL; simp only [rk_bind, rk_ite, rk_bad]
  constructor
  · intro h; exact h.imp fun d S q => by
      by_cases c : isLst S d = true
      · exact ⟨c, q.1 c⟩
      · exact (q.2 c).elim
  · intro h; exact h.imp fun ds S q => ⟨fun _ => q.2, fun c => c q.1⟩
theorem lstOf_lst {S : Store} {n : Nat} {l : List D} (h : S[n]? = some (.lst l)) : lstOf S n = some l := by unfold lstOf; rw [h]
theorem lstOf_fro {S : Store} {n : Nat} {l : List D} (h : S[n]? = some (.fro l)) : lstOf S n = some l := by unfold lstOf; rw [h]
@[simp] theorem lstOf_new {S : Store} {l : List D} : lstOf (S ++ [.lst l]) S.length = some l := lstOf_lst (by simp)
@[simp] theorem rk_iterT {s : SE} {env : Env} {S : Store} {P : Wk → Store → Prop} : Rk (sIter s env S) P ↔ Rk (s env S) fun d S1 => Rk (fIter d S1) P := by unfold sIter; simp
@[simp] theorem rk_fIterT {l : List D} {S : Store} {P : Wk → Store → Prop} : Rk (fIter (.tup l) S) P ↔ P ⟨l, fun _ => True⟩ S := rk_ok
@[simp] theorem rk_fIterL {n : Nat} {S : Store} {P : Wk → Store → Prop} : Rk (fIter (.ref n) S) P ↔ ∃ l, lstOf S n = some l ∧ P ⟨l, fun S => lstOf S n = some l⟩ S := by
  unfold fIter
  cases h : lstOf S n <;> simp [h]
@[simp] theorem rk_rng {f : List D → Store → Res Wk} {s : SA} {env : Env} {S : Store} {P : Wk → Store → Prop} : Rk (sRng f s env S) P ↔ Rk (s env S) fun ds S1 => Rk (f ds S1) P := by unfold sRng; simp
@[simp] theorem rk_rng1 {j : Int} {S : Store} {P : Wk → Store → Prop} : Rk (fRng1 [.int j] S) P ↔ (-(2 ^ 62) ≤ j ∧ j < 2 ^ 62) ∧ P ⟨rangeD 0 j.toNat, fun _ => True⟩ S := by
  unfold fRng1
  dsimp only
  split
  · rename_i h; rw [rk_ok]; exact ⟨fun q => ⟨h, q⟩, fun q => q.2⟩
  · rename_i h; rw [rk_bad]; exact ⟨fun q => q.elim, fun q => h q.1⟩
/-! ### loops -/
theorem sk_for {si : SI} {g : SG} {b : SS} {env : Env} {S : Store} {P : SPt} : Sk (sFor si g b env S) P ↔ Rk (si env S) fun w S1 => Sk (forRun g b w.chk w.items env S1) P := by unfold sFor; simp
/-- a for by an invariant of the turn: every turn ends in the next one, or returns, or breaks -/
theorem sk_forRun {g : SG} {b : SS} {chk : Store → Prop} {P : SPt} (I : Nat → Env → Store → Prop) (items : List D) (hchk : ∀ i e S, I i e S → chk S)
    (turn : ∀ i d e S, items[i]? = some d → I i e S → ∃ e', g d e S = some e' ∧ Sk (b e' S) { nx := I (i + 1), rt := P.rt, bk := P.nx, ct := I (i + 1) })
    (hend : ∀ e S, I items.length e S → P.nx e S) (env : Env) (S : Store) (h0 : I 0 env S) : Sk (forRun g b chk items env S) P := by
  have key : ∀ (l : List D) (i : Nat) (e : Env) (S : Store), items.drop i = l → I i e S → i ≤ items.length → Sk (forRun g b chk l e S) P := by
    intro l
    induction l with
    | nil =>
      intro i e S hd hi hl
      unfold forRun
      rw [if_pos (hchk i e S hi)]
      have : items.length ≤ i := by simpa using hd
      have : i = items.length := by omega
      subst this
      exact hend e S hi
    | cons d l ih =>
      intro i e S hd hi hl
      unfold forRun
      rw [if_pos (hchk i e S hi)]
      have hg : items[i]? = some d := by
        have := congrArg (fun x => x[0]?) hd
        simpa using this
      have hd' : items.drop (i + 1) = l := by
        have := congrArg (List.drop 1) hd
        simpa using this
      have hl' : i + 1 ≤ items.length := (List.getElem?_eq_some_iff.mp hg).1
      obtain ⟨e', h1, h2⟩ := turn i d e S hg hi
      rw [h1]
      dsimp only
      cases hb : b e' S with
      | nx e2 S2 => rw [hb] at h2; exact ih (i + 1) e2 S2 hd' h2 hl'
      | ct e2 S2 => rw [hb] at h2; exact ih (i + 1) e2 S2 hd' h2 hl'
      | bk e2 S2 => rw [hb] at h2; exact h2
      | rt e2 S2 => rw [hb] at h2; exact h2
      | exc x e2 S2 => rw [hb] at h2; exact h2.elim
      | bad => rw [hb] at h2; exact h2.elim
  exact key items 0 env S rfl h0 (Nat.zero_le _)
/-- a while by an invariant and a measure -/
theorem sk_while {c : ST} {b : SS} {P : SPt} (I : Env → Store → Prop) (μ : Env → Store → Nat)
    (turn : ∀ e S, I e S → Rk (c e S) fun k S1 => (k = true → Sk (b e S1) { nx := fun e2 S2 => I e2 S2 ∧ μ e2 S2 < μ e S, rt := P.rt, bk := P.nx, ct := fun e2 S2 => I e2 S2 ∧ μ e2 S2 < μ e S }) ∧ (k = false → P.nx e S1))
    (env : Env) (S : Store) (h0 : I env S) : Sk (sWhile c b env S) P := by
  have key : ∀ (n : Nat) (e : Env) (S : Store), μ e S = n → I e S → Sk (sWhile c b e S) P := by
    intro n
    induction n using Nat.strongRecOn with
    | ind n ih =>
      intro e S hn hi
      obtain ⟨k, S1, hc, h1, h2⟩ := turn e S hi
      rw [sWhile_eq, hc]
      cases k with
      | false => exact h2 rfl
      | true =>
        have h1 := h1 rfl
        dsimp only
        cases hb : b e S1 with
        | nx e2 S2 => rw [hb] at h1; exact ih _ (hn ▸ h1.2) e2 S2 rfl h1.1
        | ct e2 S2 => rw [hb] at h1; exact ih _ (hn ▸ h1.2) e2 S2 rfl h1.1
        | bk e2 S2 => rw [hb] at h1; exact h1
        | rt e2 S2 => rw [hb] at h1; exact h1
        | exc x e2 S2 => rw [hb] at h1; exact h1.elim
        | bad => rw [hb] at h1; exact h1.elim
  exact key _ env S rfl h0
/-- a comprehension by what each item gives: the new list at n0 grows -/
theorem rk_comp {si : SI} {g : SG} {t : ST} {e : SE} {vs : List Nat} {env : Env} {S : Store} {P : D → Store → Prop} : Rk (sComp si g t e vs env S) P ↔ Rk (si env S) fun w S1 => Rk (compRun g t e w.chk S1.length (wipeD env vs) w.items (S1 ++ [.lst []])) fun _ S2 => P (.ref S1.length) S2 := by unfold sComp; simp
theorem rk_compRun {g : SG} {t : ST} {e : SE} {chk : Store → Prop} {n0 : Nat} {env : Env} {P : Unit → Store → Prop} (I : Nat → Store → Prop) (items : List D) (hchk : ∀ i S, I i S → chk S)
    (turn : ∀ i d S, items[i]? = some d → I i S → ∃ e', g d env S = some e' ∧ Rk (t e' S) fun b S1 => (b = true → Rk (e e' S1) fun y S2 => ∃ acc, S2[n0]? = some (.lst acc) ∧ acc.length < sizeLine ∧ I (i + 1) (S2.set n0 (.lst (acc ++ [y])))) ∧ (b = false → I (i + 1) S1))
    (hend : ∀ S, I items.length S → P () S) (S : Store) (h0 : I 0 S) : Rk (compRun g t e chk n0 env items S) P := by
  have key : ∀ (l : List D) (i : Nat) (S : Store), items.drop i = l → I i S → i ≤ items.length → Rk (compRun g t e chk n0 env l S) P := by
    intro l
    induction l with
    | nil =>
      intro i S hd hi hl
      unfold compRun
      rw [if_pos (hchk i S hi)]
      have : items.length ≤ i := by simpa using hd
      have : i = items.length := by omega
      subst this
      exact rk_ok.mpr (hend S hi)
    | cons d l ih =>
      intro i S hd hi hl
      unfold compRun
      rw [if_pos (hchk i S hi)]
      have hg : items[i]? = some d := by
        have := congrArg (fun x => x[0]?) hd
        simpa using this
      have hd' : items.drop (i + 1) = l := by
        have := congrArg (List.drop 1) hd
        simpa using this
      have hl' : i + 1 ≤ items.length := (List.getElem?_eq_some_iff.mp hg).1
      obtain ⟨e', h1, b, S1, h2, h3, h4⟩ := turn i d S hg hi
      rw [h1]
      dsimp only
      rw [h2]
      cases b with
      | false => exact ih (i + 1) S1 hd' (h4 rfl) hl'
      | true =>
        obtain ⟨y, S2, h5, acc, h6, h7, h8⟩ := h3 rfl
        dsimp only
        rw [h5]
        dsimp only
        rw [h6]
        dsimp only
        rw [if_pos h7]
        exact ih (i + 1) _ hd' h8 hl'
  exact key items 0 S rfl h0 (Nat.zero_le _)
@[simp] theorem sk_forNil {g : SG} {b : SS} {chk : Store → Prop} {env : Env} {S : Store} {P : SPt} : Sk (forRun g b chk [] env S) P ↔ chk S ∧ P.nx env S := by
  unfold forRun
  by_cases h : chk S <;> simp [h]
@[simp] theorem sk_forCons {g : SG} {b : SS} {chk : Store → Prop} {d : D} {l : List D} {env : Env} {S : Store} {P : SPt} : Sk (forRun g b chk (d :: l) env S) P ↔ chk S ∧ ∃ e', g d env S = some e' ∧
    Sk (b e' S) { nx := fun e S1 => Sk (forRun g b chk l e S1) P, rt := P.rt, bk := P.nx, ct := fun e S1 => Sk (forRun g b chk l e S1) P } := by
  conv => lhs; unfold forRun
  by_cases h : chk S
  · simp only [h, if_true, true_and]
    cases hg : g d env S with
    | none => simp
    | some e =>
      simp only [Option.some.injEq, exists_eq_left']
      cases hb : b e S <;> simp
  · simp [h]
@[simp] theorem rk_compNil {g : SG} {t : ST} {e : SE} {chk : Store → Prop} {n0 : Nat} {env : Env} {S : Store} {P : Unit → Store → Prop} : Rk (compRun g t e chk n0 env [] S) P ↔ chk S ∧ P () S := by
  unfold compRun
  by_cases h : chk S <;> simp [h]
@[simp] theorem rk_compCons {g : SG} {t : ST} {e : SE} {chk : Store → Prop} {n0 : Nat} {env : Env} {d : D} {l : List D} {S : Store} {P : Unit → Store → Prop} : Rk (compRun g t e chk n0 env (d :: l) S) P ↔ chk S ∧ ∃ e', g d env S = some e' ∧
    Rk (t e' S) fun b S1 => (b = true → Rk (e e' S1) fun y S2 => ∃ acc, S2[n0]? = some (.lst acc) ∧ acc.length < sizeLine ∧ Rk (compRun g t e chk n0 env l (S2.set n0 (.lst (acc ++ [y])))) P) ∧ (b = false → Rk (compRun g t e chk n0 env l S1) P) := by
  conv => lhs; unfold compRun
  by_cases h : chk S
  · simp only [h, if_true, true_and]
    cases hg : g d env S with
    | none => simp
    | some e1 =>
      simp only [Option.some.injEq, exists_eq_left']
      cases ht : t e1 S with
      | exc c S1 => simp
      | bad => simp
      | ok b S1 =>
        cases b with
        | false => simp
        | true =>
          simp only [rk_ok, forall_const, Bool.true_eq_false, false_implies, and_true]
          cases he : e e1 S1 with
          | exc c S2 => simp
          | bad => simp
          | ok y S2 =>
            simp only [rk_ok]
            split
            · rename_i acc hacc
              by_cases hz : acc.length < sizeLine <;> simp [hz, hacc]
            · rename_i hno
              rw [rk_bad]
              exact ⟨fun h => h.elim, fun ⟨acc, h1, _⟩ => hno acc h1⟩
  · simp [h]
@[simp] theorem rk_yes {env : Env} {S : Store} {P : Bool → Store → Prop} : Rk (sYes env S) P ↔ P true S := rk_ok
/-- a comprehension whose elements leave the store alone -/
theorem comp_plain0 {g : SG} {t : ST} {e : SE} {chk : Store → Prop} {env : Env} {items : List D} {S : Store} {P : Unit → Store → Prop} (f : D → Option D)
    (step : ∀ d ∈ items, ∀ acc : List D, ∃ e', g d env (S ++ [.lst acc]) = some e' ∧ Rk (t e' (S ++ [.lst acc])) fun b S2 => S2 = S ++ [.lst acc] ∧ (b = true → Rk (e e' (S ++ [.lst acc])) fun y S3 => S3 = S ++ [.lst acc] ∧ f d = some y) ∧ (b = false → f d = none))
    (hchk : ∀ acc, chk (S ++ [.lst acc])) (hlen : items.length ≤ sizeLine) (hP : P () (S ++ [.lst (items.filterMap f)])) : Rk (compRun g t e chk S.length env items (S ++ [.lst []])) P := by
  have key : ∀ (l : List D) (acc : List D), (∀ d ∈ l, d ∈ items) → acc.length + l.length ≤ sizeLine → P () (S ++ [.lst (acc ++ l.filterMap f)]) → Rk (compRun g t e chk S.length env l (S ++ [.lst acc])) P := by
    intro l
    induction l with
    | nil =>
      intro acc _ _ h
      rw [rk_compNil]
      exact ⟨hchk acc, by simpa using h⟩
    | cons d l ih =>
      intro acc hm hz h
      rw [rk_compCons]
      obtain ⟨e', h1, b, S2, h2, rfl, h3, h4⟩ := step d (hm d (by simp)) acc
      refine ⟨hchk acc, e', h1, b, _, h2, fun hb => ?_, fun hb => ?_⟩
      · obtain ⟨y, S3, q1, rfl, q2⟩ := h3 hb
        refine ⟨y, _, q1, acc, by simp, by simp at hz; omega, ?_⟩
        have : (S ++ [Cell.lst acc]).set S.length (.lst (acc ++ [y])) = S ++ [.lst (acc ++ [y])] := by
          rw [List.set_append_right _ _ (Nat.le_refl _)]; simp
        rw [this]
        refine ih _ (fun x hx => hm x (by simp [hx])) (by simp at hz ⊢; omega) ?_
        simpa [q2] using h
      · refine ih _ (fun x hx => hm x (by simp [hx])) (by simp at hz; omega) ?_
        simpa [h4 hb] using h
  exact key items [] (fun _ h => h) (by simpa using hlen) (by simpa using hP)
theorem boolsD_map {A : Type} {l : List A} {p : A → Bool} : boolsD (l.map fun x => D.bl (p x)) = some (l.map p) := by
  induction l with
  | nil => rfl
  | cons a l ih => simp [boolsD, ih]
@[simp] theorem boolsD_nil : boolsD [] = some [] := rfl
@[simp] theorem boolsD_cons {b : Bool} {l : List D} : boolsD (.bl b :: l) = (boolsD l).map (b :: ·) := rfl
@[simp] theorem intsD_nil : intsD [] = some [] := rfl
@[simp] theorem intsD_cons {b : Int} {l : List D} : intsD (.int b :: l) = (intsD l).map (b :: ·) := rfl
theorem intsD_map {A : Type} {l : List A} {p : A → Int} : intsD (l.map fun x => D.int (p x)) = some (l.map p) := by
  induction l with
  | nil => rfl
  | cons a l ih => simp [intsD, ih]
@[simp] theorem rk_all {n : Nat} {S : Store} {P : D → Store → Prop} : Rk (fAll [.ref n] S) P ↔ ∃ l bs, lstOf S n = some l ∧ boolsD l = some bs ∧ P (.bl (bs.all id)) S := by
  unfold fAll lst1
  cases h : lstOf S n with
  | none => simp [h]
  | some l => cases h2 : boolsD l <;> simp [h, h2]
@[simp] theorem rk_any {n : Nat} {S : Store} {P : D → Store → Prop} : Rk (fAny [.ref n] S) P ↔ ∃ l bs, lstOf S n = some l ∧ boolsD l = some bs ∧ P (.bl (bs.any id)) S := by
  unfold fAny lst1
  cases h : lstOf S n with
  | none => simp [h]
  | some l => cases h2 : boolsD l <;> simp [h, h2]
@[simp] theorem rk_sum {n : Nat} {S : Store} {P : D → Store → Prop} : Rk (fSum [.ref n] S) P ↔ ∃ l bs, lstOf S n = some l ∧ intsD l = some bs ∧ P (.int bs.sum) S := by
  unfold fSum lst1
  cases h : lstOf S n with
  | none => simp [h]
  | some l => cases h2 : intsD l <;> simp [h, h2]
@[simp] theorem rk_tupleT {l : List D} {S : Store} {P : D → Store → Prop} : Rk (fTuple [.tup l] S) P ↔ P (.tup l) S := rk_ok
@[simp] theorem rk_tupleL {n : Nat} {S : Store} {P : D → Store → Prop} : Rk (fTuple [.ref n] S) P ↔ ∃ l, lstOf S n = some l ∧ P (.tup l) S := by
  unfold fTuple
  cases h : lstOf S n <;> simp [h]
@[simp] theorem rk_listT {l : List D} {S : Store} {P : D → Store → Prop} : Rk (fList [.tup l] S) P ↔ P (.ref S.length) (S ++ [.lst l]) := rk_ok
@[simp] theorem rk_listL {n : Nat} {S : Store} {P : D → Store → Prop} : Rk (fList [.ref n] S) P ↔ ∃ l, lstOf S n = some l ∧ P (.ref S.length) (S ++ [.lst l]) := by
  unfold fList
  cases h : lstOf S n <;> simp [h]
@[simp] theorem rk_zipL {n m : Nat} {S : Store} {P : Wk → Store → Prop} : Rk (fZip [.ref n, .ref m] S) P ↔ ∃ l k, lstOf S n = some l ∧ lstOf S m = some k ∧ P ⟨zipD l k, fun S => lstOf S n = some l ∧ lstOf S m = some k⟩ S := by
  unfold fZip
  cases h : lstOf S n <;> cases h2 : lstOf S m <;> simp [h, h2]
@[simp] theorem rk_zipT {l k : List D} {S : Store} {P : Wk → Store → Prop} : Rk (fZip [.tup l, .tup k] S) P ↔ P ⟨zipD l k, fun _ => True⟩ S := rk_ok
@[simp] theorem zipD_nil {k : List D} : zipD [] k = [] := rfl
@[simp] theorem zipD_cons {a b : D} {l k : List D} : zipD (a :: l) (b :: k) = .tup [a, b] :: zipD l k := rfl
@[simp] theorem rk_rng2 {i j : Int} {S : Store} {P : Wk → Store → Prop} : Rk (fRng2 [.int i, .int j] S) P ↔ (-(2 ^ 62) ≤ i ∧ i < 2 ^ 62 ∧ -(2 ^ 62) ≤ j ∧ j < 2 ^ 62) ∧ P ⟨rangeD i (j - i).toNat, fun _ => True⟩ S := by
  unfold fRng2
  dsimp only
  split
  · rename_i h; rw [rk_ok]; exact ⟨fun q => ⟨h, q⟩, fun q => q.2⟩
  · rename_i h; rw [rk_bad]; exact ⟨fun q => q.elim, fun q => h q.1⟩
@[simp] theorem wipeD_nil {env : Env} : wipeD env [] = env := rfl
@[simp] theorem wipeD_cons {env : Env} {v : Nat} {vs : List Nat} : wipeD env (v :: vs) = (wipeD env vs).set v none := rfl
@[simp] theorem rk_sl {s : SE} {lo hi : SO} {env : Env} {S : Store} {P : D → Store → Prop} : Rk (sSl s lo hi env S) P ↔ Rk (s env S) fun d S1 => Rk (lo env S1) fun l S2 => Rk (hi env S2) fun h S3 => Rk (fSl d l h S3) P := by unfold sSl; simp
@[simp] theorem rk_noPart {env : Env} {S : Store} {P : Option Int → Store → Prop} : Rk (sNoPart env S) P ↔ P none S := rk_ok
def onI (d : D) (P : Int → Prop) : Prop := match d with
  | .int i => P i
  | _ => False
@[simp] theorem onI_mk {i : Int} {P : Int → Prop} : onI (.int i) P ↔ P i := Iff.rfl
@[simp] theorem rk_part {s : SE} {env : Env} {S : Store} {P : Option Int → Store → Prop} : Rk (sPart s env S) P ↔ Rk (s env S) fun d S1 => onI d fun i => P (some i) S1 := by
  unfold sPart
  simp only [rk_bind]
  constructor
  · intro h; exact h.imp fun d S q => by cases d <;> simp_all [onI]
  · intro h; exact h.imp fun d S q => by cases d <;> simp_all [onI]
@[simp] theorem rk_slT {l : List D} {lo hi : Option Int} {S : Store} {P : D → Store → Prop} : Rk (fSl (.tup l) lo hi S) P ↔ P (.tup (cutL l lo hi)) S := rk_ok
@[simp] theorem rk_slL {n : Nat} {lo hi : Option Int} {S : Store} {P : D → Store → Prop} : Rk (fSl (.ref n) lo hi S) P ↔ ∃ l, lstOf S n = some l ∧ P (.ref S.length) (S ++ [.lst (cutL l lo hi)]) := by
  unfold fSl
  cases h : lstOf S n <;> simp [h]
@[simp] theorem gT_tup {n : Nat} {r : List D → Env → Store → Option Env} {l : List D} {env : Env} {S : Store} : gT n r (.tup l) env S = if l.length = n then r l env S else none := rfl
@[simp] theorem rk_revT {s : SE} {env : Env} {S : Store} {P : Wk → Store → Prop} : Rk (sRev s env S) P ↔ Rk (s env S) fun d S1 => Rk (fRev d S1) P := by unfold sRev; simp
@[simp] theorem rk_fRevT {l : List D} {S : Store} {P : Wk → Store → Prop} : Rk (fRev (.tup l) S) P ↔ P ⟨l.reverse, fun _ => True⟩ S := rk_ok
@[simp] theorem rk_fRevL {n : Nat} {S : Store} {P : Wk → Store → Prop} : Rk (fRev (.ref n) S) P ↔ ∃ l, lstOf S n = some l ∧ P ⟨l.reverse, fun S => lstOf S n = some l⟩ S := by
  unfold fRev
  cases h : lstOf S n <;> simp [h]
@[simp] theorem rk_revL {n : Nat} {S : Store} {P : D → Store → Prop} : Rk (fRevL (.ref n) S) P ↔ ∃ l, lstOf S n = some l ∧ P (.ref S.length) (S ++ [.lst l.reverse]) := by
  unfold fRevL
  cases h : lstOf S n <;> simp [h]
@[simp] theorem rk_zipTL {l : List D} {m : Nat} {S : Store} {P : Wk → Store → Prop} : Rk (fZip [.tup l, .ref m] S) P ↔ ∃ k, lstOf S m = some k ∧ P ⟨zipD l k, fun S => lstOf S m = some k⟩ S := by
  unfold fZip
  cases h : lstOf S m <;> simp [h]
@[simp] theorem rk_enumT {l : List D} {S : Store} {P : Wk → Store → Prop} : Rk (fEnum [.tup l] S) P ↔ P ⟨enumD l, fun _ => True⟩ S := rk_ok
@[simp] theorem rk_listRevT {l : List D} {S : Store} {P : D → Store → Prop} : Rk (fListRev (.tup l) S) P ↔ P (.ref S.length) (S ++ [.lst l.reverse]) := rk_ok
@[simp] theorem rk_listRevL {n : Nat} {S : Store} {P : D → Store → Prop} : Rk (fListRev (.ref n) S) P ↔ ∃ l, lstOf S n = some l ∧ P (.ref S.length) (S ++ [.lst l.reverse]) := by
  unfold fListRev
  cases h : lstOf S n <;> simp [h]
@[simp] theorem rk_callD {m : Mf} {dv : List Int} {s : SA} {env : Env} {S : Store} {P : D → Store → Prop} : Rk (sCallD m dv s env S) P ↔ Rk (s env S) fun ds S1 => Rk (m (ds ++ dv.map D.int) S1) P := rk_bind
@[simp] theorem rk_revRng {s : SE} {env : Env} {S : Store} {P : Wk → Store → Prop} : Rk (sRevRng s env S) P ↔ Rk (s env S) fun d S1 => Rk (fRevRng1 [d] S1) P := by unfold sRevRng; simp
@[simp] theorem rk_revRng1 {j : Int} {S : Store} {P : Wk → Store → Prop} : Rk (fRevRng1 [.int j] S) P ↔ (-(2 ^ 62) ≤ j ∧ j < 2 ^ 62) ∧ P ⟨(rangeD 0 j.toNat).reverse, fun _ => True⟩ S := by
  unfold fRevRng1
  dsimp only
  split
  · rename_i h; rw [rk_ok]; exact ⟨fun q => ⟨h, q⟩, fun q => q.2⟩
  · rename_i h; rw [rk_bad]; exact ⟨fun q => q.elim, fun q => h q.1⟩
end Rg
/-! RgS: how the shallow functions are read; what follows waits. -/
namespace Rg
open PySem L2
/-- what follows waits: simp does not go into it -/
structure Tag {A : Sort _} (P : A) : Type where
  mk ::
def Rok {A : Type} (r : Res A) (P : A → Store → Prop) (_t : Tag P := .mk) : Prop := Rk r P
def Sok (r : ResS) (P : SPt) (_t : Tag P := .mk) : Prop := Sk r P
theorem Rok.imp {A : Type} {r : Res A} {P Q : A → Store → Prop} (h : Rok r P) (hi : ∀ a S, P a S → Q a S) : Rok r Q := Rk.imp h hi
theorem Rok.of {A : Type} {r : Res A} {a : A} {S : Store} {P : A → Store → Prop} (h : r = .ok a S) (p : P a S) : Rok r P := Rk.of h p
@[simp] theorem rok_ok {A : Type} {a : A} {S : Store} {P : A → Store → Prop} : Rok (.ok a S) P ↔ P a S := rk_ok
@[simp] theorem rok_bad {A : Type} {P : A → Store → Prop} : Rok (.bad : Res A) P ↔ False := rk_bad
@[simp] theorem rok_exc {A : Type} {c : Str} {S : Store} {P : A → Store → Prop} : Rok (.exc c S : Res A) P ↔ False := rk_exc
@[simp] theorem rok_bind {A B : Type} {r : Res A} {f : A → Store → Res B} {P : B → Store → Prop} : Rok (r.bind f) P ↔ Rok r fun a S => Rok (f a S) P := rk_bind
@[simp] theorem rok_ite {A : Type} {c : Prop} [Decidable c] {r s : Res A} {P : A → Store → Prop} : Rok (if c then r else s) P ↔ (c → Rok r P) ∧ (¬c → Rok s P) := rk_ite
@[simp] theorem sok_ite {c : Prop} [Decidable c] {r s : ResS} {P : SPt} : Sok (if c then r else s) P ↔ (c → Sok r P) ∧ (¬c → Sok s P) := sk_ite
@[simp] theorem sok_nx {e : Env} {S : Store} {P : SPt} : Sok (.nx e S) P ↔ P.nx e S := sk_nx
@[simp] theorem sok_rt {d : D} {S : Store} {P : SPt} : Sok (.rt d S) P ↔ P.rt d S := sk_rt
@[simp] theorem sok_bk {d : Env} {S : Store} {P : SPt} : Sok (.bk d S) P ↔ P.bk d S := sk_bk
@[simp] theorem sok_ct {d : Env} {S : Store} {P : SPt} : Sok (.ct d S) P ↔ P.ct d S := sk_ct
@[simp] theorem sok_bad {P : SPt} : Sok .bad P ↔ False := sk_bad
@[simp] theorem sok_exc {c : Str} {e : Env} {S : Store} {P : SPt} : Sok (.exc c e S) P ↔ False := sk_exc
theorem Sok.imp {r : ResS} {P Q : SPt} (h : Sok r P) (h1 : ∀ e S, P.nx e S → Q.nx e S) (h2 : ∀ e S, P.rt e S → Q.rt e S) (h3 : ∀ e S, P.bk e S → Q.bk e S) (h4 : ∀ e S, P.ct e S → Q.ct e S) : Sok r Q := Sk.imp h h1 h2 h3 h4
@[simp] theorem sok_andS {A : Type} {r : Res A} {env : Env} {f : A → Store → ResS} {P : SPt} : Sok (r.andS env f) P ↔ Rok r fun a S => Sok (f a S) P := sk_andS
@[simp] theorem sok_seq {s t : SS} {env : Env} {S : Store} {P : SPt} : Sok (sSeq s t env S) P ↔ Sok (s env S) { P with nx := fun e S1 => Sok (t e S1) P } := sk_seq
theorem rok_def {n np : Nat} {body : SS} {ds : List D} {S : Store} {P : D → Store → Prop} : Rok (mkDef n np body ds S) P ↔ ds.length = np ∧ Sok (body (ds.map some ++ List.replicate (n - ds.length) none) S) { nx := fun _ S1 => Rok (gc S .non S1) P, rt := fun d S1 => Rok (gc S d S1) P } := rk_def
@[simp] theorem rok_call {m : Mf} {s : SA} {env : Env} {S : Store} {P : D → Store → Prop} : Rok (sCall m s env S) P ↔ Rok (s env S) fun ds S1 => Rok (m ds S1) P := rk_call
@[simp] theorem rok_call0 {m : Mf} {env : Env} {S : Store} {P : D → Store → Prop} : Rok (sCall0 m env S) P ↔ Rok (m [] S) P := rk_call0
@[simp] theorem rok_s2 {f : D → D → Store → Res D} {sa sb : SE} {env : Env} {S : Store} {P : D → Store → Prop} : Rok (s2 f sa sb env S) P ↔ Rok (sa env S) fun d S1 => Rok (sb env S1) fun e S2 => Rok (f d e S2) P := rk_s2
@[simp] theorem rok_s1 {f : D → Store → Res D} {sa : SE} {env : Env} {S : Store} {P : D → Store → Prop} : Rok (s1 f sa env S) P ↔ Rok (sa env S) fun d S1 => Rok (f d S1) P := rk_s1
@[simp] theorem rok_C {d : D} {env : Env} {S : Store} {P : D → Store → Prop} : Rok (sC d env S) P ↔ P d S := rk_C
@[simp] theorem rok_var {i : Nat} {env : Env} {S : Store} {P : D → Store → Prop} : Rok (sVar i env S) P ↔ ∃ d, env[i]? = some (some d) ∧ P d S := rk_var
@[simp] theorem rok_nil {env : Env} {S : Store} {P : List D → Store → Prop} : Rok (sNil env S) P ↔ P [] S := rk_nil
@[simp] theorem rok_cons {s : SE} {r : SA} {env : Env} {S : Store} {P : List D → Store → Prop} : Rok (sCons s r env S) P ↔ Rok (s env S) fun d S1 => Rok (r env S1) fun ds S2 => P (d :: ds) S2 := rk_cons
@[simp] theorem rok_tup {s : SA} {env : Env} {S : Store} {P : D → Store → Prop} : Rok (sTup s env S) P ↔ Rok (s env S) fun ds S1 => ds.length ≤ sizeLine ∧ P (.tup ds) S1 := rk_tup
@[simp] theorem rok_lst {s : SA} {env : Env} {S : Store} {P : D → Store → Prop} : Rok (sLst s env S) P ↔ Rok (s env S) fun ds S1 => ds.length ≤ sizeLine ∧ P (.ref S1.length) (S1 ++ [.lst ds]) := rk_lst
@[simp] theorem rok_T {s : SE} {env : Env} {S : Store} {P : Bool → Store → Prop} : Rok (sT s env S) P ↔ Rok (s env S) fun d S1 => onB d fun b => P b S1 := rk_T
@[simp] theorem rok_not {s : ST} {env : Env} {S : Store} {P : Bool → Store → Prop} : Rok (sNot s env S) P ↔ Rok (s env S) fun b S1 => P (!b) S1 := rk_not
@[simp] theorem rok_and {s t : ST} {env : Env} {S : Store} {P : Bool → Store → Prop} : Rok (sAnd s t env S) P ↔ Rok (s env S) fun b S1 => (b = true → Rok (t env S1) P) ∧ (b = false → P false S1) := rk_and
@[simp] theorem rok_or {s t : ST} {env : Env} {S : Store} {P : Bool → Store → Prop} : Rok (sOr s t env S) P ↔ Rok (s env S) fun b S1 => (b = true → P true S1) ∧ (b = false → Rok (t env S1) P) := rk_or
@[simp] theorem rok_andV {s t : SE} {env : Env} {S : Store} {P : D → Store → Prop} : Rok (sAndV s t env S) P ↔ Rok (s env S) fun d S1 => onB d fun b => (b = true → Rok (t env S1) P) ∧ (b = false → P (.bl false) S1) := rk_andV
@[simp] theorem rok_orV {s t : SE} {env : Env} {S : Store} {P : D → Store → Prop} : Rok (sOrV s t env S) P ↔ Rok (s env S) fun d S1 => onB d fun b => (b = true → P (.bl true) S1) ∧ (b = false → Rok (t env S1) P) := rk_orV
@[simp] theorem rok_if {t : ST} {sa sb : SE} {env : Env} {S : Store} {P : D → Store → Prop} : Rok (sIf t sa sb env S) P ↔ Rok (t env S) fun b S1 => (b = true → Rok (sa env S1) P) ∧ (b = false → Rok (sb env S1) P) := rk_if
@[simp] theorem sok_skip {env : Env} {S : Store} {P : SPt} : Sok (sSkip env S) P ↔ P.nx env S := sk_skip
@[simp] theorem sok_break {env : Env} {S : Store} {P : SPt} : Sok (sBreak env S) P ↔ P.bk env S := sk_break
@[simp] theorem sok_cont {env : Env} {S : Store} {P : SPt} : Sok (sCont env S) P ↔ P.ct env S := sk_cont
@[simp] theorem sok_never {env : Env} {S : Store} {P : SPt} : Sok (sNever env S) P ↔ False := sk_never
@[simp] theorem sok_drop {s : SE} {env : Env} {S : Store} {P : SPt} : Sok (sDrop s env S) P ↔ Rok (s env S) fun _ S1 => P.nx env S1 := sk_drop
@[simp] theorem sok_ret {s : SE} {env : Env} {S : Store} {P : SPt} : Sok (sRet s env S) P ↔ Rok (s env S) fun d S1 => P.rt d S1 := sk_ret
@[simp] theorem sok_retN {env : Env} {S : Store} {P : SPt} : Sok (sRetN env S) P ↔ P.rt .non S := sk_retN
@[simp] theorem sok_ifS {c : ST} {s t : SS} {env : Env} {S : Store} {P : SPt} : Sok (sIfS c s t env S) P ↔ Rok (c env S) fun b S1 => (b = true → Sok (s env S1) P) ∧ (b = false → Sok (t env S1) P) := sk_ifS
@[simp] theorem sok_set {i : Nat} {s : SE} {env : Env} {S : Store} {P : SPt} : Sok (sSet i s env S) P ↔ Rok (s env S) fun d S1 => P.nx (env.set i (some d)) S1 := sk_set
@[simp] theorem sok_par {i j : Nat} {s : SA} {env : Env} {S : Store} {P : SPt} : Sok (sPar i j s env S) P ↔ Rok (s env S) fun ds S1 => on2 ds fun d e => P.nx ((env.set i (some d)).set j (some e)) S1 := sk_par
@[simp] theorem sok_par3 {i j l : Nat} {s : SA} {env : Env} {S : Store} {P : SPt} : Sok (sPar3 i j l s env S) P ↔ Rok (s env S) fun ds S1 => on3 ds fun d e f => P.nx (((env.set i (some d)).set j (some e)).set l (some f)) S1 := sk_par3
@[simp] theorem sok_asg {s : SE} {g : SG} {env : Env} {S : Store} {P : SPt} : Sok (sAsg s g env S) P ↔ Rok (s env S) fun d S1 => ∃ e, g d env S1 = some e ∧ P.nx e S1 := sk_asg
@[simp] theorem sok_setIx {se so si : SE} {env : Env} {S : Store} {P : SPt} : Sok (sSetIx se so si env S) P ↔ Rok (se env S) fun d S1 => Rok (so env S1) fun o S2 => Rok (si env S2) fun i S3 =>
    onRI o i fun n k => ∃ l, S3[n]? = some (.lst l) ∧ ∃ j, ixN l.length k = some j ∧ P.nx env (S3.set n (.lst (l.set j d))) := sk_setIx
@[simp] theorem rok_fI {g : Int → Int → Int} {i j : Int} {S : Store} {P : D → Store → Prop} : Rok (fI g (.int i) (.int j) S) P ↔ P (.int (g i j)) S := rk_fI
@[simp] theorem rok_fIB {g : Int → Int → Bool} {i j : Int} {S : Store} {P : D → Store → Prop} : Rok (fIB g (.int i) (.int j) S) P ↔ P (.bl (g i j)) S := rk_fIB
@[simp] theorem rok_fIC {C : Int → Int → Prop} {g : Int → Int → Int} {i j : Int} {S : Store} {P : D → Store → Prop} : Rok (fIC C g (.int i) (.int j) S) P ↔ C i j ∧ P (.int (g i j)) S := rk_fIC
@[simp] theorem rok_plusI {i j : Int} {S : Store} {P : D → Store → Prop} : Rok (fPlus (.int i) (.int j) S) P ↔ P (.int (i + j)) S := rk_plusI
@[simp] theorem rok_plusT {x y : List D} {S : Store} {P : D → Store → Prop} : Rok (fPlus (.tup x) (.tup y) S) P ↔ x.length + y.length ≤ sizeLine ∧ P (.tup (x ++ y)) S := rk_plusT
@[simp] theorem rok_plusL {m n : Nat} {S : Store} {P : D → Store → Prop} : Rok (fPlus (.ref m) (.ref n) S) P ↔ ∃ x y, lstOf S m = some x ∧ lstOf S n = some y ∧ x.length + y.length ≤ sizeLine ∧ P (.ref S.length) (S ++ [.lst (x ++ y)]) := rk_plusL
@[simp] theorem rok_neg {i : Int} {S : Store} {P : D → Store → Prop} : Rok (fNeg (.int i) S) P ↔ P (.int (-i)) S := rk_neg
@[simp] theorem rok_fnot {b : Bool} {S : Store} {P : D → Store → Prop} : Rok (fNot (.bl b) S) P ↔ P (.bl (!b)) S := rk_fnot
@[simp] theorem rok_isN {d : D} {S : Store} {P : D → Store → Prop} : Rok (fIsN d S) P ↔ P (.bl d.isNon) S := rk_isN
@[simp] theorem rok_notN {d : D} {S : Store} {P : D → Store → Prop} : Rok (fNotN d S) P ↔ P (.bl (!d.isNon)) S := rk_notN
@[simp] theorem rok_isB {a b : Bool} {S : Store} {P : D → Store → Prop} : Rok (fIsB (.bl a) (.bl b) S) P ↔ P (.bl (decide (a = b))) S := rk_isB
@[simp] theorem rok_notB {a b : Bool} {S : Store} {P : D → Store → Prop} : Rok (fNotB (.bl a) (.bl b) S) P ↔ P (.bl (!decide (a = b))) S := rk_notB
@[simp] theorem rok_ixT {l : List D} {i : Int} {S : Store} {P : D → Store → Prop} : Rok (fIx (.tup l) (.int i) S) P ↔ ∃ x, atI l i = some x ∧ P x S := rk_ixT
@[simp] theorem rok_ixL {n : Nat} {i : Int} {S : Store} {P : D → Store → Prop} : Rok (fIx (.ref n) (.int i) S) P ↔ ∃ l x, lstOf S n = some l ∧ atI l i = some x ∧ P x S := rk_ixL
@[simp] theorem rok_abs {i : Int} {S : Store} {P : D → Store → Prop} : Rok (fAbs [.int i] S) P ↔ P (.int (i.natAbs : Int)) S := rk_abs
@[simp] theorem rok_max2 {i j : Int} {S : Store} {P : D → Store → Prop} : Rok (fMax2 [.int i, .int j] S) P ↔ P (.int (max i j)) S := rk_max2
@[simp] theorem rok_min2 {i j : Int} {S : Store} {P : D → Store → Prop} : Rok (fMin2 [.int i, .int j] S) P ↔ P (.int (min i j)) S := rk_min2
@[simp] theorem rok_intI {i : Int} {S : Store} {P : D → Store → Prop} : Rok (fInt [.int i] S) P ↔ P (.int i) S := rk_intI
@[simp] theorem rok_intB {b : Bool} {S : Store} {P : D → Store → Prop} : Rok (fInt [.bl b] S) P ↔ P (.int (if b then 1 else 0)) S := rk_intB
@[simp] theorem rok_bits {i : Int} {S : Store} {P : D → Store → Prop} : Rok (fBits (.int i) S) P ↔ P (.int (Builtin.Int.intBits i : Nat)) S := rk_bits
@[simp] theorem rok_lenT {l : List D} {S : Store} {P : D → Store → Prop} : Rok (fLen [.tup l] S) P ↔ P (.int (l.length : Nat)) S := rk_lenT
@[simp] theorem rok_lenL {n : Nat} {S : Store} {P : D → Store → Prop} : Rok (fLen [.ref n] S) P ↔ ∃ l, lstOf S n = some l ∧ P (.int (l.length : Nat)) S := rk_lenL
@[simp] theorem rok_isi {c : Ty} {d : D} {S : Store} {P : D → Store → Prop} : Rok (fIsi c d S) P ↔ ∃ t, tyOf S d = some t ∧ P (.bl (t.isa c)) S := rk_isi
@[simp] theorem rok_isi2 {c c' : Ty} {d : D} {S : Store} {P : D → Store → Prop} : Rok (fIsi2 c c' d S) P ↔ ∃ t, tyOf S d = some t ∧ P (.bl (t.isa c || t.isa c')) S := rk_isi2
@[simp] theorem rok_eq {d e : D} {S : Store} {P : D → Store → Prop} : Rok (fEq d e S) P ↔ ∃ x y, toP S 60 d = some x ∧ toP S 60 e = some y ∧ P (.bl (PyData.eqv x y)) S := rk_eq
@[simp] theorem rok_ne {d e : D} {S : Store} {P : D → Store → Prop} : Rok (fNe d e S) P ↔ ∃ x y, toP S 60 d = some x ∧ toP S 60 e = some y ∧ P (.bl (!PyData.eqv x y)) S := rk_ne
@[simp] theorem rok_append {n : Nat} {y : D} {S : Store} {P : D → Store → Prop} : Rok (fAppend (.ref n) [y] S) P ↔ ∃ l, S[n]? = some (.lst l) ∧ l.length < sizeLine ∧ P .non (S.set n (.lst (l ++ [y]))) := rk_append
@[simp] theorem rok_methL {f : D → List D → Store → Res D} {so : SE} {sr : SA} {env : Env} {S : Store} {P : D → Store → Prop} : Rok (sMethL f so sr env S) P ↔ Rok (so env S) fun d S1 => isLst S1 d = true ∧ Rok (sr env S1) fun ds S2 => Rok (f d ds S2) P := rk_methL
@[simp] theorem rok_iterT {s : SE} {env : Env} {S : Store} {P : Wk → Store → Prop} : Rok (sIter s env S) P ↔ Rok (s env S) fun d S1 => Rok (fIter d S1) P := rk_iterT
@[simp] theorem rok_fIterT {l : List D} {S : Store} {P : Wk → Store → Prop} : Rok (fIter (.tup l) S) P ↔ P ⟨l, fun _ => True⟩ S := rk_fIterT
@[simp] theorem rok_fIterL {n : Nat} {S : Store} {P : Wk → Store → Prop} : Rok (fIter (.ref n) S) P ↔ ∃ l, lstOf S n = some l ∧ P ⟨l, fun S => lstOf S n = some l⟩ S := rk_fIterL
@[simp] theorem rok_rng {f : List D → Store → Res Wk} {s : SA} {env : Env} {S : Store} {P : Wk → Store → Prop} : Rok (sRng f s env S) P ↔ Rok (s env S) fun ds S1 => Rok (f ds S1) P := rk_rng
@[simp] theorem rok_rng1 {j : Int} {S : Store} {P : Wk → Store → Prop} : Rok (fRng1 [.int j] S) P ↔ (-(2 ^ 62) ≤ j ∧ j < 2 ^ 62) ∧ P ⟨rangeD 0 j.toNat, fun _ => True⟩ S := rk_rng1
theorem sok_for {si : SI} {g : SG} {b : SS} {env : Env} {S : Store} {P : SPt} : Sok (sFor si g b env S) P ↔ Rok (si env S) fun w S1 => Sok (forRun g b w.chk w.items env S1) P := sk_for
theorem sok_forRun {g : SG} {b : SS} {chk : Store → Prop} {P : SPt} (I : Nat → Env → Store → Prop) (items : List D) (hchk : ∀ i e S, I i e S → chk S)
    (turn : ∀ i d e S, items[i]? = some d → I i e S → ∃ e', g d e S = some e' ∧ Sok (b e' S) { nx := I (i + 1), rt := P.rt, bk := P.nx, ct := I (i + 1) })
    (hend : ∀ e S, I items.length e S → P.nx e S) (env : Env) (S : Store) (h0 : I 0 env S) : Sok (forRun g b chk items env S) P := sk_forRun I items hchk turn hend env S h0
theorem sok_while {c : ST} {b : SS} {P : SPt} (I : Env → Store → Prop) (μ : Env → Store → Nat)
    (turn : ∀ e S, I e S → Rok (c e S) fun k S1 => (k = true → Sok (b e S1) { nx := fun e2 S2 => I e2 S2 ∧ μ e2 S2 < μ e S, rt := P.rt, bk := P.nx, ct := fun e2 S2 => I e2 S2 ∧ μ e2 S2 < μ e S }) ∧ (k = false → P.nx e S1))
    (env : Env) (S : Store) (h0 : I env S) : Sok (sWhile c b env S) P := sk_while I μ turn env S h0
theorem rok_comp {si : SI} {g : SG} {t : ST} {e : SE} {vs : List Nat} {env : Env} {S : Store} {P : D → Store → Prop} : Rok (sComp si g t e vs env S) P ↔ Rok (si env S) fun w S1 => Rok (compRun g t e w.chk S1.length (wipeD env vs) w.items (S1 ++ [.lst []])) fun _ S2 => P (.ref S1.length) S2 := rk_comp
theorem rok_compRun {g : SG} {t : ST} {e : SE} {chk : Store → Prop} {n0 : Nat} {env : Env} {P : Unit → Store → Prop} (I : Nat → Store → Prop) (items : List D) (hchk : ∀ i S, I i S → chk S)
    (turn : ∀ i d S, items[i]? = some d → I i S → ∃ e', g d env S = some e' ∧ Rok (t e' S) fun b S1 => (b = true → Rok (e e' S1) fun y S2 => ∃ acc, S2[n0]? = some (.lst acc) ∧ acc.length < sizeLine ∧ I (i + 1) (S2.set n0 (.lst (acc ++ [y])))) ∧ (b = false → I (i + 1) S1))
    (hend : ∀ S, I items.length S → P () S) (S : Store) (h0 : I 0 S) : Rok (compRun g t e chk n0 env items S) P := rk_compRun I items hchk turn hend S h0
@[simp] theorem sok_forNil {g : SG} {b : SS} {chk : Store → Prop} {env : Env} {S : Store} {P : SPt} : Sok (forRun g b chk [] env S) P ↔ chk S ∧ P.nx env S := sk_forNil
@[simp] theorem sok_forCons {g : SG} {b : SS} {chk : Store → Prop} {d : D} {l : List D} {env : Env} {S : Store} {P : SPt} : Sok (forRun g b chk (d :: l) env S) P ↔ chk S ∧ ∃ e', g d env S = some e' ∧
    Sok (b e' S) { nx := fun e S1 => Sok (forRun g b chk l e S1) P, rt := P.rt, bk := P.nx, ct := fun e S1 => Sok (forRun g b chk l e S1) P } := sk_forCons
@[simp] theorem rok_compNil {g : SG} {t : ST} {e : SE} {chk : Store → Prop} {n0 : Nat} {env : Env} {S : Store} {P : Unit → Store → Prop} : Rok (compRun g t e chk n0 env [] S) P ↔ chk S ∧ P () S := rk_compNil
@[simp] theorem rok_compCons {g : SG} {t : ST} {e : SE} {chk : Store → Prop} {n0 : Nat} {env : Env} {d : D} {l : List D} {S : Store} {P : Unit → Store → Prop} : Rok (compRun g t e chk n0 env (d :: l) S) P ↔ chk S ∧ ∃ e', g d env S = some e' ∧
    Rok (t e' S) fun b S1 => (b = true → Rok (e e' S1) fun y S2 => ∃ acc, S2[n0]? = some (.lst acc) ∧ acc.length < sizeLine ∧ Rok (compRun g t e chk n0 env l (S2.set n0 (.lst (acc ++ [y])))) P) ∧ (b = false → Rok (compRun g t e chk n0 env l S1) P) := rk_compCons
@[simp] theorem rok_yes {env : Env} {S : Store} {P : Bool → Store → Prop} : Rok (sYes env S) P ↔ P true S := rk_yes
theorem comp_plain {g : SG} {t : ST} {e : SE} {chk : Store → Prop} {env : Env} {items : List D} {S : Store} {P : Unit → Store → Prop} (f : D → Option D)
    (step : ∀ d ∈ items, ∀ acc : List D, ∃ e', g d env (S ++ [.lst acc]) = some e' ∧ Rok (t e' (S ++ [.lst acc])) fun b S2 => S2 = S ++ [.lst acc] ∧ (b = true → Rok (e e' (S ++ [.lst acc])) fun y S3 => S3 = S ++ [.lst acc] ∧ f d = some y) ∧ (b = false → f d = none))
    (hchk : ∀ acc, chk (S ++ [.lst acc])) (hlen : items.length ≤ sizeLine) (hP : P () (S ++ [.lst (items.filterMap f)])) : Rok (compRun g t e chk S.length env items (S ++ [.lst []])) P := comp_plain0 f step hchk hlen hP
@[simp] theorem rok_all {n : Nat} {S : Store} {P : D → Store → Prop} : Rok (fAll [.ref n] S) P ↔ ∃ l bs, lstOf S n = some l ∧ boolsD l = some bs ∧ P (.bl (bs.all id)) S := rk_all
@[simp] theorem rok_any {n : Nat} {S : Store} {P : D → Store → Prop} : Rok (fAny [.ref n] S) P ↔ ∃ l bs, lstOf S n = some l ∧ boolsD l = some bs ∧ P (.bl (bs.any id)) S := rk_any
@[simp] theorem rok_sum {n : Nat} {S : Store} {P : D → Store → Prop} : Rok (fSum [.ref n] S) P ↔ ∃ l bs, lstOf S n = some l ∧ intsD l = some bs ∧ P (.int bs.sum) S := rk_sum
@[simp] theorem rok_tupleT {l : List D} {S : Store} {P : D → Store → Prop} : Rok (fTuple [.tup l] S) P ↔ P (.tup l) S := rk_tupleT
@[simp] theorem rok_tupleL {n : Nat} {S : Store} {P : D → Store → Prop} : Rok (fTuple [.ref n] S) P ↔ ∃ l, lstOf S n = some l ∧ P (.tup l) S := rk_tupleL
@[simp] theorem rok_listT {l : List D} {S : Store} {P : D → Store → Prop} : Rok (fList [.tup l] S) P ↔ P (.ref S.length) (S ++ [.lst l]) := rk_listT
@[simp] theorem rok_listL {n : Nat} {S : Store} {P : D → Store → Prop} : Rok (fList [.ref n] S) P ↔ ∃ l, lstOf S n = some l ∧ P (.ref S.length) (S ++ [.lst l]) := rk_listL
@[simp] theorem rok_zipL {n m : Nat} {S : Store} {P : Wk → Store → Prop} : Rok (fZip [.ref n, .ref m] S) P ↔ ∃ l k, lstOf S n = some l ∧ lstOf S m = some k ∧ P ⟨zipD l k, fun S => lstOf S n = some l ∧ lstOf S m = some k⟩ S := rk_zipL
@[simp] theorem rok_zipT {l k : List D} {S : Store} {P : Wk → Store → Prop} : Rok (fZip [.tup l, .tup k] S) P ↔ P ⟨zipD l k, fun _ => True⟩ S := rk_zipT
@[simp] theorem rok_rng2 {i j : Int} {S : Store} {P : Wk → Store → Prop} : Rok (fRng2 [.int i, .int j] S) P ↔ (-(2 ^ 62) ≤ i ∧ i < 2 ^ 62 ∧ -(2 ^ 62) ≤ j ∧ j < 2 ^ 62) ∧ P ⟨rangeD i (j - i).toNat, fun _ => True⟩ S := rk_rng2
@[simp] theorem rok_sl {s : SE} {lo hi : SO} {env : Env} {S : Store} {P : D → Store → Prop} : Rok (sSl s lo hi env S) P ↔ Rok (s env S) fun d S1 => Rok (lo env S1) fun l S2 => Rok (hi env S2) fun h S3 => Rok (fSl d l h S3) P := rk_sl
@[simp] theorem rok_noPart {env : Env} {S : Store} {P : Option Int → Store → Prop} : Rok (sNoPart env S) P ↔ P none S := rk_noPart
@[simp] theorem rok_part {s : SE} {env : Env} {S : Store} {P : Option Int → Store → Prop} : Rok (sPart s env S) P ↔ Rok (s env S) fun d S1 => onI d fun i => P (some i) S1 := rk_part
@[simp] theorem rok_slT {l : List D} {lo hi : Option Int} {S : Store} {P : D → Store → Prop} : Rok (fSl (.tup l) lo hi S) P ↔ P (.tup (cutL l lo hi)) S := rk_slT
@[simp] theorem rok_slL {n : Nat} {lo hi : Option Int} {S : Store} {P : D → Store → Prop} : Rok (fSl (.ref n) lo hi S) P ↔ ∃ l, lstOf S n = some l ∧ P (.ref S.length) (S ++ [.lst (cutL l lo hi)]) := rk_slL
@[simp] theorem rok_revT {s : SE} {env : Env} {S : Store} {P : Wk → Store → Prop} : Rok (sRev s env S) P ↔ Rok (s env S) fun d S1 => Rok (fRev d S1) P := rk_revT
@[simp] theorem rok_fRevT {l : List D} {S : Store} {P : Wk → Store → Prop} : Rok (fRev (.tup l) S) P ↔ P ⟨l.reverse, fun _ => True⟩ S := rk_fRevT
@[simp] theorem rok_fRevL {n : Nat} {S : Store} {P : Wk → Store → Prop} : Rok (fRev (.ref n) S) P ↔ ∃ l, lstOf S n = some l ∧ P ⟨l.reverse, fun S => lstOf S n = some l⟩ S := rk_fRevL
@[simp] theorem rok_revL {n : Nat} {S : Store} {P : D → Store → Prop} : Rok (fRevL (.ref n) S) P ↔ ∃ l, lstOf S n = some l ∧ P (.ref S.length) (S ++ [.lst l.reverse]) := rk_revL
@[simp] theorem rok_zipTL {l : List D} {m : Nat} {S : Store} {P : Wk → Store → Prop} : Rok (fZip [.tup l, .ref m] S) P ↔ ∃ k, lstOf S m = some k ∧ P ⟨zipD l k, fun S => lstOf S m = some k⟩ S := rk_zipTL
@[simp] theorem rok_enumT {l : List D} {S : Store} {P : Wk → Store → Prop} : Rok (fEnum [.tup l] S) P ↔ P ⟨enumD l, fun _ => True⟩ S := rk_enumT
@[simp] theorem rok_listRevT {l : List D} {S : Store} {P : D → Store → Prop} : Rok (fListRev (.tup l) S) P ↔ P (.ref S.length) (S ++ [.lst l.reverse]) := rk_listRevT
@[simp] theorem rok_listRevL {n : Nat} {S : Store} {P : D → Store → Prop} : Rok (fListRev (.ref n) S) P ↔ ∃ l, lstOf S n = some l ∧ P (.ref S.length) (S ++ [.lst l.reverse]) := rk_listRevL
@[simp] theorem rok_callD {m : Mf} {dv : List Int} {s : SA} {env : Env} {S : Store} {P : D → Store → Prop} : Rok (sCallD m dv s env S) P ↔ Rok (s env S) fun ds S1 => Rok (m (ds ++ dv.map D.int) S1) P := rk_callD
@[simp] theorem rok_revRng {s : SE} {env : Env} {S : Store} {P : Wk → Store → Prop} : Rok (sRevRng s env S) P ↔ Rok (s env S) fun d S1 => Rok (fRevRng1 [d] S1) P := rk_revRng
@[simp] theorem rok_revRng1 {j : Int} {S : Store} {P : Wk → Store → Prop} : Rok (fRevRng1 [.int j] S) P ↔ (-(2 ^ 62) ≤ j ∧ j < 2 ^ 62) ∧ P ⟨(rangeD 0 j.toNat).reverse, fun _ => True⟩ S := rk_revRng1
end Rg
/-! RgQ: ratios as numbers. -/
namespace Rg
open PySem L2
theorem Rok.eq {A : Type} {r : Res A} {a : A} {S : Store} (h : Rok r fun x S' => x = a ∧ S' = S) : r = .ok a S := by
  obtain ⟨x, S', e, rfl, rfl⟩ := h
  exact e
def eQ (q : Rat) : D := .tup [.int q.num, .int q.den]
@[simp] theorem atI0 {α : Type} {x : α} {l : List α} : atI (x :: l) 0 = some x := by
  have := atI_nat (xs := x :: l) (j := 0) (v := x) rfl
  exact this
@[simp] theorem atI1 {α : Type} {x y : α} {l : List α} : atI (x :: y :: l) 1 = some y := by
  have := atI_nat (xs := x :: y :: l) (j := 1) (v := y) rfl
  exact this
@[simp] theorem atI2 {α : Type} {x y z : α} {l : List α} : atI (x :: y :: z :: l) 2 = some z := by
  have := atI_nat (xs := x :: y :: z :: l) (j := 2) (v := z) rfl
  exact this
@[simp] theorem atI3 {α : Type} {x y z w : α} {l : List α} : atI (x :: y :: z :: w :: l) 3 = some w := by
  have := atI_nat (xs := x :: y :: z :: w :: l) (j := 3) (v := w) rfl
  exact this
@[simp] theorem szL (n : Nat) : (n ≤ sizeLine) ↔ n ≤ 16777216 := by rw [sizeLine_eq]
@[simp] theorem szL' (n : Nat) : (n < sizeLine) ↔ n < 16777216 := by rw [sizeLine_eq]
/-! ### sizes -/
theorem CM_l {i j : Int} (h : i.natAbs < 2 ^ 64) : CM i j := .inl (.inl ⟨by omega, by omega⟩)
theorem CM_r {i j : Int} (h : j.natAbs < 2 ^ 64) : CM i j := .inl (.inr ⟨by omega, by omega⟩)
theorem CM_w {i j : Int} {a b : Nat} (ha : i.natAbs < 2 ^ a) (hb : j.natAbs < 2 ^ b) (h : a + b ≤ 999998) : CM i j :=
  .inr (wide_mul (a := a + 1) (b := b + 1) (Nat.lt_of_lt_of_le ha (Nat.pow_le_pow_right (by decide) (by omega))) (Nat.lt_of_lt_of_le hb (Nat.pow_le_pow_right (by decide) (by omega))) (by omega) (by omega) (by omega))
theorem CDv_w {i j : Int} {b : Nat} (h : j ≠ 0) (hb : j.natAbs < 2 ^ b) (h9 : b ≤ 8999) : CDv i j := by
  have x := PySem.Flt.log2_lt_of (show 0 < b + 1 by omega) (Nat.lt_of_lt_of_le hb (Nat.pow_le_pow_right (show 0 < 2 by decide) (show b ≤ b + 1 by omega)))
  exact ⟨h, by omega⟩
theorem fdiv_pos {i j : Int} (h : 0 < j) : i.fdiv j = i / j := Int.fdiv_eq_ediv_of_nonneg i (by omega)
@[simp] theorem fdiv_lit {i : Int} {n : Nat} [NeZero n] : i.fdiv (no_index (OfNat.ofNat n)) = i / (OfNat.ofNat n) := Int.fdiv_eq_ediv_of_nonneg i (by
  show (0 : Int) ≤ ((n : Nat) : Int)
  exact Int.natCast_nonneg n)
theorem fdiv_neg_dvd {i j : Int} (h : j ∣ i) : i.fdiv (-j) = i / (-j) := by
  rw [Int.fdiv_eq_ediv]
  have : (-j) ∣ i := by obtain ⟨k, rfl⟩ := h; exact ⟨-k, by simp [Int.neg_mul_neg]⟩
  rw [if_pos (.inr this), Int.sub_zero]
theorem CPow_s {i j : Int} (h0 : 0 ≤ j) (h1 : j ≤ 1000000) (h : i.natAbs < 2 ^ 64) : CPow i j := ⟨h0, h1, h⟩
/-- the int at a slot, for measures -/
def nAt (i : Nat) (e : Env) : Nat := match e[i]? with
  | some (some (.int x)) => x.toNat
  | _ => 0
theorem emod_natAbs {x y : Int} (hx : 0 ≤ x) (hy : 0 ≤ y) : (y % x).natAbs = y.natAbs % x.natAbs := by
  obtain ⟨m, rfl⟩ := Int.eq_ofNat_of_zero_le hx
  obtain ⟨n, rfl⟩ := Int.eq_ofNat_of_zero_le hy
  rw [← Int.natCast_emod]
  rfl
/-! ### ends of defs -/
@[simp] theorem fr_int {N : Nat} {i : Int} : (D.int i).fresh N = none := by rw [D.fresh] <;> (intros; contradiction)
@[simp] theorem fr_bl {N : Nat} {i : Bool} : (D.bl i).fresh N = none := by rw [D.fresh] <;> (intros; contradiction)
@[simp] theorem fr_str {N : Nat} {i : Str} : (D.str i).fresh N = none := by rw [D.fresh] <;> (intros; contradiction)
@[simp] theorem fr_non {N : Nat} : (D.non).fresh N = none := by rw [D.fresh] <;> (intros; contradiction)
@[simp] theorem fr_tup {N : Nat} {l : List D} : (D.tup l).fresh N = freshs N l := by rw [D.fresh]
@[simp] theorem fr_nil {N : Nat} : freshs N [] = none := by rw [freshs]
@[simp] theorem fr_cons {N : Nat} {d : D} {l : List D} : freshs N (d :: l) = (d.fresh N).or (freshs N l) := by rw [freshs]
@[simp] theorem fr_ref {N n : Nat} : (D.ref n).fresh N = if n < N then none else some n := by rw [D.fresh]
@[simp] theorem on_int {N n : Nat} {i : Int} : (D.int i).only N n = true := by rw [D.only] <;> (intros; contradiction)
@[simp] theorem on_bl {N n : Nat} {i : Bool} : (D.bl i).only N n = true := by rw [D.only] <;> (intros; contradiction)
@[simp] theorem on_str {N n : Nat} {i : Str} : (D.str i).only N n = true := by rw [D.only] <;> (intros; contradiction)
@[simp] theorem on_non {N n : Nat} : (D.non).only N n = true := by rw [D.only] <;> (intros; contradiction)
@[simp] theorem on_tup {N n : Nat} {l : List D} : (D.tup l).only N n = onlys N n l := by rw [D.only]
@[simp] theorem on_nil {N n : Nat} : onlys N n [] = true := by rw [onlys]
@[simp] theorem on_cons {N n : Nat} {d : D} {l : List D} : onlys N n (d :: l) = (d.only N n && onlys N n l) := by rw [onlys]
@[simp] theorem on_ref {N n m : Nat} : (D.ref m).only N n = (decide (m < N) || decide (m = n)) := by rw [D.only]
@[simp] theorem un_int {N : Nat} {i : Int} : (D.int i).under N = true := by rw [D.under] <;> (intros; contradiction)
@[simp] theorem un_bl {N : Nat} {i : Bool} : (D.bl i).under N = true := by rw [D.under] <;> (intros; contradiction)
@[simp] theorem un_str {N : Nat} {i : Str} : (D.str i).under N = true := by rw [D.under] <;> (intros; contradiction)
@[simp] theorem un_non {N : Nat} : (D.non).under N = true := by rw [D.under] <;> (intros; contradiction)
@[simp] theorem un_tup {N : Nat} {l : List D} : (D.tup l).under N = unders N l := by rw [D.under]
@[simp] theorem un_nil {N : Nat} : unders N [] = true := by rw [unders]
@[simp] theorem un_cons {N : Nat} {d : D} {l : List D} : unders N (d :: l) = (d.under N && unders N l) := by rw [unders]
@[simp] theorem un_ref {N n : Nat} : (D.ref n).under N = decide (n < N) := by rw [D.under]
@[simp] theorem sb_int {N : Nat} {i : Int} : (D.int i).subst N = .int i := by rw [D.subst] <;> (intros; contradiction)
@[simp] theorem sb_bl {N : Nat} {i : Bool} : (D.bl i).subst N = .bl i := by rw [D.subst] <;> (intros; contradiction)
@[simp] theorem sb_str {N : Nat} {i : Str} : (D.str i).subst N = .str i := by rw [D.subst] <;> (intros; contradiction)
@[simp] theorem sb_non {N : Nat} : (D.non).subst N = .non := by rw [D.subst] <;> (intros; contradiction)
@[simp] theorem sb_tup {N : Nat} {l : List D} : (D.tup l).subst N = .tup (substs N l) := by rw [D.subst]
@[simp] theorem sb_nil {N : Nat} : substs N [] = [] := by rw [substs]
@[simp] theorem sb_cons {N : Nat} {d : D} {l : List D} : substs N (d :: l) = d.subst N :: substs N l := by rw [substs]
@[simp] theorem sb_ref {N n : Nat} : (D.ref n).subst N = .ref (if n < N then n else N) := by rw [D.subst]
theorem un_all {N : Nat} {l : List D} (h : ∀ d ∈ l, d.under N = true) : unders N l = true := by
  induction l with
  | nil => rfl
  | cons d l ih => rw [un_cons, h d (by simp), ih fun e he => h e (by simp [he])]; rfl
theorem un_map {A : Type} {N : Nat} {l : List A} {f : A → D} (h : ∀ a ∈ l, (f a).under N = true) : unders N (l.map f) = true := un_all fun d hd => by
  obtain ⟨a, ha, rfl⟩ := List.mem_map.mp hd
  exact h a ha
@[simp] theorem rok_gcs {S : Store} {d : D} {P : D → Store → Prop} (h : d.fresh S.length = none) : Rok (gc S d S) P ↔ P d S := by rw [gc_self h, rok_ok]
@[simp] theorem rok_gca {S C : Store} {d : D} {P : D → Store → Prop} (h : d.fresh S.length = none) : Rok (gc S d (S ++ C)) P ↔ P d S := by rw [gc_app h, rok_ok]
@[simp] theorem rok_gcn {S : Store} {l : List D} {P : D → Store → Prop} (h : unders S.length l = true) : Rok (gc S (.ref S.length) (S ++ [.lst l])) P ↔ P (.ref S.length) (S ++ [.lst l]) := by
  rw [gc_new (n := S.length) (by simp) (by simp) (by simp) h, rok_ok]
  simp
@[simp] theorem eQ_fr {N : Nat} {q : Rat} : (eQ q).fresh N = none := by unfold eQ; simp
@[simp] theorem eQ_un {N : Nat} {q : Rat} : (eQ q).under N = true := by unfold eQ; simp
@[simp] theorem eQ_on {N n : Nat} {q : Rat} : (eQ q).only N n = true := by unfold eQ; simp
@[simp] theorem eQ_sb {N : Nat} {q : Rat} : (eQ q).subst N = eQ q := by unfold eQ; simp
@[simp] theorem eQ_ty {S : Store} {q : Rat} : tyOf S (eQ q) = some .tup := rfl
@[simp] theorem eQ_i0 {S : Store} {q : Rat} {P : D → Store → Prop} : Rok (fIx (eQ q) (.int 0) S) P ↔ P (.int q.num) S := by unfold eQ; simp
@[simp] theorem eQ_i1 {S : Store} {q : Rat} {P : D → Store → Prop} : Rok (fIx (eQ q) (.int 1) S) P ↔ P (.int q.den) S := by unfold eQ; simp
@[simp] theorem eQ_len {S : Store} {q : Rat} {P : D → Store → Prop} : Rok (fLen [eQ q] S) P ↔ P (.int 2) S := by unfold eQ; simp
@[simp] theorem eQ_isNon {q : Rat} : (eQ q).isNon = false := rfl
def pQ (q : Rat) : PyData := .tuple [.int q.num, .int q.den]
@[simp] theorem toP_eQ {S : Store} {k : Nat} {q : Rat} : toP S (k + 1) (eQ q) = some (pQ q) := by unfold eQ pQ; simp
@[simp] theorem toP_eQ60 {S : Store} {q : Rat} : toP S 60 (eQ q) = some (pQ q) := toP_eQ
@[simp] theorem toP_eQ59 {S : Store} {q : Rat} : toP S 59 (eQ q) = some (pQ q) := toP_eQ
@[simp] theorem toP_eQ58 {S : Store} {q : Rat} : toP S 58 (eQ q) = some (pQ q) := toP_eQ
@[simp] theorem toP_eQ57 {S : Store} {q : Rat} : toP S 57 (eQ q) = some (pQ q) := toP_eQ
@[simp] theorem ev_Q {p q : Rat} : PyData.eqv (pQ p) (pQ q) = decide (p = q) := by
  unfold pQ
  rw [Bool.eq_iff_iff]
  simp
  constructor
  · rintro ⟨h1, h2⟩
    exact Rat.ext h1 (by omega)
  · rintro rfl; exact ⟨rfl, rfl⟩
@[simp] theorem ev_nQ {p : Rat} : PyData.eqv .none (pQ p) = false := by unfold pQ; simp
@[simp] theorem ev_Qn {p : Rat} : PyData.eqv (pQ p) .none = false := by unfold pQ; simp
@[simp] theorem tup_1 {i : Int} : D.tup [.int i, .int 1] = eQ (i : Rat) := rfl
@[simp] theorem tup_q {q : Rat} : D.tup [.int q.num, .int (q.den : Nat)] = eQ q := rfl
@[simp] theorem lit_0 : D.tup [.int 0, .int 1] = eQ 0 := rfl
@[simp] theorem lit_1 : D.tup [.int 1, .int 1] = eQ 1 := rfl
@[simp] theorem isNon_non : D.non.isNon = true := rfl
@[simp] theorem isNon_int {i : Int} : (D.int i).isNon = false := rfl
@[simp] theorem isNon_bl {i : Bool} : (D.bl i).isNon = false := rfl
@[simp] theorem isNon_str {i : Str} : (D.str i).isNon = false := rfl
@[simp] theorem isNon_tup {i : List D} : (D.tup i).isNon = false := rfl
@[simp] theorem isNon_ref {i : Nat} : (D.ref i).isNon = false := rfl
@[simp] theorem py_q {q : Rat} : PyData.tuple [.int q.num, .int (q.den : Nat)] = pQ q := rfl
@[simp] theorem py_1 {i : Int} : PyData.tuple [.int i, .int 1] = pQ (i : Rat) := rfl
@[simp] theorem py_0 : PyData.tuple [.int 0, .int 1] = pQ 0 := rfl
@[simp] theorem py_11 : PyData.tuple [.int 1, .int 1] = pQ 1 := rfl
end Rg
/-! RgQb: ratio, low: as numbers. -/
namespace Rg
open PySem L2
/-! ### the greatest divisor -/
theorem m_divisor_eq {S : Store} {a b : Int} (hb : 0 < b) : m_divisor [.int a, .int b] S = .ok (.int (Int.gcd a b : Int)) S := by
  refine Rok.eq ?_
  unfold m_divisor
  simp [rok_def]
  refine sok_while (fun e S' => S' = S ∧ ∃ x y : Int, e = [some (.int x), some (.int y)] ∧ 0 ≤ x ∧ 0 < y ∧ Int.gcd x y = Int.gcd a b) (fun e S => nAt 0 e) ?_ _ _ ⟨rfl, a.natAbs, b, rfl, by omega, hb, by simp [Int.gcd]⟩
  rintro e S' ⟨rfl, x, y, rfl, hx, hy, hg⟩
  simp
  constructor
  · intro h
    refine ⟨h, ⟨_, _, ⟨rfl, rfl⟩, Int.emod_nonneg _ (by omega), h, ?_⟩, ?_⟩
    · rw [← hg, Int.gcd_comm x y]
      simp [Int.gcd]
      rw [emod_natAbs (by omega) (by omega), ← Nat.gcd_rec x.natAbs y.natAbs, Nat.gcd_comm]
    · have h1 := Int.emod_lt_of_pos y h
      have h2 := Int.emod_nonneg y (show x ≠ 0 by omega)
      simp [nAt]
      omega
  · intro h
    have : x = 0 := by omega
    subst this
    rw [← hg]
    simp [Int.gcd]
    omega
/-- Euclid's way of the laws' own: of the absolute values -/
theorem low_while {S : Store} {P : SPt} {a b : Int} {c d : Option D} (hb : b ≠ 0) (h : P.nx [c, d, some (.int (Int.gcd a b : Int)), some (.int 0)] S) :
    Sok (sWhile (sT (s2 fGt (sVar 3) (sC (.int 0)))) (sPar 2 3 (sCons (sVar 3) (sCons (s2 fMod (sVar 2) (sVar 3)) sNil))) [c, d, some (.int (a.natAbs : Int)), some (.int (b.natAbs : Int))] S) P := by
  refine sok_while (fun e S' => S' = S ∧ ∃ x y : Int, e = [c, d, some (.int x), some (.int y)] ∧ 0 ≤ x ∧ 0 ≤ y ∧ (x ≠ 0 ∨ y ≠ 0) ∧ Int.gcd x y = Int.gcd a b) (fun e S => nAt 3 e) ?_ _ _ ⟨rfl, a.natAbs, b.natAbs, rfl, by omega, by omega, by omega, by simp [Int.gcd]⟩
  rintro e S' ⟨rfl, x, y, rfl, hx, hy, hn, hg⟩
  simp
  constructor
  · intro h
    refine ⟨h, ⟨_, _, ⟨rfl, rfl⟩, by omega, Int.emod_nonneg _ (by omega), by omega, ?_⟩, ?_⟩
    · rw [← hg, Int.gcd_comm y (x % y)]
      simp only [Int.gcd]
      rw [emod_natAbs (by omega) (by omega), ← Nat.gcd_rec y.natAbs x.natAbs, Nat.gcd_comm]
    · have h1 := Int.emod_lt_of_pos x h
      have h2 := Int.emod_nonneg x (show y ≠ 0 by omega)
      simp [nAt]
      omega
  · intro h
    have : y = 0 := by omega
    subst this
    have : (x : Int) = (Int.gcd a b : Int) := by
      rw [← hg]
      simp [Int.gcd]
      omega
    rw [this]
    assumption
theorem divInt_num {t b : Int} (hb : b ≠ 0) : (Rat.divInt t b).num = t / (if b < 0 then -(Int.gcd t b : Int) else (Int.gcd t b : Int)) := by
  rw [Rat.num_divInt, Int.gcd_comm]
  by_cases h : b < 0
  · rw [if_pos h, Int.sign_eq_neg_one_of_neg h, Int.ediv_neg, Int.neg_one_mul]
    exact Int.neg_ediv_of_dvd (Int.gcd_dvd_left ..)
  · rw [if_neg h, Int.sign_eq_one_of_pos (by omega), Int.one_mul]
theorem divInt_den {t b : Int} (hb : b ≠ 0) : ((Rat.divInt t b).den : Int) = b / (if b < 0 then -(Int.gcd t b : Int) else (Int.gcd t b : Int)) := by
  rw [Rat.den_divInt, if_neg hb, Int.gcd_comm]
  by_cases h : b < 0
  · rw [if_pos h, Int.ediv_neg]
    have : ((b.natAbs : Nat) : Int) = -b := by omega
    rw [Int.natCast_ediv, this]
    exact Int.neg_ediv_of_dvd (Int.gcd_dvd_right ..)
  · rw [if_neg h]
    have : ((b.natAbs : Nat) : Int) = b := by omega
    rw [Int.natCast_ediv, this]
theorem gcd_small {t b : Int} {n : Nat} (hb : b ≠ 0) (h : b.natAbs < 2 ^ n) : 0 < (Int.gcd t b : Int) ∧ ((Int.gcd t b : Int)).natAbs < 2 ^ n := by
  have h1 : 0 < Int.gcd t b := Int.gcd_pos_of_ne_zero_right _ hb
  have h2 : Int.gcd t b ≤ b.natAbs := Nat.le_of_dvd (by omega) (Nat.gcd_dvd_right t.natAbs b.natAbs)
  constructor
  · omega
  · have : ((Int.gcd t b : Nat) : Int).natAbs = Int.gcd t b := by omega
    rw [this]
    exact Nat.lt_of_le_of_lt h2 h
theorem m_ratio_eq {S : Store} {t b : Int} (hb : b ≠ 0) (h : b.natAbs < 2 ^ 8999) : m_ratio [.int t, .int b] S = .ok (eQ (Rat.divInt t b)) S := by
  refine Rok.eq ?_
  unfold m_ratio
  rw [rok_def]
  have w : ∀ (x : Int), m_is_whole [.int x] S = .ok (.bl true) S := fun x => by
    refine Rok.eq ?_
    unfold m_is_whole
    rw [rok_def]
    simp [Ty.isa]
  simp [w, hb]
  have g := gcd_small (t := t) hb h
  constructor
  · intro hn
    have g := gcd_small (t := -t) (b := -b) (n := 8999) (by omega) (by simpa using h)
    have e1 : Int.gcd (-t) (-b) = Int.gcd t b := by simp
    rw [e1] at g
    rw [m_divisor_eq (by omega)]
    simp
    refine ⟨CDv_w (by omega) g.2 (by decide), CDv_w (by omega) g.2 (by decide), ?_⟩
    rw [fdiv_pos g.1, fdiv_pos g.1]
    unfold eQ
    rw [divInt_num hb, divInt_den hb, if_pos hn, Int.ediv_neg, Int.ediv_neg, Int.neg_ediv_of_dvd (Int.gcd_dvd_left ..), Int.neg_ediv_of_dvd (Int.gcd_dvd_right ..)]
  · intro hn
    rw [m_divisor_eq (by omega)]
    simp
    refine ⟨CDv_w (by omega) g.2 (by decide), CDv_w (by omega) g.2 (by decide), ?_⟩
    rw [fdiv_pos g.1, fdiv_pos g.1]
    unfold eQ
    rw [divInt_num hb, divInt_den hb, if_neg (by omega)]
theorem m_l_low_eq {S : Store} {t b : Int} (hb : b ≠ 0) (h : b.natAbs < 2 ^ 8999) : m_l_low [.int t, .int b] S = .ok (eQ (Rat.divInt t b)) S := by
  refine Rok.eq ?_
  unfold m_l_low
  rw [rok_def]
  have g := gcd_small (t := t) hb h
  simp
  refine low_while hb ?_
  simp
  constructor
  · intro hn
    refine ⟨CDv_w (by omega) (by simpa using g.2) (by decide), CDv_w (by omega) (by simpa using g.2) (by decide), ?_⟩
    rw [fdiv_neg_dvd (Int.gcd_dvd_left ..), fdiv_neg_dvd (Int.gcd_dvd_right ..)]
    unfold eQ
    rw [divInt_num hb, divInt_den hb, if_pos hn]
  · intro hn
    refine ⟨CDv_w (by omega) g.2 (by decide), CDv_w (by omega) g.2 (by decide), ?_⟩
    rw [fdiv_pos g.1, fdiv_pos g.1]
    unfold eQ
    rw [divInt_num hb, divInt_den hb, if_neg (by omega)]
end Rg
section
set_option exponentiation.threshold 10000
/-! RgQc: sizes; the four ways of reckoning. -/
namespace Rg
open PySem L2
class Sz (q : Rat) (k : outParam Nat) : Prop where
  num : q.num.natAbs < 2 ^ k
  den : q.den < 2 ^ k
theorem Sz.pos {q : Rat} {k : Nat} (h : Sz q k) : 1 ≤ k := by
  cases k with
  | zero =>
    have h1 := h.den
    have h2 := q.den_pos
    simp at h1
    omega
  | succ k => omega
theorem pow_le {a b : Nat} (h : a ≤ b) : 2 ^ a ≤ 2 ^ b := Nat.pow_le_pow_right (by decide) h
theorem Sz.mono {q : Rat} {k m : Nat} (h : Sz q k) (hk : k ≤ m) : Sz q m := ⟨Nat.lt_of_lt_of_le h.num (pow_le hk), Nat.lt_of_lt_of_le h.den (pow_le hk)⟩
instance : Sz 0 1 := ⟨by decide, by decide⟩
instance : Sz 1 1 := ⟨by decide, by decide⟩
instance : Sz 2 2 := ⟨by decide, by decide⟩
instance : Sz 4 3 := ⟨by decide, by decide⟩
theorem mul_lt2 {x y i j : Nat} (h : x < 2 ^ i) (h' : y < 2 ^ j) : x * y < 2 ^ (i + j) := by
  rw [Nat.pow_add]
  exact Nat.mul_lt_mul'' h h'
theorem natAbs_ediv_le {x : Int} {n : Nat} : (x / (n : Int)).natAbs ≤ x.natAbs := by
  by_cases h : n = 0
  · subst h; simp
  · have := Int.natAbs_ediv_le_natAbs x n
    exact this
theorem sz_add {p q : Rat} {i j : Nat} (hp : Sz p i) (hq : Sz q j) : Sz (p + q) (i + j + 1) := by
  constructor
  · rw [Rat.num_add]
    refine Nat.lt_of_le_of_lt natAbs_ediv_le ?_
    have h1 : (p.num * (q.den : Int)).natAbs < 2 ^ (i + j) := by rw [Int.natAbs_mul]; exact mul_lt2 hp.num hq.den
    have h2 : (q.num * (p.den : Int)).natAbs < 2 ^ (i + j) := by rw [Int.natAbs_mul, Nat.add_comm]; exact mul_lt2 hq.num hp.den
    rw [Nat.pow_succ]
    omega
  · rw [Rat.den_add]
    refine Nat.lt_of_le_of_lt (Nat.div_le_self _ _) (Nat.lt_of_lt_of_le (mul_lt2 hp.den hq.den) (pow_le (by omega)))
instance {p q : Rat} {i j : Nat} [hp : Sz p i] [hq : Sz q j] : Sz (p + q) (i + j + 1) := sz_add hp hq
theorem sz_neg {p : Rat} {i : Nat} (hp : Sz p i) : Sz (-p) i := ⟨by rw [Rat.neg_num, Int.natAbs_neg]; exact hp.num, by rw [Rat.neg_den]; exact hp.den⟩
instance {p : Rat} {i : Nat} [hp : Sz p i] : Sz (-p) i := sz_neg hp
theorem sz_sub {p q : Rat} {i j : Nat} (hp : Sz p i) (hq : Sz q j) : Sz (p - q) (i + j + 1) := by rw [Rat.sub_eq_add_neg]; exact sz_add hp (sz_neg hq)
instance {p q : Rat} {i j : Nat} [hp : Sz p i] [hq : Sz q j] : Sz (p - q) (i + j + 1) := sz_sub hp hq
theorem sz_mul {p q : Rat} {i j : Nat} (hp : Sz p i) (hq : Sz q j) : Sz (p * q) (i + j) := by
  constructor
  · rw [Rat.num_mul]
    refine Nat.lt_of_le_of_lt natAbs_ediv_le ?_
    rw [Int.natAbs_mul]; exact mul_lt2 hp.num hq.num
  · rw [Rat.den_mul]
    exact Nat.lt_of_le_of_lt (Nat.div_le_self _ _) (mul_lt2 hp.den hq.den)
instance {p q : Rat} {i j : Nat} [hp : Sz p i] [hq : Sz q j] : Sz (p * q) (i + j) := sz_mul hp hq
theorem sz_inv {q : Rat} {j : Nat} (hq : Sz q j) : Sz q⁻¹ j := by
  constructor
  · rw [Rat.num_inv, Int.natAbs_mul]
    have h1 := hq.den
    rcases Int.lt_trichotomy q.num 0 with h | h | h
    · rw [Int.sign_eq_neg_one_of_neg h]; simpa using h1
    · rw [h]; simp; exact Nat.pow_pos (by decide)
    · rw [Int.sign_eq_one_of_pos h]; simpa using h1
  · rw [Rat.den_inv]
    split
    · exact Nat.lt_of_lt_of_le (by decide : 1 < 2 ^ 1) (pow_le hq.pos)
    · exact hq.num
instance {q : Rat} {j : Nat} [hq : Sz q j] : Sz q⁻¹ j := sz_inv hq
theorem sz_div {p q : Rat} {i j : Nat} (hp : Sz p i) (hq : Sz q j) : Sz (p / q) (i + j) := by rw [Rat.div_def]; exact sz_mul hp (sz_inv hq)
instance {p q : Rat} {i j : Nat} [hp : Sz p i] [hq : Sz q j] : Sz (p / q) (i + j) := sz_div hp hq
theorem sz_abs {p : Rat} {i : Nat} (hp : Sz p i) : Sz p.abs i := by
  unfold Rat.abs
  split
  · exact hp
  · exact sz_neg hp
instance {p : Rat} {i : Nat} [hp : Sz p i] : Sz p.abs i := sz_abs hp
/-! ### the tops and bottoms -/
theorem Sz.CMnn {p q : Rat} {i j : Nat} (hp : Sz p i) (hq : Sz q j) (h : i + j ≤ 999998) : CM p.num q.num := CM_w hp.num hq.num h
theorem Sz.CMnd {p q : Rat} {i j : Nat} (hp : Sz p i) (hq : Sz q j) (h : i + j ≤ 999998) : CM p.num q.den := CM_w hp.num (by simpa using hq.den) h
theorem Sz.CMdn {p q : Rat} {i j : Nat} (hp : Sz p i) (hq : Sz q j) (h : i + j ≤ 999998) : CM p.den q.num := CM_w (by simpa using hp.den) hq.num h
theorem Sz.CMdd {p q : Rat} {i j : Nat} (hp : Sz p i) (hq : Sz q j) (h : i + j ≤ 999998) : CM p.den q.den := CM_w (by simpa using hp.den) (by simpa using hq.den) h
theorem dd_ne {p q : Rat} : ((p.den : Int) * (q.den : Int)) ≠ 0 := by
  have h1 := p.den_pos
  have h2 := q.den_pos
  exact Int.mul_ne_zero (by omega) (by omega)
theorem dd_lt {p q : Rat} {i j k : Nat} (hp : Sz p i) (hq : Sz q j) (h : i + j ≤ k) : ((p.den : Int) * (q.den : Int)).natAbs < 2 ^ k := by
  rw [Int.natAbs_mul]
  exact Nat.lt_of_lt_of_le (mul_lt2 hp.den hq.den) (pow_le h)
theorem dn_lt {p q : Rat} {i j k : Nat} (hp : Sz p i) (hq : Sz q j) (h : i + j ≤ k) : ((p.den : Int) * q.num).natAbs < 2 ^ k := by
  rw [Int.natAbs_mul]
  exact Nat.lt_of_lt_of_le (mul_lt2 hp.den hq.num) (pow_le h)
theorem add_di {p q : Rat} : Rat.divInt (p.num * q.den + q.num * p.den) (p.den * q.den) = p + q := by
  rw [Rat.add_def', ← Rat.divInt_ofNat]; simp
theorem sub_di {p q : Rat} : Rat.divInt (p.num * q.den - q.num * p.den) (p.den * q.den) = p - q := by
  rw [Rat.sub_def', ← Rat.divInt_ofNat]; simp
theorem mul_di {p q : Rat} : Rat.divInt (p.num * q.num) (p.den * q.den) = p * q := by
  rw [Rat.mul_def', ← Rat.divInt_ofNat]; simp
theorem div_di {p q : Rat} : Rat.divInt (p.num * q.den) (p.den * q.num) = p / q := by
  rw [Rat.div_def, Rat.inv_def, ← Rat.divInt_mul_divInt, Rat.num_divInt_den]
section
variable {S : Store} {p q : Rat} {i j : Nat}
@[simp] theorem m_plus_eq [hp : Sz p i] [hq : Sz q j] (h : i + j ≤ 8998) : m_plus [eQ p, eQ q] S = .ok (eQ (p + q)) S := by
  refine Rok.eq ?_
  unfold m_plus
  rw [rok_def]
  simp [hp.CMnd hq (by omega), hq.CMnd hp (by omega), hp.CMdd hq (by omega)]
  rw [m_ratio_eq dd_ne (dd_lt hp hq (by omega)), add_di]
  simp
@[simp] theorem m_minus_eq [hp : Sz p i] [hq : Sz q j] (h : i + j ≤ 8998) : m_minus [eQ p, eQ q] S = .ok (eQ (p - q)) S := by
  refine Rok.eq ?_
  unfold m_minus
  rw [rok_def]
  simp [hp.CMnd hq (by omega), hq.CMnd hp (by omega), hp.CMdd hq (by omega)]
  rw [m_ratio_eq dd_ne (dd_lt hp hq (by omega)), sub_di]
  simp
@[simp] theorem m_times_eq [hp : Sz p i] [hq : Sz q j] (h : i + j ≤ 8998) : m_times [eQ p, eQ q] S = .ok (eQ (p * q)) S := by
  refine Rok.eq ?_
  unfold m_times
  rw [rok_def]
  simp [hp.CMnn hq (by omega), hp.CMdd hq (by omega)]
  rw [m_ratio_eq dd_ne (dd_lt hp hq (by omega)), mul_di]
  simp
theorem den_ne {p : Rat} : (p.den : Int) ≠ 0 := by have := p.den_pos; omega
theorem num_ne {p : Rat} (h : p ≠ 0) : p.num ≠ 0 := fun e => h (Rat.num_eq_zero.mp e)
theorem m_over_eq [hp : Sz p i] [hq : Sz q j] (hn : q ≠ 0) (h : i + j ≤ 8998) : m_over [eQ p, eQ q] S = .ok (eQ (p / q)) S := by
  refine Rok.eq ?_
  unfold m_over
  rw [rok_def]
  simp [hp.CMnd hq (by omega), hp.CMdn hq (by omega)]
  rw [m_ratio_eq (Int.mul_ne_zero den_ne (num_ne hn)) (dn_lt hp hq (by omega)), div_di]
  simp
@[simp] theorem m_less_eq [hp : Sz p i] [hq : Sz q j] (h : i + j ≤ 999998) : m_less [eQ p, eQ q] S = .ok (.bl (decide (p < q))) S := by
  refine Rok.eq ?_
  unfold m_less
  rw [rok_def]
  simp [hp.CMnd hq (by omega), hq.CMnd hp (by omega)]
  rw [Rat.lt_iff]
@[simp] theorem m_negative_eq : m_negative [eQ p] S = .ok (eQ (-p)) S := by
  refine Rok.eq ?_
  unfold m_negative
  rw [rok_def]
  simp
  rfl
theorem abs_num {p : Rat} : p.abs.num = (p.num.natAbs : Int) := by
  unfold Rat.abs
  have h := Rat.num_nonneg (q := p)
  split
  · rename_i h1; have := h.mpr h1; omega
  · rename_i h1
    rw [Rat.neg_num]
    have : ¬ 0 ≤ p.num := fun q => h1 (h.mp q)
    omega
theorem abs_den {p : Rat} : p.abs.den = p.den := by
  unfold Rat.abs
  split
  · rfl
  · rfl
@[simp] theorem m_size_eq : m_size [eQ p] S = .ok (eQ p.abs) S := by
  refine Rok.eq ?_
  unfold m_size
  rw [rok_def]
  have e : D.tup [.int (p.num.natAbs : Int), .int (p.den : Nat)] = eQ p.abs := by unfold eQ; rw [abs_num, abs_den]
  simp [e]
@[simp] theorem m_l_sum_eq [hp : Sz p i] [hq : Sz q j] (h : i + j ≤ 8998) : m_l_sum [eQ p, eQ q] S = .ok (eQ (p + q)) S := by
  refine Rok.eq ?_
  unfold m_l_sum
  rw [rok_def]
  simp [hp.CMnd hq (by omega), hq.CMnd hp (by omega), hp.CMdd hq (by omega)]
  rw [m_l_low_eq dd_ne (dd_lt hp hq (by omega)), add_di]
  simp
@[simp] theorem m_l_taken_eq [hp : Sz p i] [hq : Sz q j] (h : i + j ≤ 8998) : m_l_taken [eQ p, eQ q] S = .ok (eQ (p * q)) S := by
  refine Rok.eq ?_
  unfold m_l_taken
  rw [rok_def]
  simp [hp.CMnn hq (by omega), hp.CMdd hq (by omega)]
  rw [m_l_low_eq dd_ne (dd_lt hp hq (by omega)), mul_di]
  simp
@[simp] theorem m_l_back_eq : m_l_back [eQ p] S = .ok (eQ (-p)) S := by
  refine Rok.eq ?_
  unfold m_l_back
  rw [rok_def]
  simp
  rfl
@[simp] theorem m_l_below_eq [hp : Sz p i] [hq : Sz q j] (h : i + j ≤ 999998) : m_l_below [eQ p, eQ q] S = .ok (.bl (decide (p < q))) S := by
  refine Rok.eq ?_
  unfold m_l_below
  rw [rok_def]
  simp [hp.CMnd hq (by omega), hq.CMnd hp (by omega)]
  rw [Rat.lt_iff]
@[simp] theorem m_is_whole_int {x : Int} : m_is_whole [.int x] S = .ok (.bl true) S := by
  refine Rok.eq ?_
  unfold m_is_whole
  rw [rok_def]
  simp [Ty.isa]
@[simp] theorem m_l_whole_int {x : Int} : m_l_whole [.int x] S = .ok (.bl true) S := by
  refine Rok.eq ?_
  unfold m_l_whole
  rw [rok_def]
  simp [Ty.isa]
@[simp] theorem m_l_plain_eq : m_l_plain [eQ p, eQ q] S = .ok (.bl (decide (p = q))) S := by
  refine Rok.eq ?_
  unfold m_l_plain
  rw [rok_def]
  simp [Ty.isa]
@[simp] theorem m_l_plain_ii {a b c d : Int} : m_l_plain [.tup [.int a, .int b], .tup [.int c, .int d]] S = .ok (.bl (decide (a = c ∧ b = d))) S := by
  refine Rok.eq ?_
  unfold m_l_plain
  rw [rok_def]
  simp [Ty.isa]
@[simp] theorem m_is_ratio_eq : m_is_ratio [eQ p] S = .ok (.bl true) S := by
  refine Rok.eq ?_
  unfold m_is_ratio
  rw [rok_def]
  have h := p.den_pos
  simp [Ty.isa]
  refine ⟨by omega, ?_⟩
  rw [m_divisor_eq (by omega)]
  have : Int.gcd p.num (p.den : Nat) = 1 := p.reduced
  simp [this]
end
/-- a test of the sizes' rows -/
example {S : Store} {a b c d y u : Rat} [Sz a 1340] [Sz b 1340] [Sz y 41] [Sz u 41] : (m_times [eQ a, eQ y] S).bind (fun x S1 => (m_times [eQ b, eQ u] S1).bind fun z S2 => m_plus [x, z] S2) = .ok (eQ (a * y + b * u)) S := by simp
end Rg
end
section
set_option exponentiation.threshold 10000
/-! RgP: the laws' draws: a pool of three ints. -/
namespace Rg
open PySem L2
abbrev pl (a b c : Int) : Cell := .lst [.int a, .int b, .int c]
class Pool (S : Store) (n : Nat) : Prop where
  ex : ∃ a b c : Int, S[n]? = some (pl a b c)
theorem Pool.lt {S : Store} {n : Nat} (h : Pool S n) : n < S.length := by
  obtain ⟨a, b, c, h⟩ := h
  exact (List.getElem?_eq_some_iff.mp h).1
instance {S : Store} {n : Nat} {a b c : Int} [h : Pool S n] : Pool (S.set n (pl a b c)) n := ⟨a, b, c, List.getElem?_set_self h.lt⟩
instance {S C : Store} {n : Nat} [h : Pool S n] : Pool (S ++ C) n := by
  obtain ⟨a, b, c, e⟩ := h.ex
  exact ⟨a, b, c, by rw [List.getElem?_append_left h.lt]; exact e⟩
instance {S C : Store} {a b c : Int} : Pool (S ++ pl a b c :: C) S.length := ⟨a, b, c, by simp⟩
@[simp] theorem ixN30 : ixN 3 0 = some 0 := rfl
@[simp] theorem ixN32 : ixN 3 2 = some 2 := rfl
@[simp] theorem lstOf_set {S : Store} {n : Nat} {l : List D} (h : n < S.length) : lstOf (S.set n (.lst l)) n = some l := lstOf_lst (List.getElem?_set_self h)
theorem lstOf_set_ne {S : Store} {n m : Nat} {c : Cell} (h : n ≠ m) : lstOf (S.set n c) m = lstOf S m := by
  unfold lstOf
  rw [List.getElem?_set_ne h]
/-- at a def's end: the pool alone is other -/
theorem kept_pool {S : Store} {n : Nat} {a b c : Int} {C : Store} (hn : n < S.length) : Kept S (S.set n (pl a b c) ++ C) := by
  refine ⟨by simp, fun m hm => ?_⟩
  by_cases e : n = m
  · subst e
    refine .inr ⟨pl a b c, ?_, by simp [Cell.under]⟩
    rw [List.getElem?_append_left (by simpa), List.getElem?_set_self hn]
  · refine .inl ?_
    rw [List.getElem?_append_left (by simpa), List.getElem?_set_ne e]
theorem gc_pool {S : Store} {n : Nat} {a b c : Int} {C : Store} {d : D} (hn : n < S.length) (h : d.fresh S.length = none) : gc S d (S.set n (pl a b c) ++ C) = .ok d (S.set n (pl a b c)) := by
  rw [gc_under (kept_pool hn) h, List.take_left' (by simp)]
@[simp] theorem rok_gcp {S : Store} {n : Nat} {a b c : Int} {d : D} {P : D → Store → Prop} (hn : n < S.length) (h : d.fresh S.length = none) : Rok (gc S d (S.set n (pl a b c))) P ↔ P d (S.set n (pl a b c)) := by
  have := gc_pool (C := []) (a := a) (b := b) (c := c) hn h
  rw [List.append_nil] at this
  rw [this, rok_ok]
@[simp] theorem rok_gcpa {S : Store} {n : Nat} {a b c : Int} {C : Store} {d : D} {P : D → Store → Prop} (hn : n < S.length) (h : d.fresh S.length = none) : Rok (gc S d (S.set n (pl a b c) ++ C)) P ↔ P d (S.set n (pl a b c)) := by
  rw [gc_pool hn h, rok_ok]
/-- .. and a new thing is told -/
theorem gc_poolN {S : Store} {n k : Nat} {a b c : Int} {C : Store} {d : D} {l : List D} (hn : n < S.length) (h : d.fresh S.length = some k) (ho : d.only S.length k = true) (hl : (S.set n (pl a b c) ++ C)[k]? = some (.lst l)) (u : unders S.length l = true) :
    gc S d (S.set n (pl a b c) ++ C) = .ok (d.subst S.length) (S.set n (pl a b c) ++ [.lst l]) := by
  unfold gc
  rw [if_pos (kept_pool hn), h]
  dsimp only
  rw [if_pos ho, hl]
  dsimp only
  rw [if_pos u, List.take_left' (by simp)]
@[simp] theorem lstOf_left {A C : Store} {k : Nat} (h : k < A.length) : lstOf (A ++ C) k = lstOf A k := by
  unfold lstOf
  rw [List.getElem?_append_left h]
@[simp] theorem get_right {A C : Store} {k : Nat} (h : A.length ≤ k) : (A ++ C)[k]? = C[k - A.length]? := List.getElem?_append_right h
@[simp] theorem set_right {A C : Store} {k : Nat} {d : Cell} (h : A.length ≤ k) : (A ++ C).set k d = A ++ C.set (k - A.length) d := List.set_append_right _ _ h
@[simp] theorem isLst_ref {S : Store} {n : Nat} : isLst S (.ref n) = (lstOf S n).isSome := rfl
@[simp] theorem rok_mulL {m : Nat} {k : Int} {S : Store} {P : D → Store → Prop} : Rok (fMulL (.ref m) (.int k) S) P ↔ ∃ x, S[m]? = some (.lst x) ∧ (-(2 ^ 63) ≤ k ∧ k < 2 ^ 63 ∧ x.length * k.toNat ≤ sizeLine) ∧ P (.ref S.length) (S ++ [.lst (List.replicate k.toNat x).flatten]) := by
  unfold fMulL
  dsimp only
  split
  · rename_i x hx
    split
    · rename_i h; rw [rok_ok]; exact ⟨fun q => ⟨x, hx, h, q⟩, fun ⟨y, hy, _, q⟩ => by rw [hx] at hy; cases hy; exact q⟩
    · rename_i h; rw [rok_bad]; exact ⟨fun q => q.elim, fun ⟨y, hy, z, q⟩ => by rw [hx] at hy; cases hy; exact h z⟩
  · rename_i h
    rw [rok_bad]
    exact ⟨fun q => q.elim, fun ⟨y, hy, _, _⟩ => h _ hy⟩
theorem lstOf_lt {S : Store} {m : Nat} {l : List D} (h : lstOf S m = some l) : m < S.length := by
  unfold lstOf at h
  rcases Nat.lt_or_ge m S.length with q | q
  · exact q
  · rw [List.getElem?_eq_none q] at h; cases h
theorem lstOf_app {S C : Store} {m : Nat} {l : List D} (h : lstOf S m = some l) : lstOf (S ++ C) m = some l := by rw [lstOf_left (lstOf_lt h)]; exact h
@[simp] theorem lstOf_right {A C : Store} {k : Nat} (h : A.length ≤ k) : lstOf (A ++ C) k = lstOf C (k - A.length) := by
  unfold lstOf
  rw [List.getElem?_append_right h]
@[simp] theorem lstOf_zero {C : Store} {l : List D} : lstOf (.lst l :: C) 0 = some l := rfl
@[simp] theorem lstOf_zerof {C : Store} {l : List D} : lstOf (.fro l :: C) 0 = some l := rfl
@[simp] theorem lstOf_succ {C : Store} {c : Cell} {k : Nat} : lstOf (c :: C) (k + 1) = lstOf C k := by
  unfold lstOf
  rw [List.getElem?_cons_succ]
@[simp] theorem lstOf_one {C : Store} {c : Cell} : lstOf (c :: C) 1 = lstOf C 0 := rfl
@[simp] theorem lstOf_two {C : Store} {c d : Cell} : lstOf (c :: d :: C) 2 = lstOf C 0 := rfl
@[simp] theorem lstOf_setn {S : Store} {n m : Nat} {c : Cell} (h : m ≠ n) : lstOf (S.set n c) m = lstOf S m := lstOf_set_ne (Ne.symm h)
@[simp] theorem set_left {A C : Store} {k : Nat} {c : Cell} (h : k < A.length) : (A ++ C).set k c = A.set k c ++ C := by
  rw [List.set_append_left _ _ h]
theorem next_then {S : Store} {n : Nat} {base : Int} {P : D → Store → Prop} (hp : Pool S n) (hb : 0 < base) (hz : base.natAbs < 2 ^ 8999) (h : ∀ v a b c : Int, 0 ≤ v → v < base → P (.int v) (S.set n (pl a b c))) : Rok (m_l_next [.ref n, .int base] S) P := by
  obtain ⟨a, b, c, e⟩ := hp.ex
  have hn : n < S.length := hp.lt
  have el := lstOf_lst e
  have e' := (List.getElem?_eq_some_iff.mp e).2
  unfold m_l_next
  simp [rok_def, el, e', hn]
  constructor
  · intro ha
    exact ⟨hb, CDv_w (by omega) hz (by decide), h _ _ _ _ (Int.emod_nonneg _ (by omega)) (Int.emod_lt_of_pos _ hb)⟩
  · intro ha
    simp [hn, CMo]
    refine ⟨CM_l (by decide), CM_l ?_, CM_l ?_, CDv_w (b := 4) (by decide) (by decide) (by decide), hb, h _ _ _ _ (Int.emod_nonneg _ (by omega)) (Int.emod_lt_of_pos _ hb)⟩
    · have h1 := Int.emod_nonneg (b + 7919 * (c + 1)) (b := 1000000007) (by decide)
      have h2 := Int.emod_lt_of_pos (b + 7919 * (c + 1)) (b := 1000000007) (by decide)
      omega
    · have h1 := Int.emod_nonneg (((b + 7919 * (c + 1)) % 1000000007 + 11) * ((b + 7919 * (c + 1)) % 1000000007 + 48271)) (b := 998244353) (by decide)
      have h2 := Int.emod_lt_of_pos (((b + 7919 * (c + 1)) % 1000000007 + 11) * ((b + 7919 * (c + 1)) % 1000000007 + 48271)) (b := 998244353) (by decide)
      omega
theorem bits_small {x : Int} (h : x.natAbs < 2 ^ 8999) : Builtin.Int.intBits x ≤ 8999 := intBits_le_iff.mpr h
theorem wide_then {S : Store} {n : Nat} {base : Int} {P : D → Store → Prop} (hp : Pool S n) (hb : 0 < base) (hz : base.natAbs < 2 ^ 8999) (h : ∀ v a b c : Int, 0 ≤ v → v < base → P (.int v) (S.set n (pl a b c))) : Rok (m_l_wide [.ref n, .int base] S) P := by
  obtain ⟨a, b, c, e⟩ := hp.ex
  have hn : n < S.length := hp.lt
  have el := lstOf_lst e
  have hbits := bits_small hz
  have e' := (List.getElem?_eq_some_iff.mp e).2
  unfold m_l_wide
  simp [rok_def, el, e', hn]
  refine ⟨fun _ => next_then hp hb hz fun v a b c h0 h1 => by simp [hn]; exact h v a b c h0 h1, fun _ => ⟨CPow_s (by decide) (by decide) (by decide), fun _ => next_then hp hb hz fun v a b c h0 h1 => by simp [hn]; exact h v a b c h0 h1, fun _ => ?_⟩⟩
  simp [sok_for]
  refine ⟨CDv_w (b := 5) (by decide) (by decide) (by decide), by omega, ?_⟩
  refine sok_forRun (fun _ e S' => (∃ x d, e = [some (.ref n), some (.int base), some (.int x), d]) ∧ ∃ a b c, S' = S.set n (pl a b c)) _ (fun _ _ _ _ => trivial) ?_ ?_ _ _ ⟨⟨0, none, rfl⟩, a, b, c, ?_⟩
  · rintro i d _ _ _ ⟨⟨x, o, rfl⟩, a, b, c, rfl⟩
    simp
    refine ⟨CM_r (by decide), next_then inferInstance (by decide) (by decide) fun v a b c h0 h1 => ?_⟩
    simp
    exact ⟨a, b, c, rfl⟩
  · rintro _ _ ⟨⟨x, o, rfl⟩, a, b, c, rfl⟩
    simp [hn]
    exact ⟨hb, h _ _ _ _ (Int.emod_nonneg _ (by omega)) (Int.emod_lt_of_pos _ hb)⟩
  · exact (List.ext_getElem? fun m => by
      by_cases q : n = m
      · subst q; rw [List.getElem?_set_self hn, e]
      · rw [List.getElem?_set_ne q])
/-- an item of a written list, whichever -/
theorem ix_all {l : List D} {i : Int} {P : D → Prop} (h0 : 0 ≤ i) (h1 : i < l.length) (h : ∀ x ∈ l, P x) : ∃ x, atI l i = some x ∧ P x := by
  have hi : i.toNat < l.length := by omega
  have := atI_nat (xs := l) (j := i.toNat) (v := l[i.toNat]) (by simp [hi])
  refine ⟨l[i.toNat], ?_, h _ (List.getElem_mem _)⟩
  rw [← this, Int.toNat_of_nonneg h0]
theorem sz_di {t b : Int} {k : Nat} (hb : b ≠ 0) (h1 : t.natAbs < 2 ^ k) (h2 : b.natAbs < 2 ^ k) : Sz (Rat.divInt t b) k := by
  constructor
  · rw [Rat.num_divInt, Int.gcd_comm]
    refine Nat.lt_of_le_of_lt natAbs_ediv_le ?_
    rw [Int.natAbs_mul]
    have : b.sign.natAbs ≤ 1 := by
      rw [Int.natAbs_sign]
      split <;> omega
    exact Nat.lt_of_le_of_lt (Nat.le_trans (Nat.mul_le_mul_right _ this) (by omega)) h1
  · rw [Rat.den_divInt, if_neg hb]
    exact Nat.lt_of_le_of_lt (Nat.div_le_self _ _) h2
theorem low_then {S : Store} {t b : Int} {P : D → Store → Prop} (k : Nat) (hb : b ≠ 0) (h1 : t.natAbs < 2 ^ k) (h2 : b.natAbs < 2 ^ k) (hk : k ≤ 8999) (h : Sz (Rat.divInt t b) k → P (eQ (Rat.divInt t b)) S) : Rok (m_l_low [.int t, .int b] S) P := by
  rw [m_l_low_eq hb (Nat.lt_of_lt_of_le h2 (pow_le hk)), rok_ok]
  exact h (sz_di hb h1 h2)
theorem number_then {S : Store} {n : Nat} {P : D → Store → Prop} (hp : Pool S n) (h : ∀ (q : Rat) (a b c : Int), Sz q 41 → P (eQ q) (S.set n (pl a b c))) : Rok (m_l_number [.ref n] S) P := by
  have hn : n < S.length := hp.lt
  unfold m_l_number
  simp [rok_def]
  refine next_then hp (by decide) (by decide) fun v a b c v0 v1 => ?_
  simp
  constructor
  · intro _
    refine next_then inferInstance (by decide) (by decide) fun w a b c w0 w1 => ?_
    simp [hn]
    refine next_then inferInstance (by decide) (by decide) fun i a b c i0 i1 => ?_
    simp [hn]
    refine ix_all i0 ?_ ?_
    · simp; omega
    simp [hn]
    refine ⟨?_, ?_, ?_, ?_⟩ <;> (refine low_then 41 (by decide) (by omega) (by decide) (by decide) fun hz => ?_; simp [hn]; exact h _ _ _ _ hz)
  · intro _
    constructor
    · intro _
      refine next_then inferInstance (by decide) (by decide) fun w a b c w0 w1 => ?_
      simp [hn]
      refine next_then inferInstance (by decide) (by decide) fun i a b c i0 i1 => ?_
      simp [hn]
      refine low_then 41 (by omega) (by omega) (by omega) (by decide) fun hz => ?_
      simp [hn]
      exact h _ _ _ _ hz
    · intro _
      constructor
      · intro _
        refine ⟨CPow_s (by decide) (by decide) (by decide), ?_⟩
        refine ⟨CM_l (by decide), ?_⟩
        refine wide_then inferInstance (by decide) (by decide) fun w a b c w0 w1 => ?_
        simp [hn]
        refine wide_then inferInstance (by decide) (by decide) fun i a b c i0 i1 => ?_
        simp [hn]
        refine low_then 41 (by omega) (by omega) (by omega) (by decide) fun hz => ?_
        simp [hn]
        exact h _ _ _ _ hz
      · intro _
        simp [hn]
        exact h _ _ _ _ (Sz.mono inferInstance (by decide))
theorem pool_eq {S : Store} {x : Int} : ∃ a b : Int, m_l_pool [.int x] S = .ok (.ref S.length) (S ++ [pl a b 0]) := by
  have key : Rok (m_l_pool [.int x] S) fun d S' => d = .ref S.length ∧ ∃ a b, S' = S ++ [pl a b 0] := by
    unfold m_l_pool
    simp [rok_def, CMo]
    exact CPow_s (by decide) (by decide) (by decide)
  obtain ⟨d, S', e, rfl, a, b, rfl⟩ := key
  exact ⟨a, b, e⟩
theorem pool_then {S : Store} {x : Int} {P : D → Store → Prop} (h : ∀ a b c : Int, P (.ref S.length) (S ++ [pl a b c])) : Rok (m_l_pool [.int x] S) P := by
  obtain ⟨a, b, e⟩ := pool_eq (S := S) (x := x)
  rw [e, rok_ok]
  exact h a b 0
/-- what is added behind a new pool's store -/
@[simp] theorem set_last {S : Store} {c d : Cell} {C : Store} : (S ++ c :: C).set S.length d = S ++ d :: C := by
  rw [List.set_append_right _ _ (Nat.le_refl _)]
  simp
def lawTurn (body : SS) (n : Nat) : Prop := ∀ (x : Int) (env : Env) (S : Store), env.length = n → Sok (body (some (.ref 0) :: some (.int x) :: env) S)
  { nx := fun e S' => (e.length = n + 2 ∧ e[0]? = some (some (.ref 0))) ∧ ∃ C, S' = S ++ C, rt := fun _ _ => False, ct := fun e S' => (e.length = n + 2 ∧ e[0]? = some (some (.ref 0))) ∧ ∃ C, S' = S ++ C }
theorem env_of {n : Nat} {e : Env} (h : e.length = n + 2) (h0 : e[0]? = some (some (.ref 0))) : ∃ y env', e = some (.ref 0) :: y :: env' ∧ env'.length = n := by
  match e, h, h0 with
  | a :: b :: r, h, h0 => exact ⟨b, r, by simp at h0; rw [h0], by simpa using h⟩
theorem law_of {n : Nat} {body rest : SS} {ns : List Int} (hl : ns.length ≤ 63) {m : Mf} (hm : m = mkDef (n + 2) 1 (sSeq (sFor (sIter (s2 fPlus (sVar 0) (sLst (sCons (sC (.int 0)) sNil)))) (gN 1) body) rest)) (turn : lawTurn body n)
    (hrest : ∀ (y : Option D) (env : Env) (S : Store), env.length = n → Sok (rest (some (.ref 0) :: y :: env) S) { nx := fun _ _ => False, rt := fun d S' => d = .bl true ∧ ∃ C, S' = S ++ C }) :
    ∃ S', m [.ref 0] [.fro (ns.map Rg.D.int)] = .ok (.bl true) S' := by
  have key : Rok (m [.ref 0] [.fro (ns.map Rg.D.int)]) fun d _ => d = .bl true := by
    rw [hm]
    simp [rok_def, sok_for]
    refine ⟨by omega, ?_⟩
    refine sok_forRun (fun _ e S' => (∃ y env', e = some (.ref 0) :: y :: env' ∧ env'.length = n) ∧ ∃ C, S' = [Cell.fro (ns.map Rg.D.int), .lst [.int 0], .lst (ns.map Rg.D.int ++ [.int 0])] ++ C) _ (fun i e S' h => ?_) ?_ ?_ _ _ ⟨⟨none, List.replicate n none, rfl, by simp⟩, [], rfl⟩
    · obtain ⟨_, C, rfl⟩ := h
      rfl
    · rintro i d e S' hi ⟨⟨y, env, rfl, he⟩, C, rfl⟩
      have : ∃ x, d = .int x := by
        have := List.mem_of_getElem? hi
        simp at this
        rcases this with ⟨a, _, rfl⟩ | rfl
        · exact ⟨_, rfl⟩
        · exact ⟨_, rfl⟩
      obtain ⟨x, rfl⟩ := this
      simp only [gN_some]
      refine ⟨_, rfl, ?_⟩
      refine (turn x env _ he).imp ?_ ?_ ?_ ?_
      · rintro e S2 ⟨h1, C2, rfl⟩
        exact ⟨env_of h1.1 h1.2, C ++ C2, by simp⟩
      · exact fun _ _ h => h.elim
      · exact fun _ _ h => h.elim
      · rintro e S2 ⟨h1, C2, rfl⟩
        exact ⟨env_of h1.1 h1.2, C ++ C2, by simp⟩
    · rintro e S' ⟨⟨y, env, rfl, he⟩, C, rfl⟩
      refine (hrest y env _ he).imp (fun _ _ h => h.elim) ?_ (fun _ _ h => h.elim) (fun _ _ h => h.elim)
      rintro d S2 ⟨rfl, C2, rfl⟩
      have := gc_app (S := [Cell.fro (ns.map Rg.D.int)]) (C := [.lst [.int 0], .lst (ns.map Rg.D.int ++ [.int 0])] ++ C ++ C2) (d := .bl true) (by simp)
      simp at this ⊢
      rw [this]
      simp
  obtain ⟨d, S', e, rfl⟩ := key
  exact ⟨S', e⟩
theorem rest_true {n : Nat} : ∀ (y : Option D) (env : Env) (S : Store), env.length = n → Sok (sRet (sC (.bl true)) (some (.ref 0) :: y :: env) S) { nx := fun _ _ => False, rt := fun d S' => d = .bl true ∧ ∃ C, S' = S ++ C } := fun y env S _ => by
  simp
/-- a law with something ahead of its loop -/
theorem law_gen {np slot : Nat} {pre body rest : SS} {si : SI} {ns : List Int} {m : Mf} (EI : Env → Prop) (hm : m = mkDef np 1 (sSeq pre (sSeq (sFor si (gN slot) body) rest)))
    (hpre : Sok (pre (some (.ref 0) :: List.replicate (np - 1) none) [.fro (ns.map Rg.D.int)]) { nx := fun e S' => EI e ∧ S' = [.fro (ns.map Rg.D.int)], rt := fun _ _ => False })
    (hit : ∀ e, EI e → Rok (si e [.fro (ns.map Rg.D.int)]) fun w S' => (∃ xs : List Int, w.items = xs.map Rg.D.int) ∧ (∃ C, S' = [.fro (ns.map Rg.D.int)] ++ C) ∧ ∀ C, w.chk (S' ++ C))
    (turn : ∀ (x : Int) (e : Env) (S : Store), EI e → Sok (body (e.set slot (some (.int x))) S) { nx := fun e' S' => EI e' ∧ ∃ C, S' = S ++ C, rt := fun _ _ => False, ct := fun e' S' => EI e' ∧ ∃ C, S' = S ++ C })
    (hrest : ∀ (e : Env) (S : Store), EI e → Sok (rest e S) { nx := fun _ _ => False, rt := fun d S' => d = .bl true ∧ ∃ C, S' = S ++ C }) :
    ∃ S', m [.ref 0] [.fro (ns.map Rg.D.int)] = .ok (.bl true) S' := by
  have key : Rok (m [.ref 0] [.fro (ns.map Rg.D.int)]) fun d _ => d = .bl true := by
    rw [hm, rok_def]
    refine ⟨rfl, ?_⟩
    rw [sok_seq]
    refine Sok.imp hpre ?_ (fun _ _ h => h.elim) (fun _ _ h => h.elim) (fun _ _ h => h.elim)
    rintro e _ ⟨he, rfl⟩
    dsimp only
    rw [sok_seq, sok_for]
    refine (hit e he).imp ?_
    rintro ⟨items, chk⟩ S1 ⟨⟨xs, hx⟩, ⟨C0, rfl⟩, hchk⟩
    dsimp only at hx hchk ⊢
    subst hx
    refine sok_forRun (fun _ e S' => EI e ∧ ∃ C, S' = [Cell.fro (ns.map Rg.D.int)] ++ C0 ++ C) _ (fun i e S' h => ?_) ?_ ?_ _ _ ⟨he, [], by simp⟩
    · obtain ⟨_, C, rfl⟩ := h
      exact hchk C
    · rintro i d e S' hi ⟨he, C, rfl⟩
      obtain ⟨x, _, rfl⟩ := List.mem_map.mp (List.mem_of_getElem? hi)
      simp only [gN_some]
      refine ⟨_, rfl, ?_⟩
      refine (turn x e _ he).imp ?_ ?_ ?_ ?_
      · rintro e S2 ⟨h1, C2, rfl⟩
        exact ⟨h1, C ++ C2, by simp⟩
      · exact fun _ _ h => h.elim
      · exact fun _ _ h => h.elim
      · rintro e S2 ⟨h1, C2, rfl⟩
        exact ⟨h1, C ++ C2, by simp⟩
    · rintro e S' ⟨he, C, rfl⟩
      refine (hrest e _ he).imp (fun _ _ h => h.elim) ?_ (fun _ _ h => h.elim) (fun _ _ h => h.elim)
      rintro d S2 ⟨rfl, C2, rfl⟩
      have := gc_app (S := [Cell.fro (ns.map Rg.D.int)]) (C := C0 ++ C ++ C2) (d := .bl true) (by simp)
      simp at this ⊢
      rw [this]
      simp
  obtain ⟨d, S', e, rfl⟩ := key
  exact ⟨S', e⟩
/-- the plain way through a script -/
theorem it_script {ns : List Int} (hl : ns.length ≤ 63) {e : Env} (h0 : e[0]? = some (some (.ref 0))) : Rok (sIter (s2 fPlus (sVar 0) (sLst (sCons (sC (.int 0)) sNil))) e [.fro (ns.map Rg.D.int)]) fun w S' => (∃ xs : List Int, w.items = xs.map Rg.D.int) ∧ (∃ C, S' = [.fro (ns.map Rg.D.int)] ++ C) ∧ ∀ C, w.chk (S' ++ C) := by
  simp [h0]
  exact ⟨by omega, ns ++ [0], by simp⟩
/-! ### comprehensions over data -/
theorem comp_thenG {A : Type} {si : SI} {g : SG} {t : ST} {e : SE} {vs : List Nat} {env : Env} {S0 : Store} {P : D → Store → Prop} (S : Store) (l : List A) (enc : A → D) (p : A → Bool) (F : A → D)
    (hsi : Rok (si env S0) fun w S1 => S1 = S ∧ w.items = l.map enc ∧ ∀ acc : List D, w.chk (S ++ [.lst acc])) (hlen : l.length ≤ sizeLine)
    (step : ∀ x ∈ l, ∀ acc : List D, ∃ e', g (enc x) (wipeD env vs) (S ++ [.lst acc]) = some e' ∧ Rok (t e' (S ++ [.lst acc])) fun b S2 => S2 = S ++ [.lst acc] ∧ b = p x ∧ (b = true → Rok (e e' (S ++ [.lst acc])) fun y S3 => S3 = S ++ [.lst acc] ∧ y = F x))
    (hP : P (.ref S.length) (S ++ [.lst ((l.filter p).map F)])) : Rok (sComp si g t e vs env S0) P := by
  rw [rok_comp]
  refine hsi.imp ?_
  rintro ⟨items, chk⟩ S1 ⟨rfl, hit, hchk⟩
  dsimp only at hit hchk ⊢
  subst hit
  have key : ∀ (l' : List A) (acc : List D), (∀ x ∈ l', x ∈ l) → acc.length + l'.length ≤ sizeLine → P (.ref S1.length) (S1 ++ [.lst (acc ++ (l'.filter p).map F)]) → Rok (compRun g t e chk S1.length (wipeD env vs) (l'.map enc) (S1 ++ [.lst acc])) fun _ S2 => P (.ref S1.length) S2 := by
    intro l'
    induction l' with
    | nil =>
      intro acc _ _ h
      rw [List.map_nil, rok_compNil]
      exact ⟨hchk acc, by simpa using h⟩
    | cons d l' ih =>
      intro acc hm hz h
      rw [List.map_cons, rok_compCons]
      obtain ⟨e', h1, b, S2, h2, rfl, rfl, h3⟩ := step d (hm d (by simp)) acc
      refine ⟨hchk acc, e', h1, _, _, h2, fun hb => ?_, fun hb => ?_⟩
      · obtain ⟨y, S3, q1, rfl, rfl⟩ := h3 hb
        refine ⟨_, _, q1, acc, by simp, by simp only [List.length_cons] at hz; omega, ?_⟩
        have : (S1 ++ [Cell.lst acc]).set S1.length (.lst (acc ++ [F d])) = S1 ++ [.lst (acc ++ [F d])] := by
          rw [List.set_append_right _ _ (Nat.le_refl _)]; simp
        rw [this]
        refine ih _ (fun x hx => hm x (by simp [hx])) (by simp only [List.length_cons, List.length_append, List.length_nil] at hz ⊢; omega) ?_
        simpa [hb] using h
      · refine ih _ (fun x hx => hm x (by simp [hx])) (by simp only [List.length_cons] at hz; omega) ?_
        simpa [hb] using h
  exact key l [] (fun _ h => h) (by simpa using hlen) (by simpa using hP)
theorem comp_then {A : Type} {si : SI} {g : SG} {t : ST} {e : SE} {vs : List Nat} {env : Env} {S : Store} {P : D → Store → Prop} (l : List A) (enc : A → D) (p : A → Bool) (F : A → D)
    (hsi : Rok (si env S) fun w S1 => S1 = S ∧ w.items = l.map enc ∧ ∀ acc : List D, w.chk (S ++ [.lst acc])) (hlen : l.length ≤ sizeLine)
    (step : ∀ x ∈ l, ∀ acc : List D, ∃ e', g (enc x) (wipeD env vs) (S ++ [.lst acc]) = some e' ∧ Rok (t e' (S ++ [.lst acc])) fun b S2 => S2 = S ++ [.lst acc] ∧ b = p x ∧ (b = true → Rok (e e' (S ++ [.lst acc])) fun y S3 => S3 = S ++ [.lst acc] ∧ y = F x))
    (hP : P (.ref S.length) (S ++ [.lst ((l.filter p).map F)])) : Rok (sComp si g t e vs env S) P := comp_thenG S l enc p F hsi hlen step hP
theorem comp_map_thenG {A : Type} {si : SI} {g : SG} {e : SE} {vs : List Nat} {env : Env} {S0 : Store} {P : D → Store → Prop} (S : Store) (l : List A) (enc : A → D) (F : A → D)
    (hsi : Rok (si env S0) fun w S1 => S1 = S ∧ w.items = l.map enc ∧ ∀ acc : List D, w.chk (S ++ [.lst acc])) (hlen : l.length ≤ sizeLine)
    (step : ∀ x ∈ l, ∀ acc : List D, ∃ e', g (enc x) (wipeD env vs) (S ++ [.lst acc]) = some e' ∧ Rok (e e' (S ++ [.lst acc])) fun y S3 => S3 = S ++ [.lst acc] ∧ y = F x)
    (hP : P (.ref S.length) (S ++ [.lst (l.map F)])) : Rok (sComp si g sYes e vs env S0) P := by
  refine comp_thenG S l enc (fun _ => true) F hsi hlen (fun x hx acc => ?_) ?_
  · obtain ⟨e', h1, h2⟩ := step x hx acc
    refine ⟨e', h1, ?_⟩
    rw [rok_yes]
    exact ⟨rfl, rfl, fun _ => h2⟩
  · rw [List.filter_eq_self.mpr (fun _ _ => rfl)]
    exact hP
theorem comp_map_then {A : Type} {si : SI} {g : SG} {e : SE} {vs : List Nat} {env : Env} {S : Store} {P : D → Store → Prop} (l : List A) (enc : A → D) (F : A → D)
    (hsi : Rok (si env S) fun w S1 => S1 = S ∧ w.items = l.map enc ∧ ∀ acc : List D, w.chk (S ++ [.lst acc])) (hlen : l.length ≤ sizeLine)
    (step : ∀ x ∈ l, ∀ acc : List D, ∃ e', g (enc x) (wipeD env vs) (S ++ [.lst acc]) = some e' ∧ Rok (e e' (S ++ [.lst acc])) fun y S3 => S3 = S ++ [.lst acc] ∧ y = F x)
    (hP : P (.ref S.length) (S ++ [.lst (l.map F)])) : Rok (sComp si g sYes e vs env S) P := by
  refine comp_then l enc (fun _ => true) F hsi hlen (fun x hx acc => ?_) ?_
  · obtain ⟨e', h1, h2⟩ := step x hx acc
    refine ⟨e', h1, ?_⟩
    rw [rok_yes]
    exact ⟨rfl, rfl, fun _ => h2⟩
  · rw [List.filter_eq_self.mpr (fun _ _ => rfl)]
    exact hP
/-- all([..]), any([..]) of what each datum tells -/
theorem all_then {A : Type} {si : SI} {g : SG} {e : SE} {vs : List Nat} {env : Env} {S : Store} {P : D → Store → Prop} (l : List A) (enc : A → D) (p : A → Bool)
    (hsi : Rok (si env S) fun w S1 => S1 = S ∧ w.items = l.map enc ∧ ∀ acc : List D, w.chk (S ++ [.lst acc])) (hlen : l.length ≤ sizeLine)
    (step : ∀ x ∈ l, ∀ acc : List D, ∃ e', g (enc x) (wipeD env vs) (S ++ [.lst acc]) = some e' ∧ Rok (e e' (S ++ [.lst acc])) fun y S3 => S3 = S ++ [.lst acc] ∧ y = .bl (p x))
    (hP : P (.bl (l.all p)) (S ++ [.lst (l.map fun x => .bl (p x))])) : Rok (sCall fAll (sCons (sComp si g sYes e vs) sNil) env S) P := by
  rw [rok_call, rok_cons]
  refine comp_map_then l enc (fun x => .bl (p x)) hsi hlen step ?_
  rw [rok_nil, rok_all]
  refine ⟨_, l.map p, lstOf_new, boolsD_map, ?_⟩
  rw [List.all_map]
  exact hP
theorem any_then {A : Type} {si : SI} {g : SG} {e : SE} {vs : List Nat} {env : Env} {S : Store} {P : D → Store → Prop} (l : List A) (enc : A → D) (p : A → Bool)
    (hsi : Rok (si env S) fun w S1 => S1 = S ∧ w.items = l.map enc ∧ ∀ acc : List D, w.chk (S ++ [.lst acc])) (hlen : l.length ≤ sizeLine)
    (step : ∀ x ∈ l, ∀ acc : List D, ∃ e', g (enc x) (wipeD env vs) (S ++ [.lst acc]) = some e' ∧ Rok (e e' (S ++ [.lst acc])) fun y S3 => S3 = S ++ [.lst acc] ∧ y = .bl (p x))
    (hP : P (.bl (l.any p)) (S ++ [.lst (l.map fun x => .bl (p x))])) : Rok (sCall fAny (sCons (sComp si g sYes e vs) sNil) env S) P := by
  rw [rok_call, rok_cons]
  refine comp_map_then l enc (fun x => .bl (p x)) hsi hlen step ?_
  rw [rok_nil, rok_any]
  refine ⟨_, l.map p, lstOf_new, boolsD_map, ?_⟩
  rw [List.any_map]
  exact hP
theorem law_gen0 {np slot : Nat} {body rest : SS} {si : SI} {ns : List Int} {m : Mf} (EI : Env → Prop) (hm : m = mkDef np 1 (sSeq (sFor si (gN slot) body) rest)) (h0 : EI (some (.ref 0) :: List.replicate (np - 1) none))
    (hit : ∀ e, EI e → Rok (si e [.fro (ns.map Rg.D.int)]) fun w S' => (∃ xs : List Int, w.items = xs.map Rg.D.int) ∧ (∃ C, S' = [.fro (ns.map Rg.D.int)] ++ C) ∧ ∀ C, w.chk (S' ++ C))
    (turn : ∀ (x : Int) (e : Env) (S : Store), EI e → Sok (body (e.set slot (some (.int x))) S) { nx := fun e' S' => EI e' ∧ ∃ C, S' = S ++ C, rt := fun _ _ => False, ct := fun e' S' => EI e' ∧ ∃ C, S' = S ++ C })
    (hrest : ∀ (e : Env) (S : Store), EI e → Sok (rest e S) { nx := fun _ _ => False, rt := fun d S' => d = .bl true ∧ ∃ C, S' = S ++ C }) :
    ∃ S', m [.ref 0] [.fro (ns.map Rg.D.int)] = .ok (.bl true) S' :=
  law_gen (pre := sSkip) EI (hm.trans (congrArg (mkDef np 1) rfl)) (sok_skip.mpr ⟨h0, rfl⟩) hit turn hrest
end Rg
end
section
set_option exponentiation.threshold 10000
/-! RgR: roots by halving. -/
namespace Rg
open PySem L2
def IsSq (n r : Int) : Prop := 0 ≤ r ∧ r * r ≤ n ∧ n < (r + 1) * (r + 1)
theorem sq_lt {a b : Int} (h0 : 0 ≤ a) (h : a < b) : (a + 1) * (a + 1) ≤ b * b := Int.mul_le_mul (by omega) (by omega) (by omega) (by omega)
theorem IsSq.uni {n r s : Int} (h : IsSq n r) (g : IsSq n s) : r = s := by
  obtain ⟨a, b, c⟩ := h
  obtain ⟨d, e, f⟩ := g
  rcases Int.lt_trichotomy r s with q | q | q
  · have := sq_lt a q; omega
  · exact q
  · have := sq_lt d q; omega
noncomputable def isq (n : Int) : Int := Classical.epsilon fun r => IsSq n r
theorem isq_of {n r : Int} (h : IsSq n r) : isq n = r := (Classical.epsilon_spec (p := fun r => IsSq n r) ⟨r, h⟩).uni h
theorem sq_ge {a : Int} (h : 1 ≤ a) : a ≤ a * a := by
  have := Int.mul_le_mul_of_nonneg_left h (show 0 ≤ a by omega)
  omega
theorem m_whole_root_eq {S : Store} {n : Int} (h0 : 0 ≤ n) {k : Nat} (hk : k ≤ 400000) (hz : n.natAbs < 2 ^ k) : m_whole_root [.int n] S = .ok (.int (isq n)) S ∧ IsSq n (isq n) := by
  have key : Rok (m_whole_root [.int n] S) fun d S' => ∃ r, d = .int r ∧ S' = S ∧ IsSq n r := by
    unfold m_whole_root
    simp [rok_def]
    refine sok_while (fun e S' => S' = S ∧ ∃ (l h : Int) (o : Option D), e = [some (.int n), some (.int l), some (.int h), o] ∧ 0 ≤ l ∧ l < h ∧ h ≤ n + 1 ∧ l * l ≤ n ∧ n < h * h) (fun e S => nAt 2 e - nAt 1 e) ?_ _ _ ⟨rfl, 0, n + 1, none, rfl, by omega, by omega, by omega, by omega, by have := sq_ge (a := n + 1) (by omega); omega⟩
    rintro e S' ⟨rfl, l, h, o, rfl, a1, a2, a3, a4, a5⟩
    simp
    constructor
    · intro hlt
      have b1 : l < (l + h) / 2 := by omega
      have b2 : (l + h) / 2 < h := by omega
      generalize (l + h) / 2 = m at b1 b2
      have hk2 : m.natAbs < 2 ^ k := Nat.lt_of_le_of_lt (by omega) hz
      refine ⟨CDv_w (b := 2) (by decide) (by decide) (by decide), CM_w hk2 hk2 (by omega), fun hm => ⟨⟨_, _, ⟨rfl, rfl⟩, by omega, by omega, by omega, by omega, by omega⟩, ?_⟩, fun hm => ⟨⟨_, _, ⟨rfl, rfl⟩, by omega, by omega, by omega, by omega, by omega⟩, ?_⟩⟩
      · simp [nAt]; omega
      · simp [nAt]; omega
    · intro hlt
      have : h = l + 1 := by omega
      subst this
      exact ⟨a1, a4, a5⟩
  obtain ⟨d, S', e, r, rfl, rfl, h⟩ := key
  rw [isq_of h]
  exact ⟨e, h⟩
theorem isq_ok {n : Int} (h0 : 0 ≤ n) {k : Nat} (hk : k ≤ 400000) (hz : n.natAbs < 2 ^ k) : IsSq n (isq n) := (m_whole_root_eq (S := []) h0 hk hz).2
theorem isq_lt {n : Int} {k : Nat} (h0 : 0 ≤ n) (hk : k ≤ 400000) (hz : n.natAbs < 2 ^ k) : (isq n).natAbs < 2 ^ k := by
  obtain ⟨a, b, c⟩ := isq_ok h0 hk hz
  refine Nat.lt_of_le_of_lt ?_ hz
  rcases Int.lt_or_le (isq n) 1 with q | q
  · omega
  · have := sq_ge q; omega
def p2 (j : Nat) : Int := ((2 ^ j : Nat) : Int)
theorem p2_zero : p2 0 = 1 := rfl
theorem p2_succ (j : Nat) : p2 (j + 1) = p2 j * 2 := by unfold p2; rw [Nat.pow_succ]; omega
@[simp] theorem rangeD_length (lo : Int) (n : Nat) : (rangeD lo n).length = n := rangeD_len lo n
/-- the laws' own way to a root -/
theorem m_l_of_squares_eq {S : Store} {n : Int} (h0 : 0 ≤ n) {k : Nat} (hk : k ≤ 400000) (hz : n.natAbs < 2 ^ k) : m_l_of_squares [.int n] S = .ok (.int (if isq n * isq n = n then isq n else -1)) S := by
  have hb : Builtin.Int.intBits n ≤ k := intBits_le_iff.mpr hz
  have hb2 : n.natAbs < 2 ^ Builtin.Int.intBits n := intBits_le_iff.mp (Nat.le_refl _)
  refine Rok.eq ?_
  unfold m_l_of_squares
  simp [rok_def, sok_for]
  generalize Builtin.Int.intBits n = t at hb hb2
  refine ⟨⟨by omega, by omega⟩, ?_⟩
  refine sok_forRun (fun i e S' => S' = S ∧ ∃ (l h : Int) (o q : Option D), e = [some (.int n), some (.int l), some (.int h), o, q] ∧ 0 ≤ l ∧ l < h ∧ h ≤ n + 1 ∧ l * l ≤ n ∧ n < h * h ∧ h - l ≤ p2 (t - i)) _ (fun _ _ _ _ => trivial) ?_ ?_ _ _ ⟨rfl, 0, n + 1, none, none, rfl, by omega, by omega, by omega, by omega, by have := sq_ge (a := n + 1) (by omega); omega, by unfold p2; simp only [Nat.sub_zero]; omega⟩
  · rintro i d e S' hi ⟨rfl, l, h, o, q, rfl, a1, a2, a3, a4, a5, a6⟩
    simp
    have b1 : l ≤ (l + h) / 2 := by omega
    have b2 : (l + h) / 2 < h := by omega
    have b3 : (l + h) / 2 - l ≤ p2 (t - (i + 1)) ∧ h - (l + h) / 2 ≤ p2 (t - (i + 1)) := by
      by_cases hit : i < t
      · have : p2 (t - i) = p2 (t - (i + 1)) * 2 := by rw [← p2_succ]; congr 1; omega
        omega
      · have e1 : t - i = 0 := by omega
        have e2 : t - (i + 1) = 0 := by omega
        rw [e1, p2_zero] at a6
        rw [e2, p2_zero]
        omega
    have b4 : l = (l + h) / 2 → h = l + 1 := by omega
    generalize (l + h) / 2 = m at b1 b2 b3 b4
    have hk2 : m.natAbs < 2 ^ k := Nat.lt_of_le_of_lt (by omega) hz
    refine ⟨CDv_w (b := 2) (by decide) (by decide) (by decide), CM_w hk2 hk2 (by omega), fun hm => ⟨_, _, ⟨rfl, rfl⟩, by omega, by omega, by omega, by omega, by omega, by omega⟩, fun hm => ⟨_, _, ⟨rfl, rfl⟩, by omega, ?_, by omega, by omega, by omega, by omega⟩⟩
    rcases Int.lt_or_eq_of_le b1 with q | q
    · exact q
    · rw [← q] at hm; omega
  · rintro e S' ⟨rfl, l, h, o, q, rfl, a1, a2, a3, a4, a5, a6⟩
    have : h = l + 1 := by
      rw [rangeD_len] at a6
      have e1 : t - (t + 1) = 0 := by omega
      rw [e1, p2_zero] at a6
      omega
    subst this
    have hq : isq n = l := isq_of ⟨a1, a4, a5⟩
    rw [hq]
    have hk2 : l.natAbs < 2 ^ k := by rw [← hq]; exact isq_lt h0 hk hz
    simp
    refine ⟨CM_w hk2 hk2 (by omega), ?_⟩
    by_cases e : l * l = n <;> simp [e]
end Rg
end
section
set_option exponentiation.threshold 10000
/-! RgT: rays and tables. -/
namespace Rg
open PySem L2
structure Ry where
  y : Rat
  u : Rat
deriving DecidableEq
structure T4 where
  a : Rat
  b : Rat
  c : Rat
  d : Rat
deriving DecidableEq
theorem Ry.ext' {r s : Ry} (h1 : r.y = s.y) (h2 : r.u = s.u) : r = s := by cases r; cases s; simp_all
theorem T4.ext' {r s : T4} (h1 : r.a = s.a) (h2 : r.b = s.b) (h3 : r.c = s.c) (h4 : r.d = s.d) : r = s := by cases r; cases s; simp_all
def eR (r : Ry) : D := .tup [eQ r.y, eQ r.u]
def eT (t : T4) : D := .tup [eQ t.a, eQ t.b, eQ t.c, eQ t.d]
def pR (r : Ry) : PyData := .tuple [pQ r.y, pQ r.u]
def pT (t : T4) : PyData := .tuple [pQ t.a, pQ t.b, pQ t.c, pQ t.d]
section
variable {S : Store} {N n k : Nat} {r s : Ry} {t v : T4} {P : D → Store → Prop} {p q x w : Rat}
@[simp] theorem eR_mk : D.tup [eQ p, eQ q] = eR ⟨p, q⟩ := rfl
@[simp] theorem eT_mk : D.tup [eQ p, eQ q, eQ x, eQ w] = eT ⟨p, q, x, w⟩ := rfl
@[simp] theorem eR_eta : eR ⟨r.y, r.u⟩ = eR r := rfl
@[simp] theorem pR_mk : PyData.tuple [pQ p, pQ q] = pR ⟨p, q⟩ := rfl
@[simp] theorem pT_mk : PyData.tuple [pQ p, pQ q, pQ x, pQ w] = pT ⟨p, q, x, w⟩ := rfl
@[simp] theorem eR_fr : (eR r).fresh N = none := by unfold eR; rw [fr_tup]; simp only [fr_cons, fr_nil, eQ_fr]; rfl
@[simp] theorem eR_un : (eR r).under N = true := by unfold eR; rw [un_tup]; simp only [un_cons, un_nil, eQ_un]; rfl
@[simp] theorem eR_on : (eR r).only N n = true := by unfold eR; rw [on_tup]; simp only [on_cons, on_nil, eQ_on]; rfl
@[simp] theorem eR_sb : (eR r).subst N = eR r := by unfold eR; rw [sb_tup]; simp only [sb_cons, sb_nil, eQ_sb]
@[simp] theorem eT_fr : (eT t).fresh N = none := by unfold eT; rw [fr_tup]; simp only [fr_cons, fr_nil, eQ_fr]; rfl
@[simp] theorem eT_un : (eT t).under N = true := by unfold eT; rw [un_tup]; simp only [un_cons, un_nil, eQ_un]; rfl
@[simp] theorem eT_on : (eT t).only N n = true := by unfold eT; rw [on_tup]; simp only [on_cons, on_nil, eQ_on]; rfl
@[simp] theorem eT_sb : (eT t).subst N = eT t := by unfold eT; rw [sb_tup]; simp only [sb_cons, sb_nil, eQ_sb]
@[simp] theorem eR_ty : tyOf S (eR r) = some .tup := rfl
@[simp] theorem eT_ty : tyOf S (eT t) = some .tup := rfl
@[simp] theorem eR_non : (eR r).isNon = false := rfl
@[simp] theorem eT_non : (eT t).isNon = false := rfl
@[simp] theorem eR_i0 : Rok (fIx (eR r) (.int 0) S) P ↔ P (eQ r.y) S := by unfold eR; rw [rok_ixT]; simp
@[simp] theorem eR_i1 : Rok (fIx (eR r) (.int 1) S) P ↔ P (eQ r.u) S := by unfold eR; rw [rok_ixT]; simp
@[simp] theorem eT_i0 : Rok (fIx (eT t) (.int 0) S) P ↔ P (eQ t.a) S := by unfold eT; rw [rok_ixT]; simp
@[simp] theorem eT_i1 : Rok (fIx (eT t) (.int 1) S) P ↔ P (eQ t.b) S := by unfold eT; rw [rok_ixT]; simp
@[simp] theorem eT_i2 : Rok (fIx (eT t) (.int 2) S) P ↔ P (eQ t.c) S := by unfold eT; rw [rok_ixT]; simp
@[simp] theorem eT_i3 : Rok (fIx (eT t) (.int 3) S) P ↔ P (eQ t.d) S := by unfold eT; rw [rok_ixT]; simp
@[simp] theorem eR_len : Rok (fLen [eR r] S) P ↔ P (.int 2) S := by unfold eR; rw [rok_lenT]; rfl
@[simp] theorem eT_len : Rok (fLen [eT t] S) P ↔ P (.int 4) S := by unfold eT; rw [rok_lenT]; rfl
@[simp] theorem toP_eR : toP S (k + 2) (eR r) = some (pR r) := by unfold eR pR; rw [toP_tup]; simp only [allP_cons, allP_nil, toP_eQ]; rfl
@[simp] theorem toP_eR60 : toP S 60 (eR r) = some (pR r) := toP_eR
@[simp] theorem toP_eR59 : toP S 59 (eR r) = some (pR r) := toP_eR
@[simp] theorem toP_eR58 : toP S 58 (eR r) = some (pR r) := toP_eR
@[simp] theorem toP_eT : toP S (k + 2) (eT t) = some (pT t) := by unfold eT pT; rw [toP_tup]; simp only [allP_cons, allP_nil, toP_eQ]; rfl
@[simp] theorem toP_eT60 : toP S 60 (eT t) = some (pT t) := toP_eT
@[simp] theorem toP_eT59 : toP S 59 (eT t) = some (pT t) := toP_eT
@[simp] theorem toP_eT58 : toP S 58 (eT t) = some (pT t) := toP_eT
@[simp] theorem ev_R : PyData.eqv (pR r) (pR s) = decide (r = s) := by
  unfold pR
  rw [ev_tup, ev_all1, ev_all1, ev_all0, ev_Q, ev_Q, Bool.eq_iff_iff]
  simp
  exact ⟨fun ⟨a, b⟩ => Ry.ext' a b, fun h => by subst h; exact ⟨rfl, rfl⟩⟩
@[simp] theorem ev_T : PyData.eqv (pT t) (pT v) = decide (t = v) := by
  unfold pT
  rw [ev_tup, ev_all1, ev_all1, ev_all1, ev_all1, ev_all0, ev_Q, ev_Q, ev_Q, ev_Q, Bool.eq_iff_iff]
  simp
  exact ⟨fun ⟨a, b, c, d⟩ => T4.ext' a b c d, fun h => by subst h; exact ⟨rfl, rfl, rfl, rfl⟩⟩
@[simp] theorem gT_eQ {f : List D → Env → Store → Option Env} {env : Env} : gT 2 f (eQ p) env S = f [.int p.num, .int (p.den : Nat)] env S := rfl
@[simp] theorem gT_eR {f : List D → Env → Store → Option Env} {env : Env} : gT 2 f (eR r) env S = f [eQ r.y, eQ r.u] env S := rfl
@[simp] theorem gT_eT {f : List D → Env → Store → Option Env} {env : Env} : gT 4 f (eT t) env S = f [eQ t.a, eQ t.b, eQ t.c, eQ t.d] env S := rfl
@[simp] theorem iter_eR {P : Wk → Store → Prop} : Rok (fIter (eR r) S) P ↔ P ⟨[eQ r.y, eQ r.u], fun _ => True⟩ S := by unfold eR; exact rok_fIterT
@[simp] theorem iter_eT {P : Wk → Store → Prop} : Rok (fIter (eT t) S) P ↔ P ⟨[eQ t.a, eQ t.b, eQ t.c, eQ t.d], fun _ => True⟩ S := by unfold eT; exact rok_fIterT
@[simp] theorem zip_eR {P : Wk → Store → Prop} : Rok (fZip [eR r, eR s] S) P ↔ P ⟨[.tup [eQ r.y, eQ s.y], .tup [eQ r.u, eQ s.u]], fun _ => True⟩ S := by unfold eR; rw [rok_zipT]; rfl
@[simp] theorem zip_eT {P : Wk → Store → Prop} : Rok (fZip [eT t, eT v] S) P ↔ P ⟨[.tup [eQ t.a, eQ v.a], .tup [eQ t.b, eQ v.b], .tup [eQ t.c, eQ v.c], .tup [eQ t.d, eQ v.d]], fun _ => True⟩ S := by unfold eT; rw [rok_zipT]; rfl
end
/-! ### reckoning -/
namespace T4
def one : T4 := ⟨1, 0, 0, 1⟩
def led (t : T4) (r : Ry) : Ry := ⟨t.a * r.y + t.b * r.u, t.c * r.y + t.d * r.u⟩
def thn (s t : T4) : T4 := ⟨t.a * s.a + t.b * s.c, t.a * s.b + t.b * s.d, t.c * s.a + t.d * s.c, t.c * s.b + t.d * s.d⟩
def undone (t : T4) : T4 := ⟨t.d, -t.b, -t.c, t.a⟩
def turned (t : T4) : T4 := ⟨t.d, t.b, t.c, t.a⟩
def neg (t : T4) : T4 := ⟨-t.a, -t.b, -t.c, -t.d⟩
def det (t : T4) : Rat := t.a * t.d - t.b * t.c
end T4
def Ry.cross (r s : Ry) : Rat := r.y * s.u - r.u * s.y
/-! ### sizes over one bottom -/
theorem rat_mul_den (q : Rat) : q * (q.den : Rat) = (q.num : Rat) := by
  have h : (q.den : Rat) ≠ 0 := by
    have := q.den_nz
    simpa using this
  have e := Rat.num_divInt_den q
  rw [Rat.divInt_eq_div, Rat.intCast_natCast] at e
  have e2 := Rat.div_mul_cancel (a := (q.num : Rat)) h
  rw [e] at e2
  exact e2
/-- q is a whole number of D-th parts -/
def Ov (D : Nat) (k : Nat) (q : Rat) : Prop := ∃ x : Int, x.natAbs < 2 ^ k ∧ q * (D : Rat) = (x : Rat)
theorem Ov.sz {D k : Nat} {q : Rat} (h0 : 0 < D) (hD : D < 2 ^ k) (h : Ov D k q) : Sz q k := by
  obtain ⟨x, hx, e⟩ := h
  have hne : ((D : Int) : Rat) ≠ 0 := by simp; omega
  have : q = Rat.divInt x (D : Int) := by
    rw [Rat.divInt_eq_div, ← e]
    have := Rat.mul_div_cancel (a := q) hne
    exact this.symm
  rw [this]
  exact sz_di (by omega) hx (by simpa using hD)
theorem Sz.ov {q : Rat} {k : Nat} (h : Sz q k) : Ov q.den k q := ⟨q.num, h.num, rat_mul_den q⟩
theorem Ov.mul {D E k m : Nat} {p q : Rat} (hp : Ov D k p) (hq : Ov E m q) : Ov (D * E) (k + m) (p * q) := by
  obtain ⟨x, hx, e⟩ := hp
  obtain ⟨y, hy, f⟩ := hq
  refine ⟨x * y, by rw [Int.natAbs_mul]; exact mul_lt2 hx hy, ?_⟩
  rw [Rat.natCast_mul, Rat.intCast_mul, ← e, ← f]
  grind
theorem Ov.add {D k m : Nat} {p q : Rat} (hp : Ov D k p) (hq : Ov D m q) (hk : k ≤ m) : Ov D (m + 1) (p + q) := by
  obtain ⟨x, hx, e⟩ := hp
  obtain ⟨y, hy, f⟩ := hq
  refine ⟨x + y, ?_, ?_⟩
  · have := pow_le hk
    rw [Nat.pow_succ]
    omega
  · rw [Rat.intCast_add, ← e, ← f]
    grind
theorem Ov.neg {D k : Nat} {p : Rat} (hp : Ov D k p) : Ov D k (-p) := by
  obtain ⟨x, hx, e⟩ := hp
  refine ⟨-x, by omega, ?_⟩
  rw [Rat.intCast_neg, ← e]
  grind
theorem Ov.mono {D k m : Nat} {p : Rat} (hp : Ov D k p) (h : k ≤ m) : Ov D m p := by
  obtain ⟨x, hx, e⟩ := hp
  exact ⟨x, Nat.lt_of_lt_of_le hx (pow_le h), e⟩
theorem Ov.zero {D k : Nat} : Ov D k 0 := ⟨0, by simp; exact Nat.pow_pos (by decide), by simp⟩
theorem Ov.one {D k : Nat} (h : D < 2 ^ k) : Ov D k 1 := ⟨D, by simpa using h, by rw [Rat.one_mul, Rat.intCast_natCast]⟩
theorem Ov.up {D E k m : Nat} {p : Rat} (hp : Ov D k p) (hE : E < 2 ^ m) : Ov (D * E) (k + m) p := by
  have := hp.mul (Ov.one hE)
  rwa [Rat.mul_one] at this
class SzT (t : T4) (k : outParam Nat) : Prop where
  ex : ∃ D : Nat, 0 < D ∧ D < 2 ^ k ∧ Ov D k t.a ∧ Ov D k t.b ∧ Ov D k t.c ∧ Ov D k t.d
class SzR (r : Ry) (k : outParam Nat) : Prop where
  ex : ∃ D : Nat, 0 < D ∧ D < 2 ^ k ∧ Ov D k r.y ∧ Ov D k r.u
theorem SzT.mono {t : T4} {k m : Nat} (h : SzT t k) (hk : k ≤ m) : SzT t m := by
  obtain ⟨D, h0, h1, a, b, c, d⟩ := h.ex
  exact ⟨D, h0, Nat.lt_of_lt_of_le h1 (pow_le hk), a.mono hk, b.mono hk, c.mono hk, d.mono hk⟩
theorem SzR.mono {t : Ry} {k m : Nat} (h : SzR t k) (hk : k ≤ m) : SzR t m := by
  obtain ⟨D, h0, h1, a, b⟩ := h.ex
  exact ⟨D, h0, Nat.lt_of_lt_of_le h1 (pow_le hk), a.mono hk, b.mono hk⟩
section
variable {t v : T4} {r s : Ry} {i j k : Nat} {p q : Rat}
instance [h : SzT t k] : Sz t.a k := by obtain ⟨D, h0, h1, a, b, c, d⟩ := h.ex; exact a.sz h0 h1
instance [h : SzT t k] : Sz t.b k := by obtain ⟨D, h0, h1, a, b, c, d⟩ := h.ex; exact b.sz h0 h1
instance [h : SzT t k] : Sz t.c k := by obtain ⟨D, h0, h1, a, b, c, d⟩ := h.ex; exact c.sz h0 h1
instance [h : SzT t k] : Sz t.d k := by obtain ⟨D, h0, h1, a, b, c, d⟩ := h.ex; exact d.sz h0 h1
instance [h : SzR r k] : Sz r.y k := by obtain ⟨D, h0, h1, a, b⟩ := h.ex; exact a.sz h0 h1
instance [h : SzR r k] : Sz r.u k := by obtain ⟨D, h0, h1, a, b⟩ := h.ex; exact b.sz h0 h1
instance [hp : Sz p i] [hq : Sz q j] : SzR ⟨p, q⟩ (i + j) := by
  refine ⟨p.den * q.den, Nat.mul_pos p.den_pos q.den_pos, mul_lt2 hp.den hq.den, hp.ov.up hq.den, ?_⟩
  have := hq.ov.up hp.den
  rwa [Nat.mul_comm, Nat.add_comm] at this
theorem two_lt {x y : Nat} {i j : Nat} (h : x < 2 ^ i) (h' : y < 2 ^ j) : x * y < 2 ^ (i + j + 1) := Nat.lt_of_lt_of_le (mul_lt2 h h') (pow_le (by omega))
instance [h : SzT t i] [g : SzT v j] : SzT (t.thn v) (i + j + 1) := by
  obtain ⟨D, h0, h1, a, b, c, d⟩ := h.ex
  obtain ⟨E, g0, g1, a', b', c', d'⟩ := g.ex
  refine ⟨E * D, Nat.mul_pos g0 h0, by rw [Nat.add_comm i j]; exact two_lt g1 h1, ?_, ?_, ?_, ?_⟩ <;> (rw [Nat.add_comm i j])
  · exact (a'.mul a).add (b'.mul c) (Nat.le_refl _)
  · exact (a'.mul b).add (b'.mul d) (Nat.le_refl _)
  · exact (c'.mul a).add (d'.mul c) (Nat.le_refl _)
  · exact (c'.mul b).add (d'.mul d) (Nat.le_refl _)
instance [h : SzT t i] [g : SzR r j] : SzR (t.led r) (i + j + 1) := by
  obtain ⟨D, h0, h1, a, b, c, d⟩ := h.ex
  obtain ⟨E, g0, g1, y, u⟩ := g.ex
  exact ⟨D * E, Nat.mul_pos h0 g0, two_lt h1 g1, (a.mul y).add (b.mul u) (Nat.le_refl _), (c.mul y).add (d.mul u) (Nat.le_refl _)⟩
instance [h : SzT t i] : SzT t.turned i := by
  obtain ⟨D, h0, h1, a, b, c, d⟩ := h.ex
  exact ⟨D, h0, h1, d, b, c, a⟩
instance [h : SzT t i] : SzT t.undone i := by
  obtain ⟨D, h0, h1, a, b, c, d⟩ := h.ex
  exact ⟨D, h0, h1, d, b.neg, c.neg, a⟩
instance [h : SzT t i] : SzT t.neg i := by
  obtain ⟨D, h0, h1, a, b, c, d⟩ := h.ex
  exact ⟨D, h0, h1, a.neg, b.neg, c.neg, d.neg⟩
instance : SzT T4.one 1 := ⟨1, by decide, by decide, Ov.one (by decide), Ov.zero, Ov.zero, Ov.one (by decide)⟩
instance [h : SzR r i] [g : SzR s j] : Sz (r.cross s) (i + j + 1) := by
  obtain ⟨D, h0, h1, y, u⟩ := h.ex
  obtain ⟨E, g0, g1, z, w⟩ := g.ex
  refine Ov.sz (D := D * E) (Nat.mul_pos h0 g0) (two_lt h1 g1) ?_
  unfold Ry.cross
  rw [Rat.sub_eq_add_neg]
  exact (y.mul w).add (u.mul z).neg (Nat.le_refl _)
theorem szT_gap (h : Sz q k) : SzT ⟨1, q, 0, 1⟩ k := ⟨q.den, q.den_pos, h.den, Ov.one h.den, h.ov, Ov.zero, Ov.one h.den⟩
theorem szT_glass (h : Sz q k) : SzT ⟨1, 0, q, 1⟩ k := ⟨q.den, q.den_pos, h.den, Ov.one h.den, Ov.zero, h.ov, Ov.one h.den⟩
instance [h : Sz q k] : SzT ⟨1, q, 0, 1⟩ k := szT_gap h
instance [h : Sz q k] : SzT ⟨1, 0, q, 1⟩ k := szT_glass h
instance [hp : Sz p i] [hq : Sz q j] : SzT ⟨p, 0, 0, q⟩ (i + j) := by
  refine ⟨p.den * q.den, Nat.mul_pos p.den_pos q.den_pos, mul_lt2 hp.den hq.den, hp.ov.up hq.den, Ov.zero, Ov.zero, ?_⟩
  have := hq.ov.up hp.den
  rwa [Nat.mul_comm, Nat.add_comm] at this
end
/-! ### algebra -/
section
variable {s t v : T4} {r q : Ry}
theorem T4.thn_led : (s.thn t).led r = t.led (s.led r) := by apply Ry.ext' <;> (simp only [T4.thn, T4.led]; grind)
theorem T4.thn_assoc : (s.thn t).thn v = s.thn (t.thn v) := by apply T4.ext' <;> (simp only [T4.thn]; grind)
theorem T4.thn_undone (h : t.det = 1) : t.thn t.undone = T4.one := by unfold T4.det at h; apply T4.ext' <;> (simp only [T4.thn, T4.undone, T4.one]; grind)
theorem T4.undone_thn (h : t.det = 1) : t.undone.thn t = T4.one := by unfold T4.det at h; apply T4.ext' <;> (simp only [T4.thn, T4.undone, T4.one]; grind)
theorem T4.thn_one : t.thn T4.one = t := by apply T4.ext' <;> (simp only [T4.thn, T4.one]; grind)
theorem T4.one_thn : T4.one.thn t = t := by apply T4.ext' <;> (simp only [T4.thn, T4.one]; grind)
theorem T4.one_led : T4.one.led r = r := by apply Ry.ext' <;> (simp only [T4.led, T4.one]; grind)
theorem T4.undone_led (h : t.det = 1) : t.undone.led (t.led r) = r := by rw [← T4.thn_led, T4.thn_undone h, T4.one_led]
theorem T4.led_undone (h : t.det = 1) : t.led (t.undone.led r) = r := by rw [← T4.thn_led, T4.undone_thn h, T4.one_led]
theorem T4.undone_rev : (s.thn t).undone = t.undone.thn s.undone := by apply T4.ext' <;> (simp only [T4.thn, T4.undone]; grind)
theorem T4.turned_turned : t.turned.turned = t := rfl
theorem T4.turned_rev : (s.thn t).turned = t.turned.thn s.turned := by apply T4.ext' <;> (simp only [T4.thn, T4.turned]; grind)
def Ry.mir (r : Ry) : Ry := ⟨r.y, -r.u⟩
instance {r : Ry} {k : Nat} [h : SzR r k] : SzR r.mir k := by
  obtain ⟨D, h0, h1, a, b⟩ := h.ex
  exact ⟨D, h0, h1, a, b.neg⟩
theorem T4.turned_led (h : t.det = 1) : t.turned.led (t.led r).mir = r.mir := by unfold T4.det at h; apply Ry.ext' <;> (simp only [T4.led, T4.turned, Ry.mir]; grind)
theorem T4.cross_led : (t.led r).cross (t.led q) = t.det * r.cross q := by simp only [Ry.cross, T4.led, T4.det]; grind
theorem T4.det_undone : t.undone.det = t.det := by simp only [T4.undone, T4.det]; grind
theorem T4.det_turned : t.turned.det = t.det := by simp only [T4.turned, T4.det]; grind
theorem T4.det_thn : (s.thn t).det = s.det * t.det := by simp only [T4.thn, T4.det]; grind
theorem Ry.cross_self : r.cross r = 0 := by unfold Ry.cross; grind
end
section
variable {p q x w : Rat} {i j k l : Nat}
/-- four ratios over one bottom, whatever they are -/
instance (priority := low) szT_any [hp : Sz p i] [hq : Sz q j] [hx : Sz x k] [hw : Sz w l] : SzT ⟨p, q, x, w⟩ (i + j + k + l) := by
  refine ⟨p.den * q.den * x.den * w.den, Nat.mul_pos (Nat.mul_pos (Nat.mul_pos p.den_pos q.den_pos) x.den_pos) w.den_pos, mul_lt2 (mul_lt2 (mul_lt2 hp.den hq.den) hx.den) hw.den, ?_, ?_, ?_, ?_⟩
  · exact ((hp.ov.up hq.den).up hx.den).up hw.den
  · have := hq.ov.up hp.den
    rw [Nat.mul_comm, Nat.add_comm] at this
    exact (this.up hx.den).up hw.den
  · have := hx.ov.up (mul_lt2 hp.den hq.den)
    rw [Nat.mul_comm, Nat.add_comm] at this
    exact this.up hw.den
  · have := hw.ov.up (mul_lt2 (mul_lt2 hp.den hq.den) hx.den)
    rw [Nat.mul_comm, Nat.add_comm] at this
    exact this
end
section
variable {S : Store} {r s : Ry} {P : D → Store → Prop}
@[simp] theorem plus_RR : Rok (fPlus (eR r) (eR s) S) P ↔ P (eT ⟨r.y, r.u, s.y, s.u⟩) S := by
  unfold eR
  rw [rok_plusT]
  simp
@[simp] theorem toP_ref60 {n : Nat} : toP S 60 (.ref n) = (lstOf S n).bind fun l => (allP (toP S 59) l).map PyData.list := by
  show (match lstOf S n with
    | some l => (allP (toP S 59) l).map PyData.list
    | none => none) = _
  cases lstOf S n <;> rfl
@[simp] theorem toP_ref59 {n : Nat} : toP S 59 (.ref n) = (lstOf S n).bind fun l => (allP (toP S 58) l).map PyData.list := by
  show (match lstOf S n with
    | some l => (allP (toP S 58) l).map PyData.list
    | none => none) = _
  cases lstOf S n <;> rfl
end
end Rg
end
section
set_option exponentiation.threshold 10000
/-! RgU: the program's tables, the laws' own tables. -/
namespace Rg
open PySem L2
section
variable {S : Store} {r s : Ry} {t v : T4} {i j k l : Nat} {p q : Rat}
@[simp] theorem m_summed_eq [Sz p i] [Sz q j] [SzR r k] (h : i + k ≤ 4000) (h' : j + k ≤ 4000) : m_summed [eQ p, eQ q, eR r] S = .ok (eQ (p * r.y + q * r.u)) S := by
  refine Rok.eq ?_
  unfold m_summed
  have a1 : i + k ≤ 8998 := by omega
  have a2 : j + k ≤ 8998 := by omega
  have a3 : i + k + (j + k) ≤ 8998 := by omega
  simp [rok_def, a1, a2, a3]
@[simp] theorem m_led_eq [SzT t i] [SzR r j] (h : i + j ≤ 4000) : m_led [eT t, eR r] S = .ok (eR (t.led r)) S := by
  refine Rok.eq ?_
  unfold m_led
  simp [rok_def, h]
  rfl
@[simp] theorem m_behind_eq [SzT t i] [SzT v j] (h : i + i + j ≤ 4000) : m_behind [eT t, eT v] S = .ok (eT (t.thn v)) S := by
  refine Rok.eq ?_
  unfold m_behind
  have a1 : j + (i + i) ≤ 4000 := by omega
  simp [rok_def, a1]
  rfl
@[simp] theorem m_undone_eq : m_undone [eT t] S = .ok (eT t.undone) S := by
  refine Rok.eq ?_
  unfold m_undone
  simp [rok_def]
  rfl
@[simp] theorem m_turned_eq : m_turned [eT t] S = .ok (eT t.turned) S := by
  refine Rok.eq ?_
  unfold m_turned
  simp [rok_def]
  rfl
@[simp] theorem m_cross_eq [SzR r i] [SzR s j] (h : i + j ≤ 4000) : m_cross [eR r, eR s] S = .ok (eQ (r.cross s)) S := by
  refine Rok.eq ?_
  unfold m_cross
  have a1 : i + j ≤ 8998 := by omega
  have a3 : i + j + (i + j) ≤ 8998 := by omega
  simp [rok_def, a1, a3]
  rfl
@[simp] theorem m_is_ray_eq : m_is_ray [eR r] S = .ok (.bl true) S := by
  refine Rok.eq ?_
  unfold m_is_ray
  simp [rok_def, Ty.isa]
@[simp] theorem m_is_table_eq [SzT t i] (h : i ≤ 2000) : m_is_table [eT t] S = .ok (.bl (decide (t.det = 1))) S := by
  refine Rok.eq ?_
  unfold m_is_table
  have a1 : i + i ≤ 8998 := by omega
  have a3 : i + i + (i + i) ≤ 8998 := by omega
  simp [rok_def, rok_comp, Ty.isa, a1, a3]
  rfl
@[simp] theorem m_l_led_eq [SzT t i] [SzR r j] (h : i + j ≤ 4000) : m_l_led [eT t, eR r] S = .ok (eR (t.led r)) S := by
  refine Rok.eq ?_
  unfold m_l_led
  have a1 : i + j ≤ 8998 := by omega
  have a3 : i + j + (i + j) ≤ 8998 := by omega
  simp [rok_def, a1, a3]
  rfl
@[simp] theorem m_l_then_eq [SzT t i] [SzT v j] (h : i + i + j ≤ 4000) : m_l_then [eT t, eT v] S = .ok (eT (t.thn v)) S := by
  refine Rok.eq ?_
  unfold m_l_then
  have a1 : j + (i + i) ≤ 4000 := by omega
  simp [rok_def, a1]
  rfl
end
theorem ray_then {S : Store} {n : Nat} {P : D → Store → Prop} (hp : Pool S n) (h : ∀ (r : Ry) (a b c : Int), SzR r 82 → P (eR r) (S.set n (pl a b c))) : Rok (m_l_ray [.ref n] S) P := by
  have hn : n < S.length := hp.lt
  unfold m_l_ray
  simp [rok_def]
  refine number_then hp fun p a b c hp' => ?_
  simp [hn]
  refine number_then inferInstance fun q a b c hq => ?_
  simp [hn]
  exact h _ _ _ _ inferInstance
theorem det_thn {s t : T4} : (s.thn t).det = s.det * t.det := by unfold T4.thn T4.det; grind
theorem inv_pair {q : Rat} (h : 0 < q) : D.tup [.int (q.den : Nat), .int q.num] = eQ q⁻¹ := by
  have h1 : 0 < q.num := by
    have := Rat.num_nonneg.mpr (Rat.le_of_lt h)
    rcases Int.lt_or_eq_of_le this with h2 | h2
    · exact h2
    · exact absurd (Rat.num_eq_zero.mp h2.symm) (Rat.ne_of_gt h)
  unfold eQ
  rw [Rat.num_inv, Rat.den_inv, if_neg (by omega), Int.sign_eq_one_of_pos h1, Int.one_mul, Int.natAbs_of_nonneg (by omega)]
theorem divInt_pos {x y : Int} (hx : 0 < x) (hy : 0 < y) : 0 < Rat.divInt x y := by
  rw [Rat.divInt_eq_div, Rat.div_def]
  exact Rat.mul_pos (Rat.intCast_pos.mpr hx) (Rat.inv_pos.mpr (Rat.intCast_pos.mpr hy))
theorem det_neg {t : T4} : t.neg.det = t.det := by unfold T4.neg T4.det; grind
theorem neg_mk {t : T4} : (⟨-t.a, -t.b, -t.c, -t.d⟩ : T4) = t.neg := rfl
theorem table_then {S : Store} {n : Nat} {P : D → Store → Prop} (hp : Pool S n) (h : ∀ (t : T4) (a b c : Int), SzT t 180 → t.det = 1 → P (eT t) (S.set n (pl a b c))) : Rok (m_l_table [.ref n] S) P := by
  have hn : n < S.length := hp.lt
  unfold m_l_table
  simp [rok_def, sok_for]
  refine next_then hp (by decide) (by decide) fun v a b c v0 v1 => ?_
  simp
  refine ⟨⟨by omega, by omega⟩, ?_⟩
  refine sok_forRun (fun i e S' => ∃ (t : T4) (a b c : Int) (o3 o4 : Option D) (o2 : Option D), e = [some (.ref n), some (eT t), o2, o3, o4, none, none] ∧ S' = S.set n (pl a b c) ∧ SzT t (1 + 42 * i) ∧ t.det = 1) _ (fun _ _ _ _ => trivial) ?_ ?_ _ _ ⟨T4.one, a, b, c, none, none, none, rfl, rfl, inferInstance, by unfold T4.det T4.one; grind⟩
  · rintro i d e S' hi ⟨t, a, b, c, o3, o4, o2, rfl, rfl, hs, hd⟩
    have hi5 : i < v.toNat := by
      have := (List.getElem?_eq_some_iff.mp hi).1
      simpa using this
    simp
    refine number_then inferInstance fun q a b c hq => ?_
    simp [hn]
    refine next_then inferInstance (by decide) (by decide) fun w a b c w0 w1 => ?_
    have b1 : 1 + 42 * i + (1 + 42 * i) + 41 ≤ 4000 := by omega
    simp [hn, b1]
    constructor
    · intro _
      exact ⟨_, rfl, ⟨a, b, c, rfl⟩, SzT.mono inferInstance (by omega), by rw [det_thn, hd]; unfold T4.det; grind⟩
    · intro _
      exact ⟨_, rfl, ⟨a, b, c, rfl⟩, SzT.mono inferInstance (by omega), by rw [det_thn, hd]; unfold T4.det; grind⟩
  · rintro e S' ⟨t, a, b, c, o3, o4, o2, rfl, rfl, hs, hd⟩
    rw [rangeD_len] at hs
    have hs : SzT t 169 := hs.mono (by omega)
    simp
    refine next_then inferInstance (by decide) (by decide) fun w a b c w0 w1 => ?_
    simp [hn]
    refine next_then inferInstance (by decide) (by decide) fun x a b c x0 x1 => ?_
    simp [hn]
    refine next_then inferInstance (by decide) (by decide) fun y a b c y0 y1 => ?_
    simp [hn]
    refine low_then 4 (by omega) (by omega) (by omega) (by decide) fun hz => ?_
    have hq := divInt_pos (x := 1 + x) (y := 1 + y) (by omega) (by omega)
    generalize Rat.divInt (1 + x) (1 + y) = q at hz hq
    have hne : q ≠ 0 := Rat.ne_of_gt hq
    simp [hn, inv_pair hq, rok_comp, neg_mk]
    refine ⟨fun e => ?_, fun _ => ⟨fun _ => ?_, fun _ => ?_⟩⟩
    · simp [hn, e]
      refine h _ _ _ _ (SzT.mono inferInstance (by decide)) ?_
      rw [det_thn, hd]
      unfold T4.det
      grind
    · exact h _ _ _ _ (SzT.mono inferInstance (by decide)) (by rw [det_neg, hd])
    · exact h _ _ _ _ (SzT.mono hs (by decide)) hd
theorem low_inv {S : Store} {q : Rat} {k : Nat} [hq : Sz q k] (h : q ≠ 0) (hk : k ≤ 8999) : m_l_low [.int (q.den : Nat), .int q.num] S = .ok (eQ q⁻¹) S := by
  rw [m_l_low_eq (num_ne h) (Nat.lt_of_lt_of_le hq.num (pow_le hk)), Rat.inv_def]
@[simp] theorem m_l_less_eq {S : Store} {p q : Rat} {i j : Nat} [Sz p i] [Sz q j] (h : i + j ≤ 8998) : m_l_less [eQ p, eQ q] S = .ok (eQ (p - q)) S := by
  refine Rok.eq ?_
  unfold m_l_less
  simp [rok_def, h]
  rw [Rat.sub_eq_add_neg]
/-! ### powers -/
def tpow (t : T4) : Nat → T4
  | 0 => T4.one
  | n + 1 => (tpow t n).thn t
instance {t : T4} {k n : Nat} [h : SzT t k] : SzT (tpow t n) (1 + n * (k + 1)) := by
  induction n with
  | zero => exact SzT.mono (inferInstance : SzT T4.one 1) (by omega)
  | succ n ih =>
    have : SzT ((tpow t n).thn t) (1 + n * (k + 1) + k + 1) := inferInstance
    exact this.mono (by rw [Nat.add_mul]; omega)
theorem tpow_add {t : T4} {m n : Nat} : (tpow t m).thn (tpow t n) = tpow t (m + n) := by
  induction n with
  | zero => exact T4.thn_one
  | succ n ih => rw [tpow, ← T4.thn_assoc, ih]; rfl
theorem tpow_det {t : T4} {n : Nat} (h : t.det = 1) : (tpow t n).det = 1 := by
  induction n with
  | zero => unfold tpow T4.det T4.one; grind
  | succ n ih => rw [tpow, T4.det_thn, ih, h]; grind
theorem pow_sz {n i k : Nat} (h : i < n) (hz : n * (k + 1) ≤ 1200) : 1 + i * (k + 1) + (1 + i * (k + 1)) + k ≤ 4000 := by
  have : i * (k + 1) ≤ n * (k + 1) := Nat.mul_le_mul_right _ (by omega)
  have : 1 * (k + 1) ≤ n * (k + 1) := Nat.mul_le_mul_right _ (by omega)
  omega
theorem m_power_eq {S : Store} {t : T4} {k : Nat} {n : Int} [ht : SzT t k] (h0 : 0 ≤ n) (hn : n < 1000) (hz : n.toNat * (k + 1) ≤ 1200) : m_power [eT t, .int n] S = .ok (eT (tpow t n.toNat)) S := by
  refine Rok.eq ?_
  unfold m_power
  simp [rok_def, sok_for]
  refine ⟨⟨by omega, by omega⟩, ?_⟩
  refine sok_forRun (fun i e S' => S' = S ∧ ∃ o, e = [some (eT t), some (.int n), some (eT (tpow t i)), o]) _ (fun _ _ _ _ => trivial) ?_ ?_ _ _ ⟨rfl, none, rfl⟩
  · rintro i d e S' hi ⟨rfl, o, rfl⟩
    have hi2 : i < n.toNat := by
      have := (List.getElem?_eq_some_iff.mp hi).1
      simpa using this
    have a1 := pow_sz hi2 hz
    simp [a1]
    rfl
  · rintro e S' ⟨rfl, o, rfl⟩
    rw [rangeD_len]
    simp
end Rg
end
section
set_option exponentiation.threshold 10000
/-! RgV: benches. -/
namespace Rg
open PySem L2
inductive Pt where
  | gap (g : Rat) | glass (p : Rat) | stop (r : Rat)
deriving DecidableEq
namespace Pt
def word : Pt → Str
  | gap _ => "gap" | glass _ => "glass" | stop _ => "stop"
def num : Pt → Rat
  | gap g => g | glass p => p | stop r => r
def tab : Pt → T4
  | gap g => ⟨1, g, 0, 1⟩ | glass p => ⟨1, 0, -p, 1⟩ | stop _ => T4.one
def ok : Pt → Prop
  | gap g => 0 ≤ g | glass _ => True | stop r => 0 < r
end Pt
def eP (p : Pt) : D := .tup [.str p.word, eQ p.num]
def pP (p : Pt) : PyData := .tuple [.str p.word, pQ p.num]
@[simp] theorem ok_gap : PyData.strOk ("gap" : Str) = true := by decide +kernel
@[simp] theorem ok_glass : PyData.strOk ("glass" : Str) = true := by decide +kernel
@[simp] theorem ok_stop : PyData.strOk ("stop" : Str) = true := by decide +kernel
@[simp] theorem ne1 : (("gap" : Str) = "glass") = False := by simp only [eq_iff_iff, iff_false]; decide +kernel
@[simp] theorem ne2 : (("gap" : Str) = "stop") = False := by simp only [eq_iff_iff, iff_false]; decide +kernel
@[simp] theorem ne3 : (("glass" : Str) = "gap") = False := by simp only [eq_iff_iff, iff_false]; decide +kernel
@[simp] theorem ne4 : (("glass" : Str) = "stop") = False := by simp only [eq_iff_iff, iff_false]; decide +kernel
@[simp] theorem ne5 : (("stop" : Str) = "gap") = False := by simp only [eq_iff_iff, iff_false]; decide +kernel
@[simp] theorem ne6 : (("stop" : Str) = "glass") = False := by simp only [eq_iff_iff, iff_false]; decide +kernel
theorem word_ok (p : Pt) : PyData.strOk p.word = true := by
  cases p
  · exact ok_gap
  · exact ok_glass
  · exact ok_stop
theorem word_num {p q : Pt} (h : p.word = q.word) (h' : p.num = q.num) : p = q := by
  cases p <;> cases q <;> simp [Pt.word, Pt.num] at h h' ⊢ <;> exact h'
section
variable {S : Store} {N n k : Nat} {p q : Pt} {P : D → Store → Prop} {r : Rat}
@[simp] theorem eP_fr : (eP p).fresh N = none := by unfold eP; rw [fr_tup]; simp only [fr_cons, fr_nil, eQ_fr, fr_str]; rfl
@[simp] theorem eP_un : (eP p).under N = true := by unfold eP; rw [un_tup]; simp only [un_cons, un_nil, eQ_un, un_str]; rfl
@[simp] theorem eP_on : (eP p).only N n = true := by unfold eP; rw [on_tup]; simp only [on_cons, on_nil, eQ_on, on_str]; rfl
@[simp] theorem eP_sb : (eP p).subst N = eP p := by unfold eP; rw [sb_tup]; simp only [sb_cons, sb_nil, eQ_sb, sb_str]
@[simp] theorem eP_ty : tyOf S (eP p) = some .tup := rfl
@[simp] theorem eP_isNon : (eP p).isNon = false := rfl
@[simp] theorem eP_i0 : Rok (fIx (eP p) (.int 0) S) P ↔ P (.str p.word) S := by unfold eP; rw [rok_ixT]; simp
@[simp] theorem eP_i1 : Rok (fIx (eP p) (.int 1) S) P ↔ P (eQ p.num) S := by unfold eP; rw [rok_ixT]; simp
@[simp] theorem eP_len : Rok (fLen [eP p] S) P ↔ P (.int 2) S := by unfold eP; rw [rok_lenT]; rfl
@[simp] theorem eP_gap : D.tup [.str ("gap" : Str), eQ r] = eP (.gap r) := rfl
@[simp] theorem eP_glass : D.tup [.str ("glass" : Str), eQ r] = eP (.glass r) := rfl
@[simp] theorem eP_stop : D.tup [.str ("stop" : Str), eQ r] = eP (.stop r) := rfl
@[simp] theorem gT_eP {f : List D → Env → Store → Option Env} {env : Env} : gT 2 f (eP p) env S = f [.str p.word, eQ p.num] env S := rfl
theorem toP_eP : toP S (k + 2) (eP p) = some (pP p) := by
  unfold eP pP
  rw [toP_tup]
  simp only [allP_cons, allP_nil, toP_eQ, toP_str, word_ok, if_true]
  rfl
@[simp] theorem toP_eP60 : toP S 60 (eP p) = some (pP p) := toP_eP
@[simp] theorem toP_eP59 : toP S 59 (eP p) = some (pP p) := toP_eP
@[simp] theorem ev_P : PyData.eqv (pP p) (pP q) = decide (p = q) := by
  unfold pP
  rw [ev_tup, ev_all1, ev_all1, ev_all0, ev_str, ev_Q, Bool.eq_iff_iff]
  simp
  exact ⟨fun ⟨a, b⟩ => word_num a b, fun h => by subst h; exact ⟨rfl, rfl⟩⟩
end
theorem allP_map {A : Type} {f : D → Option PyData} {l : List A} {enc : A → D} {pen : A → PyData} (h : ∀ a ∈ l, f (enc a) = some (pen a)) : allP f (l.map enc) = some (l.map pen) := by
  induction l with
  | nil => rfl
  | cons a l ih =>
    rw [List.map_cons, allP_cons, h a (by simp), ih fun x hx => h x (by simp [hx])]
    rfl
theorem ev_map {A : Type} [DecidableEq A] {pen : A → PyData} (hp : ∀ a b, PyData.eqv (pen a) (pen b) = decide (a = b)) : ∀ {l m : List A}, PyData.eqvAll (l.map pen) (m.map pen) = decide (l = m)
  | [], [] => by simp
  | [], b :: m => by simp
  | a :: l, [] => by simp
  | a :: l, b :: m => by
    rw [List.map_cons, List.map_cons, ev_all1, hp, ev_map hp, Bool.eq_iff_iff]
    simp
section
variable {S : Store} {b c : List Pt} {r s : List Ry}
@[simp] theorem allP_bench : allP (toP S 59) (b.map eP) = some (b.map pP) := allP_map fun _ _ => toP_eP59
@[simp] theorem ev_bench : PyData.eqvAll (b.map pP) (c.map pP) = decide (b = c) := ev_map fun _ _ => ev_P
@[simp] theorem allP_rays : allP (toP S 59) (r.map eR) = some (r.map pR) := allP_map fun _ _ => toP_eR59
@[simp] theorem ev_rays : PyData.eqvAll (r.map pR) (s.map pR) = decide (r = s) := ev_map fun _ _ => ev_R
@[simp] theorem allP_rats {l : List Rat} : allP (toP S 59) (l.map eQ) = some (l.map pQ) := allP_map fun _ _ => toP_eQ59
@[simp] theorem ev_rats {l m : List Rat} : PyData.eqvAll (l.map pQ) (m.map pQ) = decide (l = m) := ev_map fun _ _ => ev_Q
@[simp] theorem un_rats {N : Nat} {l : List Rat} : unders N (l.map eQ) = true := un_map fun _ _ => eQ_un
@[simp] theorem allP_rep {k : Nat} {q : Rat} : allP (toP S 59) (List.replicate k (eQ q)) = some (List.replicate k (pQ q)) := by
  have := allP_rats (S := S) (l := List.replicate k q)
  rwa [List.map_replicate, List.map_replicate] at this
@[simp] theorem ev_rep {k : Nat} {q : Rat} : PyData.eqvAll (List.replicate k (pQ q)) (List.replicate k (pQ q)) = true := by
  have := ev_rats (l := List.replicate k q) (m := List.replicate k q)
  rw [List.map_replicate] at this
  rw [this]; simp
@[simp] theorem un_bench {N : Nat} : unders N (b.map eP) = true := un_map fun _ _ => eP_un
@[simp] theorem un_rays {N : Nat} : unders N (r.map eR) = true := un_map fun _ _ => eR_un
end
/-! ### tables of benches -/
def tabOf (b : List Pt) : T4 := b.foldl (fun t p => t.thn p.tab) T4.one
theorem tabOf_snoc {b : List Pt} {p : Pt} : tabOf (b ++ [p]) = (tabOf b).thn p.tab := by unfold tabOf; rw [List.foldl_append]; rfl
theorem tabOf_take {b : List Pt} {i : Nat} {p : Pt} (h : b[i]? = some p) : tabOf (b.take (i + 1)) = (tabOf (b.take i)).thn p.tab := by
  have : b.take (i + 1) = b.take i ++ [p] := by
    rw [List.take_succ, h]; rfl
  rw [this, tabOf_snoc]
theorem foldl_thn {b : List Pt} {s t : T4} : b.foldl (fun t p => t.thn p.tab) (s.thn t) = s.thn (b.foldl (fun t p => t.thn p.tab) t) := by
  induction b generalizing t with
  | nil => rfl
  | cons p b ih => rw [List.foldl_cons, T4.thn_assoc, ih]; rfl
theorem tabOf_app {b c : List Pt} : tabOf (b ++ c) = (tabOf b).thn (tabOf c) := by
  unfold tabOf
  rw [List.foldl_append]
  conv => lhs; rw [show b.foldl (fun t p => t.thn p.tab) T4.one = (b.foldl (fun t p => t.thn p.tab) T4.one).thn T4.one from T4.thn_one.symm]
  rw [foldl_thn]
theorem tabOf_cons {p : Pt} {c : List Pt} : tabOf (p :: c) = p.tab.thn (tabOf c) := by
  have := tabOf_app (b := [p]) (c := c)
  rw [show tabOf [p] = p.tab from T4.one_thn] at this
  exact this
theorem tab_det (p : Pt) : p.tab.det = 1 := by cases p <;> (simp only [Pt.tab, T4.det, T4.one]; grind)
theorem tabOf_det (b : List Pt) : (tabOf b).det = 1 := by
  induction b with
  | nil => simp only [tabOf, List.foldl_nil, T4.det, T4.one]; grind
  | cons p b ih => rw [tabOf_cons, T4.det_thn, tab_det, ih]; grind
structure Bk (b : List Pt) (k : Nat) : Prop where
  len : b.length ≤ 13
  sz : ∀ p ∈ b, Sz p.num k
  ok : ∀ p ∈ b, p.ok
theorem tab_sz {p : Pt} {k : Nat} (h : Sz p.num k) : SzT p.tab k := by
  cases p with
  | gap g => exact szT_gap h
  | glass g => exact szT_glass (sz_neg h)
  | stop r => exact SzT.mono (inferInstance : SzT T4.one 1) h.pos
theorem tabs_sz {b : List Pt} {k : Nat} (h : ∀ p ∈ b, Sz p.num k) : SzT (tabOf b) (1 + b.length * (k + 1)) := by
  induction b with
  | nil => exact SzT.mono (inferInstance : SzT T4.one 1) (by omega)
  | cons p b ih =>
    have h1 := tab_sz (h p (by simp))
    have h2 := ih fun q hq => h q (by simp [hq])
    rw [tabOf_cons]
    have : SzT (p.tab.thn (tabOf b)) (k + (1 + b.length * (k + 1)) + 1) := inferInstance
    exact this.mono (by rw [List.length_cons, Nat.add_mul]; omega)
theorem take_sz {b : List Pt} {k i : Nat} (h : ∀ p ∈ b, Sz p.num k) (hl : b.length ≤ 13) (hk : k ≤ 80) : SzT (tabOf (b.take i)) 1100 := by
  have := tabs_sz (b := b.take i) fun p hp => h p (List.mem_of_mem_take hp)
  refine this.mono ?_
  have h1 : (b.take i).length ≤ 13 := by rw [List.length_take]; omega
  have h2 := Nat.mul_le_mul h1 (show k + 1 ≤ 81 by omega)
  omega
section
variable {S : Store} {b : List Pt} {k : Nat} {p : Pt} {n : Nat}
theorem part_table_eq (h : Sz p.num k) (hk : k ≤ 8000) : m_part_table [eP p] S = .ok (eT p.tab) S := by
  refine Rok.eq ?_
  unfold m_part_table
  have a1 : 1 + k ≤ 8998 := by omega
  cases p with
  | gap g => simp [rok_def, Pt.word, Pt.num, Pt.tab]
  | glass g =>
    have h : Sz g k := h
    have e : (0 : Rat) - g = -g := by grind
    simp [rok_def, Pt.word, Pt.num, Pt.tab, a1, e]
  | stop r => simp [rok_def, Pt.word, Pt.num, Pt.tab, T4.one]
theorem table_of_list (h : Bk b k) (hk : k ≤ 80) (hl : lstOf S n = some (b.map eP)) : m_table_of [.ref n] S = .ok (eT (tabOf b)) S := by
  refine Rok.eq ?_
  unfold m_table_of
  simp [rok_def, sok_for, hl]
  refine sok_forRun (fun i e S' => S' = S ∧ ∃ o, e = [some (.ref n), some (eT (tabOf (b.take i))), o]) _ (fun i e S' h => ?_) ?_ ?_ _ _ ⟨rfl, none, rfl⟩
  · obtain ⟨rfl, _⟩ := h; exact hl
  · rintro i d e S' hi ⟨rfl, o, rfl⟩
    rw [List.getElem?_map] at hi
    obtain ⟨p, hp, rfl⟩ := Option.map_eq_some_iff.mp hi
    have hm := List.mem_of_getElem? hp
    have s1 := take_sz (i := i) h.sz h.len hk
    have s2 := tab_sz (h.sz p hm)
    have a1 : 1100 + 1100 + k ≤ 4000 := by omega
    simp [part_table_eq (h.sz p hm) (by omega), a1]
    rw [tabOf_take hp]
  · rintro e S' ⟨rfl, o, rfl⟩
    simp
theorem table_of_tup (h : Bk b k) (hk : k ≤ 80) : m_table_of [.tup (b.map eP)] S = .ok (eT (tabOf b)) S := by
  refine Rok.eq ?_
  unfold m_table_of
  simp [rok_def, sok_for]
  refine sok_forRun (fun i e S' => S' = S ∧ ∃ o, e = [some (.tup (b.map eP)), some (eT (tabOf (b.take i))), o]) _ (fun i e S' h => trivial) ?_ ?_ _ _ ⟨rfl, none, rfl⟩
  · rintro i d e S' hi ⟨rfl, o, rfl⟩
    rw [List.getElem?_map] at hi
    obtain ⟨p, hp, rfl⟩ := Option.map_eq_some_iff.mp hi
    have hm := List.mem_of_getElem? hp
    have s1 := take_sz (i := i) h.sz h.len hk
    have s2 := tab_sz (h.sz p hm)
    have a1 : 1100 + 1100 + k ≤ 4000 := by omega
    simp [part_table_eq (h.sz p hm) (by omega), a1]
    rw [tabOf_take hp]
  · rintro e S' ⟨rfl, o, rfl⟩
    simp
end
end Rg
end
section
set_option exponentiation.threshold 10000
/-! RgW: the bench laws' own draws and reckoning. -/
namespace Rg
open PySem L2
theorem draw_then {S : Store} {n : Nat} {base : Int} {P : D → Store → Prop} (hp : Pool S n) (hb : 0 < base) (hz : base.natAbs < 2 ^ 8999) (h : ∀ v a b c : Int, 0 ≤ v → v < base → P (.int v) (S.set n (pl a b c))) : Rok (m_l_draw [.ref n, .int base] S) P := by
  obtain ⟨a, b, c, e⟩ := hp.ex
  have hn : n < S.length := hp.lt
  have el := lstOf_lst e
  have e' := (List.getElem?_eq_some_iff.mp e).2
  unfold m_l_draw
  simp [rok_def, el, e', hn]
  constructor
  · intro ha
    exact ⟨hb, CDv_w (by omega) hz (by decide), h _ _ _ _ (Int.emod_nonneg _ (by omega)) (Int.emod_lt_of_pos _ hb)⟩
  · intro ha
    simp [hn, CMo]
    refine ⟨CM_l (by decide), CM_l ?_, CM_l ?_, CDv_w (b := 4) (by decide) (by decide) (by decide), hb, h _ _ _ _ (Int.emod_nonneg _ (by omega)) (Int.emod_lt_of_pos _ hb)⟩
    · have h1 := Int.emod_nonneg (b + 7919 * (c + 1)) (b := 1000000007) (by decide)
      have h2 := Int.emod_lt_of_pos (b + 7919 * (c + 1)) (b := 1000000007) (by decide)
      omega
    · have h1 := Int.emod_nonneg (((b + 7919 * (c + 1)) % 1000000007 + 11) * ((b + 7919 * (c + 1)) % 1000000007 + 48271)) (b := 998244353) (by decide)
      have h2 := Int.emod_lt_of_pos (((b + 7919 * (c + 1)) % 1000000007 + 11) * ((b + 7919 * (c + 1)) % 1000000007 + 48271)) (b := 998244353) (by decide)
      omega
/-- one of a written list -/
theorem pick_then {S : Store} {n m : Nat} {l : List D} {P : D → Store → Prop} (hp : Pool S n) (hl : lstOf S m = some l) (h0 : l ≠ []) (h1 : l.length < 1000) (hmn : m ≠ n) (hfr : ∀ x ∈ l, x.fresh S.length = none) (h : ∀ x ∈ l, ∀ a b c : Int, P x (S.set n (pl a b c))) : Rok (m_l_pick [.ref n, .ref m] S) P := by
  have hn : n < S.length := hp.lt
  have hpos : 0 < l.length := List.length_pos_iff.mpr h0
  unfold m_l_pick
  simp [rok_def, hl]
  refine draw_then hp (by omega) (Nat.lt_of_lt_of_le (show (l.length : Int).natAbs < 2 ^ 10 by simp; omega) (pow_le (by decide))) fun v a b c v0 v1 => ?_
  simp [hl, hmn]
  refine ix_all v0 v1 fun x hx => ?_
  rw [rok_gcp hn (hfr x hx)]
  exact h x hx a b c
theorem m_l_ratio_eq {S : Store} {t b : Int} (hb : b ≠ 0) (h : b.natAbs < 2 ^ 8999) : m_l_ratio [.int t, .int b] S = .ok (eQ (Rat.divInt t b)) S := by
  refine Rok.eq ?_
  unfold m_l_ratio
  have g := gcd_small (t := t) hb h
  have g2 : (-(Int.gcd t b : Int)).natAbs < 2 ^ 8999 := by rw [Int.natAbs_neg]; exact g.2
  simp [rok_def]
  refine low_while hb ?_
  by_cases hn : b < 0
  · simp [hn]
    refine ⟨CM_l (by decide), CM_r (by decide), CDv_w (by omega) g2 (by decide), CDv_w (by omega) g2 (by decide), ?_⟩
    rw [fdiv_neg_dvd (Int.gcd_dvd_left ..), fdiv_neg_dvd (Int.gcd_dvd_right ..)]
    unfold eQ
    rw [divInt_num hb, divInt_den hb, if_pos hn]
  · simp [hn]
    refine ⟨CM_l (by decide), CM_r (by decide), CDv_w (by omega) g.2 (by decide), CDv_w (by omega) g.2 (by decide), ?_⟩
    rw [fdiv_pos g.1, fdiv_pos g.1]
    unfold eQ
    rw [divInt_num hb, divInt_den hb, if_neg (by omega)]
theorem ratio_then {S : Store} {t b : Int} {P : D → Store → Prop} (k : Nat) (hb : b ≠ 0) (h1 : t.natAbs < 2 ^ k) (h2 : b.natAbs < 2 ^ k) (hk : k ≤ 8999) (h : Sz (Rat.divInt t b) k → P (eQ (Rat.divInt t b)) S) : Rok (m_l_ratio [.int t, .int b] S) P := by
  rw [m_l_ratio_eq hb (Nat.lt_of_lt_of_le h2 (pow_le hk)), rok_ok]
  exact h (sz_di hb h1 h2)
section
variable {S : Store} {p q : Rat} {i j k : Nat} {r s : Ry} {t v : T4}
@[simp] theorem m_l_plus_eq [hp : Sz p i] [hq : Sz q j] (h : i + j ≤ 8998) : m_l_plus [eQ p, eQ q] S = .ok (eQ (p + q)) S := by
  refine Rok.eq ?_
  unfold m_l_plus
  rw [rok_def]
  simp [hp.CMnd hq (by omega), hq.CMnd hp (by omega), hp.CMdd hq (by omega)]
  rw [m_l_ratio_eq dd_ne (dd_lt hp hq (by omega)), add_di]
  simp
@[simp] theorem m_l_times_eq [hp : Sz p i] [hq : Sz q j] (h : i + j ≤ 8998) : m_l_times [eQ p, eQ q] S = .ok (eQ (p * q)) S := by
  refine Rok.eq ?_
  unfold m_l_times
  rw [rok_def]
  simp [hp.CMnn hq (by omega), hp.CMdd hq (by omega)]
  rw [m_l_ratio_eq dd_ne (dd_lt hp hq (by omega)), mul_di]
  simp
theorem m_l_over_2_eq [hp : Sz p i] [hq : Sz q j] (hn : q ≠ 0) (h : i + j ≤ 8998) : m_l_over_2 [eQ p, eQ q] S = .ok (eQ (p / q)) S := by
  refine Rok.eq ?_
  unfold m_l_over_2
  rw [rok_def]
  simp [hp.CMnd hq (by omega), hp.CMdn hq (by omega)]
  rw [m_l_ratio_eq (Int.mul_ne_zero den_ne (num_ne hn)) (dn_lt hp hq (by omega)), div_di]
  simp
theorem neg_tup : D.tup [.int (-q.num), .int (q.den : Nat)] = eQ (-q) := rfl
@[simp] theorem m_l_minus_eq [hp : Sz p i] [hq : Sz q j] (h : i + j ≤ 8998) : m_l_minus [eQ p, eQ q] S = .ok (eQ (p - q)) S := by
  refine Rok.eq ?_
  unfold m_l_minus
  rw [rok_def]
  simp [neg_tup, h]
  rw [Rat.sub_eq_add_neg]
@[simp] theorem m_l_less_2_eq [hp : Sz p i] [hq : Sz q j] (h : i + j ≤ 999998) : m_l_less_2 [eQ p, eQ q] S = .ok (.bl (decide (p < q))) S := by
  refine Rok.eq ?_
  unfold m_l_less_2
  rw [rok_def]
  simp [hp.CMnd hq (by omega), hq.CMnd hp (by omega)]
  rw [Rat.lt_iff]
end
theorem number2_then {S : Store} {n : Nat} {P : D → Store → Prop} (hp : Pool S n) (h : ∀ (q : Rat) (a b c : Int), Sz q 40 → P (eQ q) (S.set n (pl a b c))) : Rok (m_l_number_2 [.ref n] S) P := by
  have hn : n < S.length := hp.lt
  unfold m_l_number_2
  simp [rok_def]
  refine draw_then hp (by decide) (by decide) fun v a b c v0 v1 => ?_
  simp
  refine ⟨fun _ => ?_, fun _ => ⟨fun _ => ?_, fun _ => ⟨fun _ => ?_, fun _ => ?_⟩⟩⟩
  · simp [hn]
    exact h _ _ _ _ (Sz.mono inferInstance (by decide))
  · refine draw_then inferInstance (by decide) (by decide) fun w a b c w0 w1 => ?_
    simp [hn]
    have : Sz (((w - 4 : Int)) : Rat) 40 := ⟨by rw [Rat.num_intCast]; omega, by rw [Rat.den_intCast]; decide⟩
    rw [Rat.intCast_sub] at this
    exact h _ _ _ _ this
  · refine draw_then inferInstance (by decide) (by decide) fun w a b c w0 w1 => ?_
    simp
    refine draw_then inferInstance (by decide) (by decide) fun x a b c x0 x1 => ?_
    simp
    refine ratio_then 40 (by omega) (by omega) (by omega) (by decide) fun hz => ?_
    simp [hn]
    exact h _ _ _ _ hz
  · refine ⟨CPow_s (by decide) (by decide) (by decide), ?_⟩
    refine draw_then inferInstance (by decide) (by decide) fun w a b c w0 w1 => ?_
    simp
    refine ⟨CPow_s (by decide) (by decide) (by decide), ?_⟩
    refine draw_then inferInstance (by decide) (by decide) fun x a b c x0 x1 => ?_
    simp
    refine ⟨CPow_s (by decide) (by decide) (by decide), ?_⟩
    refine draw_then inferInstance (by decide) (by decide) fun y a b c y0 y1 => ?_
    simp
    refine ratio_then 40 (by omega) (by omega) (by omega) (by decide) fun hz => ?_
    simp [hn]
    exact h _ _ _ _ hz
theorem ray2_then {S : Store} {n : Nat} {P : D → Store → Prop} (hp : Pool S n) (h : ∀ (r : Ry) (a b c : Int), SzR r 80 → P (eR r) (S.set n (pl a b c))) : Rok (m_l_ray_2 [.ref n] S) P := by
  have hn : n < S.length := hp.lt
  unfold m_l_ray_2
  simp [rok_def]
  refine number2_then hp fun p a b c hp' => ?_
  simp [hn]
  refine number2_then inferInstance fun q a b c hq => ?_
  simp [hn]
  exact h _ _ _ _ inferInstance
theorem abs_tup {q : Rat} : D.tup [.int (q.num.natAbs : Int), .int (q.den : Nat)] = eQ q.abs := by unfold eQ; rw [abs_num, abs_den]
theorem part_then {S : Store} {n : Nat} {P : D → Store → Prop} (hp : Pool S n) (h : ∀ (p : Pt) (a b c : Int), Sz p.num 40 → p.ok → P (eP p) (S.set n (pl a b c))) : Rok (m_l_part [.ref n] S) P := by
  have hn : n < S.length := hp.lt
  have hn' : ¬ S.length = n := by omega
  unfold m_l_part
  simp [rok_def]
  refine pick_then (n := n) inferInstance lstOf_new (by simp) (by simp) hn' (by simp) fun x hx a b c => ?_
  simp at hx
  rcases hx with rfl | rfl | rfl
  · simp [hn]
    refine number2_then inferInstance fun q a b c hq => ?_
    simp [hn, abs_tup]
    exact h (.gap q.abs) _ _ _ (sz_abs hq) Rat.abs_nonneg
  · simp [hn]
    refine number2_then inferInstance fun q a b c hq => ?_
    simp [hn]
    exact h (.glass q) _ _ _ hq trivial
  · simp [hn]
    refine number2_then inferInstance fun q a b c hq => ?_
    simp [hn, abs_tup]
    by_cases hz : q = 0
    · simp [hn, hz]
      exact h (.stop 1) _ _ _ (Sz.mono (inferInstance : Sz 1 1) (by decide)) (show (0 : Rat) < 1 by grind)
    · simp [hn, hz]
      exact h (.stop q.abs) _ _ _ (sz_abs hq) (Rat.abs_pos_iff.mpr hz)
theorem bench_then {S : Store} {n : Nat} {P : D → Store → Prop} (hp : Pool S n) (h : ∀ (b : List Pt) (x y z : Int), Bk b 40 → b.length ≤ 12 → P (.ref S.length) (S.set n (pl x y z) ++ [.lst (b.map eP)])) : Rok (m_l_bench [.ref n] S) P := by
  have hn : n < S.length := hp.lt
  have hn' : ¬ S.length = n := by omega
  unfold m_l_bench
  simp [rok_def, rok_comp]
  refine pick_then (n := n) inferInstance lstOf_new (by simp) (by simp) hn' (by simp) fun d hd x y z => ?_
  obtain ⟨k, rfl, k0, k1⟩ : ∃ k : Int, d = .int k ∧ 0 ≤ k ∧ k ≤ 12 := by
    simp at hd
    rcases hd with rfl | rfl | rfl | rfl | rfl | rfl | rfl | rfl <;> exact ⟨_, rfl, by decide, by decide⟩
  simp [hn]
  refine ⟨⟨by omega, by omega⟩, ?_⟩
  refine rok_compRun (fun i S' => ∃ (l : List Pt) (x y z : Int), S' = S.set n (pl x y z) ++ [.lst [.int 0, .int 1, .int 2, .int 3, .int 4, .int 5, .int 8, .int 12], .lst (l.map eP)] ∧ l.length = i ∧ (∀ p ∈ l, Sz p.num 40) ∧ ∀ p ∈ l, p.ok) _ (fun _ _ _ => trivial) ?_ ?_ _ ⟨[], x, y, z, rfl, rfl, by simp, by simp⟩
  · rintro i d S' hi ⟨l, x, y, z, rfl, hl, h1, h2⟩
    have hi2 : i < k.toNat := by
      have := (List.getElem?_eq_some_iff.mp hi).1
      simpa using this
    simp
    refine part_then (n := n) inferInstance fun p x y z hz hk => ?_
    simp [hn]
    have e1 : (S.set n (pl x y z) ++ [Cell.lst [.int 0, .int 1, .int 2, .int 3, .int 4, .int 5, .int 8, .int 12], .lst (l.map eP)])[S.length + 1]? = some (.lst (l.map eP)) := by
      rw [List.getElem?_append_right (by simp)]
      simp
    have e2 : (S.set n (pl x y z) ++ [Cell.lst [.int 0, .int 1, .int 2, .int 3, .int 4, .int 5, .int 8, .int 12], .lst (l.map eP)]).set (S.length + 1) (.lst (l.map eP ++ [eP p])) = S.set n (pl x y z) ++ [Cell.lst [.int 0, .int 1, .int 2, .int 3, .int 4, .int 5, .int 8, .int 12], .lst ((l ++ [p]).map eP)] := by
      rw [List.set_append_right _ _ (by simp)]
      simp
    refine ⟨by omega, l ++ [p], ⟨x, y, z, by simp⟩, by simp [hl], ?_, ?_⟩
    · intro q hq
      rcases List.mem_append.mp hq with hq | hq
      · exact h1 q hq
      · rw [List.mem_singleton.mp hq]; exact hz
    · intro q hq
      rcases List.mem_append.mp hq with hq | hq
      · exact h2 q hq
      · rw [List.mem_singleton.mp hq]; exact hk
  · rintro S' ⟨l, x, y, z, rfl, hl, h1, h2⟩
    rw [rangeD_len] at hl
    rw [gc_poolN (k := S.length + 1) (l := l.map eP) hn (by simp) (by simp) (by rw [List.getElem?_append_right (by simp)]; simp) (by simp), rok_ok]
    simp
    rw [if_neg (by omega)]
    exact h l x y z ⟨by omega, h1, h2⟩ (by omega)
/-! ### alike, part by part -/
theorem ty_lst {S : Store} {n : Nat} {l : List D} (h : lstOf S n = some l) : tyOf S (.ref n) = some .lst := by
  unfold lstOf at h
  unfold tyOf
  split at h
  · rename_i e; simp [e]
  · rename_i e; simp [e]
  · cases h
theorem zipD_map {A B : Type} {f : A → D} {g : B → D} {l : List A} {m : List B} : zipD (l.map f) (m.map g) = (l.zip m).map fun q => .tup [f q.1, g q.2] := by
  unfold zipD
  rw [List.zip_map, List.map_map]
  rfl
theorem zip_all {A : Type} [DecidableEq A] : ∀ {l m : List A}, l.length = m.length → ((l.zip m).all fun q => decide (q.1 = q.2)) = decide (l = m)
  | [], [], _ => by simp
  | [], b :: m, h => by simp at h
  | a :: l, [], h => by simp at h
  | a :: l, b :: m, h => by
    rw [List.zip_cons_cons, List.all_cons, zip_all (by simpa using h), Bool.eq_iff_iff]
    simp
section
variable {S : Store} {k : Nat} {p q : Rat} {r s : Ry} {t v : T4} {x y : Pt}
theorem same_int {i j : Int} : m_l_same_2 (k + 1) [.int i, .int j] S = .ok (.bl (decide (i = j))) S := by
  refine Rok.eq ?_
  rw [m_l_same_2_succ]
  simp [rok_def, Ty.isa]
theorem same_str {i j : Str} (hi : PyData.strOk i = true) (hj : PyData.strOk j = true) : m_l_same_2 (k + 1) [.str i, .str j] S = .ok (.bl (decide (i = j))) S := by
  refine Rok.eq ?_
  rw [m_l_same_2_succ]
  simp [rok_def, Ty.isa, hi, hj]
theorem same_Q : m_l_same_2 (k + 2) [eQ p, eQ q] S = .ok (.bl (decide (p = q))) S := by
  refine Rok.eq ?_
  rw [m_l_same_2_succ]
  have e : ∀ S, fZip [eQ p, eQ q] S = fZip [.tup [.int p.num, .int p.den], .tup [.int q.num, .int q.den]] S := fun _ => rfl
  simp [rok_def, rok_comp, Ty.isa, e, same_int]
  rw [Bool.eq_iff_iff]
  simp
  exact ⟨fun ⟨a, b⟩ => Rat.ext a (by omega), fun e => by subst e; exact ⟨rfl, rfl⟩⟩
theorem same_R : m_l_same_2 (k + 3) [eR r, eR s] S = .ok (.bl (decide (r = s))) S := by
  refine Rok.eq ?_
  rw [m_l_same_2_succ]
  simp [rok_def, rok_comp, Ty.isa, same_Q]
  rw [Bool.eq_iff_iff]
  simp
  exact ⟨fun ⟨a, b⟩ => Ry.ext' a b, fun e => by subst e; exact ⟨rfl, rfl⟩⟩
theorem same_T : m_l_same_2 (k + 3) [eT t, eT v] S = .ok (.bl (decide (t = v))) S := by
  refine Rok.eq ?_
  rw [m_l_same_2_succ]
  simp [rok_def, rok_comp, Ty.isa, same_Q]
  rw [Bool.eq_iff_iff]
  simp
  exact ⟨fun ⟨a, b, c, d⟩ => T4.ext' a b c d, fun e => by subst e; exact ⟨rfl, rfl, rfl, rfl⟩⟩
theorem same_P : m_l_same_2 (k + 3) [eP x, eP y] S = .ok (.bl (decide (x = y))) S := by
  refine Rok.eq ?_
  rw [m_l_same_2_succ]
  have e : ∀ S, fZip [eP x, eP y] S = fZip [.tup [.str x.word, eQ x.num], .tup [.str y.word, eQ y.num]] S := fun _ => rfl
  simp [rok_def, rok_comp, Ty.isa, e, same_Q, same_str (word_ok x) (word_ok y)]
  rw [Bool.eq_iff_iff]
  simp
  exact ⟨fun ⟨a, b⟩ => word_num a b, fun e => by subst e; exact ⟨rfl, rfl⟩⟩
theorem same_non : m_l_same_2 (k + 1) [.non, .non] S = .ok (.bl true) S := by
  refine Rok.eq ?_
  rw [m_l_same_2_succ]
  simp [rok_def, Ty.isa]
/-- of lists of what is told well -/
theorem same_list {A : Type} [DecidableEq A] {enc : A → D} {l l' : List A} {m n : Nat} (h : ∀ a b S, m_l_same_2 k [enc a, enc b] S = .ok (.bl (decide (a = b))) S) (hl : lstOf S m = some (l.map enc)) (hl' : lstOf S n = some (l'.map enc)) (hz : l.length < 1000) (hz' : l'.length < 1000) :
    m_l_same_2 (k + 1) [.ref m, .ref n] S = .ok (.bl (decide (l = l'))) S := by
  refine Rok.eq ?_
  rw [m_l_same_2_succ]
  simp [rok_def, Ty.isa, ty_lst hl, ty_lst hl', hl, hl']
  refine ⟨fun hne => ?_, fun he => ?_⟩
  · intro e; subst e; exact hne rfl
  · have he' : l.length = l'.length := by omega
    refine comp_map_then (l.zip l') (fun q => .tup [enc q.1, enc q.2]) (fun q => .bl (decide (q.1 = q.2))) ?_ ?_ ?_ ?_
    · simp [hl, hl', zipD_map]
      exact fun acc => ⟨lstOf_app hl, lstOf_app hl'⟩
    · simp; omega
    · intro q hq acc
      simp [h]
    · simp [boolsD_map, List.all_map, zip_all he', Function.comp_def]
end
/-! ### rays led part by part -/
theorem tab_led {p : Pt} {r : Ry} : p.tab.led r = (match p with
    | .gap g => ⟨r.y + g * r.u, r.u⟩
    | .glass g => ⟨r.y, r.u - g * r.y⟩
    | .stop _ => r) := by
  cases p with
  | gap g => apply Ry.ext' <;> (simp only [Pt.tab, T4.led]; grind)
  | glass g => apply Ry.ext' <;> (simp only [Pt.tab, T4.led]; grind)
  | stop g => exact T4.one_led
theorem led_2_eq {S : Store} {p : Pt} {r : Ry} {i k : Nat} (hp : Sz p.num i) (hr : SzR r k) (h : i + k + k ≤ 8000) : m_l_led_2 [eP p, eR r] S = .ok (eR (p.tab.led r)) S := by
  refine Rok.eq ?_
  unfold m_l_led_2
  have a1 : i + k ≤ 8998 := by omega
  have a2 : k + (i + k) ≤ 8998 := by omega
  cases p with
  | gap g =>
    have hp : Sz g i := hp
    simp [rok_def, Pt.word, Pt.num, a1, a2, tab_led]
  | glass g =>
    have hp : Sz g i := hp
    simp [rok_def, Pt.word, Pt.num, a1, a2, tab_led]
  | stop g => simp [rok_def, Pt.word, Pt.num, tab_led]
theorem led_take {b : List Pt} {i : Nat} {p : Pt} {r : Ry} (h : b[i]? = some p) : p.tab.led ((tabOf (b.take i)).led r) = (tabOf (b.take (i + 1))).led r := by
  rw [tabOf_take h, T4.thn_led]
theorem out_eq {S : Store} {b : List Pt} {r : Ry} {k m n : Nat} (hb : Bk b k) (hk : k ≤ 80) (hr : SzR r m) (hm : m ≤ 1000) (hl : lstOf S n = some (b.map eP)) : m_l_out [.ref n, eR r] S = .ok (eR ((tabOf b).led r)) S := by
  refine Rok.eq ?_
  unfold m_l_out
  simp [rok_def, sok_for, hl]
  refine sok_forRun (fun i e S' => S' = S ∧ ∃ o, e = [some (.ref n), some (eR ((tabOf (b.take i)).led r)), o]) _ (fun i e S' h => ?_) ?_ ?_ _ _ ⟨rfl, none, by rw [List.take_zero]; simp only [tabOf, List.foldl_nil, T4.one_led]⟩
  · obtain ⟨rfl, _⟩ := h; exact hl
  · rintro i d e S' hi ⟨rfl, o, rfl⟩
    rw [List.getElem?_map] at hi
    obtain ⟨p, hp, rfl⟩ := Option.map_eq_some_iff.mp hi
    have hm := List.mem_of_getElem? hp
    have s1 := take_sz (i := i) hb.sz hb.len hk
    have s2 : SzR ((tabOf (b.take i)).led r) (1100 + m + 1) := inferInstance
    simp [led_2_eq (hb.sz p hm) s2 (by omega)]
    rw [led_take hp]
  · rintro e S' ⟨rfl, o, rfl⟩
    simp
theorem tabOf_sz {b : List Pt} {k : Nat} (hb : Bk b k) (hk : k ≤ 80) : SzT (tabOf b) 1100 := by
  have := take_sz (i := b.length) hb.sz hb.len hk
  rwa [List.take_length] at this
/-- a ratio of at most twelve figures -/
theorem near_then2 {S : Store} {P : D → Store → Prop} {p q : Rat} (hq : Sz q 40) (h : ∀ r, (r = p ∨ r = q) → Sz r 40 → P (eQ r) S) : Rok (m_l_near [eQ p, eQ q] S) P := by
  unfold m_l_near
  have hpow : CPow 10 12 := CPow_s (by decide) (by decide) (by decide)
  simp [rok_def, hpow]
  by_cases hc : (1000000000000 : Int) ≤ max (p.num.natAbs : Int) p.den
  · simp [hc]
    exact h q (.inr rfl) hq
  · simp [hc]
    exact h p (.inl rfl) ⟨by omega, by omega⟩
theorem near_then {S : Store} {P : D → Store → Prop} {p q : Rat} (hq : Sz q 40) (h : ∀ r, Sz r 40 → P (eQ r) S) : Rok (m_l_near [eQ p, eQ q] S) P := near_then2 hq fun r _ hr => h r hr
end Rg
end
section
set_option exponentiation.threshold 10000
/-! RgTa: ratios and benches as texts. -/
namespace Rg
open PySem L2
theorem str_len_app {x y : Str} : (x ++ y).length = x.length + y.length := by
  show (x.cps ++ y.cps).size = x.cps.size + y.cps.size
  exact Array.size_append
theorem strI_len {i : Int} {k : Nat} (hk : 0 < k) (h : i.natAbs < 2 ^ k) : (strI i).length ≤ k + 1 := by
  have key : ∀ n : Nat, n < 2 ^ k → (Nat.toDigits 10 n).length ≤ k := fun n hn => by
    refine (Nat.length_toDigits_le_iff (by decide) hk).mpr ?_
    exact Nat.lt_of_lt_of_le hn (Nat.pow_le_pow_left (by decide) k)
  unfold strI
  cases i with
  | ofNat n =>
    have e : (toString (Int.ofNat n) : String) = String.ofList (Nat.toDigits 10 n) := rfl
    rw [e, PySem.ofString_ofList_length]
    have := key n (by simpa using h)
    omega
  | negSucc n =>
    have e : (toString (Int.negSucc n) : String) = String.ofList ('-' :: Nat.toDigits 10 (n + 1)) := by
      have e1 : (toString (Int.negSucc n) : String) = "-" ++ String.ofList (Nat.toDigits 10 (n + 1)) := rfl
      rw [e1]
      rw [String.ofList_cons]
      rfl
    rw [e, PySem.ofString_ofList_length]
    have := key (n + 1) (by simpa using h)
    simp
    omega
theorem join_one {g x : Str} : Txt.join g [x] = x := rfl
theorem join_snoc {g y : Str} {ys : List Str} (h : ys ≠ []) : Txt.join g (ys ++ [y]) = Txt.join g ys ++ g ++ y := by
  cases ys with
  | nil => exact absurd rfl h
  | cons a r =>
    unfold Txt.join Builtin.Str.glued
    simp [List.foldl_append]
    show _ = Str.mk (_ ++ g.cps ++ y.cps)
    rw [Array.append_assoc]
@[simp] theorem rok_strI {i : Int} {S : Store} {P : D → Store → Prop} : Rok (fStrI [.int i] S) P ↔ i.natAbs.log2 < 1920 ∧ P (.str (strI i)) S := by
  show Rk _ _ ↔ _
  unfold fStrI
  by_cases h : i.natAbs.log2 < 1920
  · simp [h]
  · simp [h]
@[simp] theorem rok_m1 {f : Str → D → Store → Res D} {so se : SE} {env : Env} {S : Store} {P : D → Store → Prop} : Rok (sM1 f so se env S) P ↔ Rok (so env S) fun d S1 => ∃ a, d = .str a ∧ Rok (se env S1) fun y S2 => Rok (f a y S2) P := by
  show Rk _ _ ↔ Rk _ _
  unfold sM1
  rw [rk_bind]
  refine iff_of_eq (congrArg (Rk (so env S)) (funext fun d => funext fun S1 => propext ?_))
  cases d <;> simp
  rfl
@[simp] theorem rok_join {a : Str} {n : Nat} {S : Store} {P : D → Store → Prop} : Rok (fJoin a (.ref n) S) P ↔ ∃ ys, (lstOf S n).bind strsD = some ys ∧ (ys.map (·.length)).sum + ys.length * a.length ≤ 16777216 ∧ P (.str (Txt.join a ys)) S := by
  show Rk _ _ ↔ _
  unfold fJoin
  dsimp only
  generalize (lstOf S n).bind strsD = o
  cases o with
  | none => simp
  | some ys =>
    by_cases hz : (ys.map (·.length)).sum + ys.length * a.length ≤ 16777216
    · simp [hz]
    · simp [hz]
@[simp] theorem rok_plusS {x y : Str} {S : Store} {P : D → Store → Prop} : Rok (fPlus (.str x) (.str y) S) P ↔ x.length + y.length ≤ sizeLine ∧ P (.str (x ++ y)) S := by
  show Rk _ _ ↔ _
  unfold fPlus
  by_cases hz : x.length + y.length ≤ sizeLine
  · simp [hz]
  · simp [hz]
/-- the text of a ratio -/
def ratT (q : Rat) : Str := if q.den = 1 then strI q.num else strI q.num ++ "/" ++ strI q.den
theorem sz_log {q : Rat} {k : Nat} (h : Sz q k) (hk : k ≤ 1900) : q.num.natAbs.log2 < 1920 ∧ (q.den : Int).natAbs.log2 < 1920 := by
  have key : ∀ n : Nat, n < 2 ^ k → n.log2 < 1920 := fun n hn => by
    rcases Nat.eq_zero_or_pos n with z | z
    · subst z; decide
    · have := (Nat.log2_lt (by omega)).mpr hn
      omega
  exact ⟨key _ h.num, by rw [Int.natAbs_natCast]; exact key _ h.den⟩
theorem ratT_len {q : Rat} {k : Nat} (h : Sz q k) : (ratT q).length ≤ 2 * k + 3 := by
  have hk := h.pos
  have h1 := strI_len hk h.num
  have h2 := strI_len (i := (q.den : Int)) hk (by rw [Int.natAbs_natCast]; exact h.den)
  unfold ratT
  split
  · omega
  · rw [str_len_app, str_len_app]
    have : (("/" : Str)).length = 1 := by decide +kernel
    omega
theorem ratio_text_eq {S : Store} {q : Rat} {k : Nat} (h : Sz q k) (hk : k ≤ 1900) : m_ratio_text [eQ q] S = .ok (.str (ratT q)) S := by
  have hp := h.pos
  have h1 := strI_len hp h.num
  have h2 := strI_len (i := (q.den : Int)) hp (by rw [Int.natAbs_natCast]; exact h.den)
  obtain ⟨l1, l2⟩ := sz_log h hk
  have h3 : (("/" : Str)).length = 1 := by decide +kernel
  refine Rok.eq ?_
  unfold m_ratio_text
  have l2' : q.den.log2 < 1920 := by simpa using l2
  simp [rok_def, l1, l2', str_len_app, h3]
  refine ⟨fun e => ?_, fun e => ⟨by omega, by omega, ?_⟩⟩
  · have e : q.den = 1 := by exact_mod_cast e
    unfold ratT
    rw [if_pos e]
  · have e : ¬ q.den = 1 := fun z => e (by exact_mod_cast z)
    unfold ratT
    rw [if_neg e]
theorem l_ratio_text_same : m_l_ratio_text = m_ratio_text := rfl
end Rg
end
section
set_option exponentiation.threshold 10000
/-! RgZ: rows for counting truths, empty dicts; the root of a square. -/
namespace Rg
open PySem L2
@[simp] theorem rok_countB {n : Nat} {k : Bool} {S : Store} {P : D → Store → Prop} : Rok (fCountB (.ref n) [.bl k] S) P ↔ ∃ l bs, lstOf S n = some l ∧ boolsD l = some bs ∧ P (.int (bs.count k : Nat)) S := by
  unfold fCountB
  cases h : lstOf S n with
  | none => simp [h]
  | some l => cases h2 : boolsD l <;> simp [h, h2]
@[simp] theorem rok_dct {env : Env} {S : Store} {P : D → Store → Prop} : Rok (sDct env S) P ↔ P (.ref S.length) (S ++ [.dct]) := by
  unfold sDct; simp
theorem gcd_sq {p : Rat} : Nat.gcd (p.num * p.num).natAbs (p.den * p.den) = 1 := by
  rw [Int.natAbs_mul]
  have h : Nat.Coprime p.num.natAbs p.den := p.reduced
  exact Nat.Coprime.mul_left (Nat.Coprime.mul_right h h) (Nat.Coprime.mul_right h h)
theorem sq_num {p : Rat} : (p * p).num = p.num * p.num := by
  rw [Rat.num_mul, gcd_sq]; simp
theorem sq_den {p : Rat} : (p * p).den = p.den * p.den := by
  rw [Rat.den_mul, gcd_sq]; simp
theorem sq_0 {p : Rat} : 0 ≤ p * p := by
  rw [← Rat.num_nonneg, sq_num]
  rcases Int.le_total 0 p.num with h | h
  · exact Int.mul_nonneg h h
  · exact Int.mul_nonneg_of_nonpos_of_nonpos h h
theorem isq_sq {a : Int} : isq (a * a) = a.natAbs := by
  refine isq_of ⟨by omega, ?_, ?_⟩
  · rw [← Int.natAbs_mul_self]; simp
  · rw [← Int.natAbs_mul_self' a]
    have : ((a.natAbs : Int) + 1) * ((a.natAbs : Int) + 1) = (a.natAbs : Int) * a.natAbs + 2 * (a.natAbs : Int) + 1 := by grind
    omega
theorem root_sq {S : Store} {q : Rat} {k : Nat} (hq : Sz q k) (hk : k ≤ 4000) : m_root [eQ (q * q)] S = .ok (eQ q.abs) S := by
  have hs : Sz (q * q) (k + k) := inferInstance
  refine Rok.eq ?_
  unfold m_root
  simp [rok_def]
  refine ⟨fun h => ?_, fun h => ?_⟩
  · have := sq_0 (p := q)
    have := Rat.num_nonneg.mpr this
    omega
  · have h' : 0 ≤ (q * q).num := Rat.num_nonneg.mpr sq_0
    have d0 : (0 : Int) ≤ ((q * q).den : Int) := by omega
    have d1 : (((q * q).den : Int)).natAbs < 2 ^ (k + k) := by simpa using hs.den
    rw [(m_whole_root_eq h' (by omega) hs.num).1]
    simp
    rw [(m_whole_root_eq d0 (by omega) d1).1]
    have e1 : isq (q * q).num = q.num.natAbs := by rw [sq_num, isq_sq]
    have e2 : isq ((q * q).den : Int) = (q.den : Int) := by rw [sq_den]; simp only [Int.natCast_mul]; rw [isq_sq]; simp
    rw [e1, e2]
    have a1 : ((q.num.natAbs : Int)).natAbs < 2 ^ k := by simpa using hq.num
    have a2 : ((q.den : Int)).natAbs < 2 ^ k := by simpa using hq.den
    simp [CM_w a1 a1 (by omega), CM_w a2 a2 (by omega), sq_num, sq_den]
    unfold eQ
    rw [abs_num, abs_den]
end Rg
end
section
set_option exponentiation.threshold 10000
/-! RgGa: the reckoning of the laws of fewest parts. -/
namespace Rg
open PySem L2
@[simp] theorem rok_pop {n : Nat} {S : Store} {P : D → Store → Prop} : Rok (fPop (.ref n) [] S) P ↔ ∃ l y, S[n]? = some (.lst l) ∧ l[l.length - 1]? = some y ∧ P y (S.set n (.lst l.dropLast)) := by
  unfold fPop
  cases h : S[n]? with
  | none => simp [h]
  | some c =>
    cases c with
    | lst l => cases h2 : l[l.length - 1]? <;> simp [h, h2]
    | _ => simp [h]
@[simp] theorem rok_in {neg : Bool} {d e : D} {S : Store} {P : D → Store → Prop} : Rok (fIn neg d e S) P ↔ ∃ x ds, toP S 60 d = some x ∧ toP S 60 e = some (.list ds) ∧ P (.bl (if neg then !ds.any (fun z => PyData.eqv z x) else ds.any fun z => PyData.eqv z x)) S := by
  unfold fIn
  cases h : toP S 60 d with
  | none => simp
  | some x =>
    cases h2 : toP S 60 e with
    | none => simp
    | some y => cases y <;> simp
theorem rok_gcr {S C : Store} {k : Nat} {l : List D} {P : D → Store → Prop} (hk : C[k]? = some (.lst l)) (hu : unders S.length l = true) : Rok (gc S (.ref (S.length + k)) (S ++ C)) P ↔ P (.ref S.length) (S ++ [.lst l]) := by
  rw [gc_new (n := S.length + k) (l := l) (C := C) (by simp) (by simp) (by rw [List.getElem?_append_right (by omega)]; simpa using hk) hu, rok_ok]
  simp only [sb_ref]
  rw [if_neg (by omega)]
section
variable {S : Store} {p q : Rat} {i j : Nat}
theorem g_while {P : SPt} {a b : Int} {c d : Option D} (hb : 0 < b) (h : P.nx [c, d, some (.int 0), some (.int (Int.gcd a b : Int))] S) :
    Sok (sWhile (sT (s2 fGt (sVar 2) (sC (.int (0))))) (sPar 2 3 (sCons (s2 fMod (sVar 3) (sVar 2)) (sCons (sVar 2) (sNil)))) [c, d, some (.int (a.natAbs : Int)), some (.int b)] S) P := by
  refine sok_while (fun e S' => S' = S ∧ ∃ x y : Int, e = [c, d, some (.int x), some (.int y)] ∧ 0 ≤ x ∧ 0 < y ∧ Int.gcd x y = Int.gcd a b) (fun e S => nAt 2 e) ?_ _ _ ⟨rfl, a.natAbs, b, rfl, by omega, hb, by simp [Int.gcd]⟩
  rintro e S' ⟨rfl, x, y, rfl, hx, hy, hg⟩
  simp
  constructor
  · intro h
    refine ⟨h, ⟨_, _, ⟨rfl, rfl⟩, Int.emod_nonneg _ (by omega), h, ?_⟩, ?_⟩
    · rw [← hg, Int.gcd_comm x y]
      simp [Int.gcd]
      rw [emod_natAbs (by omega) (by omega), ← Nat.gcd_rec x.natAbs y.natAbs, Nat.gcd_comm]
    · have h1 := Int.emod_lt_of_pos y h
      have h2 := Int.emod_nonneg y (show x ≠ 0 by omega)
      simp [nAt]
      omega
  · intro h'
    have : x = 0 := by omega
    subst this
    have e : (y : Int) = (Int.gcd a b : Int) := by
      rw [← hg]
      simp [Int.gcd]
      omega
    rw [e]
    exact h
theorem ratio2_eq {t b : Int} (hb : b ≠ 0) (h : b.natAbs < 2 ^ 8999) : m_l_ratio_2 [.int t, .int b] S = .ok (eQ (Rat.divInt t b)) S := by
  refine Rok.eq ?_
  unfold m_l_ratio_2
  have g := gcd_small (t := t) hb h
  simp [rok_def]
  constructor
  · intro hn
    have e : ((t.natAbs : Nat) : Int) = (((-t).natAbs : Nat) : Int) := by simp
    rw [e]
    refine g_while (a := -t) (b := -b) (by omega) ?_
    have e1 : Int.gcd (-t) (-b) = Int.gcd t b := by simp
    rw [e1]
    simp
    refine ⟨CDv_w (by omega) g.2 (by decide), CDv_w (by omega) g.2 (by decide), ?_⟩
    rw [fdiv_pos g.1, fdiv_pos g.1]
    unfold eQ
    rw [divInt_num hb, divInt_den hb, if_pos hn, Int.ediv_neg, Int.ediv_neg, Int.neg_ediv_of_dvd (Int.gcd_dvd_left ..), Int.neg_ediv_of_dvd (Int.gcd_dvd_right ..)]
  · intro hn
    refine g_while (a := t) (b := b) (by omega) ?_
    simp
    refine ⟨CDv_w (by omega) g.2 (by decide), CDv_w (by omega) g.2 (by decide), ?_⟩
    rw [fdiv_pos g.1, fdiv_pos g.1]
    unfold eQ
    rw [divInt_num hb, divInt_den hb, if_neg (by omega)]
theorem ratio2_then {t b : Int} {P : D → Store → Prop} (k : Nat) (hb : b ≠ 0) (h1 : t.natAbs < 2 ^ k) (h2 : b.natAbs < 2 ^ k) (hk : k ≤ 8999) (h : Sz (Rat.divInt t b) k → P (eQ (Rat.divInt t b)) S) : Rok (m_l_ratio_2 [.int t, .int b] S) P := by
  rw [ratio2_eq hb (Nat.lt_of_lt_of_le h2 (pow_le hk)), rok_ok]
  exact h (sz_di hb h1 h2)
@[simp] theorem m_l_add_eq [hp : Sz p i] [hq : Sz q j] (h : i + j ≤ 8998) : m_l_add [eQ p, eQ q] S = .ok (eQ (p + q)) S := by
  refine Rok.eq ?_
  unfold m_l_add
  rw [rok_def]
  simp [hp.CMnd hq (by omega), hq.CMnd hp (by omega), hp.CMdd hq (by omega)]
  rw [ratio2_eq dd_ne (dd_lt hp hq (by omega)), add_di]
  simp
@[simp] theorem m_l_by_eq [hp : Sz p i] [hq : Sz q j] (h : i + j ≤ 8998) : m_l_by [eQ p, eQ q] S = .ok (eQ (p * q)) S := by
  refine Rok.eq ?_
  unfold m_l_by
  rw [rok_def]
  simp [hp.CMnn hq (by omega), hp.CMdd hq (by omega)]
  rw [ratio2_eq dd_ne (dd_lt hp hq (by omega)), mul_di]
  simp
theorem small_then {n : Nat} {P : D → Store → Prop} (hp : Pool S n) (h : ∀ (q : Rat) (a b c : Int), Sz q 5 → P (eQ q) (S.set n (pl a b c))) : Rok (m_l_small [.ref n] S) P := by
  have hn : n < S.length := hp.lt
  unfold m_l_small
  simp [rok_def]
  refine next_then hp (by decide) (by decide) fun v a b c v0 v1 => ?_
  simp
  refine next_then inferInstance (by decide) (by decide) fun w a b c w0 w1 => ?_
  simp
  refine ratio2_then 5 (by omega) (by omega) (by omega) (by decide) fun hz => ?_
  simp [hn]
  exact h _ _ _ _ hz
theorem behind_eq {s t : T4} [SzT s i] [SzT t j] (h : j + i + (j + i) ≤ 8998) : m_l_behind [eT s, eT t] S = .ok (eT (s.thn t)) S := by
  refine Rok.eq ?_
  unfold m_l_behind
  have a1 : j + i ≤ 8998 := by omega
  have e : (⟨t.a * s.a + t.b * s.c, t.a * s.b + t.b * s.d, t.c * s.a + t.d * s.c, t.c * s.b + t.d * s.d⟩ : T4) = s.thn t := rfl
  simp [rok_def, sok_for, a1, h, e]
end
section
variable {S : Store} {b : List Pt} {p : Pt} {n k : Nat}
theorem l_part_table_eq (h : p.word ≠ "stop") : m_l_part_table [eP p] S = .ok (eT p.tab) S := by
  refine Rok.eq ?_
  unfold m_l_part_table
  have hneg : ∀ q : Rat, D.tup [.int (-q.num), .int (q.den : Nat)] = eQ (-q) := fun _ => rfl
  cases p with
  | gap g => simp [rok_def, Pt.word, Pt.num, Pt.tab]
  | glass g => simp [rok_def, Pt.word, Pt.num, Pt.tab, hneg]
  | stop r => simp [Pt.word] at h
theorem take_szG (h : ∀ p ∈ b, Sz p.num k) {i : Nat} : SzT (tabOf (b.take i)) (1 + b.length * (k + 1)) := by
  have := tabs_sz (b := b.take i) fun p hp => h p (List.mem_of_mem_take hp)
  refine this.mono ?_
  have h1 : (b.take i).length ≤ b.length := by rw [List.length_take]; omega
  have h2 := Nat.mul_le_mul_right (k + 1) h1
  omega
theorem l_table_of_eq (h : ∀ p ∈ b, Sz p.num k) (hs : ∀ p ∈ b, p.word ≠ "stop") (hk : 1 + b.length * (k + 1) + k ≤ 4499) (hlen : b.length ≤ 100) (hl : lstOf S n = some (b.map eP)) : m_l_table_of [.ref n] S = .ok (eT (tabOf b)) S := by
  refine Rok.eq ?_
  unfold m_l_table_of
  simp [rok_def, sok_for, hl]
  refine sok_forRun (fun i e S' => S' = S ∧ ∃ o, e = [some (.ref n), some (eT (tabOf (b.take i))), o]) _ (fun i e S' h => ?_) ?_ ?_ _ _ ⟨rfl, none, rfl⟩
  · obtain ⟨rfl, _⟩ := h; exact hl
  · rintro i d e S' hi ⟨rfl, o, rfl⟩
    rw [List.getElem?_map] at hi
    obtain ⟨p, hp, rfl⟩ := Option.map_eq_some_iff.mp hi
    have hm := List.mem_of_getElem? hp
    have s1 := take_szG h (i := i)
    have s2 := tab_sz (h p hm)
    simp [l_part_table_eq (hs p hm)]
    rw [behind_eq (by omega)]
    simp
    rw [tabOf_take hp]
  · rintro e S' ⟨rfl, o, rfl⟩
    simp
theorem many_eq {w : Str} (hw : PyData.strOk w = true) (hlen : b.length ≤ 100) (hl : lstOf S n = some (b.map eP)) : m_l_many [.ref n, .str w] S = .ok (.int ((b.filter fun p => decide (p.word = w)).length : Nat)) S := by
  refine Rok.eq ?_
  unfold m_l_many
  simp [rok_def]
  refine comp_then b eP (fun p => decide (p.word = w)) eP ?_ ?_ ?_ ?_
  · simp [hl]
    exact fun acc => lstOf_app hl
  · simp; omega
  · intro p hp acc
    simp [word_ok, hw]
  · simp
end
end Rg
end
section
set_option exponentiation.threshold 10000
/-! RgHa: halls drawn: ratios of written lists, pieces, stops. -/
namespace Rg
open PySem L2
theorem ixS_all {T : Store} {m : Nat} {l : List D} {i : Int} {P : D → Store → Prop} (hl : lstOf T m = some l) (h0 : 0 ≤ i) (h1 : i < l.length) (h : ∀ x ∈ l, P x T) : Rok (fIx (.ref m) (.int i) T) P := by
  rw [rok_ixL]
  obtain ⟨x, h2, h3⟩ := ix_all (P := fun x => P x T) h0 h1 h
  exact ⟨l, x, hl, h2, h3⟩
theorem ratio3_then {S : Store} {n m1 m2 : Nat} {P : D → Store → Prop} (l1 l2 : List Int) (hp : Pool S n) (h1 : lstOf S m1 = some (l1.map D.int)) (h2 : lstOf S m2 = some (l2.map D.int)) (hm1 : m1 ≠ n) (hm2 : m2 ≠ n)
    (n1 : 0 < l1.length) (n2 : 0 < l2.length) (k1 : l1.length < 100) (k2 : l2.length < 100) (hb : ∀ b ∈ l2, 0 < b ∧ b < 1000) (h : ∀ t ∈ l1, ∀ b ∈ l2, ∀ x y z, P (eQ (Rat.divInt t b)) (S.set n (pl x y z))) : Rok (m_l_ratio_3 [.ref n, .ref m1, .ref m2] S) P := by
  have hn := hp.lt
  unfold m_l_ratio_3
  simp [rok_def, h1, h2]
  refine next_then hp (by omega) (Nat.lt_of_lt_of_le (show (l1.length : Int).natAbs < 2 ^ 10 by simp; omega) (pow_le (by decide))) fun v x y z v0 v1 => ?_
  refine ixS_all (l := l1.map D.int) ?_ v0 (by simpa using v1) fun d hd => ?_
  · rw [lstOf_set_ne (Ne.symm hm1)]; exact h1
  obtain ⟨t, ht, rfl⟩ := List.mem_map.mp hd
  simp [lstOf_set_ne (Ne.symm hm2), h2]
  refine next_then inferInstance (by omega) (Nat.lt_of_lt_of_le (show (l2.length : Int).natAbs < 2 ^ 10 by simp; omega) (pow_le (by decide))) fun v x y z v0 v1 => ?_
  simp
  refine ⟨l2.map D.int, by rw [lstOf_set_ne (Ne.symm hm2)]; exact h2, ?_⟩
  refine ix_all v0 (by simpa using v1) fun d hd => ?_
  obtain ⟨b, hb', rfl⟩ := List.mem_map.mp hd
  have hb2 := hb b hb'
  rw [m_ratio_eq (by omega) (Nat.lt_of_lt_of_le (show b.natAbs < 2 ^ 10 by omega) (pow_le (by decide)))]
  simp [hn]
  exact h t ht b hb' _ _ _
/-- a share with a small top and bottom -/
def Shr (q : Rat) (A B : Int) : Prop := ∃ a b : Int, q = Rat.divInt a b ∧ 0 < a ∧ a ≤ A ∧ 0 < b ∧ b ≤ B
theorem Shr.pos {q : Rat} {A B : Int} (h : Shr q A B) : 0 < q := by
  obtain ⟨a, b, rfl, h1, _, h2, _⟩ := h
  exact divInt_pos h1 h2
theorem Shr.sz {q : Rat} {A B : Int} {k : Nat} (h : Shr q A B) (hA : A < 2 ^ k) (hB : B < 2 ^ k) : Sz q k := by
  obtain ⟨a, b, rfl, h1, h2, h3, h4⟩ := h
  have e : ((2 ^ k : Nat) : Int) = 2 ^ k := by push_cast; rfl
  refine sz_di (by omega) ?_ ?_
  · have : a < ((2 ^ k : Nat) : Int) := by rw [e]; omega
    omega
  · have : b < ((2 ^ k : Nat) : Int) := by rw [e]; omega
    omega
theorem Shr.piece {q : Rat} {A B v : Int} (h : Shr q A B) (v0 : 0 ≤ v) (v1 : v < 2) : Shr (q / ((2 + v : Int) : Rat)) A (B * 3) := by
  obtain ⟨a, b, rfl, h1, h2, h3, h4⟩ := h
  refine ⟨a, b * (2 + v), ?_, h1, h2, Int.mul_pos h3 (by omega), ?_⟩
  · rw [Rat.divInt_eq_div, Rat.divInt_eq_div, Rat.div_def, Rat.div_def, Rat.div_def, Rat.intCast_mul, Rat.inv_mul_rev, Rat.mul_assoc]
    congr 1
    exact Rat.mul_comm ..
  · have : b * (2 + v) ≤ b * 3 := Int.mul_le_mul_of_nonneg_left (by omega) (by omega)
    omega
theorem Shr.rest {q : Rat} {A B v : Int} (h : Shr q A B) (v0 : 0 ≤ v) (v1 : v < 2) : Shr (q - q / ((2 + v : Int) : Rat)) (A * 2) (B * 3) := by
  obtain ⟨a, b, rfl, h1, h2, h3, h4⟩ := h
  have hv : ((2 + v : Int) : Rat) ≠ 0 := by
    intro e
    have : (2 + v) = 0 := by exact_mod_cast e
    omega
  have hb : (b : Rat) ≠ 0 := by
    intro e
    have : b = 0 := by exact_mod_cast e
    omega
  refine ⟨a * (1 + v), b * (2 + v), ?_, Int.mul_pos h1 (by omega), ?_, Int.mul_pos h3 (by omega), ?_⟩
  · rw [Rat.divInt_eq_div, Rat.divInt_eq_div, Rat.intCast_mul, Rat.intCast_mul]
    have e1 : ((1 + v : Int) : Rat) = ((2 + v : Int) : Rat) - 1 := by
      push_cast
      grind
    rw [e1]
    generalize ((2 + v : Int) : Rat) = w at hv
    generalize (a : Rat) = x
    generalize (b : Rat) = y at hb
    grind
  · have : a * (1 + v) ≤ a * 2 := Int.mul_le_mul_of_nonneg_left (by omega) (by omega)
    omega
  · have : b * (2 + v) ≤ b * 3 := Int.mul_le_mul_of_nonneg_left (by omega) (by omega)
    omega
theorem ratio_of {S : Store} {g : Rat} {w : Int} {k : Nat} (hg : Sz g k) (hw : 0 < w) (hw2 : w < 1000) (hk : k ≤ 8000) : m_ratio [.int g.num, .int ((g.den : Int) * w)] S = .ok (eQ (g / (w : Rat))) S := by
  have h1 : (g.den : Int) * w ≠ 0 := Int.mul_ne_zero den_ne (by omega)
  have h2 : ((g.den : Int) * w).natAbs < 2 ^ 8999 := by
    rw [Int.natAbs_mul]
    exact Nat.lt_of_lt_of_le (mul_lt2 (i := k) (j := 10) (by have := hg.den; omega) (by omega)) (pow_le (by omega))
  rw [m_ratio_eq h1 h2]
  congr 2
  rw [Rat.divInt_eq_div, Rat.intCast_mul, Rat.div_def, Rat.inv_mul_rev, Rat.div_def]
  have : g = (g.num : Rat) * ((g.den : Int) : Rat)⁻¹ := by
    have := Rat.num_divInt_den g
    rw [Rat.divInt_eq_div, Rat.div_def] at this
    exact this.symm
  conv => rhs; rw [this]
  rw [Rat.mul_assoc]
  congr 1
  exact Rat.mul_comm ..
/-- a gap in pieces: by its share of the whole one -/
def PcS (g : Rat) (p : Pt) : Prop := ∃ q : Rat, p = .gap (q * g) ∧ 0 < q ∧ Sz q 4
theorem pieces_then {S : Store} {n : Nat} {g : Rat} {P : D → Store → Prop} (hp : Pool S n) (hg : 0 < g) (hz : Sz g 70) (h : ∀ (b : List Pt) (x y z : Int), (∀ p ∈ b, PcS g p) → b.length ≤ 3 → P (.ref S.length) (S.set n (pl x y z) ++ [.lst (b.map eP)])) : Rok (m_l_pieces [.ref n, eQ g] S) P := by
  have hn := hp.lt
  have hn' : ¬ S.length = n := by omega
  unfold m_l_pieces
  simp [rok_def, sok_for]
  refine next_then hp (by decide) (by decide) fun v x y z v0 v1 => ?_
  simp [sok_for]
  refine ⟨⟨by omega, by omega⟩, ?_⟩
  refine sok_forRun (fun i e S' => ∃ (b : List Pt) (q : Rat) (x y z : Int) (o4 o5 : Option D), S' = S.set n (pl x y z) ++ [.lst (b.map eP)] ∧ e = [some (.ref n), some (eQ (q * g)), some (.int (1 + v)), some (.ref S.length), o4, o5] ∧ b.length = i ∧ (∀ p ∈ b, PcS g p) ∧ Shr q (2 ^ i) (3 ^ i)) _ (fun _ _ _ _ => trivial) ?_ ?_ _ _ ⟨[], 1, x, y, z, none, none, by simp, by simp, rfl, by simp, 1, 1, by decide +kernel, by decide, by decide, by decide, by decide⟩
  · rintro i d e S' hi ⟨b, q, x, y, z, o4, o5, rfl, rfl, hb, hbs, hq⟩
    have hi2 : i < (1 + v - 1).toNat := by
      have := (List.getElem?_eq_some_iff.mp hi).1
      simpa using this
    have hqz : Sz q 4 := by
      have : i = 0 ∨ i = 1 := by omega
      rcases this with rfl | rfl <;> exact hq.sz (by decide) (by decide)
    have hgz : Sz (q * g) 74 := (inferInstance : Sz (q * g) (4 + 70))
    simp
    refine next_then inferInstance (by decide) (by decide) fun w x y z w0 w1 => ?_
    simp [hn]
    refine ⟨CM_r (by omega), ?_⟩
    rw [ratio_of hgz (by omega) (by omega) (by decide)]
    have hpc := hq.piece w0 w1
    have hrs := hq.rest w0 w1
    have hpz : Sz (q / ((2 + w : Int) : Rat)) 4 := by
      have : i = 0 ∨ i = 1 := by omega
      rcases this with rfl | rfl <;> exact hpc.sz (by decide) (by decide)
    have e1 : q * g / ((2 + w : Int) : Rat) = q / ((2 + w : Int) : Rat) * g := by
      rw [Rat.div_def, Rat.div_def, Rat.mul_assoc, Rat.mul_comm g, Rat.mul_assoc]
    rw [e1]
    generalize q / ((2 + w : Int) : Rat) = q' at hpc hrs hpz
    simp [hn]
    have e2 : q * g - q' * g = (q - q') * g := by grind
    rw [e2]
    refine ⟨by omega, b ++ [.gap (q' * g)], ⟨⟨x, y, z, rfl⟩, by simp⟩, q - q', rfl, by simp [hb], ?_, ?_⟩
    · intro p hp
      rcases List.mem_append.mp hp with hp | hp
      · exact hbs p hp
      · exact ⟨q', by simpa using hp, hpc.pos, hpz⟩
    · rw [Int.pow_succ, Int.pow_succ]
      exact hrs
  · rintro e S' ⟨b, q, x, y, z, o4, o5, rfl, rfl, hb, hbs, hq⟩
    have hb2 : b.length ≤ 2 := by rw [hb, rangeD_len]; omega
    have hqz : Sz q 4 := by
      rw [← hb] at hq
      have : b.length = 0 ∨ b.length = 1 ∨ b.length = 2 := by omega
      rcases this with e | e | e <;> rw [e] at hq <;> exact hq.sz (by decide) (by decide)
    simp [hn']
    refine ⟨by omega, ?_⟩
    rw [gc_poolN (k := S.length + 2) (l := (b ++ [Pt.gap (q * g)]).map eP) hn (by simp) (by simp) (by rw [List.getElem?_append_right (by simp)]; simp) un_bench, rok_ok]
    simp only [sb_ref]
    rw [if_neg (by omega)]
    refine h (b ++ [.gap (q * g)]) x y z (fun p hp => ?_) (by simp; omega)
    rcases List.mem_append.mp hp with hp | hp
    · exact hbs p hp
    · exact ⟨q, by simpa using hp, hq.pos, hqz⟩
theorem insert_then {S : Store} {n : Nat} {l : List D} {i : Int} {y : D} {P : D → Store → Prop} (hS : S[n]? = some (.lst l)) (hl : l.length < sizeLine) (i0 : 0 ≤ i) (i1 : i < 2 ^ 63) (h : P .non (S.set n (.lst (l.take i.toNat ++ [y] ++ l.drop i.toNat)))) : Rok (fInsert (.ref n) [.int i, y] S) P := by
  unfold fInsert
  dsimp only
  rw [hS]
  dsimp only
  rw [if_pos ⟨hl, i0, i1⟩, rok_ok]
  exact h
def Pt.isStop : Pt → Bool
  | .stop _ => true
  | _ => false
/-- stops put in -/
theorem stops2_then {S : Store} {n m : Nat} {b : List Pt} {c : Int} {P : D → Store → Prop} (hp : Pool S n) (hm : lstOf S m = some (b.map eP)) (hmn : m ≠ n) (hb : b.length ≤ 4) (c0 : 0 ≤ c) (c1 : c ≤ 4)
    (h : ∀ (b' : List Pt) (x y z : Int), (∀ p ∈ b', p ∈ b ∨ ∃ r, p = .stop r ∧ 0 < r ∧ Sz r 10) → b'.filter (fun p => !p.isStop) = b.filter (fun p => !p.isStop) → b'.length ≤ b.length + c.toNat → P (.ref S.length) (S.set n (pl x y z) ++ [.lst (b'.map eP)])) : Rok (m_l_stops_2 [.ref n, .ref m, .int c] S) P := by
  have hn := hp.lt
  have hn' : ¬ S.length = n := by omega
  unfold m_l_stops_2
  simp [rok_def, sok_for, hm]
  refine next_then inferInstance (by omega) (Nat.lt_of_lt_of_le (show (c + 1 : Int).natAbs < 2 ^ 10 by omega) (pow_le (by decide))) fun v x y z v0 v1 => ?_
  simp [sok_for, hn]
  refine ⟨⟨by omega, by omega⟩, ?_⟩
  refine sok_forRun (fun i e S' => ∃ (b' : List Pt) (x y z : Int) (C : Store) (o4 o5 : Option D), S' = S.set n (pl x y z) ++ .lst (b'.map eP) :: C ∧ e = [some (.ref n), some (.ref m), some (.int c), some (.ref S.length), o4, o5] ∧ b'.length = b.length + i ∧ (∀ p ∈ b', p ∈ b ∨ ∃ r, p = .stop r ∧ 0 < r ∧ Sz r 10) ∧ b'.filter (fun p => !p.isStop) = b.filter (fun p => !p.isStop)) _ (fun _ _ _ _ => trivial) ?_ ?_ _ _ ⟨b, x, y, z, [], none, none, by simp, by simp, rfl, fun p hp => .inl hp, rfl⟩
  · rintro i d e S' hi ⟨b', x, y, z, C, o4, o5, rfl, rfl, hb', hbs, hf⟩
    have hi2 : i < v.toNat := by
      have := (List.getElem?_eq_some_iff.mp hi).1
      simpa using this
    simp
    refine ratio3_then [1, 2, 3, 4, 5, 7, 12, 40, 1000] [1, 1, 2, 3] inferInstance (by simp) (by simp) (by simp; omega) (by simp; omega) (by decide) (by decide) (by decide) (by decide) (by decide) fun t ht w hw x y z => ?_
    have hr : 0 < Rat.divInt t w ∧ Sz (Rat.divInt t w) 10 := by
      have h1 : 0 < t ∧ t ≤ 1000 := by
        simp only [List.mem_cons, List.not_mem_nil, or_false] at ht
        omega
      have h2 : 0 < w ∧ w ≤ 3 := by
        simp only [List.mem_cons, List.not_mem_nil, or_false] at hw
        omega
      exact ⟨divInt_pos h1.1 h2.1, sz_di (by omega) (by omega) (by omega)⟩
    generalize Rat.divInt t w = r at hr
    simp [hn, hn']
    refine next_then inferInstance (by omega) (Nat.lt_of_lt_of_le (show (b'.length + 1 : Int).natAbs < 2 ^ 10 by omega) (pow_le (by decide))) fun u x y z u0 u1 => ?_
    simp [hn, hn']
    have e0 : (S.set n (pl x y z)).length = S.length := by simp
    generalize (C ++ ([Cell.lst [D.int 1, D.int 2, D.int 3, D.int 4, D.int 5, D.int 7, D.int 12, D.int 40, D.int 1000], Cell.lst [D.int 1, D.int 1, D.int 2, D.int 3]] : Store)) = C2
    refine insert_then (l := b'.map eP) (by rw [List.getElem?_append_right (by simp)]; simp) (by simp; omega) u0 (by omega) ?_
    refine ⟨b'.take u.toNat ++ [.stop r] ++ b'.drop u.toNat, x, y, z, C2, _, _, ?_, rfl, ?_, ?_, ?_⟩
    · rw [List.set_append_right _ _ (by simp), e0, Nat.sub_self, List.set_cons_zero]
      simp
    · simp; omega
    · intro p hp
      simp only [List.mem_append, List.mem_singleton] at hp
      rcases hp with (hp | hp) | hp
      · exact hbs p (List.mem_of_mem_take hp)
      · exact .inr ⟨r, hp, hr⟩
      · exact hbs p (List.mem_of_mem_drop hp)
    · rw [← hf]
      rw [List.filter_append, List.filter_append, show List.filter (fun p : Pt => !p.isStop) [Pt.stop r] = [] from rfl, List.append_nil, ← List.filter_append, List.take_append_drop]
  · rintro e S' ⟨b', x, y, z, C, o4, o5, rfl, rfl, hb', hbs, hf⟩
    have hbl : b'.length ≤ b.length + v.toNat := by rw [hb', rangeD_len]; omega
    simp
    rw [gc_poolN (k := S.length) (l := b'.map eP) hn (by simp) (by simp) (by rw [List.getElem?_append_right (by simp)]; simp) un_bench, rok_ok]
    simp only [sb_ref]
    rw [if_neg (by omega)]
    exact h b' x y z hbs hf (by omega)
end Rg
end
section
set_option exponentiation.threshold 10000
/-! RgHb: halls drawn. -/
namespace Rg
open PySem L2
/-- a part by the scale of its hall -/
def PtS (g : Rat) : Pt → Prop
  | .gap q => 0 ≤ q ∧ Sz (q / g) 4
  | .glass q => Sz (q * g) 4
  | .stop r => 0 < r ∧ Sz r 4000
structure HlS (near far : Rat) (b : List Pt) (g : Rat) : Prop where
  g0 : 0 < g
  gz : Sz g 70
  near : Sz (near * g) 4
  far : Sz (far * g) 4
  len : b.length ≤ 9
  nz : (b.filter fun p => !p.isStop).length ≤ 6
  part : ∀ p ∈ b, PtS g p
/-- a drawn hall -/
structure HlD (near far : Rat) (b : List Pt) (g : Rat) : Prop where
  toS : HlS near far b g
  l7 : b.length ≤ 7
  z4 : (b.filter fun p => !p.isStop).length ≤ 4
theorem hlD_mk {near far : Rat} {b : List Pt} {g : Rat} (g0 : 0 < g) (gz : Sz g 70) (hn : Sz (near * g) 4) (hf : Sz (far * g) 4) (h1 : b.length ≤ 7) (h2 : (b.filter fun p => !p.isStop).length ≤ 4) (hp : ∀ p ∈ b, PtS g p) : HlD near far b g :=
  ⟨⟨g0, gz, hn, hf, by omega, by omega, hp⟩, h1, h2⟩
theorem pcS_ptS {g : Rat} {p : Pt} (g0 : 0 < g) (h : PcS g p) : PtS g p := by
  obtain ⟨q, rfl, q0, hq⟩ := h
  have g1 : g ≠ 0 := by rintro rfl; exact absurd g0 (by decide +kernel)
  refine ⟨Rat.mul_nonneg (Rat.le_of_lt q0) (Rat.le_of_lt g0), ?_⟩
  have : q * g / g = q := by rw [Rat.div_def, Rat.mul_assoc, Rat.mul_inv_cancel _ g1, Rat.mul_one]
  rw [this]
  exact hq
/-- a mirror of a known hall -/
theorem mirror_of {S : Store} {g : Rat} {a w : Int} (g0 : 0 < g) (hg : Sz g 70) (ha : a.natAbs < 16) (hw : 0 < w) (hw2 : w < 16) {P : D → Store → Prop} (h : ∀ q, Sz (q * g) 4 → P (eQ q) S) : Rok (m_ratio [.int (a * (g.den : Int)), .int (w * g.num)] S) P := by
  have g1 : g ≠ 0 := by rintro rfl; exact absurd g0 (by decide +kernel)
  have h1 : w * g.num ≠ 0 := Int.mul_ne_zero (by omega) (num_ne g1)
  have h2 : (w * g.num).natAbs < 2 ^ 8999 := by
    rw [Int.natAbs_mul]
    exact Nat.lt_of_lt_of_le (mul_lt2 (i := 4) (j := 70) (by omega) hg.num) (pow_le (by omega))
  rw [m_ratio_eq h1 h2, rok_ok]
  refine h _ ?_
  have e : Rat.divInt (a * (g.den : Int)) (w * g.num) * g = Rat.divInt a w := by
    have e1 : g = (g.num : Rat) / ((g.den : Int) : Rat) := by
      have := Rat.num_divInt_den g
      rw [Rat.divInt_eq_div] at this
      exact this.symm
    have n1 : (g.num : Rat) ≠ 0 := by
      intro z
      have : g.num = 0 := by exact_mod_cast z
      exact num_ne g1 this
    have n2 : ((g.den : Int) : Rat) ≠ 0 := by
      intro z
      have : (g.den : Int) = 0 := by exact_mod_cast z
      exact den_ne this
    have n3 : (w : Rat) ≠ 0 := by
      intro z
      have : w = 0 := by exact_mod_cast z
      omega
    rw [Rat.divInt_eq_div, Rat.divInt_eq_div, Rat.intCast_mul, Rat.intCast_mul]
    conv => lhs; rhs; rw [e1]
    generalize (g.num : Rat) = x at n1
    generalize ((g.den : Int) : Rat) = y at n2
    generalize (w : Rat) = z at n3
    generalize (a : Rat) = u
    grind
  rw [e]
  exact sz_di (by omega) (by omega) (by omega)
noncomputable def knownTail : SS := (sSeq (sSet 6 (sCall m_l_ratio_3 (sCons (sVar 0) (sCons (sLst (sCons (sC (.int (1))) (sCons (sC (.int (2))) (sCons (sC (.int (3))) (sCons (sC (.int (5))) (sCons (sC (.int (1))) (sCons (sC (.int (2))) (sCons (sC (.int (3))) (sCons (sC (.int (5))) (sCons (s2 fPow (sC (.int (10))) (sC (.int (20)))) (sNil))))))))))) (sCons (sLst (sCons (sC (.int (1))) (sCons (sC (.int (1))) (sCons (sC (.int (2))) (sCons (sC (.int (3))) (sNil)))))) (sNil)))))) (sSeq (sSet 7 (sCall m_l_stops_2 (sCons (sVar 0) (sCons (sCall m_l_pieces (sCons (sVar 0) (sCons (sVar 6) (sNil)))) (sCons (sC (.int (4))) (sNil)))))) (sSeq (sSet 8 (sCall m_ratio (sCons (s2 fMul (sVar 2) (s2 fIx (sVar 6) (sC (.int (1))))) (sCons (s2 fMul (s2 fIx (sVar 4) (sC (.int (0)))) (s2 fIx (sVar 6) (sC (.int (0))))) (sNil))))) (sRet (sTup (sCons (sVar 8) (sCons (sVar 7) (sCons (sCall m_ratio (sCons (s2 fMul (sVar 3) (s2 fIx (sVar 6) (sC (.int (1))))) (sCons (s2 fMul (s2 fIx (sVar 4) (sC (.int (1)))) (s2 fIx (sVar 6) (sC (.int (0))))) (sNil)))) (sNil)))))))))
theorem known_tail {S C : Store} {n : Nat} {a c w : Int} {o1 o5 o6 o7 o8 : Option D} {d4 : D} {P : D → Store → Prop} {x y z : Int} (hp : Pool S n) (ha : a.natAbs < 16) (hc : c.natAbs < 16) (hw : d4 = .tup [.int w, .int w]) (w0 : 0 < w) (w1 : w < 16)
    (h : ∀ (near far g : Rat) (b : List Pt) (x y z : Int), HlD near far b g → P (.tup [eQ near, .ref S.length, eQ far]) (S.set n (pl x y z) ++ [.lst (b.map eP)])) :
    Sok (knownTail [some (.ref n), o1, some (.int a), some (.int c), some d4, o5, o6, o7, o8] (S.set n (pl x y z) ++ C)) { nx := fun x S1 => Rok (gc S D.non S1) P, rt := fun d S1 => Rok (gc S d S1) P } := by
  subst hw
  unfold knownTail
  have hn := hp.lt
  have hn' : ¬ S.length = n := by omega
  have hP : CPow 10 20 := CPow_s (by decide) (by decide) (by decide)
  simp [hP]
  refine ratio3_then [1, 2, 3, 5, 1, 2, 3, 5, 10 ^ 20] [1, 1, 2, 3] inferInstance (by simp) (by simp) (by simp; omega) (by simp; omega) (by decide) (by decide) (by decide) (by decide) (by decide) fun t ht v hv x y z => ?_
  have hr : 0 < Rat.divInt t v ∧ Sz (Rat.divInt t v) 70 := by
    have h1 : 0 < t ∧ t ≤ 10 ^ 20 := by
      simp only [List.mem_cons, List.not_mem_nil, or_false] at ht
      omega
    have h2 : 0 < v ∧ v ≤ 3 := by
      simp only [List.mem_cons, List.not_mem_nil, or_false] at hv
      omega
    exact ⟨divInt_pos h1.1 h2.1, sz_di (by omega) (by omega) (by omega)⟩
  generalize Rat.divInt t v = g at hr
  obtain ⟨g0, gz⟩ := hr
  simp [hn]
  refine pieces_then inferInstance g0 gz fun b x y z hbs hbl => ?_
  simp [hn]
  refine stops2_then (b := b) (c := 4) inferInstance (by simp) (by simp; omega) (by omega) (by decide) (by decide) fun b' x y z hb' hf hl => ?_
  simp [hn]
  have zw : ∀ u : Int, u.natAbs < 16 → CM u (g.den : Int) := fun u hu => CM_l (by omega)
  refine ⟨CM_l (by omega), CM_l (by omega), ?_⟩
  refine mirror_of g0 gz ha w0 w1 fun q hq => ?_
  simp [hn]
  refine ⟨CM_l (by omega), CM_l (by omega), ?_⟩
  refine mirror_of g0 gz hc w0 w1 fun q2 hq2 => ?_
  simp [hn]
  rw [gc_poolN (k := S.length + (C.length + 3)) (l := b'.map eP) hn (by simp) (by simp) (by rw [List.getElem?_append_right (by simp)]; simp) un_bench, rok_ok]
  simp only [sb_tup, sb_cons, sb_nil, sb_ref, eQ_sb]
  rw [if_neg (by omega)]
  refine h _ _ g b' x y z (hlD_mk g0 gz hq hq2 (by omega) ?_ fun p hp => ?_)
  · rw [hf]
    exact Nat.le_trans (List.length_filter_le ..) (by omega)
  · rcases hb' p hp with h1 | ⟨r, rfl, h2⟩
    · exact pcS_ptS g0 (hbs p h1)
    · exact ⟨h2.1, h2.2.mono (by decide)⟩
theorem known_then {S : Store} {n : Nat} {P : D → Store → Prop} (hp : Pool S n)
    (h : ∀ (near far g : Rat) (b : List Pt) (x y z : Int), HlD near far b g → P (.tup [eQ near, .ref S.length, eQ far]) (S.set n (pl x y z) ++ [.lst (b.map eP)])) : Rok (m_l_known_hall [.ref n] S) P := by
  have hn := hp.lt
  have hn' : ¬ S.length = n := by omega
  unfold m_l_known_hall
  rw [show (sSeq (sSet 6 (sCall m_l_ratio_3 (sCons (sVar 0) (sCons (sLst (sCons (sC (.int (1))) (sCons (sC (.int (2))) (sCons (sC (.int (3))) (sCons (sC (.int (5))) (sCons (sC (.int (1))) (sCons (sC (.int (2))) (sCons (sC (.int (3))) (sCons (sC (.int (5))) (sCons (s2 fPow (sC (.int (10))) (sC (.int (20)))) (sNil))))))))))) (sCons (sLst (sCons (sC (.int (1))) (sCons (sC (.int (1))) (sCons (sC (.int (2))) (sCons (sC (.int (3))) (sNil)))))) (sNil)))))) (sSeq (sSet 7 (sCall m_l_stops_2 (sCons (sVar 0) (sCons (sCall m_l_pieces (sCons (sVar 0) (sCons (sVar 6) (sNil)))) (sCons (sC (.int (4))) (sNil)))))) (sSeq (sSet 8 (sCall m_ratio (sCons (s2 fMul (sVar 2) (s2 fIx (sVar 6) (sC (.int (1))))) (sCons (s2 fMul (s2 fIx (sVar 4) (sC (.int (0)))) (s2 fIx (sVar 6) (sC (.int (0))))) (sNil))))) (sRet (sTup (sCons (sVar 8) (sCons (sVar 7) (sCons (sCall m_ratio (sCons (s2 fMul (sVar 3) (s2 fIx (sVar 6) (sC (.int (1))))) (sCons (s2 fMul (s2 fIx (sVar 4) (sC (.int (1)))) (s2 fIx (sVar 6) (sC (.int (0))))) (sNil)))) (sNil))))))))) = knownTail from rfl]
  simp [rok_def]
  refine next_then inferInstance (by omega) (by decide) fun v x y z v0 v1 => ?_
  simp [hn, hn']
  refine ix_all v0 (by simpa using v1) fun d hd => ?_
  obtain ⟨a, c, rfl, ha, hc⟩ : ∃ a c : Int, d = .tup [.int a, .int c] ∧ a.natAbs < 16 ∧ c.natAbs < 16 := by
    simp only [List.mem_cons, List.not_mem_nil, or_false] at hd
    rcases hd with rfl | rfl | rfl | rfl | rfl | rfl | rfl | rfl | rfl | rfl | rfl | rfl <;> exact ⟨_, _, rfl, by decide, by decide⟩
  simp [hn, hn']
  refine next_then inferInstance (by omega) (by decide) fun v x y z v0 v1 => ?_
  simp [hn, hn']
  have hS : ∀ (C : Store) x1 y1 z1, (S.set n (pl x1 y1 z1) ++ C).set n (pl x y z) = S.set n (pl x y z) ++ C := fun C x1 y1 z1 => by
    rw [List.set_append_left _ _ (by simpa using hn), List.set_set]
  refine ⟨fun _ => ?_, fun _ => ?_⟩
  · refine next_then inferInstance (by omega) (by decide) fun v x y z v0 v1 => ?_
    simp [hn, hn']
    refine ix_all v0 (by simpa using v1) fun d hd => ?_
    obtain ⟨a, c, rfl, ha, hc⟩ : ∃ a c : Int, d = .tup [.int a, .int c] ∧ a.natAbs < 16 ∧ c.natAbs < 16 := by
      simp only [List.mem_cons, List.not_mem_nil, or_false] at hd
      rcases hd with rfl | rfl | rfl | rfl | rfl | rfl | rfl | rfl | rfl | rfl | rfl | rfl <;> exact ⟨_, _, rfl, by decide, by decide⟩
    simp
    exact known_tail (w := 2) hp ha hc rfl (by decide) (by decide) h
  · exact known_tail (w := 1) hp ha hc rfl (by decide) (by decide) h
theorem one_S {q : Rat} (h : Sz q 4) : Sz (q * 1) 4 ∧ Sz (q / 1) 4 := by
  have h2 : q / 1 = q := by rw [Rat.div_def]; have : (1 : Rat)⁻¹ = 1 := by decide +kernel
                            rw [this, Rat.mul_one]
  rw [Rat.mul_one, h2]
  exact ⟨h, h⟩
def HInv (S : Store) (n : Nat) (w : D) (p : Rat) (i : Nat) (e : Env) (S' : Store) : Prop := ∃ (b : List Pt) (x y z : Int) (A B : Cell) (C : Store) (o4 : Option D), S' = S.set n (pl x y z) ++ A :: B :: .lst (b.map eP) :: C ∧ e = [some (.ref n), some w, some (eQ p), some (.ref (S.length + 2)), o4] ∧ b.length = i ∧ (∀ q ∈ b, PtS 1 q)
theorem hall_then {S : Store} {n : Nat} {P : D → Store → Prop} (hp : Pool S n)
    (h : ∀ (near far g : Rat) (b : List Pt) (x y z : Int), HlD near far b g → P (.tup [eQ near, .ref S.length, eQ far]) (S.set n (pl x y z) ++ [.lst (b.map eP)])) : Rok (m_l_hall [.ref n] S) P := by
  have hn := hp.lt
  have hn' : ¬ S.length = n := by omega
  have one1 : Sz (1 : Rat) 70 := (inferInstance : Sz (1 : Rat) 1).mono (by decide)
  have hdi : ∀ t v : Int, t.natAbs ≤ 5 → 0 < v → v ≤ 3 → Sz (Rat.divInt t v) 4 := fun t v h1 h2 h3 => sz_di (by omega) (by omega) (by omega)
  unfold m_l_hall
  simp [rok_def]
  refine next_then inferInstance (by omega) (by decide) fun v x y z v0 v1 => ?_
  simp [hn, hn']
  refine ⟨fun _ => ?_, fun _ => ?_⟩
  · refine known_then inferInstance fun near far g b x y z hh => ?_
    simp [hn, hn']
    rw [gc_poolN (k := S.length) (l := b.map eP) hn (by simp) (by simp) (by rw [List.getElem?_append_right (by simp)]; simp) un_bench, rok_ok]
    simp only [sb_tup, sb_cons, sb_nil, sb_ref, eQ_sb]
    rw [if_neg (by omega)]
    exact h near far g b x y z hh
  · refine ratio3_then [0, 1, -1, 2, 1, -3] [1, 2, 3] inferInstance (by simp) (by simp) (by simp; omega) (by simp; omega) (by decide) (by decide) (by decide) (by decide) (by decide) fun t ht w hw x y z => ?_
    have hz : Sz (Rat.divInt t w) 4 := by
      refine hdi _ _ ?_ ?_ ?_
      · simp only [List.mem_cons, List.not_mem_nil, or_false] at ht; omega
      · simp only [List.mem_cons, List.not_mem_nil, or_false] at hw; omega
      · simp only [List.mem_cons, List.not_mem_nil, or_false] at hw; omega
    generalize Rat.divInt t w = p at hz
    simp [hn, hn', sok_for]
    refine ⟨fun _ => ?_, fun _ => ?_⟩
    · refine stops2_then (b := []) (c := 3) inferInstance (by simp) (by simp; omega) (by simp) (by decide) (by decide) fun b' x y z hb' hf hl => ?_
      simp [hn, hn']
      rw [gc_poolN (k := S.length + 3) (l := b'.map eP) hn (by simp) (by simp) (by rw [List.getElem?_append_right (by simp)]; simp) un_bench, rok_ok]
      simp only [sb_tup, sb_cons, sb_nil, sb_ref, eQ_sb]
      rw [if_neg (by omega)]
      have hz2 : Sz (-p) 4 := sz_neg hz
      refine h _ _ 1 b' x y z (hlD_mk (by decide +kernel) one1 (one_S hz).1 (by rw [show (0 : Rat) - p = -p by grind]; exact (one_S hz2).1) (by simp at hl; omega) ?_ fun p hp => ?_)
      · rw [hf]; simp
      · rcases hb' p hp with h1 | ⟨r, rfl, h2⟩
        · cases h1
        · exact ⟨h2.1, h2.2.mono (by decide)⟩
    · refine next_then inferInstance (by omega) (by decide) fun v x y z v0 v1 => ?_
      simp [hn, hn', sok_for]
      refine ⟨⟨by omega, by omega⟩, ?_⟩
      refine sok_forRun (HInv S n _ p) _ (fun _ _ _ _ => trivial) ?_ ?_ _ _ ⟨[], x, y, z, _, _, [], none, rfl, rfl, rfl, by simp⟩
      · rintro i d e S' hi ⟨b, x, y, z, A, B, C, o4, rfl, rfl, hb, hbs⟩
        have hi2 : i < v.toNat := by
          have := (List.getElem?_eq_some_iff.mp hi).1
          simpa using this
        simp
        refine next_then inferInstance (by omega) (by decide) fun u x y z u0 u1 => ?_
        simp [hn, hn']
        have fin : ∀ (q : Pt), PtS 1 q → (∀ r ∈ b ++ [q], PtS 1 r) := fun q hq r hr => by
          rcases List.mem_append.mp hr with hr | hr
          · exact hbs r hr
          · rw [List.mem_singleton.mp hr]; exact hq
        refine ⟨fun _ => ?_, fun _ => ?_⟩
        · refine ratio3_then [0, 1, 2, 3, 1, 5] [1, 2, 3] inferInstance (by simp) (by simp) (by simp; omega) (by simp; omega) (by decide) (by decide) (by decide) (by decide) (by decide) fun t ht w hw x y z => ?_
          have hh : 0 ≤ Rat.divInt t w ∧ Sz (Rat.divInt t w) 4 := by
            simp only [List.mem_cons, List.not_mem_nil, or_false] at ht hw
            refine ⟨?_, hdi _ _ (by omega) (by omega) (by omega)⟩
            rw [Rat.divInt_nonneg_iff_of_pos_right (by omega)]
            omega
          generalize Rat.divInt t w = q at hh
          simp [hn, hn']
          exact ⟨by omega, b ++ [.gap q], x, y, z, A, B, _, _, by simp; rfl, rfl, by simp [hb], fin (.gap q) ⟨hh.1, (one_S hh.2).2⟩⟩
        · refine ratio3_then [0, 1, -1, 2, -2, 3] [1, 2, 3] inferInstance (by simp) (by simp) (by simp; omega) (by simp; omega) (by decide) (by decide) (by decide) (by decide) (by decide) fun t ht w hw x y z => ?_
          have hh : Sz (Rat.divInt t w) 4 := by
            simp only [List.mem_cons, List.not_mem_nil, or_false] at ht hw
            exact hdi _ _ (by omega) (by omega) (by omega)
          generalize Rat.divInt t w = q at hh
          simp [hn, hn']
          exact ⟨by omega, b ++ [.glass q], x, y, z, A, B, _, _, by simp; rfl, rfl, by simp [hb], fin (.glass q) (one_S hh).1⟩
      · rintro e S' ⟨b, x, y, z, A, B, C, o4, rfl, rfl, hb, hbs⟩
        have hbl : b.length ≤ 4 := by rw [hb, rangeD_len]; omega
        simp [hn, hn']
        refine stops2_then (b := b) (c := 3) inferInstance (by simp) (by omega) hbl (by decide) (by decide) fun b' x y z hb' hf hl => ?_
        simp [hn, hn']
        refine ratio3_then [0, 1, -1, 2, -2, 3] [1, 2] inferInstance (by simp) (by simp) (by simp; omega) (by simp; omega) (by decide) (by decide) (by decide) (by decide) (by decide) fun t ht w hw x y z => ?_
        have hh : Sz (Rat.divInt t w) 4 := by
          simp only [List.mem_cons, List.not_mem_nil, or_false] at ht hw
          exact hdi _ _ (by omega) (by omega) (by omega)
        generalize Rat.divInt t w = q at hh
        simp [hn, hn']
        rw [gc_poolN (k := S.length + (C.length + 1 + 1 + 1)) (l := b'.map eP) hn (by simp) (by simp) (by rw [List.getElem?_append_right (by simp)]; simp) un_bench, rok_ok]
        simp only [sb_tup, sb_cons, sb_nil, sb_ref, eQ_sb]
        rw [if_neg (by omega)]
        refine h _ _ 1 b' x y z (hlD_mk (by decide +kernel) one1 (one_S hz).1 (one_S hh).1 (by simp at hl; omega) ?_ fun p hp => ?_)
        · rw [hf]; exact Nat.le_trans (List.length_filter_le ..) (by omega)
        · rcases hb' p hp with h1 | ⟨r, rfl, h2⟩
          · exact hbs p h1
          · exact ⟨h2.1, h2.2.mono (by decide)⟩
end Rg
end
section
set_option exponentiation.threshold 10000
/-! RgX: images. -/
namespace Rg
open PySem L2
def eO : Option Rat → D
  | none => .non
  | some q => eQ q
def imageOf (t : T4) : Option Rat → Option Rat × Option Rat
  | none => if t.c = 0 then (none, none) else (some (-t.a / t.c), none)
  | some x => if t.c * x + t.d = 0 then (none, none) else (some (-(t.a * x + t.b) / (t.c * x + t.d)), some (1 / (t.c * x + t.d)))
def eOO (p : Option Rat × Option Rat) : D := .tup [eO p.1, eO p.2]
section
variable {S : Store} {t : T4} {i j k : Nat} {x : Rat}
theorem seen_eq [SzT t i] [Sz x j] (h : i + j + 1 + i ≤ 4000) : m_seen_from [eT t, eQ x] S = .ok (eR (t.led ⟨x, 1⟩)) S := by
  refine Rok.eq ?_
  unfold m_seen_from
  have a1 : i + j ≤ 8998 := by omega
  have a2 : i + j + i ≤ 8998 := by omega
  have e : (⟨t.a * x + t.b, t.c * x + t.d⟩ : Ry) = t.led ⟨x, 1⟩ := by apply Ry.ext' <;> (simp only [T4.led]; grind)
  simp [rok_def, a1, a2, e]
theorem image_none [SzT t i] (h : i ≤ 4000) : m_image [eT t, .non] S = .ok (eOO (imageOf t none)) S := by
  refine Rok.eq ?_
  unfold m_image
  have a1 : 1 + i ≤ 8998 := by omega
  have a2 : 1 + i + 1 + i ≤ 8998 := by omega
  by_cases hc : t.c = 0
  · simp [rok_def, hc, imageOf, eOO, eO]
  · simp [rok_def, hc, a1]
    rw [m_over_eq hc a2]
    have : (0 : Rat) - t.a = -t.a := by grind
    simp [imageOf, hc, this, eOO, eO]
theorem image_some [SzT t i] [Sz x j] (h : i + j + 2 ≤ 2000) : m_image [eT t, eQ x] S = .ok (eOO (imageOf t (some x))) S := by
  refine Rok.eq ?_
  unfold m_image
  have a0 : i + j + 1 + i ≤ 4000 := by omega
  have a1 : 1 + (i + (j + 1) + 1) ≤ 8998 := by omega
  have a2 : 1 + (i + (j + 1) + 1) + 1 + (i + (j + 1) + 1) ≤ 8998 := by omega
  have e0 : (t.led ⟨x, 1⟩).y = t.a * x + t.b := by simp only [T4.led]; grind
  have e1 : (t.led ⟨x, 1⟩).u = t.c * x + t.d := by simp only [T4.led]; grind
  by_cases hc : t.c * x + t.d = 0
  · simp [rok_def, seen_eq a0, e1, hc, imageOf, eOO, eO]
  · have hc' : (t.led ⟨x, 1⟩).u ≠ 0 := by rw [e1]; exact hc
    simp [rok_def, seen_eq a0, hc', a1]
    rw [m_over_eq hc' a2]
    simp
    rw [m_over_eq hc' (by omega)]
    have : (0 : Rat) - (t.led ⟨x, 1⟩).y = -(t.a * x + t.b) := by rw [e0]; grind
    simp [imageOf, hc, this, e1, eOO, eO]
theorem same_O {a : Option Rat} : m_l_same_2 (k + 2) [eO a, eO a] S = .ok (.bl true) S := by
  cases a with
  | none => exact same_non
  | some q => unfold eO; rw [same_Q]; simp
theorem same_OO {p : Option Rat × Option Rat} : m_l_same_2 (k + 3) [eOO p, eOO p] S = .ok (.bl true) S := by
  refine Rok.eq ?_
  rw [m_l_same_2_succ]
  unfold eOO
  simp [rok_def, rok_comp, Ty.isa, same_O]
/-! ### the laws' own image -/
def meetOf (r s : Ry) : Option Ry := if r.u - s.u = 0 then none else some ⟨(s.y - r.y) / (r.u - s.u), r.y + (s.y - r.y) / (r.u - s.u) * r.u⟩
theorem meeting_eq {r s : Ry} [SzR r i] [SzR s j] (h : i ≤ 1300) (h' : j ≤ 1300) : m_l_meeting [eR r, eR s] S = .ok (match meetOf r s with
    | none => .non
    | some m => eR m) S := by
  refine Rok.eq ?_
  unfold m_l_meeting
  have a1 : i + j ≤ 8998 := by omega
  have a2 : j + i ≤ 8998 := by omega
  have a3 : j + i + 1 + (i + j + 1) ≤ 8998 := by omega
  have a4 : j + i + 1 + (i + j + 1) + i ≤ 8998 := by omega
  have a5 : i + (j + i + 1 + (i + j + 1) + i) ≤ 8998 := by omega
  by_cases hc : r.u - s.u = 0
  · simp [rok_def, a1, hc, meetOf, Rat.num_eq_zero]
  · simp [rok_def, a1, a2, hc, Rat.num_eq_zero]
    rw [m_l_over_2_eq hc a3]
    simp [a4, a5, meetOf, hc]
theorem meet_none {t : T4} (hd : t.det = 1) : meetOf (t.led ⟨0, 2⟩) (t.led ⟨1, 2⟩) = if t.c = 0 then none else some ⟨-t.a / t.c, (t.led ⟨0, 2⟩).y + -t.a / t.c * (t.led ⟨0, 2⟩).u⟩ := by
  have e : (t.led ⟨0, 2⟩).u - (t.led ⟨1, 2⟩).u = -t.c := by simp only [T4.led]; grind
  have e2 : (t.led ⟨1, 2⟩).y - (t.led ⟨0, 2⟩).y = t.a := by simp only [T4.led]; grind
  unfold meetOf
  rw [e, e2]
  by_cases h : t.c = 0
  · rw [if_pos h, if_pos (by grind)]
  · have e3 : t.a / -t.c = -t.a / t.c := by grind
    rw [if_neg h, if_neg (by grind), e3]
theorem meet_some {t : T4} {x h : Rat} (hd : t.det = 1) : meetOf (t.led ⟨h + x * 0, 0⟩) (t.led ⟨h + x * 1, 1⟩) = if t.c * x + t.d = 0 then none else some ⟨-(t.a * x + t.b) / (t.c * x + t.d), h / (t.c * x + t.d)⟩ := by
  have e : (t.led ⟨h + x * 0, 0⟩).u - (t.led ⟨h + x * 1, 1⟩).u = -(t.c * x + t.d) := by simp only [T4.led]; grind
  have e2 : (t.led ⟨h + x * 1, 1⟩).y - (t.led ⟨h + x * 0, 0⟩).y = t.a * x + t.b := by simp only [T4.led]; grind
  unfold meetOf
  rw [e, e2]
  by_cases hc : t.c * x + t.d = 0
  · rw [if_pos hc, if_pos (by grind)]
  · have e3 : (t.a * x + t.b) / -(t.c * x + t.d) = -(t.a * x + t.b) / (t.c * x + t.d) := by grind
    rw [if_neg hc, if_neg (by grind), e3]
    congr 1
    apply Ry.ext'
    · rfl
    · simp only [T4.led]
      unfold T4.det at hd
      grind
theorem due_none {b : List Pt} {n : Nat} (hb : Bk b 40) (hl : lstOf S n = some (b.map eP)) {h : Rat} : m_l_due_2 [.ref n, .non, eQ h] S = .ok (eOO (imageOf (tabOf b) none)) S := by
  refine Rok.eq ?_
  unfold m_l_due_2
  have ht := tabOf_sz hb (by decide)
  have hn := lstOf_lt hl
  have hn' : ¬ n = S.length := by omega
  simp [rok_def, sok_for]
  rw [out_eq hb (by decide) (inferInstance : SzR ⟨0, 2⟩ (1 + 2)) (by decide) (by simp [hn, hl])]
  simp
  rw [out_eq hb (by decide) (inferInstance : SzR ⟨1, 2⟩ (1 + 2)) (by decide) (by simp [hn, hl])]
  simp
  rw [meeting_eq (by decide) (by decide), meet_none (tabOf_det b)]
  by_cases hc : (tabOf b).c = 0
  · simp [hc, imageOf, eOO, eO]
  · simp [hc, imageOf, eOO, eO]
theorem due_some {b : List Pt} {n : Nat} (hb : Bk b 40) (hl : lstOf S n = some (b.map eP)) {h x : Rat} [Sz x 40] [Sz h 10] (hh : h ≠ 0) : m_l_due_2 [.ref n, eQ x, eQ h] S = .ok (eOO (imageOf (tabOf b) (some x))) S := by
  refine Rok.eq ?_
  unfold m_l_due_2
  have ht := tabOf_sz hb (by decide)
  have hn := lstOf_lt hl
  have hn' : ¬ n = S.length := by omega
  have s0 : SzR ⟨h + x * 0, 0⟩ 100 := SzR.mono (inferInstance : SzR ⟨h + x * 0, 0⟩ _) (by decide)
  have s1 : SzR ⟨h + x * 1, 1⟩ 100 := SzR.mono (inferInstance : SzR ⟨h + x * 1, 1⟩ _) (by decide)
  simp only [rok_def, sok_seq, sok_set, rok_lst, rok_nil]
  simp [sok_for, -Rat.mul_zero, -Rat.mul_one]
  rw [out_eq hb (by decide) s0 (by decide) (by simp [hn, hl])]
  simp [-Rat.mul_zero, -Rat.mul_one]
  rw [out_eq hb (by decide) s1 (by decide) (by simp [hn, hl])]
  simp [-Rat.mul_zero, -Rat.mul_one]
  rw [meeting_eq (by decide) (by decide), meet_some (tabOf_det b)]
  by_cases hc : (tabOf b).c * x + (tabOf b).d = 0
  · simp [hc, imageOf, eOO, eO]
  · have z1 : Sz ((tabOf b).c * x + (tabOf b).d) 2300 := Sz.mono (inferInstance : Sz ((tabOf b).c * x + (tabOf b).d) _) (by decide)
    have e : h / ((tabOf b).c * x + (tabOf b).d) / h = 1 / ((tabOf b).c * x + (tabOf b).d) := by grind
    simp [hc]
    rw [m_l_over_2_eq hh (by decide)]
    simp [e, hc, imageOf, eOO, eO]
end
end Rg
end
section
set_option exponentiation.threshold 10000
/-! RgY: ways. -/
namespace Rg
open PySem L2
def wayOf (b : List Pt) (r : Ry) : List Ry := (List.range (b.length + 1)).map fun i => (tabOf (b.take i)).led r
def wayTo (b : List Pt) (r : Ry) (i : Nat) : List Ry := (List.range (i + 1)).map fun j => (tabOf (b.take j)).led r
theorem wayTo_succ {b : List Pt} {r : Ry} {i : Nat} : wayTo b r (i + 1) = wayTo b r i ++ [(tabOf (b.take (i + 1))).led r] := by
  unfold wayTo
  rw [List.range_succ, List.map_append]
  rfl
theorem wayTo_zero {b : List Pt} {r : Ry} : wayTo b r 0 = [r] := by
  unfold wayTo
  simp [tabOf, T4.one_led]
theorem wayTo_len {b : List Pt} {r : Ry} {i : Nat} : (wayTo b r i).length = i + 1 := by unfold wayTo; simp
theorem wayTo_last {b : List Pt} {r : Ry} {i : Nat} : ∃ l, wayTo b r i = l ++ [(tabOf (b.take i)).led r] := by
  unfold wayTo
  rw [List.range_succ, List.map_append]
  exact ⟨_, rfl⟩
@[simp] theorem atI_last {α : Type} {l : List α} {x : α} : atI (l ++ [x]) (-1) = some x := by
  have h : atI (l ++ [x]) (-1) = (l ++ [x])[l.length]? := by
    unfold atI
    have : ixN (l ++ [x]).length (-1) = some l.length := by
      unfold ixN
      simp
      omega
    rw [this]
    rfl
  rw [h]
  simp
section
variable {S : Store} {b : List Pt} {r : Ry} {k m n : Nat}
theorem sz_at (hb : ∀ p ∈ b, Sz p.num k) (hl : b.length ≤ 13) (hk : k ≤ 80) (hr : SzR r m) (i : Nat) : SzR ((tabOf (b.take i)).led r) (1101 + m) := by
  have s1 := take_sz (i := i) hb hl hk
  exact SzR.mono (inferInstance : SzR ((tabOf (b.take i)).led r) (1100 + m + 1)) (by omega)
theorem way_step {p : Pt} (hb : Bk b k) (hk : k ≤ 80) (hr : SzR r m) (hm : m ≤ 1000) {i : Nat} (hp : b[i]? = some p) : m_led [eT p.tab, eR ((tabOf (b.take i)).led r)] S = .ok (eR ((tabOf (b.take (i + 1))).led r)) S := by
  have hmem := List.mem_of_getElem? hp
  have s2 := sz_at hb.sz hb.len hk hr i
  have s3 := tab_sz (hb.sz p hmem)
  have a1 : k + (1101 + m) ≤ 4000 := by omega
  rw [m_led_eq a1, led_take hp]
theorem way_list (hb : Bk b k) (hk : k ≤ 80) (hr : SzR r m) (hm : m ≤ 1000) (hl : lstOf S n = some (b.map eP)) : m_way [.ref n, eR r] S = .ok (.ref S.length) (S ++ [.lst ((wayOf b r).map eR)]) := by
  refine Rok.eq ?_
  unfold m_way
  have hn := lstOf_lt hl
  simp [rok_def, sok_for, hn, hl]
  refine sok_forRun (fun i e S' => S' = S ++ [.lst ((wayTo b r i).map eR)] ∧ ∃ o, e = [some (.ref n), some (eR r), some (.ref S.length), o]) _ (fun i e S' h => ?_) ?_ ?_ _ _ ⟨by rw [wayTo_zero]; rfl, none, rfl⟩
  · obtain ⟨rfl, _⟩ := h
    simp [hn, hl]
  · rintro i d e S' hi ⟨rfl, o, rfl⟩
    rw [List.getElem?_map] at hi
    obtain ⟨p, hp, rfl⟩ := Option.map_eq_some_iff.mp hi
    have hmem := List.mem_of_getElem? hp
    have hi2 := (List.getElem?_eq_some_iff.mp hp).1
    have hz := hb.len
    obtain ⟨l, hlast⟩ := wayTo_last (b := b) (r := r) (i := i)
    have hlen : l.length = i := by
      have := congrArg List.length hlast
      rw [wayTo_len] at this
      simp at this
      omega
    simp [hn, hl, part_table_eq (hb.sz p hmem) (by omega), hlast, way_step hb hk hr hm hp]
    refine ⟨by omega, ?_⟩
    rw [wayTo_succ, hlast]
    simp
  · rintro e S' ⟨rfl, o, rfl⟩
    simp
    rfl
theorem way_tup (hb : Bk b k) (hk : k ≤ 80) (hr : SzR r m) (hm : m ≤ 1000) : m_way [.tup (b.map eP), eR r] S = .ok (.ref S.length) (S ++ [.lst ((wayOf b r).map eR)]) := by
  refine Rok.eq ?_
  unfold m_way
  simp [rok_def, sok_for]
  refine sok_forRun (fun i e S' => S' = S ++ [.lst ((wayTo b r i).map eR)] ∧ ∃ o, e = [some (.tup (b.map eP)), some (eR r), some (.ref S.length), o]) _ (fun i e S' h => trivial) ?_ ?_ _ _ ⟨by rw [wayTo_zero]; rfl, none, rfl⟩
  · rintro i d e S' hi ⟨rfl, o, rfl⟩
    rw [List.getElem?_map] at hi
    obtain ⟨p, hp, rfl⟩ := Option.map_eq_some_iff.mp hi
    have hmem := List.mem_of_getElem? hp
    have hi2 := (List.getElem?_eq_some_iff.mp hp).1
    have hz := hb.len
    obtain ⟨l, hlast⟩ := wayTo_last (b := b) (r := r) (i := i)
    have hlen : l.length = i := by
      have := congrArg List.length hlast
      rw [wayTo_len] at this
      simp at this
      omega
    simp [part_table_eq (hb.sz p hmem) (by omega), hlast, way_step hb hk hr hm hp]
    refine ⟨by omega, ?_⟩
    rw [wayTo_succ, hlast]
    simp
  · rintro e S' ⟨rfl, o, rfl⟩
    simp
    rfl
theorem wayOf_len : (wayOf b r).length = b.length + 1 := by unfold wayOf; simp
@[simp] theorem l_cross_eq {s : Ry} {i j : Nat} [SzR r i] [SzR s j] (h : i + j ≤ 4000) : m_l_cross [eR r, eR s] S = .ok (eQ (r.cross s)) S := by
  refine Rok.eq ?_
  unfold m_l_cross
  have a1 : i + j ≤ 8998 := by omega
  have a3 : i + j + (i + j) ≤ 8998 := by omega
  simp [rok_def, a1, a3]
  rfl
end
end Rg
end
section
set_option exponentiation.threshold 10000
/-! RgYb: where a ray is stopped. -/
namespace Rg
open PySem L2
def hit (b : List Pt) (r : Ry) (i : Nat) : Bool := match b[i]? with
  | some (.stop q) => decide (q < ((tabOf (b.take i)).led r).y.abs)
  | _ => false
def stopTo (b : List Pt) (r : Ry) (i : Nat) : Option Nat := (List.range i).find? (hit b r)
theorem stopTo_succ {b : List Pt} {r : Ry} {i : Nat} : stopTo b r (i + 1) = (stopTo b r i).or (if hit b r i then some i else none) := by
  unfold stopTo
  rw [List.range_succ, List.find?_append]
  congr 1
  rw [List.find?_cons]
  cases hit b r i <;> rfl
def eN : Option Nat → D
  | none => .non
  | some k => .int (k : Nat)
theorem same_N {S : Store} {k : Nat} {a : Option Nat} : m_l_same_2 (k + 1) [eN a, eN a] S = .ok (.bl true) S := by
  cases a with
  | none => exact same_non
  | some q => unfold eN; rw [same_int]; simp
theorem abs_lt {p q : Rat} (hp : 0 ≤ p) : (p < q.abs) ↔ (p < q ∨ p < -q) := by
  unfold Rat.abs
  split
  · constructor
    · exact fun h => .inl h
    · rintro (h | h)
      · exact h
      · grind
  · constructor
    · exact fun h => .inr h
    · rintro (h | h)
      · grind
      · exact h
theorem beyond_eq {S : Store} {p q : Rat} {i j : Nat} [Sz p i] [Sz q j] (hq : 0 ≤ q) (h : i + j + 1 ≤ 8998) : m_is_beyond [eQ p, eQ q] S = .ok (.bl (decide (q < p.abs))) S := by
  refine Rok.eq ?_
  unfold m_is_beyond
  have a1 : j + i ≤ 999998 := by omega
  have a2 : 1 + i ≤ 8998 := by omega
  have a3 : j + (1 + i + 1) ≤ 999998 := by omega
  have e : (0 : Rat) - p = -p := by grind
  have z : Sz (-p) i := inferInstance
  have a4 : j + i ≤ 999998 := by omega
  simp [rok_def, a1, a2, e]
  constructor
  · intro h1
    rw [abs_lt hq]
    simp [h1]
  · intro h1
    rw [abs_lt hq]
    constructor
    · exact fun h => .inr h
    · rintro (h | h)
      · exact absurd h h1
      · exact h
/-- the places of a way but the last -/
theorem way_front {b : List Pt} {r : Ry} : cutL ((wayOf b r).map eR) none (some (-1)) = (List.range b.length).map fun i => eR ((tabOf (b.take i)).led r) := by
  unfold cutL
  rw [List.length_map, wayOf_len]
  have h1 : HT.sIx (b.length + 1) 0 none = 0 := rfl
  have h2 : HT.sIx (b.length + 1) (b.length + 1) (some (-1)) = b.length := by
    show (if (-1 : Int) < 0 then ((-1 : Int) + ((b.length + 1 : Nat) : Int)).toNat else min (-1 : Int).toNat (b.length + 1)) = b.length
    rw [if_pos (by decide)]
    omega
  rw [h1, h2, List.drop_zero, Nat.sub_zero]
  unfold wayOf
  rw [List.map_map, List.range_succ, List.map_append, List.take_left' (by simp)]
  rfl
theorem enum_get {l : List D} {i : Nat} {d : D} (h : (enumD l)[i]? = some d) : ∃ x, l[i]? = some x ∧ d = .tup [.int (i : Nat), x] := by
  unfold enumD at h
  rw [List.getElem?_map] at h
  obtain ⟨j, hj, rfl⟩ := Option.map_eq_some_iff.mp h
  have h1 := (List.getElem?_eq_some_iff.mp hj).1
  rw [List.length_range] at h1
  rw [List.getElem?_range h1] at hj
  cases hj
  refine ⟨l[i], List.getElem?_eq_getElem h1, ?_⟩
  rw [List.getD_eq_getElem?_getD, List.getElem?_eq_getElem h1]
  rfl
@[simp] theorem enum_len {l : List D} : (enumD l).length = l.length := by unfold enumD; simp
@[simp] theorem rok_enum {n : Nat} {S : Store} {P : Wk → Store → Prop} : Rok (fEnum [.ref n] S) P ↔ ∃ l, lstOf S n = some l ∧ P ⟨enumD l, fun S => lstOf S n = some l⟩ S := by
  unfold fEnum
  cases h : lstOf S n with
  | none => simp [h]
  | some l => simp [h]
@[simp] theorem atI_natm {l : List Pt} {i : Nat} {p : Pt} (h : l[i]? = some p) : atI (l.map eP) (i : Nat) = some (eP p) := atI_nat (by rw [List.getElem?_map, h]; rfl)
theorem word_stop {p : Pt} (h : p.word = "stop") : ∃ q, p = .stop q := by
  cases p with
  | gap g => simp [Pt.word] at h
  | glass g => simp [Pt.word] at h
  | stop q => exact ⟨q, rfl⟩
theorem hit_not {b : List Pt} {r : Ry} {i : Nat} {p : Pt} (h : b[i]? = some p) (hw : ¬ p.word = "stop") : hit b r i = false := by
  unfold hit
  rw [h]
  cases p with
  | gap g => rfl
  | glass g => rfl
  | stop q => exact absurd rfl hw
theorem hit_stop {b : List Pt} {r : Ry} {i : Nat} {q : Rat} (h : b[i]? = some (.stop q)) : hit b r i = decide (q < ((tabOf (b.take i)).led r).y.abs) := by
  unfold hit
  rw [h]
theorem find_step {b : List Pt} {r : Ry} {i : Nat} (hi : i < b.length) (hn : stopTo b r i = none) (h : hit b r i = true) : stopTo b r b.length = some i := by
  have key : ∀ j, i < j → stopTo b r j = some i := by
    intro j
    induction j with
    | zero => intro h; omega
    | succ j ih =>
      intro hj
      rw [stopTo_succ]
      rcases Nat.lt_or_ge i j with q | q
      · rw [ih q]; rfl
      · have : j = i := by omega
        subst this
        rw [hn, if_pos h]; rfl
  exact key _ hi
section
variable {S : Store} {b : List Pt} {r : Ry} {k m n : Nat}
theorem stopped_list (hb : Bk b k) (hk : k ≤ 80) (hr : SzR r m) (hm : m ≤ 1000) (hl : lstOf S n = some (b.map eP)) : m_stopped_by [.ref n, eR r] S = .ok (eN (stopTo b r b.length)) S := by
  refine Rok.eq ?_
  unfold m_stopped_by
  have hn := lstOf_lt hl
  simp [rok_def, sok_for]
  rw [way_list hb hk hr hm hl]
  simp [way_front]
  refine sok_forRun (fun i e S' => S' = S ++ [.lst ((wayOf b r).map eR), .lst ((List.range b.length).map fun i => eR ((tabOf (b.take i)).led r))] ∧ stopTo b r i = none ∧ ∃ o2 o3, e = [some (.ref n), some (eR r), o2, o3]) _ (fun i e S' h => ?_) ?_ ?_ _ _ ⟨rfl, rfl, none, none, rfl⟩
  · obtain ⟨rfl, _⟩ := h
    simp
  · rintro i d e S' hi ⟨rfl, hnone, o2, o3, rfl⟩
    obtain ⟨x, hx, rfl⟩ := enum_get hi
    rw [List.getElem?_map] at hx
    obtain ⟨j, hj, rfl⟩ := Option.map_eq_some_iff.mp hx
    have hi2 : i < b.length := by
      have := (List.getElem?_eq_some_iff.mp hj).1
      simpa using this
    rw [List.getElem?_range hi2] at hj
    cases hj
    have hp : b[i]? = some b[i] := List.getElem?_eq_getElem hi2
    generalize b[i] = p at hp
    have hmem := List.mem_of_getElem? hp
    have s2 := sz_at hb.sz hb.len hk hr i
    by_cases hw : p.word = "stop"
    · obtain ⟨q, rfl⟩ := word_stop hw
      have hz : Sz q k := hb.sz _ hmem
      have hpos : (0 : Rat) < q := hb.ok _ hmem
      simp [hn, hl, atI_natm hp, Pt.word, Pt.num]
      rw [beyond_eq (Rat.le_of_lt hpos) (by omega)]
      simp
      constructor
      · intro h
        have hh : hit b r i = true := by rw [hit_stop hp]; simpa using h
        rw [find_step hi2 hnone hh]
        rfl
      · intro h
        rw [stopTo_succ, hnone, if_neg (by rw [hit_stop hp]; simpa using h)]
        rfl
    · simp [hn, hl, atI_natm hp, hw, word_ok]
      rw [stopTo_succ, hnone, hit_not hp hw]
      rfl
  · rintro e S' ⟨rfl, hnone, o2, o3, rfl⟩
    simp at hnone
    simp [hnone, eN]
theorem stopped_tup (hb : Bk b k) (hk : k ≤ 80) (hr : SzR r m) (hm : m ≤ 1000) : m_stopped_by [.tup (b.map eP), eR r] S = .ok (eN (stopTo b r b.length)) S := by
  refine Rok.eq ?_
  unfold m_stopped_by
  simp [rok_def, sok_for]
  rw [way_tup hb hk hr hm]
  simp [way_front]
  refine sok_forRun (fun i e S' => S' = S ++ [.lst ((wayOf b r).map eR), .lst ((List.range b.length).map fun i => eR ((tabOf (b.take i)).led r))] ∧ stopTo b r i = none ∧ ∃ o2 o3, e = [some (.tup (b.map eP)), some (eR r), o2, o3]) _ (fun i e S' h => ?_) ?_ ?_ _ _ ⟨rfl, rfl, none, none, rfl⟩
  · obtain ⟨rfl, _⟩ := h
    simp
  · rintro i d e S' hi ⟨rfl, hnone, o2, o3, rfl⟩
    obtain ⟨x, hx, rfl⟩ := enum_get hi
    rw [List.getElem?_map] at hx
    obtain ⟨j, hj, rfl⟩ := Option.map_eq_some_iff.mp hx
    have hi2 : i < b.length := by
      have := (List.getElem?_eq_some_iff.mp hj).1
      simpa using this
    rw [List.getElem?_range hi2] at hj
    cases hj
    have hp : b[i]? = some b[i] := List.getElem?_eq_getElem hi2
    generalize b[i] = p at hp
    have hmem := List.mem_of_getElem? hp
    have s2 := sz_at hb.sz hb.len hk hr i
    by_cases hw : p.word = "stop"
    · obtain ⟨q, rfl⟩ := word_stop hw
      have hz : Sz q k := hb.sz _ hmem
      have hpos : (0 : Rat) < q := hb.ok _ hmem
      simp [atI_natm hp, Pt.word, Pt.num]
      rw [beyond_eq (Rat.le_of_lt hpos) (by omega)]
      simp
      constructor
      · intro h
        have hh : hit b r i = true := by rw [hit_stop hp]; simpa using h
        rw [find_step hi2 hnone hh]
        rfl
      · intro h
        rw [stopTo_succ, hnone, if_neg (by rw [hit_stop hp]; simpa using h)]
        rfl
    · simp [atI_natm hp, hw, word_ok]
      rw [stopTo_succ, hnone, hit_not hp hw]
      rfl
  · rintro e S' ⟨rfl, hnone, o2, o3, rfl⟩
    simp at hnone
    simp [hnone, eN]
end
end Rg
end
section
set_option exponentiation.threshold 10000
/-! RgZb: slices; a number set anew. -/
namespace Rg
open PySem L2
theorem cut_to {l : List D} {k : Nat} (h : k ≤ l.length) : cutL l none (some (k : Nat)) = l.take k := by
  unfold cutL
  have h1 : HT.sIx l.length 0 none = 0 := rfl
  have h2 : HT.sIx l.length l.length (some (k : Int)) = k := by
    show (if (k : Int) < 0 then ((k : Int) + ((l.length : Nat) : Int)).toNat else min (k : Int).toNat l.length) = k
    rw [if_neg (by omega)]
    omega
  rw [h1, h2]; simp
theorem cut_from {l : List D} {k : Nat} (h : k ≤ l.length) : cutL l (some (k : Nat)) none = l.drop k := by
  unfold cutL
  have h1 : HT.sIx l.length l.length none = l.length := rfl
  have h2 : HT.sIx l.length 0 (some (k : Int)) = k := by
    show (if (k : Int) < 0 then ((k : Int) + ((l.length : Nat) : Int)).toNat else min (k : Int).toNat l.length) = k
    rw [if_neg (by omega)]
    omega
  rw [h1, h2, List.take_of_length_le (by simp)]
@[simp] theorem ixN_nat {n k : Nat} (h : k < n) : ixN n (k : Nat) = some k := by
  unfold ixN
  simp [h]
def Pt.wth : Pt → Rat → Pt
  | .gap _, q => .gap q | .glass _, q => .glass q | .stop _, q => .stop q
@[simp] theorem wth_tup {p : Pt} {q : Rat} : D.tup [.str p.word, eQ q] = eP (p.wth q) := by cases p <;> rfl
section
variable {S : Store} {b : List Pt} {k n : Nat} {p : Pt} {q x z : Rat}
theorem with_list (hl : lstOf S n = some (b.map eP)) (hk : b[k]? = some p) : m_with_number [.ref n, .int (k : Nat), eQ q] S = .ok (.ref S.length) (S ++ [.lst ((b.set k (p.wth q)).map eP)]) := by
  have h1 := (List.getElem?_eq_some_iff.mp hk).1
  refine Rok.eq ?_
  unfold m_with_number
  simp [rok_def, hl, atI_natm hk, h1, ← List.map_set]
theorem with_tup (hk : b[k]? = some p) : m_with_number [.tup (b.map eP), .int (k : Nat), eQ q] S = .ok (.ref S.length) (S ++ [.lst ((b.set k (p.wth q)).map eP)]) := by
  have h1 := (List.getElem?_eq_some_iff.mp hk).1
  refine Rok.eq ?_
  unfold m_with_number
  simp [rok_def, atI_natm hk, h1, ← List.map_set]
/-- how high, with a number -/
def highOf (b : List Pt) (k : Nat) (p : Pt) (q x z : Rat) : Rat := ((tabOf (b.set k (p.wth q))).led ⟨x, 1⟩).y + z * ((tabOf (b.set k (p.wth q))).led ⟨x, 1⟩).u
theorem wth_num : (p.wth q).num = q := by cases p <;> rfl
theorem set_Bk (hb : Bk b 40) (hk : b[k]? = some p) (hp : p.word ≠ "stop") (hq : Sz q 40) (h0 : 0 ≤ q) : Bk (b.set k (p.wth q)) 40 := by
  refine ⟨by simpa using hb.len, fun r hr => ?_, fun r hr => ?_⟩
  · rcases List.mem_or_eq_of_mem_set hr with h | h
    · exact hb.sz r h
    · subst h; rw [wth_num]; exact hq
  · rcases List.mem_or_eq_of_mem_set hr with h | h
    · exact hb.ok r h
    · subst h
      cases p with
      | gap g => exact h0
      | glass g => trivial
      | stop g => exact absurd rfl hp
theorem high_sz (hb : Bk b 40) (hk : b[k]? = some p) (hp : p.word ≠ "stop") (hq : Sz q 40) (h0 : 0 ≤ q) (hx : Sz x 40) (hz : Sz z 40) : Sz (highOf b k p q x z) 2400 := by
  have ht := tabOf_sz (set_Bk hb hk hp hq h0) (by decide)
  unfold highOf
  exact Sz.mono inferInstance (by decide)
theorem height_list (hb : Bk b 40) (hl : lstOf S n = some (b.map eP)) (hk : b[k]? = some p) (hp : p.word ≠ "stop") (hq : Sz q 40) (h0 : 0 ≤ q) (hx : Sz x 40) (hz : Sz z 40) : m_height_at [.ref n, .int (k : Nat), eQ q, eR ⟨x, z⟩] S = .ok (eQ (highOf b k p q x z)) S := by
  have hB := set_Bk hb hk hp hq h0
  have ht := tabOf_sz hB (by decide)
  refine Rok.eq ?_
  unfold m_height_at
  simp [rok_def, with_list hl hk]
  rw [table_of_list hB (by decide) (by simp)]
  simp [seen_eq]
  rfl
theorem height_tup (hb : Bk b 40) (hk : b[k]? = some p) (hp : p.word ≠ "stop") (hq : Sz q 40) (h0 : 0 ≤ q) (hx : Sz x 40) (hz : Sz z 40) : m_height_at [.tup (b.map eP), .int (k : Nat), eQ q, eR ⟨x, z⟩] S = .ok (eQ (highOf b k p q x z)) S := by
  have hB := set_Bk hb hk hp hq h0
  have ht := tabOf_sz hB (by decide)
  refine Rok.eq ?_
  unfold m_height_at
  simp [rok_def, with_tup hk]
  rw [table_of_list hB (by decide) (by simp)]
  simp [seen_eq]
  rfl
theorem l_height (hb : Bk b 40) (hl : lstOf S n = some (b.map eP)) (hk : b[k]? = some p) (hp : p.word ≠ "stop") (hq : Sz q 40) (h0 : 0 ≤ q) (hx : Sz x 40) (hz : Sz z 40) : m_l_height [.ref n, .int (k : Nat), eQ q, eQ x, eQ z] S = .ok (eQ (highOf b k p q x z)) S := by
  have hB := set_Bk hb hk hp hq h0
  have ht := tabOf_sz hB (by decide)
  have h1 := (List.getElem?_eq_some_iff.mp hk).1
  refine Rok.eq ?_
  unfold m_l_height
  simp [rok_def, hl, atI_natm hk, h1, ← List.map_set]
  rw [out_eq hB (by decide) (inferInstance : SzR ⟨x, 1⟩ _) (by decide) (by simp)]
  simp
  rfl
/-- one, all, none -/
noncomputable def setOf (f g : Rat) : D := if g = 0 then (if f = 0 then .tup [.str ("all" : Str)] else .tup [.str ("none" : Str)]) else .tup [.str ("one" : Str), eQ (-f / g)]
theorem setting_list (hb : Bk b 40) (hl : lstOf S n = some (b.map eP)) (hk : b[k]? = some p) (hp : p.word ≠ "stop") (hx : Sz x 40) (hz : Sz z 40) : m_setting [.ref n, .int (k : Nat), eQ x, eQ z] S = .ok (setOf (highOf b k p 0 x z) (highOf b k p 1 x z - highOf b k p 0 x z)) S := by
  have z0 : Sz (0 : Rat) 40 := Sz.mono inferInstance (by decide)
  have z1 : Sz (1 : Rat) 40 := Sz.mono inferInstance (by decide)
  have n1 : (0 : Rat) ≤ 1 := by decide
  have n0 : (0 : Rat) ≤ 0 := by decide
  have s0 := high_sz (q := 0) hb hk hp z0 n0 hx hz
  have s1 := high_sz (q := 1) hb hk hp z1 n1 hx hz
  have e0 := fun S (hl : lstOf S n = some (b.map eP)) => height_list (S := S) hb hl hk hp z0 n0 hx hz
  have e1 := fun S (hl : lstOf S n = some (b.map eP)) => height_list (S := S) hb hl hk hp z1 n1 hx hz
  refine Rok.eq ?_
  unfold m_setting
  have en : ∀ f : Rat, (0 : Rat) - f = -f := fun f => by grind
  generalize highOf b k p 0 x z = f at *
  generalize highOf b k p 1 x z = g at *
  by_cases hg : g - f = 0 <;> by_cases hf : f = 0
  · simp [rok_def, hl, e0, e1, eq_true hg, eq_true hf, setOf, en, m_over_eq]
  · simp [rok_def, hl, e0, e1, eq_true hg, hf, setOf, en, m_over_eq]
  · simp [rok_def, hl, e0, e1, hg, eq_true hf, setOf, en, m_over_eq]
  · simp [rok_def, hl, e0, e1, hg, hf, setOf, en, m_over_eq]
theorem setting_tup (hb : Bk b 40) (hk : b[k]? = some p) (hp : p.word ≠ "stop") (hx : Sz x 40) (hz : Sz z 40) : m_setting [.tup (b.map eP), .int (k : Nat), eQ x, eQ z] S = .ok (setOf (highOf b k p 0 x z) (highOf b k p 1 x z - highOf b k p 0 x z)) S := by
  have z0 : Sz (0 : Rat) 40 := Sz.mono inferInstance (by decide)
  have z1 : Sz (1 : Rat) 40 := Sz.mono inferInstance (by decide)
  have n1 : (0 : Rat) ≤ 1 := by decide
  have n0 : (0 : Rat) ≤ 0 := by decide
  have s0 := high_sz (q := 0) hb hk hp z0 n0 hx hz
  have s1 := high_sz (q := 1) hb hk hp z1 n1 hx hz
  have e0 := fun S => height_tup (S := S) hb hk hp z0 n0 hx hz
  have e1 := fun S => height_tup (S := S) hb hk hp z1 n1 hx hz
  refine Rok.eq ?_
  unfold m_setting
  have en : ∀ f : Rat, (0 : Rat) - f = -f := fun f => by grind
  generalize highOf b k p 0 x z = f at *
  generalize highOf b k p 1 x z = g at *
  by_cases hg : g - f = 0 <;> by_cases hf : f = 0
  · simp [rok_def, e0, e1, eq_true hg, eq_true hf, setOf, en, m_over_eq]
  · simp [rok_def, e0, e1, eq_true hg, hf, setOf, en, m_over_eq]
  · simp [rok_def, e0, e1, hg, eq_true hf, setOf, en, m_over_eq]
  · simp [rok_def, e0, e1, hg, hf, setOf, en, m_over_eq]
theorem due3 (hb : Bk b 40) (hl : lstOf S n = some (b.map eP)) (hk : b[k]? = some p) (hp : p.word ≠ "stop") (hx : Sz x 40) (hz : Sz z 40) : m_l_due_3 [.ref n, .int (k : Nat), eQ x, eQ z] S = .ok (setOf (highOf b k p 0 x z) (highOf b k p 1 x z - highOf b k p 0 x z)) S := by
  have z0 : Sz (0 : Rat) 40 := Sz.mono inferInstance (by decide)
  have z1 : Sz (1 : Rat) 40 := Sz.mono inferInstance (by decide)
  have n1 : (0 : Rat) ≤ 1 := by decide
  have n0 : (0 : Rat) ≤ 0 := by decide
  have s0 := high_sz (q := 0) hb hk hp z0 n0 hx hz
  have s1 := high_sz (q := 1) hb hk hp z1 n1 hx hz
  have e0 := fun S (hl : lstOf S n = some (b.map eP)) => l_height (S := S) hb hl hk hp z0 n0 hx hz
  have e1 := fun S (hl : lstOf S n = some (b.map eP)) => l_height (S := S) hb hl hk hp z1 n1 hx hz
  have hneg : D.tup [.int (-(highOf b k p 0 x z).num), .int ((highOf b k p 0 x z).den : Nat)] = eQ (-(highOf b k p 0 x z)) := rfl
  refine Rok.eq ?_
  unfold m_l_due_3
  generalize highOf b k p 0 x z = f at *
  generalize highOf b k p 1 x z = g at *
  by_cases hg : g - f = 0 <;> by_cases hf : f = 0
  · simp [rok_def, hl, e0, e1, eq_true hg, eq_true hf, setOf, hneg, m_l_over_2_eq]
  · simp [rok_def, hl, e0, e1, eq_true hg, hf, setOf, hneg, m_l_over_2_eq]
  · simp [rok_def, hl, e0, e1, hg, eq_true hf, setOf, hneg, m_l_over_2_eq]
  · simp [rok_def, hl, e0, e1, hg, hf, setOf, hneg, m_l_over_2_eq]
theorem ok_one : PyData.strOk ("one" : Str) = true := by decide +kernel
theorem ok_all : PyData.strOk ("all" : Str) = true := by decide +kernel
theorem ok_none : PyData.strOk ("none" : Str) = true := by decide +kernel
theorem same_set {f g : Rat} {k : Nat} : m_l_same_2 (k + 3) [setOf f g, setOf f g] S = .ok (.bl true) S := by
  refine Rok.eq ?_
  rw [m_l_same_2_succ]
  unfold setOf
  by_cases hg : g = 0 <;> by_cases hf : f = 0 <;> simp [hg, hf, rok_def, rok_comp, Ty.isa, same_Q, same_str ok_one ok_one, same_str ok_all ok_all, same_str ok_none ok_none]
end
end Rg
end
section
set_option exponentiation.threshold 10000
/-! RgCa: where rays cross the axis: the plain law. -/
namespace Rg
open PySem L2
theorem rtri (x : Rat) : x < 0 ∨ x = 0 ∨ 0 < x := by grind
theorem lt0_mul {x u : Rat} (h : 0 < u) : (x * u < 0 ↔ x < 0) ∧ (0 < x * u ↔ 0 < x) := by
  have a := Rat.mul_lt_mul_right (a := x) (b := 0) h
  have b := Rat.mul_lt_mul_right (a := 0) (b := x) h
  rw [Rat.zero_mul] at a b
  exact ⟨a, b⟩
theorem gt0_mul {x u : Rat} (h : u < 0) : (x * u < 0 ↔ 0 < x) ∧ (0 < x * u ↔ x < 0) := by
  obtain ⟨a, b⟩ := lt0_mul (x := x) (u := -u) (by grind)
  rw [Rat.mul_neg] at a b
  constructor
  · rw [← b]; grind
  · rw [← a]; grind
theorem div_mul_self {a b : Rat} (h : b ≠ 0) : a / b * b = a := Rat.div_mul_cancel h
theorem mul_neg_iff {u g y : Rat} (hu : u ≠ 0) (hg : 0 < g) : (((y < 0 ∧ 0 < y + g * u) ∨ (0 < y ∧ y + g * u < 0)) ∨ (y = 0 ∨ y + g * u = 0)) ↔ ¬ ((0 - y) / u < 0 ∨ g < (0 - y) / u) := by
  have e : (0 - y) / u * u = 0 - y := div_mul_self hu
  generalize (0 - y) / u = f at e
  have ey : y = (-f) * u := by grind
  have e2 : y + g * u = (g - f) * u := by grind
  have z1 : y = 0 ↔ f = 0 := by
    rw [ey, Rat.mul_eq_zero]; grind
  have z2 : y + g * u = 0 ↔ g = f := by
    rw [e2, Rat.mul_eq_zero]; grind
  rw [z1, z2]
  rcases rtri u with h | h | h
  · have p := gt0_mul (x := -f) h
    have q := gt0_mul (x := g - f) h
    rw [← ey] at p
    rw [← e2] at q
    rw [p.1, p.2, q.1, q.2]
    grind
  · exact absurd h hu
  · have p := lt0_mul (x := -f) h
    have q := lt0_mul (x := g - f) h
    rw [← ey] at p
    rw [← e2] at q
    rw [p.1, p.2, q.1, q.2]
    grind
theorem num_neg_iff {p : Rat} : p.num < 0 ↔ p < 0 := by
  have a := Rat.num_nonneg (q := p)
  constructor
  · intro h; have : ¬ 0 ≤ p := fun z => by have := a.mpr z; omega
    grind
  · intro h; have : ¬ 0 ≤ p.num := fun z => by have := a.mp z; grind
    omega
theorem num_pos_iff {p : Rat} : 0 < p.num ↔ 0 < p := by
  have a := num_neg_iff (p := -p)
  rw [Rat.neg_num] at a
  constructor
  · intro h; have := a.mp (by omega); grind
  · intro h; have := a.mpr (by grind); omega
theorem num_neg {p q : Rat} : p.num * q.num < 0 ↔ (p < 0 ∧ 0 < q) ∨ (0 < p ∧ q < 0) := by
  rw [← num_neg_iff, ← num_neg_iff, ← num_pos_iff, ← num_pos_iff]
  constructor
  · intro h
    rcases Int.lt_trichotomy p.num 0 with h1 | h1 | h1
    · refine .inl ⟨h1, ?_⟩
      rcases Int.lt_or_le 0 q.num with h2 | h2
      · exact h2
      · have := Int.mul_nonneg_of_nonpos_of_nonpos (Int.le_of_lt h1) h2; omega
    · rw [h1] at h; simp at h
    · refine .inr ⟨h1, ?_⟩
      rcases Int.lt_or_le q.num 0 with h2 | h2
      · exact h2
      · have := Int.mul_nonneg (Int.le_of_lt h1) h2; omega
  · rintro (⟨h1, h2⟩ | ⟨h1, h2⟩)
    · exact Int.mul_neg_of_neg_of_pos h1 h2
    · exact Int.mul_neg_of_pos_of_neg h1 h2
def gapOf : Pt → Rat
  | .gap g => g
  | _ => 0
def longOf (b : List Pt) : Rat := b.foldl (fun s p => s + gapOf p) 0
theorem longOf_snoc {b : List Pt} {p : Pt} : longOf (b ++ [p]) = longOf b + gapOf p := by unfold longOf; rw [List.foldl_append]; rfl
theorem longOf_take {b : List Pt} {i : Nat} {p : Pt} (h : b[i]? = some p) : longOf (b.take (i + 1)) = longOf (b.take i) + gapOf p := by
  have : b.take (i + 1) = b.take i ++ [p] := by rw [List.take_succ, h]; rfl
  rw [this, longOf_snoc]
def crossIn (g : Rat) (r : Ry) : Option Rat := if r.u = 0 then none else if (0 - r.y) / r.u < 0 ∨ g < (0 - r.y) / r.u then none else some ((0 - r.y) / r.u)
def putPl (l : List Rat) (q : Rat) : List Rat := if l.getLast? = some q then l else l ++ [q]
def crossAt (b : List Pt) (r : Ry) (i : Nat) (l : List Rat) : List Rat := match b[i]? with
  | some (.gap g) => match crossIn g ((tabOf (b.take i)).led r) with
    | some f => putPl l (longOf (b.take i) + f)
    | none => l
  | _ => l
def crossTo (b : List Pt) (r : Ry) : Nat → List Rat
  | 0 => if r.y = 0 then [0] else []
  | i + 1 => crossAt b r i (crossTo b r i)
def between (h t : Ry) : Prop := h.y.num * t.y.num < 0 ∨ (t.y - h.y ≠ 0 ∧ (h.y = 0 ∨ t.y = 0))
instance {h t : Ry} : Decidable (between h t) := by unfold between; infer_instance
def placeAt (b : List Pt) (r : Ry) (i : Nat) (l : List Rat) : List Rat := match b[i]? with
  | some (.gap g) => if between ((tabOf (b.take i)).led r) ((tabOf (b.take (i + 1))).led r) then l ++ [longOf (b.take i) + g * (-((tabOf (b.take i)).led r).y / (((tabOf (b.take (i + 1))).led r).y - ((tabOf (b.take i)).led r).y))] else l
  | _ => l
def placeTo (b : List Pt) (r : Ry) : Nat → List Rat
  | 0 => if r.y = 0 then [0] else []
  | i + 1 => placeAt b r i (placeTo b r i)
def dedup (l : List Rat) : List Rat := ((List.range l.length).filter fun k => decide (k = 0 ∨ l.getD k 0 ≠ l.getD (k - 1) 0)).map fun k => l.getD k 0
theorem snoc_or {A : Type} (l : List A) : l = [] ∨ ∃ k a, l = k ++ [a] := by
  rcases List.eq_nil_or_concat l with h | ⟨k, a, h⟩
  · exact .inl h
  · exact .inr ⟨k, a, by simpa using h⟩
theorem dedup_snoc {l : List Rat} {q : Rat} : dedup (l ++ [q]) = if l.getLast? = some q then dedup l else dedup l ++ [q] := by
  have hk : ∀ k, k < l.length → (l ++ [q]).getD k 0 = l.getD k 0 := fun k hk => by
    simp [List.getD_eq_getElem?_getD, List.getElem?_append_left hk]
  have e1 : ((List.range l.length).filter fun k => decide (k = 0 ∨ (l ++ [q]).getD k 0 ≠ (l ++ [q]).getD (k - 1) 0)) = (List.range l.length).filter fun k => decide (k = 0 ∨ l.getD k 0 ≠ l.getD (k - 1) 0) := by
    refine List.filter_congr fun k h => ?_
    have h := List.mem_range.mp h
    rw [hk k h, hk (k - 1) (by omega)]
  have e2 : (((List.range l.length).filter fun k => decide (k = 0 ∨ l.getD k 0 ≠ l.getD (k - 1) 0)).map fun k => (l ++ [q]).getD k 0) = dedup l := by
    unfold dedup
    refine List.map_congr_left fun k h => ?_
    have h := List.mem_range.mp (List.mem_filter.mp h).1
    exact hk k h
  have e3 : (l ++ [q]).getD l.length 0 = q := by simp
  have e4 : ((List.filter (fun k => decide (k = 0 ∨ (l ++ [q]).getD k 0 ≠ (l ++ [q]).getD (k - 1) 0)) [l.length]).map fun k => (l ++ [q]).getD k 0) = if l.getLast? = some q then [] else [q] := by
    rcases snoc_or l with rfl | ⟨l, a, rfl⟩
    · simp
    · have e5 : (l ++ [a] ++ [q]).getD ((l ++ [a]).length - 1) 0 = a := by simp
      rw [List.filter_cons, e5, e3]
      by_cases h : q = a
      · subst h; simp
      · simp [h, Ne.symm h]
  have e6 : dedup (l ++ [q]) = ((List.range (l ++ [q]).length).filter fun k => decide (k = 0 ∨ (l ++ [q]).getD k 0 ≠ (l ++ [q]).getD (k - 1) 0)).map fun k => (l ++ [q]).getD k 0 := rfl
  rw [e6, List.length_append, List.length_singleton, List.range_succ, List.filter_append, List.map_append, e1, e2, e4]
  split <;> simp
theorem dedup_last {l : List Rat} : (dedup l).getLast? = l.getLast? := by
  generalize hn : l.length = n
  induction n generalizing l with
  | zero => rw [List.length_eq_zero_iff.mp hn]; rfl
  | succ n ih =>
    rcases snoc_or l with rfl | ⟨l, a, rfl⟩
    · simp at hn
    · rw [dedup_snoc]
      split
      · rename_i h
        rw [ih (by simpa using hn), h]; simp
      · simp
theorem putPl_dedup {l : List Rat} {q : Rat} : putPl (dedup l) q = dedup (l ++ [q]) := by
  unfold putPl
  rw [dedup_snoc, dedup_last]
def Ry.nz (r : Ry) : Prop := r.y ≠ 0 ∨ r.u ≠ 0
theorem nz_led {t : T4} {r : Ry} (h : t.det = 1) (hr : r.nz) : (t.led r).nz := by
  unfold Ry.nz at hr ⊢
  simp only [T4.led]
  unfold T4.det at h
  by_cases hy : t.a * r.y + t.b * r.u = 0
  · by_cases hu : t.c * r.y + t.d * r.u = 0
    · have e1 : r.y = t.d * (t.a * r.y + t.b * r.u) - t.b * (t.c * r.y + t.d * r.u) := by grind
      have e2 : r.u = t.a * (t.c * r.y + t.d * r.u) - t.c * (t.a * r.y + t.b * r.u) := by grind
      rw [hy, hu] at e1 e2
      grind
    · exact .inr hu
  · exact .inl hy
theorem cross_step {b : List Pt} {r : Ry} {i : Nat} {p : Pt} {l : List Rat} (hp : b[i]? = some p) (ok : p.ok) (hr : r.nz)
    (inv : ((tabOf (b.take i)).led r).y = 0 → l.getLast? = some (longOf (b.take i))) :
    crossAt b r i (dedup l) = dedup (placeAt b r i l) ∧ (((tabOf (b.take (i + 1))).led r).y = 0 → (placeAt b r i l).getLast? = some (longOf (b.take (i + 1)))) := by
  have hn := nz_led (tabOf_det (b.take i)) hr
  have e := led_take (r := r) hp
  unfold crossAt placeAt
  rw [hp, longOf_take hp, ← e]
  generalize (tabOf (b.take i)).led r = h at *
  generalize longOf (b.take i) = a at *
  rw [tab_led]
  cases p with
  | glass q =>
    dsimp only [gapOf]
    refine ⟨rfl, fun z => ?_⟩
    rw [inv z]; grind
  | stop q =>
    dsimp only [gapOf]
    refine ⟨rfl, fun z => ?_⟩
    rw [inv z]; grind
  | gap g =>
    dsimp only [gapOf]
    have ok : 0 ≤ g := ok
    by_cases hu : h.u = 0
    · have hy : h.y ≠ 0 := by unfold Ry.nz at hn; grind
      have c1 : crossIn g h = none := by unfold crossIn; rw [if_pos hu]
      have c2 : ¬ between h ⟨h.y + g * h.u, h.u⟩ := by
        unfold between
        rw [num_neg]
        dsimp only
        rw [hu]
        grind
      rw [c1, if_neg c2]
      refine ⟨rfl, fun z => ?_⟩
      rw [hu] at z; grind
    · by_cases hg : g = 0
      · subst hg
        have c2 : ¬ between h ⟨h.y + 0 * h.u, h.u⟩ := by
          unfold between
          rw [num_neg]
          dsimp only
          grind
        rw [if_neg c2]
        refine ⟨?_, fun z => by rw [inv (by grind)]; grind⟩
        unfold crossIn
        rw [if_neg hu]
        by_cases hy : h.y = 0
        · have e0 : (0 - h.y) / h.u = 0 := by rw [hy]; grind
          rw [e0, if_neg (by grind)]
          dsimp only
          rw [putPl, dedup_last, inv hy, if_pos (by grind)]
        · have e1 : (0 - h.y) / h.u * h.u = 0 - h.y := div_mul_self hu
          have e0 : (0 - h.y) / h.u ≠ 0 := fun z => by rw [z] at e1; grind
          rw [if_pos (by grind)]
      · have hg0 : 0 < g := by grind
        have key : between h ⟨h.y + g * h.u, h.u⟩ ↔ ¬ ((0 - h.y) / h.u < 0 ∨ g < (0 - h.y) / h.u) := by
          rw [← mul_neg_iff hu hg0]
          unfold between
          rw [num_neg]
          dsimp only
          have : h.y + g * h.u - h.y ≠ 0 := by
            have : g * h.u ≠ 0 := fun z => by rcases Rat.mul_eq_zero.mp z with q | q <;> contradiction
            grind
          grind
        have e3 : g * (-h.y / (h.y + g * h.u - h.y)) = (0 - h.y) / h.u := by grind
        unfold crossIn
        rw [if_neg hu]
        by_cases hb : between h ⟨h.y + g * h.u, h.u⟩
        · rw [if_pos hb, if_neg (key.mp hb)]
          dsimp only
          rw [putPl_dedup, e3]
          refine ⟨rfl, fun z => ?_⟩
          have : (0 - h.y) / h.u = g := by
            have : 0 - h.y = g * h.u := by grind
            rw [this, Rat.mul_div_cancel hu]
          rw [this]; simp
        · have hb' := hb
          rw [key] at hb'
          have hb' : (0 - h.y) / h.u < 0 ∨ g < (0 - h.y) / h.u := Classical.not_not.mp hb'
          rw [if_neg hb, if_pos hb']
          refine ⟨rfl, fun z => ?_⟩
          refine absurd ?_ hb
          unfold between
          dsimp only
          have : g * h.u ≠ 0 := fun z => by rcases Rat.mul_eq_zero.mp z with q | q <;> contradiction
          grind
theorem cross_all {b : List Pt} {r : Ry} (ok : ∀ p ∈ b, p.ok) (hr : r.nz) : ∀ i, i ≤ b.length →
    crossTo b r i = dedup (placeTo b r i) ∧ (((tabOf (b.take i)).led r).y = 0 → (placeTo b r i).getLast? = some (longOf (b.take i)))
  | 0, _ => by
    have e : (tabOf (b.take 0)).led r = r := by rw [List.take_zero]; simp only [tabOf, List.foldl_nil, T4.one_led]
    rw [e]
    unfold crossTo placeTo
    by_cases hy : r.y = 0
    · simp [hy, longOf, dedup]
    · simp [hy, dedup]
  | i + 1, hi => by
    obtain ⟨h1, h2⟩ := cross_all ok hr i (by omega)
    have hp : b[i]? = some b[i] := List.getElem?_eq_getElem (by omega)
    have := cross_step hp (ok _ (List.getElem_mem _)) hr h2
    unfold crossTo placeTo
    rw [h1]
    exact this
end Rg
end
section
set_option exponentiation.threshold 10000
/-! RgEa: images of images, in plain rationals. -/
namespace Rg
open PySem L2
/-- the ray that stands for a plane -/
def rayP : Option Rat → Ry
  | none => ⟨1, 0⟩
  | some x => ⟨x, 1⟩
def planeR (r : Ry) : Option Rat := if r.u = 0 then none else some (-r.y / r.u)
def negO : Option Rat → Option Rat
  | none => none
  | some x => some (-x)
theorem image_fst {t : T4} : ∀ {x}, (imageOf t x).1 = planeR (t.led (rayP x))
  | none => by
    have e1 : (t.led ⟨1, 0⟩).y = t.a := by simp only [T4.led]; grind
    have e2 : (t.led ⟨1, 0⟩).u = t.c := by simp only [T4.led]; grind
    unfold imageOf planeR rayP
    rw [e1, e2]
    by_cases h : t.c = 0
    · rw [if_pos h, if_pos h]
    · rw [if_neg h, if_neg h]
  | some x => by
    have e1 : (t.led ⟨x, 1⟩).y = t.a * x + t.b := by simp only [T4.led]; grind
    have e2 : (t.led ⟨x, 1⟩).u = t.c * x + t.d := by simp only [T4.led]; grind
    unfold imageOf planeR rayP
    dsimp only
    rw [e1, e2]
    by_cases h : t.c * x + t.d = 0
    · rw [if_pos h, if_pos h]
    · rw [if_neg h, if_neg h]
theorem image_snd {t : T4} {x : Rat} : (imageOf t (some x)).2 = if (t.led (rayP (some x))).u = 0 then none else some (1 / (t.led (rayP (some x))).u) := by
  show (imageOf t (some x)).2 = if (t.led ⟨x, 1⟩).u = 0 then none else some (1 / (t.led ⟨x, 1⟩).u)
  have e2 : (t.led ⟨x, 1⟩).u = t.c * x + t.d := by simp only [T4.led]; grind
  unfold imageOf
  dsimp only
  rw [e2]
  by_cases h : t.c * x + t.d = 0
  · rw [if_pos h, if_pos h]
  · rw [if_neg h, if_neg h]
def Ry.tm (k : Rat) (r : Ry) : Ry := ⟨k * r.y, k * r.u⟩
theorem led_tm {t : T4} {k : Rat} {r : Ry} : t.led (r.tm k) = (t.led r).tm k := by apply Ry.ext' <;> (simp only [T4.led, Ry.tm]; grind)
theorem div_same {k a b : Rat} (hk : k ≠ 0) (hb : b ≠ 0) : -(k * a) / (k * b) = -a / b := by
  have hkb : k * b ≠ 0 := fun z => by rcases Rat.mul_eq_zero.mp z with z | z <;> contradiction
  have e1 := div_mul_self (a := -(k * a)) hkb
  have e2 := div_mul_self (a := -a) hb
  generalize -(k * a) / (k * b) = u at *
  generalize -a / b = v at *
  have : (u - v) * (k * b) = 0 := by grind
  rcases Rat.mul_eq_zero.mp this with z | z
  · grind
  · contradiction
theorem plane_tm {k : Rat} {r : Ry} (hk : k ≠ 0) : planeR (r.tm k) = planeR r := by
  unfold planeR Ry.tm
  dsimp only
  by_cases h : r.u = 0
  · rw [if_pos (by rw [h]; grind), if_pos h]
  · rw [if_neg (fun z => by rcases Rat.mul_eq_zero.mp z with z | z <;> contradiction), if_neg h, div_same hk h]
def Ry.none0 (r : Ry) : Prop := r.y ≠ 0 ∨ r.u ≠ 0
theorem led_none0 {t : T4} {r : Ry} (h : t.det = 1) (hr : r.none0) : (t.led r).none0 := by
  unfold Ry.none0 at hr ⊢
  simp only [T4.led]
  unfold T4.det at h
  by_cases hy : t.a * r.y + t.b * r.u = 0
  · by_cases hu : t.c * r.y + t.d * r.u = 0
    · have e1 : r.y = 0 := by grind
      have e2 : r.u = 0 := by grind
      rcases hr with hr | hr <;> contradiction
    · exact .inr hu
  · exact .inl hy
theorem rayP_none0 : ∀ {x}, (rayP x).none0
  | none => .inl (by unfold rayP; decide)
  | some x => .inr (show (1 : Rat) ≠ 0 by decide)
/-- the plane seen from behind, as a ray, is the ray itself but for a factor -/
theorem ray_plane {r : Ry} (h : r.none0) : ∃ k : Rat, k ≠ 0 ∧ (rayP (negO (planeR r))).tm k = r ∧ (r.u ≠ 0 → k = r.u) := by
  unfold planeR
  by_cases hu : r.u = 0
  · rw [if_pos hu]
    rcases h with h | h
    · refine ⟨r.y, h, ?_, fun z => absurd hu z⟩
      apply Ry.ext' <;> (simp only [Ry.tm, negO, rayP]; grind)
    · exact absurd hu h
  · rw [if_neg hu]
    refine ⟨r.u, hu, ?_, fun _ => rfl⟩
    have e1 := div_mul_self (a := -r.y) hu
    generalize -r.y / r.u = w at *
    apply Ry.ext' <;> (simp only [Ry.tm, negO, rayP]; grind)
section
variable {s t : T4} {x : Option Rat} {p q r : Rat}
theorem image_thn (hs : s.det = 1) : (imageOf t (negO (imageOf s x).1)).1 = (imageOf (s.thn t) x).1 := by
  rw [image_fst, image_fst, image_fst, T4.thn_led]
  obtain ⟨k, k0, e, _⟩ := ray_plane (led_none0 hs (rayP_none0 (x := x)))
  conv => rhs; rw [← e, led_tm, plane_tm k0]
theorem enl_thn (hs : s.det = 1) (h1 : (imageOf s (some p)).1 = some q) (h2 : (imageOf (s.thn t) (some p)).1 = some r) :
    ∃ e1 e2 : Rat, (imageOf s (some p)).2 = some e1 ∧ (imageOf t (some (-q))).2 = some e2 ∧ (imageOf (s.thn t) (some p)).2 = some (e1 * e2) := by
  rw [image_fst] at h1 h2
  obtain ⟨k, k0, e, ek⟩ := ray_plane (led_none0 hs (rayP_none0 (x := some p)))
  rw [h1] at e
  have u1 : (s.led (rayP (some p))).u ≠ 0 := by
    intro z
    unfold planeR at h1
    rw [if_pos z] at h1
    cases h1
  have u2 : ((s.thn t).led (rayP (some p))).u ≠ 0 := by
    intro z
    unfold planeR at h2
    rw [if_pos z] at h2
    cases h2
  have ek := ek u1
  have e3 : ((s.thn t).led (rayP (some p))) = (t.led (rayP (negO (some q)))).tm k := by rw [T4.thn_led, ← led_tm, e]
  have e4 : ((s.thn t).led (rayP (some p))).u = k * (t.led (rayP (negO (some q)))).u := by rw [e3]; rfl
  have u3 : (t.led (rayP (negO (some q)))).u ≠ 0 := fun z => u2 (by rw [e4, z]; grind)
  refine ⟨1 / k, 1 / (t.led (rayP (negO (some q)))).u, ?_, ?_, ?_⟩
  · rw [image_snd]
    rw [if_neg u1, ek]
  · rw [image_snd]
    exact if_neg u3
  · rw [image_snd, if_neg u2, e4]
    congr 1
    generalize (t.led (rayP (negO (some q)))).u = w at *
    have hkw : k * w ≠ 0 := fun z => by rcases Rat.mul_eq_zero.mp z with z | z <;> contradiction
    have f1 := div_mul_self (a := 1) hkw
    have f2 := div_mul_self (a := 1) k0
    have f3 := div_mul_self (a := 1) u3
    generalize 1 / (k * w) = a at *
    generalize 1 / k = b at *
    generalize 1 / w = c at *
    grind
/-- the ray led, taken the other way, is led back by the table turned about -/
theorem turned_led (ht : t.det = 1) {y : Ry} : t.turned.led ⟨-(t.led y).y, (t.led y).u⟩ = ⟨-y.y, y.u⟩ := by
  unfold T4.det at ht
  apply Ry.ext' <;> (simp only [T4.led, T4.turned]; grind)
theorem ray_plane2 {r : Ry} (h : r.none0) : ∃ k : Rat, k ≠ 0 ∧ (rayP (planeR r)).tm k = ⟨-r.y, r.u⟩ ∧ (r.u ≠ 0 → k = r.u) := by
  unfold planeR
  by_cases hu : r.u = 0
  · rw [if_pos hu]
    rcases h with h | h
    · refine ⟨-r.y, by grind, ?_, fun z => absurd hu z⟩
      apply Ry.ext' <;> (simp only [Ry.tm, rayP]; grind)
    · exact absurd hu h
  · rw [if_neg hu]
    refine ⟨r.u, hu, ?_, fun _ => rfl⟩
    have e1 := div_mul_self (a := -r.y) hu
    generalize -r.y / r.u = w at *
    apply Ry.ext' <;> (simp only [Ry.tm, rayP]; grind)
theorem image_turned (ht : t.det = 1) : (imageOf t.turned (imageOf t x).1).1 = x := by
  rw [image_fst, image_fst]
  obtain ⟨k, k0, e, _⟩ := ray_plane2 (led_none0 ht (rayP_none0 (x := x)))
  have e2 : (t.turned.led (rayP (planeR (t.led (rayP x))))).tm k = ⟨-(rayP x).y, (rayP x).u⟩ := by rw [← led_tm, e, turned_led ht]
  rw [← plane_tm k0, e2]
  cases x with
  | none => unfold planeR rayP; rw [if_pos rfl]
  | some x =>
    unfold planeR rayP
    dsimp only
    rw [if_neg (by decide)]
    congr 1
    grind
theorem enl_turned (ht : t.det = 1) (h1 : (imageOf t (some p)).1 = some q) : ∃ e1 e2 : Rat, (imageOf t (some p)).2 = some e1 ∧ (imageOf t.turned (some q)).2 = some e2 ∧ e1 * e2 = 1 := by
  rw [image_fst] at h1
  obtain ⟨k, k0, e, ek⟩ := ray_plane2 (led_none0 ht (rayP_none0 (x := some p)))
  have u1 : (t.led (rayP (some p))).u ≠ 0 := by
    intro z
    unfold planeR at h1
    rw [if_pos z] at h1
    cases h1
  have ek := ek u1
  rw [h1] at e
  have e2 : (t.turned.led (rayP (some q))).tm k = ⟨-(rayP (some p)).y, (rayP (some p)).u⟩ := by rw [← led_tm, e, turned_led ht]
  have e4 : k * (t.turned.led (rayP (some q))).u = 1 := congrArg Ry.u e2
  have u3 : (t.turned.led (rayP (some q))).u ≠ 0 := fun z => by rw [z] at e4; grind
  refine ⟨1 / k, 1 / (t.turned.led (rayP (some q))).u, ?_, ?_, ?_⟩
  · rw [image_snd, if_neg u1, ek]
  · rw [image_snd, if_neg u3]
  · generalize (t.turned.led (rayP (some q))).u = w at *
    have f2 := div_mul_self (a := 1) k0
    have f3 := div_mul_self (a := 1) u3
    generalize 1 / k = b at *
    generalize 1 / w = c at *
    grind
end
theorem image_sz1 {t : T4} {x : Rat} {i j : Nat} (ht : SzT t i) (hx : Sz x j) {q : Rat} (h : (imageOf t (some x)).1 = some q) : Sz q (i + j + i + 1 + (i + j + i + 1)) := by
  unfold imageOf at h
  dsimp only at h
  split at h
  · cases h
  · cases h
    infer_instance
end Rg
end
section
set_option exponentiation.threshold 10000
/-! RgEb: benches turned about; images by the program. -/
namespace Rg
open PySem L2
theorem tab_turned (p : Pt) : p.tab.turned = p.tab := by cases p <;> rfl
theorem tabOf_rev : ∀ b : List Pt, tabOf b.reverse = (tabOf b).turned
  | [] => rfl
  | p :: b => by rw [List.reverse_cons, tabOf_snoc, tabOf_rev b, tabOf_cons, T4.turned_rev, tab_turned]
theorem rev_Bk {b : List Pt} {k : Nat} (h : Bk b k) : Bk b.reverse k := ⟨by rw [List.length_reverse]; exact h.len, fun p hp => h.sz p (List.mem_reverse.mp hp), fun p hp => h.ok p (List.mem_reverse.mp hp)⟩
theorem un_rev {N : Nat} {b : List Pt} : unders N (b.map eP).reverse = true := un_all fun d hd => by
  obtain ⟨p, _, rfl⟩ := List.mem_map.mp (List.mem_reverse.mp hd)
  exact eP_un
theorem turned_list {S : Store} {b : List Pt} {n : Nat} (hl : lstOf S n = some (b.map eP)) : m_turned_bench [.ref n] S = .ok (.ref S.length) (S ++ [.lst (b.reverse.map eP)]) := by
  refine Rok.eq ?_
  unfold m_turned_bench
  simp [rok_def, hl, un_rev, List.map_reverse]
theorem turned_tup {S : Store} {b : List Pt} : m_turned_bench [.tup (b.map eP)] S = .ok (.ref S.length) (S ++ [.lst (b.reverse.map eP)]) := by
  refine Rok.eq ?_
  unfold m_turned_bench
  simp [rok_def, un_rev, List.map_reverse]
theorem eO_none : eO none = .non := rfl
theorem eO_some {q : Rat} : eO (some q) = eQ q := rfl
section
variable {S : Store} {t : T4} {i j k n m : Nat} {b : List Pt} {x : Option Rat}
theorem image_eq (ht : SzT t i) (hx : ∀ q, x = some q → Sz q j) (h : i + j + 2 ≤ 2000) : m_image [eT t, eO x] S = .ok (eOO (imageOf t x)) S := by
  cases x with
  | none => exact image_none (by omega)
  | some q =>
    have := hx q rfl
    exact image_some h
theorem other_2_eq : m_l_other_2 [eO x] S = .ok (eO (negO x)) S := by
  refine Rok.eq ?_
  unfold m_l_other_2
  have hneg : ∀ q : Rat, D.tup [.int (-q.num), .int (q.den : Nat)] = eQ (-q) := fun _ => rfl
  cases x with
  | none => simp [rok_def, eO, negO]
  | some q => simp [rok_def, eO, negO, hneg]
@[simp] theorem gT_eOO {f : List D → Env → Store → Option Env} {env : Env} {p : Option Rat × Option Rat} : gT 2 f (eOO p) env S = f [eO p.1, eO p.2] env S := rfl
theorem tab_sz12 (hb : Bk b 40) (h12 : b.length ≤ 12) : SzT (tabOf b) 500 := by
  have := tabs_sz hb.sz
  refine this.mono ?_
  have h2 := Nat.mul_le_mul_right (40 + 1) h12
  omega
theorem Bk.take' (h : Bk b k) (i : Nat) : Bk (b.take i) k := ⟨by rw [List.length_take]; have := h.len; omega, fun p hp => h.sz p (List.mem_of_mem_take hp), fun p hp => h.ok p (List.mem_of_mem_take hp)⟩
theorem Bk.drop' (h : Bk b k) (i : Nat) : Bk (b.drop i) k := ⟨by rw [List.length_drop]; have := h.len; omega, fun p hp => h.sz p (List.mem_of_mem_drop hp), fun p hp => h.ok p (List.mem_of_mem_drop hp)⟩
theorem enl_sz {q e : Rat} (ht : SzT t i) (hq : Sz q j) (h : (imageOf t (some q)).2 = some e) : Sz e (1 + (i + j + i + 1)) := by
  unfold imageOf at h
  dsimp only at h
  split at h
  · cases h
  · cases h
    infer_instance
theorem through_img (hb : Bk b 40) (h12 : b.length ≤ 12) (hk : k ≤ b.length) (hx : ∀ q, x = some q → Sz q 40) (hl : lstOf S n = some (b.map eP)) : m_l_through [.ref n, .int (k : Nat), eO x, eO (imageOf (tabOf b) x).1, eO (imageOf (tabOf b) x).2] S = .ok (.bl true) S := by
  refine Rok.eq ?_
  unfold m_l_through
  have hn := lstOf_lt hl
  have e1 : cutL (b.map eP) none (some (k : Nat)) = (b.take k).map eP := by rw [cut_to (by simpa using hk), List.map_take]
  have e2 : cutL (b.map eP) (some (k : Nat)) none = (b.drop k).map eP := by rw [cut_from (by simpa using hk), List.map_drop]
  have b1 := hb.take' k
  have b2 := hb.drop' k
  have t1 := tab_sz12 b1 (by rw [List.length_take]; omega)
  have t2 := tab_sz12 b2 (by rw [List.length_drop]; omega)
  have eb : tabOf b = (tabOf (b.take k)).thn (tabOf (b.drop k)) := by rw [← tabOf_app, List.take_append_drop]
  have d1 := tabOf_det (b.take k)
  simp [rok_def, hl, e1]
  rw [table_of_list b1 (by decide) (by simp)]
  simp
  rw [image_eq t1 hx (by decide)]
  simp
  have tail : (∀ q, (imageOf (tabOf (b.take k)) x).1 = some q → Sz q 40) → Sok ((sSeq
                                    (sAsg
                                      (sCall m_image
                                        (sCons (sCall m_table_of (sCons (sSl (sVar 0) (sPart (sVar 1)) sNoPart) sNil))
                                          (sCons (sCall m_l_other_2 (sCons (sVar 5) sNil)) sNil)))
                                      (gT 2 (gsCons (gN 7) (gsCons (gN 8) gsNil))))
                                    (sSeq
                                      (sIfS (sNot (sT (sCall (m_l_same_2 8) (sCons (sVar 3) (sCons (sVar 7) sNil)))))
                                        (sRet (sC (D.bl false))) sSkip)
                                      (sRet
                                        (sOrV
                                          (s2 (fIn false) (sC D.non)
                                            (sLst (sCons (sVar 2) (sCons (sVar 3) (sCons (sVar 5) sNil)))))
                                          (s2 fEq (sVar 4) (sCall m_l_times (sCons (sVar 6) (sCons (sVar 8) sNil)))))))) [some (D.ref n), some (D.int ↑k), some (eO x), some (eO (imageOf (tabOf b) x).fst),
                                some (eO (imageOf (tabOf b) x).snd), some (eO (imageOf (tabOf (List.take k b)) x).fst),
                                some (eO (imageOf (tabOf (List.take k b)) x).snd), none, none] (S ++ [Cell.lst (List.take k (List.map eP b))]))
        { nx := fun x S1 => Rok (gc S D.non S1) fun x S' => x = D.bl true ∧ S' = S,
          rt := fun d S1 => Rok (gc S d S1) fun x S' => x = D.bl true ∧ S' = S } := by
    intro hz
    simp [hn, hl, e2]
    rw [table_of_list b2 (by decide) (by simp)]
    simp [other_2_eq]
    rw [image_eq (j := 40) t2 (fun q hq => by
      cases hm : (imageOf (tabOf (b.take k)) x).1 with
      | none => rw [hm] at hq; cases hq
      | some p => rw [hm] at hq; cases hq; exact sz_neg (hz p hm)) (by decide)]
    have i1 := image_thn (s := tabOf (b.take k)) (t := tabOf (b.drop k)) (x := x) d1
    rw [← eb] at i1
    simp
    rw [i1]
    simp [same_O]
    cases x with
    | none =>
      cases h1 : (imageOf (tabOf (b.take k)) none).1 <;> cases h2 : (imageOf (tabOf b) none).1 <;> simp [eO_none, eO_some, gc_app]
    | some p =>
      have zp := hx p rfl
      cases h1 : (imageOf (tabOf (b.take k)) (some p)).1 with
      | none => cases h2 : (imageOf (tabOf b) (some p)).1 <;> simp [eO_none, eO_some, gc_app]
      | some q =>
        have zq := hz q h1
        cases h2 : (imageOf (tabOf b) (some p)).1 with
        | none => simp [eO_none, eO_some, gc_app]
        | some r =>
          obtain ⟨f1, f2, g1, g2, g3⟩ := enl_thn d1 h1 (by rw [← eb]; exact h2)
          rw [← eb] at g3
          have y1 := enl_sz t1 zp g1
          have y2 := enl_sz t2 (sz_neg zq) g2
          simp [eO_none, eO_some, negO, g1, g2, g3, gc_app]
  cases h1 : (imageOf (tabOf (b.take k)) x).1 with
  | none =>
    rw [h1] at tail
    have := tail (fun q hq => by cases hq)
    simp [eO_none] at this ⊢
    exact this
  | some q =>
    rw [h1] at tail
    simp only [eO_some] at tail ⊢
    simp
    refine ⟨CPow_s (by decide) (by decide) (by decide), fun hlt => ?_⟩
    have zq : Sz q 40 := ⟨by omega, by omega⟩
    have := tail (fun q hq => by cases hq; exact zq)
    simp at this
    exact this
/-- a ray's ratio is of no more bits than the ray -/
theorem ray_ratio_sz {r : Ry} {k : Nat} (h : SzR r k) (hu : r.u ≠ 0) : Sz (-r.y / r.u) k := by
  obtain ⟨D, h0, hD, ⟨Y, hY, eY⟩, ⟨U, hU, eU⟩⟩ := h.ex
  have hD0 : (D : Rat) ≠ 0 := by
    intro z
    have : D = 0 := by exact_mod_cast z
    omega
  have hU0 : U ≠ 0 := by
    rintro rfl
    have : r.u * (D : Rat) = 0 := by rw [eU]; rfl
    rcases Rat.mul_eq_zero.mp this with z | z
    · exact hu z
    · exact hD0 z
  have hUq : (U : Rat) ≠ 0 := by
    intro z
    exact hU0 (by exact_mod_cast z)
  have e : -r.y / r.u = Rat.divInt (-Y) U := by
    rw [Rat.divInt_eq_div, Rat.intCast_neg]
    have f1 := div_mul_self (a := -r.y) hu
    have f2 := div_mul_self (a := -(Y : Rat)) hUq
    generalize -r.y / r.u = a at *
    generalize -(Y : Rat) / (U : Rat) = c at *
    have : (a - c) * (U : Rat) = 0 := by
      rw [← eU, ← eY] at *
      grind
    rcases Rat.mul_eq_zero.mp this with z | z
    · grind
    · contradiction
  rw [e]
  exact sz_di hU0 (by rw [Int.natAbs_neg]; exact hY) hU
theorem image_sz2 {q : Rat} (ht : SzT t 500) (hx : ∀ q, x = some q → Sz q 40) (h : (imageOf t x).1 = some q) : Sz q 560 := by
  have hr : SzR (rayP x) 50 := by
    cases x with
    | none => exact ⟨1, by decide, by decide, Ov.one (by decide), Ov.zero⟩
    | some p =>
      have := hx p rfl
      exact SzR.mono (inferInstance : SzR ⟨p, 1⟩ (40 + 1)) (by decide)
  rw [image_fst] at h
  have hl : SzR (t.led (rayP x)) 560 := SzR.mono (inferInstance : SzR (t.led (rayP x)) (500 + 50 + 1)) (by decide)
  unfold planeR at h
  split at h
  · cases h
  · next hu =>
    cases h
    exact ray_ratio_sz hl hu
end
end Rg
end
section
set_option exponentiation.threshold 10000
/-! RgHc: a round of a hall, by its scale. -/
namespace Rg
open PySem L2
def T4.sc (g : Rat) (t : T4) : T4 := ⟨t.a, t.b / g, t.c * g, t.d⟩
def Ry.sc (g : Rat) (r : Ry) : Ry := ⟨r.y / g, r.u⟩
section
variable {g : Rat} {s t : T4} {r : Ry} {b : List Pt} {p : Pt}
theorem T4.sc_thn (h : g ≠ 0) : (s.thn t).sc g = (s.sc g).thn (t.sc g) := by
  unfold T4.thn T4.sc
  apply T4.ext' <;> dsimp only <;> grind
theorem T4.sc_led (h : g ≠ 0) : (t.led r).sc g = (t.sc g).led (r.sc g) := by
  unfold T4.led T4.sc Ry.sc
  apply Ry.ext' <;> dsimp only <;> grind
theorem T4.sc_one : T4.one.sc g = T4.one := by
  unfold T4.one T4.sc
  apply T4.ext' <;> dsimp only <;> grind
theorem T4.sc_turned : t.turned.sc g = (t.sc g).turned := rfl
theorem T4.sc_a : (t.sc g).a = t.a := rfl
theorem T4.sc_d : (t.sc g).d = t.d := rfl
theorem T4.sc_det (h : g ≠ 0) : (t.sc g).det = t.det := by
  unfold T4.det T4.sc
  dsimp only
  grind
def nzs (b : List Pt) : Nat := (b.filter fun p => !p.isStop).length
theorem nzs_cons : nzs (p :: b) = (if p.isStop then 0 else 1) + nzs b := by
  unfold nzs
  rw [List.filter_cons]
  cases p.isStop <;> simp
  omega
theorem nzs_app {c : List Pt} : nzs (b ++ c) = nzs b + nzs c := by
  unfold nzs
  rw [List.filter_append, List.length_append]
theorem nzs_rev : nzs b.reverse = nzs b := by
  unfold nzs
  rw [List.filter_reverse, List.length_reverse]
theorem nzs_take {i : Nat} : nzs (b.take i) ≤ nzs b := by
  conv => rhs; rw [← List.take_append_drop i b]
  rw [nzs_app]
  omega
theorem ptS_sz (h0 : g ≠ 0) (h : PtS g p) : p.isStop = true ∨ (p.isStop = false ∧ SzT (p.tab.sc g) 4) := by
  cases p with
  | stop r => exact .inl rfl
  | gap q =>
    refine .inr ⟨rfl, ?_⟩
    have : (Pt.gap q).tab.sc g = ⟨1, q / g, 0, 1⟩ := by
      unfold Pt.tab T4.sc
      apply T4.ext' <;> dsimp only
      grind
    rw [this]
    exact szT_gap h.2
  | glass q =>
    refine .inr ⟨rfl, ?_⟩
    have : (Pt.glass q).tab.sc g = ⟨1, 0, -(q * g), 1⟩ := by
      unfold Pt.tab T4.sc
      apply T4.ext' <;> dsimp only <;> grind
    rw [this]
    exact szT_glass (sz_neg h)
theorem ptS_tabs (h0 : g ≠ 0) (h : ∀ p ∈ b, PtS g p) : SzT ((tabOf b).sc g) (1 + nzs b * 5) := by
  induction b with
  | nil => rw [show tabOf [] = T4.one from rfl, T4.sc_one]; exact SzT.mono (inferInstance : SzT T4.one 1) (by omega)
  | cons p b ih =>
    have h2 := ih fun q hq => h q (by simp [hq])
    rw [tabOf_cons, nzs_cons]
    rcases ptS_sz h0 (h p (by simp)) with h1 | ⟨h1, h3⟩
    · have : p.tab = T4.one := by cases p <;> first | rfl | cases h1
      rw [this, T4.one_thn, h1]
      exact h2.mono (by simp)
    · rw [T4.sc_thn h0, h1]
      have : SzT ((p.tab.sc g).thn ((tabOf b).sc g)) (4 + (1 + nzs b * 5) + 1) := inferInstance
      exact this.mono (by simp; omega)
/-- back from the scale -/
theorem SzT.unsc {k m : Nat} (h0 : g ≠ 0) (hg : Sz g m) (h : SzT (t.sc g) k) : SzT t (k + m + m) := by
  obtain ⟨D, d0, d1, a, b, c, d⟩ := h.ex
  have hn : 0 < g.num.natAbs := Int.natAbs_pos.mpr (num_ne h0)
  have hi := hg.ov
  have hj : Ov g⁻¹.den m g⁻¹ := (sz_inv hg).ov
  have hjd : g⁻¹.den = g.num.natAbs := by rw [Rat.den_inv, if_neg (num_ne h0)]
  refine ⟨D * g.den * g.num.natAbs, Nat.mul_pos (Nat.mul_pos d0 g.den_pos) hn, mul_lt2 (mul_lt2 d1 hg.den) hg.num, ?_, ?_, ?_, ?_⟩
  · exact (a.up hg.den).up hg.num
  · have := b.mul hi
    have e : t.b = (t.sc g).b * g := by unfold T4.sc; dsimp only; grind
    rw [e]
    exact this.up hg.num
  · have := c.mul hj
    have e : t.c = (t.sc g).c * g⁻¹ := by unfold T4.sc; dsimp only; grind
    rw [e]
    rw [hjd] at this
    have h3 := this.up hg.den
    rwa [Nat.mul_right_comm] at h3
  · exact (d.up hg.den).up hg.num
theorem SzR.unsc {k m : Nat} (h0 : g ≠ 0) (hg : Sz g m) (h : SzR (r.sc g) k) : SzR r (k + m) := by
  obtain ⟨D, d0, d1, a, b⟩ := h.ex
  refine ⟨D * g.den, Nat.mul_pos d0 g.den_pos, mul_lt2 d1 hg.den, ?_, b.up hg.den⟩
  have e : r.y = (r.sc g).y * g := by unfold Ry.sc; dsimp only; grind
  rw [e]
  exact a.mul hg.ov
end
/-! ### a round -/
def roundP (near far : Rat) (b : List Pt) : List Pt := b ++ .glass far :: (b.reverse ++ [.glass near])
def roundT (near far : Rat) (b : List Pt) : T4 := tabOf (roundP near far b)
theorem roundT_eq {near far : Rat} {b : List Pt} : roundT near far b = (((tabOf b).thn ⟨1, 0, -far, 1⟩).thn (tabOf b).turned).thn ⟨1, 0, -near, 1⟩ := by
  unfold roundT roundP
  rw [tabOf_app, tabOf_cons, tabOf_app, tabOf_rev, T4.thn_assoc, T4.thn_assoc, tabOf_cons, show tabOf [] = T4.one from rfl, T4.thn_one]
  rfl
theorem HlS.g1 {near far g : Rat} {b : List Pt} (h : HlS near far b g) : g ≠ 0 := by
  rintro rfl
  exact absurd h.g0 (by decide +kernel)
theorem HlS.all {near far g : Rat} {b : List Pt} (h : HlS near far b g) : ∀ p ∈ roundP near far b, PtS g p := by
  intro p hp
  unfold roundP at hp
  simp only [List.mem_append, List.mem_cons, List.mem_reverse, List.not_mem_nil, or_false] at hp
  rcases hp with hp | rfl | hp | rfl
  · exact h.part p hp
  · exact h.far
  · exact h.part p hp
  · exact h.near
theorem HlS.nzs {near far g : Rat} {b : List Pt} (h : HlS near far b g) : nzs (roundP near far b) ≤ 14 := by
  have := h.nz
  unfold roundP
  rw [nzs_app, nzs_cons, nzs_app, nzs_rev, nzs_cons]
  unfold Rg.nzs Pt.isStop at *
  simp at *
  omega
theorem HlS.sz {near far g : Rat} {b : List Pt} (h : HlS near far b g) (i : Nat) : SzT ((tabOf ((roundP near far b).take i)).sc g) 71 := by
  refine (ptS_tabs h.g1 fun p hp => h.all p (List.mem_of_mem_take hp)).mono ?_
  have h1 := nzs_take (b := roundP near far b) (i := i)
  have h2 := h.nzs
  omega
theorem HlS.rsz {near far g : Rat} {b : List Pt} (h : HlS near far b g) : SzT ((roundT near far b).sc g) 71 := by
  have := h.sz (roundP near far b).length
  rwa [List.take_length] at this
theorem HlS.rsz2 {near far g : Rat} {b : List Pt} (h : HlS near far b g) : SzT (roundT near far b) 211 := h.rsz.unsc h.g1 h.gz
theorem PtS.num {g : Rat} {p : Pt} (h0 : g ≠ 0) (hg : Sz g 70) (h : PtS g p) : p.isStop = true ∨ Sz p.num 75 := by
  cases p with
  | stop r => exact .inl rfl
  | gap q =>
    have h1 : Sz (q / g) 4 := h.2
    have : Sz (q / g * g) (4 + 70) := inferInstance
    rw [show q / g * g = q by grind] at this
    exact .inr (this.mono (by decide))
  | glass q =>
    have h1 : Sz (q * g) 4 := h
    have : Sz (q * g / g) (4 + 70) := inferInstance
    rw [show q * g / g = q by grind] at this
    exact .inr (this.mono (by decide))
theorem tab_sz2 {p : Pt} {k : Nat} (h : p.isStop = true ∨ Sz p.num k) (k1 : 1 ≤ k := by first | decide | omega) : SzT p.tab k := by
  cases p with
  | stop r => exact SzT.mono (inferInstance : SzT T4.one 1) k1
  | gap q => exact tab_sz (h.resolve_left (by simp [Pt.isStop]))
  | glass q => exact tab_sz (h.resolve_left (by simp [Pt.isStop]))
theorem part_table2 {S : Store} {p : Pt} {k : Nat} (h : p.isStop = true ∨ Sz p.num k) (hk : k ≤ 8000) : m_part_table [eP p] S = .ok (eT p.tab) S := by
  cases p with
  | stop r =>
    refine Rok.eq ?_
    unfold m_part_table
    simp [rok_def, Pt.word, Pt.num, Pt.tab, T4.one]
  | gap q => exact part_table_eq (h.resolve_left (by simp [Pt.isStop])) hk
  | glass q => exact part_table_eq (h.resolve_left (by simp [Pt.isStop])) hk
theorem HlS.nsz {near far g : Rat} {b : List Pt} (h : HlS near far b g) : Sz near 75 ∧ Sz far 75 :=
  ⟨((h.all (.glass near) (by unfold roundP; simp)).num h.g1 h.gz).resolve_left (by simp [Pt.isStop]), ((h.all (.glass far) (by unfold roundP; simp)).num h.g1 h.gz).resolve_left (by simp [Pt.isStop])⟩
theorem round_det {near far : Rat} {b : List Pt} : (roundT near far b).det = 1 := tabOf_det _
/-- a hall: its bench a list or a tuple -/
def eH (near : Rat) (d : D) (far : Rat) : D := .tup [eQ near, d, eQ far]
section
variable {S : Store} {near far g : Rat} {b : List Pt} {d : D}
theorem mirror_eq {q : Rat} : m_mirror_table [eQ q] S = .ok (eT ⟨1, 0, -q, 1⟩) S := by
  refine Rok.eq ?_
  unfold m_mirror_table
  simp [rok_def]
theorem trace_eq {t : T4} {k : Nat} (ha : Sz t.a k) (hd : Sz t.d k) (hk : k ≤ 4000) : m_trace_of [eT t] S = .ok (eQ (t.a + t.d)) S := by
  have : k + k ≤ 8998 := by omega
  refine Rok.eq ?_
  unfold m_trace_of
  simp [rok_def, this]
end
end Rg
end
section
set_option exponentiation.threshold 10000
/-! RgL: lines. -/
namespace Rg
open PySem L2
structure Ln where
  p : Rat
  q : Rat
  r : Rat
def eL (l : Ln) : D := .tup [eQ l.p, eQ l.q, eQ l.r]
structure LnS (l : Ln) (k : Nat) : Prop where
  p : Sz l.p k
  q : Sz l.q k
  r : Sz l.r k
  nz : l.p ≠ 0 ∨ l.q ≠ 0
section
variable {S : Store} {N n : Nat} {l : Ln} {P : D → Store → Prop}
@[simp] theorem eL_fr : (eL l).fresh N = none := by unfold eL; simp
@[simp] theorem eL_un : (eL l).under N = true := by unfold eL; simp
@[simp] theorem eL_i0 : Rok (fIx (eL l) (.int 0) S) P ↔ P (eQ l.p) S := by unfold eL; rw [rok_ixT]; simp
@[simp] theorem eL_i1 : Rok (fIx (eL l) (.int 1) S) P ↔ P (eQ l.q) S := by unfold eL; rw [rok_ixT]; simp
@[simp] theorem eL_i2 : Rok (fIx (eL l) (.int 2) S) P ↔ P (eQ l.r) S := by unfold eL; rw [rok_ixT]; simp
@[simp] theorem eL_mk {p q r : Rat} : D.tup [eQ p, eQ q, eQ r] = eL ⟨p, q, r⟩ := rfl
@[simp] theorem gT_eL {f : List D → Env → Store → Option Env} {env : Env} : gT 3 f (eL l) env S = f [eQ l.p, eQ l.q, eQ l.r] env S := rfl
@[simp] theorem un_lines {L : List Ln} : unders N (L.map eL) = true := un_map fun _ _ => eL_un
theorem line_then (hp : Pool S n) (h : ∀ (l : Ln) (a b c : Int), LnS l 45 → P (eL l) (S.set n (pl a b c))) : Rok (m_l_line [.ref n] S) P := by
  have hn : n < S.length := hp.lt
  have hn' : ¬ S.length = n := by omega
  unfold m_l_line
  simp [rok_def]
  refine number_then hp fun p x y z hp1 => ?_
  simp
  refine number_then inferInstance fun q x y z hq1 => ?_
  simp
  by_cases hz : p = 0 ∧ q = 0
  · obtain ⟨rfl, rfl⟩ := hz
    simp
    refine next_then inferInstance (by decide) (by decide) fun v x y z v0 v1 => ?_
    simp
    refine next_then inferInstance (by decide) (by decide) fun u x y z u0 u1 => ?_
    simp [hn]
    refine next_then inferInstance (by decide) (by decide) fun w x y z w0 w1 => ?_
    simp [hn, hn']
    refine ix_all w0 (by simpa using w1) fun d hd => ?_
    obtain ⟨b, rfl, b0, b1⟩ : ∃ b : Int, d = .int b ∧ 0 < b ∧ b < 6 := by
      simp at hd
      rcases hd with rfl | rfl | rfl | rfl <;> exact ⟨_, rfl, by decide, by decide⟩
    refine low_then 5 (by omega) (by omega) (by omega) (by decide) fun hr => ?_
    simp [hn, hn']
    have e1 : (1 : Rat) + (v : Rat) = ((1 + v : Int) : Rat) := by rw [Rat.intCast_add]; rfl
    rw [e1]
    have hv : Sz (((1 + v : Int)) : Rat) 45 := ⟨by rw [Rat.num_intCast]; omega, by rw [Rat.den_intCast]; decide⟩
    refine h ⟨_, _, _⟩ _ _ _ ⟨hv, hq1.mono (by decide), hr.mono (by decide), .inl ?_⟩
    intro e
    have := Rat.intCast_eq_zero_iff.mp e
    omega
  · have hz' : p ≠ 0 ∨ q ≠ 0 := by grind
    rcases hz' with hz' | hz'
    · simp [hz']
      refine next_then inferInstance (by decide) (by decide) fun u x y z u0 u1 => ?_
      simp [hn]
      refine next_then inferInstance (by decide) (by decide) fun w x y z w0 w1 => ?_
      simp [hn, hn']
      refine ix_all w0 (by simpa using w1) fun d hd => ?_
      obtain ⟨b, rfl, b0, b1⟩ : ∃ b : Int, d = .int b ∧ 0 < b ∧ b < 6 := by
        simp at hd
        rcases hd with rfl | rfl | rfl | rfl <;> exact ⟨_, rfl, by decide, by decide⟩
      refine low_then 5 (by omega) (by omega) (by omega) (by decide) fun hr => ?_
      simp [hn, hn']
      exact h ⟨p, q, _⟩ _ _ _ ⟨hp1.mono (by decide), hq1.mono (by decide), hr.mono (by decide), .inl hz'⟩
    · simp [hz']
      refine next_then inferInstance (by decide) (by decide) fun u x y z u0 u1 => ?_
      simp [hn]
      refine next_then inferInstance (by decide) (by decide) fun w x y z w0 w1 => ?_
      simp [hn, hn']
      refine ix_all w0 (by simpa using w1) fun d hd => ?_
      obtain ⟨b, rfl, b0, b1⟩ : ∃ b : Int, d = .int b ∧ 0 < b ∧ b < 6 := by
        simp at hd
        rcases hd with rfl | rfl | rfl | rfl <;> exact ⟨_, rfl, by decide, by decide⟩
      refine low_then 5 (by omega) (by omega) (by omega) (by decide) fun hr => ?_
      simp [hn, hn']
      exact h ⟨p, q, _⟩ _ _ _ ⟨hp1.mono (by decide), hq1.mono (by decide), hr.mono (by decide), .inr hz'⟩
end
def OvL (D k : Nat) (l : Ln) : Prop := Ov D k l.p ∧ Ov D k l.q ∧ Ov D k l.r
structure Fam (L : List Ln) : Prop where
  sz : ∀ (j : Nat) (l : Ln), L[j]? = some l → LnS l (150 * (j + 1))
  ov : ∃ G : Nat, 0 < G ∧ G < 2 ^ (150 * L.length + 1) ∧ ∀ l ∈ L, OvL G (150 * L.length + 1) l
theorem fam_nil : Fam [] := ⟨by simp, 1, by decide, by decide, by simp⟩
theorem fam_snoc {L : List Ln} {l : Ln} (hF : Fam L) (hnz : l.p ≠ 0 ∨ l.q ≠ 0) (h : ∀ G, 0 < G → G < 2 ^ (150 * L.length + 1) → (∀ l ∈ L, OvL G (150 * L.length + 1) l) → ∃ E, 0 < E ∧ E < 2 ^ 140 ∧ OvL (G * E) (150 * L.length + 145) l) : Fam (L ++ [l]) := by
  obtain ⟨G, g0, g1, g2⟩ := hF.ov
  obtain ⟨E, e0, e1, e2⟩ := h G g0 g1 g2
  have k0 : 0 < G * E := Nat.mul_pos g0 e0
  have k1 : G * E < 2 ^ (150 * L.length + 1 + 140) := mul_lt2 g1 e1
  have k2 : G * E < 2 ^ (150 * L.length + 145) := Nat.lt_of_lt_of_le k1 (pow_le (by omega))
  refine ⟨fun j m hm => ?_, G * E, k0, ?_, fun m hm => ?_⟩
  · rcases Nat.lt_or_ge j L.length with hj | hj
    · rw [List.getElem?_append_left hj] at hm
      exact hF.sz j m hm
    · rw [List.getElem?_append_right hj] at hm
      have hj0 : j - L.length = 0 := by
        have := (List.getElem?_eq_some_iff.mp hm).1
        simp at this
        omega
      rw [hj0] at hm
      cases hm
      have : 150 * L.length + 145 ≤ 150 * (j + 1) := by omega
      exact ⟨(e2.1.sz k0 k2).mono this, (e2.2.1.sz k0 k2).mono this, (e2.2.2.sz k0 k2).mono this, hnz⟩
  · exact Nat.lt_of_lt_of_le k1 (pow_le (by simp; omega))
  · have hk : 150 * L.length + 1 + 140 ≤ 150 * (L ++ [l]).length + 1 := by simp; omega
    have hk2 : 150 * L.length + 145 ≤ 150 * (L ++ [l]).length + 1 := by simp; omega
    rcases List.mem_append.mp hm with hm | hm
    · obtain ⟨a, b, c⟩ := g2 m hm
      exact ⟨(a.up e1).mono hk, (b.up e1).mono hk, (c.up e1).mono hk⟩
    · rw [List.mem_singleton.mp hm]
      exact ⟨e2.1.mono hk2, e2.2.1.mono hk2, e2.2.2.mono hk2⟩
theorem fam_new {L : List Ln} {l : Ln} (hF : Fam L) (h : LnS l 45) : Fam (L ++ [l]) := by
  refine fam_snoc hF h.nz fun G g0 g1 g2 => ⟨l.p.den * l.q.den * l.r.den, Nat.mul_pos (Nat.mul_pos l.p.den_pos l.q.den_pos) l.r.den_pos, Nat.lt_of_lt_of_le (mul_lt2 (mul_lt2 h.p.den h.q.den) h.r.den) (pow_le (by decide)), ?_, ?_, ?_⟩
  · have := ((h.p.ov.up h.q.den).up h.r.den).up g1
    rw [Nat.mul_comm G]
    exact this.mono (by omega)
  · have := ((h.q.ov.up h.p.den).up h.r.den).up g1
    rw [Nat.mul_comm G, Nat.mul_comm l.p.den]
    exact this.mono (by omega)
  · have := (h.r.ov.up (mul_lt2 h.p.den h.q.den)).up g1
    rw [Nat.mul_comm G, Nat.mul_comm _ l.r.den]
    exact this.mono (by omega)
theorem fam_by {L : List Ln} {l m : Ln} {b r : Rat} (hF : Fam L) (hl : l ∈ L) (hm : LnS m 45) (hb : Sz b 4) (hb0 : b ≠ 0) (hnz : l.p ≠ 0 ∨ l.q ≠ 0) (hr : r = l.r ∨ r = m.r) : Fam (L ++ [⟨b * l.p, b * l.q, r⟩]) := by
  refine fam_snoc hF ?_ fun G g0 g1 g2 => ⟨b.den * m.r.den, Nat.mul_pos b.den_pos m.r.den_pos, Nat.lt_of_lt_of_le (mul_lt2 hb.den hm.r.den) (pow_le (by decide)), ?_, ?_, ?_⟩
  · rcases hnz with h | h
    · exact .inl (by show b * l.p ≠ 0; grind)
    · exact .inr (by show b * l.q ≠ 0; grind)
  · have := (hb.ov.mul (g2 l hl).1).up hm.r.den
    rw [← Nat.mul_assoc, Nat.mul_comm G]
    exact this.mono (by omega)
  · have := (hb.ov.mul (g2 l hl).2.1).up hm.r.den
    rw [← Nat.mul_assoc, Nat.mul_comm G]
    exact this.mono (by omega)
  · rcases hr with rfl | rfl
    · have := (g2 l hl).2.2.up (mul_lt2 hb.den hm.r.den)
      exact this.mono (by omega)
    · have := (hm.r.ov.up hb.den).up g1
      rw [Nat.mul_comm G, Nat.mul_comm b.den]
      exact this.mono (by omega)
theorem fam_sum {L : List Ln} {l m : Ln} (hF : Fam L) (hl : l ∈ L) (hm : m ∈ L) (hnz : l.p + m.p ≠ 0 ∨ l.q + m.q ≠ 0) : Fam (L ++ [⟨l.p + m.p, l.q + m.q, l.r + m.r⟩]) := by
  refine fam_snoc hF hnz fun G g0 g1 g2 => ⟨1, by decide, by decide, ?_, ?_, ?_⟩
  · rw [Nat.mul_one]; exact ((g2 l hl).1.add (g2 m hm).1 (Nat.le_refl _)).mono (by omega)
  · rw [Nat.mul_one]; exact ((g2 l hl).2.1.add (g2 m hm).2.1 (Nat.le_refl _)).mono (by omega)
  · rw [Nat.mul_one]; exact ((g2 l hl).2.2.add (g2 m hm).2.2 (Nat.le_refl _)).mono (by omega)
theorem fam_copy {L : List Ln} {l : Ln} (hF : Fam L) (hl : l ∈ L) (hnz : l.p ≠ 0 ∨ l.q ≠ 0) : Fam (L ++ [l]) := by
  refine fam_snoc hF hnz fun G g0 g1 g2 => ⟨1, by decide, by decide, ?_, ?_, ?_⟩
  · rw [Nat.mul_one]; exact (g2 l hl).1.mono (by omega)
  · rw [Nat.mul_one]; exact (g2 l hl).2.1.mono (by omega)
  · rw [Nat.mul_one]; exact (g2 l hl).2.2.mono (by omega)
theorem Fam.mem {L : List Ln} {l : Ln} (hF : Fam L) (hl : l ∈ L) : LnS l (150 * L.length) := by
  obtain ⟨j, hj, e⟩ := List.getElem_of_mem hl
  have h := hF.sz j l (by rw [List.getElem?_eq_getElem hj, e])
  have : 150 * (j + 1) ≤ 150 * L.length := by omega
  exact ⟨h.p.mono this, h.q.mono this, h.r.mono this, h.nz⟩
end Rg
end
section
set_option exponentiation.threshold 10000
/-! RgLd: the lines of a bench. -/
namespace Rg
open PySem L2
def lineOf (t : T4) : Option Pt → List Ln
  | some (.stop r) => [⟨t.a, t.b, r⟩]
  | _ => []
/-- the lines of the first i parts' stops -/
def linesTo (b : List Pt) : Nat → List Ln
  | 0 => []
  | i + 1 => linesTo b i ++ lineOf (tabOf (b.take i)) b[i]?
theorem linesTo_succ {b : List Pt} {i : Nat} : linesTo b (i + 1) = linesTo b i ++ lineOf (tabOf (b.take i)) b[i]? := by rw [linesTo]
theorem lineOf_len {t : T4} {o : Option Pt} : (lineOf t o).length ≤ 1 := by
  unfold lineOf
  split <;> simp
theorem linesTo_len {b : List Pt} {i : Nat} : (linesTo b i).length ≤ i := by
  induction i with
  | zero => simp [linesTo]
  | succ i ih =>
    rw [linesTo_succ, List.length_append]
    have := lineOf_len (t := tabOf (b.take i)) (o := b[i]?)
    omega
section
variable {S : Store} {b : List Pt} {k n : Nat}
theorem lines_of_list (h : ∀ p ∈ b, Sz p.num k) (hlen : b.length ≤ 13) (hk : k ≤ 80) (hl : lstOf S n = some (b.map eP)) : m_lines_of [.ref n] S = .ok (.ref S.length) (S ++ [.lst ((linesTo b b.length).map eL)]) := by
  refine Rok.eq ?_
  unfold m_lines_of
  simp [rok_def, sok_for, lstOf_app hl]
  refine sok_forRun (fun i e S' => S' = S ++ [.lst ((linesTo b i).map eL)] ∧ ∃ o, e = [some (.ref n), some (.ref S.length), some (eT (tabOf (b.take i))), o]) _ (fun i e S' h => ?_) ?_ ?_ _ _ ⟨rfl, none, rfl⟩
  · obtain ⟨rfl, _⟩ := h; exact lstOf_app hl
  · rintro i d e S' hi ⟨rfl, o, rfl⟩
    rw [List.getElem?_map] at hi
    obtain ⟨p, hp, rfl⟩ := Option.map_eq_some_iff.mp hi
    have hm := List.mem_of_getElem? hp
    have hi := (List.getElem?_eq_some_iff.mp hp).1
    have s1 := take_sz (i := i) h hlen hk
    have s2 := tab_sz (h p hm)
    have a1 : 1100 + 1100 + k ≤ 4000 := by omega
    have a2 := linesTo_len (b := b) (i := i)
    rw [linesTo_succ, hp, tabOf_take hp]
    have pt := fun S => part_table_eq (S := S) (h p hm) (by omega)
    cases p with
    | stop r =>
      simp [pt, a1, Pt.word, Pt.num, lineOf]
      omega
    | gap g => simp [pt, a1, Pt.word, Pt.num, lineOf]
    | glass g => simp [pt, a1, Pt.word, Pt.num, lineOf]
  · rintro e S' ⟨rfl, o, rfl⟩
    simp
theorem lines_of_tup (h : ∀ p ∈ b, Sz p.num k) (hlen : b.length ≤ 13) (hk : k ≤ 80) : m_lines_of [.tup (b.map eP)] S = .ok (.ref S.length) (S ++ [.lst ((linesTo b b.length).map eL)]) := by
  refine Rok.eq ?_
  unfold m_lines_of
  simp [rok_def, sok_for]
  refine sok_forRun (fun i e S' => S' = S ++ [.lst ((linesTo b i).map eL)] ∧ ∃ o, e = [some (.tup (b.map eP)), some (.ref S.length), some (eT (tabOf (b.take i))), o]) _ (fun i e S' h => ?_) ?_ ?_ _ _ ⟨rfl, none, rfl⟩
  · trivial
  · rintro i d e S' hi ⟨rfl, o, rfl⟩
    rw [List.getElem?_map] at hi
    obtain ⟨p, hp, rfl⟩ := Option.map_eq_some_iff.mp hi
    have hm := List.mem_of_getElem? hp
    have hi := (List.getElem?_eq_some_iff.mp hp).1
    have s1 := take_sz (i := i) h hlen hk
    have s2 := tab_sz (h p hm)
    have a1 : 1100 + 1100 + k ≤ 4000 := by omega
    have a2 := linesTo_len (b := b) (i := i)
    rw [linesTo_succ, hp, tabOf_take hp]
    have pt := fun S => part_table_eq (S := S) (h p hm) (by omega)
    cases p with
    | stop r =>
      simp [pt, a1, Pt.word, Pt.num, lineOf]
      omega
    | gap g => simp [pt, a1, Pt.word, Pt.num, lineOf]
    | glass g => simp [pt, a1, Pt.word, Pt.num, lineOf]
  · rintro e S' ⟨rfl, o, rfl⟩
    simp
end
end Rg
end
section
set_option exponentiation.threshold 10000
/-! RgDa: the draws and the reckoning of the laws of cones; things that are lists or tuples. -/
namespace Rg
open PySem L2
/-- a list or a tuple that holds so much -/
def Sq (S : Store) (d : D) (l : List D) : Prop := d = .tup l ∨ ∃ n, d = .ref n ∧ lstOf S n = some l
section
variable {S C : Store} {d : D} {l : List D}
theorem Sq.app (h : Sq S d l) : Sq (S ++ C) d l := by
  rcases h with h | ⟨n, h, e⟩
  · exact .inl h
  · exact .inr ⟨n, h, lstOf_app e⟩
theorem Sq.set {n : Nat} {c : Cell} {l0 : List D} (h : Sq S d l) (hn : lstOf S n = some l0) (hd : d ≠ .ref n) : Sq (S.set n c) d l := by
  rcases h with h | ⟨m, h, e⟩
  · exact .inl h
  · refine .inr ⟨m, h, ?_⟩
    rw [lstOf_setn (by rintro rfl; exact hd h)]
    exact e
theorem Sq.setp {n : Nat} {c : Cell} (h : Sq S d l) (hp : Pool S n) (hd : d ≠ .ref n) : Sq (S.set n c) d l := by
  obtain ⟨a, b, c', e⟩ := hp.ex
  exact h.set (lstOf_lst e) hd
theorem Sq.iter {P : Wk → Store → Prop} (h : Sq S d l) (k : ∀ chk : Store → Prop, (∀ S', Sq S' d l → chk S') → P ⟨l, chk⟩ S) : Rok (fIter d S) P := by
  rcases h with rfl | ⟨n, rfl, e⟩
  · rw [rok_fIterT]
    exact k _ fun _ _ => trivial
  · rw [rok_fIterL]
    refine ⟨l, e, k _ fun S' h => ?_⟩
    rcases h with h | ⟨m, h, e⟩
    · cases h
    · cases h; exact e
theorem Sq.list {P : D → Store → Prop} (h : Sq S d l) (k : P (.ref S.length) (S ++ [.lst l])) : Rok (fList [d] S) P := by
  rcases h with rfl | ⟨n, rfl, e⟩
  · rw [rok_listT]; exact k
  · rw [rok_listL]; exact ⟨l, e, k⟩
theorem Sq.len {P : D → Store → Prop} (h : Sq S d l) (k : P (.int (l.length : Nat)) S) : Rok (fLen [d] S) P := by
  rcases h with rfl | ⟨n, rfl, e⟩
  · rw [rok_lenT]; exact k
  · rw [rok_lenL]; exact ⟨l, e, k⟩
theorem Sq.ix {P : D → Store → Prop} {i : Int} {x : D} (h : Sq S d l) (hx : atI l i = some x) (k : P x S) : Rok (fIx d (.int i) S) P := by
  rcases h with rfl | ⟨n, rfl, e⟩
  · rw [rok_ixT]; exact ⟨x, hx, k⟩
  · rw [rok_ixL]; exact ⟨l, x, e, hx, k⟩
theorem Sq.ty (h : Sq S d l) : tyOf S d = some .tup ∨ tyOf S d = some .lst := by
  rcases h with rfl | ⟨n, rfl, e⟩
  · exact .inl rfl
  · exact .inr (ty_lst e)
end
section
variable {S : Store} {p q : Rat} {i j k n m : Nat}
@[simp] theorem m_l_take_eq [hp : Sz p i] [hq : Sz q j] (h : i + j ≤ 8998) : m_l_take [eQ p, eQ q] S = .ok (eQ (p - q)) S := by
  refine Rok.eq ?_
  unfold m_l_take
  rw [rok_def]
  simp [hp.CMnd hq (by omega), hq.CMnd hp (by omega), hp.CMdd hq (by omega)]
  rw [ratio2_eq dd_ne (dd_lt hp hq (by omega)), sub_di]
  simp
theorem m_l_over_3_eq [hp : Sz p i] [hq : Sz q j] (hn : q ≠ 0) (h : i + j ≤ 8998) : m_l_over_3 [eQ p, eQ q] S = .ok (eQ (p / q)) S := by
  refine Rok.eq ?_
  unfold m_l_over_3
  rw [rok_def]
  simp [hp.CMnd hq (by omega), hp.CMdn hq (by omega)]
  rw [ratio2_eq (Int.mul_ne_zero den_ne (num_ne hn)) (dn_lt hp hq (by omega)), div_di]
  simp
@[simp] theorem m_l_under_eq [hp : Sz p i] [hq : Sz q j] (h : i + j ≤ 999998) : m_l_under [eQ p, eQ q] S = .ok (.bl (decide (p < q))) S := by
  refine Rok.eq ?_
  unfold m_l_under
  rw [rok_def]
  simp [hp.CMnd hq (by omega), hq.CMnd hp (by omega)]
  rw [Rat.lt_iff]
theorem led_3_eq {p : Pt} {r : Ry} {i k : Nat} (hp : Sz p.num i) (hr : SzR r k) (h : i + k + k ≤ 8000) : m_l_led_3 [eP p, eR r] S = .ok (eR (p.tab.led r)) S := by
  refine Rok.eq ?_
  unfold m_l_led_3
  have a1 : i + k ≤ 8998 := by omega
  have a2 : k + (i + k) ≤ 8998 := by omega
  cases p with
  | gap g =>
    have hp : Sz g i := hp
    simp [rok_def, Pt.word, Pt.num, a1, a2, tab_led]
  | glass g =>
    have hp : Sz g i := hp
    simp [rok_def, Pt.word, Pt.num, a1, a2, tab_led]
  | stop g => simp [rok_def, Pt.word, Pt.num, tab_led]
theorem through_eq {b : List Pt} {r : Ry} {d : D} (hb : Bk b k) (hk : k ≤ 80) (hr : SzR r m) (hm : m ≤ 1000) (hl : Sq S d (b.map eP)) : m_l_through_2 [d, eR r] S = .ok (eR ((tabOf b).led r)) S := by
  refine Rok.eq ?_
  unfold m_l_through_2
  simp [rok_def, sok_for]
  refine hl.iter fun chk hchk => ?_
  refine sok_forRun (fun i e S' => S' = S ∧ ∃ o, e = [some d, some (eR ((tabOf (b.take i)).led r)), o]) _ (fun i e S' h => ?_) ?_ ?_ _ _ ⟨rfl, none, by rw [List.take_zero]; simp only [tabOf, List.foldl_nil, T4.one_led]⟩
  · obtain ⟨rfl, _⟩ := h; exact hchk _ hl
  · rintro i d e S' hi ⟨rfl, o, rfl⟩
    rw [List.getElem?_map] at hi
    obtain ⟨p, hp, rfl⟩ := Option.map_eq_some_iff.mp hi
    have hm := List.mem_of_getElem? hp
    have s1 := take_sz (i := i) hb.sz hb.len hk
    have s2 : SzR ((tabOf (b.take i)).led r) (1100 + m + 1) := inferInstance
    simp [led_3_eq (hb.sz p hm) s2 (by omega)]
    rw [led_take hp]
  · rintro e S' ⟨rfl, o, rfl⟩
    simp
theorem number3_then {P : D → Store → Prop} (hp : Pool S n) (h : ∀ (q : Rat) (a b c : Int), Sz q 41 → P (eQ q) (S.set n (pl a b c))) : Rok (m_l_number_3 [.ref n] S) P := by
  have hn : n < S.length := hp.lt
  unfold m_l_number_3
  simp [rok_def]
  refine next_then hp (by decide) (by decide) fun v a b c v0 v1 => ?_
  simp
  refine ⟨fun _ => ?_, fun _ => ⟨fun _ => ?_, fun _ => ?_⟩⟩
  · refine next_then inferInstance (by decide) (by decide) fun w a b c w0 w1 => ?_
    simp [hn]
    have : Sz (((w - 3 : Int)) : Rat) 41 := ⟨by rw [Rat.num_intCast]; omega, by rw [Rat.den_intCast]; decide⟩
    rw [Rat.intCast_sub] at this
    exact h _ _ _ _ this
  · refine next_then inferInstance (by decide) (by decide) fun w a b c w0 w1 => ?_
    simp
    refine next_then inferInstance (by decide) (by decide) fun x a b c x0 x1 => ?_
    simp
    refine ratio2_then 41 (by omega) (by omega) (by omega) (by decide) fun hz => ?_
    simp [hn]
    exact h _ _ _ _ hz
  · refine ⟨CPow_s (by decide) (by decide) (by decide), ?_⟩
    refine next_then inferInstance (by decide) (by decide) fun w a b c w0 w1 => ?_
    simp
    refine ⟨CPow_s (by decide) (by decide) (by decide), ?_⟩
    refine next_then inferInstance (by decide) (by decide) fun x a b c x0 x1 => ?_
    simp
    refine ⟨CPow_s (by decide) (by decide) (by decide), ?_⟩
    refine next_then inferInstance (by decide) (by decide) fun y a b c y0 y1 => ?_
    simp
    refine ratio2_then 41 (by omega) (by omega) (by omega) (by decide) fun hz => ?_
    simp [hn]
    exact h _ _ _ _ hz
/-- words of parts -/
def Words (ws : List Str) : Prop := ws ≠ [] ∧ ws.length < 1000 ∧ ∀ w ∈ ws, w = "gap" ∨ w = "glass" ∨ w = "stop"
theorem max_stop {q : Rat} : D.tup [.int (max 1 (q.num.natAbs : Int)), .int (q.den : Nat)] = eQ (if q = 0 then 1 else q.abs) := by
  by_cases h : q = 0
  · subst h; rfl
  · have : q.num ≠ 0 := num_ne h
    rw [if_neg h, ← abs_tup]
    congr 3
    omega
theorem part3_then {ws : List Str} {P : D → Store → Prop} (hp : Pool S n) (hw : Words ws) (hl : lstOf S m = some (ws.map D.str)) (hmn : m ≠ n) (h : ∀ (p : Pt) (a b c : Int), Sz p.num 41 → p.ok → p.word ∈ ws → P (eP p) (S.set n (pl a b c))) : Rok (m_l_part_3 [.ref n, .ref m] S) P := by
  have hn : n < S.length := hp.lt
  obtain ⟨w0, w1, w2⟩ := hw
  have hpos : 0 < ws.length := List.length_pos_iff.mpr w0
  unfold m_l_part_3
  simp [rok_def, hl]
  refine next_then hp (by omega) (Nat.lt_of_lt_of_le (show (ws.length : Int).natAbs < 2 ^ 10 by simp; omega) (pow_le (by decide))) fun v a b c v0 v1 => ?_
  simp [hl, hmn]
  refine ix_all v0 (by simpa using v1) fun x hx => ?_
  obtain ⟨w, hw, rfl⟩ := List.mem_map.mp hx
  refine number3_then inferInstance fun q a b c hq => ?_
  simp
  rcases w2 w hw with rfl | rfl | rfl
  · simp [hn, abs_tup]
    exact h (.gap q.abs) _ _ _ (sz_abs hq) Rat.abs_nonneg hw
  · simp [hn]
    exact h (.glass q) _ _ _ hq trivial hw
  · simp [hn, max_stop]
    by_cases hz : q = 0
    · simp [hz]
      exact h (.stop 1) _ _ _ (Sz.mono (inferInstance : Sz 1 1) (by decide)) (show (0 : Rat) < 1 by grind) hw
    · simp [hz]
      exact h (.stop q.abs) _ _ _ (sz_abs hq) (Rat.abs_pos_iff.mpr hz) hw
theorem bench3_then {ws : List Str} {cnt : Int} {P : D → Store → Prop} (hp : Pool S n) (hw : Words ws) (hl : lstOf S m = some (ws.map D.str)) (hmn : m ≠ n) (c0 : 0 ≤ cnt) (c1 : cnt ≤ 12) (h : ∀ (b : List Pt) (x y z : Int), Bk b 41 → (b.length : Int) ≤ cnt → (∀ p ∈ b, p.word ∈ ws) → P (.ref S.length) (S.set n (pl x y z) ++ [.lst (b.map eP)])) : Rok (m_l_bench_3 [.ref n, .int cnt, .ref m] S) P := by
  have hn : n < S.length := hp.lt
  have hm := lstOf_lt hl
  unfold m_l_bench_3
  simp [rok_def, rok_comp]
  refine next_then hp (by omega) (Nat.lt_of_lt_of_le (show (cnt + 1).natAbs < 2 ^ 10 by omega) (pow_le (by decide))) fun k x y z k0 k1 => ?_
  simp [hn]
  refine ⟨⟨by omega, by omega⟩, ?_⟩
  refine rok_compRun (fun i S' => ∃ (l : List Pt) (x y z : Int), S' = S.set n (pl x y z) ++ [.lst (l.map eP)] ∧ l.length = i ∧ (∀ p ∈ l, Sz p.num 41) ∧ (∀ p ∈ l, p.ok) ∧ ∀ p ∈ l, p.word ∈ ws) _ (fun _ _ _ => trivial) ?_ ?_ _ ⟨[], x, y, z, rfl, rfl, by simp, by simp, by simp⟩
  · rintro i d S' hi ⟨l, x, y, z, rfl, hl2, h1, h2, h3⟩
    have hi2 : i < k.toNat := by
      have := (List.getElem?_eq_some_iff.mp hi).1
      simpa using this
    simp
    refine part3_then (n := n) (ws := ws) inferInstance hw (by rw [lstOf_left (by simpa using hm), lstOf_setn hmn]; exact hl) hmn fun p x y z hz hk hpw => ?_
    simp [hn]
    refine ⟨by omega, l ++ [p], ⟨⟨x, y, z, rfl⟩, by simp⟩, by simp [hl2], ?_, ?_, ?_⟩
    · intro q hq
      rcases List.mem_append.mp hq with hq | hq
      · exact h1 q hq
      · rw [List.mem_singleton.mp hq]; exact hz
    · intro q hq
      rcases List.mem_append.mp hq with hq | hq
      · exact h2 q hq
      · rw [List.mem_singleton.mp hq]; exact hk
    · intro q hq
      rcases List.mem_append.mp hq with hq | hq
      · exact h3 q hq
      · rw [List.mem_singleton.mp hq]; exact hpw
  · rintro S' ⟨l, x, y, z, rfl, hl2, h1, h2, h3⟩
    rw [rangeD_len] at hl2
    have := gc_poolN (S := S) (n := n) (a := x) (b := y) (c := z) (C := [.lst (l.map eP)]) (k := S.length) (d := .ref S.length) (l := l.map eP) hn (by simp) (by simp) (by rw [List.getElem?_append_right (by simp)]; simp) (by simp)
    simp at this ⊢
    rw [this, rok_ok]
    exact h l x y z ⟨by omega, h1, h2⟩ (by omega) h3
theorem lines_of_sq {b : List Pt} {d : D} (h : Bk b k) (hk : k ≤ 80) (hl : Sq S d (b.map eP)) : m_lines_of [d] S = .ok (.ref S.length) (S ++ [.lst ((linesTo b b.length).map eL)]) := by
  rcases hl with rfl | ⟨n, rfl, e⟩
  · exact lines_of_tup h.sz h.len hk
  · exact lines_of_list h.sz h.len hk e
end
end Rg
end
section
set_option exponentiation.threshold 10000
/-! RgHd: roots; kinds of halls. -/
namespace Rg
open PySem L2
open Classical in
/-- the root from 0 on -/
noncomputable def rootQ (q : Rat) : Option Rat := if h : ∃ r : Rat, 0 ≤ r ∧ r * r = q then some h.choose else none
theorem rootQ_some {q r : Rat} (h : rootQ q = some r) : 0 ≤ r ∧ r * r = q := by
  unfold rootQ at h
  split at h
  · rename_i e
    cases h
    exact e.choose_spec
  · cases h
theorem rootQ_none {q : Rat} (h : rootQ q = none) (r : Rat) : r * r ≠ q := by
  unfold rootQ at h
  split at h
  · cases h
  · rename_i e
    intro z
    rcases Rat.le_total (a := 0) (b := r) with h0 | h0
    · exact e ⟨r, h0, z⟩
    · exact e ⟨-r, by grind, by grind⟩
theorem root_same {r s : Rat} (hr : 0 ≤ r) (hs : 0 ≤ s) (h : r * r = s * s) : r = s := by
  have : (r - s) * (r + s) = 0 := by grind
  rcases Rat.mul_eq_zero.mp this with h1 | h1
  · grind
  · grind
theorem root_no {S : Store} {q : Rat} {k : Nat} (hq : Sz q k) (hk : k ≤ 4000) (h : ∀ r : Rat, r * r ≠ q) : m_root [eQ q] S = .ok .non S := by
  refine Rok.eq ?_
  unfold m_root
  simp [rok_def]
  intro h0
  have h' := Rat.num_nonneg.mpr h0
  have d0 : (0 : Int) ≤ q.den := by omega
  have d1 : ((q.den : Int)).natAbs < 2 ^ k := by simpa using hq.den
  have i1 := isq_lt h' (by omega) hq.num
  have i2 := isq_lt d0 (by omega) d1
  rw [(m_whole_root_eq h' (by omega) hq.num).1]
  simp
  rw [(m_whole_root_eq d0 (by omega) d1).1]
  simp [CM_w i1 i1 (by omega), CM_w i2 i2 (by omega)]
  intro h1 h2
  have dn : isq (q.den : Int) ≠ 0 := by
    intro z
    rw [z] at h2
    have := q.den_pos
    omega
  refine absurd ?_ (h (Rat.divInt (isq q.num) (isq q.den)))
  rw [Rat.divInt_mul_divInt, h1, h2]
  exact Rat.num_divInt_den q
theorem root_full {S : Store} {q : Rat} {k : Nat} (hq : Sz q k) (hk : k ≤ 4000) : m_root [eQ q] S = .ok (eO (rootQ q)) S := by
  cases h : rootQ q with
  | none => exact root_no hq hk (rootQ_none h)
  | some r =>
    obtain ⟨h0, rfl⟩ := rootQ_some h
    have hr : Sz r k := by
      constructor
      · have := hq.num
        rw [sq_num, Int.natAbs_mul] at this
        exact Nat.lt_of_le_of_lt (Nat.le_mul_self _) this
      · have := hq.den
        have e : ((r * r).den : Int) = r.den * r.den := by rw [sq_den]; simp
        have e2 : (r * r).den = r.den * r.den := by exact_mod_cast e
        rw [e2] at this
        exact Nat.lt_of_le_of_lt (Nat.le_mul_self _) this
    rw [root_sq hr hk]
    have : r.abs = r := by
      rw [Rat.abs_of_nonneg h0]
    rw [this]
    rfl
end Rg
end
section
set_option exponentiation.threshold 10000
/-! RgHe: kinds of halls, by the program. -/
namespace Rg
open PySem L2
def T4.tr (t : T4) : Rat := t.a + t.d
def keptT (t : T4) (s : Rat) : Ry := if t.a = s ∧ t.b = 0 then ⟨t.d - s, -t.c⟩ else ⟨t.b, s - t.a⟩
noncomputable def lesserQ (x : Rat) : Option Rat := match rootQ (x * x - 4) with
  | none => none
  | some r => some ((x - if x < 0 then -r else r) / 2)
inductive Kd where
  | same (n : Nat) | turns | shear (r : Ry) | off (k : Option Rat)
noncomputable def kindT (t : T4) : Kd :=
  if t = T4.one then .same 1 else if t = T4.one.neg then .same 2 else if t.tr = -1 then .same 3 else if t.tr = 0 then .same 4 else if t.tr = 1 then .same 6
  else if t.tr.abs < 2 then .turns else if t.tr.abs = 2 then .shear (keptT t (if t.tr < 0 then -1 else 1)) else .off (lesserQ t.tr)
def formT (t : T4) : Ln := ⟨t.c, t.d - t.a, -t.b⟩
def eK (t : T4) : Kd → D
  | .same n => .tup [.str "same", .int (n : Nat)]
  | .turns => .tup [.str "turns", eL (formT t)]
  | .shear r => .tup [.str "shear", eR r]
  | .off k => .tup [.str "off", eO k]
section
variable {S : Store} {near far g : Rat} {b : List Pt} {d : D} {t : T4} {k : Nat}
theorem table_of_sq2 (h : Bk b k) (hk : k ≤ 80) (hl : Sq S d (b.map eP)) : m_table_of [d] S = .ok (eT (tabOf b)) S := by
  rcases hl with rfl | ⟨n, rfl, hl⟩
  · exact table_of_tup h hk
  · exact table_of_list h hk hl
/-- the table of a hall's bench -/
theorem table_of_hl (h : HlS near far b g) (hl : Sq S d (b.map eP)) : m_table_of [d] S = .ok (eT (tabOf b)) S := by
  have hs : ∀ i, SzT (tabOf (b.take i)) 171 := fun i => by
    have := (ptS_tabs h.g1 (b := b.take i) fun p hp => h.part p (List.mem_of_mem_take hp)).unsc h.g1 h.gz
    refine this.mono ?_
    have h1 := h.nz
    have h2 := nzs_take (b := b) (i := i)
    unfold nzs at *
    omega
  have step : ∀ i p, b[i]? = some p → ∀ T, m_behind [eT (tabOf (b.take i)), eT p.tab] T = .ok (eT (tabOf (b.take (i + 1)))) T ∧ m_part_table [eP p] T = .ok (eT p.tab) T := fun i p hp T => by
    have hm := List.mem_of_getElem? hp
    have hn := (h.part p hm).num h.g1 h.gz
    have s1 := hs i
    have s2 := tab_sz2 hn
    refine ⟨?_, part_table2 hn (by decide)⟩
    rw [tabOf_take hp]
    simp
  refine Rok.eq ?_
  unfold m_table_of
  rcases hl with rfl | ⟨n, rfl, hl⟩
  · simp [rok_def, sok_for]
    refine sok_forRun (fun i e S' => S' = S ∧ ∃ o, e = [some (.tup (b.map eP)), some (eT (tabOf (b.take i))), o]) _ (fun i e S' h => trivial) ?_ ?_ _ _ ⟨rfl, none, rfl⟩
    · rintro i d e S' hi ⟨rfl, o, rfl⟩
      rw [List.getElem?_map] at hi
      obtain ⟨p, hp, rfl⟩ := Option.map_eq_some_iff.mp hi
      have := step i p hp
      simp [fun T => (this T).1, fun T => (this T).2]
    · rintro e S' ⟨rfl, o, rfl⟩
      simp
  · simp [rok_def, sok_for, hl]
    refine sok_forRun (fun i e S' => S' = S ∧ ∃ o, e = [some (.ref n), some (eT (tabOf (b.take i))), o]) _ (fun i e S' h => ?_) ?_ ?_ _ _ ⟨rfl, none, rfl⟩
    · obtain ⟨rfl, _⟩ := h; exact hl
    · rintro i d e S' hi ⟨rfl, o, rfl⟩
      rw [List.getElem?_map] at hi
      obtain ⟨p, hp, rfl⟩ := Option.map_eq_some_iff.mp hi
      have := step i p hp
      simp [fun T => (this T).1, fun T => (this T).2]
    · rintro e S' ⟨rfl, o, rfl⟩
      simp
@[simp] theorem gT_eH {f : List D → Env → Store → Option Env} {env : Env} : gT 3 f (eH near d far) env S = f [eQ near, d, eQ far] env S := rfl
theorem round_eq (h : HlS near far b g) (hl : Sq S d (b.map eP)) : m_round_of [eH near d far] S = .ok (eT (roundT near far b)) S := by
  have h1 : SzT (tabOf b) 181 := by
    have := (ptS_tabs h.g1 h.part).unsc h.g1 h.gz
    refine this.mono ?_
    have := h.nz
    unfold nzs
    omega
  have h2 : SzT (tabOf b).turned 181 := inferInstance
  have := h.nsz.1
  have := h.nsz.2
  have m1 : SzT ⟨1, 0, -far, 1⟩ 75 := szT_glass (sz_neg h.nsz.2)
  have m2 : SzT ⟨1, 0, -near, 1⟩ 75 := szT_glass (sz_neg h.nsz.1)
  have h3 : SzT ((tabOf b).thn ⟨1, 0, -far, 1⟩) 260 := SzT.mono (inferInstance : SzT ((tabOf b).thn ⟨1, 0, -far, 1⟩) (181 + 75 + 1)) (by decide)
  have h4 : SzT (((tabOf b).thn ⟨1, 0, -far, 1⟩).thn (tabOf b).turned) 450 := SzT.mono (inferInstance : SzT (((tabOf b).thn ⟨1, 0, -far, 1⟩).thn (tabOf b).turned) (260 + 181 + 1)) (by decide)
  refine Rok.eq ?_
  unfold m_round_of
  simp [rok_def]
  rw [table_of_hl h hl]
  simp [mirror_eq]
  rw [roundT_eq]
theorem form_eq (h : HlS near far b g) (hl : Sq S d (b.map eP)) : m_form [eH near d far] S = .ok (eL (formT (roundT near far b))) S := by
  have hz := h.rsz2
  refine Rok.eq ?_
  unfold m_form
  simp [rok_def]
  rw [round_eq h hl]
  simp [formT]
theorem kept_eq {s : Rat} (ht : SzT t 211) (hs : Sz s 10) : m_kept_ray [eT t, eQ s] S = .ok (eR (keptT t s)) S := by
  refine Rok.eq ?_
  unfold m_kept_ray keptT
  simp [rok_def]
  by_cases h1 : t.a = s ∧ t.b = 0
  · rw [if_pos h1]; simp [h1]
  · rw [if_neg h1]; simp
    intro ha hb
    exact absurd ⟨ha, hb⟩ h1
theorem lesser_eq {x : Rat} (hx : Sz x 200) : m_lesser_factor [eQ x] S = .ok (eO (lesserQ x)) S := by
  have z : Sz (x * x - 4) 410 := Sz.mono (inferInstance : Sz (x * x - 4) (200 + 200 + 3 + 1)) (by decide)
  refine Rok.eq ?_
  unfold m_lesser_factor lesserQ
  simp [rok_def]
  rw [root_full z (by decide)]
  cases hq : rootQ (x * x - 4) with
  | none => simp [eO]
  | some r =>
    have hr : Sz r 410 := by
      obtain ⟨h0, h1⟩ := rootQ_some hq
      rw [← h1] at z
      constructor
      · have := z.num
        rw [sq_num, Int.natAbs_mul] at this
        exact Nat.lt_of_le_of_lt (Nat.le_mul_self _) this
      · have := z.den
        have e : ((r * r).den : Int) = r.den * r.den := by rw [sq_den]; simp
        have e2 : (r * r).den = r.den * r.den := by exact_mod_cast e
        rw [e2] at this
        exact Nat.lt_of_le_of_lt (Nat.le_mul_self _) this
    simp [eO]
    have hnn : x.num < 0 ↔ x < 0 := by
      have := Rat.num_nonneg (q := x)
      constructor
      · intro h; have : ¬ 0 ≤ x := fun z => by have := this.mpr z; omega
        grind
      · intro h; have h2 : ¬ 0 ≤ x := by grind
        rw [← this] at h2
        omega
    refine ⟨fun hn => ?_, fun hn => ?_⟩
    · have hn' : x < 0 := hnn.mp hn
      rw [m_over_eq (by decide +kernel) (by decide)]
      simp [hn']
    · have hn' : ¬ x < 0 := by grind
      rw [m_over_eq (by decide +kernel) (by decide)]
      simp [hn']
theorem lit_N1 : D.tup [.int (-1), .int 1] = eQ (-1) := rfl
theorem lit_2 : D.tup [.int 2, .int 1] = eQ 2 := rfl
theorem one_tup : D.tup [eQ 1, eQ 0, eQ 0, eQ 1] = eT T4.one := rfl
theorem kind_eq (h : HlS near far b g) (hl : Sq S d (b.map eP)) : m_kind [eH near d far] S = .ok (eK (roundT near far b) (kindT (roundT near far b))) S := by
  have hz := h.rsz2
  refine Rok.eq ?_
  unfold m_kind
  simp [rok_def]
  rw [round_eq h hl]
  simp
  rw [trace_eq (k := 211) inferInstance inferInstance (by decide)]
  have h8 : Sz (roundT near far b).a 73 := by
    have := h.rsz
    exact (inferInstance : Sz ((roundT near far b).sc g).a 71).mono (by decide)
  have h9 : Sz (roundT near far b).d 73 := by
    have := h.rsz
    exact (inferInstance : Sz ((roundT near far b).sc g).d 71).mono (by decide)
  generalize hT : roundT near far b = t at hz h8 h9
  simp
  refine ⟨fun h1 => by rw [show kindT t = .same 1 from if_pos h1]; rfl, fun h1 => ?_⟩
  refine comp_map_then [1, 0, 0, 1] eQ (fun q => eQ (-q)) ?_ (by simp) (fun q hq acc => by simp) ?_
  · simp only [rok_iterT, rok_C]
    exact (rok_fIterT (l := [eQ 1, eQ 0, eQ 0, eQ 1])).mpr ⟨rfl, rfl, fun _ => trivial⟩
  have e2 : (⟨-1, -0, -0, -1⟩ : T4) = T4.one.neg := rfl
  have e3 : ∀ C : Store, m_form [eH near d far] (S ++ C) = .ok (eL (formT t)) (S ++ C) := fun C => by
    rw [← hT]; exact form_eq h hl.app
  simp [sok_for, lit_N1, lit_2]
  have n1 : ¬ t = T4.one := h1
  have ek : kindT t = if t = T4.one.neg then .same 2 else if t.tr = -1 then .same 3 else if t.tr = 0 then .same 4 else if t.tr = 1 then .same 6
      else if t.tr.abs < 2 then .turns else if t.tr.abs = 2 then .shear (keptT t (if t.tr < 0 then -1 else 1)) else .off (lesserQ t.tr) := by
    rw [kindT, if_neg n1]
  refine ⟨fun h2 => by have h2' : t = T4.one.neg := h2; rw [ek, if_pos h2']; rfl, fun h2 => ?_⟩
  have h2' : ¬ t = T4.one.neg := h2
  rw [if_neg h2'] at ek
  refine ⟨fun h3 => by have h' : t.tr = -1 := h3; rw [ek, if_pos h']; rfl, fun h3 => ?_⟩
  have h3' : ¬ t.tr = -1 := h3
  rw [if_neg h3'] at ek
  refine ⟨fun h4 => by have h' : t.tr = 0 := h4; rw [ek, if_pos h']; rfl, fun h4 => ?_⟩
  have h4' : ¬ t.tr = 0 := h4
  rw [if_neg h4'] at ek
  refine ⟨fun h5 => by have h' : t.tr = 1 := h5; rw [ek, if_pos h']; rfl, fun h5 => ?_⟩
  have h5' : ¬ t.tr = 1 := h5
  rw [if_neg h5'] at ek
  refine ⟨fun h6 => ?_, fun h6 => ?_⟩
  · have h' : t.tr.abs < 2 := h6
    rw [ek, if_pos h', e3]
    simp
    rfl
  have h6' : ¬ t.tr.abs < 2 := h6
  rw [if_neg h6'] at ek
  refine ⟨fun h7 => ?_, fun h7 => ?_⟩
  · have h7' : t.tr.abs = 2 := h7
    rw [ek, if_pos h7']
    have hx : t.tr = 2 ∨ t.tr = -2 := by
      rcases Rat.le_total (a := 0) (b := t.tr) with h0 | h0
      · left
        have : t.tr.abs = 2 := h7
        rwa [Rat.abs_of_nonneg h0] at this
      · right
        have : t.tr.abs = 2 := h7
        rw [Rat.abs_of_nonpos h0] at this
        grind
    rcases hx with hx | hx
    · have hx' : t.a + t.d = 2 := hx
      have : ¬ t.tr < 0 := by rw [hx]; decide +kernel
      rw [if_neg this, hx']
      refine ⟨CDv_w (by decide) (b := 3) (by decide) (by decide), ?_⟩
      rw [show (2 : Rat).num / 2 = 1 from by decide +kernel, m_ratio_eq (by decide) (by decide), show Rat.divInt 1 1 = 1 from by decide +kernel]
      have := kept_eq (S := S ++ ([Cell.lst [eQ (-1), eQ 0, eQ 0, eQ (-1)], Cell.lst [D.tup [eQ (-1), D.int 3], D.tup [eQ 0, D.int 4], D.tup [eQ 1, D.int 6]]] : Store)) hz ((inferInstance : Sz (1 : Rat) 1).mono (by decide : 1 ≤ 10))
      simp [this]
      rfl
    · have hx' : t.a + t.d = -2 := hx
      have : t.tr < 0 := by rw [hx]; decide +kernel
      rw [if_pos this, hx']
      refine ⟨CDv_w (by decide) (b := 3) (by decide) (by decide), ?_⟩
      rw [show (-2 : Rat).num / 2 = -1 from by decide +kernel, m_ratio_eq (by decide) (by decide), show Rat.divInt (-1) 1 = -1 from by decide +kernel]
      have := kept_eq (S := S ++ ([Cell.lst [eQ (-1), eQ 0, eQ 0, eQ (-1)], Cell.lst [D.tup [eQ (-1), D.int 3], D.tup [eQ 0, D.int 4], D.tup [eQ 1, D.int 6]]] : Store)) hz ((inferInstance : Sz (-1 : Rat) 1).mono (by decide : 1 ≤ 10))
      simp [this]
      rfl
  · have hz2 : Sz (t.a + t.d) 200 := by
      exact Sz.mono (inferInstance : Sz (t.a + t.d) (73 + 73 + 1)) (by decide)
    have h7' : ¬ t.tr.abs = 2 := h7
    rw [ek, if_neg h7', lesser_eq hz2]
    have e4 : (eO (lesserQ (t.a + t.d))).fresh S.length = none := by cases lesserQ (t.a + t.d) <;> simp [eO]
    simp [e4]
    rfl
end
end Rg
end
section
set_option exponentiation.threshold 10000
/-! RgN: parts, good and odd. -/
namespace Rg
open PySem L2
@[simp] theorem rok_extend {n m : Nat} {S : Store} {P : D → Store → Prop} : Rok (fExtend (.ref n) [.ref m] S) P ↔ ∃ l z, S[n]? = some (.lst l) ∧ S[m]? = some (.lst z) ∧ l.length + z.length ≤ sizeLine ∧ P .non (S.set n (.lst (l ++ z))) := by
  unfold fExtend
  cases h : S[n]? with
  | none => simp [h]
  | some c =>
    cases h2 : S[m]? with
    | none => cases c <;> simp [h, h2]
    | some c2 =>
      cases c <;> cases c2 <;> simp [h, h2]
      exact ⟨fun ⟨a, b⟩ => ⟨b, a b⟩, fun ⟨a, b⟩ => ⟨fun _ => b, a⟩⟩
section
variable {S : Store} {p : Pt} {q : Rat} {n : Nat}
theorem greatest_eq {a b : Int} (ha : 0 ≤ a) (hb : 0 < b) : m_l_greatest [.int a, .int b] S = .ok (.int (Int.gcd a b : Int)) S := by
  refine Rok.eq ?_
  unfold m_l_greatest
  simp [rok_def]
  refine sok_while (fun e S' => S' = S ∧ ∃ x y : Int, e = [some (.int x), some (.int y)] ∧ 0 ≤ x ∧ 0 ≤ y ∧ (x ≠ 0 ∨ y ≠ 0) ∧ Int.gcd x y = Int.gcd a b) (fun e S => nAt 1 e) ?_ _ _ ⟨rfl, a, b, rfl, ha, by omega, by omega, rfl⟩
  rintro e S' ⟨rfl, x, y, rfl, hx, hy, hn, hg⟩
  simp
  constructor
  · intro h
    refine ⟨h, ⟨_, _, ⟨rfl, rfl⟩, by omega, Int.emod_nonneg _ (by omega), by omega, ?_⟩, ?_⟩
    · rw [← hg, Int.gcd_comm y (x % y)]
      simp only [Int.gcd]
      rw [emod_natAbs (by omega) (by omega), ← Nat.gcd_rec y.natAbs x.natAbs, Nat.gcd_comm]
    · have h1 := Int.emod_lt_of_pos x h
      have h2 := Int.emod_nonneg x (show y ≠ 0 by omega)
      simp [nAt]
      omega
  · intro h
    have : y = 0 := by omega
    subst this
    have : (x : Int) = (Int.gcd a b : Int) := by
      rw [← hg]
      simp [Int.gcd]
      omega
    rw [this]
@[simp] theorem l_is_ratio_Q : m_l_is_ratio [eQ q] S = .ok (.bl true) S := by
  have hd := q.den_pos
  have hg : ∀ S, m_l_greatest [.int (q.num.natAbs : Int), .int (q.den : Nat)] S = .ok (.int 1) S := fun S => by
    rw [greatest_eq (by omega) (by omega)]
    have : Int.gcd (q.num.natAbs : Int) (q.den : Nat) = 1 := q.reduced
    rw [this]; rfl
  have e : eQ q = .tup [.int q.num, .int (q.den : Nat)] := rfl
  refine Rok.eq ?_
  unfold m_l_is_ratio
  rw [e]
  simp [rok_def, sok_for, Ty.isa, hg, -tup_q]
  exact hd
def okb : Pt → Bool
  | .gap g => decide (0 ≤ g) | .glass _ => true | .stop r => decide (0 < r)
theorem is_part_P (hp : Sz p.num 40) : m_is_part [eP p] S = .ok (.bl (okb p)) S := by
  refine Rok.eq ?_
  unfold m_is_part
  have nf : ∀ S, m_is_number_for [.str p.word, eQ p.num] S = .ok (.bl (okb p)) S := fun S => by
    refine Rok.eq ?_
    unfold m_is_number_for okb
    cases p with
    | gap g =>
      have hp : Sz g 40 := hp
      have : (!decide (g < 0)) = decide (0 ≤ g) := by rw [Bool.eq_iff_iff]; simp; constructor <;> intro h <;> grind
      simp [rok_def, Pt.word, Pt.num, this]
    | glass g => simp [rok_def, Pt.word, Pt.num]
    | stop g =>
      have hp : Sz g 40 := hp
      simp [rok_def, Pt.word, Pt.num]
  simp [rok_def, Ty.isa, nf]
end
/-- odd things without lists -/
def oddS : List D :=
  [.tup [.str ("glass" : Str), .tup [.int 2, .int 4]], .tup [.str ("glass" : Str), .tup [.int 1, .int 0]], .tup [.str ("glass" : Str), .tup [.int 1, .int (-1)]], .tup [.str ("gap" : Str), .int 1], .tup [.str ("glass" : Str), .tup [.int 1, .int 2, .int 3]],
   .tup [.str ("Gap" : Str), eQ 1], .tup [.str ("lens" : Str), eQ 1], .tup [.str ("gap" : Str)], .tup [.str ("gap" : Str), eQ 1, .int 0],
   .tup [.str ("glass" : Str), .tup [.bl true, .int 1]], .tup [.str ("glass" : Str), .tup [.int 1, .bl true]], .tup [], .non, .int 7,
   .tup [.str ("glass" : Str), .tup [.int 0, .int 3]], .tup [.str ("glass" : Str), .str ("1" : Str)], .tup [.str ("gap" : Str), .non], .tup [.str ("" : Str), eQ 1], .tup [.str ("glass" : Str), .tup [.str ("1" : Str), .int 1]], .bl true,
   .tup [.int 1, eQ 1], .str ("gap" : Str)]
theorem odd_part {S : Store} {d : D} (h : d ∈ oddS) : m_is_part [d] S = .ok (.bl false) S := by
  have dv : ∀ S a b, 0 < b → m_divisor [.int a, .int b] S = .ok (.int (Int.gcd a b : Int)) S := fun S a b hb => m_divisor_eq hb
  have d24 : ∀ S, m_divisor [.int 2, .int 4] S = .ok (.int 2) S := fun S => dv S 2 4 (by decide)
  have d03 : ∀ S, m_divisor [.int 0, .int 3] S = .ok (.int 3) S := fun S => dv S 0 3 (by decide)
  have k1 : PyData.strOk ("Gap" : Str) = true := by decide +kernel
  have k2 : PyData.strOk ("lens" : Str) = true := by decide +kernel
  have k3 : PyData.strOk ("" : Str) = true := by decide +kernel
  have n1 : ¬ (("Gap" : Str) = "gap") := by decide +kernel
  have n2 : ¬ (("Gap" : Str) = "stop") := by decide +kernel
  have n3 : ¬ (("Gap" : Str) = "glass") := by decide +kernel
  have n4 : ¬ (("lens" : Str) = "gap") := by decide +kernel
  have n5 : ¬ (("lens" : Str) = "stop") := by decide +kernel
  have n6 : ¬ (("lens" : Str) = "glass") := by decide +kernel
  have n7 : ¬ (("" : Str) = "gap") := by decide +kernel
  have n8 : ¬ (("" : Str) = "stop") := by decide +kernel
  have n9 : ¬ (("" : Str) = "glass") := by decide +kernel
  have w : ∀ S i, m_is_whole [.int i] S = .ok (.bl true) S := fun S i => m_is_whole_int
  have wb : ∀ S, m_is_whole [.bl true] S = .ok (.bl false) S := fun S => by
    refine Rok.eq ?_
    unfold m_is_whole
    simp [rok_def, Ty.isa]
  have ws : ∀ S s, m_is_whole [.str s] S = .ok (.bl false) S := fun S s => by
    refine Rok.eq ?_
    unfold m_is_whole
    simp [rok_def, Ty.isa]
  refine Rok.eq ?_
  simp only [oddS, List.mem_cons, List.not_mem_nil, or_false] at h
  rcases h with rfl | rfl | rfl | rfl | rfl | rfl | rfl | rfl | rfl | rfl | rfl | rfl | rfl | rfl | rfl | rfl | rfl | rfl | rfl | rfl | rfl | rfl
  all_goals first
    | (unfold m_is_part; simp [rok_def, Ty.isa, w, wb, ws, d24, d03, k1, k2, k3, n1, n2, n3, n4, n5, n6, n7, n8, n9]; done)
    | (unfold m_is_part m_is_number_for; simp [rok_def, Ty.isa, w, wb, ws, d24, d03, k1, k2, k3, n1, n2, n3, n4, n5, n6, n7, n8, n9]; done)
    | (unfold m_is_part m_is_ratio; simp [rok_def, Ty.isa, w, wb, ws, d24, d03, k1, k2, k3, n1, n2, n3, n4, n5, n6, n7, n8, n9]; done)
end Rg
end
section
set_option exponentiation.threshold 10000
/-! RgHf: the laws' own rounds, part by part. -/
namespace Rg
open PySem L2
theorem Sq.enum {S : Store} {d : D} {l : List D} {P : Wk → Store → Prop} (h : Sq S d l) (k : ∀ chk : Store → Prop, (∀ S', Sq S' d l → chk S') → P ⟨enumD l, chk⟩ S) : Rok (fEnum [d] S) P := by
  rcases h with rfl | ⟨n, rfl, h⟩
  · unfold fEnum
    rw [rok_ok]
    exact k _ fun _ _ => trivial
  · rw [rok_enum]
    refine ⟨l, h, k _ fun S' h' => ?_⟩
    rcases h' with h' | ⟨m, e, h'⟩
    · cases h'
    · cases e; exact h'
/-- the parts of a round, with their way and number -/
def eTri (x : D × D × Pt) : D := .tup [x.1, x.2.1, eP x.2.2]
def forthL (b : List Pt) : List (D × D × Pt) := (List.range b.length).map fun i => (.str "forth", .int (i : Nat), b[i]?.getD (.stop 1))
def backL (b : List Pt) : List (D × D × Pt) := ((List.range b.length).reverse).map fun i => (.str "back", .int (i : Nat), b[i]?.getD (.stop 1))
def partsL (near far : Rat) (b : List Pt) : List (D × D × Pt) := forthL b ++ (.non, .non, .glass far) :: (backL b ++ [(.non, .non, .glass near)])
theorem range_getD {b : List Pt} : (List.range b.length).map (fun i => b[i]?.getD (.stop 1)) = b := by
  apply List.ext_getElem?
  intro i
  simp only [List.getElem?_map]
  by_cases h : i < b.length
  · rw [List.getElem?_range h, List.getElem?_eq_getElem h]
    simp [h]
  · rw [List.getElem?_eq_none (by simp; omega), List.getElem?_eq_none (by omega)]
    rfl
theorem partsL_pts {near far : Rat} {b : List Pt} : (partsL near far b).map (·.2.2) = roundP near far b := by
  unfold partsL roundP forthL backL
  simp only [List.map_append, List.map_cons, List.map_map, List.map_nil]
  have e1 : (List.range b.length).map ((fun x : D × D × Pt => x.2.2) ∘ fun i : Nat => (D.str "forth", D.int (i : Nat), b[i]?.getD (.stop 1))) = b := range_getD
  have e2 : (List.range b.length).reverse.map ((fun x : D × D × Pt => x.2.2) ∘ fun i : Nat => (D.str "back", D.int (i : Nat), b[i]?.getD (.stop 1))) = b.reverse := by
    rw [List.map_reverse]
    exact congrArg List.reverse range_getD
  rw [e1, e2]
theorem partsL_len {near far : Rat} {b : List Pt} : (partsL near far b).length = b.length + (b.length + 2) := by
  unfold partsL forthL backL
  simp
@[simp] theorem eH_i0 {near far : Rat} {d : D} {S : Store} {P : D → Store → Prop} : Rok (fIx (eH near d far) (.int 0) S) P ↔ P (eQ near) S := by unfold eH; rw [rok_ixT]; simp
@[simp] theorem eH_i1 {near far : Rat} {d : D} {S : Store} {P : D → Store → Prop} : Rok (fIx (eH near d far) (.int 1) S) P ↔ P d S := by unfold eH; rw [rok_ixT]; simp
@[simp] theorem eH_i2 {near far : Rat} {d : D} {S : Store} {P : D → Store → Prop} : Rok (fIx (eH near d far) (.int 2) S) P ↔ P (eQ far) S := by unfold eH; rw [rok_ixT]; simp
section
variable {S : Store} {near far g : Rat} {b : List Pt} {d : D} {r : Ry}
theorem parts_eq (hl : Sq S d (b.map eP)) (hb : b.length ≤ 13) : m_l_parts [eH near d far] S = .ok (.ref S.length) (S ++ [.lst ((partsL near far b).map eTri)]) := by
  have un : ∀ N : Nat, unders N ((partsL near far b).map eTri) = true := fun N => un_map fun x hx => by
    unfold partsL forthL backL at hx
    unfold eTri
    simp only [List.mem_append, List.mem_map, List.mem_cons, List.not_mem_nil, or_false] at hx
    rcases hx with ⟨i, _, rfl⟩ | rfl | ⟨i, _, rfl⟩ | rfl <;> simp
  refine Rok.eq ?_
  unfold m_l_parts
  simp [rok_def]
  refine comp_map_then (List.range b.length) (fun i => .tup [.int (i : Nat), (b.map eP).getD i .non]) (fun i => eTri (.str "forth", .int (i : Nat), b[i]?.getD (.stop 1))) ?_ (by simp; omega) (fun i hi acc => ?_) ?_
  · simp
    refine hl.enum fun chk hc => ⟨rfl, ?_, fun acc => hc _ hl.app⟩
    unfold enumD
    simp
  · have hi := List.mem_range.mp hi
    simp [eTri, hi]
  simp
  refine ⟨by omega, ?_⟩
  refine comp_map_then ((List.range b.length).reverse) (fun i => .int (i : Nat)) (fun i => eTri (.str "back", .int (i : Nat), b[i]?.getD (.stop 1))) ?_ (by simp; omega) (fun i hi acc => ?_) ?_
  · simp
    refine hl.app.len ?_
    simp only [rok_revRng1]
    refine ⟨by simp; omega, ?_⟩
    unfold rangeD
    simp
  · have hi : i < b.length := by simpa using hi
    simp
    refine (hl.app).ix (x := eP (b[i]?.getD (.stop 1))) ?_ ?_
    · rw [atI_nat (v := eP b[i]) (by simp [hi])]
      simp [hi]
    · simp [eTri]
  simp [hb]
  refine ⟨by omega, by omega, ?_⟩
  have el : List.map (fun i => eTri (D.str (Str.ofString "forth"), D.int (i : Nat), b[i]?.getD (Pt.stop 1))) (List.range b.length) ++ D.tup [D.non, D.non, eP (Pt.glass far)] ::
      ((List.map (fun i => eTri (D.str (Str.ofString "back"), D.int (i : Nat), b[i]?.getD (Pt.stop 1))) (List.range b.length)).reverse ++ [D.tup [D.non, D.non, eP (Pt.glass near)]]) = (partsL near far b).map eTri := by
    unfold partsL forthL backL
    simp [Function.comp_def]
    exact ⟨rfl, rfl⟩
  rw [el, gc_new (n := S.length) (l := (partsL near far b).map eTri) (by simp) (by simp) (by simp) (un _), rok_ok]
  simp
theorem part4_eq {p : Pt} {i k : Nat} (hp : p.isStop = true ∨ Sz p.num i) (hr : SzR r k) (h : i + k + k ≤ 8000) : m_l_part_4 [eP p, eR r] S = .ok (eR (p.tab.led r)) S := by
  have h1 : Sz r.y k := inferInstance
  have h2 : Sz r.u k := inferInstance
  refine Rok.eq ?_
  unfold m_l_part_4
  rw [tab_led]
  cases p with
  | gap q =>
    have hp : Sz q i := hp.resolve_left (by simp [Pt.isStop])
    have c1 : i + k ≤ 8998 := by omega
    have c2 : k + (i + k) ≤ 8998 := by omega
    simp [rok_def, Pt.word, Pt.num, c1, c2]
  | glass q =>
    have hp : Sz q i := hp.resolve_left (by simp [Pt.isStop])
    have c1 : i + k ≤ 8998 := by omega
    have c2 : k + (i + k) ≤ 8998 := by omega
    simp [rok_def, Pt.word, Pt.num, c1, c2]
  | stop q => simp [rok_def, Pt.word, Pt.num]
theorem round2_eq {m : Nat} (h : HlS near far b g) (hl : Sq S d (b.map eP)) (hr : SzR (r.sc g) m) (hm : m ≤ 3500) : m_l_round_2 [eH near d far, eR r] S = .ok (eR ((roundT near far b).led r)) S := by
  have hlen := h.len
  refine Rok.eq ?_
  unfold m_l_round_2
  simp [rok_def, sok_for]
  rw [parts_eq hl (by omega)]
  simp
  refine sok_forRun (fun i e S' => S' = S ++ [.lst ((partsL near far b).map eTri)] ∧ ∃ o2 o3 o4, e = [some (eH near d far), some (eR ((tabOf ((roundP near far b).take i)).led r)), o2, o3, o4]) _ (fun i e S' h => ?_) ?_ ?_ _ _ ⟨rfl, none, none, none, ?_⟩
  · obtain ⟨rfl, _⟩ := h
    simp
  · rintro i dd e S' hi ⟨rfl, o2, o3, o4, rfl⟩
    rw [List.getElem?_map] at hi
    obtain ⟨⟨x, y, p⟩, hp, rfl⟩ := Option.map_eq_some_iff.mp hi
    have hp2 : (roundP near far b)[i]? = some p := by
      rw [← partsL_pts, List.getElem?_map, hp]
      rfl
    have hmem := List.mem_of_getElem? hp2
    have hps := (h.all p hmem).num h.g1 h.gz
    have hz : SzR ((tabOf ((roundP near far b).take i)).led r) (71 + m + 1 + 70) := by
      refine SzR.unsc h.g1 h.gz ?_
      rw [T4.sc_led h.g1]
      have := h.sz i
      exact inferInstance
    simp [eTri]
    rw [part4_eq hps hz (by omega)]
    simp [led_take hp2]
  · rintro e S' ⟨rfl, o2, o3, o4, rfl⟩
    have : (roundP near far b).take ((partsL near far b).map eTri).length = roundP near far b := by
      rw [← partsL_pts]
      exact List.take_of_length_le (by simp)
    simp only [List.length_map] at this
    simp [this]
    rfl
  · rw [show tabOf ((roundP near far b).take 0) = T4.one from rfl, T4.one_led]
end
end Rg
end
section
set_option exponentiation.threshold 10000
/-! RgTb: benches and halls as texts. -/
namespace Rg
open PySem L2
def partT (p : Pt) : Str := p.word ++ " " ++ ratT p.num
def benchT (b : List Pt) : Str := if b = [] then "none" else Txt.join "; " (b.map partT)
theorem word_len {p : Pt} : p.word.length ≤ 5 := by
  cases p with
  | gap q => exact (by decide +kernel : ("gap" : Str).length ≤ 5)
  | glass q => exact (by decide +kernel : ("glass" : Str).length ≤ 5)
  | stop q => exact (by decide +kernel : ("stop" : Str).length ≤ 5)
theorem partT_len {p : Pt} {k : Nat} (h : Sz p.num k) : (partT p).length ≤ 2 * k + 9 := by
  have h1 := ratT_len h
  have h2 := word_len (p := p)
  have h3 : ((" " : Str)).length = 1 := by decide +kernel
  unfold partT
  rw [str_len_app, str_len_app]
  omega
theorem sum_le {M : Nat} : ∀ {ys : List Str}, (∀ y ∈ ys, y.length ≤ M) → (ys.map (·.length)).sum ≤ ys.length * M
  | [], _ => by simp
  | y :: ys, h => by
    have h1 := h y (by simp)
    have h2 := sum_le (ys := ys) fun z hz => h z (by simp [hz])
    simp only [List.map_cons, List.sum_cons, List.length_cons]
    rw [Nat.succ_mul]
    omega
theorem join_len {g : Str} {M : Nat} : ∀ {ys : List Str}, (∀ y ∈ ys, y.length ≤ M) → ys ≠ [] → (Txt.join g ys).length ≤ ys.length * (M + g.length) := by
  have key : ∀ (n : Nat) (ys : List Str), ys.length = n → (∀ y ∈ ys, y.length ≤ M) → ys ≠ [] → (Txt.join g ys).length ≤ ys.length * (M + g.length) := by
    intro n
    induction n with
    | zero => intro ys e _ h; exact absurd (List.length_eq_zero_iff.mp e) h
    | succ n ih =>
      intro zs e h _
      rcases List.eq_nil_or_concat zs with z | ⟨ys, y, rfl⟩
      · subst z; simp at e
      · rw [List.concat_eq_append] at *
        have hy := h y (by simp)
        by_cases hne : ys = []
        · subst hne; simp [join_one]; omega
        · have h2 := ih ys (by simpa using e) (fun z hz => h z (by simp [hz])) hne
          rw [join_snoc hne, str_len_app, str_len_app, List.length_append, List.length_singleton, Nat.add_mul, Nat.one_mul]
          omega
  exact fun {ys} => key ys.length ys rfl
theorem strsD_map : ∀ {ys : List Str}, strsD (ys.map D.str) = some ys
  | [] => rfl
  | y :: ys => by
    rw [List.map_cons]
    unfold strsD
    rw [strsD_map]
    rfl
section
variable {S : Store} {b : List Pt} {d : D} {k n : Nat}
theorem bench_text_eq (hl : Sq S d (b.map eP)) (hb : ∀ p ∈ b, Sz p.num k) (hk : k ≤ 1900) (hlen : b.length ≤ 100) : m_bench_text [d] S = .ok (.str (benchT b)) S := by
  have g3 : ((" " : Str)).length = 1 := by decide +kernel
  have g4 : (("; " : Str)).length = 2 := by decide +kernel
  have hlenD : ∀ {P : D → Store → Prop}, P (.int (b.length : Nat)) S → Rok (fLen [d] S) P := fun {P} h => by
    rcases hl with rfl | ⟨n, rfl, hl⟩
    · simpa using h
    · simp [hl]; exact h
  refine Rok.eq ?_
  unfold m_bench_text
  simp [rok_def]
  refine hlenD ?_
  simp
  by_cases he : b = []
  · subst he
    simp [benchT]
    done
  · simp [he]
    refine comp_map_then b eP (fun p => .str (partT p)) ?_ (Nat.le_trans hlen (by decide)) (fun p hp acc => ?_) ?_
    · rcases hl with rfl | ⟨n, rfl, hl⟩
      · simp
      · simp [hl]
        exact fun acc => lstOf_app hl
    · have hz := hb p hp
      have h1 := ratT_len hz
      have h2 := word_len (p := p)
      have e1 := fun T => ratio_text_eq (S := T) hz hk
      simp [e1, str_len_app, g3]
      exact ⟨by omega, by omega, rfl⟩
    · have es : b.map (fun p => D.str (partT p)) = (b.map partT).map D.str := by rw [List.map_map]; rfl
      rw [es]
      simp
      refine ⟨b.map partT, by rw [← List.map_map]; exact strsD_map, ?_, ?_⟩
      · have := sum_le (M := 2 * k + 9) (ys := b.map partT) fun y hy => by
          obtain ⟨p, hp, rfl⟩ := List.mem_map.mp hy
          exact partT_len (hb p hp)
        simp at this
        simp [g4]
        have : b.length * (2 * k + 9) ≤ 100 * (2 * 1900 + 9) := Nat.mul_le_mul hlen (by omega)
        omega
      · simp [benchT, he]
/-- the text so far -/
def soFar (b : List Pt) (i : Nat) : Str := if i = 0 then "none" else Txt.join "; " ((b.take i).map partT)
theorem soFar_all : soFar b b.length = benchT b := by
  unfold soFar benchT
  by_cases h : b = []
  · subst h; simp
  · rw [if_neg (by intro z; exact h (List.length_eq_zero_iff.mp z)), if_neg h, List.take_length]
theorem soFar_len {i : Nat} (hb : ∀ p ∈ b, Sz p.num k) (hi : i ≤ 100) : (soFar b i).length ≤ 4 + 100 * (2 * k + 11) := by
  unfold soFar
  split
  · exact Nat.le_trans (by decide +kernel : ("none" : Str).length ≤ 4) (by omega)
  · by_cases hn : (b.take i).map partT = []
    · rw [hn]; exact Nat.le_trans (by decide +kernel : (Txt.join "; " []).length ≤ 4) (by omega)
    · refine Nat.le_trans (join_len (M := 2 * k + 9) (fun y hy => ?_) hn) ?_
      · obtain ⟨p, hp, rfl⟩ := List.mem_map.mp hy
        exact partT_len (hb p (List.mem_of_mem_take hp))
      · have g4 : (("; " : Str)).length = 2 := by decide +kernel
        rw [g4]
        have : ((b.take i).map partT).length ≤ 100 := by simp; omega
        have := Nat.mul_le_mul_right (2 * k + 9 + 2) this
        omega
theorem soFar_next {i : Nat} {p : Pt} (h : b[i]? = some p) : soFar b (i + 1) = (if i = 0 then ("" : Str) else soFar b i ++ "; ") ++ p.word ++ " " ++ ratT p.num := by
  have et : b.take (i + 1) = b.take i ++ [p] := by rw [List.take_succ, h]; rfl
  unfold soFar
  rw [if_neg (by omega), et, List.map_append, List.map_cons, List.map_nil]
  have asc : ∀ x y z : Str, x ++ y ++ z = x ++ (y ++ z) := fun x y z => by
    show Str.mk (x.cps ++ y.cps ++ z.cps) = Str.mk (x.cps ++ (y.cps ++ z.cps))
    rw [Array.append_assoc]
  have nl : ∀ x : Str, ("" : Str) ++ x = x := fun x => by
    show Str.mk (("" : Str).cps ++ x.cps) = x
    have : ("" : Str).cps = #[] := by decide +kernel
    rw [this, Array.empty_append]
  by_cases hi : i = 0
  · subst hi
    simp [join_one, nl]
    rfl
  · have hlt := (List.getElem?_eq_some_iff.mp h).1
    have hne : (b.take i).map partT ≠ [] := by
      intro z
      have h1 : ((b.take i).map partT).length = i := by simp; omega
      rw [z] at h1
      exact hi h1.symm
    rw [join_snoc hne, if_neg hi, if_neg hi]
    unfold partT
    simp only [asc]
theorem l_bench_text_eq (hl : Sq S d (b.map eP)) (hb : ∀ p ∈ b, Sz p.num k) (hk : k ≤ 1900) (hlen : b.length ≤ 100) : m_l_bench_text [d] S = .ok (.str (benchT b)) S := by
  have g3 : ((" " : Str)).length = 1 := by decide +kernel
  have g4 : (("; " : Str)).length = 2 := by decide +kernel
  refine Rok.eq ?_
  unfold m_l_bench_text
  simp [rok_def, sok_for]
  refine Sq.enum hl fun chk hchk => ?_
  simp
  refine sok_forRun (fun i e S' => ∃ (C : Store) (o2 o3 o4 o5 : Option D), S' = S ++ C ∧ e = [some d, some (.str (soFar b i)), o2, o3, o4, o5]) _ (fun i e S' h => ?_) ?_ ?_ _ _ ⟨[], none, none, none, none, by simp, rfl⟩
  · obtain ⟨C, _, _, _, _, rfl, _⟩ := h
    exact hchk _ hl.app
  · rintro i dd e S' hi ⟨C, o2, o3, o4, o5, rfl, rfl⟩
    unfold enumD at hi
    rw [List.getElem?_map] at hi
    obtain ⟨j, hj, rfl⟩ := Option.map_eq_some_iff.mp hi
    obtain ⟨hj1, hj2⟩ := List.getElem?_eq_some_iff.mp hj
    simp at hj1 hj2
    subst hj2
    have hbj : b[i]? = some b[i] := List.getElem?_eq_getElem hj1
    have hz := hb b[i] (List.getElem_mem hj1)
    have h0 := soFar_len (b := b) (i := i) hb (by omega)
    have h1 := ratT_len hz
    have h2 := word_len (p := b[i])
    have e1 := fun T => ratio_text_eq (S := T) hz hk
    have hnx := soFar_next hbj
    simp [hj1, l_ratio_text_same, e1, str_len_app, g3, g4]
    refine ⟨by omega, ?_⟩
    by_cases hi0 : i = 0
    · rw [if_pos hi0] at hnx
      rw [if_pos hi0]
      refine ⟨.str "", by rfl, ?_⟩
      have g5 : (("" : Str)).length = 0 := by decide +kernel
      simp [e1, str_len_app, g3, g5]
      refine ⟨by omega, by omega, by omega, ?_⟩
      rw [hnx]
      done
    · rw [if_neg hi0] at hnx
      rw [if_neg hi0]
      refine ⟨.str (soFar b i ++ "; "), by rfl, ?_⟩
      simp [e1, str_len_app, g3, g4]
      refine ⟨by omega, by omega, by omega, ?_⟩
      rw [hnx]
      done
  · rintro e S' ⟨C, o2, o3, o4, o5, rfl, rfl⟩
    have : (enumD (b.map eP)).length = b.length := by simp [enumD]
    rw [this, soFar_all]
    simp
end
end Rg
end
section
set_option exponentiation.threshold 10000
/-! RgTc: texts are texts; halls as texts. -/
namespace Rg
open PySem L2
theorem strOk_of (s : String) : PyData.strOk (Str.ofString s) = true := by
  unfold PyData.strOk Str.ofString
  dsimp only
  rw [PySem.cpsOfBytes_string, List.all_toArray, List.all_map, List.all_eq_true]
  intro c _
  have h : c.toNat < 0xd800 ∨ (0xdfff < c.toNat ∧ c.toNat < 0x110000) := c.valid
  simp only [Function.comp_apply, decide_eq_true_eq]
  omega
theorem strOk_app {x y : Str} (h1 : PyData.strOk x = true) (h2 : PyData.strOk y = true) : PyData.strOk (x ++ y) = true := by
  show (x.cps ++ y.cps).all _ = true
  rw [Array.all_append]
  exact (Bool.and_eq_true _ _).mpr ⟨h1, h2⟩
theorem strOk_I {i : Int} : PyData.strOk (strI i) = true := strOk_of _
theorem strOk_ratT {q : Rat} : PyData.strOk (ratT q) = true := by
  unfold ratT
  split
  · exact strOk_I
  · exact strOk_app (strOk_app strOk_I (strOk_of _)) strOk_I
theorem strOk_join {g : Str} (hg : PyData.strOk g = true) : ∀ {ys : List Str}, (∀ y ∈ ys, PyData.strOk y = true) → PyData.strOk (Txt.join g ys) = true := by
  have key : ∀ (n : Nat) (ys : List Str), ys.length = n → (∀ y ∈ ys, PyData.strOk y = true) → PyData.strOk (Txt.join g ys) = true := by
    intro n
    induction n with
    | zero =>
      intro ys e _
      rw [List.length_eq_zero_iff.mp e]
      have : Txt.join g [] = Str.empty := rfl
      rw [this]
      decide +kernel
    | succ n ih =>
      intro zs e h
      rcases List.eq_nil_or_concat zs with z | ⟨ys, y, rfl⟩
      · subst z; simp at e
      · rw [List.concat_eq_append] at *
        have hy := h y (by simp)
        by_cases hne : ys = []
        · subst hne; simpa [join_one] using hy
        · rw [join_snoc hne]
          exact strOk_app (strOk_app (ih ys (by simpa using e) fun z hz => h z (by simp [hz])) hg) hy
  exact fun {ys} => key ys.length ys rfl
theorem strOk_bench {b : List Pt} : PyData.strOk (benchT b) = true := by
  unfold benchT
  split
  · exact strOk_of _
  · refine strOk_join (strOk_of _) fun y hy => ?_
    obtain ⟨p, _, rfl⟩ := List.mem_map.mp hy
    unfold partT
    refine strOk_app (strOk_app ?_ (strOk_of _)) strOk_ratT
    cases p <;> exact strOk_of _
theorem benchT_len {b : List Pt} {k : Nat} (hb : ∀ p ∈ b, Sz p.num k) (hl : b.length ≤ 100) : (benchT b).length ≤ 4 + 100 * (2 * k + 11) := by
  rw [← soFar_all]
  exact soFar_len hb hl
def hallT (near far : Rat) (b : List Pt) : Str := Txt.join " | " [ratT near, benchT b, ratT far]
section
variable {S : Store} {b : List Pt} {d : D} {k n : Nat} {near far : Rat}
theorem hall_text_eq (hl : Sq S d (b.map eP)) (hb : ∀ p ∈ b, Sz p.num k) (hn : Sz near k) (hf : Sz far k) (hk : k ≤ 1900) (hlen : b.length ≤ 100) : m_hall_text [.tup [eQ near, d, eQ far]] S = .ok (.str (hallT near far b)) S := by
  have h1 := ratT_len hn
  have h2 := ratT_len hf
  have h3 := benchT_len hb hlen
  have g3 : ((" | " : Str)).length = 3 := by decide +kernel
  have e1 := fun T => ratio_text_eq (S := T) hn hk
  have e2 := fun T => ratio_text_eq (S := T) hf hk
  refine Rok.eq ?_
  unfold m_hall_text
  simp [rok_def, e1, e2]
  rw [bench_text_eq hl hb hk hlen]
  simp [e2]
  refine ⟨[ratT near, benchT b, ratT far], rfl, ?_, rfl⟩
  simp [g3]
  omega
end
end Rg
end
/-! the defs of law 56 by their shallow functions, printed by gen.py. -/
namespace K56
open PySem PySem.Spec PyProof.Rows L2 Rg
def top (i : Nat) : Stmt := PySem.Challenge.pw_roundglass_k56_benches_written.main.body.getD i (.Pass ⟨0, 0, 0, 0⟩)
structure Txt (K : PySem.W.Frag) (mg : Str → Option Value) (xv : Str → Value) : Prop where
  n_abs : mg ("abs" : Str) = none
  n_enumerate : mg ("enumerate" : Str) = none
  n_int : mg ("int" : Str) = none
  n_len : mg ("len" : Str) = none
  n_max : mg ("max" : Str) = none
  n_range : mg ("range" : Str) = none
  n_str : mg ("str" : Str) = none
  n_tuple : mg ("tuple" : Str) = none
  c_BARE : CAt K mg ("BARE" : Str) (.str ("none" : Str))
  c_BESIDE : CAt K mg ("BESIDE" : Str) (.str (" | " : Str))
  c_BETWEEN : CAt K mg ("BETWEEN" : Str) (.str ("; " : Str))
abbrev s_l_pool : Stmt := top 8
abbrev N_l_pool : List Str := ["cell"]
abbrev P_l_pool : List Str := ["cell"]
theorem sc_l_pool : FnScope N_l_pool P_l_pool (defScope s_l_pool) := ⟨rfl, rfl, rfl, by decide +kernel, rfl, by decide +kernel, by decide +kernel⟩
abbrev s_l_draw : Stmt := top 9
abbrev N_l_draw : List Str := ["pool", "base", "digit", "near"]
abbrev P_l_draw : List Str := ["pool", "base"]
theorem sc_l_draw : FnScope N_l_draw P_l_draw (defScope s_l_draw) := ⟨rfl, rfl, rfl, by decide +kernel, rfl, by decide +kernel, by decide +kernel⟩
abbrev s_l_pick : Stmt := top 10
abbrev N_l_pick : List Str := ["pool", "some"]
abbrev P_l_pick : List Str := ["pool", "some"]
theorem sc_l_pick : FnScope N_l_pick P_l_pick (defScope s_l_pick) := ⟨rfl, rfl, rfl, by decide +kernel, rfl, by decide +kernel, by decide +kernel⟩
abbrev s_l_ratio : Stmt := top 11
abbrev N_l_ratio : List Str := ["top", "bottom", "one", "other"]
abbrev P_l_ratio : List Str := ["top", "bottom"]
theorem sc_l_ratio : FnScope N_l_ratio P_l_ratio (defScope s_l_ratio) := ⟨rfl, rfl, rfl, by decide +kernel, rfl, by decide +kernel, by decide +kernel⟩
abbrev s_l_number : Stmt := top 16
abbrev N_l_number : List Str := ["pool", "style"]
abbrev P_l_number : List Str := ["pool"]
theorem sc_l_number : FnScope N_l_number P_l_number (defScope s_l_number) := ⟨rfl, rfl, rfl, by decide +kernel, rfl, by decide +kernel, by decide +kernel⟩
abbrev s_l_part : Stmt := top 17
abbrev N_l_part : List Str := ["pool", "word", "top", "bottom"]
abbrev P_l_part : List Str := ["pool"]
theorem sc_l_part : FnScope N_l_part P_l_part (defScope s_l_part) := ⟨rfl, rfl, rfl, by decide +kernel, rfl, by decide +kernel, by decide +kernel⟩
abbrev s_l_bench : Stmt := top 18
abbrev N_l_bench : List Str := ["pool", "k"]
abbrev P_l_bench : List Str := ["pool"]
theorem sc_l_bench : FnScope N_l_bench P_l_bench (defScope s_l_bench) := ⟨rfl, rfl, rfl, by decide +kernel, rfl, by decide +kernel, by decide +kernel⟩
abbrev s_l_ratio_text : Stmt := top 19
abbrev N_l_ratio_text : List Str := ["one"]
abbrev P_l_ratio_text : List Str := ["one"]
theorem sc_l_ratio_text : FnScope N_l_ratio_text P_l_ratio_text (defScope s_l_ratio_text) := ⟨rfl, rfl, rfl, by decide +kernel, rfl, by decide +kernel, by decide +kernel⟩
abbrev s_l_bench_text : Stmt := top 20
abbrev N_l_bench_text : List Str := ["bench", "found", "k", "word", "number", "ahead"]
abbrev P_l_bench_text : List Str := ["bench"]
theorem sc_l_bench_text : FnScope N_l_bench_text P_l_bench_text (defScope s_l_bench_text) := ⟨rfl, rfl, rfl, by decide +kernel, rfl, by decide +kernel, by decide +kernel⟩
abbrev s_ratio_text : Stmt := top 4
abbrev N_ratio_text : List Str := ["one"]
abbrev P_ratio_text : List Str := ["one"]
theorem sc_ratio_text : FnScope N_ratio_text P_ratio_text (defScope s_ratio_text) := ⟨rfl, rfl, rfl, by decide +kernel, rfl, by decide +kernel, by decide +kernel⟩
abbrev s_bench_text : Stmt := top 5
abbrev N_bench_text : List Str := ["bench", "part"]
abbrev P_bench_text : List Str := ["bench"]
theorem sc_bench_text : FnScope N_bench_text P_bench_text (defScope s_bench_text) := ⟨rfl, rfl, rfl, by decide +kernel, rfl, by decide +kernel, by decide +kernel⟩
abbrev s_hall_text : Stmt := top 6
abbrev N_hall_text : List Str := ["hall"]
abbrev P_hall_text : List Str := ["hall"]
theorem sc_hall_text : FnScope N_hall_text P_hall_text (defScope s_hall_text) := ⟨rfl, rfl, rfl, by decide +kernel, rfl, by decide +kernel, by decide +kernel⟩
abbrev s_law : Stmt := top 21
abbrev N_law : List Str := ["script", "cell", "pool", "bench", "due", "near", "far", "hall"]
abbrev P_law : List Str := ["script"]
theorem sc_law : FnScope N_law P_law (defScope s_law) := ⟨rfl, rfl, rfl, by decide +kernel, rfl, by decide +kernel, by decide +kernel⟩
section
variable {P : Program} {w : World} {K : PySem.W.Frag} {mg : Str → Option Value} {base h : Heap} {xv : Str → Value}
theorem ok_l_pool (hX : K.In h) (hG : h.Ns mainGlobals mg) (T : Txt K mg xv) (F : FAt K ("_law_pool" : Str) s_l_pool []) : DefOk P w K mg base xv ("_law_pool" : Str) 1 P_l_pool m_l_pool := defok_mk hX hG F sc_l_pool (fun _ _ _ _ _ _ us hl => match us, hl with | [_], _ => rfl) fun f cdv A outer s H E hr =>
  mss_one (ms_ret (me_lst (ma_cons (me_max2 T.n_max (ma_cons (me_int) (ma_cons (me_sub (me_var 0) (me_pow (me_int) (me_int))) (ma_nil)))) (ma_cons (me_mod (me_var 0) (me_pow (me_int) (me_int))) (ma_cons (me_int) (ma_nil))))))
theorem ok_l_draw (hX : K.In h) (hG : h.Ns mainGlobals mg) (T : Txt K mg xv) (F : FAt K ("_law_draw" : Str) s_l_draw []) : DefOk P w K mg base xv ("_law_draw" : Str) 1 P_l_draw m_l_draw := defok_mk hX hG F sc_l_draw (fun _ _ _ _ _ _ us hl => match us, hl with | [_, _], _ => rfl) fun f cdv A outer s H E hr =>
  mss_cons (ms_if (mt_gt (me_item (me_var 0) (me_int)) (me_int)) (mss_cons (ms_set sc_l_draw.nd (me_mod (me_item (me_var 0) (me_int)) (me_var 1))) (mss_cons (ms_setIx (me_div (me_item (me_var 0) (me_int)) (me_var 1)) (me_var 0) (me_int)) (mss_one (ms_ret (me_var 2))))) (mss_nil)) (mss_cons (ms_setIx (me_add (me_item (me_var 0) (me_int)) (me_int)) (me_var 0) (me_int)) (mss_cons (ms_set sc_l_draw.nd (me_mod (me_add (me_item (me_var 0) (me_int)) (me_mul (me_int) (me_item (me_var 0) (me_int)))) (me_int))) (mss_cons (ms_set sc_l_draw.nd (me_mod (me_mul (me_add (me_var 3) (me_int)) (me_add (me_var 3) (me_int))) (me_int))) (mss_one (ms_ret (me_mod (me_div (me_mod (me_mul (me_var 3) (me_var 3)) (me_int)) (me_int)) (me_var 1)))))))
theorem ok_l_pick (hX : K.In h) (hG : h.Ns mainGlobals mg) (T : Txt K mg xv) (F : FAt K ("_law_pick" : Str) s_l_pick []) (D_l_draw : DefOk P w K mg base xv ("_law_draw" : Str) 1 P_l_draw m_l_draw) : DefOk P w K mg base xv ("_law_pick" : Str) 2 P_l_pick m_l_pick := defok_mk hX hG F sc_l_pick (fun _ _ _ _ _ _ us hl => match us, hl with | [_, _], _ => rfl) fun f cdv A outer s H E hr =>
  mss_one (ms_ret (me_item (me_var 1) (me_fn D_l_draw hr (ma_cons (me_var 0) (ma_cons (me_len T.n_len (ma_cons (me_var 1) (ma_nil))) (ma_nil))))))
theorem ok_l_ratio (hX : K.In h) (hG : h.Ns mainGlobals mg) (T : Txt K mg xv) (F : FAt K ("_law_ratio" : Str) s_l_ratio []) : DefOk P w K mg base xv ("_law_ratio" : Str) 1 P_l_ratio m_l_ratio := defok_mk hX hG F sc_l_ratio (fun _ _ _ _ _ _ us hl => match us, hl with | [_, _], _ => rfl) fun f cdv A outer s H E hr =>
  mss_cons (ms_set sc_l_ratio.nd (me_abs T.n_abs (ma_cons (me_var 0) (ma_nil)))) (mss_cons (ms_set sc_l_ratio.nd (me_abs T.n_abs (ma_cons (me_var 1) (ma_nil)))) (mss_cons (ms_while (mt_gt (me_var 3) (me_int)) (mss_one (ms_par sc_l_ratio.nd (ma_cons (me_var 3) (ma_cons (me_mod (me_var 2) (me_var 3)) (ma_nil)))))) (mss_cons (ms_set sc_l_ratio.nd (me_mul (me_var 2) (me_sub (me_int) (me_mul (me_int) (me_cint T.n_int (ma_cons (me_lt (me_var 1) (me_int)) (ma_nil))))))) (mss_one (ms_ret (me_tup (ma_cons (me_div (me_var 0) (me_var 2)) (ma_cons (me_div (me_var 1) (me_var 2)) (ma_nil)))))))))
theorem ok_l_number (hX : K.In h) (hG : h.Ns mainGlobals mg) (T : Txt K mg xv) (F : FAt K ("_law_number" : Str) s_l_number []) (D_l_draw : DefOk P w K mg base xv ("_law_draw" : Str) 1 P_l_draw m_l_draw) (D_l_ratio : DefOk P w K mg base xv ("_law_ratio" : Str) 1 P_l_ratio m_l_ratio) : DefOk P w K mg base xv ("_law_number" : Str) 2 P_l_number m_l_number_2 := defok_mk hX hG F sc_l_number (fun _ _ _ _ _ _ us hl => match us, hl with | [_], _ => rfl) fun f cdv A outer s H E hr =>
  mss_cons (ms_set sc_l_number.nd (me_fn D_l_draw hr (ma_cons (me_var 0) (ma_cons (me_int) (ma_nil))))) (mss_cons (ms_if (mt_eq hr (me_var 1) (me_int)) (mss_one (ms_ret (me_tup (ma_cons (me_int) (ma_cons (me_int) (ma_nil)))))) (mss_nil)) (mss_cons (ms_if (mt_lt (me_var 1) (me_int)) (mss_one (ms_ret (me_tup (ma_cons (me_sub (me_fn D_l_draw hr (ma_cons (me_var 0) (ma_cons (me_int) (ma_nil)))) (me_int)) (ma_cons (me_int) (ma_nil)))))) (mss_nil)) (mss_cons (ms_if (mt_lt (me_var 1) (me_int)) (mss_one (ms_ret (me_fn D_l_ratio hr (ma_cons (me_sub (me_fn D_l_draw hr (ma_cons (me_var 0) (ma_cons (me_int) (ma_nil)))) (me_int)) (ma_cons (me_add (me_int) (me_fn D_l_draw hr (ma_cons (me_var 0) (ma_cons (me_int) (ma_nil))))) (ma_nil)))))) (mss_nil)) (mss_one (ms_ret (me_fn D_l_ratio hr (ma_cons (me_sub (me_fn D_l_draw hr (ma_cons (me_var 0) (ma_cons (me_pow (me_int) (me_int)) (ma_nil)))) (me_fn D_l_draw hr (ma_cons (me_var 0) (ma_cons (me_pow (me_int) (me_int)) (ma_nil))))) (ma_cons (me_add (me_int) (me_fn D_l_draw hr (ma_cons (me_var 0) (ma_cons (me_sub (me_pow (me_int) (me_int)) (me_int)) (ma_nil))))) (ma_nil)))))))))
theorem ok_l_part (hX : K.In h) (hG : h.Ns mainGlobals mg) (T : Txt K mg xv) (F : FAt K ("_law_part" : Str) s_l_part []) (D_l_pick : DefOk P w K mg base xv ("_law_pick" : Str) 2 P_l_pick m_l_pick) (D_l_number : DefOk P w K mg base xv ("_law_number" : Str) 2 P_l_number m_l_number_2) : DefOk P w K mg base xv ("_law_part" : Str) 3 P_l_part m_l_part := defok_mk hX hG F sc_l_part (fun _ _ _ _ _ _ us hl => match us, hl with | [_], _ => rfl) fun f cdv A outer s H E hr =>
  mss_cons (ms_set sc_l_part.nd (me_fn D_l_pick hr (ma_cons (me_var 0) (ma_cons (me_lst (ma_cons (me_str) (ma_cons (me_str) (ma_cons (me_str) (ma_cons (me_str) (ma_cons (me_str) (ma_nil))))))) (ma_nil))))) (mss_cons (ms_asg (me_fn D_l_number hr (ma_cons (me_var 0) (ma_nil))) (pg_tup rfl (pgs_cons (pg_name (i := 2) sc_l_part.nd rfl (by first | exact Or.inl rfl | exact Or.inr rfl)) (pgs_cons (pg_name (i := 3) sc_l_part.nd rfl (by first | exact Or.inl rfl | exact Or.inr rfl)) (pgs_nil)))) (tg_tup (tgs_cons (tg_name _ 2) (tgs_cons (tg_name _ 3) (tgs_nil _))))) (mss_cons (ms_if (mt_eq hr (me_var 1) (me_str)) (mss_one (ms_ret (me_tup (ma_cons (me_var 1) (ma_cons (me_tup (ma_cons (me_abs T.n_abs (ma_cons (me_var 2) (ma_nil))) (ma_cons (me_var 3) (ma_nil)))) (ma_nil)))))) (mss_nil)) (mss_cons (ms_if (mt_eq hr (me_var 1) (me_str)) (mss_one (ms_ret (me_tup (ma_cons (me_var 1) (ma_cons (me_item (me_lst (ma_cons (me_tup (ma_cons (me_abs T.n_abs (ma_cons (me_var 2) (ma_nil))) (ma_cons (me_var 3) (ma_nil)))) (ma_cons (me_tup (ma_cons (me_int) (ma_cons (me_int) (ma_nil)))) (ma_nil)))) (me_cint T.n_int (ma_cons (me_eq hr (me_var 2) (me_int)) (ma_nil)))) (ma_nil)))))) (mss_nil)) (mss_one (ms_ret (me_tup (ma_cons (me_var 1) (ma_cons (me_tup (ma_cons (me_var 2) (ma_cons (me_var 3) (ma_nil)))) (ma_nil)))))))))
theorem ok_l_bench (hX : K.In h) (hG : h.Ns mainGlobals mg) (T : Txt K mg xv) (F : FAt K ("_law_bench" : Str) s_l_bench []) (D_l_part : DefOk P w K mg base xv ("_law_part" : Str) 3 P_l_part m_l_part) (D_l_pick : DefOk P w K mg base xv ("_law_pick" : Str) 2 P_l_pick m_l_pick) : DefOk P w K mg base xv ("_law_bench" : Str) 4 P_l_bench m_l_bench := defok_mk hX hG F sc_l_bench (fun _ _ _ _ _ _ us hl => match us, hl with | [_], _ => rfl) fun f cdv A outer s H E hr =>
  mss_one (ms_ret (me_lc (own := [(("k" : Str), 1)]) (g := gName 1) sc_l_bench.nd (mi_range1 T.n_range (ma_cons (me_fn D_l_pick hr (ma_cons (me_var 0) (ma_cons (me_lst (ma_cons (me_int) (ma_cons (me_int) (ma_cons (me_int) (ma_cons (me_int) (ma_cons (me_int) (ma_cons (me_int) (ma_cons (me_int) (ma_cons (me_int) (ma_nil)))))))))) (ma_nil)))) (ma_nil))) (blkOk_by (N := N_l_bench) (sc := defScope s_l_bench) (by decide +kernel)) (fun _ _ _ _ _ => pg_name (i := 1) sc_l_bench.nd rfl (by first | exact Or.inl rfl | exact Or.inr rfl)) (tg_name _ 1) (by decide) (fun _ _ _ _ _ => mts_nil) (fun _ _ _ _ _ => me_fn D_l_part hr (ma_cons (me_var 0) (ma_nil)))))
theorem ok_l_ratio_text (hX : K.In h) (hG : h.Ns mainGlobals mg) (T : Txt K mg xv) (F : FAt K ("_law_ratio_text" : Str) s_l_ratio_text []) : DefOk P w K mg base xv ("_law_ratio_text" : Str) 1 P_l_ratio_text m_l_ratio_text := defok_mk hX hG F sc_l_ratio_text (fun _ _ _ _ _ _ us hl => match us, hl with | [_], _ => rfl) fun f cdv A outer s H E hr =>
  mss_cons (ms_if (mt_eq hr (me_item (me_var 0) (me_int)) (me_int)) (mss_one (ms_ret (me_strI T.n_str (ma_cons (me_item (me_var 0) (me_int)) (ma_nil))))) (mss_nil)) (mss_one (ms_ret (me_add (me_add (me_strI T.n_str (ma_cons (me_item (me_var 0) (me_int)) (ma_nil))) (me_str)) (me_strI T.n_str (ma_cons (me_item (me_var 0) (me_int)) (ma_nil))))))
theorem ok_l_bench_text (hX : K.In h) (hG : h.Ns mainGlobals mg) (T : Txt K mg xv) (F : FAt K ("_law_bench_text" : Str) s_l_bench_text []) (D_l_ratio_text : DefOk P w K mg base xv ("_law_ratio_text" : Str) 1 P_l_ratio_text m_l_ratio_text) : DefOk P w K mg base xv ("_law_bench_text" : Str) 2 P_l_bench_text m_l_bench_text := defok_mk hX hG F sc_l_bench_text (fun _ _ _ _ _ _ us hl => match us, hl with | [_], _ => rfl) fun f cdv A outer s H E hr =>
  mss_cons (ms_set sc_l_bench_text.nd (me_str)) (mss_cons (ms_for (mi_enum T.n_enumerate (ma_cons (me_var 0) (ma_nil))) (pg_tup rfl (pgs_cons (pg_name (i := 2) sc_l_bench_text.nd rfl (by first | exact Or.inl rfl | exact Or.inr rfl)) (pgs_cons (pg_tup rfl (pgs_cons (pg_name (i := 3) sc_l_bench_text.nd rfl (by first | exact Or.inl rfl | exact Or.inr rfl)) (pgs_cons (pg_name (i := 4) sc_l_bench_text.nd rfl (by first | exact Or.inl rfl | exact Or.inr rfl)) (pgs_nil)))) (pgs_nil)))) (tg_tup (tgs_cons (tg_name _ 2) (tgs_cons (tg_tup (tgs_cons (tg_name _ 3) (tgs_cons (tg_name _ 4) (tgs_nil _)))) (tgs_nil _)))) (mss_cons (ms_set sc_l_bench_text.nd (me_item (me_lst (ma_cons (me_add (me_var 1) (me_str)) (ma_cons (me_str) (ma_nil)))) (me_cint T.n_int (ma_cons (me_eq hr (me_var 2) (me_int)) (ma_nil))))) (mss_one (ms_set sc_l_bench_text.nd (me_add (me_add (me_add (me_var 5) (me_var 3)) (me_str)) (me_fn D_l_ratio_text hr (ma_cons (me_var 4) (ma_nil)))))))) (mss_one (ms_ret (me_var 1))))
theorem ok_ratio_text (hX : K.In h) (hG : h.Ns mainGlobals mg) (T : Txt K mg xv) (F : FAt K ("ratio_text" : Str) s_ratio_text []) : DefOk P w K mg base xv ("ratio_text" : Str) 1 P_ratio_text m_ratio_text := defok_mk hX hG F sc_ratio_text (fun _ _ _ _ _ _ us hl => match us, hl with | [_], _ => rfl) fun f cdv A outer s H E hr =>
  mss_cons (ms_if (mt_eq hr (me_item (me_var 0) (me_int)) (me_int)) (mss_one (ms_ret (me_strI T.n_str (ma_cons (me_item (me_var 0) (me_int)) (ma_nil))))) (mss_nil)) (mss_one (ms_ret (me_add (me_add (me_strI T.n_str (ma_cons (me_item (me_var 0) (me_int)) (ma_nil))) (me_str)) (me_strI T.n_str (ma_cons (me_item (me_var 0) (me_int)) (ma_nil))))))
theorem ok_bench_text (hX : K.In h) (hG : h.Ns mainGlobals mg) (T : Txt K mg xv) (F : FAt K ("bench_text" : Str) s_bench_text []) (D_ratio_text : DefOk P w K mg base xv ("ratio_text" : Str) 1 P_ratio_text m_ratio_text) : DefOk P w K mg base xv ("bench_text" : Str) 2 P_bench_text m_bench_text := defok_mk hX hG F sc_bench_text (fun _ _ _ _ _ _ us hl => match us, hl with | [_], _ => rfl) fun f cdv A outer s H E hr =>
  mss_cons (ms_if (mt_eq hr (me_len T.n_len (ma_cons (me_var 0) (ma_nil))) (me_int)) (mss_one (ms_ret (me_const T.c_BARE))) (mss_nil)) (mss_one (ms_ret (me_join (me_const T.c_BETWEEN) (me_lc (own := [(("part" : Str), 1)]) (g := gName 1) sc_bench_text.nd (mi_seq (me_var 0)) (blkOk_by (N := N_bench_text) (sc := defScope s_bench_text) (by decide +kernel)) (fun _ _ _ _ _ => pg_name (i := 1) sc_bench_text.nd rfl (by first | exact Or.inl rfl | exact Or.inr rfl)) (tg_name _ 1) (by decide) (fun _ _ _ _ _ => mts_nil) (fun _ _ _ _ _ => me_add (me_add (me_item (me_var 1) (me_int)) (me_str)) (me_fn D_ratio_text hr (ma_cons (me_item (me_var 1) (me_int)) (ma_nil))))))))
theorem ok_hall_text (hX : K.In h) (hG : h.Ns mainGlobals mg) (T : Txt K mg xv) (F : FAt K ("hall_text" : Str) s_hall_text []) (D_ratio_text : DefOk P w K mg base xv ("ratio_text" : Str) 1 P_ratio_text m_ratio_text) (D_bench_text : DefOk P w K mg base xv ("bench_text" : Str) 2 P_bench_text m_bench_text) : DefOk P w K mg base xv ("hall_text" : Str) 3 P_hall_text m_hall_text := defok_mk hX hG F sc_hall_text (fun _ _ _ _ _ _ us hl => match us, hl with | [_], _ => rfl) fun f cdv A outer s H E hr =>
  mss_one (ms_ret (me_join (me_const T.c_BESIDE) (me_lst (ma_cons (me_fn D_ratio_text hr (ma_cons (me_item (me_var 0) (me_int)) (ma_nil))) (ma_cons (me_fn D_bench_text hr (ma_cons (me_item (me_var 0) (me_int)) (ma_nil))) (ma_cons (me_fn D_ratio_text hr (ma_cons (me_item (me_var 0) (me_int)) (ma_nil))) (ma_nil)))))))
theorem ok_law (hX : K.In h) (hG : h.Ns mainGlobals mg) (T : Txt K mg xv) (F : FAt K ("law" : Str) s_law []) (D_l_pool : DefOk P w K mg base xv ("_law_pool" : Str) 1 P_l_pool m_l_pool) (D_l_bench : DefOk P w K mg base xv ("_law_bench" : Str) 4 P_l_bench m_l_bench) (D_l_bench_text : DefOk P w K mg base xv ("_law_bench_text" : Str) 2 P_l_bench_text m_l_bench_text) (D_l_number : DefOk P w K mg base xv ("_law_number" : Str) 2 P_l_number m_l_number_2) (D_l_ratio_text : DefOk P w K mg base xv ("_law_ratio_text" : Str) 1 P_l_ratio_text m_l_ratio_text) (D_bench_text : DefOk P w K mg base xv ("bench_text" : Str) 2 P_bench_text m_bench_text) (D_hall_text : DefOk P w K mg base xv ("hall_text" : Str) 3 P_hall_text m_hall_text) : DefOk P w K mg base xv ("law" : Str) 5 P_law m_law_k56 := defok_mk hX hG F sc_law (fun _ _ _ _ _ _ us hl => match us, hl with | [_], _ => rfl) fun f cdv A outer s H E hr =>
  mss_cons (ms_for (mi_seq (me_add (me_var 0) (me_lst (ma_cons (me_int) (ma_cons (me_int) (ma_cons (me_int) (ma_nil))))))) (pg_name (i := 1) sc_law.nd rfl (by first | exact Or.inl rfl | exact Or.inr rfl)) (tg_name _ 1) (mss_cons (ms_set sc_law.nd (me_fn D_l_pool hr (ma_cons (me_var 1) (ma_nil)))) (mss_cons (ms_set sc_law.nd (me_fn D_l_bench hr (ma_cons (me_var 2) (ma_nil)))) (mss_cons (ms_set sc_law.nd (me_fn D_l_bench_text hr (ma_cons (me_var 3) (ma_nil)))) (mss_cons (ms_if (MW.pt (mw_or (mt_ne hr (me_fn D_bench_text hr (ma_cons (me_var 3) (ma_nil))) (me_var 4)) (mw_or1 (mt_ne hr (me_fn D_bench_text hr (ma_cons (me_ctuple T.n_tuple (ma_cons (me_var 3) (ma_nil))) (ma_nil))) (me_var 4))))) (mss_one (ms_ret (me_bl))) (mss_nil)) (mss_cons (ms_set sc_law.nd (me_fn D_l_number hr (ma_cons (me_var 2) (ma_nil)))) (mss_cons (ms_set sc_law.nd (me_fn D_l_number hr (ma_cons (me_var 2) (ma_nil)))) (mss_cons (ms_set sc_law.nd (me_tup (ma_cons (me_var 5) (ma_cons (me_slice (me_var 3) (mo_none) (mo_some (me_int))) (ma_cons (me_var 6) (ma_nil)))))) (mss_cons (ms_set sc_law.nd (me_lst (ma_cons (me_fn D_l_ratio_text hr (ma_cons (me_var 5) (ma_nil))) (ma_cons (me_fn D_l_bench_text hr (ma_cons (me_slice (me_var 3) (mo_none) (mo_some (me_int))) (ma_nil))) (ma_cons (me_fn D_l_ratio_text hr (ma_cons (me_var 6) (ma_nil))) (ma_nil)))))) (mss_one (ms_if (MW.pt (mw_or (mt_ne hr (me_fn D_hall_text hr (ma_cons (me_var 7) (ma_nil))) (me_join (me_str) (me_var 4))) (mw_or1 (mt_ne hr (me_fn D_hall_text hr (ma_cons (me_tup (ma_cons (me_var 5) (ma_cons (me_ctuple T.n_tuple (ma_cons (me_slice (me_var 3) (mo_none) (mo_some (me_int))) (ma_nil))) (ma_cons (me_var 6) (ma_nil))))) (ma_nil))) (me_join (me_str) (me_var 4)))))) (mss_one (ms_ret (me_bl))) (mss_nil)))))))))))) (mss_one (ms_ret (me_bl)))
/-- what the top has written -/
structure All (K : PySem.W.Frag) : Prop where
  f_l_pool : FAt K ("_law_pool" : Str) s_l_pool []
  f_l_draw : FAt K ("_law_draw" : Str) s_l_draw []
  f_l_pick : FAt K ("_law_pick" : Str) s_l_pick []
  f_l_ratio : FAt K ("_law_ratio" : Str) s_l_ratio []
  f_l_number : FAt K ("_law_number" : Str) s_l_number []
  f_l_part : FAt K ("_law_part" : Str) s_l_part []
  f_l_bench : FAt K ("_law_bench" : Str) s_l_bench []
  f_l_ratio_text : FAt K ("_law_ratio_text" : Str) s_l_ratio_text []
  f_l_bench_text : FAt K ("_law_bench_text" : Str) s_l_bench_text []
  f_ratio_text : FAt K ("ratio_text" : Str) s_ratio_text []
  f_bench_text : FAt K ("bench_text" : Str) s_bench_text []
  f_hall_text : FAt K ("hall_text" : Str) s_hall_text []
  f_law : FAt K ("law" : Str) s_law []
theorem law_ok (hX : K.In h) (hG : h.Ns mainGlobals mg) (T : Txt K mg xv) (F : All K) : DefOk P w K mg base xv "law" 5 P_law m_law_k56 := by
  have D_l_pool := ok_l_pool (P := P) (w := w) (base := base) (xv := xv) hX hG T F.f_l_pool
  have D_l_draw := ok_l_draw (P := P) (w := w) (base := base) (xv := xv) hX hG T F.f_l_draw
  have D_l_pick := ok_l_pick (P := P) (w := w) (base := base) (xv := xv) hX hG T F.f_l_pick D_l_draw
  have D_l_ratio := ok_l_ratio (P := P) (w := w) (base := base) (xv := xv) hX hG T F.f_l_ratio
  have D_l_number := ok_l_number (P := P) (w := w) (base := base) (xv := xv) hX hG T F.f_l_number D_l_draw D_l_ratio
  have D_l_part := ok_l_part (P := P) (w := w) (base := base) (xv := xv) hX hG T F.f_l_part D_l_pick D_l_number
  have D_l_bench := ok_l_bench (P := P) (w := w) (base := base) (xv := xv) hX hG T F.f_l_bench D_l_part D_l_pick
  have D_l_ratio_text := ok_l_ratio_text (P := P) (w := w) (base := base) (xv := xv) hX hG T F.f_l_ratio_text
  have D_l_bench_text := ok_l_bench_text (P := P) (w := w) (base := base) (xv := xv) hX hG T F.f_l_bench_text D_l_ratio_text
  have D_ratio_text := ok_ratio_text (P := P) (w := w) (base := base) (xv := xv) hX hG T F.f_ratio_text
  have D_bench_text := ok_bench_text (P := P) (w := w) (base := base) (xv := xv) hX hG T F.f_bench_text D_ratio_text
  have D_hall_text := ok_hall_text (P := P) (w := w) (base := base) (xv := xv) hX hG T F.f_hall_text D_ratio_text D_bench_text
  have D_law := ok_law (P := P) (w := w) (base := base) (xv := xv) hX hG T F.f_law D_l_pool D_l_bench D_l_bench_text D_l_number D_l_ratio_text D_bench_text D_hall_text
  exact D_law
end
end K56
section
set_option exponentiation.threshold 10000
namespace K56
open PySem L2 Rg
theorem it1 {ns : List Int} (hl : ns.length ≤ 63) {e : Rg.Env} (h0 : e[0]? = some (some (.ref 0))) : Rok (sIter (s2 fPlus (sVar 0) (sLst (sCons (sC (.int (0))) (sCons (sC (.int (1))) (sCons (sC (.int (2))) (sNil)))))) e [.fro (ns.map Rg.D.int)]) fun w S' => (∃ xs : List Int, w.items = xs.map Rg.D.int) ∧ (∃ C, S' = [.fro (ns.map Rg.D.int)] ++ C) ∧ ∀ C, w.chk (S' ++ C) := by
  simp [h0]
  exact ⟨by omega, ns ++ [0, 1, 2], by simp⟩
theorem cut8 {l : List Rg.D} : cutL l none (some 8) = l.take 8 := by
  rcases Nat.lt_or_ge l.length 8 with h | h
  · rw [List.take_of_length_le (by omega)]
    unfold cutL
    have h1 : HT.sIx l.length 0 none = 0 := rfl
    have h2 : HT.sIx l.length l.length (some (8 : Int)) = l.length := by
      show (if (8 : Int) < 0 then ((8 : Int) + ((l.length : Nat) : Int)).toNat else min (8 : Int).toNat l.length) = l.length
      rw [if_neg (by omega)]
      omega
    rw [h1, h2]; simp
  · exact cut_to (k := 8) h
theorem law_true (ns : List Int) (hl : ns.length ≤ 63) (hb : ∀ z ∈ ns, Builtin.Int.intBits z ≤ 1048576) : ∃ S', m_law_k56 [.ref 0] [.fro (ns.map Rg.D.int)] = .ok (.bl true) S' := by
  refine law_gen0 (slot := 1) (fun e => e.length = 8 ∧ e[0]? = some (some (.ref 0))) rfl ⟨rfl, rfl⟩ (fun e he => it1 hl he.2) ?_ ?_
  · rintro x e S ⟨he, h0⟩
    obtain ⟨o0, o1, o2, o3, o4, o5, o6, o7, rfl⟩ : ∃ a b c d e' f g h, e = [a, b, c, d, e', f, g, h] := by
      match e, he with
      | [a, b, c, d, e, f, g, h], _ => exact ⟨_, _, _, _, _, _, _, _, rfl⟩
    simp at h0
    subst h0
    simp
    refine pool_then fun a b c => ?_
    simp
    refine bench_then inferInstance fun b x y z hB hlen => ?_
    have hz : ∀ p ∈ b, Sz p.num 40 := hB.sz
    have hl100 : b.length ≤ 100 := by omega
    have hq : ∀ C x y z, Sq (S ++ (Rg.pl x y z :: .lst (b.map eP) :: C)) (.ref (S.length + 1)) (b.map eP) := fun C x y z => .inr ⟨_, rfl, by simp⟩
    have hqt : ∀ C, Sq C (.tup (b.map eP)) (b.map eP) := fun C => .inl rfl
    simp
    rw [l_bench_text_eq (hq _ _ _ _) hz (by decide) hl100]
    simp
    rw [bench_text_eq (hq _ _ _ _) hz (by decide) hl100]
    simp [strOk_bench]
    rw [bench_text_eq (hqt _) hz (by decide) hl100]
    simp [strOk_bench]
    refine number2_then inferInstance fun near x y z zn => ?_
    simp
    refine number2_then inferInstance fun far x y z zf => ?_
    have hc : cutL (b.map eP) none (some 8) = (b.take 8).map eP := by rw [cut8, List.map_take]
    have hz8 : ∀ p ∈ b.take 8, Sz p.num 40 := fun p hp => hz p (List.mem_of_mem_take hp)
    have hl8 : (b.take 8).length ≤ 100 := by simp; omega
    have hq8 : ∀ C x y z m, lstOf (S ++ (Rg.pl x y z :: .lst (b.map eP) :: C)) (S.length + m) = some ((b.take 8).map eP) → Sq (S ++ (Rg.pl x y z :: .lst (b.map eP) :: C)) (.ref (S.length + m)) ((b.take 8).map eP) := fun C x y z m h => .inr ⟨_, rfl, h⟩
    have r1 := fun T => ratio_text_eq (S := T) zn (by decide)
    have r2 := fun T => ratio_text_eq (S := T) zf (by decide)
    have ok : PyData.strOk (hallT near far (b.take 8)) = true := strOk_join (strOk_of _) fun y hy => by
      simp only [List.mem_cons, List.not_mem_nil, or_false] at hy
      rcases hy with rfl | rfl | rfl
      · exact strOk_ratT
      · exact strOk_bench
      · exact strOk_ratT
    simp
    rw [hc, l_ratio_text_same, r1]
    simp [hc]
    rw [l_bench_text_eq (b := b.take 8) (.inr ⟨_, rfl, by simp⟩) hz8 (by decide) hl8]
    simp [r2]
    rw [hall_text_eq (b := b.take 8) (.inr ⟨_, rfl, by simp⟩) hz8 zn zf (by decide) hl8]
    simp
    have l1 := ratT_len zn
    have l2 := ratT_len zf
    have l3 := benchT_len hz8 hl8
    have g3 : ((" | " : Str)).length = 3 := by decide +kernel
    have ht : Txt.join " | " [ratT near, benchT (b.take 8), ratT far] = hallT near far (b.take 8) := rfl
    have hsz : (([ratT near, benchT (b.take 8), ratT far] : List Str).map fun x => x.length).sum + ([ratT near, benchT (b.take 8), ratT far] : List Str).length * ((" | " : Str)).length ≤ 16777216 := by
      simp [g3]
      omega
    refine ⟨_, rfl, hsz, ?_⟩
    rw [ht]
    simp [ok]
    rw [hc, hall_text_eq (b := b.take 8) (.inl rfl) hz8 zn zf (by decide) hl8]
    simp
    refine ⟨_, rfl, hsz, ?_⟩
    rw [ht]
    simp [ok]
    done
  · intro e S he
    simp
end K56
end
namespace K56
open PySem PySem.Spec PyProof.Rows L2 Rg
def fn : List He.DefD := ([⟨(("_law_pool" : Str), none), ("_law_pool" : Str), ("_law_pool" : Str), defArgs s_l_pool, defBody s_l_pool, defScope s_l_pool, [], []⟩, ⟨(("_law_draw" : Str), none), ("_law_draw" : Str), ("_law_draw" : Str), defArgs s_l_draw, defBody s_l_draw, defScope s_l_draw, [], []⟩, ⟨(("_law_pick" : Str), none), ("_law_pick" : Str), ("_law_pick" : Str), defArgs s_l_pick, defBody s_l_pick, defScope s_l_pick, [], []⟩, ⟨(("_law_ratio" : Str), none), ("_law_ratio" : Str), ("_law_ratio" : Str), defArgs s_l_ratio, defBody s_l_ratio, defScope s_l_ratio, [], []⟩, ⟨(("_law_number" : Str), none), ("_law_number" : Str), ("_law_number" : Str), defArgs s_l_number, defBody s_l_number, defScope s_l_number, [], []⟩, ⟨(("_law_part" : Str), none), ("_law_part" : Str), ("_law_part" : Str), defArgs s_l_part, defBody s_l_part, defScope s_l_part, [], []⟩, ⟨(("_law_bench" : Str), none), ("_law_bench" : Str), ("_law_bench" : Str), defArgs s_l_bench, defBody s_l_bench, defScope s_l_bench, [], []⟩, ⟨(("_law_ratio_text" : Str), none), ("_law_ratio_text" : Str), ("_law_ratio_text" : Str), defArgs s_l_ratio_text, defBody s_l_ratio_text, defScope s_l_ratio_text, [], []⟩, ⟨(("_law_bench_text" : Str), none), ("_law_bench_text" : Str), ("_law_bench_text" : Str), defArgs s_l_bench_text, defBody s_l_bench_text, defScope s_l_bench_text, [], []⟩, ⟨(("ratio_text" : Str), none), ("ratio_text" : Str), ("ratio_text" : Str), defArgs s_ratio_text, defBody s_ratio_text, defScope s_ratio_text, [], []⟩, ⟨(("bench_text" : Str), none), ("bench_text" : Str), ("bench_text" : Str), defArgs s_bench_text, defBody s_bench_text, defScope s_bench_text, [], []⟩, ⟨(("hall_text" : Str), none), ("hall_text" : Str), ("hall_text" : Str), defArgs s_hall_text, defBody s_hall_text, defScope s_hall_text, [], []⟩, ⟨(("law" : Str), none), ("law" : Str), ("law" : Str), defArgs s_law, defBody s_law, defScope s_law, [], []⟩] : List He.DefD)
def fa : List He.Fa := ([.glo ("_law_pool" : Str), .glo ("_law_draw" : Str), .glo ("_law_pick" : Str), .glo ("_law_ratio" : Str), .glo ("_law_number" : Str), .glo ("_law_part" : Str), .glo ("_law_bench" : Str), .glo ("_law_ratio_text" : Str), .glo ("_law_bench_text" : Str), .glo ("ratio_text" : Str), .glo ("bench_text" : Str), .glo ("hall_text" : Str), .glo ("law" : Str), .free ("abs" : Str), .free ("enumerate" : Str), .free ("int" : Str), .free ("len" : Str), .free ("max" : Str), .free ("range" : Str), .free ("str" : Str), .free ("tuple" : Str)] : List He.Fa)
def cs : List (Str × D) := ([(("BARE" : Str), .str ("none" : Str)), (("BESIDE" : Str), .str (" | " : Str)), (("BETWEEN" : Str), .str ("; " : Str))] : List (Str × D))
abbrev R : PySem.W.OpenRow := PySem.W.OpenLaw.row PySem.Challenge.rw_roundglass_k56_benches_written
abbrev hk : PySem.W.Hook := Rg.hookR 4 fa fn cs
def ob (s : PySem.W.SharedT) : Rg.AlR := Rg.obsRG 4 fa fn cs (HandSHeadRun.getT s)
theorem ob_eq (s : PySem.W.SharedT) : ob s = hk.obs s.abs := Rg.obsRG_eq (HandSHeadRun.getT_eq s)
def loose : List PySem.Str := (["BARE", "BETWEEN", "BESIDE", "ratio_text", "bench_text", "hall_text", "_law_pool", "_law_draw", "_law_pick", "_law_ratio", "_law_plus", "_law_times", "_law_less", "_law_minus", "_law_number", "_law_part", "_law_bench", "_law_ratio_text", "_law_bench_text"] : List PySem.Str)
theorem run (w : World) : HandSHeadRun.RunEq R (PySem.W.view R.prog [21]) hk ob 6000 loose w := by
  intro os
  kernel_rfl
theorem facts {w : World} {K : PySem.W.Frag} {h : Heap} {mg : Str → Option Value} {f : Addr} (X : K.In h) (G : h.Ns mainGlobals mg) (hfa : mg ("law" : Str) = some (.ref f)) (c : Rg.SaysR fa fn cs K) :
    ∃ fd : FuncData, (∀ (s : Shared) (v : Value), BindsTo s fd ⟨[v], []⟩ [("script", v)]) ∧ ∀ base : Heap, K.In base → base.Ns mainGlobals mg → FnOk PySem.Challenge.rw_roundglass_k56_benches_written.prog w K mg base (L2.CX PySem.Challenge.rw_roundglass_k56_benches_written.prog w) 5 f fd ["script"] (SpOf K (xvK K) m_law_k56) := by
  have f_l_pool : FAt K ("_law_pool" : Str) s_l_pool [] := c.f 0 0 (dvs := [])
  have f_l_draw : FAt K ("_law_draw" : Str) s_l_draw [] := c.f 1 1 (dvs := [])
  have f_l_pick : FAt K ("_law_pick" : Str) s_l_pick [] := c.f 2 2 (dvs := [])
  have f_l_ratio : FAt K ("_law_ratio" : Str) s_l_ratio [] := c.f 3 3 (dvs := [])
  have f_l_number : FAt K ("_law_number" : Str) s_l_number [] := c.f 4 4 (dvs := [])
  have f_l_part : FAt K ("_law_part" : Str) s_l_part [] := c.f 5 5 (dvs := [])
  have f_l_bench : FAt K ("_law_bench" : Str) s_l_bench [] := c.f 6 6 (dvs := [])
  have f_l_ratio_text : FAt K ("_law_ratio_text" : Str) s_l_ratio_text [] := c.f 7 7 (dvs := [])
  have f_l_bench_text : FAt K ("_law_bench_text" : Str) s_l_bench_text [] := c.f 8 8 (dvs := [])
  have f_ratio_text : FAt K ("ratio_text" : Str) s_ratio_text [] := c.f 9 9 (dvs := [])
  have f_bench_text : FAt K ("bench_text" : Str) s_bench_text [] := c.f 10 10 (dvs := [])
  have f_hall_text : FAt K ("hall_text" : Str) s_hall_text [] := c.f 11 11 (dvs := [])
  have f_law : FAt K ("law" : Str) s_law [] := c.f 12 12 (dvs := [])
  exact Rg.law_end (ps := P_law) X G hfa f_law (fun _ _ _ _ _ _ _ => rfl) rfl fun base _ _ => law_ok (P := PySem.Challenge.rw_roundglass_k56_benches_written.prog) (w := w) (base := base) (xv := (xvK K)) X G ⟨He.free_ok X G (c.d.fact 13 (f := .free ("abs" : Str)) rfl), He.free_ok X G (c.d.fact 14 (f := .free ("enumerate" : Str)) rfl), He.free_ok X G (c.d.fact 15 (f := .free ("int" : Str)) rfl), He.free_ok X G (c.d.fact 16 (f := .free ("len" : Str)) rfl), He.free_ok X G (c.d.fact 17 (f := .free ("max" : Str)) rfl), He.free_ok X G (c.d.fact 18 (f := .free ("range" : Str)) rfl), He.free_ok X G (c.d.fact 19 (f := .free ("str" : Str)) rfl), He.free_ok X G (c.d.fact 20 (f := .free ("tuple" : Str)) rfl), c.c X G 0, c.c X G 1, c.c X G 2⟩ ⟨f_l_pool, f_l_draw, f_l_pick, f_l_ratio, f_l_number, f_l_part, f_l_bench, f_l_ratio_text, f_l_bench_text, f_ratio_text, f_bench_text, f_hall_text, f_law⟩
end K56
open PySem PySem.W PySem.Calls PyProof.Rows
set_option maxHeartbeats 0 in
theorem PySem.Challenge.cw_roundglass_k56_benches_written_holds : PySem.Challenge.rw_roundglass_k56_benches_written.Holds := by
  w_on; o_law
  refine HandSHeadRun.head_any (r := OpenLaw.row PySem.Challenge.rw_roundglass_k56_benches_written) (q := view (OpenLaw.row PySem.Challenge.rw_roundglass_k56_benches_written).prog [21]) (H := K56.hk) (ob := K56.ob) (M := 6000) (loose := K56.loose) (d := HandSHeadRun.topDef (OpenLaw.row PySem.Challenge.rw_roundglass_k56_benches_written).prog 21) (kwd := []) K56.ob_eq
    (by kernel_rfl) (fun s => by kernel_rfl) K56.run (by kernel_rfl) (by kernel_rfl) (by kernel_rfl) (by rfl) (by first | assumption | decide +kernel) (by decide +kernel) ⟨rfl, rfl, rfl, rfl, rfl, by decide +kernel⟩ ?hw ?hc
  case hw => w_witness2
  case hc =>
    refine Rg.walk_ofR (l := PySem.Challenge.rw_roundglass_k56_benches_written) (n := 63) (k := 5) (x := "script") (CX := fun w => L2.CX PySem.Challenge.rw_roundglass_k56_benches_written.prog w) rfl (by decide) (by kernel_rfl) ⟨rfl, by decide, by decide⟩ ?F (fun w H s e s' z => Rg.cx_no z)
    intro w mg fa h Y G hmg0
    obtain ⟨K, KX, c⟩ := Y
    have hmg : mg ("law" : PySem.Str) = some (.ref fa) := by
      have e : (HandSHeadRun.topDef (OpenLaw.row PySem.Challenge.rw_roundglass_k56_benches_written).prog 21).name = ("law" : PySem.Str) := by kernel_rfl
      rw [← e]
      exact hmg0
    obtain ⟨fd, hb, hF⟩ := K56.facts (w := w) KX G hmg c
    exact ⟨K, fd, Rg.SpOf K (Rg.xvK K) Rg.m_law_k56, KX, hb, fun H a ns hl hbits hO hS => (K56.law_true ns hl hbits).elim fun S hS2 => Rg.law_sp hO hS S hS2, hF⟩
