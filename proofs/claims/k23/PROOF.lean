import PyProof.Rows.All
import Wide.All
import OpenK.AllK
import Wide.FinOn
import HandS.ForMost
import HandS.ForExc
import HandS.Wide
import HandS.WideBits
import HandS.IsInst
import HandS.Walk
import HandS.Deep
import HandS.Flow
import HandS.TupAny
import HandS.Style
import HandS.Rev
import HandS.Zip
import HandS.EndBits
import HandS.More
import HandS.HeadHook1
import KE.KDictKeyed
import KE.KeyNested
import HandS.CallSlots
import HandS.Defaults
import HandS.ExcCtx
import HandS.WordsExc
import KE.GoesEnum
import HandS.SetFor
import KE.KDictList
import KE.KStateDown
import HandS.Head0
import HandS.Head1
import HandS.Head2
import HandS.HeadHook2
import HandS.HeadHook3
import HandS.HeadEnd
import HandS.ExcIs
import HandS.RevRange
import HandS.Text
import HandS.RevTup
import HandS.Strs
import KE.SortData
import HandS.Steps
import KE.KIntText
import PyProof.Rows.StrOr
import KE.GoesComp
import KE.GoesRaise
import HandS.TupMul
import HandS.SuiteRaise
import HandS.StrMore
import KE.GoesMore
import KE.KDictZip
import PyProof.MaxThree
import PyProof.MinMaxWalk
import KE.KEqDict
import HandS.TupLen
import PySem.Challenge.RW_roundglass_k23_corners_told
set_option Elab.async false
set_option linter.all false
set_option maxRecDepth 100000
set_option maxHeartbeats 4000000
namespace Rg
open PySem PySem.Spec PyProof.Rows L2
inductive D where
  | non | bl (b : Bool) | int (i : Int) | str (s : Str) | tup (l : List D) | ref (n : Nat)
inductive Cell where
  | lst (l : List D) | fro (l : List D) | dct | ins (C : Str) (fs : List (Str × D)) | xcp (x : Str) | dn (ks : List D)
abbrev Store := List Cell
inductive Res (A : Type) where
  | ok (a : A) (S : Store) | exc (c : Str) (S : Store) | bad
def Res.bind {A B : Type} (r : Res A) (f : A → Store → Res B) : Res B := match r with
  | .ok a S => f a S
  | .exc c S => .exc c S
  | .bad => .bad
@[simp] theorem bind_ok {A B : Type} (a : A) (S : Store) (f : A → Store → Res B) : (Res.ok a S).bind f = f a S := rfl
@[simp] theorem bind_exc {A B : Type} (c : Str) (S : Store) (f : A → Store → Res B) : (Res.exc c S).bind f = .exc c S := rfl
@[simp] theorem bind_bad {A B : Type} (f : A → Store → Res B) : (Res.bad).bind f = .bad := rfl
abbrev Env := List (Option D)
abbrev SE := Env → Store → Res D
abbrev SA := Env → Store → Res (List D)
abbrev ST := Env → Store → Res Bool
mutual
def RV (K : PySem.W.Frag) (H : Hp) (p : List Addr) : D → V → Prop
  | .non, v => v = .non
  | .bl b, v => v = .bl b
  | .int i, v => v = .int i
  | .str s, v => v = .str s
  | .tup l, v => ∃ a xs, v = .ref a ∧ SqT K H a xs ∧ RVs K H p l xs
  | .ref n, v => ∃ a, v = .ref a ∧ p[n]? = some a
def RVs (K : PySem.W.Frag) (H : Hp) (p : List Addr) : List D → List V → Prop
  | [], xs => xs = []
  | d :: l, xs => ∃ x r, xs = x :: r ∧ RV K H p d x ∧ RVs K H p l r
end
structure Ext (K : PySem.W.Frag) (H H' : Hp) (p p' : List Addr) : Prop where
  pre : ∀ (n : Nat) (a : Addr), p[n]? = some a → p'[n]? = some a
  tup : ∀ a xs, SqT K H a xs → SqT K H' a xs
theorem Ext.refl {K : PySem.W.Frag} {H : Hp} {p : List Addr} : Ext K H H p p := ⟨fun _ _ h => h, fun _ _ h => h⟩
def exO (a : Addr) (cls : Value) (d : Option Addr) : HO := .ext fun h => ∃ oe : Obj, h.get? a = some oe ∧ Zc cls d oe ∧ ∃ vs, oe.data = .fields vs
def keyD : D → Option NestedKey
  | .int i => some (.num i)
  | .tup l => (keyDs l).map .tup
  | _ => none
where keyDs : List D → Option (List NestedKey)
  | [] => some []
  | d :: l => match keyD d, keyDs l with
    | some k, some ks => some (k :: ks)
    | _, _ => none
open Classical in
noncomputable def hashN (k : NestedKey) : Int := if h : ∃ n, ∀ w, k.hash w = n then h.choose else 0
def DNo (a : Addr) (xs : List (NestedKey × Addr × Value)) : HO := .ext fun h => (∃ o es ep, h.get? a = some o ∧ o.ExactDict ∧ o.data = .dict es ep ∧ es.toList = xs.map fun x => (⟨hashN x.1, .ref x.2.1, x.2.2⟩ : DictEntry)) ∧ (xs.map (·.1)).Nodup ∧ xs.length ≤ sizeLine ∧ (a == sysModules) = false ∧ ∀ x ∈ xs, ∀ w, x.1.hash w = hashN x.1
theorem Ext.trans {K : PySem.W.Frag} {H H1 H2 : Hp} {p p1 p2 : List Addr} (a : Ext K H H1 p p1) (b : Ext K H1 H2 p1 p2) : Ext K H H2 p p2 :=
  ⟨fun n x h => b.pre n x (a.pre n x h), fun x xs h => b.tup x xs (a.tup x xs h)⟩
mutual
theorem RV.mono {K : PySem.W.Frag} {H H' : Hp} {p p' : List Addr} (e : Ext K H H' p p') : ∀ (d : D) (v : V), RV K H p d v → RV K H' p' d v
  | .non, _, h => by unfold RV at h ⊢; exact h
  | .bl _, _, h => by unfold RV at h ⊢; exact h
  | .int _, _, h => by unfold RV at h ⊢; exact h
  | .str _, _, h => by unfold RV at h ⊢; exact h
  | .tup l, _, h => by
    unfold RV at h ⊢
    obtain ⟨a, xs, h1, h2, h3⟩ := h
    exact ⟨a, xs, h1, e.tup _ _ h2, RVs.mono e l xs h3⟩
  | .ref _, _, h => by
    unfold RV at h ⊢
    obtain ⟨a, h1, h2⟩ := h
    exact ⟨a, h1, e.pre _ _ h2⟩
theorem RVs.mono {K : PySem.W.Frag} {H H' : Hp} {p p' : List Addr} (e : Ext K H H' p p') : ∀ (l : List D) (xs : List V), RVs K H p l xs → RVs K H' p' l xs
  | [], _, h => by unfold RVs at h ⊢; exact h
  | d :: l, _, h => by
    unfold RVs at h ⊢
    obtain ⟨x, r, h1, h2, h3⟩ := h
    exact ⟨x, r, h1, RV.mono e d x h2, RVs.mono e l r h3⟩
end
section
variable {K : PySem.W.Frag} {H : Hp} {p : List Addr}
theorem RV.non_iff {v : V} : RV K H p .non v ↔ v = .non := by unfold RV; exact Iff.rfl
theorem RV.bl_iff {b : Bool} {v : V} : RV K H p (.bl b) v ↔ v = .bl b := by unfold RV; exact Iff.rfl
theorem RV.int_iff {i : Int} {v : V} : RV K H p (.int i) v ↔ v = .int i := by unfold RV; exact Iff.rfl
theorem RV.str_iff {s : Str} {v : V} : RV K H p (.str s) v ↔ v = .str s := by unfold RV; exact Iff.rfl
theorem RV.tup_iff {l : List D} {v : V} : RV K H p (.tup l) v ↔ ∃ a xs, v = .ref a ∧ SqT K H a xs ∧ RVs K H p l xs := by
  conv => lhs; unfold RV
theorem RV.ref_iff {n : Nat} {v : V} : RV K H p (.ref n) v ↔ ∃ a, v = .ref a ∧ p[n]? = some a := by
  conv => lhs; unfold RV
theorem RVs.nil_iff {xs : List V} : RVs K H p [] xs ↔ xs = [] := by unfold RVs; exact Iff.rfl
theorem RVs.cons_iff {d : D} {l : List D} {xs : List V} : RVs K H p (d :: l) xs ↔ ∃ x r, xs = x :: r ∧ RV K H p d x ∧ RVs K H p l r := by
  conv => lhs; unfold RVs
theorem RVs.nil : RVs K H p [] [] := RVs.nil_iff.mpr rfl
theorem RVs.cons {d : D} {l : List D} {x : V} {r : List V} (a : RV K H p d x) (b : RVs K H p l r) : RVs K H p (d :: l) (x :: r) := RVs.cons_iff.mpr ⟨x, r, rfl, a, b⟩
theorem RVs.len : ∀ {l : List D} {xs : List V}, RVs K H p l xs → l.length = xs.length
  | [], _, h => by rw [RVs.nil_iff] at h; subst h; rfl
  | d :: l, _, h => by
    obtain ⟨x, r, rfl, _, h3⟩ := RVs.cons_iff.mp h
    simp [RVs.len h3]
theorem RVs.get : ∀ {l : List D} {xs : List V} {i : Nat} {d : D}, RVs K H p l xs → l[i]? = some d → ∃ x, xs[i]? = some x ∧ RV K H p d x
  | [], _, _, _, _, e => by simp at e
  | d :: l, _, 0, d', h, e => by
    obtain ⟨x, r, rfl, h2, _⟩ := RVs.cons_iff.mp h
    simp at e
    subst e
    exact ⟨x, rfl, h2⟩
  | d :: l, _, i + 1, d', h, e => by
    obtain ⟨x, r, rfl, _, h3⟩ := RVs.cons_iff.mp h
    obtain ⟨y, e1, e2⟩ := RVs.get (i := i) (d := d') h3 (by simpa using e)
    exact ⟨y, by simpa using e1, e2⟩
theorem RVs.get' : ∀ {l : List D} {xs : List V} {i : Nat} {x : V}, RVs K H p l xs → xs[i]? = some x → ∃ d, l[i]? = some d ∧ RV K H p d x := fun {l xs i x} h e => by
  have hl := h.len
  have hi : i < l.length := by rw [hl]; exact (List.getElem?_eq_some_iff.mp e).1
  obtain ⟨y, e1, e2⟩ := h.get (d := l[i]) (i := i) (by simp [hi])
  rw [e] at e1
  cases e1
  exact ⟨_, by simp [hi], e2⟩
theorem RVs.app : ∀ {l l' : List D} {xs ys : List V}, RVs K H p l xs → RVs K H p l' ys → RVs K H p (l ++ l') (xs ++ ys)
  | [], _, _, _, h, h' => by rw [RVs.nil_iff] at h; subst h; exact h'
  | d :: l, _, _, _, h, h' => by
    obtain ⟨x, r, rfl, h2, h3⟩ := RVs.cons_iff.mp h
    exact RVs.cons h2 (RVs.app h3 h')
theorem RVs.set : ∀ {l : List D} {xs : List V} (i : Nat) {d : D} {x : V}, RVs K H p l xs → RV K H p d x → RVs K H p (l.set i d) (xs.set i x)
  | [], _, _, _, _, h, _ => by rw [RVs.nil_iff] at h; subst h; exact RVs.nil
  | d :: l, _, 0, d', x', h, q => by
    obtain ⟨x, r, rfl, _, h3⟩ := RVs.cons_iff.mp h
    exact RVs.cons q h3
  | d :: l, _, i + 1, d', x', h, q => by
    obtain ⟨x, r, rfl, h2, h3⟩ := RVs.cons_iff.mp h
    exact RVs.cons h2 (RVs.set i h3 q)
theorem RVs.take : ∀ {l : List D} {xs : List V} (n : Nat), RVs K H p l xs → RVs K H p (l.take n) (xs.take n)
  | _, _, 0, _ => RVs.nil
  | [], _, n + 1, h => by rw [RVs.nil_iff] at h; subst h; exact RVs.nil
  | d :: l, _, n + 1, h => by
    obtain ⟨x, r, rfl, h2, h3⟩ := RVs.cons_iff.mp h
    exact RVs.cons h2 (RVs.take n h3)
theorem RVs.drop : ∀ {l : List D} {xs : List V} (n : Nat), RVs K H p l xs → RVs K H p (l.drop n) (xs.drop n)
  | _, _, 0, h => h
  | [], _, n + 1, h => by rw [RVs.nil_iff] at h; subst h; exact RVs.nil
  | d :: l, _, n + 1, h => by
    obtain ⟨x, r, rfl, h2, h3⟩ := RVs.cons_iff.mp h
    exact RVs.drop n h3
theorem RVs.erase : ∀ {l : List D} {xs : List V} (n : Nat), RVs K H p l xs → RVs K H p (l.eraseIdx n) (xs.eraseIdx n)
  | [], _, _, h => by rw [RVs.nil_iff] at h; subst h; exact RVs.nil
  | d :: l, _, 0, h => by
    obtain ⟨x, r, rfl, h2, h3⟩ := RVs.cons_iff.mp h
    exact h3
  | d :: l, _, n + 1, h => by
    obtain ⟨x, r, rfl, h2, h3⟩ := RVs.cons_iff.mp h
    exact RVs.cons h2 (RVs.erase n h3)
theorem RVs.rev : ∀ {l : List D} {xs : List V}, RVs K H p l xs → RVs K H p l.reverse xs.reverse
  | [], _, h => by rw [RVs.nil_iff] at h; subst h; exact RVs.nil
  | d :: l, _, h => by
    obtain ⟨x, r, rfl, h2, h3⟩ := RVs.cons_iff.mp h
    rw [List.reverse_cons, List.reverse_cons]
    exact RVs.app (RVs.rev h3) (RVs.cons h2 RVs.nil)
theorem RVs.all_bl : ∀ {ns : List Bool} {xs : List V}, RVs K H p (ns.map D.bl) xs → xs = ns.map V.bl
  | [], _, h => RVs.nil_iff.mp h
  | n :: ns, _, h => by
    obtain ⟨x, r, rfl, h2, h3⟩ := RVs.cons_iff.mp h
    rw [RV.bl_iff] at h2
    rw [List.map_cons, RVs.all_bl h3, h2]
end
def FroX (K : PySem.W.Frag) (H : Hp) (a : Addr) (xs : List V) : Prop :=
  (∃ o, H a = some (.frz o (.lst xs))) ∨ ∃ (o : Obj) (its : Array Value) (n : Nat), K.lookup a = some o ∧ o.cls = .type "list" ∧ o.dict = none ∧ o.data = .seq its n ∧ its.size ≤ sizeLine ∧ Vals xs its.toList
theorem FroX.sql {K : PySem.W.Frag} {H : Hp} {a : Addr} {xs : List V} (h : FroX K H a xs) : SqL K H a xs := by
  rcases h with ⟨o, h⟩ | h
  · exact .inl (.inr ⟨o, h⟩)
  · exact .inr h
def RFs (K : PySem.W.Frag) (H : Hp) (p : List Addr) (fs : List (Str × D)) (vs : List (Str × V)) : Prop := fs.map (·.1) = vs.map (·.1) ∧ RVs K H p (fs.map (·.2)) (vs.map (·.2))
def RC (K : PySem.W.Frag) (H : Hp) (p : List Addr) (a : Addr) : Cell → Prop
  | .lst l => ∃ xs, H a = some (.lst xs) ∧ RVs K H p l xs
  | .fro l => ∃ xs, FroX K H a xs ∧ RVs K H p l xs
  | .dct => ∃ kvs, H a = some (.dK kvs)
  | .ins C fs => ∃ dx vs, H a = some (.ins (He.ga K C) dx vs) ∧ RFs K H p fs vs
  | .xcp x => H a = some (exO a (.ref (He.ga K x)) none)
  | .dn ks => ∃ xs : List (NestedKey × Addr × Value), H a = some (DNo a xs) ∧ RVs K H p ks (xs.map fun x => V.ref x.2.1) ∧ ks.map keyD = xs.map fun x => some x.1
def Cell.mut : Cell → Bool
  | .lst _ => true
  | .ins _ _ => true
  | .dn _ => true
  | _ => false
structure RSt (K : PySem.W.Frag) (H : Hp) (p : List Addr) (S : Store) : Prop where
  len : p.length = S.length
  cell : ∀ (n : Nat) (c : Cell) (a : Addr), S[n]? = some c → p[n]? = some a → RC K H p a c
  inj : ∀ (m n : Nat) (a : Addr) (c c' : Cell), S[m]? = some c → S[n]? = some c' → c.mut = true → c'.mut = true → p[m]? = some a → p[n]? = some a → m = n
theorem ext_same {K : PySem.W.Frag} {H H' : Hp} {p : List Addr} (s : Same H H') : Ext K H H' p p := by
  refine ⟨fun _ _ h => h, fun a xs h => ?_⟩
  rcases h with (h | ⟨o, h⟩) | h
  · exact .inl (.inl (s _ _ h))
  · exact .inl (.inr ⟨o, s _ _ h⟩)
  · exact .inr h
theorem RFs.mono {K : PySem.W.Frag} {H H' : Hp} {p p' : List Addr} (e : Ext K H H' p p') {fs : List (Str × D)} {vs : List (Str × V)} (h : RFs K H p fs vs) : RFs K H' p' fs vs := ⟨h.1, RVs.mono e _ _ h.2⟩
theorem RC.stay {K : PySem.W.Frag} {H H' : Hp} {p p' : List Addr} {a : Addr} {c : Cell} (e : Ext K H H' p p') (k : ∀ o, H a = some o → (∀ xs, o ≠ .tup xs) → H' a = some o) (h : RC K H p a c) : RC K H' p' a c := by
  cases c with
  | lst l =>
    obtain ⟨xs, h1, h2⟩ := h
    exact ⟨xs, k _ h1 (fun _ z => by cases z), RVs.mono e _ _ h2⟩
  | fro l =>
    obtain ⟨xs, h1, h2⟩ := h
    refine ⟨xs, ?_, RVs.mono e _ _ h2⟩
    rcases h1 with ⟨o, h1⟩ | h1
    · exact .inl ⟨o, k _ h1 (fun _ z => by cases z)⟩
    · exact .inr h1
  | dct =>
    obtain ⟨kvs, h1⟩ := h
    exact ⟨kvs, k _ h1 (fun _ z => by cases z)⟩
  | ins C fs =>
    obtain ⟨dx, vs, h1, h2⟩ := h
    exact ⟨dx, vs, k _ h1 (fun _ z => by cases z), h2.mono e⟩
  | xcp x => exact k _ h (fun _ z => by cases z)
  | dn ks =>
    obtain ⟨xs, h1, h2, h3⟩ := h
    exact ⟨xs, k _ h1 (fun _ z => by unfold DNo at z; cases z), RVs.mono e _ _ h2, h3⟩
theorem RSt.same {K : PySem.W.Frag} {H H' : Hp} {p : List Addr} {S : Store} (s : Same H H') (R : RSt K H p S) : RSt K H' p S :=
  ⟨R.len, fun n c a e1 e2 => (R.cell n c a e1 e2).stay (ext_same s) fun o h _ => s _ _ h, R.inj⟩
theorem same_new {H : Hp} {q : Addr} {o : HO} (h : H q = none) : Same H (upd H q o) := fun b x e => by
  rw [upd_ne (ne_of_none e h)]
  exact e
theorem RC.there {K : PySem.W.Frag} {H : Hp} {p : List Addr} {a : Addr} {c : Cell} (h : RC K H p a c) (m : c.mut = true) : ∃ o, H a = some o ∧ Mut (some o) := by
  cases c with
  | lst l => obtain ⟨xs, h1, _⟩ := h; exact ⟨_, h1, trivial⟩
  | fro l => cases m
  | dct => cases m
  | ins C fs => obtain ⟨dx, vs, h1, _⟩ := h; exact ⟨_, h1, trivial⟩
  | xcp x => cases m
  | dn ks => obtain ⟨xs, h1, _⟩ := h; exact ⟨_, h1, trivial⟩
theorem RSt.push {K : PySem.W.Frag} {H : Hp} {p : List Addr} {S : Store} {q : Addr} {o : HO} {c : Cell} (R : RSt K H p S) (h : H q = none) (r : RC K (upd H q o) (p ++ [q]) q c) :
    Ext K H (upd H q o) p (p ++ [q]) ∧ RSt K (upd H q o) (p ++ [q]) (S ++ [c]) ∧ (p ++ [q])[S.length]? = some q := by
  have s : Same H (upd H q o) := same_new h
  have pre : ∀ n a, p[n]? = some a → (p ++ [q])[n]? = some a := fun n a e => by
    have hn := (List.getElem?_eq_some_iff.mp e).1
    rw [List.getElem?_append_left hn]
    exact e
  have E : Ext K H (upd H q o) p (p ++ [q]) := ⟨pre, (ext_same (p := p) s).tup⟩
  have qn : (p ++ [q])[S.length]? = some q := by
    rw [← R.len, List.getElem?_append_right (Nat.le_refl _)]
    simp
  have old : ∀ n c', (S ++ [c])[n]? = some c' → (n < S.length ∧ S[n]? = some c') ∨ (n = S.length ∧ c' = c) := fun n c' e => by
    rcases Nat.lt_or_ge n S.length with hn | hn
    · rw [List.getElem?_append_left hn] at e
      exact .inl ⟨hn, e⟩
    · rw [List.getElem?_append_right hn] at e
      have : n - S.length = 0 := by
        have := (List.getElem?_eq_some_iff.mp e).1
        simp at this
        omega
      rw [this] at e
      simp at e
      exact .inr ⟨by omega, e.symm⟩
  have oldp : ∀ n a, n < S.length → (p ++ [q])[n]? = some a → p[n]? = some a := fun n a hn e => by
    rw [List.getElem?_append_left (by rw [R.len]; exact hn)] at e
    exact e
  refine ⟨E, ⟨by simp [R.len], fun n c' a e1 e2 => ?_, fun m n a l1 l2 e1 e2 m1 m2 e3 e4 => ?_⟩, qn⟩
  · rcases old n c' e1 with ⟨hn, e⟩ | ⟨rfl, rfl⟩
    · exact (R.cell n c' a e (oldp n a hn e2)).stay E fun o h _ => s _ _ h
    · rw [qn] at e2
      cases e2
      exact r
  · rcases old m _ e1 with ⟨hm, q1⟩ | ⟨rfl, q1⟩ <;> rcases old n _ e2 with ⟨hn, q2⟩ | ⟨rfl, q2⟩
    · exact R.inj m n a l1 l2 q1 q2 m1 m2 (oldp m a hm e3) (oldp n a hn e4)
    · rw [qn] at e4
      cases e4
      obtain ⟨ys, h1, _⟩ := (R.cell m _ _ q1 (oldp m _ hm e3)).there m1
      rw [h] at h1
      cases h1
    · rw [qn] at e3
      cases e3
      obtain ⟨ys, h1, _⟩ := (R.cell n _ _ q2 (oldp n _ hn e4)).there m2
      rw [h] at h1
      cases h1
    · rfl
theorem RSt.write {K : PySem.W.Frag} {H : Hp} {p : List Addr} {S : Store} {n : Nat} {a : Addr} {o o0 : HO} {c c0 : Cell} (R : RSt K H p S) (hS : S[n]? = some c0) (m0 : c0.mut = true) (mc : c.mut = true) (hp : p[n]? = some a) (r : RC K (upd H a o) p a c)
    (h0 : H a = some o0) (nt : ∀ xs, o0 ≠ .tup xs) (nf : ∀ ob xs, o0 ≠ .frz ob xs) (nd : ∀ kvs, o0 ≠ .dK kvs) (nx : ∀ cls, o0 ≠ exO a cls none := by intro _ z; unfold exO at z; cases z) :
    Ext K H (upd H a o) p p ∧ RSt K (upd H a o) p (S.set n c) := by
  have E : Ext K H (upd H a o) p p := by
    refine ⟨fun _ _ h => h, fun b ys h => ?_⟩
    rcases h with (h | ⟨ob, h⟩) | h
    · have hb : b ≠ a := fun e => by
        subst e
        rw [h0] at h
        cases h
        exact nt _ rfl
      exact .inl (.inl (by rw [upd_ne hb]; exact h))
    · have hb : b ≠ a := fun e => by
        subst e
        rw [h0] at h
        cases h
        exact nf _ _ rfl
      exact .inl (.inr ⟨ob, by rw [upd_ne hb]; exact h⟩)
    · exact .inr h
  have hn : n < S.length := (List.getElem?_eq_some_iff.mp hS).1
  refine ⟨E, ⟨by simp [R.len], fun m c' b e1 e2 => ?_, fun m k b l1 l2 e1 e2 m1 m2 e3 e4 => ?_⟩⟩
  · by_cases hm : m = n
    · subst hm
      rw [List.getElem?_set_self hn] at e1
      cases e1
      rw [hp] at e2
      cases e2
      exact r
    · rw [List.getElem?_set_ne (Ne.symm hm)] at e1
      have rc := R.cell m c' b e1 e2
      by_cases hb : b = a
      · subst hb
        cases hc : c'.mut with
        | true => exact absurd (R.inj m n b _ _ e1 hS hc m0 e2 hp) hm
        | false =>
          cases c' with
          | lst l => cases hc
          | ins C fs => cases hc
          | dn ks => cases hc
          | fro l =>
            obtain ⟨xs, h1, h2⟩ := rc
            rcases h1 with ⟨ob, h1⟩ | h1
            · rw [h0] at h1
              cases h1
              exact absurd rfl (nf _ _)
            · exact ⟨xs, .inr h1, RVs.mono E _ _ h2⟩
          | dct =>
            obtain ⟨kvs, h1⟩ := rc
            rw [h0] at h1
            cases h1
            exact absurd rfl (nd _)
          | xcp x =>
            have h1 : H b = some (exO b (.ref (He.ga K x)) none) := rc
            rw [h0] at h1
            exact absurd (Option.some.inj h1) (nx _)
      · exact rc.stay E fun o' h' n' => by
          rw [upd_ne hb]
          exact h'
  · have g : ∀ (j : Nat) (l' : Cell), (S.set n c)[j]? = some l' → l'.mut = true → ∃ l'' : Cell, S[j]? = some l'' ∧ l''.mut = true := fun j l' e mm => by
      by_cases hj : j = n
      · subst hj
        exact ⟨_, hS, m0⟩
      · rw [List.getElem?_set_ne (Ne.symm hj)] at e
        exact ⟨_, e, mm⟩
    obtain ⟨l1', q1, n1⟩ := g m l1 e1 m1
    obtain ⟨l2', q2, n2⟩ := g k l2 e2 m2
    exact R.inj m k b _ _ q1 q2 n1 n2 e3 e4
end Rg
namespace Rg
open PySem PySem.Spec PyProof.Rows L2
structure XV where
  v : Str → Value
  nn : Bool
instance : CoeFun XV (fun _ => Str → Value) := ⟨XV.v⟩
structure Gx where
  xv : XV
  W : WX
def CXn : Bool → Program → World → CXT
  | true => L2N.CX
  | false => L2.CX
def TakesN : Bool → Cx → WX → Prop
  | true => L2N.Takes
  | false => L2.Takes
theorem takesN_0 : ∀ {b : Bool} {X : Cx}, TakesN b X (fun _ _ _ _ => False)
  | true, _ => fun _ _ x => by
    obtain ⟨_, _, _, _, _, _, _, _, _, _, _, _, _, _, _, _, z⟩ := x
    exact z.elim
  | false, _ => takes0
theorem passN : ∀ {b : Bool} {X : Cx} {W : WX}, TakesN b X W → ∀ σ, PassesAt (CXn b X.prog X.w) X σ (WE W σ)
  | true, _, _, tk, σ => L2N.passAt tk σ
  | false, _, _, tk, σ => L2.passAt tk σ
theorem takesN_of : ∀ {b : Bool} {X : Cx} {E : XK} {E₁ : Value → Shared → Prop} (hs : X.stack = X.env :: X.outer) (hf : X.env.frame = some X.env.locals) (hex : X.ex = [])
    (hx : X.xe = fun e s' => wpAny (model X.prog X.w) X.A (leaving X.env e) (fun _ s'' => CXn b X.prog X.w X.outer X.H_0 X.s_0 E e s'') E₁ s'), TakesN b X (fun cls d _ H => E cls d H)
  | true, _, _, _, hs, hf, hex, hx => L2N.takes_of hs hf hex hx
  | false, _, _, _, hs, hf, hex, hx => L2.takes_of hs hf hex hx
structure Cok (X : Cx) (G : Gx) : Prop where
  tk : TakesN G.xv.nn X G.W
  po : PassesOwn (model X.prog X.w) X.A X.env X.xe
def Rs (K : PySem.W.Frag) (H : Hp) (p : List Addr) (env : Env) (σ : L2.St) : Prop := env.length = σ.length ∧ ∀ (i : Nat) (d : D), env[i]? = some (some d) → ∃ v, σ[i]? = some (some v) ∧ RV K H p d v
theorem Rs.mono {K : PySem.W.Frag} {H H' : Hp} {p p' : List Addr} {env : Env} {σ : L2.St} (e : Ext K H H' p p') (h : Rs K H p env σ) : Rs K H' p' env σ :=
  ⟨h.1, fun i d q => let ⟨v, a, b⟩ := h.2 i d q; ⟨v, a, RV.mono e _ _ b⟩⟩
theorem Rs.set {K : PySem.W.Frag} {H : Hp} {p : List Addr} {env : Env} {σ : L2.St} {d : D} {v : V} (i : Nat) (h : Rs K H p env σ) (r : RV K H p d v) : Rs K H p (env.set i (some d)) (σ.set i (some v)) := by
  refine ⟨by simp [h.1], fun j e q => ?_⟩
  by_cases hj : i = j
  · subst hj
    have hi : i < env.length := by
      have := (List.getElem?_eq_some_iff.mp q).1
      simpa using this
    rw [List.getElem?_set_self hi] at q
    cases q
    exact ⟨v, by rw [List.getElem?_set_self (by rw [← h.1]; exact hi)], r⟩
  · rw [List.getElem?_set_ne hj] at q
    obtain ⟨w, a, b⟩ := h.2 j e q
    exact ⟨w, by rw [List.getElem?_set_ne hj]; exact a, b⟩
def Good {A : Type} (K : PySem.W.Frag) (G : Gx) (σ : L2.St) (H : Hp) (p : List Addr) (r : Res A) (P : A → Store → Hp → List Addr → Prop) : Prop := match r with
  | .ok a S' => ∀ H' p', Ext K H H' p p' → RSt K H' p' S' → P a S' H' p'
  | .exc c S' => ∀ H' p', Ext K H H' p p' → RSt K H' p' S' → G.W (G.xv c) none σ H'
  | .bad => False
section
variable {K : PySem.W.Frag} {G : Gx} {σ : L2.St} {H H1 : Hp} {p p1 : List Addr}
theorem Good.at {A : Type} {r : Res A} {P : A → Store → Hp → List Addr → Prop} (e : Ext K H H1 p p1) (h : Good K G σ H p r P) : Good K G σ H1 p1 r P := by
  cases r with
  | ok a S => exact fun H' p' x => h H' p' (e.trans x)
  | exc c S => exact fun H' p' x => h H' p' (e.trans x)
  | bad => exact h
theorem Good.imp {A : Type} {r : Res A} {P P' : A → Store → Hp → List Addr → Prop} (h : Good K G σ H p r P) (hi : ∀ a S H' p', Ext K H H' p p' → RSt K H' p' S → P a S H' p' → P' a S H' p') : Good K G σ H p r P' := by
  cases r with
  | ok a S => exact fun H' p' x q => hi _ _ _ _ x q (h H' p' x q)
  | exc c S => exact h
  | bad => exact h
theorem Good.bind {A B : Type} {r : Res A} {f : A → Store → Res B} {P : B → Store → Hp → List Addr → Prop} (h : Good K G σ H p (r.bind f) P) : Good K G σ H p r fun a S1 H1 p1 => Good K G σ H1 p1 (f a S1) P := by
  cases r with
  | ok a S => exact fun H' p' x _ => Good.at x h
  | exc c S => exact h
  | bad => exact h
end
def PV (K : PySem.W.Frag) (Q : VK) : D → Store → Hp → List Addr → Prop := fun d _ H' p' => ∀ v, RV K H' p' d v → Q v H'
def TEo (K : PySem.W.Frag) (G : Gx) (s : SE) : TE := fun σ H Q => ∃ p env S, Rs K H p env σ ∧ RSt K H p S ∧ Good K G σ H p (s env S) (PV K Q)
def TTo (K : PySem.W.Frag) (G : Gx) (s : ST) : TT := fun σ H Q => ∃ p env S, Rs K H p env σ ∧ RSt K H p S ∧ Good K G σ H p (s env S) fun b _ H' _ => Q b H'
def TAo (K : PySem.W.Frag) (G : Gx) (s : SA) : TA := fun σ H Q => ∃ p env S, Rs K H p env σ ∧ RSt K H p S ∧ Good K G σ H p (s env S) fun ds _ H' p' => ∀ vs, RVs K H' p' ds vs → Q vs H'
def ME (X : Cx) (G : Gx) (e : Expr) (s : SE) : Prop := Cok X G → PE X e (TEo X.K G s)
def MT (X : Cx) (G : Gx) (e : Expr) (s : ST) : Prop := Cok X G → PT X e (TTo X.K G s)
def MW (X : Cx) (G : Gx) (e : Expr) (s : ST) : Prop := Cok X G → PW X e (TTo X.K G s)
def MA (X : Cx) (G : Gx) (es : List Expr) (s : SA) : Prop := Cok X G → PA X es (TAo X.K G s)
section
variable {X : Cx} {G : Gx} {e a b c : Expr} {pos : Pos}
theorem pe_imp {t t' : TE} (h : PE X e t) (hi : ∀ σ H Q, t' σ H Q → t σ H Q) : PE X e t' := ⟨fun pins s σ H Q I q => h.run pins s σ H Q I (hi _ _ _ q)⟩
theorem pt_imp {t t' : TT} (h : PT X e t) (hi : ∀ σ H Q, t' σ H Q → t σ H Q) : PT X e t' := ⟨fun pins s σ H Q I q => h.run pins s σ H Q I (hi _ _ _ q)⟩
theorem pw_imp {t t' : TT} (h : PW X e t) (hi : ∀ σ H Q, t' σ H Q → t σ H Q) : PW X e t' := ⟨fun w pins s σ H Q I q => h.run w pins s σ H Q I (hi _ _ _ q)⟩
theorem pa_imp {es : List Expr} {t t' : TA} (h : PA X es t) (hi : ∀ σ H Q, t' σ H Q → t σ H Q) : PA X es t' := ⟨fun po pins s σ H Q I q => h.run po pins s σ H Q I (hi _ _ _ q)⟩
def sVar (i : Nat) : SE := fun env S => match env[i]? with
  | some (some d) => .ok d S
  | _ => .bad
def sC (d : D) : SE := fun _ S => .ok d S
theorem me_var (i : Nat) {x : Str} (hN : X.N[i]? = some x := by rfl) (hv : Vis X.env.scope x := by first | exact Or.inl rfl | exact Or.inr (Or.inl rfl) | exact Or.inr (Or.inr rfl)) (hd : (x == ("__debug__" : Str)) = false := by decide)
    (hcd : (x == ("__classdict__" : Str)) = false := by decide) : ME X G (.Name x pos) (sVar i) := fun _ => by
  refine pe_imp (pe_var hN hv hd hcd) fun σ H Q h => ?_
  obtain ⟨p, env, S, rs, rst, g⟩ := h
  unfold sVar at g
  split at g
  · rename_i d hd
    obtain ⟨v, e1, e2⟩ := rs.2 _ _ hd
    exact ⟨v, e1, g H p .refl rst v e2⟩
  · exact g.elim
theorem me_c {d : D} {v : V} (h : PE X e (tC v)) (r : ∀ H p, RV X.K H p d v) : ME X G e (sC d) := fun _ => by
  refine pe_imp h fun σ H Q h => ?_
  obtain ⟨p, env, S, rs, rst, g⟩ := h
  exact g H p .refl rst v (r _ _)
theorem me_int {i : Int} {j} : ME X G (.Constant (.int i) j pos) (sC (.int i)) := me_c pe_int fun _ _ => RV.int_iff.mpr rfl
theorem me_bl {i : Bool} {j} : ME X G (.Constant (.bool i) j pos) (sC (.bl i)) := me_c pe_bl fun _ _ => RV.bl_iff.mpr rfl
theorem me_non {j} : ME X G (.Constant .none j pos) (sC .non) := me_c pe_non fun _ _ => RV.non_iff.mpr rfl
def KD (K : PySem.W.Frag) (d : D) (v : V) : Prop := RV K (fun _ => none) [] d v
theorem KD.rv {K : PySem.W.Frag} {d : D} {v : V} (h : KD K d v) (H : Hp) (p : List Addr) : RV K H p d v := by
  refine RV.mono (H := fun _ => none) (p := []) ⟨fun n a e => by simp at e, fun a xs h => ?_⟩ d v h
  rcases h with (h | ⟨o, h⟩) | h
  · cases h
  · cases h
  · exact .inr h
def s2 (f : D → D → Store → Res D) (sa sb : SE) : SE := fun env S => (sa env S).bind fun d S1 => (sb env S1).bind fun e S2 => f d e S2
def s1 (f : D → Store → Res D) (sa : SE) : SE := fun env S => (sa env S).bind fun d S1 => f d S1
def RfO (K : PySem.W.Frag) (r : R2) (f : D → D → Store → Res D) : Prop := ∀ (G : Gx) (σ : L2.St) (H : Hp) (p : List Addr) (S : Store) (d e : D) (x y : V) (Q : VK), RSt K H p S → RV K H p d x → RV K H p e y → Good K G σ H p (f d e S) (PV K Q) → r x y H Q
def RfU (K : PySem.W.Frag) (r : V → Hp → VK → Prop) (f : D → Store → Res D) : Prop := ∀ (G : Gx) (σ : L2.St) (H : Hp) (p : List Addr) (S : Store) (d : D) (x : V) (Q : VK), RSt K H p S → RV K H p d x → Good K G σ H p (f d S) (PV K Q) → r x H Q
theorem one {K : PySem.W.Frag} {A : Type} {f : D → Store → Res A} {sa : SE} {σ : L2.St} {H : Hp} {P : A → Store → Hp → List Addr → Prop} {R : V → Hp → Prop} {p : List Addr} {env : Env} {S : Store} (rs : Rs K H p env σ) (rst : RSt K H p S) (g : Good K G σ H p ((sa env S).bind f) P)
    (hr : ∀ (H1 : Hp) (p1 : List Addr) (S1 : Store) (d : D) (x : V), Ext K H H1 p p1 → Rs K H1 p1 env σ → RSt K H1 p1 S1 → RV K H1 p1 d x → Good K G σ H1 p1 (f d S1) P → R x H1) : TEo K G sa σ H R :=
  ⟨p, env, S, rs, rst, g.bind.imp fun d S1 H1 p1 e1 r1 g1 x rx => hr H1 p1 S1 d x e1 (rs.mono e1) r1 rx g1⟩
theorem two {K : PySem.W.Frag} {f : D → D → Store → Res D} {sa sb : SE} {σ : L2.St} {H : Hp} {Q : VK} {R : V → V → Hp → Prop} (h : TEo K G (s2 f sa sb) σ H Q)
    (hr : ∀ (H : Hp) (p : List Addr) (S : Store) (d e : D) (x y : V), RSt K H p S → RV K H p d x → RV K H p e y → Good K G σ H p (f d e S) (PV K Q) → R x y H) :
    TEo K G sa σ H fun x H1 => TEo K G sb σ H1 fun y H2 => R x y H2 := by
  obtain ⟨p, env, S, rs, rst, g⟩ := h
  refine one rs rst g fun H1 p1 S1 d x e1 rs1 r1 rx g1 => ?_
  exact one rs1 r1 g1 fun H2 p2 S2 e y e2 rs2 r2 ry g2 => hr H2 p2 S2 d e x y r2 (RV.mono e2 _ _ rx) ry g2
theorem me_op {op : Operator} {r : R2} {f : D → D → Store → Res D} {sa sb : SE} (ho : OpR X (binaryOp op) r) (hf : RfO X.K r f) (ha : ME X G a sa) (hb : ME X G b sb) : ME X G (.BinOp a op b pos) (s2 f sa sb) := fun ok =>
  pe_imp (pe_op ho (ha ok) (hb ok)) fun σ H Q h => two h fun H p S d e x y rst rx ry g => hf G σ H p S d e x y Q rst rx ry g
theorem me_un {op : UnaryOp} {r : V → Hp → VK → Prop} {f : D → Store → Res D} {sa : SE} (ho : UnR X (unaryOp op) r) (hf : RfU X.K r f) (ha : ME X G a sa) : ME X G (.UnaryOp op a pos) (s1 f sa) := fun ok =>
  pe_imp (pe_un ho (ha ok)) fun σ H Q h => by
    obtain ⟨p, env, S, rs, rst, g⟩ := h
    exact one rs rst g fun H1 p1 S1 d x _ _ r1 rx g1 => hf G σ H1 p1 S1 d x Q r1 rx g1
theorem me_cmp {op : CmpOp} {r : R2} {f : D → D → Store → Res D} {sa sb : SE} (ho : OpR X (compareOp op) r) (hf : RfO X.K r f) (ha : ME X G a sa) (hb : ME X G b sb) (hm : behindInMarks op b = false) : ME X G (.Compare a [op] [b] pos) (s2 f sa sb) := fun ok =>
  pe_imp (pe_cmpR ho (ha ok) (hb ok) hm) fun σ H Q h => two h fun H p S d e x y rst rx ry g => hf G σ H p S d e x y Q rst rx ry g
theorem me_ix {r : R2} {f : D → D → Store → Res D} {sa sb : SE} (ho : IxR X r) (hf : RfO X.K r f) (ha : ME X G a sa) (hb : ME X G b sb) (hs : PlainIx b := by intro _ _; rfl) : ME X G (.Subscript a b pos) (s2 f sa sb) := fun ok =>
  pe_imp (pe_ix ho (ha ok) (hb ok) hs) fun σ H Q h => two h fun H p S d e x y rst rx ry g => hf G σ H p S d e x y Q rst rx ry g
def fI (g : Int → Int → Int) : D → D → Store → Res D := fun d e S => match d, e with
  | .int i, .int j => .ok (.int (g i j)) S
  | _, _ => .bad
open Classical in
noncomputable def fIC (C : Int → Int → Prop) (g : Int → Int → Int) : D → D → Store → Res D := fun d e S => match d, e with
  | .int i, .int j => if C i j then .ok (.int (g i j)) S else .bad
  | _, _ => .bad
def fIB (g : Int → Int → Bool) : D → D → Store → Res D := fun d e S => match d, e with
  | .int i, .int j => .ok (.bl (g i j)) S
  | _, _ => .bad
theorem rf_I {K : PySem.W.Frag} {g : Int → Int → Int} : RfO K (rI0 fun i j => .int (g i j)) (fI g) := by
  intro G σ H p S d e x y Q rst rx ry h
  unfold fI at h
  split at h
  · rw [RV.int_iff] at rx ry
    exact ⟨_, _, rx, ry, h H p .refl rst _ (RV.int_iff.mpr rfl)⟩
  · exact h.elim
theorem rf_IC {K : PySem.W.Frag} {C : Int → Int → Prop} {g : Int → Int → Int} : RfO K (rI C fun i j => .int (g i j)) (fIC C g) := by
  intro G σ H p S d e x y Q rst rx ry h
  unfold fIC at h
  split at h
  · split at h
    · rename_i hc
      rw [RV.int_iff] at rx ry
      exact ⟨_, _, rx, ry, hc, h H p .refl rst _ (RV.int_iff.mpr rfl)⟩
    · exact h.elim
  · exact h.elim
theorem rf_IB {K : PySem.W.Frag} {g : Int → Int → Bool} : RfO K (rI0 fun i j => .bl (g i j)) (fIB g) := by
  intro G σ H p S d e x y Q rst rx ry h
  unfold fIB at h
  split at h
  · rw [RV.int_iff] at rx ry
    exact ⟨_, _, rx, ry, h H p .refl rst _ (RV.bl_iff.mpr rfl)⟩
  · exact h.elim
def CM (i j : Int) : Prop := CMul i j ∨ CMulW i j
theorem op_mulA : OpR X (binaryOp .Mult) (rI CM fun i j => .int (i * j)) := opI fun _ _ _ _ _ _ _ hc q => mul_int q (hc.elim (·.ok) (·.ok))
def CDv (_ j : Int) : Prop := j ≠ 0 ∧ j.natAbs.log2 < 9000
theorem op_fdivV : OpR X (binaryOp .FloorDiv) (rI CDv fun i j => .int (i.fdiv j)) := opI fun _ _ _ _ _ _ _ hc q => floordiv_int hc.1 q (.inl (PyProof.noPylong_of_log2 hc.2))
def CMo (_ j : Int) : Prop := 0 < j
theorem op_modA : OpR X (binaryOp .Mod) (rI CMo fun i j => .int (i % j)) := op_mod
noncomputable abbrev fMul := fIC CM fun i j => i * j
noncomputable abbrev fDiv := fIC CDv fun i j => i.fdiv j
noncomputable abbrev fMod := fIC CMo fun i j => i % j
noncomputable abbrev fPow := fIC CPow fun i j => i ^ j.toNat
abbrev fSub := fI fun i j => i - j
variable {sa sb : SE}
theorem me_mul (ha : ME X G a sa) (hb : ME X G b sb) : ME X G (.BinOp a .Mult b pos) (s2 fMul sa sb) := me_op op_mulA rf_IC ha hb
theorem me_div (ha : ME X G a sa) (hb : ME X G b sb) : ME X G (.BinOp a .FloorDiv b pos) (s2 fDiv sa sb) := me_op op_fdivV rf_IC ha hb
theorem me_mod (ha : ME X G a sa) (hb : ME X G b sb) : ME X G (.BinOp a .Mod b pos) (s2 fMod sa sb) := me_op op_modA rf_IC ha hb
theorem me_pow (ha : ME X G a sa) (hb : ME X G b sb) : ME X G (.BinOp a .Pow b pos) (s2 fPow sa sb) := me_op op_pow rf_IC ha hb
theorem me_sub (ha : ME X G a sa) (hb : ME X G b sb) : ME X G (.BinOp a .Sub b pos) (s2 fSub sa sb) := me_op op_sub rf_I ha hb
def lstOf (S : Store) (n : Nat) : Option (List D) := match S[n]? with
  | some (.lst l) => some l
  | some (.fro l) => some l
  | _ => none
open Classical in
noncomputable def fPlus : D → D → Store → Res D := fun d e S => match d, e with
  | .int i, .int j => .ok (.int (i + j)) S
  | .str x, .str y => if x.length + y.length ≤ sizeLine then .ok (.str (x ++ y)) S else .bad
  | .tup x, .tup y => if x.length + y.length ≤ sizeLine then .ok (.tup (x ++ y)) S else .bad
  | .ref m, .ref n => match lstOf S m, lstOf S n with
    | some x, some y => if x.length + y.length ≤ sizeLine then .ok (.ref S.length) (S ++ [.lst (x ++ y)]) else .bad
    | _, _ => .bad
  | _, _ => .bad
end
section
variable {K : PySem.W.Frag} {H : Hp} {p : List Addr} {S : Store}
theorem RSt.list (R : RSt K H p S) {n : Nat} {l : List D} {v : V} (h : lstOf S n = some l) (r : RV K H p (.ref n) v) : ∃ a xs, v = .ref a ∧ SqL K H a xs ∧ RVs K H p l xs := by
  obtain ⟨a, rfl, e⟩ := RV.ref_iff.mp r
  unfold lstOf at h
  split at h
  · rename_i l' hl
    cases h
    obtain ⟨xs, h1, h2⟩ := R.cell n _ a hl e
    exact ⟨a, xs, rfl, SqL.of h1, h2⟩
  · rename_i l' hl
    cases h
    obtain ⟨xs, h1, h2⟩ := R.cell n _ a hl e
    exact ⟨a, xs, rfl, h1.sql, h2⟩
  · cases h
theorem RSt.newL {q : Addr} {xs : List V} {l : List D} (R : RSt K H p S) (h : H q = none) (r : RVs K H p l xs) :
    Ext K H (upd H q (.lst xs)) p (p ++ [q]) ∧ RSt K (upd H q (.lst xs)) (p ++ [q]) (S ++ [.lst l]) ∧ RV K (upd H q (.lst xs)) (p ++ [q]) (.ref S.length) (.ref q) := by
  have E : Ext K H (upd H q (.lst xs)) p (p ++ [q]) := ⟨fun n a e => by
    rw [List.getElem?_append_left (List.getElem?_eq_some_iff.mp e).1]
    exact e, (ext_same (p := p) (same_new h)).tup⟩
  obtain ⟨a1, a2, a3⟩ := R.push (c := .lst l) h ⟨xs, upd_same, RVs.mono E _ _ r⟩
  exact ⟨a1, a2, RV.ref_iff.mpr ⟨q, rfl, a3⟩⟩
theorem RSt.newT {q : Addr} {xs : List V} {l : List D} (R : RSt K H p S) (h : H q = none) (r : RVs K H p l xs) :
    Ext K H (upd H q (.tup xs)) p p ∧ RSt K (upd H q (.tup xs)) p S ∧ RV K (upd H q (.tup xs)) p (.tup l) (.ref q) := by
  have E : Ext K H (upd H q (.tup xs)) p p := ext_same (same_new h)
  exact ⟨E, R.same (same_new h), RV.tup_iff.mpr ⟨q, xs, rfl, SqT.of upd_same, RVs.mono E _ _ r⟩⟩
theorem RSt.setL {n : Nat} {a : Addr} {xs : List V} {l l0 : List D} (R : RSt K H p S) (hS : S[n]? = some (.lst l0)) (hp : p[n]? = some a) (r : RVs K H p l xs) :
    Ext K H (upd H a (.lst xs)) p p ∧ RSt K (upd H a (.lst xs)) p (S.set n (.lst l)) := by
  obtain ⟨ys, h0, _⟩ := R.cell n _ a hS hp
  have E : Ext K H (upd H a (.lst xs)) p p := by
    refine ⟨fun _ _ h => h, fun b zs h => ?_⟩
    rcases h with (h | ⟨ob, h⟩) | h
    · have hb : b ≠ a := fun e => by subst e; rw [h0] at h; cases h
      exact .inl (.inl (by rw [upd_ne hb]; exact h))
    · have hb : b ≠ a := fun e => by subst e; rw [h0] at h; cases h
      exact .inl (.inr ⟨ob, by rw [upd_ne hb]; exact h⟩)
    · exact .inr h
  exact R.write hS rfl rfl hp ⟨xs, upd_same, RVs.mono E _ _ r⟩ h0 (fun _ z => by cases z) (fun _ _ z => by cases z) (fun _ z => by cases z)
end
section
variable {X : Cx} {G : Gx} {e a b c : Expr} {pos : Pos} {sa sb : SE}
def rCatR (K : PySem.W.Frag) : R2 := fun x y H Q => ∃ l b xs zs, x = .ref l ∧ y = .ref b ∧ SqL K H l xs ∧ SqL K H b zs ∧ xs.length + zs.length ≤ sizeLine ∧ ∀ p, H p = none → Q (.ref p) (upd H p (.lst (xs ++ zs)))
theorem op_catR : OpR X (binaryOp .Add) (rCatR X.K) := by
  intro pins s σ H x y v u Q I rx ry h
  obtain ⟨l, b, xs, zs, rfl, rfl, hH, hB, hz, q⟩ := h
  cases rx
  cases ry
  obtain ⟨its, r, pl, _⟩ := I.list hH
  obtain ⟨its2, r2, pl2, _⟩ := I.list hB
  have hl := r.length
  have hl2 := r2.length
  obtain ⟨⟨cls, dd, data, sl⟩, ho, hc, n, hd⟩ := pl.isList
  obtain ⟨⟨cls2, dd2, data2, sl2⟩, ho2, hc2, n2, hd2⟩ := pl2.isList
  simp only at hc hd hc2 hd2
  subst hc hd hc2 hd2
  refine concat_meets ⟨_, ho, rfl⟩ ⟨_, ho2, rfl⟩ noFill_list_add seq_list_add PySem.F.slot_list_add PySem.F.entry_list_add (PySem.F.args_list_add_2 _ _) (list_addW l b its.toArray its2.toArray n n2 dd dd2 sl sl2 (by simp only [List.size_toArray]; omega)) ⟨ho, ho2, ?_⟩
  have ea : its.toArray ++ its2.toArray = (its ++ its2).toArray := by simp
  rw [ea]
  exact ⟨.ref _, _, I.lnew (t' := s.toks) (r.append r2) (by rw [List.length_append]; omega), rfl, q _ I.fresh⟩
theorem rf_plus {K : PySem.W.Frag} : RfO K (fun x y H Q => (rI0 fun i j => .int (i + j)) x y H Q ∨ ((∃ i j, x = .str i ∧ y = .str j ∧ i.length + j.length ≤ sizeLine ∧ Q (.str (i ++ j)) H) ∨ (rCatA K x y H Q ∨ rCatR K x y H Q))) fPlus := by
  intro G σ H p S d e x y Q rst rx ry h
  unfold fPlus at h
  split at h
  · rw [RV.int_iff] at rx ry
    exact .inl ⟨_, _, rx, ry, h H p .refl rst _ (RV.int_iff.mpr rfl)⟩
  · split at h
    · rename_i hc
      rw [RV.str_iff] at rx ry
      exact .inr (.inl ⟨_, _, rx, ry, hc, h H p .refl rst _ (RV.str_iff.mpr rfl)⟩)
    · exact h.elim
  · split at h
    · rename_i l1 l2 hc
      obtain ⟨a, xs, rfl, ha, hx⟩ := RV.tup_iff.mp rx
      obtain ⟨b, ys, rfl, hb, hy⟩ := RV.tup_iff.mp ry
      have e1 := hx.len
      have e2 := hy.len
      refine .inr (.inr (.inl ⟨a, b, xs, ys, rfl, rfl, ha, hb, by omega, fun z => ?_, fun _ z => ?_, fun _ _ q hq => ?_⟩))
      · subst z
        have z1 : l1 = [] := List.length_eq_zero_iff.mp (by simpa using e1)
        subst z1
        exact h H p .refl rst _ ry
      · subst z
        have z1 : l2 = [] := List.length_eq_zero_iff.mp (by simpa using e2)
        subst z1
        rw [List.append_nil] at h
        exact h H p .refl rst _ rx
      · obtain ⟨E, R, r⟩ := rst.newT hq (hx.app hy)
        exact h _ _ E R _ r
    · exact h.elim
  · split at h
    · rename_i m n l1 l2 h1 h2
      split at h
      · rename_i hc
        obtain ⟨a, xs, rfl, ha, hx⟩ := rst.list h1 rx
        obtain ⟨b, ys, rfl, hb, hy⟩ := rst.list h2 ry
        have e1 := hx.len
        have e2 := hy.len
        refine .inr (.inr (.inr ⟨a, b, xs, ys, rfl, rfl, ha, hb, by omega, fun q hq => ?_⟩))
        obtain ⟨E, R, r⟩ := rst.newL hq (hx.app hy)
        exact h _ _ E R _ r
      · exact h.elim
    · exact h.elim
  · exact h.elim
theorem me_add (ha : ME X G a sa) (hb : ME X G b sb) : ME X G (.BinOp a .Add b pos) (s2 fPlus sa sb) := me_op (op_add.or (op_add_str.or (op_catA.or op_catR))) rf_plus ha hb
open Classical in
noncomputable def fMulL : D → D → Store → Res D := fun d e S => match d, e with
  | .ref m, .int k => match S[m]? with
    | some (.lst x) => if -(2 ^ 63) ≤ k ∧ k < 2 ^ 63 ∧ x.length * k.toNat ≤ sizeLine then .ok (.ref S.length) (S ++ [.lst (List.replicate k.toNat x).flatten]) else .bad
    | _ => .bad
  | _, _ => .bad
def fNeg : D → Store → Res D := fun d S => match d with
  | .int i => .ok (.int (-i)) S
  | _ => .bad
theorem rf_neg {K : PySem.W.Frag} : RfU K (rU fun i => .int (-i)) fNeg := by
  intro G σ H p S d x Q rst rx h
  unfold fNeg at h
  split at h
  · rw [RV.int_iff] at rx
    exact ⟨_, rx, h H p .refl rst _ (RV.int_iff.mpr rfl)⟩
  · exact h.elim
theorem me_neg (ha : ME X G a sa) : ME X G (.UnaryOp .USub a pos) (s1 fNeg sa) := me_un un_neg rf_neg ha
def fIx : D → D → Store → Res D := fun d e S => match d, e with
  | .tup l, .int i => match atI l i with
    | some x => .ok x S
    | none => .bad
  | .ref n, .int i => match lstOf S n with
    | some l => match atI l i with
      | some x => .ok x S
      | none => .bad
    | none => .bad
  | .str z, .int i => if z.length ≤ sizeLine then match atI z.cps.toList i with
      | some c => .ok (.str ⟨#[c]⟩) S
      | none => .bad
    else .bad
  | _, _ => .bad
theorem RVs.atI {K : PySem.W.Frag} {H : Hp} {p : List Addr} {l : List D} {xs : List V} {i : Int} {d : D} (h : RVs K H p l xs) (e : atI l i = some d) : ∃ v, L2.atI xs i = some v ∧ RV K H p d v := by
  unfold L2.atI at e ⊢
  rw [← h.len]
  cases hx : ixN l.length i with
  | none => rw [hx] at e; cases e
  | some j =>
    rw [hx] at e
    exact h.get e
theorem rf_ix {K : PySem.W.Frag} : RfO K (rIx K) fIx := by
  intro G σ H p S d e x y Q rst rx ry h
  unfold fIx at h
  split at h
  · split at h
    · rename_i hc
      obtain ⟨a, xs, rfl, ha, hx⟩ := RV.tup_iff.mp rx
      rw [RV.int_iff] at ry
      obtain ⟨v, e1, e2⟩ := hx.atI hc
      exact .inr (.inl ⟨a, xs, _, v, rfl, ry, ha, e1, h H p .refl rst _ e2⟩)
    · exact h.elim
  · split at h
    · rename_i hl
      split at h
      · rename_i hc
        obtain ⟨a, xs, rfl, ha, hx⟩ := rst.list hl rx
        rw [RV.int_iff] at ry
        obtain ⟨v, e1, e2⟩ := hx.atI hc
        exact .inl ⟨a, xs, _, v, rfl, ry, ha, e1, h H p .refl rst _ e2⟩
      · exact h.elim
    · exact h.elim
  · split at h
    · rename_i hz
      split at h
      · rename_i hc
        rw [RV.str_iff] at rx
        rw [RV.int_iff] at ry
        exact .inr (.inr ⟨_, _, _, rx, ry, hz, hc, h H p .refl rst _ (RV.str_iff.mpr rfl)⟩)
      · exact h.elim
    · exact h.elim
  · exact h.elim
theorem me_item (ha : ME X G a sa) (hb : ME X G b sb) (hs : PlainIx b := by intro _ _; rfl) : ME X G (.Subscript a b pos) (s2 fIx sa sb) := me_ix ix_seq rf_ix ha hb hs
end
def allP (f : D → Option PyData) : List D → Option (List PyData)
  | [] => some []
  | d :: l => match f d, allP f l with
    | some x, some r => some (x :: r)
    | _, _ => none
def toP (S : Store) : Nat → D → Option PyData
  | _, .non => some .none
  | _, .bl b => some (.bool b)
  | _, .int i => some (.int i)
  | _, .str s => if PyData.strOk s then some (.str s) else none
  | k + 1, .tup l => (allP (toP S k) l).map .tuple
  | k + 1, .ref n => match lstOf S n with
    | some l => (allP (toP S k) l).map .list
    | none => none
  | 0, .tup _ => none
  | 0, .ref _ => none
theorem allP_sh {k : Nat} {f : D → Option PyData} (hf : ∀ d x, f d = some x → x.canLay0 = true ∧ x.depth ≤ k) : ∀ {l : List D} {r : List PyData}, allP f l = some r → PyData.canLayAll0 r = true ∧ PyData.depthAll r ≤ k
  | [], r, h => by
    cases h
    exact ⟨rfl, Nat.zero_le _⟩
  | d :: l, r, h => by
    unfold allP at h
    split at h
    · rename_i x r' h1 h2
      cases h
      obtain ⟨a1, a2⟩ := hf d x h1
      obtain ⟨b1, b2⟩ := allP_sh hf h2
      unfold PyData.canLayAll0 PyData.depthAll
      exact ⟨by rw [a1, b1]; rfl, by omega⟩
    · cases h
theorem toP_sh {S : Store} : ∀ (k : Nat) (d : D) (x : PyData), toP S k d = some x → x.canLay0 = true ∧ x.depth ≤ k := by
  intro k
  induction k with
  | zero =>
    intro d x h
    cases d with
    | str s =>
      simp only [toP] at h
      split at h
      · rename_i hs
        cases h
        exact ⟨by simpa [PyData.canLay0] using hs, by simp [PyData.depth]⟩
      · cases h
    | tup l => simp [toP] at h
    | ref n => simp [toP] at h
    | non => simp only [toP] at h; cases h; exact ⟨rfl, by simp [PyData.depth]⟩
    | bl b => simp only [toP] at h; cases h; exact ⟨rfl, by simp [PyData.depth]⟩
    | int i => simp only [toP] at h; cases h; exact ⟨rfl, by simp [PyData.depth]⟩
  | succ k ih =>
    intro d x h
    cases d with
    | str s =>
      simp only [toP] at h
      split at h
      · rename_i hs
        cases h
        exact ⟨by simpa [PyData.canLay0] using hs, by simp [PyData.depth]⟩
      · cases h
    | tup l =>
      simp only [toP] at h
      cases e : allP (toP S k) l with
      | none => rw [e] at h; cases h
      | some r =>
        rw [e] at h
        cases h
        obtain ⟨a, b⟩ := allP_sh (k := k) ih e
        exact ⟨by simpa [PyData.canLay0] using a, by simp [PyData.depth]; omega⟩
    | ref n =>
      simp only [toP] at h
      split at h
      · rename_i l hl
        cases e : allP (toP S k) l with
        | none => rw [e] at h; cases h
        | some r =>
          rw [e] at h
          cases h
          obtain ⟨a, b⟩ := allP_sh (k := k) ih e
          exact ⟨by simpa [PyData.canLay0] using a, by simp [PyData.depth]; omega⟩
      · cases h
    | non => simp only [toP] at h; cases h; exact ⟨rfl, by simp [PyData.depth]⟩
    | bl b => simp only [toP] at h; cases h; exact ⟨rfl, by simp [PyData.depth]⟩
    | int i => simp only [toP] at h; cases h; exact ⟨rfl, by simp [PyData.depth]⟩
theorem toP_shaped {S : Store} {d : D} {x : PyData} (h : toP S 60 d = some x) : SeqAt.shaped x = true := by
  obtain ⟨a, b⟩ := toP_sh 60 d x h
  unfold SeqAt.shaped
  rw [a, Bool.true_and]
  exact decide_eq_true (by omega)
theorem allP_dp {K : PySem.W.Frag} {H : Hp} {p : List Addr} {f : D → Option PyData} (hf : ∀ d x v, f d = some x → RV K H p d v → Dp K H v x) : ∀ {l : List D} {r : List PyData} {xs : List V}, allP f l = some r → RVs K H p l xs → DpAll K H xs r
  | [], r, xs, h, q => by
    cases h
    rw [RVs.nil_iff] at q
    subst q
    exact .nil
  | d :: l, r, xs, h, q => by
    unfold allP at h
    split at h
    · rename_i x r' h1 h2
      cases h
      obtain ⟨v, vs, rfl, q1, q2⟩ := RVs.cons_iff.mp q
      exact .cons (hf d x v h1 q1) (allP_dp hf h2 q2)
    · cases h
theorem toP_dp {K : PySem.W.Frag} {H : Hp} {p : List Addr} {S : Store} (R : RSt K H p S) : ∀ (k : Nat) (d : D) (x : PyData) (v : V), toP S k d = some x → RV K H p d v → Dp K H v x := by
  intro k
  induction k with
  | zero =>
    intro d x v h q
    cases d with
    | str s =>
      simp only [toP] at h
      split at h
      · cases h; rw [RV.str_iff] at q; subst q; exact .str _
      · cases h
    | tup l => simp [toP] at h
    | ref n => simp [toP] at h
    | non => simp only [toP] at h; cases h; rw [RV.non_iff] at q; subst q; exact .non
    | bl b => simp only [toP] at h; cases h; rw [RV.bl_iff] at q; subst q; exact .bl _
    | int i => simp only [toP] at h; cases h; rw [RV.int_iff] at q; subst q; exact .int _
  | succ k ih =>
    intro d x v h q
    cases d with
    | str s =>
      simp only [toP] at h
      split at h
      · cases h; rw [RV.str_iff] at q; subst q; exact .str _
      · cases h
    | tup l =>
      simp only [toP] at h
      cases e : allP (toP S k) l with
      | none => rw [e] at h; cases h
      | some r =>
        rw [e] at h
        cases h
        obtain ⟨a, xs, rfl, ha, hx⟩ := RV.tup_iff.mp q
        exact .tup ha (allP_dp ih e hx)
    | ref n =>
      simp only [toP] at h
      split at h
      · rename_i l hl
        cases e : allP (toP S k) l with
        | none => rw [e] at h; cases h
        | some r =>
          rw [e] at h
          cases h
          obtain ⟨a, xs, rfl, ha, hx⟩ := R.list hl q
          exact .lst ha (allP_dp ih e hx)
      · cases h
    | non => simp only [toP] at h; cases h; rw [RV.non_iff] at q; subst q; exact .non
    | bl b => simp only [toP] at h; cases h; rw [RV.bl_iff] at q; subst q; exact .bl _
    | int i => simp only [toP] at h; cases h; rw [RV.int_iff] at q; subst q; exact .int _
def fEq : D → D → Store → Res D := fun d e S => match toP S 60 d, toP S 60 e with
  | some x, some y => .ok (.bl (PyData.eqv x y)) S
  | _, _ => .bad
def fNe : D → D → Store → Res D := fun d e S => match toP S 60 d, toP S 60 e with
  | some x, some y => .ok (.bl (!PyData.eqv x y)) S
  | _, _ => .bad
theorem rf_eq {K : PySem.W.Frag} : RfO K (rEqD K) fEq := by
  intro G σ H p S d e x y Q rst rx ry h
  unfold fEq at h
  split at h
  · rename_i a b h1 h2
    exact ⟨a, b, toP_dp rst 60 d a x h1 rx, toP_dp rst 60 e b y h2 ry, toP_shaped h1, toP_shaped h2, h H p .refl rst _ (RV.bl_iff.mpr rfl)⟩
  · exact h.elim
theorem rf_ne {K : PySem.W.Frag} : RfO K (rNeD K) fNe := by
  intro G σ H p S d e x y Q rst rx ry h
  unfold fNe at h
  split at h
  · rename_i a b h1 h2
    exact ⟨a, b, toP_dp rst 60 d a x h1 rx, toP_dp rst 60 e b y h2 ry, toP_shaped h1, toP_shaped h2, h H p .refl rst _ (RV.bl_iff.mpr rfl)⟩
  · exact h.elim
end Rg
namespace Rg
open PySem PySem.Spec PyProof.Rows L2
section
variable {X : Cx} {G : Gx} {e a b c : Expr} {pos : Pos} {sa sb : SE} {st su : ST} {es rest : List Expr} {sr : SA}
def sT (s : SE) : ST := fun env S => (s env S).bind fun d S1 => match d with
  | .bl b => .ok b S1
  | _ => .bad
def sNot (s : ST) : ST := fun env S => (s env S).bind fun b S1 => .ok (!b) S1
def sAnd (s t : ST) : ST := fun env S => (s env S).bind fun b S1 => if b = true then t env S1 else .ok false S1
def sOr (s t : ST) : ST := fun env S => (s env S).bind fun b S1 => if b = true then .ok true S1 else t env S1
def sAndV (sa sb : SE) : SE := fun env S => (sa env S).bind fun d S1 => match d with
  | .bl true => sb env S1
  | .bl false => .ok (.bl false) S1
  | _ => .bad
def sOrV (sa sb : SE) : SE := fun env S => (sa env S).bind fun d S1 => match d with
  | .bl true => .ok (.bl true) S1
  | .bl false => sb env S1
  | _ => .bad
def fNot : D → Store → Res D := fun d S => match d with
  | .bl b => .ok (.bl (!b)) S
  | _ => .bad
def sIf (t : ST) (sa sb : SE) : SE := fun env S => (t env S).bind fun b S1 => if b = true then sa env S1 else sb env S1
theorem sT_of {K : PySem.W.Frag} {σ : L2.St} {H : Hp} {Q : Bool → Hp → Prop} (h : TTo K G (sT sa) σ H Q) : TEo K G sa σ H fun x H' => ∃ k, x = .bl k ∧ Q k H' := by
  obtain ⟨p, env, S, rs, rst, g⟩ := h
  refine one rs rst g fun H1 p1 S1 d x _ _ r1 rx g1 => ?_
  cases d with
  | bl b =>
    rw [RV.bl_iff] at rx
    exact ⟨b, rx, g1 H1 p1 .refl r1⟩
  | _ => exact g1.elim
theorem mt_cmp {op : CmpOp} {r : R2} {f : D → D → Store → Res D} (ho : OpR X (compareOp op) r) (hf : RfO X.K r f) (ha : ME X G a sa) (hb : ME X G b sb) (hm : behindInMarks op b = false) : MT X G (.Compare a [op] [b] pos) (sT (s2 f sa sb)) := fun ok =>
  pt_imp (pt_cmpR ho (ha ok) (hb ok) hm) fun σ H Q h => by
    have h1 := sT_of h
    exact two h1 fun H p S d e x y rst rx ry g => hf G σ H p S d e x y _ rst rx ry g
theorem mt_val (ha : ME X G a sa) (he : ∀ whole, isTrue a X.env whole = (do let v ← whole; standAt a.pos; holding [v] (truthy v)) := by intro _; rfl) : MT X G a (sT sa) := fun ok =>
  pt_imp (pt_val (ha ok) he) fun σ H Q h => sT_of h
theorem TTo.bind {K : PySem.W.Frag} {A : Type} {f : Bool → Store → Res A} {σ : L2.St} {H : Hp} {P : A → Store → Hp → List Addr → Prop} {R : Bool → Hp → Prop} {p : List Addr} {env : Env} {S : Store} (rs : Rs K H p env σ) (rst : RSt K H p S) (g : Good K G σ H p ((st env S).bind f) P)
    (hr : ∀ (H1 : Hp) (p1 : List Addr) (S1 : Store) (b : Bool), Ext K H H1 p p1 → Rs K H1 p1 env σ → RSt K H1 p1 S1 → Good K G σ H1 p1 (f b S1) P → R b H1) : TTo K G st σ H R :=
  ⟨p, env, S, rs, rst, g.bind.imp fun b S1 H1 p1 e1 r1 g1 => hr H1 p1 S1 b e1 (rs.mono e1) r1 g1⟩
theorem mt_not (ha : MT X G a st) : MT X G (.UnaryOp .Not a pos) (sNot st) := fun ok =>
  pt_imp (pt_not (ha ok)) fun σ H Q h => by
    obtain ⟨p, env, S, rs, rst, g⟩ := h
    exact TTo.bind rs rst g fun H1 p1 S1 b _ _ r1 g1 => g1 H1 p1 .refl r1
theorem MW.pt (h : MW X G a st) : MT X G a st := fun ok => (h ok).pt
theorem mw_and1 (ha : MT X G a st) : MW X G (.BoolOp .And [a] pos) st := fun ok => pw_and1 (ha ok)
theorem mw_or1 (ha : MT X G a st) : MW X G (.BoolOp .Or [a] pos) st := fun ok => pw_or1 (ha ok)
theorem mw_and (ha : MT X G a st) (hb : MW X G (.BoolOp .And (b :: rest) pos) su) : MW X G (.BoolOp .And (a :: b :: rest) pos) (sAnd st su) := fun ok =>
  pw_imp (pw_and (ha ok) (hb ok)) fun σ H Q h => by
    obtain ⟨p, env, S, rs, rst, g⟩ := h
    refine TTo.bind rs rst g fun H1 p1 S1 b _ rs1 r1 g1 => ?_
    cases b with
    | true => exact ⟨p1, env, S1, rs1, r1, g1⟩
    | false => exact g1 H1 p1 .refl r1
theorem mw_or (ha : MT X G a st) (hb : MW X G (.BoolOp .Or (b :: rest) pos) su) : MW X G (.BoolOp .Or (a :: b :: rest) pos) (sOr st su) := fun ok =>
  pw_imp (pw_or (ha ok) (hb ok)) fun σ H Q h => by
    obtain ⟨p, env, S, rs, rst, g⟩ := h
    refine TTo.bind rs rst g fun H1 p1 S1 b _ rs1 r1 g1 => ?_
    cases b with
    | true => exact g1 H1 p1 .refl r1
    | false => exact ⟨p1, env, S1, rs1, r1, g1⟩
theorem me_one {op} (h : ME X G a sa) : ME X G (.BoolOp op [a] pos) sa := fun ok => pe_one (h ok)
theorem me_and (ha : ME X G a sa) (hb : ME X G (.BoolOp .And (b :: rest) pos) sb) : ME X G (.BoolOp .And (a :: b :: rest) pos) (sAndV sa sb) := fun ok =>
  pe_imp (pe_and (ha ok) (hb ok)) fun σ H Q h => by
    obtain ⟨p, env, S, rs, rst, g⟩ := h
    refine one rs rst g fun H1 p1 S1 d x _ rs1 r1 rx g1 => ?_
    cases d with
    | bl b =>
      rw [RV.bl_iff] at rx
      refine ⟨b, rx, ?_⟩
      cases b with
      | true => exact ⟨p1, env, S1, rs1, r1, g1⟩
      | false => exact g1 H1 p1 .refl r1 _ (RV.bl_iff.mpr rfl)
    | _ => exact g1.elim
theorem me_not (ha : ME X G a sa) : ME X G (.UnaryOp .Not a pos) (s1 fNot sa) := fun ok =>
  pe_imp (pe_not (ha ok)) fun σ H Q h => by
    obtain ⟨p, env, S, rs, rst, g⟩ := h
    refine one rs rst g fun H1 p1 S1 d x _ rs1 r1 rx g1 => ?_
    cases d with
    | bl b =>
      rw [RV.bl_iff] at rx
      exact ⟨b, rx, g1 H1 p1 .refl r1 _ (RV.bl_iff.mpr rfl)⟩
    | _ => exact g1.elim
abbrev fLt := fIB fun i j => decide (i < j)
abbrev fLe := fIB fun i j => decide (i ≤ j)
abbrev fGt := fIB fun i j => decide (j < i)
theorem me_lt (ha : ME X G a sa) (hb : ME X G b sb) : ME X G (.Compare a [.Lt] [b] pos) (s2 fLt sa sb) := me_cmp op_lt rf_IB ha hb (nomark _)
theorem mt_lt (ha : ME X G a sa) (hb : ME X G b sb) : MT X G (.Compare a [.Lt] [b] pos) (sT (s2 fLt sa sb)) := mt_cmp op_lt rf_IB ha hb (nomark _)
theorem mt_le (ha : ME X G a sa) (hb : ME X G b sb) : MT X G (.Compare a [.LtE] [b] pos) (sT (s2 fLe sa sb)) := mt_cmp op_le rf_IB ha hb (nomark _)
theorem mt_gt (ha : ME X G a sa) (hb : ME X G b sb) : MT X G (.Compare a [.Gt] [b] pos) (sT (s2 fGt sa sb)) := mt_cmp op_gt rf_IB ha hb (nomark _)
theorem mt_eq {k : Nat} (hr : Room k X.A) (ha : ME X G a sa) (hb : ME X G b sb) : MT X G (.Compare a [.Eq] [b] pos) (sT (s2 fEq sa sb)) := mt_cmp (op_eqD hr.units) rf_eq ha hb (nomark _)
theorem mt_ne {k : Nat} (hr : Room k X.A) (ha : ME X G a sa) (hb : ME X G b sb) : MT X G (.Compare a [.NotEq] [b] pos) (sT (s2 fNe sa sb)) := mt_cmp (op_neD hr.units) rf_ne ha hb (nomark _)
def D.isNon : D → Bool
  | .non => true
  | _ => false
theorem RV.isNon {K : PySem.W.Frag} {H : Hp} {p : List Addr} {d : D} {v : V} (r : RV K H p d v) : decide (v = .non) = d.isNon := by
  cases d with
  | non => rw [RV.non_iff] at r; subst r; rfl
  | bl b => rw [RV.bl_iff] at r; subst r; rfl
  | int b => rw [RV.int_iff] at r; subst r; rfl
  | str b => rw [RV.str_iff] at r; subst r; rfl
  | tup l => obtain ⟨a, xs, rfl, _⟩ := RV.tup_iff.mp r; rfl
  | ref l => obtain ⟨a, rfl, _⟩ := RV.ref_iff.mp r; rfl
def fIsN : D → Store → Res D := fun d S => .ok (.bl d.isNon) S
def fNotN : D → Store → Res D := fun d S => .ok (.bl (!d.isNon)) S
theorem pc_notN'  {σ : L2.St} {H : Hp} {Q : VK} (h : TEo X.K G (s1 fNotN sa) σ H Q) : tNotN (TEo X.K G sa) σ H Q := by
  obtain ⟨p, env, S, rs, rst, g⟩ := h
  refine one rs rst g fun H1 p1 S1 d x _ rs1 r1 rx g1 => ?_
  rw [rx.isNon]
  exact g1 H1 p1 .refl r1 _ (RV.bl_iff.mpr rfl)
theorem mt_notN {j pos'} (ha : ME X G a sa) : MT X G (.Compare a [.IsNot] [.Constant .none j pos'] pos) (sT (s1 fNotN sa)) := fun ok => pt_imp (pt_cmp (pc_notN (ha ok))) fun σ H Q h => pc_notN' (sT_of h)
def fIsB : D → D → Store → Res D := fun d e S => match d, e with
  | .bl x, .bl y => .ok (.bl (decide (x = y))) S
  | _, _ => .bad
def fNotB : D → D → Store → Res D := fun d e S => match d, e with
  | .bl x, .bl y => .ok (.bl (!decide (x = y))) S
  | _, _ => .bad
def sChain (f g : D → D → Store → Res D) (sa sb sc : SE) : SE := fun env S => (sa env S).bind fun d S1 => (sb env S1).bind fun e S2 => (f d e S2).bind fun r S3 => match r with
  | .bl true => (sc env S3).bind fun u S4 => g e u S4
  | .bl false => .ok (.bl false) S3
  | _ => .bad
def sNil : SA := fun _ S => .ok [] S
def sCons (s : SE) (r : SA) : SA := fun env S => (s env S).bind fun d S1 => (r env S1).bind fun ds S2 => .ok (d :: ds) S2
def sTup (s : SA) : SE := fun env S => (s env S).bind fun ds S1 => if ds.length ≤ sizeLine then .ok (.tup ds) S1 else .bad
def sLst (s : SA) : SE := fun env S => (s env S).bind fun ds S1 => if ds.length ≤ sizeLine then .ok (.ref S1.length) (S1 ++ [.lst ds]) else .bad
theorem ma_nil : MA X G [] sNil := fun _ => pa_imp pa_nil fun σ H Q h => by
  obtain ⟨p, env, S, rs, rst, g⟩ := h
  exact g H p .refl rst [] RVs.nil
theorem TAo.bind {K : PySem.W.Frag} {A : Type} {f : List D → Store → Res A} {σ : L2.St} {H : Hp} {P : A → Store → Hp → List Addr → Prop} {R : List V → Hp → Prop} {p : List Addr} {env : Env} {S : Store} (rs : Rs K H p env σ) (rst : RSt K H p S) (g : Good K G σ H p ((sr env S).bind f) P)
    (hr : ∀ (H1 : Hp) (p1 : List Addr) (S1 : Store) (ds : List D) (xs : List V), Ext K H H1 p p1 → Rs K H1 p1 env σ → RSt K H1 p1 S1 → RVs K H1 p1 ds xs → Good K G σ H1 p1 (f ds S1) P → R xs H1) : TAo K G sr σ H R :=
  ⟨p, env, S, rs, rst, g.bind.imp fun ds S1 H1 p1 e1 r1 g1 xs rx => hr H1 p1 S1 ds xs e1 (rs.mono e1) r1 rx g1⟩
theorem ma_cons (ha : ME X G e sa) (hr : MA X G es sr) (hs : starEach (e :: es) X.env = (false, eval e X.env) :: starEach es X.env := by rfl) : MA X G (e :: es) (sCons sa sr) := fun ok =>
  pa_imp (pa_cons (ha ok) (hr ok) hs) fun σ H Q h => by
    obtain ⟨p, env, S, rs, rst, g⟩ := h
    refine one rs rst g fun H1 p1 S1 d x _ rs1 r1 rx g1 => ?_
    refine TAo.bind rs1 r1 g1 fun H2 p2 S2 ds xs e2 rs2 r2 rxs g2 => ?_
    exact g2 H2 p2 .refl r2 _ (RVs.cons (RV.mono e2 _ _ rx) rxs)
theorem me_tup {x1} (h : MA X G es sr) : ME X G (.Tuple es x1 pos) (sTup sr) := fun ok =>
  pe_imp (pe_tup (h ok)) fun σ H Q h => by
    obtain ⟨p, env, S, rs, rst, g⟩ := h
    refine TAo.bind rs rst g fun H1 p1 S1 ds xs _ rs1 r1 rx g1 => ?_
    split at g1
    · rename_i hz
      refine ⟨by rw [← rx.len]; exact hz, fun q hq => ?_⟩
      obtain ⟨E, R, r⟩ := r1.newT hq rx
      exact g1 _ _ E R _ r
    · exact g1.elim
theorem me_lst (h : MA X G es sr) : ME X G (.List es pos) (sLst sr) := fun ok =>
  pe_imp (pe_lst (h ok)) fun σ H Q h => by
    obtain ⟨p, env, S, rs, rst, g⟩ := h
    refine TAo.bind rs rst g fun H1 p1 S1 ds xs _ rs1 r1 rx g1 => ?_
    split at g1
    · rename_i hz
      refine ⟨by rw [← rx.len]; exact hz, fun q hq => ?_⟩
      obtain ⟨E, R, r⟩ := r1.newL hq rx
      exact g1 _ _ E R _ r
    · exact g1.elim
abbrev Mf := List D → Store → Res D
def sCall (m : Mf) (s : SA) : SE := fun env S => (s env S).bind fun ds S1 => m ds S1
def SpOf (K : PySem.W.Frag) (xv : XV) (m : Mf) : Sp := fun vs H Q E => ∃ ds p S, RVs K H p ds vs ∧ RSt K H p S ∧ Good K ⟨xv, fun cls d _ H' => E cls d H'⟩ [] H p (m ds S) (PV K Q)
theorem me_call {x : Str} {p : Pos} {k j : Nat} {f : Addr} {fd : FuncData} {ps : List Str} {m : Mf} (F : FnOk X.prog X.w X.K X.mg X.base (CXn G.xv.nn X.prog X.w) k f fd ps (SpOf X.K G.xv m)) (hr : Room j X.A) (hj : k ≤ j) (hm : X.mg x = some (.ref f)) (hk : PySem.W.keepIn X.K (.ref f) = true) (hb : Binds X.K fd ps [])
    (ha : MA X G (e :: es) sr) (hg : Gl X x := by rfl) (hdb : (x == ("__debug__" : Str)) = false := by decide) (he : starEach (e :: es) X.env = (false, eval e X.env) :: starEach es X.env := by rfl) (hpl : (backTo pos (starEach es X.env)).any (·.1) = false := by rfl) :
    ME X G (.Call (.Name x p) (e :: es) [] pos) (sCall m sr) := fun ok =>
  pe_imp (pe_callS F (hr.mono hj) hg hm hk hb (passN ok.tk) (ha ok) hdb he hpl) fun σ H Q h => by
    obtain ⟨p, env, S, rs, rst, g⟩ := h
    refine TAo.bind rs rst g fun H1 p1 S1 ds xs _ rs1 r1 rx g1 => ?_
    refine ⟨ds, p1, S1, rx, r1, ?_⟩
    cases hm : m ds S1 with
    | ok d S2 => rw [hm] at g1; exact g1
    | exc c S2 => rw [hm] at g1; exact g1
    | bad => rw [hm] at g1; exact g1
def sCall0 (m : Mf) : SE := fun _ S => match m [] S with
  | .ok d S1 => .ok d S1
  | _ => .bad
def RfC (K : PySem.W.Frag) (r : List V → Hp → VK → Prop) (f : Mf) : Prop := ∀ (G : Gx) (σ : L2.St) (H : Hp) (p : List Addr) (S : Store) (ds : List D) (xs : List V) (Q : VK), RSt K H p S → RVs K H p ds xs → Good K G σ H p (f ds S) (PV K Q) → r xs H Q
theorem me_callB {x : Str} {p : Pos} {id : String} {r : List V → Hp → VK → Prop} {f : Mf} (hc : CallR X (.builtin id) r) (hf : RfC X.K r f) (hm : X.mg x = none) (hv : bootBuiltins x = some (.builtin id)) (ha : MA X G (e :: es) sr) (hg : Gl X x := by rfl) (hn : x ≠ "__name__" := by decide) (hdb : (x == ("__debug__" : Str)) = false := by decide)
    (he : starEach (e :: es) X.env = (false, eval e X.env) :: starEach es X.env := by rfl) (hpl : (backTo pos (starEach es X.env)).any (·.1) = false := by rfl) : ME X G (.Call (.Name x p) (e :: es) [] pos) (sCall f sr) := fun ok =>
  pe_imp (pe_callB hc hg hm hv (ha ok) hn hdb he hpl) fun σ H Q h => by
    obtain ⟨p, env, S, rs, rst, g⟩ := h
    exact TAo.bind rs rst g fun H1 p1 S1 ds xs _ rs1 r1 rx g1 => hf G σ H1 p1 S1 ds xs Q r1 rx g1
theorem me_callTy {x : Str} {p : Pos} {id : String} {r : List V → Hp → VK → Prop} {f : Mf} (hc : CallR X (.type id) r) (hf : RfC X.K r f) (hm : X.mg x = none) (hv : bootBuiltins x = some (.type id)) (ha : MA X G (e :: es) sr) (hg : Gl X x := by rfl) (hn : x ≠ "__name__" := by decide) (hdb : (x == ("__debug__" : Str)) = false := by decide)
    (he : starEach (e :: es) X.env = (false, eval e X.env) :: starEach es X.env := by rfl) (hpl : (backTo pos (starEach es X.env)).any (·.1) = false := by rfl) : ME X G (.Call (.Name x p) (e :: es) [] pos) (sCall f sr) := fun ok =>
  pe_imp (pe_callTy hc hg hm hv (ha ok) hn hdb he hpl) fun σ H Q h => by
    obtain ⟨p, env, S, rs, rst, g⟩ := h
    exact TAo.bind rs rst g fun H1 p1 S1 ds xs _ rs1 r1 rx g1 => hf G σ H1 p1 S1 ds xs Q r1 rx g1
end
end Rg
namespace Rg
open PySem PySem.Spec PyProof.Rows L2
theorem RVs.one {K : PySem.W.Frag} {H : Hp} {p : List Addr} {d : D} {xs : List V} (h : RVs K H p [d] xs) : ∃ x, xs = [x] ∧ RV K H p d x := by
  obtain ⟨x, r, rfl, h1, h2⟩ := RVs.cons_iff.mp h
  rw [RVs.nil_iff] at h2
  subst h2
  exact ⟨x, rfl, h1⟩
theorem RVs.two {K : PySem.W.Frag} {H : Hp} {p : List Addr} {d e : D} {xs : List V} (h : RVs K H p [d, e] xs) : ∃ x y, xs = [x, y] ∧ RV K H p d x ∧ RV K H p e y := by
  obtain ⟨x, r, rfl, h1, h2⟩ := RVs.cons_iff.mp h
  obtain ⟨y, rfl, h3⟩ := h2.one
  exact ⟨x, y, rfl, h1, h3⟩
section
variable {X : Cx} {G : Gx} {e a b c : Expr} {pos : Pos} {sa sb : SE} {st su : ST} {es rest : List Expr} {sr : SA}
def fAbs : Mf := fun ds S => match ds with
  | [.int i] => .ok (.int (i.natAbs : Int)) S
  | _ => .bad
theorem rc_abs {K : PySem.W.Frag} : RfC K (fun xs H Q => ∃ i, xs = [.int i] ∧ Q (.int (if i < 0 then -i else i)) H) fAbs := by
  intro G σ H p S ds xs Q rst rx h
  unfold fAbs at h
  split at h
  · rename_i i
    obtain ⟨x, rfl, r⟩ := rx.one
    rw [RV.int_iff] at r
    subst r
    refine ⟨i, rfl, h H p .refl rst _ (RV.int_iff.mpr ?_)⟩
    congr 1
    split <;> omega
  · exact h.elim
def fMax2 : Mf := fun ds S => match ds with
  | [.int i, .int j] => .ok (.int (max i j)) S
  | _ => .bad
theorem rc_max2 {K : PySem.W.Frag} : RfC K (fun xs H Q => ∃ i j, xs = [.int i, .int j] ∧ Q (.int (if j > i then j else i)) H) fMax2 := by
  intro G σ H p S ds xs Q rst rx h
  unfold fMax2 at h
  split at h
  · rename_i i j
    obtain ⟨x, y, rfl, r, r'⟩ := rx.two
    rw [RV.int_iff] at r r'
    subst r r'
    refine ⟨i, j, rfl, h H p .refl rst _ (RV.int_iff.mpr ?_)⟩
    congr 1
    split <;> omega
  · exact h.elim
def fMin2 : Mf := fun ds S => match ds with
  | [.int i, .int j] => .ok (.int (min i j)) S
  | _ => .bad
theorem rc_min2 {K : PySem.W.Frag} : RfC K (fun xs H Q => ∃ i j, xs = [.int i, .int j] ∧ Q (.int (if j < i then j else i)) H) fMin2 := by
  intro G σ H p S ds xs Q rst rx h
  unfold fMin2 at h
  split at h
  · rename_i i j
    obtain ⟨x, y, rfl, r, r'⟩ := rx.two
    rw [RV.int_iff] at r r'
    subst r r'
    refine ⟨i, j, rfl, h H p .refl rst _ (RV.int_iff.mpr ?_)⟩
    congr 1
    split <;> omega
  · exact h.elim
def fInt : Mf := fun ds S => match ds with
  | [.int i] => .ok (.int i) S
  | [.bl b] => .ok (.int (if b then 1 else 0)) S
  | _ => .bad
def fLen : Mf := fun ds S => match ds with
  | [.tup l] => .ok (.int (l.length : Nat)) S
  | [.ref n] => match lstOf S n with
    | some l => .ok (.int (l.length : Nat)) S
    | none => .bad
  | [.str z] => if z.length ≤ sizeLine then .ok (.int (z.length : Nat)) S else .bad
  | _ => .bad
theorem rc_len {K : PySem.W.Frag} : RfC K (fun xs H Q => (∃ p ys, xs = [.ref p] ∧ (SqL K H p ys ∨ SqT K H p ys) ∧ Q (.int ys.length) H) ∨ ∃ z, xs = [.str z] ∧ z.length ≤ sizeLine ∧ Q (.int z.length) H) fLen := by
  intro G σ H p S ds xs Q rst rx h
  unfold fLen at h
  split at h
  · obtain ⟨x, rfl, r⟩ := rx.one
    obtain ⟨a, ys, rfl, h1, h2⟩ := RV.tup_iff.mp r
    refine .inl ⟨a, ys, rfl, .inr h1, h H p .refl rst _ (RV.int_iff.mpr ?_)⟩
    rw [h2.len]
  · obtain ⟨x, rfl, r⟩ := rx.one
    split at h
    · rename_i l hl
      obtain ⟨a, ys, rfl, h1, h2⟩ := rst.list hl r
      refine .inl ⟨a, ys, rfl, .inl h1, h H p .refl rst _ (RV.int_iff.mpr ?_)⟩
      rw [h2.len]
    · exact h.elim
  · obtain ⟨x, rfl, r⟩ := rx.one
    rw [RV.str_iff] at r
    subst r
    split at h
    · rename_i hz
      exact .inr ⟨_, rfl, hz, h H p .refl rst _ (RV.int_iff.mpr rfl)⟩
    · exact h.elim
  · exact h.elim
def fList : Mf := fun ds S => match ds with
  | [.tup l] => .ok (.ref S.length) (S ++ [.lst l])
  | [.ref n] => match lstOf S n with
    | some l => .ok (.ref S.length) (S ++ [.lst l])
    | none => .bad
  | _ => .bad
theorem rc_list {K : PySem.W.Frag} : RfC K (fun xs H Q => ∃ p ys, xs = [.ref p] ∧ (SqL K H p ys ∨ SqT K H p ys) ∧ ∀ l, H l = none → Q (.ref l) (upd H l (.lst ys))) fList := by
  intro G σ H p S ds xs Q rst rx h
  unfold fList at h
  split at h
  · obtain ⟨x, rfl, r⟩ := rx.one
    obtain ⟨a, ys, rfl, h1, h2⟩ := RV.tup_iff.mp r
    refine ⟨a, ys, rfl, .inr h1, fun q hq => ?_⟩
    obtain ⟨E, R, r⟩ := rst.newL hq h2
    exact h _ _ E R _ r
  · obtain ⟨x, rfl, r⟩ := rx.one
    split at h
    · rename_i l hl
      obtain ⟨a, ys, rfl, h1, h2⟩ := rst.list hl r
      refine ⟨a, ys, rfl, .inl h1, fun q hq => ?_⟩
      obtain ⟨E, R, r⟩ := rst.newL hq h2
      exact h _ _ E R _ r
    · exact h.elim
  · exact h.elim
def fTuple : Mf := fun ds S => match ds with
  | [.tup l] => .ok (.tup l) S
  | [.ref n] => match lstOf S n with
    | some l => .ok (.tup l) S
    | none => .bad
  | _ => .bad
theorem rc_tuple {K : PySem.W.Frag} : RfC K (fun xs H Q => ∃ p ys, xs = [.ref p] ∧ ((SqL K H p ys ∧ ∀ l, H l = none → Q (.ref l) (upd H l (.tup ys))) ∨ (SqT K H p ys ∧ Q (.ref p) H))) fTuple := by
  intro G σ H p S ds xs Q rst rx h
  unfold fTuple at h
  split at h
  · obtain ⟨x, rfl, r⟩ := rx.one
    obtain ⟨a, ys, rfl, h1, h2⟩ := RV.tup_iff.mp r
    exact ⟨a, ys, rfl, .inr ⟨h1, h H p .refl rst _ r⟩⟩
  · obtain ⟨x, rfl, r⟩ := rx.one
    split at h
    · rename_i l hl
      obtain ⟨a, ys, rfl, h1, h2⟩ := rst.list hl r
      refine ⟨a, ys, rfl, .inl ⟨h1, fun q hq => ?_⟩⟩
      obtain ⟨E, R, r⟩ := rst.newT hq h2
      exact h _ _ E R _ r
    · exact h.elim
  · exact h.elim
def boolsD : List D → Option (List Bool)
  | [] => some []
  | .bl b :: l => (boolsD l).map (b :: ·)
  | _ :: _ => none
theorem boolsD_eq : ∀ {l : List D} {bs : List Bool}, boolsD l = some bs → l = bs.map D.bl
  | [], _, h => by cases h; rfl
  | .bl b :: l, bs, h => by
    simp only [boolsD] at h
    cases e : boolsD l with
    | none => rw [e] at h; cases h
    | some r => rw [e] at h; cases h; rw [boolsD_eq e]; rfl
  | .non :: _, _, h => by cases h
  | .int _ :: _, _, h => by cases h
  | .str _ :: _, _, h => by cases h
  | .tup _ :: _, _, h => by cases h
  | .ref _ :: _, _, h => by cases h
def intsD : List D → Option (List Int)
  | [] => some []
  | .int b :: l => (intsD l).map (b :: ·)
  | _ :: _ => none
def lst1 (S : Store) (ds : List D) : Option (List D) := match ds with
  | [.ref n] => lstOf S n
  | _ => none
theorem lst1_of {K : PySem.W.Frag} {H : Hp} {p : List Addr} {S : Store} {ds l : List D} {xs : List V} (R : RSt K H p S) (h : lst1 S ds = some l) (r : RVs K H p ds xs) : ∃ a ys, xs = [.ref a] ∧ SqL K H a ys ∧ RVs K H p l ys := by
  unfold lst1 at h
  split at h
  · obtain ⟨x, rfl, r2⟩ := r.one
    obtain ⟨a, ys, rfl, h1, h2⟩ := R.list h r2
    exact ⟨a, ys, rfl, h1, h2⟩
  · cases h
def fAll : Mf := fun ds S => match (lst1 S ds).bind boolsD with
  | some bs => .ok (.bl (bs.all id)) S
  | none => .bad
def fAny : Mf := fun ds S => match (lst1 S ds).bind boolsD with
  | some bs => .ok (.bl (bs.any id)) S
  | none => .bad
theorem bools_of {K : PySem.W.Frag} {H : Hp} {p : List Addr} {S : Store} {ds : List D} {bs : List Bool} {xs : List V} (R : RSt K H p S) (h : (lst1 S ds).bind boolsD = some bs) (r : RVs K H p ds xs) : ∃ a, xs = [.ref a] ∧ SqL K H a (bs.map V.bl) := by
  cases e : lst1 S ds with
  | none => rw [e] at h; cases h
  | some l =>
    rw [e] at h
    obtain ⟨a, ys, rfl, h1, h2⟩ := lst1_of R e r
    rw [boolsD_eq h] at h2
    rw [← h2.all_bl]
    exact ⟨a, rfl, h1⟩
theorem rc_all {K : PySem.W.Frag} : RfC K (rAll K) fAll := by
  intro G σ H p S ds xs Q rst rx h
  unfold fAll at h
  split at h
  · rename_i bs hb
    obtain ⟨a, rfl, h1⟩ := bools_of rst hb rx
    exact ⟨a, bs, rfl, h1, h H p .refl rst _ (RV.bl_iff.mpr rfl)⟩
  · exact h.elim
def fSum : Mf := fun ds S => match (lst1 S ds).bind intsD with
  | some bs => .ok (.int bs.sum) S
  | none => .bad
theorem me_abs {p : Pos} (hm : X.mg "abs" = none) (ha : MA X G (e :: es) sr) (hg : Gl X "abs" := by rfl) (he : starEach (e :: es) X.env = (false, eval e X.env) :: starEach es X.env := by rfl) (hpl : (backTo pos (starEach es X.env)).any (·.1) = false := by rfl) :
    ME X G (.Call (.Name "abs" p) (e :: es) [] pos) (sCall fAbs sr) := me_callB call_abs rc_abs hm (by decide +kernel) ha hg (by decide) (by decide) he hpl
theorem me_max2 {p : Pos} (hm : X.mg "max" = none) (ha : MA X G (e :: es) sr) (hc : X.calm = true := by rfl) (hg : Gl X "max" := by rfl) (he : starEach (e :: es) X.env = (false, eval e X.env) :: starEach es X.env := by rfl) (hpl : (backTo pos (starEach es X.env)).any (·.1) = false := by rfl) :
    ME X G (.Call (.Name "max" p) (e :: es) [] pos) (sCall fMax2 sr) := me_callB (call_max2 hc) rc_max2 hm (by decide +kernel) ha hg (by decide) (by decide) he hpl
theorem me_min2 {p : Pos} (hm : X.mg "min" = none) (ha : MA X G (e :: es) sr) (hc : X.calm = true := by rfl) (hg : Gl X "min" := by rfl) (he : starEach (e :: es) X.env = (false, eval e X.env) :: starEach es X.env := by rfl) (hpl : (backTo pos (starEach es X.env)).any (·.1) = false := by rfl) :
    ME X G (.Call (.Name "min" p) (e :: es) [] pos) (sCall fMin2 sr) := me_callB (call_min2 hc) rc_min2 hm (by decide +kernel) ha hg (by decide) (by decide) he hpl
theorem me_len {p : Pos} (hm : X.mg "len" = none) (ha : MA X G (e :: es) sr) (hg : Gl X "len" := by rfl) (he : starEach (e :: es) X.env = (false, eval e X.env) :: starEach es X.env := by rfl) (hpl : (backTo pos (starEach es X.env)).any (·.1) = false := by rfl) :
    ME X G (.Call (.Name "len" p) (e :: es) [] pos) (sCall fLen sr) := me_callB (call_len_seq.or call_len_str) rc_len hm (by decide +kernel) ha hg (by decide) (by decide) he hpl
theorem me_all {p : Pos} (hm : X.mg "all" = none) (ha : MA X G (e :: es) sr) (hc : X.calm = true := by rfl) (hg : Gl X "all" := by rfl) (he : starEach (e :: es) X.env = (false, eval e X.env) :: starEach es X.env := by rfl) (hpl : (backTo pos (starEach es X.env)).any (·.1) = false := by rfl) :
    ME X G (.Call (.Name "all" p) (e :: es) [] pos) (sCall fAll sr) := me_callB (cr_all hc) rc_all hm (by decide +kernel) ha hg (by decide) (by decide) he hpl
theorem me_clist {p : Pos} (hm : X.mg "list" = none) (ha : MA X G (e :: es) sr) (hg : Gl X "list" := by rfl) (he : starEach (e :: es) X.env = (false, eval e X.env) :: starEach es X.env := by rfl) (hpl : (backTo pos (starEach es X.env)).any (·.1) = false := by rfl) :
    ME X G (.Call (.Name "list" p) (e :: es) [] pos) (sCall fList sr) := me_callTy call_list_of rc_list hm (by decide +kernel) ha hg (by decide) (by decide) he hpl
theorem me_ctuple {p : Pos} (hm : X.mg "tuple" = none) (ha : MA X G (e :: es) sr) (hg : Gl X "tuple" := by rfl) (he : starEach (e :: es) X.env = (false, eval e X.env) :: starEach es X.env := by rfl) (hpl : (backTo pos (starEach es X.env)).any (·.1) = false := by rfl) :
    ME X G (.Call (.Name "tuple" p) (e :: es) [] pos) (sCall fTuple sr) := me_callTy call_tuple_of rc_tuple hm (by decide +kernel) ha hg (by decide) (by decide) he hpl
inductive Ty where
  | non | bl | int | str | tup | lst | dct
def Ty.name : Ty → String
  | .non => "NoneType"
  | .bl => "bool"
  | .int => "int"
  | .str => "str"
  | .tup => "tuple"
  | .lst => "list"
  | .dct => "dict"
def Ty.isa : Ty → Ty → Bool
  | .bl, .bl => true
  | .bl, .int => true
  | .int, .int => true
  | .str, .str => true
  | .tup, .tup => true
  | .lst, .lst => true
  | .dct, .dct => true
  | .non, .non => true
  | _, _ => false
theorem Ty.kit (t c : Ty) : kitB t.name c.name = some (t.isa c) := by
  cases t <;> cases c <;> decide +kernel
def tyOf (S : Store) : D → Option Ty
  | .non => some .non
  | .bl _ => some .bl
  | .int _ => some .int
  | .str _ => some .str
  | .tup _ => some .tup
  | .ref n => match S[n]? with
    | some (.lst _) => some .lst
    | some (.fro _) => some .lst
    | some .dct => some .dct
    | _ => none
def fIsi (c : Ty) : D → Store → Res D := fun d S => match tyOf S d with
  | some t => .ok (.bl (t.isa c)) S
  | none => .bad
def fIsi2 (c c' : Ty) : D → Store → Res D := fun d S => match tyOf S d with
  | some t => .ok (.bl (t.isa c || t.isa c')) S
  | none => .bad
theorem tyOf_x {K : PySem.W.Frag} {H : Hp} {p : List Addr} {S : Store} {d : D} {v : V} {t : Ty} (R : RSt K H p S) (h : tyOf S d = some t) (r : RV K H p d v) : TyX K H v (.type t.name) := by
  cases d with
  | non => cases h; rw [RV.non_iff] at r; subst r; exact .base .non
  | bl b => cases h; rw [RV.bl_iff] at r; subst r; exact .base (.bl _)
  | int b => cases h; rw [RV.int_iff] at r; subst r; exact .base (.int _)
  | str b => cases h; rw [RV.str_iff] at r; subst r; exact .base (.str _)
  | tup l =>
    cases h
    obtain ⟨a, xs, rfl, h1, _⟩ := RV.tup_iff.mp r
    rcases h1 with (h1 | ⟨o, h1⟩) | ⟨o, its, n, h1, h2, _⟩
    · exact .base (.tup h1)
    · exact .fTuple h1
    · exact .kTuple h1 h2
  | ref n =>
    obtain ⟨a, rfl, e⟩ := RV.ref_iff.mp r
    unfold tyOf at h
    dsimp only at h
    split at h
    · rename_i l hl
      cases h
      obtain ⟨xs, h1, _⟩ := R.cell n _ a hl e
      exact .base (.lst h1)
    · rename_i l hl
      cases h
      obtain ⟨xs, h1 | ⟨o, its, k, h1, h2, _⟩, _⟩ := R.cell n _ a hl e
      · obtain ⟨o, h1⟩ := h1
        exact .base (.frz h1)
      · exact .kList h1 h2
    · rename_i hl
      cases h
      obtain ⟨xs, h1⟩ := R.cell n _ a hl e
      exact .base (.dK h1)
    · cases h
theorem me_isi (c : Ty) {x : Str} {p p2 : Pos} (hm : X.mg "isinstance" = none) (hm2 : X.mg x = none) (hx : bootBuiltins x = some (.type c.name)) (ha : ME X G a sa) (hg : Gl X "isinstance" := by rfl) (hg2 : Gl X x := by rfl) (hn : x ≠ "__name__" := by decide) (hdb : (x == ("__debug__" : Str)) = false := by decide)
    (h1 : starEach [a, .Name x p2] X.env = (false, eval a X.env) :: starEach [.Name x p2] X.env := by rfl) (h2 : starEach [.Name x p2] X.env = (false, eval (.Name x p2) X.env) :: starEach [] X.env := by rfl) (hpl : (backTo pos (starEach [.Name x p2] X.env)).any (·.1) = false := by rfl) :
    ME X G (.Call (.Name "isinstance" p) [a, .Name x p2] [] pos) (s1 (fIsi c) sa) := fun ok =>
  pe_imp (pe_callB call_isi hg hm (by decide +kernel) (pa_cons (ha ok) (pa_cons (pe_bltn (v := .ty c.name) hg2 hm2 hx rfl hn hdb) pa_nil h2) h1) (by decide) (by decide) h1 hpl) fun σ H Q h => by
    obtain ⟨p, env, S, rs, rst, g⟩ := h
    refine one rs rst g fun H1 p1 S1 d x _ rs1 r1 rx g1 => ?_
    unfold fIsi at g1
    split at g1
    · rename_i t ht
      exact ⟨x, .ty c.name, _, _, _, rfl, .ty _, tyOf_x r1 ht rx, kit_ty (Ty.kit t c), g1 H1 p1 .refl r1 _ (RV.bl_iff.mpr rfl)⟩
    · exact g1.elim
abbrev SO := Env → Store → Res (Option Int)
def sNoPart : SO := fun _ S => .ok none S
def sPart (s : SE) : SO := fun env S => (s env S).bind fun d S1 => match d with
  | .int i => .ok (some i) S1
  | _ => .bad
def cutL {α : Type} (xs : List α) (lo hi : Option Int) : List α := (xs.drop (HT.sIx xs.length 0 lo)).take (HT.sIx xs.length xs.length hi - HT.sIx xs.length 0 lo)
def fSl (d : D) (lo hi : Option Int) (S : Store) : Res D := match d with
  | .tup l => .ok (.tup (cutL l lo hi)) S
  | .ref n => match lstOf S n with
    | some l => .ok (.ref S.length) (S ++ [.lst (cutL l lo hi)])
    | none => .bad
  | .str z => if z.length ≤ sizeLine then .ok (.str (cutS z lo hi)) S else .bad
  | _ => .bad
def sSl (s : SE) (lo hi : SO) : SE := fun env S => (s env S).bind fun d S1 => (lo env S1).bind fun l S2 => (hi env S2).bind fun h S3 => fSl d l h S3
def TOo (K : PySem.W.Frag) (G : Gx) (s : SO) : TO := fun σ H Q => ∃ p env S, Rs K H p env σ ∧ RSt K H p S ∧ Good K G σ H p (s env S) fun o _ H' _ => Q o H'
def MO (X : Cx) (G : Gx) (e : Option Expr) (s : SO) : Prop := Cok X G → PO X e (TOo X.K G s)
theorem po_imp {o : Option Expr} {t t' : TO} (h : PO X o t) (hi : ∀ σ H Q, t' σ H Q → t σ H Q) : PO X o t' := ⟨fun pins s σ H Q I q => h.run pins s σ H Q I (hi _ _ _ q)⟩
theorem mo_none : MO X G none sNoPart := fun _ => po_imp po_none fun σ H Q h => by
  obtain ⟨p, env, S, rs, rst, g⟩ := h
  exact g H p .refl rst
theorem mo_some (ha : ME X G a sa) : MO X G (some a) (sPart sa) := fun ok => po_imp (po_some (ha ok)) fun σ H Q h => by
  obtain ⟨p, env, S, rs, rst, g⟩ := h
  refine one rs rst g fun H1 p1 S1 d x _ rs1 r1 rx g1 => ?_
  split at g1
  · rw [RV.int_iff] at rx
    exact ⟨_, rx, g1 H1 p1 .refl r1⟩
  · exact g1.elim
theorem TOo.bind {K : PySem.W.Frag} {A : Type} {so : SO} {f : Option Int → Store → Res A} {σ : L2.St} {H : Hp} {P : A → Store → Hp → List Addr → Prop} {R : Option Int → Hp → Prop} {p : List Addr} {env : Env} {S : Store} (rs : Rs K H p env σ) (rst : RSt K H p S) (g : Good K G σ H p ((so env S).bind f) P)
    (hr : ∀ (H1 : Hp) (p1 : List Addr) (S1 : Store) (o : Option Int), Ext K H H1 p p1 → Rs K H1 p1 env σ → RSt K H1 p1 S1 → Good K G σ H1 p1 (f o S1) P → R o H1) : TOo K G so σ H R :=
  ⟨p, env, S, rs, rst, g.bind.imp fun o S1 H1 p1 e1 r1 g1 => hr H1 p1 S1 o e1 (rs.mono e1) r1 g1⟩
theorem cutV_whole {α : Type} {xs : List α} {lo hi : Option Int} (h : HT.sIx xs.length 0 lo = 0 ∧ HT.sIx xs.length xs.length hi = xs.length) : cutL xs lo hi = xs := by
  unfold cutL
  rw [h.1, h.2]
  simp
theorem RVs.cut {K : PySem.W.Frag} {H : Hp} {p : List Addr} {l : List D} {xs : List V} (h : RVs K H p l xs) (lo hi : Option Int) : RVs K H p (cutL l lo hi) (cutV xs lo hi) := by
  unfold cutL cutV
  rw [h.len]
  exact (h.drop _).take _
theorem me_slice {lo hi : Option Expr} {so1 so2 : SO} {p2 : Pos} (ha : ME X G a sa) (hl : MO X G lo so1) (hh : MO X G hi so2) : ME X G (.Subscript a (.Slice lo hi none p2) pos) (sSl sa so1 so2) := fun ok =>
  pe_imp (pe_slice (sl_tupA.or (sl_list.or sl_str)) (ha ok) (hl ok) (hh ok)) fun σ H Q h => by
    obtain ⟨p, env, S, rs, rst, g⟩ := h
    refine one rs rst g fun H1 p1 S1 d x _ rs1 r1 rx g1 => ?_
    refine TOo.bind rs1 r1 g1 fun H2 p2 S2 o1 e2 rs2 r2 g2 => ?_
    refine TOo.bind rs2 r2 g2 fun H3 p3 S3 o2 e3 rs3 r3 g3 => ?_
    have rx3 := RV.mono (e2.trans e3) _ _ rx
    unfold fSl at g3
    split at g3
    · rename_i l
      obtain ⟨a, xs, rfl, h1, h2⟩ := RV.tup_iff.mp rx3
      refine .inl ⟨a, xs, rfl, h1, fun hw => ?_, fun _ q hq => ?_⟩
      · rw [← h2.len] at hw
        rw [cutV_whole hw] at g3
        exact g3 H3 p3 .refl r3 _ rx3
      · obtain ⟨E, R, r⟩ := r3.newT hq (h2.cut o1 o2)
        exact g3 _ _ E R _ r
    · split at g3
      · rename_i l hl
        obtain ⟨a, xs, rfl, h1, h2⟩ := r3.list hl rx3
        refine .inr (.inl ⟨a, xs, rfl, h1, fun q hq => ?_⟩)
        obtain ⟨E, R, r⟩ := r3.newL hq (h2.cut o1 o2)
        exact g3 _ _ E R _ r
      · exact g3.elim
    · split at g3
      · rename_i hz
        rw [RV.str_iff] at rx3
        exact .inr (.inr ⟨_, rx3, hz, g3 H3 p3 .refl r3 _ (RV.str_iff.mpr rfl)⟩)
      · exact g3.elim
    · exact g3.elim
end
end Rg
namespace Rg
open PySem PySem.Spec PyProof.Rows L2
section
variable {X : Cx} {G : Gx} {e a b c o : Expr} {pos : Pos} {sa sb so : SE} {st su : ST} {es rest : List Expr} {sr : SA}
def isLst (S : Store) : D → Bool
  | .ref n => (lstOf S n).isSome
  | _ => false
def sMethL (f : D → List D → Store → Res D) (so : SE) (sr : SA) : SE := fun env S => (so env S).bind fun d S1 => if isLst S1 d = true then (sr env S1).bind fun ds S2 => f d ds S2 else .bad
def RfM (K : PySem.W.Frag) (r : V → List V → Hp → VK → Prop) (f : D → List D → Store → Res D) : Prop := ∀ (G : Gx) (σ : L2.St) (H : Hp) (p : List Addr) (S : Store) (d : D) (x : V) (ds : List D) (xs : List V) (Q : VK), RSt K H p S → RV K H p d x → RVs K H p ds xs → Good K G σ H p (f d ds S) (PV K Q) → r x xs H Q
theorem isLst_ty {K : PySem.W.Frag} {H : Hp} {p : List Addr} {S : Store} {d : D} {x : V} (R : RSt K H p S) (h : isLst S d = true) (r : RV K H p d x) : tyV K "list" x H := by
  cases d with
  | ref n =>
    have h : (lstOf S n).isSome = true := h
    obtain ⟨l, hl⟩ := Option.isSome_iff_exists.mp h
    obtain ⟨a, xs, rfl, h1, h2⟩ := R.list hl r
    exact .inl ⟨rfl, xs, h1⟩
  | _ => cases h
theorem me_bmL {name : Str} {id : String} {apos : Pos} {r : V → List V → Hp → VK → Prop} {f : D → List D → Store → Res D} (slot : Slot "list" name id) (hty : typeOf (.builtin id) = pure (.type "method_descriptor")) (hm : MtR X id r) (hf : RfM X.K r f) (ho : ME X G o so) (ha : MA X G (e :: es) sr)
    (hbase : attributeBase o name X.env (eval o X.env) = eval o X.env)
    (hfew : ((backTo pos (starEach (e :: es) X.env)).all (fun x => !x.1) && (backToKw pos (keywordEach [] X.env)).all (fun x => x.1.isSome)
      && decide ((e :: es).length + ([] : List Keyword).length + (if ([] : List Keyword).isEmpty then 0 else 1) < 30)) = true)
    (hline : (apos.endLine == pos.line) = true) (hs : starEach (e :: es) X.env = (false, eval e X.env) :: starEach es X.env) (hplain : (backTo pos (starEach es X.env)).any (·.1) = false) :
    ME X G (.Call (.Attribute o name apos) (e :: es) [] pos) (sMethL f so sr) := fun ok =>
  pe_imp (pe_bm PySem.F.plainAttrs_list slot hty hm (ho ok) (ha ok) hbase hfew hline hs hplain) fun σ H Q h => by
    obtain ⟨p, env, S, rs, rst, g⟩ := h
    refine one rs rst g fun H1 p1 S1 d x _ rs1 r1 rx g1 => ?_
    split at g1
    · rename_i hl
      refine ⟨isLst_ty r1 hl rx, TAo.bind rs1 r1 g1 fun H2 p2 S2 ds xs e2 rs2 r2 rxs g2 => ?_⟩
      exact hf G σ H2 p2 S2 d x ds xs Q r2 (RV.mono e2 _ _ rx) rxs g2
    · exact g1.elim
theorem me_bmL0 {name : Str} {id : String} {apos : Pos} {r : V → List V → Hp → VK → Prop} {f : D → List D → Store → Res D} (slot : Slot "list" name id) (hty : typeOf (.builtin id) = pure (.type "method_descriptor")) (hm : MtR X id r) (hf : RfM X.K r f) (ho : ME X G o so)
    (hbase : attributeBase o name X.env (eval o X.env) = eval o X.env) (hline : (apos.endLine == pos.line) = true) :
    ME X G (.Call (.Attribute o name apos) [] [] pos) (sMethL f so sNil) := fun ok =>
  pe_imp (pe_bm0 PySem.F.plainAttrs_list slot hty hm (ho ok) hbase hline) fun σ H Q h => by
    obtain ⟨p, env, S, rs, rst, g⟩ := h
    refine one rs rst g fun H1 p1 S1 d x _ rs1 r1 rx g1 => ?_
    split at g1
    · rename_i hl
      exact ⟨isLst_ty r1 hl rx, hf G σ H1 p1 S1 d x [] [] Q r1 rx RVs.nil g1⟩
    · exact g1.elim
def fAppend : D → List D → Store → Res D := fun d ds S => match d, ds with
  | .ref n, [y] => match S[n]? with
    | some (.lst l) => if l.length < sizeLine then .ok .non (S.set n (.lst (l ++ [y]))) else .bad
    | _ => .bad
  | _, _ => .bad
theorem rm_append {K : PySem.W.Frag} : RfM K rAppend fAppend := by
  intro G σ H p S d x ds xs Q rst rx rxs h
  unfold fAppend at h
  split at h
  · rename_i n y
    split at h
    · rename_i l hl
      split at h
      · rename_i hz
        obtain ⟨a, rfl, e⟩ := RV.ref_iff.mp rx
        obtain ⟨v, rfl, rv⟩ := rxs.one
        obtain ⟨zs, h1, h2⟩ := rst.cell n _ a hl e
        obtain ⟨E, R⟩ := rst.setL hl e (h2.app (RVs.cons rv RVs.nil))
        exact ⟨a, zs, v, rfl, rfl, h1, by rw [← h2.len]; exact hz, h _ _ E R _ (RV.non_iff.mpr rfl)⟩
      · exact h.elim
    · exact h.elim
  · exact h.elim
def fExtend : D → List D → Store → Res D := fun d ds S => match d, ds with
  | .ref n, [.ref m] => match S[n]?, S[m]? with
    | some (.lst l), some (.lst z) => if l.length + z.length ≤ sizeLine then .ok .non (S.set n (.lst (l ++ z))) else .bad
    | _, _ => .bad
  | _, _ => .bad
theorem rm_extend {K : PySem.W.Frag} : RfM K rExtend fExtend := by
  intro G σ H p S d x ds xs Q rst rx rxs h
  unfold fExtend at h
  split at h
  · rename_i n m
    split at h
    · rename_i l z hl hz'
      split at h
      · rename_i hz
        obtain ⟨a, rfl, e⟩ := RV.ref_iff.mp rx
        obtain ⟨v, rfl, rv⟩ := rxs.one
        obtain ⟨b, rfl, e2⟩ := RV.ref_iff.mp rv
        obtain ⟨ys, h1, h2⟩ := rst.cell n _ a hl e
        obtain ⟨zs, h3, h4⟩ := rst.cell m _ b hz' e2
        obtain ⟨E, R⟩ := rst.setL hl e (h2.app h4)
        exact ⟨a, b, ys, zs, rfl, rfl, h1, h3, by rw [← h2.len, ← h4.len]; exact hz, h _ _ E R _ (RV.non_iff.mpr rfl)⟩
      · exact h.elim
    · exact h.elim
  · exact h.elim
def fPop : D → List D → Store → Res D := fun d ds S => match d, ds with
  | .ref n, [] => match S[n]? with
    | some (.lst l) => match l[l.length - 1]? with
      | some y => .ok y (S.set n (.lst l.dropLast))
      | none => .bad
    | _ => .bad
  | _, _ => .bad
theorem RVs.dropLast {K : PySem.W.Frag} {H : Hp} {p : List Addr} {l : List D} {xs : List V} (h : RVs K H p l xs) : RVs K H p l.dropLast xs.dropLast := by
  rw [List.dropLast_eq_take, List.dropLast_eq_take, ← h.len]
  exact h.take _
def fReverse : D → List D → Store → Res D := fun d ds S => match d, ds with
  | .ref n, [] => match S[n]? with
    | some (.lst l) => .ok .non (S.set n (.lst l.reverse))
    | _ => .bad
  | _, _ => .bad
theorem rm_reverse {K : PySem.W.Frag} : RfM K rReverse fReverse := by
  intro G σ H p S d x ds xs Q rst rx rxs h
  unfold fReverse at h
  split at h
  · rename_i n
    split at h
    · rename_i l hl
      obtain ⟨a, rfl, e⟩ := RV.ref_iff.mp rx
      have q := RVs.nil_iff.mp rxs
      subst q
      obtain ⟨zs, h1, h2⟩ := rst.cell n _ a hl e
      obtain ⟨E, R⟩ := rst.setL hl e h2.rev
      exact ⟨a, zs, rfl, rfl, h1, h _ _ E R _ (RV.non_iff.mpr rfl)⟩
    · exact h.elim
  · exact h.elim
theorem me_append {apos : Pos} (ho : ME X G o so) (ha : MA X G (e :: es) sr)
    (hbase : attributeBase o "append" X.env (eval o X.env) = eval o X.env := by rfl)
    (hfew : ((backTo pos (starEach (e :: es) X.env)).all (fun x => !x.1) && (backToKw pos (keywordEach [] X.env)).all (fun x => x.1.isSome)
      && decide ((e :: es).length + ([] : List Keyword).length + (if ([] : List Keyword).isEmpty then 0 else 1) < 30)) = true := by rfl)
    (hline : (apos.endLine == pos.line) = true := by rfl) (hs : starEach (e :: es) X.env = (false, eval e X.env) :: starEach es X.env := by rfl) (hplain : (backTo pos (starEach es X.env)).any (·.1) = false := by rfl) :
    ME X G (.Call (.Attribute o "append" apos) (e :: es) [] pos) (sMethL fAppend so sr) := me_bmL PySem.F.slot_list_append PySem.F.type_list_append mt_append rm_append ho ha hbase hfew hline hs hplain
theorem me_extend {apos : Pos} (ho : ME X G o so) (ha : MA X G (e :: es) sr)
    (hbase : attributeBase o "extend" X.env (eval o X.env) = eval o X.env := by rfl)
    (hfew : ((backTo pos (starEach (e :: es) X.env)).all (fun x => !x.1) && (backToKw pos (keywordEach [] X.env)).all (fun x => x.1.isSome)
      && decide ((e :: es).length + ([] : List Keyword).length + (if ([] : List Keyword).isEmpty then 0 else 1) < 30)) = true := by rfl)
    (hline : (apos.endLine == pos.line) = true := by rfl) (hs : starEach (e :: es) X.env = (false, eval e X.env) :: starEach es X.env := by rfl) (hplain : (backTo pos (starEach es X.env)).any (·.1) = false := by rfl) :
    ME X G (.Call (.Attribute o "extend" apos) (e :: es) [] pos) (sMethL fExtend so sr) := me_bmL PySem.F.slot_list_extend PySem.F.type_list_extend mt_extend rm_extend ho ha hbase hfew hline hs hplain
theorem me_reverse {apos : Pos} (ho : ME X G o so) (hbase : attributeBase o "reverse" X.env (eval o X.env) = eval o X.env := by rfl) (hline : (apos.endLine == pos.line) = true := by rfl) :
    ME X G (.Call (.Attribute o "reverse" apos) [] [] pos) (sMethL fReverse so sNil) := me_bmL0 PySem.F.slot_list_reverse PySem.F.type_list_reverse mt_reverse rm_reverse ho hbase hline
def fBits : D → Store → Res D := fun d S => match d with
  | .int i => .ok (.int (Builtin.Int.intBits i : Nat)) S
  | _ => .bad
theorem me_bits {apos : Pos} (ho : ME X G o so) (hbase : attributeBase o "bit_length" X.env (eval o X.env) = eval o X.env := by rfl) (hline : (apos.endLine == pos.line) = true := by rfl) :
    ME X G (.Call (.Attribute o "bit_length" apos) [] [] pos) (s1 fBits so) := fun ok =>
  pe_imp (pe_bits (ho ok) hbase hline) fun σ H Q h => by
    obtain ⟨p, env, S, rs, rst, g⟩ := h
    refine one rs rst g fun H1 p1 S1 d x _ rs1 r1 rx g1 => ?_
    cases d with
    | int i =>
      rw [RV.int_iff] at rx
      exact ⟨i, rx, g1 H1 p1 .refl r1 _ (RV.int_iff.mpr rfl)⟩
    | _ => exact g1.elim
def fRevL : D → Store → Res D := fun d S => match d with
  | .ref n => match lstOf S n with
    | some l => .ok (.ref S.length) (S ++ [.lst l.reverse])
    | none => .bad
  | _ => .bad
def fIn (neg : Bool) : D → D → Store → Res D := fun d e S => match toP S 60 d, toP S 60 e with
  | some x, some (.list ds) => .ok (.bl (if neg then !ds.any fun z => PyData.eqv z x else ds.any fun z => PyData.eqv z x)) S
  | _, _ => .bad
theorem rf_notin {K : PySem.W.Frag} : RfO K (rNotInD K) (fIn true) := by
  intro G σ H p S d e x y Q rst rx ry h
  unfold fIn at h
  split at h
  · rename_i a ds h1 h2
    exact ⟨a, ds, toP_dp rst 60 d a x h1 rx, toP_dp rst 60 e _ y h2 ry, toP_shaped h1, toP_shaped h2, h H p .refl rst _ (RV.bl_iff.mpr rfl)⟩
  · exact h.elim
theorem room65 {k : Nat} {A : Around} (hr : Room (k + 1) A) : A.units + 65 < cLine := by
  have := hr.un
  omega
theorem mt_notin {k : Nat} (hr : Room (k + 1) X.A) (ha : ME X G a sa) (hb : ME X G b sb) (hm : behindInMarks .NotIn b = false := by rfl) : MT X G (.Compare a [.NotIn] [b] pos) (sT (s2 (fIn true) sa sb)) := mt_cmp (op_notInD (room65 hr)) rf_notin ha hb hm
end
inductive ResS where
  | nx (e : Env) (S : Store) | rt (d : D) (S : Store) | bk (e : Env) (S : Store) | ct (e : Env) (S : Store) | exc (c : Str) (e : Env) (S : Store) | bad
abbrev SS := Env → Store → ResS
def GoodS (K : PySem.W.Frag) (G : Gx) (H : Hp) (p : List Addr) (r : ResS) (E : Ends) : Prop := match r with
  | .nx e S' => ∀ σ' H' p', Ext K H H' p p' → Rs K H' p' e σ' → RSt K H' p' S' → E.nx σ' H'
  | .bk e S' => ∀ σ' H' p', Ext K H H' p p' → Rs K H' p' e σ' → RSt K H' p' S' → E.bk σ' H'
  | .ct e S' => ∀ σ' H' p', Ext K H H' p p' → Rs K H' p' e σ' → RSt K H' p' S' → E.ct σ' H'
  | .rt d S' => ∀ v H' p', Ext K H H' p p' → RSt K H' p' S' → RV K H' p' d v → E.rt v H'
  | .exc c e S' => ∀ σ' H' p', Ext K H H' p p' → Rs K H' p' e σ' → RSt K H' p' S' → G.W (G.xv c) none σ' H'
  | .bad => False
def TSo (K : PySem.W.Frag) (G : Gx) (s : SS) : TS := fun E σ H => ∃ p env S, Rs K H p env σ ∧ RSt K H p S ∧ GoodS K G H p (s env S) E
def MS (X : Cx) (G : Gx) (st : Stmt) (s : SS) : Prop := Cok X G → PS X st (TSo X.K G s)
def MSs (X : Cx) (G : Gx) (st : List Stmt) (s : SS) : Prop := Cok X G → PSs X st (TSo X.K G s)
theorem ps_imp {X : Cx} {st : Stmt} {t t' : TS} (h : PS X st t) (hi : ∀ E σ H, t' E σ H → t E σ H) : PS X st t' := ⟨fun pins s σ H E I q => h.run pins s σ H E I (hi _ _ _ q)⟩
theorem pss_imp {X : Cx} {st : List Stmt} {t t' : TS} (h : PSs X st t) (hi : ∀ E σ H, t' E σ H → t E σ H) : PSs X st t' := ⟨fun pins s σ H E I q => h.run pins s σ H E I (hi _ _ _ q)⟩
theorem GoodS.at {K : PySem.W.Frag} {G : Gx} {H H1 : Hp} {p p1 : List Addr} {r : ResS} {E : Ends} (e : Ext K H H1 p p1) (h : GoodS K G H p r E) : GoodS K G H1 p1 r E := by
  cases r with
  | nx a S => exact fun σ' H' p' x => h σ' H' p' (e.trans x)
  | bk a S => exact fun σ' H' p' x => h σ' H' p' (e.trans x)
  | ct a S => exact fun σ' H' p' x => h σ' H' p' (e.trans x)
  | rt a S => exact fun σ' H' p' x => h σ' H' p' (e.trans x)
  | exc c a S => exact fun σ' H' p' x => h σ' H' p' (e.trans x)
  | bad => exact h
def Res.andS {A : Type} (r : Res A) (env : Env) (f : A → Store → ResS) : ResS := match r with
  | .ok a S => f a S
  | .exc c S => .exc c env S
  | .bad => .bad
@[simp] theorem andS_ok {A : Type} (a : A) (S : Store) (env : Env) (f : A → Store → ResS) : (Res.ok a S).andS env f = f a S := rfl
@[simp] theorem andS_exc {A : Type} (c : Str) (S : Store) (env : Env) (f : A → Store → ResS) : (Res.exc c S).andS env f = .exc c env S := rfl
@[simp] theorem andS_bad {A : Type} (env : Env) (f : A → Store → ResS) : (Res.bad).andS env f = .bad := rfl
theorem GoodS.and {K : PySem.W.Frag} {G : Gx} {A : Type} {r : Res A} {env : Env} {f : A → Store → ResS} {σ : L2.St} {H : Hp} {p : List Addr} {E : Ends} (rs : Rs K H p env σ) (h : GoodS K G H p (r.andS env f) E) :
    Good K G σ H p r fun a S1 H1 p1 => Rs K H1 p1 env σ ∧ RSt K H1 p1 S1 ∧ GoodS K G H1 p1 (f a S1) E := by
  cases r with
  | ok a S => exact fun H' p' x q => ⟨rs.mono x, q, h.at x⟩
  | exc c S => exact fun H' p' x q => h σ H' p' x (rs.mono x) q
  | bad => exact h
section
variable {X : Cx} {G : Gx} {e a b c o : Expr} {pos : Pos} {sa sb so : SE} {st su : ST} {es : List Expr} {sr : SA} {s t : SS} {x : Stmt} {rest xs ys : List Stmt}
def sSkip : SS := fun env S => .nx env S
def sSeq (s t : SS) : SS := fun env S => match s env S with
  | .nx e S1 => t e S1
  | r => r
theorem mss_nil : MSs X G [] sSkip := fun _ => pss_imp pss_nil fun E σ H h => by
  obtain ⟨p, env, S, rs, rst, g⟩ := h
  exact g σ H p .refl rs rst
theorem seq_of {K : PySem.W.Frag} {E : Ends} {σ : L2.St} {H : Hp} (h : TSo K G (sSeq s t) E σ H) : TSo K G s { E with nx := TSo K G t E } σ H := by
  obtain ⟨p, env, S, rs, rst, g⟩ := h
  refine ⟨p, env, S, rs, rst, ?_⟩
  unfold sSeq at g
  cases hs : s env S with
  | nx e1 S1 =>
    rw [hs] at g
    exact fun σ' H' p' x rs' rst' => ⟨p', e1, S1, rs', rst', g.at x⟩
  | bk e1 S1 => rw [hs] at g; exact g
  | ct e1 S1 => rw [hs] at g; exact g
  | rt e1 S1 => rw [hs] at g; exact g
  | exc c e1 S1 => rw [hs] at g; exact g
  | bad => rw [hs] at g; exact g
theorem mss_cons (h1 : MS X G x s) (h2 : MSs X G rest t) : MSs X G (x :: rest) (sSeq s t) := fun ok => pss_imp (pss_cons (h1 ok) (h2 ok)) fun E σ H h => seq_of h
theorem mss_one (h1 : MS X G x s) : MSs X G [x] s := fun ok => pss_one (h1 ok)
def sBreak : SS := fun env S => .bk env S
def sCont : SS := fun env S => .ct env S
def sNever : SS := fun _ _ => .bad
theorem ms_never : MS X G x sNever := fun _ => ps_imp ps_never fun E σ H h => by
  obtain ⟨p, env, S, rs, rst, g⟩ := h
  exact g.elim
def sDrop (s : SE) : SS := fun env S => (s env S).andS env fun _ S1 => .nx env S1
theorem ms_expr (he : ME X G e sa) (hs : swapsWith e none pos.line X.env = pure false := by rfl) : MS X G (.Expr e pos) (sDrop sa) := fun ok => ps_imp (ps_expr (he ok) hs) fun E σ H h => by
  obtain ⟨p, env, S, rs, rst, g⟩ := h
  exact ⟨p, env, S, rs, rst, (g.and rs).imp fun d S1 H1 p1 e1 r1 g1 v rv => g1.2.2 σ H1 p1 .refl g1.1 g1.2.1⟩
def sRet (s : SE) : SS := fun env S => (s env S).andS env fun d S1 => .rt d S1
theorem ms_ret (he : ME X G e sa) : MS X G (.Return (some e) pos) (sRet sa) := fun ok => ps_imp (ps_ret (he ok)) fun E σ H h => by
  obtain ⟨p, env, S, rs, rst, g⟩ := h
  exact ⟨p, env, S, rs, rst, (g.and rs).imp fun d S1 H1 p1 e1 r1 g1 v rv => g1.2.2 v H1 p1 .refl g1.2.1 rv⟩
def sRetN : SS := fun _ S => .rt .non S
def sIfS (c : ST) (s t : SS) : SS := fun env S => (c env S).andS env fun b S1 => if b = true then s env S1 else t env S1
theorem ms_if (hc : MT X G c st) (ha : MSs X G xs s) (hb : MSs X G ys t) : MS X G (.If c xs ys pos) (sIfS st s t) := fun ok => ps_imp (ps_if (hc ok) (ha ok) (hb ok)) fun E σ H h => by
  obtain ⟨p, env, S, rs, rst, g⟩ := h
  refine ⟨p, env, S, rs, rst, (g.and rs).imp fun b S1 H1 p1 e1 r1 g1 => ?_⟩
  obtain ⟨q1, q2, q3⟩ := g1
  cases b with
  | true => exact ⟨p1, env, S1, q1, q2, q3⟩
  | false => exact ⟨p1, env, S1, q1, q2, q3⟩
abbrev SG := D → Env → Store → Option Env
def TgOk (K : PySem.W.Frag) (vs : List Nat) (g : TG) (sg : SG) : Prop := ∀ (σ : L2.St) (H : Hp) (p : List Addr) (env env' : Env) (S : Store) (d : D) (v : V) (Q : L2.St → Hp → Prop), Rs K H p env σ → RSt K H p S → RV K H p d v → sg d env S = some env' →
  (∀ σ', Rs K H p env' σ' → (∀ ws : List Nat, (∀ i ∈ vs, i ∈ ws) → wipe σ' ws = wipe σ ws) → Q σ' H) → g v σ H Q
def TgsOk (K : PySem.W.Frag) (vs : List Nat) (g : TGs) (sg : List D → Env → Store → Option Env) : Prop := ∀ (σ : L2.St) (H : Hp) (p : List Addr) (env env' : Env) (S : Store) (ds : List D) (xs : List V) (Q : L2.St → Hp → Prop), Rs K H p env σ → RSt K H p S → RVs K H p ds xs → sg ds env S = some env' →
  (∀ σ', Rs K H p env' σ' → (∀ ws : List Nat, (∀ i ∈ vs, i ∈ ws) → wipe σ' ws = wipe σ ws) → Q σ' H) → g xs σ H Q
def gN (i : Nat) : SG := fun d env _ => some (env.set i (some d))
def gsNil : List D → Env → Store → Option Env := fun ds env _ => match ds with
  | [] => some env
  | _ => none
def gsCons (g : SG) (r : List D → Env → Store → Option Env) : List D → Env → Store → Option Env := fun ds env S => match ds with
  | d :: l => (g d env S).bind fun e => r l e S
  | [] => none
def gT (n : Nat) (r : List D → Env → Store → Option Env) : SG := fun d env S => match d with
  | .tup l => if l.length = n then r l env S else none
  | _ => none
theorem wipe_set {σ : L2.St} {i : Nat} {o : Option V} : ∀ {ws : List Nat}, i ∈ ws → wipe (σ.set i o) ws = wipe σ ws
  | [], h => by cases h
  | w :: ws, h => by
    unfold wipe
    by_cases hi : i ∈ ws
    · rw [wipe_set hi]
    · have e : i = w := (List.mem_cons.mp h).resolve_right hi
      subst e
      have k : ∀ (l : List Nat), i ∉ l → ∀ τ : L2.St, wipe (τ.set i o) l = (wipe τ l).set i o := by
        intro l
        induction l with
        | nil => intro _ _; rfl
        | cons w l ih =>
          intro hn τ
          unfold wipe
          rw [ih (fun z => hn (List.mem_cons_of_mem _ z)), List.set_comm _ _ (fun z => hn (by simp [z]))]
      rw [k ws hi, List.set_set]
theorem tg_name (K : PySem.W.Frag) (i : Nat) : TgOk K [i] (gName i) (gN i) := by
  intro σ H p env env' S d v Q rs rst r e k
  cases e
  exact k _ (rs.set i r) fun ws hw => wipe_set (hw i (by simp))
theorem tgs_nil (K : PySem.W.Frag) : TgsOk K [] gNil gsNil := by
  intro σ H p env env' S ds xs Q rs rst r e k
  unfold gsNil at e
  split at e
  · cases e
    exact ⟨RVs.nil_iff.mp r, k σ rs fun _ _ => rfl⟩
  · cases e
theorem tgs_cons {K : PySem.W.Frag} {vs ws : List Nat} {g : TG} {gr : TGs} {sg : SG} {sgr : List D → Env → Store → Option Env} (h1 : TgOk K vs g sg) (h2 : TgsOk K ws gr sgr) : TgsOk K (vs ++ ws) (gCons g gr) (gsCons sg sgr) := by
  intro σ H p env env' S ds xs Q rs rst r e k
  unfold gsCons at e
  split at e
  · rename_i d l
    obtain ⟨x, xs', rfl, r1, r2⟩ := RVs.cons_iff.mp r
    cases he : sg d env S with
    | none => rw [he] at e; cases e
    | some env1 =>
      rw [he] at e
      refine ⟨x, xs', rfl, h1 σ H p env env1 S d x _ rs rst r1 he fun σ1 rs1 w1 => ?_⟩
      exact h2 σ1 H p env1 env' S l xs' Q rs1 rst r2 e fun σ2 rs2 w2 => k σ2 rs2 fun us hu => (w2 us fun i hi => hu i (List.mem_append_right _ hi)).trans (w1 us fun i hi => hu i (List.mem_append_left _ hi))
  · cases e
theorem tg_tup {K : PySem.W.Frag} {vs : List Nat} {n : Nat} {g : TGs} {sg : List D → Env → Store → Option Env} (h : TgsOk K vs g sg) : TgOk K vs (gTup K n g) (gT n sg) := by
  intro σ H p env env' S d v Q rs rst r e k
  unfold gT at e
  split at e
  · split at e
    · rename_i l hl
      obtain ⟨a, xs, rfl, h1, h2⟩ := RV.tup_iff.mp r
      exact ⟨a, xs, rfl, h1, by rw [← h2.len]; exact hl, h σ H p env env' S l xs Q rs rst h2 e k⟩
    · cases e
  · cases e
def sAsg (s : SE) (g : SG) : SS := fun env S => (s env S).andS env fun d S1 => match g d env S1 with
  | some e => .nx e S1
  | none => .bad
def sSet (i : Nat) (s : SE) : SS := fun env S => (s env S).andS env fun d S1 => .nx (env.set i (some d)) S1
theorem ms_set {i : Nat} {x : Str} {pos' : Pos} (hN : X.N.Nodup) (he : ME X G e sa) (hi : X.N[i]? = some x := by rfl) (hx : Loc X.env.scope x := by first | exact Or.inl rfl | exact Or.inr rfl) (hs : swapsWith e (some (.Name x pos')) pos.line X.env = pure false := by rfl) (hf : X.fn x = true ∨ X.env.scope.names.lookup x = some .local := by first | exact .inl rfl | exact .inr rfl) :
    MS X G (.Assign [.Name x pos'] e pos) (sSet i sa) := fun ok => ps_imp (ps_set hN hi hx (he ok) hs hf) fun E σ H h => by
  obtain ⟨p, env, S, rs, rst, g⟩ := h
  exact ⟨p, env, S, rs, rst, (g.and rs).imp fun d S1 H1 p1 e1 r1 g1 v rv => g1.2.2 _ H1 p1 .refl (g1.1.set i rv) g1.2.1⟩
def sPar (i j : Nat) (s : SA) : SS := fun env S => (s env S).andS env fun ds S1 => match ds with
  | [d, e] => .nx ((env.set i (some d)).set j (some e)) S1
  | _ => .bad
theorem ms_par {i j : Nat} {x y : Str} {px py pt : Pos} {kt k2 pt2} (hN : X.N.Nodup) (ha : MA X G [a, b] sr) (hi : X.N[i]? = some x := by rfl) (hj : X.N[j]? = some y := by rfl) (hij : i ≠ j := by decide)
    (hx : X.env.scope.names.lookup x = some .local := by rfl) (hy : X.env.scope.names.lookup y = some .local := by rfl)
    (hw : swappedStores [.Tuple [.Name x px, .Name y py] kt pt] (.Tuple [a, b] k2 pt2) X.env = pure (some [x, y]) := by rfl) (hc : X.calm = true := by rfl)
    (hs : swapsWithSole [.Tuple [.Name x px, .Name y py] kt pt] (.Tuple [a, b] k2 pt2) pos.line X.env = pure false := by rfl) :
    MS X G (.Assign [.Tuple [.Name x px, .Name y py] kt pt] (.Tuple [a, b] k2 pt2) pos) (sPar i j sr) := fun ok => ps_imp (ps_par hc hN hi hj hij hx hy (ha ok) hw hs) fun E σ H h => by
  obtain ⟨p, env, S, rs, rst, g⟩ := h
  refine ⟨p, env, S, rs, rst, (g.and rs).imp fun ds S1 H1 p1 e1 r1 g1 xs rx => ?_⟩
  obtain ⟨q1, q2, q3⟩ := g1
  split at q3
  · obtain ⟨v, w, rfl, rv, rw'⟩ := rx.two
    exact ⟨v, w, rfl, q3 _ H1 p1 .refl ((q1.set i rv).set j rw') q2⟩
  · exact q3.elim
def sPar3 (i j l : Nat) (s : SA) : SS := fun env S => (s env S).andS env fun ds S1 => match ds with
  | [d, e, f] => .nx (((env.set i (some d)).set j (some e)).set l (some f)) S1
  | _ => .bad
def sSetIx (se so si : SE) : SS := fun env S => (se env S).andS env fun d S1 => (so env S1).andS env fun o S2 => (si env S2).andS env fun i S3 => match o, i with
  | .ref n, .int k => match S3[n]? with
    | some (.lst l) => match ixN l.length k with
      | some j => .nx env (S3.set n (.lst (l.set j d)))
      | none => .bad
    | _ => .bad
  | _, _ => .bad
theorem ms_setIx {i : Expr} {si : SE} {tpos : Pos} (he : ME X G e sa) (ho : ME X G o so) (hi : ME X G i si) (hp : ∀ v, assign (.Subscript o i tpos) X.env v = (do
      let ov ← holding [v] (eval o X.env)
      let iv ← holding [v, ov] (eval i X.env)
      standAt tpos
      holding [v, ov, iv] (setItem ov iv v)
      release [v, ov, iv] []) := by intro _; rfl) (hs : swapsWithSole [.Subscript o i tpos] e pos.line X.env = pure false := by rfl) (hw : swappedStores [.Subscript o i tpos] e X.env = pure none := by rfl)
    (h1 : (assignEach [.Subscript o i tpos] X.env).map (·.2) = [assign (.Subscript o i tpos) X.env] := by rfl) : MS X G (.Assign [.Subscript o i tpos] e pos) (sSetIx sa so si) := fun ok => ps_imp (ps_asg (he ok) (pg_sub (ho ok) (hi ok) set_list hp) hs hw h1) fun E σ H h => by
  obtain ⟨p, env, S, rs, rst, g⟩ := h
  refine ⟨p, env, S, rs, rst, (g.and rs).imp fun d S1 H1 p1 e1 r1 g1 v rv => ?_⟩
  obtain ⟨q1, q2, q3⟩ := g1
  refine ⟨p1, env, S1, q1, q2, (q3.and q1).imp fun od S2 H2 p2 e2 r2 g2 ov rov => ?_⟩
  obtain ⟨q4, q5, q6⟩ := g2
  refine ⟨p2, env, S2, q4, q5, (q6.and q4).imp fun id S3 H3 p3 e3 r3 g3 iv riv => ?_⟩
  obtain ⟨q7, q8, q9⟩ := g3
  split at q9
  · rename_i n k
    split at q9
    · rename_i l hl
      split at q9
      · rename_i j hj
        have ro := RV.mono e3 _ _ rov
        have rd := RV.mono (e2.trans e3) _ _ rv
        obtain ⟨a, rfl, ea⟩ := RV.ref_iff.mp ro
        rw [RV.int_iff] at riv
        obtain ⟨xs, x1, x2⟩ := q8.cell n _ a hl ea
        obtain ⟨E', R'⟩ := q8.setL hl ea (x2.set j rd)
        exact ⟨a, xs, k, j, rfl, riv, x1, by rw [← x2.len]; exact hj, q9 σ _ p3 E' (q7.mono E') R'⟩
      · exact q9.elim
    · exact q9.elim
  · exact q9.elim
end
end Rg
namespace Rg
open PySem PySem.Spec PyProof.Rows L2
def IteU (K : PySem.W.Frag) (a : Addr) : It :=
  ⟨fun i H => ∃ (xs : List V) (x : V), SqT K H a xs ∧ xs[i]? = some x, fun i H v H' => ∃ T x, v = .ref T ∧ H T = none ∧ H' = upd H T (.tup [.int (i : Nat), x]) ∧ ∀ xs, SqT K H a xs → xs[i]? = some x, fun i H => ∃ xs : List V, SqT K H a xs ∧ xs.length = i⟩
def ItzU (K : PySem.W.Frag) (a b : Addr) : It :=
  ⟨fun i H => ∃ (xs ys : List V) (x y : V), SqT K H a xs ∧ SqL K H b ys ∧ xs[i]? = some x ∧ ys[i]? = some y,
    fun i H v H' => ∃ T x y, v = .ref T ∧ H T = none ∧ H' = upd H T (.tup [x, y]) ∧ (∀ xs, SqT K H a xs → xs[i]? = some x) ∧ ∀ ys, SqL K H b ys → ys[i]? = some y,
    fun i H => ∃ xs ys : List V, SqT K H a xs ∧ SqL K H b ys ∧ min xs.length ys.length = i⟩
theorem turn_enumU {P : Program} {w : World} {K : PySem.W.Frag} {elts : List Expr} {kk : Nat} {tpos : Pos} (a e it : Addr) (hei : e ≠ it) (hea : e ≠ a) (hai : a ≠ it) :
    Turn P w K (.Tuple elts kk tpos) (IteU K a) [e, it] e (fun i h => (∃ old, IsEnum h e it ((i : Nat) : Int) old) ∧ h.IsTupleIter it a i) where
  mem := by simp
  obj := fun i h st b hb => by
    obtain ⟨⟨old, he⟩, ⟨o, ho, hc, hd⟩⟩ := st
    rcases List.mem_cons.mp hb with z | z
    · rw [z]; exact ⟨_, he, fun v q => nomatch q⟩
    · rw [List.mem_singleton.mp z]; exact ⟨o, ho, fun v q => by rw [hd] at q; cases q⟩
  keep := fun i h h' st k => ⟨st.1.imp fun old he => k e (by simp) _ he, st.2.at fun o q => k it (by simp) o q⟩
  item := by
    intro X hP hw hK hc i pins s σ H E I hf st hg
    subst hP hw hK
    obtain ⟨⟨old, he⟩, hit⟩ := st
    obtain ⟨xs, x, hq, hx⟩ := hg
    obtain ⟨its, rv, p, hz⟩ := I.tuple hq
    obtain ⟨u, hu, ru⟩ := rv.get hx
    have hu' : its.toArray[i]? = some u := by simpa using hu
    have hi : i < its.toArray.size := (Array.getElem?_eq_some_iff.mp hu').1
    have W := WalksT.enumFrom (prog := X.prog) (w := X.w) (A := X.A) 0 (Draws.tuple (A := X.A.in1) (I.ok.hd hc) it a hai its.toArray) e hei (by simp [hei, hea]) (by simp)
    have z0 : (0 : Int) + (i : Int) = ((i : Nat) : Int) := by omega
    have z1 : (0 : Int) + ((i + 1 : Nat) : Int) = ((i + 1 : Nat) : Int) := by omega
    refine W.item i s _ _ hi ⟨⟨old, by rw [z0]; exact he⟩, hit, p⟩ fun T vals h' tk hP hT htup hmid hk => ?_
    obtain ⟨t, y, hy, rfl⟩ := hP
    rw [hu'] at hy
    cases hy
    refine ⟨_, rfl, W.go elts kk tpos i T { s with heap := h', toks := tk } _ _ hmid fun h'' hst hk2 => ?_⟩
    have hTw := W.apart i T h' hmid
    obtain ⟨⟨old', he'⟩, hit', _⟩ := hst
    rw [z1] at he'
    obtain ⟨o, ho, hoc, nn, hod⟩ := htup
    have new : ObjOk X.prog X.w (upd H T (.tup [.int (i : Nat), x])) h'' T (.tup [.int (i : Nat), x]) :=
      ⟨by show 2 ≤ sizeLine; decide, [.int (0 + (i : Int)) t, u], .cons ⟨t, by rw [z0]⟩ (.cons ru .nil), ⟨o, hk2 T o hTw ho, hoc, nn, hod⟩⟩
    have I1 : Inv X pins σ (upd H T (.tup [.int (i : Nat), x])) { s with heap := h'', toks := tk } :=
      I.turnedNew (t' := tk) (ch := [e, it]) (fun b ob hb q => hk2 b ob hb (hk b ob hb q)) hf hT new
    refine ⟨.ref T, _, I1, rfl, ⟨T, x, rfl, I.hok.fresh hT, rfl, fun ys hy => by rw [I.tuple_inj hy hq]; exact hx⟩, ⟨⟨old', he'⟩, hit'⟩, fun b hb => ?_⟩
    have hne : b ≠ T := fun z => hTw (z ▸ hb)
    rw [upd_ne hne]
    exact (hf b hb).1
  done := by
    intro X hP hw hK hc i pins s σ H E I hf st hg
    subst hP hw hK
    obtain ⟨⟨old, he⟩, hit⟩ := st
    obtain ⟨xs, hq, hx⟩ := hg
    obtain ⟨its, rv, p, hz⟩ := I.tuple hq
    have hl := rv.length
    have hn : i = its.toArray.size := by rw [List.size_toArray]; omega
    subst hn
    have W := WalksT.enumFrom (prog := X.prog) (w := X.w) (A := X.A) 0 (Draws.tuple (A := X.A.in1) (I.ok.hd hc) it a hai its.toArray) e hei (by simp [hei, hea]) (by simp)
    have z0 : (0 : Int) + (its.toArray.size : Int) = ((its.toArray.size : Nat) : Int) := by omega
    exact W.done s _ _ ⟨⟨old, by rw [z0]; exact he⟩, hit, p⟩ fun h' tk hk => ⟨rfl, I.turnedL (t' := tk) (ch := [e, it]) hk hf⟩
  self := fun A i s Q E st h => by
    obtain ⟨⟨old, he⟩, _⟩ := st
    exact wpAny_pyIter_enum he h
theorem turn_zipU {P : Program} {w : World} {K : PySem.W.Frag} {elts : List Expr} {kk : Nat} {tpos : Pos} {a b z TI TO i1 i2 : Addr} (S : ZipSep2 z TI TO i1 i2 [i1, a] [i2, b]) (ha : a ≠ i1) (hb : b ≠ i2) :
    Turn P w K (.Tuple elts kk tpos) (ItzU K a b) [z, TI, TO, i1, i2] z (fun i h => IsZip h z TI TO .none ∧ IsTupOf2 h TI (.ref i1) (.ref i2) ∧ (∃ x y, IsTupOf2 h TO x y) ∧ h.IsTupleIter i1 a i ∧ h.IsListIter i2 b i) where
  mem := by simp
  obj := fun i h st c hc => by
    obtain ⟨hz, hTI, ⟨x, y, hTO⟩, ⟨o1, e1, _, d1⟩, ⟨o2, e2, _, d2⟩⟩ := st
    have e' : c = z ∨ c = TI ∨ c = TO ∨ c = i1 ∨ c = i2 := by simpa using hc
    rcases e' with rfl | rfl | rfl | rfl | rfl
    · exact ⟨_, hz, fun v q => nomatch q⟩
    · exact ⟨_, hTI, fun v q => nomatch q⟩
    · exact ⟨_, hTO, fun v q => nomatch q⟩
    · exact ⟨o1, e1, fun v q => by rw [d1] at q; cases q⟩
    · exact ⟨o2, e2, fun v q => by rw [d2] at q; cases q⟩
  keep := fun i h h' st k => by
    obtain ⟨hz, hTI, ⟨x, y, hTO⟩, h1, h2⟩ := st
    exact ⟨k z (by simp) _ hz, k TI (by simp) _ hTI, ⟨x, y, k TO (by simp) _ hTO⟩, h1.at fun o q => k i1 (by simp) o q, h2.at fun o q => k i2 (by simp) o q⟩
  item := by
    intro X hP hw hK hc i pins s σ H E I hf st hg
    subst hP hw hK
    obtain ⟨hz, hTI, hTO, h1, h2⟩ := st
    obtain ⟨xs, ys, x, y, hqx, hqy, hx, hy⟩ := hg
    obtain ⟨its, rv, p, _⟩ := I.tuple hqx
    obtain ⟨its2, rv2, p2, _⟩ := I.list hqy
    obtain ⟨u, hu, ru⟩ := rv.get hx
    obtain ⟨u2, hu2, ru2⟩ := rv2.get hy
    have hu' : its.toArray[i]? = some u := by simpa using hu
    have hu2' : its2.toArray[i]? = some u2 := by simpa using hu2
    have hi1 : i < its.toArray.size := (Array.getElem?_eq_some_iff.mp hu').1
    have hi2 : i < its2.toArray.size := (Array.getElem?_eq_some_iff.mp hu2').1
    have W := WalksT.zipD2 (prog := X.prog) (w := X.w) (A := X.A) S (Draws.tuple (A := X.A.in1) (I.ok.hd hc) i1 a ha its.toArray) (Draws.list (A := X.A.in1) (I.ok.hd hc) i2 b hb its2.toArray)
    refine W.item i s _ _ (by omega) ⟨hz, hTI, hTO, ⟨h1, p⟩, h2, p2.isList⟩ fun T vals h' tk hP hT htup hmid hk => ?_
    obtain ⟨v1, v2, e1, e2, rfl⟩ := hP
    rw [hu'] at e1
    rw [hu2'] at e2
    cases e1
    cases e2
    refine ⟨_, rfl, W.go elts kk tpos i T { s with heap := h', toks := tk } _ _ hmid fun h'' hst hk2 => ?_⟩
    have hTw := W.apart i T h' hmid
    obtain ⟨hz', hTI', hTO', ⟨h1', _⟩, h2', _⟩ := hst
    obtain ⟨o, ho, hoc, nn, hod⟩ := htup
    have new : ObjOk X.prog X.w (upd H T (.tup [x, y])) h'' T (.tup [x, y]) :=
      ⟨by show 2 ≤ sizeLine; decide, [u, u2], .cons ru (.cons ru2 .nil), ⟨o, hk2 T o hTw ho, hoc, nn, hod⟩⟩
    have sub : ∀ c, c ∉ [z, TI, TO, i1, i2] → c ∉ [z, TO, i1, i2] := fun c hc hm => hc (by simp at hm ⊢; rcases hm with h | h | h | h <;> simp [h])
    have I1 : Inv X pins σ (upd H T (.tup [x, y])) { s with heap := h'', toks := tk } :=
      I.turnedNew (t' := tk) (ch := [z, TI, TO, i1, i2]) (fun c ob hb q => hk2 c ob (sub c hb) (hk c ob (sub c hb) q)) hf hT new
    refine ⟨.ref T, _, I1, rfl, ⟨T, x, y, rfl, I.hok.fresh hT, rfl, fun ys hw => by rw [I.tuple_inj hw hqx]; exact hx, fun ys hw => by rw [I.list_inj hw hqy]; exact hy⟩, ⟨hz', hTI', hTO', h1', h2'⟩, fun c hcm => ?_⟩
    have hTI2 : TI ≠ T := fun e => by
      have := Heap.lt_size hTI
      rw [e] at this
      exact absurd (Nat.lt_of_lt_of_le this hT) (Nat.lt_irrefl _)
    have hne : c ≠ T := fun e => by
      by_cases q : c = TI
      · exact hTI2 (q ▸ e)
      · exact hTw (e ▸ (by simp at hcm ⊢; rcases hcm with h | h | h | h | h <;> simp_all))
    rw [upd_ne hne]
    exact (hf c hcm).1
  done := by
    intro X hP hw hK hc i pins s σ H E I hf st hg
    subst hP hw hK
    obtain ⟨hz, hTI, hTO, h1, h2⟩ := st
    obtain ⟨xs, ys, hqx, hqy, hn⟩ := hg
    obtain ⟨its, rv, p, _⟩ := I.tuple hqx
    obtain ⟨its2, rv2, p2, _⟩ := I.list hqy
    have l1 := rv.length
    have l2 := rv2.length
    have W := WalksT.zipD2 (prog := X.prog) (w := X.w) (A := X.A) S (Draws.tuple (A := X.A.in1) (I.ok.hd hc) i1 a ha its.toArray) (Draws.list (A := X.A.in1) (I.ok.hd hc) i2 b hb its2.toArray)
    have hn' : i = min its.toArray.size its2.toArray.size := by rw [List.size_toArray, List.size_toArray]; omega
    subst hn'
    have sub : ∀ c, c ∉ [z, TI, TO, i1, i2] → c ∉ [z, TO, i1, i2] := fun c hc hm => hc (by simp at hm ⊢; rcases hm with h | h | h | h <;> simp [h])
    exact W.done s _ _ ⟨hz, hTI, hTO, ⟨h1, p⟩, h2, p2.isList⟩ fun h' tk hk => ⟨rfl, I.turnedL (t' := tk) (ch := [z, TI, TO, i1, i2]) (fun c o hc q => hk c o (sub c hc) q) hf⟩
  self := fun A i s Q E st h => wpAny_pyIter_zip st.1 h
theorem meets_enum_newU (l : Addr) (items : Array Value) :
    Meets (Builtin.«enumerate.__new__» ⟨[.type "enumerate", .ref l], []⟩) (fun _ R s => s.heap.IsTuple l items ∧
      R (.ok (.ret (.ref (s.heap.push { cls := .type "tuple_iterator", data := .fields #[.ref l, .int 0 0] }).objs.size)))
        { s with heap := (s.heap.push { cls := .type "tuple_iterator", data := .fields #[.ref l, .int 0 0] }).push { cls := .type "enumerate", data := .fields #[.none, .bool false, .ref s.heap.objs.size, rawInt 0, .none, .none] } }) :=
  .of_wp fun prog w A R s h => by
    obtain ⟨hp, g, d, tk, os⟩ := s
    obtain ⟨hL, h⟩ := h
    obtain ⟨o, hl, hc, n, hd⟩ := id hL
    have hsub := sub_enumerate
    wp_walk using AutoSeq1.wpAny_loadPart' hl
    refine wpAny_stack_any fun st => wpAny_pure ?_
    split
    · rename_i c _ _ _ _ _
      cases (c == Value.type "enumerate")
      · wp_walk using AutoSeq1.wpAny_loadPart' hl, wpAny_pyIter_tuple hL
        exact ⟨_, rfl, h⟩
      · wp_walk using AutoSeq1.wpAny_loadPart' hl, wpAny_pyIter_tuple hL
        exact ⟨_, rfl, h⟩
    · wp_walk using AutoSeq1.wpAny_loadPart' hl, wpAny_pyIter_tuple hL
      exact ⟨_, rfl, h⟩
section
variable {prog : Program} {w : World} {A : Around} {E : Value → Shared → Prop} {s : Shared}
theorem call_enumU {l : Addr} {items : Array Value} {Q : Value → Shared → Prop} (hL : s.heap.IsTuple l items)
    (h : ∀ h', IsEnum h' (s.heap.objs.size + 1) s.heap.objs.size 0 .none → h'.IsTupleIter s.heap.objs.size l 0 → h'.objs.size = s.heap.objs.size + 2 →
      (∀ b o, s.heap.get? b = some o → h'.get? b = some o) → Q (.ref (s.heap.objs.size + 1)) { s with heap := h' }) :
    wpAny (model prog w) A (call (.type "enumerate") [.ref l]) Q E s := by
  refine callType_new F.called_enumerate (by decide) (F.typeCall_enumerate_1 _) (F.newCall_enumerate_1 _) (fun obj => F.args_object_init_2 obj _) F.entry_enumerate_new
    (meets_enum_newU l items) ⟨hL, ?_⟩
  have hz : (s.heap.push { cls := .type "tuple_iterator", data := .fields #[.ref l, .int 0 0] }).objs.size = s.heap.objs.size + 1 := Heap.size_push ..
  have he := Heap.get?_push_size (s.heap.push { cls := .type "tuple_iterator", data := .fields #[.ref l, .int 0 0] })
    (o := { cls := .type "enumerate", data := .fields #[.none, .bool false, .ref s.heap.objs.size, rawInt 0, .none, .none] }) rfl
  show _ ∧ _
  rw [hz] at he ⊢
  exact ⟨⟨_, he, rfl⟩, h _ he ⟨_, Heap.get?_push_of_some _ (Heap.get?_push_size _ rfl), rfl, rfl⟩ (by rw [Heap.size_push, hz]) fun b o x => Heap.get?_push_of_some _ (Heap.get?_push_of_some _ x)⟩
end
def iEnumU (K : PySem.W.Frag) (ta : TA) : TI := fun σ H R => ta σ H fun vs H1 => ∃ a xs, vs = [.ref a] ∧ ((SqL K H1 a xs ∧ R (Ite K a) H1) ∨ (SqT K H1 a xs ∧ R (IteU K a) H1))
theorem pi_enumU {X : Cx} {e : Expr} {ta : TA} {p pos tpos : Pos} {elts : List Expr} {kk : Nat} (hg : Gl X "enumerate") (hm : X.mg "enumerate" = none) (ha : PA X [e] ta) (hs : starEach [e] X.env = [(false, eval e X.env)] := by rfl) :
    PI X (.Tuple elts kk tpos) (.Call (.Name "enumerate" p) [e] [] pos) (iEnumU X.K ta) := by
  refine ⟨fun pins s σ H R I h => ?_⟩
  refine Call_ (ld_blt I hg hm boot_enumerate (PyProof.Rows.callWith_type1 (thn (ha.run pos pins s σ H _ I h) fun us s1 ⟨vs, H1, I1, r1, q1⟩ => ?_) hs rfl))
  obtain ⟨a, xs, ex, q1⟩ := q1
  subst ex
  cases r1 with
  | cons r rr =>
    cases rr
    cases r
    have fr : ∀ b ∈ [s1.heap.objs.size + 1, s1.heap.objs.size], FpOk X pins H1 b := fun b hb => by
      have hle : s1.heap.objs.size ≤ b := by
        rcases List.mem_cons.mp hb with z | z
        · rw [z]; exact Nat.le_add_right _ _
        · rw [List.mem_singleton.mp z]; exact Nat.le_refl _
      exact I1.fpOk hle (I1.hok.fresh hle)
    rcases q1 with ⟨hq, q⟩ | ⟨hq, q⟩
    · obtain ⟨its, rv, p', hz⟩ := I1.list hq
      refine call_enumerate_list p'.isList fun h' he hit hsz hk => wpAny_pyIter_enum he ?_
      have I2 : Inv X pins σ H1 { s1 with heap := h' } := I1.kept (t' := s1.toks) hk
      exact ⟨s1.heap.objs.size + 1, [s1.heap.objs.size + 1, s1.heap.objs.size], _, _, H1, rfl, I2, turn_enum a (s1.heap.objs.size + 1) s1.heap.objs.size, ⟨⟨.none, he⟩, hit, Nat.succ_ne_self _⟩, fr, q⟩
    · obtain ⟨its, rv, p', hz⟩ := I1.tuple hq
      obtain ⟨o1, ho1, _⟩ := id p'
      have hlt := Heap.lt_size ho1
      refine call_enumU (items := its.toArray) p' fun h' he hit hsz hk => wpAny_pyIter_enum he ?_
      have I2 : Inv X pins σ H1 { s1 with heap := h' } := I1.kept (t' := s1.toks) hk
      exact ⟨s1.heap.objs.size + 1, [s1.heap.objs.size + 1, s1.heap.objs.size], _, _, H1, rfl, I2, turn_enumU a (s1.heap.objs.size + 1) s1.heap.objs.size (Nat.succ_ne_self _) (fun z => absurd (Nat.lt_trans (Nat.lt_succ_self _) (z ▸ hlt)) (Nat.lt_irrefl _)) (Nat.ne_of_lt hlt), ⟨⟨.none, he⟩, hit⟩, fr, q⟩
def iZipU (K : PySem.W.Frag) (ta : TA) : TI := fun σ H R => ta σ H fun vs H1 => ∃ a b xs ys, vs = [.ref a, .ref b] ∧ ((SqL K H1 a xs ∧ SqL K H1 b ys ∧ R (Itz K a b) H1) ∨ (SqT K H1 a xs ∧ SqT K H1 b ys ∧ R (RZ.ItzT K a b) H1) ∨ (SqT K H1 a xs ∧ SqL K H1 b ys ∧ R (ItzU K a b) H1))
theorem pi_zipU {X : Cx} {e e2 : Expr} {ta : TA} {p pos tpos : Pos} {elts : List Expr} {kk : Nat} (hg : Gl X "zip") (hm : X.mg "zip" = none) (ha : PA X [e, e2] ta)
    (hs : starEach [e, e2] X.env = (false, eval e X.env) :: starEach [e2] X.env := by rfl) (hpl : (backTo pos (starEach [e2] X.env)).any (·.1) = false := by rfl) :
    PI X (.Tuple elts kk tpos) (.Call (.Name "zip" p) [e, e2] [] pos) (iZipU X.K ta) := by
  refine ⟨fun pins s σ H R I h => ?_⟩
  refine Call_ (ld_blt I hg hm PyProof.Rows.boot_zip (PyProof.Rows.callWith_type1 (thn (ha.run pos pins s σ H _ I h) fun us s1 ⟨vs, H1, I1, r1, q1⟩ => ?_) hs hpl))
  obtain ⟨a, b, xs, ys, ex, q1⟩ := q1
  subst ex
  cases r1 with
  | cons r rr =>
    cases rr with
    | cons r' rr =>
      cases rr
      cases r
      cases r'
      have fr : ∀ c, c ∈ [s1.heap.objs.size + 4, s1.heap.objs.size + 2, s1.heap.objs.size + 3, s1.heap.objs.size, s1.heap.objs.size + 1] → FpOk X pins H1 c := fun c hcm => by
        have hle : s1.heap.objs.size ≤ c := by
          have e' : c = s1.heap.objs.size + 4 ∨ c = s1.heap.objs.size + 2 ∨ c = s1.heap.objs.size + 3 ∨ c = s1.heap.objs.size ∨ c = s1.heap.objs.size + 1 := by simpa using hcm
          rcases e' with z | z | z | z | z <;> rw [z] <;> first | exact Nat.le_add_right _ _ | exact Nat.le_refl _
        exact I1.fpOk hle (I1.hok.fresh hle)
      rcases q1 with ⟨hqx, hqy, q⟩ | ⟨hqx, hqy, q⟩ | ⟨hqx, hqy, q⟩
      · obtain ⟨its, rv, p1, _⟩ := I1.list hqx
        obtain ⟨its2, rv2, p2, _⟩ := I1.list hqy
        refine call_zip_2 p1.isList p2.isList fun h' hz hTI hTO h1 h2 hsz hk => wpAny_pyIter_zip hz ?_
        have I2 : Inv X pins σ H1 { s1 with heap := h' } := I1.kept (t' := s1.toks) hk
        exact ⟨s1.heap.objs.size + 4, [s1.heap.objs.size + 4, s1.heap.objs.size + 2, s1.heap.objs.size + 3, s1.heap.objs.size, s1.heap.objs.size + 1], _, _, H1, rfl, I2, turn_zip (PySem.W.ktu_apart s1.heap.objs.size a b p1.lt p2.lt), ⟨hz, hTI, ⟨_, _, hTO⟩, h1, h2⟩, fr, q⟩
      · obtain ⟨its, rv, p1, _⟩ := I1.tuple hqx
        obtain ⟨its2, rv2, p2, _⟩ := I1.tuple hqy
        obtain ⟨o1, ho1, _⟩ := id p1
        obtain ⟨o2, ho2, _⟩ := id p2
        refine RZ.call_zipT (show s1.heap.IsTuple a its.toArray from p1) (show s1.heap.IsTuple b its2.toArray from p2) fun h' hz hTI hTO h1 h2 hsz hk => wpAny_pyIter_zip hz ?_
        have I2 : Inv X pins σ H1 { s1 with heap := h' } := I1.kept (t' := s1.toks) hk
        exact ⟨s1.heap.objs.size + 4, [s1.heap.objs.size + 4, s1.heap.objs.size + 2, s1.heap.objs.size + 3, s1.heap.objs.size, s1.heap.objs.size + 1], _, _, H1, rfl, I2, RZ.turn_zipT (PySem.W.ktu_apart s1.heap.objs.size a b (Heap.lt_size ho1) (Heap.lt_size ho2)), ⟨hz, hTI, ⟨_, _, hTO⟩, h1, h2⟩, fr, q⟩
      · obtain ⟨its, rv, p1, _⟩ := I1.tuple hqx
        obtain ⟨its2, rv2, p2, _⟩ := I1.list hqy
        obtain ⟨o1, ho1, _⟩ := id p1
        have la := Heap.lt_size ho1
        have lb : b < s1.heap.objs.size := p2.lt
        refine zip_begins2 (begins_tuple a its.toArray) (begins_list b its2.toArray) p1 p2.isList fun h' hz hTI hTO h1 h2 hsz hk => wpAny_pyIter_zip hz ?_
        have I2 : Inv X pins σ H1 { s1 with heap := h' } := I1.kept (t' := s1.toks) hk
        have Z := zip_sep2 (N := s1.heap.objs.size) (fp1 := [a]) (fp2 := [b]) (fun c hc => by rw [List.mem_singleton.mp hc]; exact la) (fun c hc => by rw [List.mem_singleton.mp hc]; exact lb)
        exact ⟨s1.heap.objs.size + 4, [s1.heap.objs.size + 4, s1.heap.objs.size + 2, s1.heap.objs.size + 3, s1.heap.objs.size, s1.heap.objs.size + 1], _, _, H1, rfl, I2, turn_zipU Z (Nat.ne_of_lt la) (Nat.ne_of_lt (Nat.lt_succ_of_lt lb)), ⟨hz, hTI, ⟨_, _, hTO⟩, ⟨_, h1, rfl, rfl⟩, ⟨_, h2, rfl, rfl⟩⟩, fr, q⟩
end Rg
namespace Rg
open PySem PySem.Spec PyProof.Rows L2
def runW (c : ST) (b : SS) : Nat → Env → Store → Option ResS
  | 0, _, _ => none
  | n + 1, env, S => match c env S with
    | .ok true S1 => match b env S1 with
      | .nx e S2 => runW c b n e S2
      | .ct e S2 => runW c b n e S2
      | .bk e S2 => some (.nx e S2)
      | .rt d S2 => some (.rt d S2)
      | .exc x e S2 => some (.exc x e S2)
      | .bad => some .bad
    | .ok false S1 => some (.nx env S1)
    | .exc x S1 => some (.exc x env S1)
    | .bad => some .bad
theorem runW_succ {c : ST} {b : SS} : ∀ {n : Nat} {env : Env} {S : Store} {r : ResS}, runW c b n env S = some r → runW c b (n + 1) env S = some r
  | 0, _, _, _, h => by cases h
  | n + 1, env, S, r, h => by
    unfold runW at h ⊢
    cases hc : c env S with
    | ok k S1 =>
      rw [hc] at h
      cases k with
      | false => exact h
      | true =>
        dsimp only at h ⊢
        cases hb : b env S1 with
        | nx e S2 => rw [hb] at h; exact runW_succ (n := n) h
        | ct e S2 => rw [hb] at h; exact runW_succ (n := n) h
        | bk e S2 => rw [hb] at h; exact h
        | rt e S2 => rw [hb] at h; exact h
        | exc x e S2 => rw [hb] at h; exact h
        | bad => rw [hb] at h; exact h
    | exc x S1 => rw [hc] at h; exact h
    | bad => rw [hc] at h; exact h
theorem runW_le {c : ST} {b : SS} {m n : Nat} {env : Env} {S : Store} {r : ResS} (h : runW c b m env S = some r) (l : m ≤ n) : runW c b n env S = some r := by
  induction n with
  | zero =>
    have : m = 0 := by omega
    subst this
    exact h
  | succ n ih =>
    rcases Nat.lt_or_ge m (n + 1) with q | q
    · exact runW_succ (ih (by omega))
    · have : m = n + 1 := by omega
      subst this
      exact h
theorem runW_det {c : ST} {b : SS} {m n : Nat} {env : Env} {S : Store} {r r' : ResS} (h : runW c b m env S = some r) (h' : runW c b n env S = some r') : r = r' := by
  have a := runW_le h (Nat.le_max_left m n)
  have b := runW_le h' (Nat.le_max_right m n)
  rw [a] at b
  exact Option.some.inj b
open Classical in
noncomputable def sWhile (c : ST) (b : SS) : SS := fun env S => if h : ∃ n r, runW c b n env S = some r then h.choose_spec.choose else .bad
theorem sWhile_of {c : ST} {b : SS} {n : Nat} {env : Env} {S : Store} {r : ResS} (h : runW c b n env S = some r) : sWhile c b env S = r := by
  have e : ∃ n r, runW c b n env S = some r := ⟨n, r, h⟩
  unfold sWhile
  rw [dif_pos e]
  exact runW_det e.choose_spec.choose_spec h
theorem sWhile_no {c : ST} {b : SS} {env : Env} {S : Store} (h : ¬ ∃ n r, runW c b n env S = some r) : sWhile c b env S = .bad := by
  unfold sWhile
  rw [dif_neg h]
theorem sWhile_eq (c : ST) (b : SS) (env : Env) (S : Store) : sWhile c b env S = match c env S with
    | .ok true S1 => (match b env S1 with
      | .nx e S2 => sWhile c b e S2
      | .ct e S2 => sWhile c b e S2
      | .bk e S2 => .nx e S2
      | .rt d S2 => .rt d S2
      | .exc x e S2 => .exc x e S2
      | .bad => .bad)
    | .ok false S1 => .nx env S1
    | .exc x S1 => .exc x env S1
    | .bad => .bad := by
  have go : ∀ {e : Env} {S1 S2 : Store}, c env S = .ok true S1 → (∀ n, runW c b (n + 1) env S = runW c b n e S2) → sWhile c b env S = sWhile c b e S2 := fun {e S1 S2} hc hn => by
    by_cases h : ∃ n r, runW c b n e S2 = some r
    · obtain ⟨n, r, h⟩ := h
      rw [sWhile_of h, sWhile_of (n := n + 1) ((hn n).trans h)]
    · rw [sWhile_no h]
      refine sWhile_no fun ⟨n, r, h'⟩ => h ⟨n, r, ?_⟩
      rw [← hn n]
      exact runW_succ h'
  cases hc : c env S with
  | ok k S1 =>
    cases k with
    | false => exact sWhile_of (n := 1) (by unfold runW; rw [hc])
    | true =>
      dsimp only
      cases hb : b env S1 with
      | nx e S2 => exact go hc fun n => by rw [runW, hc]; dsimp only; rw [hb]
      | ct e S2 => exact go hc fun n => by rw [runW, hc]; dsimp only; rw [hb]
      | bk e S2 => exact sWhile_of (n := 1) (by unfold runW; rw [hc]; dsimp only; rw [hb])
      | rt e S2 => exact sWhile_of (n := 1) (by unfold runW; rw [hc]; dsimp only; rw [hb])
      | exc x e S2 => exact sWhile_of (n := 1) (by unfold runW; rw [hc]; dsimp only; rw [hb])
      | bad => exact sWhile_of (n := 1) (by unfold runW; rw [hc]; dsimp only; rw [hb])
  | exc x S1 => exact sWhile_of (n := 1) (by unfold runW; rw [hc])
  | bad => exact sWhile_of (n := 1) (by unfold runW; rw [hc])
section
variable {X : Cx} {G : Gx} {e a b c o tg iter : Expr} {pos : Pos} {sa sb so : SE} {st su : ST} {es : List Expr} {sr : SA} {s t : SS} {x : Stmt} {rest xs ys body : List Stmt}
theorem ms_while (hc : MT X G c st) (hb : MSs X G body s) : MS X G (.While c body [] pos) (sWhile st s) := fun ok => ps_imp (ps_while ok.po (hc ok) (hb ok)) fun E σ H h => by
  obtain ⟨p, env, S, rs, rst, g⟩ := h
  by_cases ex : ∃ n r, runW st s n env S = some r
  · obtain ⟨n, r, hr⟩ := ex
    rw [sWhile_of hr] at g
    refine ⟨fun m σ H => ∃ p env S r, Rs X.K H p env σ ∧ RSt X.K H p S ∧ runW st s m env S = some r ∧ GoodS X.K G H p r E, ⟨n, p, env, S, r, rs, rst, hr, g⟩, ?_⟩
    rintro m σ H ⟨p, env, S, r, rs, rst, hr, g⟩
    cases m with
    | zero => cases hr
    | succ m =>
      unfold runW at hr
      refine ⟨p, env, S, rs, rst, ?_⟩
      cases hc : st env S with
      | ok k S1 =>
        rw [hc] at hr
        cases k with
        | false =>
          cases hr
          exact fun H' p' x r' => g σ H' p' x (rs.mono x) r'
        | true =>
          dsimp only at hr
          intro H' p' x r'
          dsimp only
          rw [if_pos rfl]
          refine ⟨fun σ' H' => ∃ p e S2 r, Rs X.K H' p e σ' ∧ RSt X.K H' p S2 ∧ runW st s m e S2 = some r ∧ GoodS X.K G H' p r E, fun σ' H' q => ⟨m, Nat.lt_succ_self m, q⟩, p', env, S1, rs.mono x, r', ?_⟩
          cases hb : s env S1 with
          | nx e S2 => rw [hb] at hr; exact fun σ2 H2 p2 x2 rs2 r2 => ⟨p2, e, S2, r, rs2, r2, hr, g.at (x.trans x2)⟩
          | ct e S2 => rw [hb] at hr; exact fun σ2 H2 p2 x2 rs2 r2 => ⟨p2, e, S2, r, rs2, r2, hr, g.at (x.trans x2)⟩
          | bk e S2 => rw [hb] at hr; cases hr; exact g.at x
          | rt e S2 => rw [hb] at hr; cases hr; exact g.at x
          | exc y e S2 => rw [hb] at hr; cases hr; exact g.at x
          | bad => rw [hb] at hr; cases hr; exact g
      | exc y S1 =>
        rw [hc] at hr
        cases hr
        exact fun H' p' x r' => g σ H' p' x (rs.mono x) r'
      | bad =>
        rw [hc] at hr
        cases hr
        exact g
  · rw [sWhile_no ex] at g
    exact g.elim
structure Wk where
  items : List D
  chk : Store → Prop
abbrev SI := Env → Store → Res Wk
def WalkD (K : PySem.W.Frag) (J : It) (w : Wk) (H1 : Hp) (p1 : List Addr) : Prop :=
  Walk J w.items.length (fun H => ∃ p S, Ext K H1 H p1 p ∧ RSt K H p S ∧ w.chk S)
    (fun i H x H' => ∀ p S, Ext K H1 H p1 p → RSt K H p S → w.chk S → ∃ d, w.items[i]? = some d ∧ Ext K H H' p p ∧ RSt K H' p S ∧ RV K H' p d x)
def TIo (K : PySem.W.Frag) (G : Gx) (si : SI) : TI := fun σ H R => ∃ p env S, Rs K H p env σ ∧ RSt K H p S ∧ Good K G σ H p (si env S) fun w S1 H1 p1 => ∀ J, WalkD K J w H1 p1 → R J H1
def MI (X : Cx) (G : Gx) (tg iter : Expr) (si : SI) : Prop := Cok X G → PI X tg iter (TIo X.K G si)
theorem pi_imp {t t' : TI} (h : PI X tg iter t) (hi : ∀ σ H R, t' σ H R → t σ H R) : PI X tg iter t' := ⟨fun pins s σ H R I q => h.run pins s σ H R I (hi _ _ _ q)⟩
def signs (z : Str) : List D := z.cps.toList.map fun c => .str ⟨#[c]⟩
def fIter (d : D) (S : Store) : Res Wk := match d with
  | .tup l => .ok ⟨l, fun _ => True⟩ S
  | .ref n => match lstOf S n with
    | some l => .ok ⟨l, fun S => lstOf S n = some l⟩ S
    | none => .bad
  | .str z => .ok ⟨signs z, fun _ => True⟩ S
  | _ => .bad
def sIter (s : SE) : SI := fun env S => (s env S).bind fIter
def iSeq (K : PySem.W.Frag) (tl : TE) : TI := fun σ H R => tl σ H fun x H1 => (∃ a, x = .ref a ∧ (∃ xs, SqL K H1 a xs) ∧ R (Itl K a) H1) ∨ (∃ a, x = .ref a ∧ (∃ xs, SqT K H1 a xs) ∧ R (Itt K a) H1) ∨ ∃ z, x = .str z ∧ R (Its z) H1
theorem pi_seq {tl : TE} (hl : PE X a tl) : PI X tg a (iSeq X.K tl) := by
  refine ⟨fun pins s σ H R I h => ?_⟩
  refine thn (hl.run pins s σ H _ I h) fun v s1 ⟨x, H1, I1, r1, q1⟩ => ?_
  rcases q1 with ⟨a, e, ⟨xs, hq⟩, q⟩ | ⟨a, e, ⟨xs, hq⟩, q⟩ | ⟨z, e, q⟩
  · subst e
    cases r1
    obtain ⟨its, rv, p, hz⟩ := I1.list hq
    refine wpAny_pyIter_list p.isList ?_
    refine ⟨s1.heap.objs.size, [s1.heap.objs.size], _, _, H1, rfl, I1.kept (t' := s1.toks) fun b o e => Heap.get?_push_of_some _ e, turn_list a _, ⟨_, Heap.get?_push_size _ rfl, rfl, rfl⟩, fun b hb => ?_, q⟩
    have e : b = s1.heap.objs.size := by simpa using hb
    subst e
    exact I1.fpOk (Nat.le_refl _) (I1.hok.fresh (Nat.le_refl _))
  · subst e
    cases r1
    obtain ⟨its, rv, p, hz⟩ := I1.tuple hq
    refine wpAny_pyIter_tuple (show s1.heap.IsTuple a its.toArray from p) ?_
    refine ⟨s1.heap.objs.size, [s1.heap.objs.size], _, _, H1, rfl, I1.kept (t' := s1.toks) fun b o e => Heap.get?_push_of_some _ e, turn_tuple a _, ⟨_, Heap.get?_push_size _ rfl, rfl, rfl⟩, fun b hb => ?_, q⟩
    have e : b = s1.heap.objs.size := by simpa using hb
    subst e
    exact I1.fpOk (Nat.le_refl _) (I1.hok.fresh (Nat.le_refl _))
  · subst e
    obtain ⟨t, rfl⟩ := r1
    cases ha : z.cps.all (· < 128)
    · exact wpAny_pyIter_wide ha (pi_one (tk := s1.toks) I1 _ (turn_str _ z t "str_iterator" (.inr rfl)) ⟨_, Heap.get?_push_size _ rfl, rfl, rfl⟩ q)
    · exact wpAny_pyIter_ascii ha (pi_one (tk := s1.toks) I1 _ (turn_str _ z t "str_ascii_iterator" (.inl rfl)) ⟨_, Heap.get?_push_size _ rfl, rfl, rfl⟩ q)
section
variable {K : PySem.W.Frag} {H1 : Hp} {p1 : List Addr} {a b : Addr} {l l2 : List D} {n m : Nat}
theorem list_at {H : Hp} {p : List Addr} {S : Store} (hp : p1[n]? = some a) (e : Ext K H1 H p1 p) (R : RSt K H p S) (h : lstOf S n = some l) : ∃ xs, SqL K H a xs ∧ RVs K H p l xs := by
  obtain ⟨a', xs, e1, h1, h2⟩ := R.list h (RV.ref_iff.mpr ⟨a, rfl, e.pre _ _ hp⟩)
  cases e1
  exact ⟨xs, h1, h2⟩
theorem walkd_list (hp : p1[n]? = some a) : WalkD K (Itl K a) ⟨l, fun S => lstOf S n = some l⟩ H1 p1 := by
  refine ⟨fun i H hi q => ?_, fun H q => ?_, fun i H x H' hi q y p S e R hc => ?_⟩
  · obtain ⟨p, S, e, R, hc⟩ := q
    obtain ⟨xs, h1, h2⟩ := list_at hp e R hc
    obtain ⟨x, e1, e2⟩ := h2.get (d := l[i]) (i := i) (by simp [show i < l.length from hi])
    exact ⟨xs, x, h1, e1⟩
  · obtain ⟨p, S, e, R, hc⟩ := q
    obtain ⟨xs, h1, h2⟩ := list_at hp e R hc
    exact ⟨xs, h1, by rw [← h2.len]; exact Nat.le_refl _⟩
  · obtain ⟨e1, y⟩ := y
    subst e1
    obtain ⟨xs, h1, h2⟩ := list_at hp e R hc
    obtain ⟨d, e1, e2⟩ := h2.get' (y xs h1)
    exact ⟨d, e1, .refl, R, e2⟩
theorem walkd_tup {xs : List V} (h1 : SqT K H1 a xs) (h2 : RVs K H1 p1 l xs) : WalkD K (Itt K a) ⟨l, fun _ => True⟩ H1 p1 := by
  refine ⟨fun i H hi q => ?_, fun H q => ?_, fun i H x H' hi q y p S e R hc => ?_⟩
  · obtain ⟨p, S, e, R, hc⟩ := q
    obtain ⟨x, e1, e2⟩ := h2.get (d := l[i]) (i := i) (by simp [show i < l.length from hi])
    exact ⟨xs, x, e.tup _ _ h1, e1⟩
  · obtain ⟨p, S, e, R, hc⟩ := q
    exact ⟨xs, e.tup _ _ h1, by rw [← h2.len]; exact Nat.le_refl _⟩
  · obtain ⟨e1, y⟩ := y
    subst e1
    obtain ⟨d, e1, e2⟩ := h2.get' (y xs (e.tup _ _ h1))
    exact ⟨d, e1, .refl, R, RV.mono e _ _ e2⟩
theorem walkd_fn {J : It} {f : Nat → V} (w : Walk J l.length (fun _ => True) (fun i H x H' => H' = H ∧ x = f i)) (hf : ∀ i d, l[i]? = some d → ∀ H p, RV K H p d (f i)) : WalkD K J ⟨l, fun _ => True⟩ H1 p1 := by
  refine ⟨fun i H hi q => w.goes i H hi trivial, fun H q => w.stops H trivial, fun i H x H' hi q y p S e R hc => ?_⟩
  obtain ⟨rfl, rfl⟩ := w.yields i H x H' hi trivial y
  exact ⟨l[i], by simp [show i < l.length from hi], .refl, R, hf i _ (by simp [show i < l.length from hi]) _ _⟩
end
theorem mi_seq (ha : ME X G a sa) : MI X G tg a (sIter sa) := fun ok => pi_imp (pi_seq (ha ok)) fun σ H R h => by
  obtain ⟨p, env, S, rs, rst, g⟩ := h
  refine one rs rst g fun H1 p1 S1 d x _ rs1 r1 rx g1 => ?_
  unfold fIter at g1
  split at g1
  · rename_i l
    obtain ⟨a, xs, rfl, h1, h2⟩ := RV.tup_iff.mp rx
    exact .inr (.inl ⟨a, rfl, ⟨xs, h1⟩, g1 H1 p1 .refl r1 _ (walkd_tup h1 h2)⟩)
  · split at g1
    · rename_i n l hl
      obtain ⟨a, rfl, e⟩ := RV.ref_iff.mp rx
      obtain ⟨xs, h1, h2⟩ := list_at e .refl r1 hl
      exact .inl ⟨a, rfl, ⟨xs, h1⟩, g1 H1 p1 .refl r1 _ (walkd_list e)⟩
    · exact g1.elim
  · rename_i z
    rw [RV.str_iff] at rx
    subst rx
    refine .inr (.inr ⟨z, rfl, g1 H1 p1 .refl r1 _ ?_⟩)
    have hlen : (signs z).length = z.cps.size := by unfold signs; simp
    have w := walk_str (z := z)
    refine ⟨fun i H hi q => w.goes i H (by rw [← hlen]; exact hi) trivial, fun H q => ?_, fun i H x H' hi q y p S e R hc => ?_⟩
    · have q := w.stops H trivial
      rw [← hlen] at q
      exact q
    · obtain ⟨rfl, c, hc, rfl⟩ := w.yields i H x H' (by rw [← hlen]; exact hi) trivial y
      refine ⟨.str ⟨#[c]⟩, ?_, .refl, R, RV.str_iff.mpr rfl⟩
      unfold signs
      rw [List.getElem?_map, Array.getElem?_toList, hc]
      rfl
  · exact g1.elim
def rangeD (lo : Int) (n : Nat) : List D := (List.range n).map fun i => .int (lo + (i : Nat))
theorem rangeD_len (lo : Int) (n : Nat) : (rangeD lo n).length = n := by unfold rangeD; simp
def fRng1 (ds : List D) (S : Store) : Res Wk := match ds with
  | [.int j] => if -(2 ^ 62) ≤ j ∧ j < 2 ^ 62 then .ok ⟨rangeD 0 j.toNat, fun _ => True⟩ S else .bad
  | _ => .bad
def fRng2 (ds : List D) (S : Store) : Res Wk := match ds with
  | [.int i, .int j] => if -(2 ^ 62) ≤ i ∧ i < 2 ^ 62 ∧ -(2 ^ 62) ≤ j ∧ j < 2 ^ 62 then .ok ⟨rangeD i (j - i).toNat, fun _ => True⟩ S else .bad
  | _ => .bad
def sRng (f : List D → Store → Res Wk) (s : SA) : SI := fun env S => (s env S).bind f
theorem walkd_range {K : PySem.W.Frag} {H1 : Hp} {p1 : List Addr} {lo : Int} {n : Nat} : WalkD K (Itr lo n) ⟨rangeD lo n, fun _ => True⟩ H1 p1 := by
  refine walkd_fn (f := fun i => .int (lo + (i : Nat))) ?_ fun i d h H p => ?_
  · rw [rangeD_len]
    exact walk_range
  · unfold rangeD at h
    rw [List.getElem?_map] at h
    by_cases hi : i < n
    · rw [List.getElem?_range hi] at h
      cases h
      exact RV.int_iff.mpr rfl
    · rw [List.getElem?_eq_none (by simpa using hi)] at h
      cases h
theorem mi_range1 {p : Pos} (hm : X.mg "range" = none) (ha : MA X G [a] sr) (hg : Gl X "range" := by rfl) (hs : starEach [a] X.env = [(false, eval a X.env)] := by rfl) : MI X G tg (.Call (.Name "range" p) [a] [] pos) (sRng fRng1 sr) := fun ok => pi_imp (pi_range1 hg hm (ha ok) hs) fun σ H R h => by
  obtain ⟨p, env, S, rs, rst, g⟩ := h
  refine TAo.bind rs rst g fun H1 p1 S1 ds xs _ rs1 r1 rx g1 => ?_
  unfold fRng1 at g1
  split at g1
  · split at g1
    · rename_i j hj
      obtain ⟨x, rfl, r⟩ := rx.one
      rw [RV.int_iff] at r
      subst r
      exact ⟨j, rfl, hj.1, hj.2, g1 H1 p1 .refl r1 _ walkd_range⟩
    · exact g1.elim
  · exact g1.elim
theorem mi_range2 {p : Pos} (hm : X.mg "range" = none) (ha : MA X G [a, b] sr) (hg : Gl X "range" := by rfl) (hs : starEach [a, b] X.env = [(false, eval a X.env), (false, eval b X.env)] := by rfl) (hs2 : starEach [b] X.env = [(false, eval b X.env)] := by rfl) : MI X G tg (.Call (.Name "range" p) [a, b] [] pos) (sRng fRng2 sr) := fun ok => pi_imp (pi_range2 hg hm (ha ok) hs hs2) fun σ H R h => by
  obtain ⟨p, env, S, rs, rst, g⟩ := h
  refine TAo.bind rs rst g fun H1 p1 S1 ds xs _ rs1 r1 rx g1 => ?_
  unfold fRng2 at g1
  split at g1
  · split at g1
    · rename_i i j hj
      obtain ⟨x, y, rfl, r, r'⟩ := rx.two
      rw [RV.int_iff] at r r'
      subst r r'
      exact ⟨i, j, rfl, hj, g1 H1 p1 .refl r1 _ walkd_range⟩
    · exact g1.elim
  · exact g1.elim
def enumD (l : List D) : List D := (List.range l.length).map fun i => .tup [.int (i : Nat), l.getD i .non]
def fEnum (ds : List D) (S : Store) : Res Wk := match ds with
  | [.ref n] => match lstOf S n with
    | some l => .ok ⟨enumD l, fun S => lstOf S n = some l⟩ S
    | none => .bad
  | [.tup l] => .ok ⟨enumD l, fun _ => True⟩ S
  | _ => .bad
theorem newpair {K : PySem.W.Frag} {H : Hp} {p : List Addr} {S : Store} {T : Addr} {x y : V} {d e : D} (R : RSt K H p S) (hT : H T = none) (rx : RV K H p d x) (ry : RV K H p e y) :
    Ext K H (upd H T (.tup [x, y])) p p ∧ RSt K (upd H T (.tup [x, y])) p S ∧ RV K (upd H T (.tup [x, y])) p (.tup [d, e]) (.ref T) := R.newT hT (RVs.cons rx (RVs.cons ry RVs.nil))
theorem mi_enum {elts : List Expr} {kk : Nat} {tpos p : Pos} (hm : X.mg "enumerate" = none) (ha : MA X G [a] sr) (hg : Gl X "enumerate" := by rfl) (hs : starEach [a] X.env = [(false, eval a X.env)] := by rfl) : MI X G (.Tuple elts kk tpos) (.Call (.Name "enumerate" p) [a] [] pos) (sRng fEnum sr) := fun ok => pi_imp (pi_enumU hg hm (ha ok) hs) fun σ H R h => by
  obtain ⟨p, env, S, rs, rst, g⟩ := h
  refine TAo.bind rs rst g fun H1 p1 S1 ds xs _ rs1 r1 rx g1 => ?_
  unfold fEnum at g1
  split at g1
  · split at g1
    · rename_i n l hl
      obtain ⟨x, rfl, r⟩ := rx.one
      obtain ⟨a, rfl, e⟩ := RV.ref_iff.mp r
      obtain ⟨zs, h1, h2⟩ := list_at e .refl r1 hl
      refine ⟨a, zs, rfl, .inl ⟨h1, g1 H1 p1 .refl r1 _ ?_⟩⟩
      have hlen : (enumD l).length = l.length := by unfold enumD; simp
      refine ⟨fun i H hi q => ?_, fun H q => ?_, fun i H x H' hi q y p S e' R hc => ?_⟩
      · obtain ⟨p, S, e', R, hc⟩ := q
        obtain ⟨xs, h1, h2⟩ := list_at e e' R hc
        have hi : i < l.length := by rw [← hlen]; exact hi
        obtain ⟨x, e1, e2⟩ := h2.get (d := l[i]) (i := i) (by simp [hi])
        exact ⟨xs, x, h1, e1⟩
      · obtain ⟨p, S, e', R, hc⟩ := q
        obtain ⟨xs, h1, h2⟩ := list_at e e' R hc
        exact ⟨xs, h1, by rw [← h2.len, ← hlen]; exact Nat.le_refl _⟩
      · obtain ⟨T, x, rfl, hT, rfl, hx⟩ := y
        obtain ⟨xs, h1, h2⟩ := list_at e e' R hc
        obtain ⟨d, e1, e2⟩ := h2.get' (hx xs h1)
        have hi : i < l.length := by rw [← hlen]; exact hi
        refine ⟨.tup [.int (i : Nat), d], ?_, newpair R hT (RV.int_iff.mpr rfl) e2⟩
        unfold enumD
        dsimp only
        rw [List.getElem?_map, List.getElem?_range hi, Option.map_some, List.getD_eq_getElem?_getD, e1]
        rfl
    · exact g1.elim
  · rename_i l
    obtain ⟨x, rfl, r⟩ := rx.one
    obtain ⟨a, zs, rfl, h1, h2⟩ := RV.tup_iff.mp r
    refine ⟨a, zs, rfl, .inr ⟨h1, g1 H1 p1 .refl r1 _ ?_⟩⟩
    have hlen : (enumD l).length = l.length := by unfold enumD; simp
    refine ⟨fun i H hi q => ?_, fun H q => ?_, fun i H x H' hi q y p S e' R hc => ?_⟩
    · obtain ⟨p, S, e', R, hc⟩ := q
      have hi : i < l.length := by rw [← hlen]; exact hi
      obtain ⟨x, e1, e2⟩ := h2.get (d := l[i]) (i := i) (by simp [hi])
      exact ⟨zs, x, e'.tup _ _ h1, e1⟩
    · obtain ⟨p, S, e', R, hc⟩ := q
      exact ⟨zs, e'.tup _ _ h1, by rw [← h2.len, ← hlen]⟩
    · obtain ⟨T, x, rfl, hT, rfl, hx⟩ := y
      obtain ⟨d, e1, e2⟩ := h2.get' (hx zs (e'.tup _ _ h1))
      have hi : i < l.length := by rw [← hlen]; exact hi
      refine ⟨.tup [.int (i : Nat), d], ?_, newpair R hT (RV.int_iff.mpr rfl) (RV.mono e' _ _ e2)⟩
      unfold enumD
      dsimp only
      rw [List.getElem?_map, List.getElem?_range hi, Option.map_some, List.getD_eq_getElem?_getD, e1]
      rfl
  · exact g1.elim
def zipD (l m : List D) : List D := (l.zip m).map fun q => .tup [q.1, q.2]
def fZip (ds : List D) (S : Store) : Res Wk := match ds with
  | [.ref n, .ref m] => match lstOf S n, lstOf S m with
    | some l, some k => .ok ⟨zipD l k, fun S => lstOf S n = some l ∧ lstOf S m = some k⟩ S
    | _, _ => .bad
  | [.tup l, .tup k] => .ok ⟨zipD l k, fun _ => True⟩ S
  | [.tup l, .ref m] => match lstOf S m with
    | some k => .ok ⟨zipD l k, fun S => lstOf S m = some k⟩ S
    | none => .bad
  | _ => .bad
theorem zipD_get {l k : List D} {i : Nat} {d e : D} (h1 : l[i]? = some d) (h2 : k[i]? = some e) : (zipD l k)[i]? = some (.tup [d, e]) := by
  unfold zipD
  rw [List.getElem?_map, List.getElem?_zip_eq_some (z := (d, e)) |>.mpr ⟨h1, h2⟩]
  rfl
theorem zipD_len (l k : List D) : (zipD l k).length = min l.length k.length := by unfold zipD; simp
theorem mi_zip {elts : List Expr} {kk : Nat} {tpos p : Pos} (hm : X.mg "zip" = none) (ha : MA X G [a, b] sr) (hg : Gl X "zip" := by rfl) (hs : starEach [a, b] X.env = (false, eval a X.env) :: starEach [b] X.env := by rfl) (hpl : (backTo pos (starEach [b] X.env)).any (·.1) = false := by rfl) : MI X G (.Tuple elts kk tpos) (.Call (.Name "zip" p) [a, b] [] pos) (sRng fZip sr) := fun ok => pi_imp (pi_zipU hg hm (ha ok) hs hpl) fun σ H R h => by
  obtain ⟨p, env, S, rs, rst, g⟩ := h
  refine TAo.bind rs rst g fun H1 p1 S1 ds xs _ rs1 r1 rx g1 => ?_
  unfold fZip at g1
  split at g1
  · split at g1
    · rename_i n m l k hl hk
      obtain ⟨x, y, rfl, r, r'⟩ := rx.two
      obtain ⟨a, rfl, ea⟩ := RV.ref_iff.mp r
      obtain ⟨b, rfl, eb⟩ := RV.ref_iff.mp r'
      obtain ⟨zs, h1, h2⟩ := list_at ea .refl r1 hl
      obtain ⟨ws, h3, h4⟩ := list_at eb .refl r1 hk
      refine ⟨a, b, zs, ws, rfl, .inl ⟨h1, h3, g1 H1 p1 .refl r1 _ ?_⟩⟩
      refine ⟨fun i H hi q => ?_, fun H q => ?_, fun i H x H' hi q y p S e' R hc => ?_⟩
      · obtain ⟨p, S, e', R, hc, hc'⟩ := q
        obtain ⟨xs, h1, h2⟩ := list_at ea e' R hc
        obtain ⟨ys, h3, h4⟩ := list_at eb e' R hc'
        have hi : i < min l.length k.length := by rw [← zipD_len]; exact hi
        obtain ⟨x, e1, e2⟩ := h2.get (d := l[i]) (i := i) (by simp [show i < l.length by omega])
        obtain ⟨y, e3, e4⟩ := h4.get (d := k[i]) (i := i) (by simp [show i < k.length by omega])
        exact ⟨xs, ys, x, y, h1, h3, e1, e3⟩
      · obtain ⟨p, S, e', R, hc, hc'⟩ := q
        obtain ⟨xs, h1, h2⟩ := list_at ea e' R hc
        obtain ⟨ys, h3, h4⟩ := list_at eb e' R hc'
        refine ⟨xs, ys, h1, h3, ?_⟩
        rw [← h2.len, ← h4.len]
        show l.length ≤ (zipD l k).length ∨ k.length ≤ (zipD l k).length
        rw [zipD_len]
        omega
      · obtain ⟨T, x, y, rfl, hT, rfl, hx, hy⟩ := y
        obtain ⟨xs, h1, h2⟩ := list_at ea e' R hc.1
        obtain ⟨ys, h3, h4⟩ := list_at eb e' R hc.2
        obtain ⟨d, e1, e2⟩ := h2.get' (hx xs h1)
        obtain ⟨f, e3, e4⟩ := h4.get' (hy ys h3)
        exact ⟨.tup [d, f], zipD_get e1 e3, newpair R hT e2 e4⟩
    · exact g1.elim
  · rename_i l k
    obtain ⟨x, y, rfl, r, r'⟩ := rx.two
    obtain ⟨a, zs, rfl, h1, h2⟩ := RV.tup_iff.mp r
    obtain ⟨b, ws, rfl, h3, h4⟩ := RV.tup_iff.mp r'
    refine ⟨a, b, zs, ws, rfl, .inr (.inl ⟨h1, h3, g1 H1 p1 .refl r1 _ ?_⟩)⟩
    refine ⟨fun i H hi q => ?_, fun H q => ?_, fun i H x H' hi q y p S e' R hc => ?_⟩
    · obtain ⟨p, S, e', R, hc⟩ := q
      have hi : i < min l.length k.length := by rw [← zipD_len]; exact hi
      obtain ⟨x, e1, e2⟩ := h2.get (d := l[i]) (i := i) (by simp [show i < l.length by omega])
      obtain ⟨y, e3, e4⟩ := h4.get (d := k[i]) (i := i) (by simp [show i < k.length by omega])
      exact ⟨zs, ws, x, y, e'.tup _ _ h1, e'.tup _ _ h3, e1, e3⟩
    · obtain ⟨p, S, e', R, hc⟩ := q
      refine ⟨zs, ws, e'.tup _ _ h1, e'.tup _ _ h3, ?_⟩
      rw [← h2.len, ← h4.len]
      show l.length ≤ (zipD l k).length ∨ k.length ≤ (zipD l k).length
      rw [zipD_len]
      omega
    · obtain ⟨T, x, y, rfl, hT, rfl, hx, hy⟩ := y
      obtain ⟨d, e1, e2⟩ := h2.get' (hx zs (e'.tup _ _ h1))
      obtain ⟨f, e3, e4⟩ := h4.get' (hy ws (e'.tup _ _ h3))
      exact ⟨.tup [d, f], zipD_get e1 e3, newpair R hT (RV.mono e' _ _ e2) (RV.mono e' _ _ e4)⟩
  · rename_i l m
    split at g1
    · rename_i k hk
      obtain ⟨x, y, rfl, r, r'⟩ := rx.two
      obtain ⟨a, zs, rfl, h1, h2⟩ := RV.tup_iff.mp r
      obtain ⟨b, rfl, eb⟩ := RV.ref_iff.mp r'
      obtain ⟨ws, h3, h4⟩ := list_at eb .refl r1 hk
      refine ⟨a, b, zs, ws, rfl, .inr (.inr ⟨h1, h3, g1 H1 p1 .refl r1 _ ?_⟩)⟩
      refine ⟨fun i H hi q => ?_, fun H q => ?_, fun i H x H' hi q y p S e' R hc => ?_⟩
      · obtain ⟨p, S, e', R, hc⟩ := q
        obtain ⟨ys, h3, h4⟩ := list_at eb e' R hc
        have hi : i < min l.length k.length := by rw [← zipD_len]; exact hi
        obtain ⟨x, e1, e2⟩ := h2.get (d := l[i]) (i := i) (by simp [show i < l.length by omega])
        obtain ⟨y, e3, e4⟩ := h4.get (d := k[i]) (i := i) (by simp [show i < k.length by omega])
        exact ⟨zs, ys, x, y, e'.tup _ _ h1, h3, e1, e3⟩
      · obtain ⟨p, S, e', R, hc⟩ := q
        obtain ⟨ys, h3, h4⟩ := list_at eb e' R hc
        refine ⟨zs, ys, e'.tup _ _ h1, h3, ?_⟩
        rw [← h2.len, ← h4.len]
        exact (zipD_len l k).symm
      · obtain ⟨T, x, y, rfl, hT, rfl, hx, hy⟩ := y
        obtain ⟨ys, h3, h4⟩ := list_at eb e' R hc
        obtain ⟨d, e1, e2⟩ := h2.get' (hx zs (e'.tup _ _ h1))
        obtain ⟨f, e3, e4⟩ := h4.get' (hy ys h3)
        exact ⟨.tup [d, f], zipD_get e1 e3, newpair R hT (RV.mono e' _ _ e2) e4⟩
    · exact g1.elim
  · exact g1.elim
open Classical in
noncomputable def forRun (g : SG) (b : SS) (chk : Store → Prop) : List D → SS
  | [], env, S => if chk S then .nx env S else .bad
  | d :: l, env, S => if chk S then match g d env S with
    | some e => match b e S with
      | .nx e S2 => forRun g b chk l e S2
      | .ct e S2 => forRun g b chk l e S2
      | .bk e S2 => .nx e S2
      | .rt d S2 => .rt d S2
      | .exc x e S2 => .exc x e S2
      | .bad => .bad
    | none => .bad
    else .bad
noncomputable def sFor (si : SI) (g : SG) (b : SS) : SS := fun env S => (si env S).andS env fun w S1 => forRun g b w.chk w.items env S1
theorem forRun_chk {g : SG} {b : SS} {chk : Store → Prop} {l : List D} {env : Env} {S : Store} (h : forRun g b chk l env S ≠ .bad) : chk S := by
  cases l with
  | nil =>
    unfold forRun at h
    split at h
    · assumption
    · exact absurd rfl h
  | cons d l =>
    unfold forRun at h
    split at h
    · assumption
    · exact absurd rfl h
theorem GoodS.ne {K : PySem.W.Frag} {H : Hp} {p : List Addr} {r : ResS} {E : Ends} (h : GoodS K G H p r E) : r ≠ .bad := fun e => by
  subst e
  exact h
theorem ms_for {g : TG} {sg : SG} {vs : List Nat} {si : SI} (hi : MI X G tg iter si) (hg : PG X tg g) (ht : TgOk X.K vs g sg) (hb : MSs X G body s) (hc : X.calm = true := by rfl)
    (hs : ∀ x, foldedSetIterable iter X.env x = pure x := by intro _; rfl) : MS X G (.For tg iter body [] pos) (sFor si sg s) := fun ok => ps_imp (ps_for ok.po hc (hi ok) hg (hb ok) hs) fun E σ H h => by
  obtain ⟨p, env, S, rs, rst, g0⟩ := h
  refine ⟨p, env, S, rs, rst, (g0.and rs).imp fun w S1 H1 p1 e1 r1 g1 J hw => ?_⟩
  obtain ⟨q1, q2, q3⟩ := g1
  refine for_it hw (fun i σ H => ∃ p env S, Ext X.K H1 H p1 p ∧ Rs X.K H p env σ ∧ RSt X.K H p S ∧ GoodS X.K G H p (forRun sg s w.chk (w.items.drop i) env S) E) ⟨p1, env, S1, .refl, q1, q2, q3⟩ ?_ ?_ ?_
  · rintro i σ H hi ⟨p, env, S, ex, rs, rst, g⟩
    exact ⟨p, S, ex, rst, forRun_chk g.ne⟩
  · rintro i x σ H H' hi ⟨p, env, S, ex, rs, rst, g⟩ hy
    have hck : w.chk S := forRun_chk g.ne
    obtain ⟨d, hd, ex2, rst2, rx⟩ := hy p S ex rst hck
    have hdrop : w.items.drop i = d :: w.items.drop (i + 1) := by
      obtain ⟨h1, h2⟩ := List.getElem?_eq_some_iff.mp hd
      rw [List.drop_eq_getElem_cons h1, h2]
    rw [hdrop] at g
    unfold forRun at g
    rw [if_pos hck] at g
    cases hgd : sg d env S with
    | none => rw [hgd] at g; exact g.elim
    | some e =>
      rw [hgd] at g
      dsimp only at g
      refine ht σ H' p env e S d x _ (rs.mono ex2) rst2 rx hgd fun σ2 rs2 _ => ?_
      refine ⟨p, e, S, rs2, rst2, ?_⟩
      have g := GoodS.at ex2 g
      have ex3 := ex.trans ex2
      cases hb : s e S with
      | nx e' S2 => rw [hb] at g; exact fun σ3 H3 p3 x3 rs3 r3 => ⟨p3, e', S2, ex3.trans x3, rs3, r3, g.at x3⟩
      | ct e' S2 => rw [hb] at g; exact fun σ3 H3 p3 x3 rs3 r3 => ⟨p3, e', S2, ex3.trans x3, rs3, r3, g.at x3⟩
      | bk e' S2 => rw [hb] at g; exact g
      | rt e' S2 => rw [hb] at g; exact g
      | exc y e' S2 => rw [hb] at g; exact g
      | bad => rw [hb] at g; exact g
  · rintro σ H ⟨p, env, S, ex, rs, rst, g⟩
    rw [List.drop_length] at g
    have hck : w.chk S := forRun_chk g.ne
    unfold forRun at g
    rw [if_pos hck] at g
    exact g σ H p .refl rs rst
end
end Rg
namespace Rg
open PySem PySem.Spec PyProof.Rows L2
def wipeD (env : Env) : List Nat → Env
  | [] => env
  | v :: vs => (wipeD env vs).set v none
theorem Rs.wipe {K : PySem.W.Frag} {H : Hp} {p : List Addr} {env : Env} {σ : L2.St} (h : Rs K H p env σ) : ∀ vs : List Nat, Rs K H p (wipeD env vs) (L2.wipe σ vs)
  | [] => h
  | v :: vs => by
    have ih := Rs.wipe h vs
    refine ⟨by simp [wipeD, L2.wipe, ih.1], fun i d q => ?_⟩
    unfold wipeD at q
    unfold L2.wipe
    by_cases hi : v = i
    · subst hi
      by_cases hv : v < (wipeD env vs).length
      · rw [List.getElem?_set_self hv] at q
        cases q
      · rw [List.getElem?_eq_none (by simpa using hv)] at q
        cases q
    · rw [List.getElem?_set_ne hi] at q ⊢
      exact ih.2 i d q
theorem wipe_mem {σ : L2.St} {v : Nat} : ∀ {vs : List Nat}, v ∈ vs → (wipe σ vs).set v none = wipe σ vs
  | [], h => by cases h
  | w :: vs, h => by
    unfold wipe
    by_cases e : v = w
    · subst e
      rw [List.set_set]
    · rw [List.set_comm _ _ (Ne.symm e), wipe_mem ((List.mem_cons.mp h).resolve_left e)]
theorem wipe_sub {σ : L2.St} {vs : List Nat} : ∀ {ws : List Nat}, (∀ i ∈ ws, i ∈ vs) → wipe (wipe σ vs) ws = wipe σ vs
  | [], _ => rfl
  | w :: ws, h => by
    show (wipe (wipe σ vs) ws).set w none = wipe σ vs
    rw [wipe_sub fun i hi => h i (List.mem_cons_of_mem _ hi)]
    exact wipe_mem (h w (by simp))
def Gno (xv : XV) : Gx := ⟨xv, fun _ _ _ _ => False⟩
section
variable {X : Cx} {G : Gx} {e a b c o tg iter elt : Expr} {pos : Pos} {sa sb so : SE} {st su : ST} {es ifs : List Expr} {sr : SA} {s t : SS} {x : Stmt} {rest xs ys body : List Stmt}
def MTs (X : Cx) (G : Gx) (ifs : List Expr) (s : ST) : Prop := Cok X G → PTs X ifs (TTo X.K G s)
def sYes : ST := fun _ S => .ok true S
theorem pts_imp {t t' : TT} (h : PTs X ifs t) (hi : ∀ σ H Q, t' σ H Q → t σ H Q) : PTs X ifs t' := ⟨fun pins s σ H Q I q => h.run pins s σ H Q I (hi _ _ _ q)⟩
theorem mts_nil : MTs X G [] sYes := fun _ => pts_imp pts_nil fun σ H Q h => by
  obtain ⟨p, env, S, rs, rst, g⟩ := h
  exact g H p .refl rst
theorem mts_one (h : MT X G c st) : MTs X G [c] st := fun ok => pts_one (h ok)
open Classical in
noncomputable def compRun (g : SG) (t : ST) (e : SE) (chk : Store → Prop) (n0 : Nat) (env0 : Env) : List D → Store → Res Unit
  | [], S => if chk S then .ok () S else .bad
  | d :: l, S => if chk S then match g d env0 S with
    | some env => match t env S with
      | .ok true S1 => match e env S1 with
        | .ok y S2 => match S2[n0]? with
          | some (.lst acc) => if acc.length < sizeLine then compRun g t e chk n0 env0 l (S2.set n0 (.lst (acc ++ [y]))) else .bad
          | _ => .bad
        | _ => .bad
      | .ok false S1 => compRun g t e chk n0 env0 l S1
      | _ => .bad
    | none => .bad
    else .bad
noncomputable def sComp (si : SI) (g : SG) (t : ST) (e : SE) (vs : List Nat) : SE := fun env S => (si env S).bind fun w S1 => (compRun g t e w.chk S1.length (wipeD env vs) w.items (S1 ++ [.lst []])).bind fun _ S2 => .ok (.ref S1.length) S2
theorem compRun_chk {g : SG} {t : ST} {e : SE} {chk : Store → Prop} {n0 : Nat} {env0 : Env} {l : List D} {S : Store} (h : compRun g t e chk n0 env0 l S ≠ .bad) : chk S := by
  cases l with
  | nil =>
    unfold compRun at h
    split at h
    · assumption
    · exact absurd rfl h
  | cons d l =>
    unfold compRun at h
    split at h
    · assumption
    · exact absurd rfl h
theorem Good.ne {K : PySem.W.Frag} {A : Type} {σ : L2.St} {H : Hp} {p : List Addr} {r : Res A} {P : A → Store → Hp → List Addr → Prop} (h : Good K G σ H p r P) : r ≠ .bad := fun e => by
  subst e
  exact h
theorem lc_of {K : PySem.W.Frag} {g : TG} {sg : SG} {vs us : List Nat} {si : SI} {xv : XV} (ht : TgOk K us g sg) (hus : ∀ i ∈ us, i ∈ vs) {σ : L2.St} {H : Hp} {Q : VK} (h : TEo K G (sComp si sg st sa vs) σ H Q) :
    tLc (TIo K G si) g (TTo K (Gno xv) st) (TEo K (Gno xv) sa) vs σ H Q := by
  obtain ⟨p, env, S, rs, rst, g0⟩ := h
  refine ⟨p, env, S, rs, rst, g0.bind.imp fun w S1 H1 p1 e1 r1 g1 J hw D hD => ?_⟩
  have rs1 : Rs K H1 p1 env σ := rs.mono e1
  have P0 := r1.push (c := .lst []) (o := .lst []) hD ⟨[], upd_same, RVs.nil⟩
  obtain ⟨E0, R0, q0⟩ := P0
  refine lc_it hw (fun i H => ∃ p S, Ext K H1 H p1 p ∧ RSt K H p S ∧ p[S1.length]? = some D ∧ Good K G σ H p ((compRun sg st sa w.chk S1.length (wipeD env vs) (w.items.drop i) S).bind fun _ S2 => .ok (.ref S1.length) S2) (PV K Q)) ⟨_, _, E0, R0, q0, by rw [List.drop_zero]; exact g1.at E0⟩ ?_ ?_ ?_
  · rintro i H hi ⟨p, S, ex, R, q, g⟩
    exact ⟨p, S, ex, R, compRun_chk fun z => g.ne (by rw [z]; rfl)⟩
  · rintro i x H H' hi ⟨p, S, ex, R, q, g⟩ hy
    have hck : w.chk S := compRun_chk fun z => g.ne (by rw [z]; rfl)
    obtain ⟨d, hd, ex2, R2, rx⟩ := hy p S ex R hck
    have hdrop : w.items.drop i = d :: w.items.drop (i + 1) := by
      obtain ⟨h1, h2⟩ := List.getElem?_eq_some_iff.mp hd
      rw [List.drop_eq_getElem_cons h1, h2]
    rw [hdrop] at g
    unfold compRun at g
    rw [if_pos hck] at g
    have ex3 := ex.trans ex2
    have g := g.at ex2
    have rsw : Rs K H' p (wipeD env vs) (wipe σ vs) := (rs1.mono ex3).wipe vs
    cases hgd : sg d (wipeD env vs) S with
    | none => rw [hgd] at g; exact g.elim
    | some env' =>
      rw [hgd] at g
      dsimp only at g
      refine ht (wipe σ vs) H' p (wipeD env vs) env' S d x _ rsw R2 rx hgd fun σ2 rs2 w2 => ⟨(w2 vs hus).trans (wipe_sub fun i hi => hi), ?_⟩
      refine ⟨p, env', S, rs2, R2, ?_⟩
      cases hst : st env' S with
      | ok b S2 =>
        rw [hst] at g
        intro H3 p3 x3 R3
        cases b with
        | false =>
          dsimp only at g ⊢
          rw [if_neg Bool.false_ne_true]
          exact ⟨p3, S2, ex3.trans x3, R3, x3.pre _ _ q, g.at x3⟩
        | true =>
          dsimp only at g ⊢
          rw [if_pos rfl]
          refine ⟨p3, env', S2, rs2.mono x3, R3, ?_⟩
          cases hsa : sa env' S2 with
          | ok y S3 =>
            rw [hsa] at g
            dsimp only at g
            intro H4 p4 x4 R4 v rv
            split at g
            · rename_i acc hacc
              split at g
              · rename_i hz
                have q4 := x4.pre _ _ (x3.pre _ _ q)
                obtain ⟨zs, z1, z2⟩ := R4.cell _ _ D hacc q4
                obtain ⟨E5, R5⟩ := R4.setL hacc q4 (z2.app (RVs.cons rv RVs.nil))
                exact ⟨zs, z1, by rw [← z2.len]; exact hz, p4, _, (ex3.trans (x3.trans x4)).trans E5, R5, q4, g.at ((x3.trans x4).trans E5)⟩
              · exact g.elim
            · exact g.elim
          | exc c S3 => rw [hsa] at g; exact g.elim
          | bad => rw [hsa] at g; exact g.elim
      | exc c S2 => rw [hst] at g; exact g.elim
      | bad => rw [hst] at g; exact g.elim
  · rintro H ⟨p, S, ex, R, q, g⟩
    rw [List.drop_length] at g
    have hck : w.chk S := compRun_chk fun z => g.ne (by rw [z]; rfl)
    unfold compRun at g
    rw [if_pos hck] at g
    exact g H p .refl R _ (RV.ref_iff.mpr ⟨D, rfl, q⟩)
theorem me_lc {scope : Scope} {own : List (Str × Nat)} {g : TG} {sg : SG} {us : List Nat} {si : SI} (hN : X.N.Nodup) (hi : MI X G tg iter si) (ok : BlkOk X.N X.env.scope scope own)
    (hg : ∀ (s : Shared) (H : Hp) (C : Addr) (cl : List (Str × Addr)) (fp : List Addr), PG (X.blk s H scope (compEnvC scope cl C X.env) fp) tg g) (ht : TgOk X.K us g sg) (hus : ∀ i ∈ us, i ∈ own.map (·.2))
    (htt : ∀ (s : Shared) (H : Hp) (C : Addr) (cl : List (Str × Addr)) (fp : List Addr), MTs (X.blk s H scope (compEnvC scope cl C X.env) fp) (Gno G.xv) ifs st)
    (he : ∀ (s : Shared) (H : Hp) (C : Addr) (cl : List (Str × Addr)) (fp : List Addr), ME (X.blk s H scope (compEnvC scope cl C X.env) fp) (Gno G.xv) elt sa) (hc : X.calm = true := by rfl) (hs : ∀ x, foldedSetIterable iter X.env x = pure x := by intro _; rfl) :
    ME X G (.ListComp elt [⟨tg, iter, ifs, 0⟩] scope pos) (sComp si sg st sa (own.map (·.2))) := fun ck =>
  pe_imp (pe_lc hc hN (hi ck) ok hg (fun s H C cl fp => htt s H C cl fp ⟨takesN_0, PassesOwn.never⟩) (fun s H C cl fp => he s H C cl fp ⟨takesN_0, PassesOwn.never⟩) hs) fun σ H Q h => lc_of (xv := G.xv) ht hus h
theorem ms_setLc {i : Nat} {y : Str} {py : Pos} {spos : Pos} {scope : Scope} {own : List (Str × Nat)} {g : TG} {sg : SG} {us : List Nat} {si : SI} (hN : X.N.Nodup) (hi : MI X G tg iter si) (ok : BlkOk X.N X.env.scope scope own)
    (hg : ∀ (s : Shared) (H : Hp) (C : Addr) (cl : List (Str × Addr)) (fp : List Addr), PG (X.blk s H scope (compEnvC scope cl C X.env) fp) tg g) (ht : TgOk X.K us g sg) (hus : ∀ i ∈ us, i ∈ own.map (·.2))
    (htt : ∀ (s : Shared) (H : Hp) (C : Addr) (cl : List (Str × Addr)) (fp : List Addr), MTs (X.blk s H scope (compEnvC scope cl C X.env) fp) (Gno G.xv) ifs st)
    (he : ∀ (s : Shared) (H : Hp) (C : Addr) (cl : List (Str × Addr)) (fp : List Addr), ME (X.blk s H scope (compEnvC scope cl C X.env) fp) (Gno G.xv) elt sa)
    (hsw : swapsWith (.ListComp elt [⟨tg, iter, ifs, 0⟩] scope pos) (some (.Name y py)) spos.line X.env = pure true) (hy : X.N[i]? = some y := by rfl) (hyl : X.env.scope.names.lookup y = some .local := by rfl) (hc : X.calm = true := by rfl) (hs : ∀ x, foldedSetIterable iter X.env x = pure x := by intro _; rfl) :
    MS X G (.Assign [.Name y py] (.ListComp elt [⟨tg, iter, ifs, 0⟩] scope pos) spos) (sSet i (sComp si sg st sa (own.map (·.2)))) := fun ck =>
  ps_imp (L2.ps_setLc hc hN hy hyl hsw (hi ck) ok hg (fun s H C cl fp => htt s H C cl fp ⟨takesN_0, PassesOwn.never⟩) (fun s H C cl fp => he s H C cl fp ⟨takesN_0, PassesOwn.never⟩) hs) fun E σ H h => by
    obtain ⟨p, env, S, rs, rst, g⟩ := h
    refine lc_of (G := G) (xv := G.xv) (Q := fun x H1 => gName i x σ H1 E.nx) ht hus ⟨p, env, S, rs, rst, (g.and rs).imp fun d S1 H1 p1 e1 r1 g1 v rv => ?_⟩
    exact g1.2.2 _ H1 p1 .refl (g1.1.set i rv) g1.2.1
def fRev (d : D) (S : Store) : Res Wk := match d with
  | .tup l => .ok ⟨l.reverse, fun _ => True⟩ S
  | .ref n => match lstOf S n with
    | some l => .ok ⟨l.reverse, fun S => lstOf S n = some l⟩ S
    | none => .bad
  | _ => .bad
def sRev (s : SE) : SI := fun env S => (s env S).bind fun d S1 => fRev d S1
end
mutual
/-- no reference to a thing from N on -/
def D.under (N : Nat) : D → Bool
  | .ref n => decide (n < N)
  | .tup l => unders N l
  | _ => true
def unders (N : Nat) : List D → Bool
  | [] => true
  | d :: l => d.under N && unders N l
end
mutual
/-- each reference from N on is n -/
def D.only (N n : Nat) : D → Bool
  | .ref m => decide (m < N) || decide (m = n)
  | .tup l => onlys N n l
  | _ => true
def onlys (N n : Nat) : List D → Bool
  | [] => true
  | d :: l => d.only N n && onlys N n l
end
mutual
/-- references from N on become N -/
def D.subst (N : Nat) : D → D
  | .ref m => .ref (if m < N then m else N)
  | .tup l => .tup (substs N l)
  | d => d
def substs (N : Nat) : List D → List D
  | [] => []
  | d :: l => d.subst N :: substs N l
end
mutual
/-- a reference from N on, if any -/
def D.fresh (N : Nat) : D → Option Nat
  | .ref m => if m < N then none else some m
  | .tup l => freshs N l
  | _ => none
def freshs (N : Nat) : List D → Option Nat
  | [] => none
  | d :: l => (d.fresh N).or (freshs N l)
end
def Cell.under (N : Nat) : Cell → Bool
  | .lst l => unders N l
  | .fro l => unders N l
  | .dct => true
  | .ins _ fs => unders N (fs.map (·.2))
  | .xcp _ => true
  | .dn ks => unders N ks
def Kept (S0 S1 : Store) : Prop := S0.length ≤ S1.length ∧ ∀ n, n < S0.length → S1[n]? = S0[n]? ∨ ∃ c, S1[n]? = some c ∧ c.under S0.length = true
open Classical in
noncomputable def gc (S0 : Store) (d : D) (S1 : Store) : Res D :=
  if Kept S0 S1 then match d.fresh S0.length with
    | none => .ok d (S1.take S0.length)
    | some n => if d.only S0.length n = true then match S1[n]? with
        | some (.lst l) => if unders S0.length l = true then .ok (d.subst S0.length) (S1.take S0.length ++ [.lst l]) else .ok d S1
        | _ => .ok d S1
      else .ok d S1
  else .ok d S1
noncomputable def mkDef (n np : Nat) (body : SS) : Mf := fun ds S => if ds.length = np then match body (ds.map some ++ List.replicate (n - ds.length) none) S with
    | .rt d S1 => gc S d S1
    | .nx _ S1 => gc S .non S1
    | .exc c _ S1 => .exc c S1
    | _ => .bad
  else .bad
mutual
theorem fresh_none {N n : Nat} : ∀ (d : D), d.fresh N = none → d.under N = true
  | .non, _ => rfl
  | .bl _, _ => rfl
  | .int _, _ => rfl
  | .str _, _ => rfl
  | .ref m, h => by
    unfold D.fresh at h
    unfold D.under
    split at h
    · simpa
    · cases h
  | .tup l, h => by
    unfold D.fresh at h
    unfold D.under
    exact freshs_none (n := n) l h
theorem freshs_none {N n : Nat} : ∀ (l : List D), freshs N l = none → unders N l = true
  | [], _ => rfl
  | d :: l, h => by
    unfold freshs at h
    unfold unders
    cases hd : d.fresh N with
    | some m => rw [hd] at h; cases h
    | none =>
      rw [hd] at h
      rw [fresh_none (n := n) d hd, freshs_none (n := n) l (by simpa using h)]
      rfl
end
mutual
theorem fresh_ge {N n : Nat} : ∀ (d : D), d.fresh N = some n → N ≤ n
  | .ref m, h => by
    unfold D.fresh at h
    split at h
    · cases h
    · cases h; omega
  | .tup l, h => by
    unfold D.fresh at h
    exact freshs_ge l h
theorem freshs_ge {N n : Nat} : ∀ (l : List D), freshs N l = some n → N ≤ n
  | d :: l, h => by
    unfold freshs at h
    cases hd : d.fresh N with
    | some m =>
      rw [hd] at h
      cases h
      exact fresh_ge d hd
    | none =>
      rw [hd] at h
      exact freshs_ge l (by simpa using h)
end
section
variable {K : PySem.W.Frag} {H H' : Hp} {p p' q : List Addr}
mutual
theorem RV.under : ∀ (d : D) (v : V), RV K H p d v → d.under p.length = true
  | .non, _, _ => rfl
  | .bl _, _, _ => rfl
  | .int _, _, _ => rfl
  | .str _, _, _ => rfl
  | .ref m, v, h => by
    obtain ⟨a, rfl, e⟩ := RV.ref_iff.mp h
    unfold D.under
    exact decide_eq_true (List.getElem?_eq_some_iff.mp e).1
  | .tup l, v, h => by
    obtain ⟨a, xs, rfl, _, r⟩ := RV.tup_iff.mp h
    unfold D.under
    exact RVs.under l xs r
theorem RVs.under : ∀ (l : List D) (xs : List V), RVs K H p l xs → unders p.length l = true
  | [], _, _ => rfl
  | d :: l, _, h => by
    obtain ⟨x, r, rfl, h2, h3⟩ := RVs.cons_iff.mp h
    unfold unders
    rw [RV.under d x h2, RVs.under l r h3]
    rfl
end
mutual
theorem RV.down {N : Nat} (e : ∀ n, n < N → q[n]? = p[n]?) : ∀ (d : D) (v : V), d.under N = true → RV K H p d v → RV K H q d v
  | .non, _, _, h => by rw [RV.non_iff] at h ⊢; exact h
  | .bl _, _, _, h => by rw [RV.bl_iff] at h ⊢; exact h
  | .int _, _, _, h => by rw [RV.int_iff] at h ⊢; exact h
  | .str _, _, _, h => by rw [RV.str_iff] at h ⊢; exact h
  | .ref m, v, b, h => by
    obtain ⟨a, rfl, x⟩ := RV.ref_iff.mp h
    unfold D.under at b
    exact RV.ref_iff.mpr ⟨a, rfl, by rw [e m (of_decide_eq_true b)]; exact x⟩
  | .tup l, v, b, h => by
    obtain ⟨a, xs, rfl, x, r⟩ := RV.tup_iff.mp h
    unfold D.under at b
    exact RV.tup_iff.mpr ⟨a, xs, rfl, x, RVs.down e l xs b r⟩
theorem RVs.down {N : Nat} (e : ∀ n, n < N → q[n]? = p[n]?) : ∀ (l : List D) (xs : List V), unders N l = true → RVs K H p l xs → RVs K H q l xs
  | [], _, _, h => by rw [RVs.nil_iff] at h ⊢; exact h
  | d :: l, _, b, h => by
    obtain ⟨x, r, rfl, h2, h3⟩ := RVs.cons_iff.mp h
    unfold unders at b
    rw [Bool.and_eq_true] at b
    exact RVs.cons (RV.down e d x b.1 h2) (RVs.down e l r b.2 h3)
end
mutual
theorem RV.subst {N n : Nat} (e : ∀ m, m < N → q[m]? = p[m]?) (en : q[N]? = p[n]?) : ∀ (d : D) (v : V), d.only N n = true → RV K H p d v → RV K H q (d.subst N) v
  | .non, _, _, h => by unfold D.subst; rw [RV.non_iff] at h ⊢; exact h
  | .bl _, _, _, h => by unfold D.subst; rw [RV.bl_iff] at h ⊢; exact h
  | .int _, _, _, h => by unfold D.subst; rw [RV.int_iff] at h ⊢; exact h
  | .str _, _, _, h => by unfold D.subst; rw [RV.str_iff] at h ⊢; exact h
  | .ref m, v, b, h => by
    obtain ⟨a, rfl, x⟩ := RV.ref_iff.mp h
    unfold D.only at b
    unfold D.subst
    refine RV.ref_iff.mpr ⟨a, rfl, ?_⟩
    by_cases hm : m < N
    · rw [if_pos hm, e m hm]; exact x
    · have : m = n := by simpa [hm] using b
      subst this
      rw [if_neg hm, en]; exact x
  | .tup l, v, b, h => by
    obtain ⟨a, xs, rfl, x, r⟩ := RV.tup_iff.mp h
    unfold D.only at b
    unfold D.subst
    exact RV.tup_iff.mpr ⟨a, xs, rfl, x, RVs.subst e en l xs b r⟩
theorem RVs.subst {N n : Nat} (e : ∀ m, m < N → q[m]? = p[m]?) (en : q[N]? = p[n]?) : ∀ (l : List D) (xs : List V), onlys N n l = true → RVs K H p l xs → RVs K H q (substs N l) xs
  | [], _, _, h => by unfold substs; rw [RVs.nil_iff] at h ⊢; exact h
  | d :: l, _, b, h => by
    obtain ⟨x, r, rfl, h2, h3⟩ := RVs.cons_iff.mp h
    unfold onlys at b
    rw [Bool.and_eq_true] at b
    unfold substs
    exact RVs.cons (RV.subst e en d x b.1 h2) (RVs.subst e en l r b.2 h3)
end
theorem RC.down {N : Nat} (e : ∀ n, n < N → q[n]? = p[n]?) {a : Addr} {c : Cell} (b : c.under N = true) (h : RC K H p a c) : RC K H q a c := by
  cases c with
  | lst l => obtain ⟨xs, h1, h2⟩ := h; exact ⟨xs, h1, RVs.down e _ _ b h2⟩
  | fro l => obtain ⟨xs, h1, h2⟩ := h; exact ⟨xs, h1, RVs.down e _ _ b h2⟩
  | dct => exact h
  | ins C fs => obtain ⟨dx, vs, h1, h2, h3⟩ := h; exact ⟨dx, vs, h1, h2, RVs.down e _ _ b h3⟩
  | xcp x => exact h
  | dn ks => obtain ⟨xs, h1, h2, h3⟩ := h; exact ⟨xs, h1, RVs.down e _ _ b h2, h3⟩
theorem RC.under {a : Addr} {c : Cell} (h : RC K H p a c) : c.under p.length = true := by
  cases c with
  | lst l => obtain ⟨xs, h1, h2⟩ := h; exact RVs.under _ _ h2
  | fro l => obtain ⟨xs, h1, h2⟩ := h; exact RVs.under _ _ h2
  | dct => rfl
  | ins C fs => obtain ⟨dx, vs, h1, h2, h3⟩ := h; exact RVs.under _ _ h3
  | xcp x => rfl
  | dn ks => obtain ⟨xs, h1, h2, h3⟩ := h; exact RVs.under _ _ h2
theorem RSt.lt {S : Store} {n : Nat} {a : Addr} (R : RSt K H p S) (h : p[n]? = some a) : n < S.length := by
  rw [← R.len]; exact (List.getElem?_eq_some_iff.mp h).1
theorem gc_ok {S0 S1 : Store} {d : D} {v : V} {P : D → Store → Hp → List Addr → Prop} {G : Gx} {σ : L2.St} (r0 : RSt K H p S0) (x : Ext K H H' p p') (r : RSt K H' p' S1) (rv : RV K H' p' d v)
    (g : Good K G σ H p (gc S0 d S1) P) : ∃ d' S' p'', P d' S' H' p'' ∧ RV K H' p'' d' v := by
  have plain : P d S1 H' p' → ∃ d' S' p'', P d' S' H' p'' ∧ RV K H' p'' d' v := fun h => ⟨d, S1, p', h, rv⟩
  unfold gc at g
  split at g
  · rename_i kept
    have hp : p.length = S0.length := r0.len
    have hag : ∀ n, n < S0.length → p[n]? = p'[n]? := fun n hn => by
      have e : p[n]? = some (p[n]'(by omega)) := List.getElem?_eq_getElem _
      rw [x.pre n _ e]
      exact e
    -- the cells that stood
    have cell : ∀ (n : Nat) (c : Cell) (a : Addr), n < S0.length → S1[n]? = some c → p[n]? = some a → c.under S0.length = true ∧ RC K H' p' a c := fun n c a hn e1 e2 => by
      refine ⟨?_, r.cell n c a e1 (x.pre n a e2)⟩
      rcases kept.2 n hn with z | ⟨c', z, b⟩
      · rw [z] at e1
        rw [← hp]
        exact (r0.cell n c a e1 e2).under
      · rw [z] at e1
        cases e1
        exact b
    split at g
    · rename_i hf
      have b := fresh_none (n := 0) d hf
      refine ⟨d, S1.take S0.length, p, g H' p ⟨fun _ _ h => h, x.tup⟩ ⟨?_, fun n c a e1 e2 => ?_, fun m n a c c' e1 e2 m1 m2 e3 e4 => ?_⟩, RV.down hag d v b rv⟩
      · rw [List.length_take, hp]; have := kept.1; omega
      · have hn : n < S0.length := r0.lt e2
        rw [List.getElem?_take_of_lt hn] at e1
        obtain ⟨b, h⟩ := cell n c a hn e1 e2
        exact h.down hag b
      · have hm : m < S0.length := r0.lt e3
        have hn : n < S0.length := r0.lt e4
        rw [List.getElem?_take_of_lt hm] at e1
        rw [List.getElem?_take_of_lt hn] at e2
        exact r.inj m n a c c' e1 e2 m1 m2 (x.pre _ _ e3) (x.pre _ _ e4)
    · rename_i k hf
      have hk := fresh_ge d hf
      split at g
      · rename_i ho
        split at g
        · rename_i l hl
          split at g
          · rename_i bl
            have hk1 : k < S1.length := (List.getElem?_eq_some_iff.mp hl).1
            have hk2 : k < p'.length := by rw [r.len]; exact hk1
            have ek : p'[k]? = some (p'[k]'hk2) := List.getElem?_eq_getElem _
            generalize p'[k]'hk2 = qa at ek
            have len0 : (S1.take S0.length).length = S0.length := by rw [List.length_take]; have := kept.1; omega
            have up : ∀ n, n < S0.length → (p ++ [qa])[n]? = p'[n]? := fun n hn => by
              rw [List.getElem?_append_left (by omega)]
              exact hag n hn
            have un : (p ++ [qa])[S0.length]? = p'[k]? := by
              rw [List.getElem?_append_right (by omega), hp, ek]
              simp
            -- the places that stood, and the new one
            have place : ∀ (n : Nat) (c : Cell) (a : Addr), (S1.take S0.length ++ [.lst l])[n]? = some c → (p ++ [qa])[n]? = some a → (n < S0.length ∧ S1[n]? = some c ∧ p[n]? = some a ∧ p'[n]? = some a) ∨ (n = S0.length ∧ c = .lst l ∧ p'[k]? = some a) := fun n c a e1 e2 => by
              rcases Nat.lt_or_ge n S0.length with hn | hn
              · rw [List.getElem?_append_left (by omega), List.getElem?_take_of_lt hn] at e1
                rw [List.getElem?_append_left (by omega)] at e2
                exact .inl ⟨hn, e1, e2, x.pre _ _ e2⟩
              · have hn2 : n < S0.length + 1 := by
                  have := (List.getElem?_eq_some_iff.mp e1).1
                  rw [List.length_append, len0] at this
                  simpa using this
                have hn3 : n = S0.length := by omega
                subst hn3
                rw [un] at e2
                rw [List.getElem?_append_right (by omega), len0] at e1
                simp at e1
                exact .inr ⟨rfl, e1.symm, e2⟩
            refine ⟨d.subst S0.length, S1.take S0.length ++ [.lst l], p ++ [qa], g H' (p ++ [qa]) ⟨fun n a e => ?_, x.tup⟩ ⟨?_, fun n c a e1 e2 => ?_, fun m n a c c' e1 e2 m1 m2 e3 e4 => ?_⟩, RV.subst up un d v ho rv⟩
            · rw [List.getElem?_append_left (by rw [hp]; exact r0.lt e)]
              exact e
            · rw [List.length_append, List.length_append, len0, hp]; rfl
            · rcases place n c a e1 e2 with ⟨hn, q1, q2, q3⟩ | ⟨rfl, rfl, q3⟩
              · obtain ⟨b, h⟩ := cell n c a hn q1 q2
                exact h.down up b
              · exact (r.cell k _ a hl q3).down up bl
            · rcases place m c a e1 e3 with ⟨hm, q1, q2, q3⟩ | ⟨rfl, rfl, q3⟩ <;> rcases place n c' a e2 e4 with ⟨hn, w1, w2, w3⟩ | ⟨rfl, rfl, w3⟩
              · exact r.inj m n a c c' q1 w1 m1 m2 q3 w3
              · have := r.inj m k a _ _ q1 hl m1 rfl q3 w3
                omega
              · have := r.inj n k a _ _ w1 hl m2 rfl w3 q3
                omega
              · rfl
          · exact plain (g H' p' x r)
        · exact plain (g H' p' x r)
      · exact plain (g H' p' x r)
  · exact plain (g H' p' x r)
end
theorem start_rs {K : PySem.W.Frag} {H : Hp} {p : List Addr} {N : List Str} {ds : List D} {vs : List V} (h : RVs K H p ds vs) : Rs K H p (ds.map some ++ List.replicate (N.length - ds.length) none) (L2.start N vs) := by
  have e := h.len
  unfold L2.start
  refine ⟨by simp [e], fun i d q => ?_⟩
  by_cases hi : i < ds.length
  · rw [List.getElem?_append_left (by simpa using hi), List.getElem?_map] at q
    have q' : ds[i]? = some d := by
      cases hd : ds[i]? with
      | none => rw [hd] at q; cases q
      | some x => rw [hd] at q; cases q; rfl
    obtain ⟨v, e1, e2⟩ := h.get q'
    refine ⟨v, ?_, e2⟩
    rw [List.getElem?_append_left (by simp; omega), List.getElem?_map, e1]
    rfl
  · rw [List.getElem?_append_right (by simpa using hi)] at q
    obtain ⟨h1, h2⟩ := List.getElem?_eq_some_iff.mp q
    simp at h2
section
variable {P : Program} {w : World} {K : PySem.W.Frag} {mg : Str → Option Value} {base : Heap} {x qual : Str} {st : Stmt} {dvs : List V} {kws : List (Str × V)} {f : Addr} {fd : FuncData}
theorem fn_def {N ps : List Str} {k n np : Nat} {body : SS} {xv : XV} (F : FunD K x qual (defArgs st) (defBody st) (defScope st) dvs kws f fd) (S : FnScope N ps (defScope st))
    (hbody : ∀ (cdv : Value) (A : Around) (outer : List PySem.Env) (s : Shared) (H : Hp) (E : XK), Room k (A.deeper (envOfC qual (defScope st) s.heap.objs.size f cdv)) →
      MSs (cxOf (CXn xv.nn P w) P w K mg base N qual (defScope st) f cdv A outer s H E) ⟨xv, fun cls d _ H => E cls d H⟩ (defBody st) body) (hn : N.length = n := by rfl) (hp : ps.length = np := by rfl) : FnOk P w K mg base (CXn xv.nn P w) (k + 1) f fd ps (SpOf K xv (mkDef n np body)) := by
  subst hn hp
  refine F.ok S (fun vs H Q E h => ?_) fun cdv A outer s H vs Q E hr h => ?_
  · obtain ⟨ds, p, S0, r, rst, g⟩ := h
    unfold mkDef at g
    split at g
    · rename_i hl
      rw [← r.len]
      exact hl
    · exact g.elim
  · obtain ⟨ds, p, S0, r, rst, g⟩ := h
    refine ⟨_, hbody cdv A outer s H E hr ⟨takesN_of rfl rfl rfl rfl, passes_of rfl⟩, p, _, S0, start_rs r, rst, ?_⟩
    unfold mkDef at g
    split at g
    · cases hb : body (ds.map some ++ List.replicate (N.length - ds.length) none) S0 with
      | rt d S1 =>
        rw [hb] at g
        exact fun v H' p' x r' rv => let ⟨_, _, _, q, rv'⟩ := gc_ok rst x r' rv g; q v rv'
      | nx e S1 =>
        rw [hb] at g
        exact fun σ' H' p' x _ r' => let ⟨_, _, _, q, rv'⟩ := gc_ok rst x r' (RV.non_iff.mpr rfl) g; q _ rv'
      | exc c e S1 => rw [hb] at g; exact fun σ' H' p' x _ r' => g H' p' x r'
      | bk e S1 => rw [hb] at g; exact g.elim
      | ct e S1 => rw [hb] at g; exact g.elim
      | bad => rw [hb] at g; exact g.elim
    · exact g.elim
theorem _root_.L2.FunD.lk (F : FunD K x qual (defArgs st) (defBody st) (defScope st) dvs kws f fd) : ∃ oc od osl, K.lookup f = some ⟨oc, od, .func fd, osl⟩ := by
  obtain ⟨oc, od, dV, kV, doc, pm, an, cdv, ct, osl, rfl, lk, _⟩ := F.ex
  exact ⟨oc, od, osl, lk⟩
structure FAt (K : PySem.W.Frag) (x : Str) (st : Stmt) (dvs : List V) : Prop where
  ex : ∃ (f : Addr) (fd : FuncData), PySem.W.nsIn K mainGlobals x = some (some (.ref f)) ∧ FunD K x x (defArgs st) (defBody st) (defScope st) dvs [] f fd
end
structure DefOk (P : Program) (w : World) (K : PySem.W.Frag) (mg : Str → Option Value) (base : Heap) (xv : XV) (x : Str) (k : Nat) (ps : List Str) (m : Mf) : Prop where
  ex : ∃ (f : Addr) (fd : FuncData), mg x = some (.ref f) ∧ PySem.W.keepIn K (.ref f) = true ∧ Binds K fd ps [] ∧ FnOk P w K mg base (CXn xv.nn P w) k f fd ps (SpOf K xv m) ∧ ∃ oc od osl, K.lookup f = some ⟨oc, od, .func fd, osl⟩
section
variable {X : Cx} {G : Gx} {e : Expr} {es : List Expr} {sr : SA} {pos : Pos}
theorem me_fn {x : Str} {p : Pos} {k j : Nat} {ps : List Str} {m : Mf} (F : DefOk X.prog X.w X.K X.mg X.base G.xv x k ps m) (hr : Room j X.A) (ha : MA X G (e :: es) sr) (hj : k ≤ j := by decide)
    (hg : Gl X x := by rfl) (hdb : (x == ("__debug__" : Str)) = false := by decide) (he : starEach (e :: es) X.env = (false, eval e X.env) :: starEach es X.env := by rfl) (hpl : (backTo pos (starEach es X.env)).any (·.1) = false := by rfl) :
    ME X G (.Call (.Name x p) (e :: es) [] pos) (sCall m sr) := by
  obtain ⟨f, fd, h1, h2, h3, h4, _⟩ := F.ex
  exact me_call h4 hr hj h1 h2 h3 ha hg hdb he hpl
end
section
variable {P : Program} {w : World} {K : PySem.W.Frag} {mg : Str → Option Value} {base h : Heap}
theorem defok_mk {x : Str} {st : Stmt} {N ps : List Str} {k n np : Nat} {body : SS} {xv : XV} (X : K.In h) (G : h.Ns mainGlobals mg) (F : FAt K x st []) (S : FnScope N ps (defScope st))
    (hb : ∀ (kV doc pm : Value) (an : Option Addr) (cdv ct : Value) (us : List Value), us.length = ps.length → bindArgs (PySem.W.fnOf x x (defArgs st) (defBody st) (defScope st) .none kV doc pm an cdv ct) ⟨us, []⟩ = pure (ps.zip us))
    (hbody : ∀ (f : Addr) (cdv : Value) (A : Around) (outer : List PySem.Env) (s : Shared) (H : Hp) (E : XK), Room k (A.deeper (envOfC x (defScope st) s.heap.objs.size f cdv)) →
      MSs (cxOf (CXn xv.nn P w) P w K mg base N x (defScope st) f cdv A outer s H E) ⟨xv, fun cls d _ H => E cls d H⟩ (defBody st) body) (hn : N.length = n := by rfl) (hp : ps.length = np := by rfl) : DefOk P w K mg base xv x (k + 1) ps (mkDef n np body) := by
  obtain ⟨f, fd, a, F⟩ := F.ex
  exact ⟨f, fd, PySem.W.mg_of X G a, F.kp, F.bindsN hb, fn_def F S (hbody f) hn hp, F.lk⟩
theorem defok_mkD {x : Str} {st : Stmt} {N ps : List Str} {dvs : List V} {k n np : Nat} {body : SS} {xv : XV} (X : K.In h) (G : h.Ns mainGlobals mg) (F : FAt K x st dvs) (hd : dvs ≠ []) (S : FnScope N ps (defScope st))
    (hb : ∀ (T : Addr) (kV doc pm : Value) (an : Option Addr) (cdv ct : Value) (us its : List Value), us.length = ps.length → its.length = dvs.length →
      ∃ k, bindArgs (PySem.W.fnOf x x (defArgs st) (defBody st) (defScope st) (.ref T) kV doc pm an cdv ct) ⟨us, []⟩ = seqItems? (.ref T) >>= k ∧ k (some its.toArray) = pure (ps.zip (us ++ its.drop dvs.length)))
    (hbody : ∀ (f : Addr) (cdv : Value) (A : Around) (outer : List PySem.Env) (s : Shared) (H : Hp) (E : XK), Room k (A.deeper (envOfC x (defScope st) s.heap.objs.size f cdv)) →
      MSs (cxOf (CXn xv.nn P w) P w K mg base N x (defScope st) f cdv A outer s H E) ⟨xv, fun cls d _ H => E cls d H⟩ (defBody st) body) (hn : N.length = n := by rfl) (hp : ps.length = np := by rfl) : DefOk P w K mg base xv x (k + 1) ps (mkDef n np body) := by
  obtain ⟨f, fd, a, F⟩ := F.ex
  obtain ⟨ds, e1, e2⟩ := F.binds1 ps.length dvs.length hd (by omega) hb
  have e3 : ds = [] := by
    have := e1.length
    rw [List.drop_length] at this
    exact List.length_eq_zero_iff.mp this.symm
  subst e3
  exact ⟨f, fd, PySem.W.mg_of X G a, F.kp, e2, fn_def F S (hbody f) hn hp, F.lk⟩
end
theorem law_sp {K : PySem.W.Frag} {xv : XV} {m : Mf} {H : Hp} {a : Addr} {ns : List Int} (hO : Only H) (hS : SqL K H a (ns.map V.int)) (S' : Store) (h : m [.ref 0] [.fro (ns.map D.int)] = .ok (.bl true) S') :
    SpOf K xv m [.ref a] H (fun v _ => v = .bl true) fun _ _ _ => False := by
  have hf : FroX K H a (ns.map V.int) := by
    rcases hS with (h | h) | h
    · rcases hO a with z | ⟨o, xs, z⟩
      · rw [z] at h; cases h
      · rw [z] at h; cases h
    · exact .inl h
    · exact .inr h
  have ri : ∀ ns : List Int, RVs K H [a] (ns.map D.int) (ns.map V.int) := by
    intro ns
    induction ns with
    | nil => exact RVs.nil
    | cons n r ih => exact RVs.cons (RV.int_iff.mpr rfl) ih
  refine ⟨[.ref 0], [a], [.fro (ns.map D.int)], RVs.cons (RV.ref_iff.mpr ⟨a, rfl, rfl⟩) RVs.nil, ⟨rfl, fun n c b e1 e2 => ?_, fun m n b c c' e1 e2 m1 m2 e3 e4 => ?_⟩, ?_⟩
  · cases n with
    | zero =>
      cases e1
      cases e2
      exact ⟨_, hf, ri ns⟩
    | succ n => simp at e1
  · cases m with
    | zero => cases e1; cases m1
    | succ m => simp at e1
  · rw [h]
    exact fun H' p' _ _ v rv => RV.bl_iff.mp rv
end Rg
namespace Rg
open PySem PySem.Spec PyProof.Rows L2
structure CAt (K : PySem.W.Frag) (mg : Str → Option Value) (x : Str) (d : D) : Prop where
  ex : ∃ (v : V) (u : Value), mg x = some u ∧ RelV v u ∧ KD K d v
theorem cx_no {P : Program} {w : World} {H : Hp} {s s' : Shared} {e : Value} (z : L2.CX P w [] H s (fun _ _ _ => False) e s') : False := by
  obtain ⟨_, _, _, _, _, _, _, _, _, _, _, _, q⟩ := z
  exact q.elim
theorem law_end {P : Program} {w : World} {K : PySem.W.Frag} {mg : Str → Option Value} {h : Heap} {fa : Addr} {k : Nat} {ps : List Str} {m : Mf} {x : Str} {st : Stmt} {xv : XV} (X : K.In h) (G : h.Ns mainGlobals mg) (hfa : mg x = some (.ref fa)) (F : FAt K x st [])
    (hb : ∀ (kV doc pm : Value) (an : Option Addr) (cdv ct : Value) (u : Value), bindArgs (PySem.W.fnOf x x (defArgs st) (defBody st) (defScope st) .none kV doc pm an cdv ct) ⟨[u], []⟩ = pure [(ps.headD x, u)])
    (hp : ps = [ps.headD x])
    (ok : ∀ base : Heap, K.In base → base.Ns mainGlobals mg → DefOk P w K mg base xv x k ps m) :
    ∃ fd : FuncData, (∀ (s : Shared) (u : Value), BindsTo s fd ⟨[u], []⟩ [(ps.headD x, u)]) ∧ ∀ base : Heap, K.In base → base.Ns mainGlobals mg → FnOk P w K mg base (CXn xv.nn P w) k fa fd [ps.headD x] (SpOf K xv m) := by
  obtain ⟨f, fd, a, F⟩ := F.ex
  have e := hfa.symm.trans (PySem.W.mg_of X G a)
  cases e
  have F0 := F
  obtain ⟨oc, od, dV, kV, doc, pm, an, cdv, ct, osl, rfl, lk, hcd, hD, hK⟩ := F.ex
  have hdv : dV = .none := by
    rcases hD with ⟨_, e⟩ | ⟨e, _⟩
    · exact e
    · exact absurd rfl e
  subst hdv
  refine ⟨_, fun s u => .of_eq (hb kV doc pm an cdv ct u), fun base h1 h2 => ?_⟩
  obtain ⟨f', fd', g1, g2, g3, g4, oc', od', osl', lk'⟩ := (ok base h1 h2).ex
  have e2 := hfa.symm.trans g1
  cases e2
  rw [← hp]
  rw [lk] at lk'
  cases lk'
  exact g4
end Rg
namespace Rg
open PySem PySem.Spec PyProof.Rows L2
section
variable {X : Cx} {G : Gx} {e a b c o : Expr} {pos : Pos} {sa sb so : SE} {st : ST} {es : List Expr} {sr : SA}
def sDct : SE := fun _ S => .ok (.ref S.length) (S ++ [.dct])
def fCountB : D → List D → Store → Res D := fun d ds S => match d, ds with
  | .ref n, [.bl k] => match (lstOf S n).bind boolsD with
    | some bs => .ok (.int (bs.count k : Nat)) S
    | none => .bad
  | _, _ => .bad
end
end Rg
namespace Rg
open PySem PySem.Spec PyProof.Rows L2
section
variable {prog : Program} {w : World} {A : Around} {E : Value → Shared → Prop} {s : Shared} {it l : Addr} {items : Array Value}
structure OwnSrc (prog : Program) (w : World) (T : String) (r d : Addr) (n : Nat) (P : Nat → Value → Prop) (St : Nat → Heap → Prop) : Prop where
  type : ∀ s : Shared, St 0 s.heap → s.TypeIs (.ref r) T
  there : ∀ h : Heap, St 0 h → r < h.objs.size ∧ d < h.objs.size
  notList : (Value.type T == Value.type "list") = false
  notTuple : (Value.type T == Value.type "tuple") = false
  hint : ∀ (A : Around) (E : Value → Shared → Prop) (s : Shared) (Q : Bool → Shared → Prop), St 0 s.heap → (∀ b tk, Q b { s with toks := tk }) → wpAny (model prog w) A (Builtin.List.listLengthHint (.ref r)) Q E s
  walk : ∀ (A : Around), A.handled = none → Walks prog w A r [r, d] [r] n P St
variable {T : String} {r d : Addr} {n : Nat} {P : Nat → Value → Prop} {St : Nat → Heap → Prop}
end
end Rg
namespace Rg
open PySem PySem.Spec PyProof.Rows L2
mutual
/-- a value of the written part, by data -/
def kdB (K : PySem.W.Frag) : D → Value → Bool
  | .non, .none => true
  | .bl b, .bool c => b == c
  | .int i, .int j _ => decide (i = j)
  | .str x, .str y _ => decide (x = y)
  | .tup l, .ref a => (match K.lookup a with
    | some ⟨.type c, _, .seq its _, _⟩ => decide (c = "tuple") && (decide (its.size ≤ sizeLine) && kdAll K l its.toList)
    | _ => false)
  | _, _ => false
def kdAll (K : PySem.W.Frag) : List D → List Value → Bool
  | [], [] => true
  | d :: l, u :: us => kdB K d u && kdAll K l us
  | _, _ => false
end
mutual
theorem kdB_ok {K : PySem.W.Frag} : ∀ (d : D) (u : Value), kdB K d u = true → ∃ v, RelV v u ∧ KD K d v
  | .non, u, h => by
    cases u with
    | none => exact ⟨.non, rfl, RV.non_iff.mpr rfl⟩
    | _ => simp [kdB] at h
  | .bl b, u, h => by
    cases u with
    | bool c =>
      have e : b = c := by simpa [kdB] using h
      subst e
      exact ⟨.bl b, rfl, RV.bl_iff.mpr rfl⟩
    | _ => simp [kdB] at h
  | .int i, u, h => by
    cases u with
    | int j t =>
      have e : i = j := by simpa [kdB] using h
      subst e
      exact ⟨.int i, ⟨_, rfl⟩, RV.int_iff.mpr rfl⟩
    | _ => simp [kdB] at h
  | .str x, u, h => by
    cases u with
    | str y t =>
      have e : x = y := by simpa [kdB] using h
      subst e
      exact ⟨.str x, ⟨_, rfl⟩, RV.str_iff.mpr rfl⟩
    | _ => simp [kdB] at h
  | .ref n, u, h => by simp [kdB] at h
  | .tup l, u, h => by
    cases u with
    | ref a =>
      unfold kdB at h
      cases q : K.lookup a with
      | none => rw [q] at h; cases h
      | some o =>
        obtain ⟨oc, od, dt, osl⟩ := o
        rw [q] at h
        cases oc with
        | type c =>
          cases dt with
          | seq its n =>
            dsimp only at h
            rw [Bool.and_eq_true, Bool.and_eq_true] at h
            obtain ⟨h1, h2, h3⟩ := h
            obtain ⟨xs, h4, h5⟩ := kdAll_ok l its.toList h3
            exact ⟨.ref a, rfl, RV.tup_iff.mpr ⟨a, xs, rfl, .inr ⟨_, its, n, q, congrArg Value.type (of_decide_eq_true h1), rfl, of_decide_eq_true h2, h4⟩, h5⟩⟩
          | _ => cases h
        | _ => cases h
    | _ => simp [kdB] at h
theorem kdAll_ok {K : PySem.W.Frag} : ∀ (l : List D) (us : List Value), kdAll K l us = true → ∃ xs, Vals xs us ∧ RVs K (fun _ => none) [] l xs
  | [], us, h => by
    cases us with
    | nil => exact ⟨[], .nil, RVs.nil⟩
    | cons u us => simp [kdAll] at h
  | d :: l, us, h => by
    cases us with
    | nil => simp [kdAll] at h
    | cons u us =>
      unfold kdAll at h
      rw [Bool.and_eq_true] at h
      obtain ⟨v, h1, h2⟩ := kdB_ok d u h.1
      obtain ⟨xs, h3, h4⟩ := kdAll_ok l us h.2
      exact ⟨v :: xs, .cons h1 h3, RVs.cons h2 h4⟩
end
def constB (K : PySem.W.Frag) (q : Str × D) : Bool := match PySem.W.nsIn K mainGlobals q.1 with
  | some (some u) => kdB K q.2 u
  | _ => false
theorem constB_ok {K : PySem.W.Frag} {h : Heap} {mg : Str → Option Value} {x : Str} {d : D} (X : K.In h) (G : h.Ns mainGlobals mg) (c : constB K (x, d) = true) : CAt K mg x d := by
  unfold constB at c
  cases e : PySem.W.nsIn K mainGlobals x with
  | none =>
    have e : PySem.W.nsIn K mainGlobals (x, d).1 = none := e
    rw [e] at c; cases c
  | some o =>
    have e2 : PySem.W.nsIn K mainGlobals (x, d).1 = some o := e
    rw [e2] at c
    cases o with
    | none => cases c
    | some u =>
      obtain ⟨v, h1, h2⟩ := kdB_ok d u c
      exact ⟨v, u, PySem.W.mg_of X G e, h1, h2⟩
inductive Cn where
  | own (y : Str) | blt (t : String)
def Cn.v (K : PySem.W.Frag) : Cn → Value
  | .own y => .ref (He.ga K y)
  | .blt t => .type t
inductive Fx where
  | isx (x : Str) | kit (x : Str) (cs : List Cn) (b : Bool) | nodig | tvals (x : Str) (tab : List (Str × Str))
def Fx.ok (K : PySem.W.Frag) : Fx → Bool
  | .isx x => decide (PySem.W.findIn K (.ref (He.ga K x)) "__getattribute__" = some (some (.builtin "BaseException.__getattribute__"))) && (decide (PySem.W.findIn K (.ref (He.ga K x)) "__getattr__" = some none) &&
      (decide (PySem.W.subIn K (.ref (He.ga K x)) (.type "BaseException") = some true) && (PySem.W.hasDictIn K (He.ga K x) && (decide (PySem.W.findIn K (.ref (He.ga K x)) "__class__" = some (some (.builtin "object.__class__"))) &&
      (decide (PySem.W.specialIn K (.builtin "object.__class__") "__get__" = some (some (.builtin "getset_descriptor.__get__"))) && (decide (PySem.W.takesIn K (.builtin "object.__class__") = some true) && decide (PySem.W.mroIn K (He.ga K x) (.type "object") = some true)))))))
  | .nodig => decide (PySem.W.nsIn K cStatics "sys.int_max_str_digits" = some none)
  | .tvals x tab => He.valsB K (He.ga K x) (tab.map fun q => (q.1, He.Dv.str q.2))
  | .kit x cs b => decide (PySem.W.kitAny K (.ref (He.ga K x)) (cs.map (Cn.v K)) = some b)
abbrev AlR : Type := Bool × He.AlD
def obsR (fx : List Fx) (fa : List He.Fa) (fn : List He.DefD) (cs : List (Str × D)) (K : PySem.W.Frag) : AlR := (cs.all (constB K) && fx.all (Fx.ok K), He.obsD fa fn K)
def valR (fn : List He.DefD) : AlR := (true, He.valD fn)
def SaysR (fx : List Fx) (fa : List He.Fa) (fn : List He.DefD) (cs : List (Str × D)) (K : PySem.W.Frag) : Prop := obsR fx fa fn cs K = valR fn
def obsRG (n : Nat) (fx : List Fx) (fa : List He.Fa) (fn : List He.DefD) (cs : List (Str × D)) (g : Addr → Option Obj) : AlR := obsR fx fa fn cs (He.frG g (cStatics :: He.asD g n))
def hookR (n : Nat) (fx : List Fx) (fa : List He.Fa) (fn : List He.DefD) (cs : List (Str × D)) : PySem.W.Hook where
  α := AlR
  obs := fun s => obsRG n fx fa fn cs s.heap.get?
  val := fun _ => valR fn
  says := fun _ h => ∃ K : PySem.W.Frag, K.In h ∧ SaysR fx fa fn cs K
  of := fun _ _ e => ⟨_, He.frG_in, e⟩
  keeps := fun _ _ _ ⟨K, hK, c⟩ k => ⟨K, PySem.W.Frag.In.keeps hK k, c⟩
structure SaysRT (fx : List Fx) (fa : List He.Fa) (fn : List He.DefD) (cs : List (Str × D)) (ts : List He.Tab) (w : World) (K : PySem.W.Frag) : Prop where
  r : SaysR fx fa fn cs K
  t : ts.map (fun t => He.dicW K (t.1 K)) = ts.map fun t => some (He.keysIn w.params t.2)
theorem obsRG_eq {n : Nat} {fx : List Fx} {fa : List He.Fa} {fn : List He.DefD} {cs : List (Str × D)} {g : Addr → Option Obj} {s : Shared} (h : ∀ a, g a = s.heap.get? a) : obsRG n fx fa fn cs g = (hookR n fx fa fn cs).obs s := by
  have e : g = s.heap.get? := funext h
  rw [e] <;> rfl
section
variable {fx : List Fx} {fa : List He.Fa} {fn : List He.DefD} {cs : List (Str × D)} {K : PySem.W.Frag}
theorem SaysR.d (c : SaysR fx fa fn cs K) : He.SaysD fa fn K := congrArg (fun z : AlR => z.2) c
theorem SaysR.c (c : SaysR fx fa fn cs K) {h : Heap} {mg : Str → Option Value} (X : K.In h) (G : h.Ns mainGlobals mg) (i : Nat) {x : Str} {d : D} (e : cs[i]? = some (x, d) := by rfl) : CAt K mg x d := by
  have c1 : cs.all (constB K) = true := (Bool.and_eq_true_iff.mp (congrArg (fun z : AlR => z.1) c)).1
  exact constB_ok X G (List.all_eq_true.mp c1 _ (List.mem_of_getElem? e))
theorem SaysR.x (c : SaysR fx fa fn cs K) (i : Nat) {f : Fx} (e : fx[i]? = some f := by rfl) : f.ok K = true := by
  have c1 : fx.all (Fx.ok K) = true := (Bool.and_eq_true_iff.mp (congrArg (fun z : AlR => z.1) c)).2
  exact List.all_eq_true.mp c1 _ (List.mem_of_getElem? e)
theorem SaysR.f (c : SaysR fx fa fn cs K) (i j : Nat) {x : Str} {st : Stmt} {dvs : List He.Dv} (e : fn[i]? = some ⟨(x, none), x, x, defArgs st, defBody st, defScope st, dvs, []⟩ := by rfl) (g : fa[j]? = some (.glo x) := by rfl) : FAt K x st (dvs.map (He.Dv.v K)) := by
  obtain ⟨fd, F⟩ := c.d.def_ i e
  exact ⟨⟨_, fd, He.eqO_ok (c.d.fact j g), F⟩⟩
end
theorem walk_ofR {l : PySem.W.OpenLaw} {n k : Nat} {q : Program} {loose : List Str} {XP : (Str → Option Value) → Heap → Prop} {YP : World → Heap → Prop} {d : DefRec} {CX : World → CXT} {x : Str}
    (hn : l.most = some n) (hn2 : n ≤ sizeLine) (hdf : d.params.defaults = []) (hr : Room k callerA)
    (F : ∀ (w : World) (mg : Str → Option Value) (fa : Addr) (h : Heap), YP w h → h.Ns mainGlobals mg → mg d.name = some (.ref fa) →
      ∃ (K : PySem.W.Frag) (fd : FuncData) (sp : Sp), K.In h ∧ (∀ (s : Shared) (u : Value), BindsTo s fd ⟨[u], []⟩ [(x, u)]) ∧
        (∀ (H : Hp) (a : Addr) (ns : List Int), ns.length ≤ n → (∀ z ∈ ns, Builtin.Int.intBits z ≤ 1048576) → Only H → SqL K H a (ns.map V.int) → sp [.ref a] H (fun v _ => v = .bl true) fun _ _ _ => False) ∧
        ∀ base : Heap, K.In base → base.Ns mainGlobals mg → FnOk l.prog w K mg base (CX w) k fa fd [x] sp)
    (hCX : ∀ (w : World) (H : Hp) (s : Shared) (e : Value) (s' : Shared), CX w [] H s (fun _ _ _ => False) e s' → False) :
    PySem.W.WalkO q loose XP YP l.row.toRowW d [] (fun f vs => PySem.call f vs) := by
  refine Att.attach_callB hn hdf fun w s₀ s₁ mg mb fa o pm cd doc a vs ns G Y ho hd hcd hmg hobj hints hlen hbits hg => ?_
  obtain ⟨K, fd, sp, KX, hb, hsp, hF⟩ := F w mg fa _ Y G.T.g hmg
  exact law_call KX G.T.g G.T.b G.T.builtins G.T.nolimit hg hobj hints (Nat.le_trans hlen hn2) hr hF hb (fun H hO hS => hsp H a ns hlen hbits hO hS) fun H e s' => hCX w H s₁ e s'
end Rg
namespace Rg
open PySem PySem.Spec PyProof.Rows L2
def sCallD (m : Mf) (dv : List Int) (s : SA) : SE := fun env S => (s env S).bind fun ds S1 => m (ds ++ dv.map D.int) S1
structure DefOkD (P : Program) (w : World) (K : PySem.W.Frag) (mg : Str → Option Value) (base : Heap) (xv : XV) (x : Str) (k : Nat) (ps : List Str) (dv : List Int) (m : Mf) : Prop where
  ex : ∃ (f : Addr) (fd : FuncData) (its : List Value), mg x = some (.ref f) ∧ PySem.W.keepIn K (.ref f) = true ∧ Vals (dv.map V.int) its ∧ Binds K fd ps its ∧ FnOk P w K mg base (CXn xv.nn P w) k f fd ps (SpOf K xv m)
def fRevRng1 (ds : List D) (S : Store) : Res Wk := match ds with
  | [.int j] => if -(2 ^ 62) ≤ j ∧ j < 2 ^ 62 then .ok ⟨(rangeD 0 j.toNat).reverse, fun _ => True⟩ S else .bad
  | _ => .bad
section
def sRevRng (sa : SE) : SI := fun env S => (sa env S).bind fun d S1 => fRevRng1 [d] S1
variable {X : Cx} {G : Gx} {tg a : Expr} {pos pos2 : Pos} {sa : SE}
end
end Rg
namespace Rg
open PySem PySem.Spec PyProof.Rows L2
section
variable {K : PySem.W.Frag} {H H' : Hp} {p p' : List Addr}
theorem RFs.len {fs : List (Str × D)} {vs : List (Str × V)} (h : RFs K H p fs vs) : fs.length = vs.length := by
  have := congrArg List.length h.1
  simpa using this
end
structure MAt (K : PySem.W.Frag) (c mn q : Str) (st : Stmt) : Prop where
  ex : ∃ fd : FuncData, FunD K mn q (defArgs st) (defBody st) (defScope st) [] [] (He.ma K (He.ga K c) mn) fd
structure MetOk (P : Program) (w : World) (K : PySem.W.Frag) (mg : Str → Option Value) (base : Heap) (xv : XV) (c mn : Str) (k : Nat) (ps : List Str) (m : Mf) : Prop where
  ex : ∃ fd : FuncData, Binds K fd ps [] ∧ FnOk P w K mg base (CXn xv.nn P w) k (He.ma K (He.ga K c) mn) fd ps (SpOf K xv m)
end Rg
namespace Rg
open PySem PySem.Spec PyProof.Rows L2
end Rg
namespace Rg
open PySem PySem.Spec PyProof.Rows L2
section
variable {X : Cx} {G : Gx} {e : Expr} {sa : SE}
def fListRev : D → Store → Res D := fun d S => match d with
  | .tup l => .ok (.ref S.length) (S ++ [.lst l.reverse])
  | .ref n => match lstOf S n with
    | some l => .ok (.ref S.length) (S ++ [.lst l.reverse])
    | none => .bad
  | _ => .bad
end
end Rg
namespace Rg
open PySem PySem.Spec PyProof.Rows L2
def xvK (K : PySem.W.Frag) : XV := ⟨fun x => .ref (He.ga K x), false⟩
structure XAt (K : PySem.W.Frag) (mg : Str → Option Value) (xv : XV) (x : Str) : Prop where
  v : xv x = .ref (He.ga K x)
  g : mg x = some (.ref (He.ga K x))
  e : PySem.W.excIn K (He.ga K x) He.veBase "ValueError.__new__" = true
  k : PySem.W.keepIn K (.ref (He.ga K x)) = true
  b : PySem.W.subIn K (.ref (He.ga K x)) (.type "BaseException") = some true
  t : PySem.W.typeIn K (.ref (He.ga K x)) = some (.type "type")
end Rg
namespace Rg
open PySem PySem.Spec PyProof.Rows L2
end Rg
namespace Rg
open PySem PySem.Spec PyProof.Rows L2
def rInT (K : PySem.W.Frag) (neg : Bool) : R2 := fun x y H Q => ∃ d ds, Dp K H x d ∧ Dp K H y (.tuple ds) ∧ SeqAt.shaped d = true ∧ SeqAt.shaped (.tuple ds) = true ∧ Q (.bl (if neg then !ds.any fun z => PyData.eqv z d else ds.any fun z => PyData.eqv z d)) H
def fInT (neg : Bool) : D → D → Store → Res D := fun d e S => match toP S 60 d, toP S 60 e with
  | some x, some (.tuple ds) => .ok (.bl (if neg then !ds.any fun z => PyData.eqv z x else ds.any fun z => PyData.eqv z x)) S
  | _, _ => .bad
theorem rf_inT {K : PySem.W.Frag} {neg : Bool} : RfO K (rInT K neg) (fInT neg) := by
  intro G σ H p S d e x y Q rst rx ry h
  unfold fInT at h
  split at h
  · rename_i a ds h1 h2
    exact ⟨a, ds, toP_dp rst 60 d a x h1 rx, toP_dp rst 60 e _ y h2 ry, toP_shaped h1, toP_shaped h2, h H p .refl rst _ (RV.bl_iff.mpr rfl)⟩
  · exact h.elim
section
variable {X : Cx} {G : Gx} {a b e : Expr} {pos : Pos} {sa sb : SE} {es : List Expr} {sr : SA}
theorem room_t {A : Around} {ds : List PyData} {d : PyData} (hd : SeqAt.shaped d = true) (hu : A.units + 65 < cLine) : A.units + 1 + min (PyData.depthAll ds) d.depth < cLine := room_in_shaped hd hu
theorem op_notInT (hu : X.A.units + 65 < cLine) : OpR X (compareOp .NotIn) (rInT X.K true) := by
  intro pins s σ H x y v u Q I rx ry h
  obtain ⟨d, ds, hd, he, sd, se, q⟩ := h
  obtain ⟨as, r1⟩ := Dp.reads I d x v hd rx
  obtain ⟨bs, r2⟩ := Dp.reads I (.tuple ds) y u he ry
  exact SeqAt.notIn_tuple_reads r2 r1 (SeqAt.canLay_of_shaped se) (SeqAt.canLay_of_shaped sd) (room_t sd hu) ⟨.bl _, H, I, rfl, q⟩
theorem mt_notinT {k : Nat} (hr : Room (k + 1) X.A) (ha : ME X G a sa) (hb : ME X G b sb) (hm : behindInMarks .NotIn b = false := by rfl) : MT X G (.Compare a [.NotIn] [b] pos) (sT (s2 (fInT true) sa sb)) := mt_cmp (op_notInT (room65 hr)) rf_inT ha hb hm
end
end Rg
namespace Rg
open PySem PySem.Spec PyProof.Rows L2
section
variable {X : Cx} {G : Gx} {pos : Pos}
theorem Rs.clear {K : PySem.W.Frag} {H : Hp} {p : List Addr} {env : Env} {σ : L2.St} (i : Nat) (h : Rs K H p env σ) : Rs K H p (env.set i none) (σ.set i none) := by
  refine ⟨by simp [h.1], fun j e q => ?_⟩
  by_cases hj : i = j
  · subst hj
    by_cases hi : i < env.length
    · rw [List.getElem?_set_self hi] at q
      cases q
    · rw [List.getElem?_eq_none (by simpa using hi)] at q
      cases q
  · rw [List.getElem?_set_ne hj] at q
    obtain ⟨w, a, b⟩ := h.2 j e q
    exact ⟨w, by rw [List.getElem?_set_ne hj]; exact a, b⟩
def Cn.x (K : PySem.W.Frag) : Cn → V
  | .own y => .ref (He.ga K y)
  | .blt t => .ty t
theorem Cn.rel {K : PySem.W.Frag} {c : Cn} {u : Value} (h : RelV (c.x K) u) : u = c.v K := by
  cases c with
  | own y => exact h
  | blt t => exact h
theorem Cn.vals {K : PySem.W.Frag} : ∀ {cs : List Cn} {us : List Value}, Vals (cs.map (Cn.x K)) us → us = cs.map (Cn.v K)
  | [], _, h => by cases h; rfl
  | c :: cs, _, h => by
    cases h with
    | cons r1 r => rw [Cn.rel r1, Cn.vals r]; rfl
variable {a e : Expr} {es : List Expr} {sa : SE}
variable {b o : Expr} {sb so se : SE} {apos : Pos}
end
end Rg
namespace Rg
open PySem PySem.Spec PyProof.Rows L2
structure HidL (p : Prop) : Prop where
  out : p
end Rg
namespace Rg
open PySem PySem.Spec PyProof.Rows L2
end Rg
namespace Rg
open PySem PySem.Spec PyProof.Rows L2
section
variable {X : Cx} {G : Gx} {e : Expr} {es : List Expr} {sa : SE} {sr sk : SA} {pos kpos : Pos} {kws : List Keyword} {nm : Option Str}
def kwOrd {α : Type} (rv : Bool) (us ws : List α) : List α := us ++ if rv then ws.reverse else ws
structure DefOkK (P : Program) (w : World) (K : PySem.W.Frag) (mg : Str → Option Value) (base : Heap) (xv : XV) (x : Str) (k : Nat) (ps : List Str) (n : Nat) (ks : List Str) (rv : Bool) (m : Mf) : Prop where
  ex : ∃ (f : Addr) (fd : FuncData), mg x = some (.ref f) ∧ PySem.W.keepIn K (.ref f) = true ∧ KBn K fd ps n ks (kwOrd rv) (kwOrd rv) ∧ FnOk P w K mg base (CXn xv.nn P w) k f fd ps (SpOf K xv m)
end
end Rg
namespace Rg
open PySem PySem.Spec PyProof.Rows L2
structure TabAt (K : PySem.W.Frag) (w : World) (mg : Str → Option Value) (x : Str) (tab : List (Str × Str)) : Prop where
  ex : ∃ a es n, mg x = some (.ref a) ∧ KDict K w a es n ∧ (∀ z y, tab.lookup z = some y → ∃ u, PySem.W.nsIn K a z = some (some u) ∧ RelV (.str y) u) ∧ ∀ z, tab.lookup z = none → PySem.W.nsIn K a z = some none
end Rg
namespace Rg
open PySem PySem.Spec PyProof.Rows L2
end Rg
namespace Rg
open PySem PySem.Spec PyProof.Rows L2
structure FAtA (K : PySem.W.Frag) (x nm : Str) (st : Stmt) : Prop where
  ex : ∃ (f : Addr) (fd : FuncData), PySem.W.nsIn K mainGlobals x = some (some (.ref f)) ∧ FunD K nm nm (defArgs st) (defBody st) (defScope st) [] [] f fd
end Rg
namespace Rg
open PySem PySem.Spec PyProof.Rows L2
end Rg
namespace Rg
open PySem PySem.Spec PyProof.Rows L2
section
variable {prog : Program} {w : World} {A : Around} {E : Value → Shared → Prop} {s : Shared}
structure HeapSrc (prog : Program) (w : World) (T : String) (S r : Addr) (fp wr : List Addr) (n : Nat) (J : Nat → Array Value → Heap → Prop) (F : Array Value → Heap → Prop) : Prop where
  type : ∀ (s : Shared) acc, J 0 acc s.heap → s.TypeIs (.ref r) T
  notList : (Value.type T == Value.type "list") = false
  notTuple : (Value.type T == Value.type "tuple") = false
  hint : ∀ (A : Around) (E : Value → Shared → Prop) (s : Shared) (Q : Bool → Shared → Prop) acc, J 0 acc s.heap → (∀ b tk, Q b { s with toks := tk }) → wpAny (model prog w) A (Builtin.List.listLengthHint (.ref r)) Q E s
  off : S ∉ wr
  ne : S ≠ r
  size : ∀ i acc h, J i acc h → acc.size = i
  frame : ∀ i acc h h', J i acc h → (∀ b o, b ≠ S → h.get? b = some o → h'.get? b = some o) → J i acc h'
  item : ∀ (A : Around), A.handled = none → ∀ i (s : Shared) acc (Q : Option Value → Shared → Prop) (E : Value → Shared → Prop), i < n → S < s.heap.objs.size → J i acc s.heap →
    (∀ v h' tk, J (i + 1) (acc.push v) h' → (∀ b o, b ∉ wr → s.heap.get? b = some o → h'.get? b = some o) → Q (some v) { s with heap := h', toks := tk }) → wpAny (model prog w) A (pyNext (.ref r)) Q E s
  done : ∀ (A : Around), A.handled = none → ∀ (s : Shared) acc (Q : Option Value → Shared → Prop) (E : Value → Shared → Prop), J n acc s.heap →
    (∀ h' tk, F acc h' → (∀ b o, b ∉ wr → s.heap.get? b = some o → h'.get? b = some o) → Q none { s with heap := h', toks := tk }) → wpAny (model prog w) A (pyNext (.ref r)) Q E s
  self : ∀ (A : Around) (s : Shared) acc (Q : Value → Shared → Prop) (E : Value → Shared → Prop), J 0 acc s.heap → Q (.ref r) s → wpAny (model prog w) A (pyIter (.ref r)) Q E s
variable {T : String} {S r : Addr} {fp wr : List Addr} {n : Nat} {J : Nat → Array Value → Heap → Prop} {F : Array Value → Heap → Prop} {R : Result → Shared → Prop}
end
end Rg
namespace Rg
open PySem PySem.Spec PyProof.Rows L2
structure EJ (N0 : Nat) (S e it : Addr) (P : Nat → Value → Prop) (St : Nat → Heap → Prop) (i : Nat) (acc : Array Value) (h : Heap) : Prop where
  size : acc.size = i
  st : St i h
  tup : ∀ j, j < i → ∃ a t x, acc[j]? = some (.ref a) ∧ h.get? a = some { cls := .type "tuple", data := .seq #[.int j t, x] } ∧ P j x ∧ N0 ≤ a ∧ a ≠ S ∧ a ≠ e ∧ a ≠ it
  en : (i = 0 ∧ ∃ old, IsEnum h e it 0 old) ∨ 0 < i ∧ ∃ T f old oT, IsEnumHeld h e it i old T f ∧ h.get? T = some oT ∧ T ≠ e ∧ T ≠ it ∧ T ≠ S
end Rg
namespace Rg
open PySem PySem.Spec PyProof.Rows L2
end Rg
namespace Rg
open PySem PySem.Spec PyProof.Rows L2
end Rg
namespace Rg
open PySem PySem.Spec PyProof.Rows L2
end Rg
namespace Rg
open PySem PySem.Spec PyProof.Rows L2
structure ZJ (N0 : Nat) (S z TI TO i1 i2 l1 l2 : Addr) (xs ys : Array Value) (i : Nat) (acc : Array Value) (h : Heap) : Prop where
  size : acc.size = i
  ti : IsPair h TI (.ref i1) (.ref i2)
  h1 : h.IsListIter i1 l1 i
  h2 : h.IsListIter i2 l2 i
  hl1 : h.IsList l1 xs
  hl2 : h.IsList l2 ys
  tup : ∀ j, j < i → ∃ a x y, acc[j]? = some (.ref a) ∧ IsPair h a x y ∧ xs[j]? = some x ∧ ys[j]? = some y ∧ N0 ≤ a ∧ a ≠ S ∧ a ≠ z ∧ a ≠ TO ∧ a ≠ i1 ∧ a ≠ i2
  inj : ∀ (j k : Nat) (a : Addr), acc[j]? = some (.ref a) → acc[k]? = some (.ref a) → j = k
  to : ∃ a b, IsPair h TO a b
  en : (i = 0 ∧ IsZip h z TI TO .none) ∨ 0 < i ∧ ∃ T f oT, IsZipHeld h z TI TO T f ∧ h.get? T = some oT ∧ T ≠ z ∧ T ≠ i1 ∧ T ≠ i2 ∧ T ≠ S
end Rg
namespace Rg
open PySem PySem.Spec PyProof.Rows L2
end Rg
namespace Rg
open PySem L2
noncomputable def m_is_whole : Mf := mkDef 1 1 (sRet (sAndV (s1 (fIsi .int) (sVar 0)) (s1 fNot (s1 (fIsi .bl) (sVar 0)))))
noncomputable def m_divisor : Mf := mkDef 2 2 (sSeq (sSet 0 (sCall fAbs (sCons (sVar 0) (sNil)))) (sSeq (sWhile (sT (s2 fGt (sVar 0) (sC (.int (0))))) (sPar 0 1 (sCons (s2 fMod (sVar 1) (sVar 0)) (sCons (sVar 0) (sNil))))) (sRet (sVar 1))))
noncomputable def m_ratio : Mf := mkDef 3 2 (sSeq (sIfS (sOr (sNot (sT (sCall m_is_whole (sCons (sVar 0) (sNil))))) (sOr (sNot (sT (sCall m_is_whole (sCons (sVar 1) (sNil))))) (sT (s2 fEq (sVar 1) (sC (.int (0))))))) (sNever) (sSkip)) (sSeq (sIfS (sT (s2 fLt (sVar 1) (sC (.int (0))))) (sPar 0 1 (sCons (s2 fSub (sC (.int (0))) (sVar 0)) (sCons (s2 fSub (sC (.int (0))) (sVar 1)) (sNil)))) (sSkip)) (sSeq (sSet 2 (sCall m_divisor (sCons (sVar 0) (sCons (sVar 1) (sNil))))) (sRet (sTup (sCons (s2 fDiv (sVar 0) (sVar 2)) (sCons (s2 fDiv (sVar 1) (sVar 2)) (sNil))))))))
noncomputable def m_l_pool : Mf := mkDef 1 1 (sRet (sLst (sCons (sCall fMax2 (sCons (sC (.int (0))) (sCons (s2 fSub (sVar 0) (s2 fPow (sC (.int (10))) (sC (.int (18))))) (sNil)))) (sCons (s2 fMod (sVar 0) (s2 fPow (sC (.int (10))) (sC (.int (18))))) (sCons (sC (.int (0))) (sNil))))))
noncomputable def m_l_next : Mf := mkDef 5 2 (sSeq (sIfS (sT (s2 fGt (s2 fIx (sVar 0) (sC (.int (0)))) (sC (.int (0))))) (sSeq (sSet 2 (s2 fMod (s2 fIx (sVar 0) (sC (.int (0)))) (sVar 1))) (sSeq (sSetIx (s2 fDiv (s2 fIx (sVar 0) (sC (.int (0)))) (sVar 1)) (sVar 0) (sC (.int (0)))) (sRet (sVar 2)))) (sSkip)) (sSeq (sSetIx (s2 fPlus (s2 fIx (sVar 0) (sC (.int (2)))) (sC (.int (1)))) (sVar 0) (sC (.int (2)))) (sSeq (sSet 3 (s2 fMod (s2 fPlus (s2 fIx (sVar 0) (sC (.int (1)))) (s2 fMul (sC (.int (7919))) (s2 fIx (sVar 0) (sC (.int (2)))))) (sC (.int (1000000007))))) (sSeq (sSet 4 (s2 fMod (s2 fMul (s2 fPlus (sVar 3) (sC (.int (11)))) (s2 fPlus (sVar 3) (sC (.int (48271))))) (sC (.int (998244353))))) (sRet (s2 fMod (s2 fDiv (s2 fMod (s2 fMul (sVar 4) (sVar 4)) (sC (.int (2147483647)))) (sC (.int (8)))) (sVar 1)))))))
noncomputable def m_l_wide : Mf := mkDef 4 2 (sSeq (sIfS (sOr (sT (s2 fGt (s2 fIx (sVar 0) (sC (.int (0)))) (sC (.int (0))))) (sT (s2 fLt (sVar 1) (s2 fPow (sC (.int (10))) (sC (.int (6))))))) (sRet (sCall m_l_next (sCons (sVar 0) (sCons (sVar 1) (sNil))))) (sSkip)) (sSeq (sSet 2 (sC (.int (0)))) (sSeq (sFor (sRng fRng1 (sCons (s2 fPlus (sC (.int (3))) (s2 fDiv (s1 fBits (sVar 1)) (sC (.int (20))))) (sNil))) (gN 3) (sSet 2 (s2 fPlus (s2 fMul (sVar 2) (sC (.int (1000003)))) (sCall m_l_next (sCons (sVar 0) (sCons (sC (.int (1000003))) (sNil))))))) (sRet (s2 fMod (sVar 2) (sVar 1))))))
noncomputable def m_l_low : Mf := mkDef 4 2 (sSeq (sPar 2 3 (sCons (sCall fAbs (sCons (sVar 0) (sNil))) (sCons (sCall fAbs (sCons (sVar 1) (sNil))) (sNil)))) (sSeq (sWhile (sT (s2 fGt (sVar 3) (sC (.int (0))))) (sPar 2 3 (sCons (sVar 3) (sCons (s2 fMod (sVar 2) (sVar 3)) (sNil))))) (sSeq (sIfS (sT (s2 fLt (sVar 1) (sC (.int (0))))) (sSet 2 (s2 fSub (sC (.int (0))) (sVar 2))) (sSkip)) (sRet (sTup (sCons (s2 fDiv (sVar 0) (sVar 2)) (sCons (s2 fDiv (sVar 1) (sVar 2)) (sNil))))))))
noncomputable def m_plus : Mf := mkDef 2 2 (sRet (sCall m_ratio (sCons (s2 fPlus (s2 fMul (s2 fIx (sVar 0) (sC (.int (0)))) (s2 fIx (sVar 1) (sC (.int (1))))) (s2 fMul (s2 fIx (sVar 1) (sC (.int (0)))) (s2 fIx (sVar 0) (sC (.int (1)))))) (sCons (s2 fMul (s2 fIx (sVar 0) (sC (.int (1)))) (s2 fIx (sVar 1) (sC (.int (1))))) (sNil)))))
noncomputable def m_minus : Mf := mkDef 2 2 (sRet (sCall m_ratio (sCons (s2 fSub (s2 fMul (s2 fIx (sVar 0) (sC (.int (0)))) (s2 fIx (sVar 1) (sC (.int (1))))) (s2 fMul (s2 fIx (sVar 1) (sC (.int (0)))) (s2 fIx (sVar 0) (sC (.int (1)))))) (sCons (s2 fMul (s2 fIx (sVar 0) (sC (.int (1)))) (s2 fIx (sVar 1) (sC (.int (1))))) (sNil)))))
noncomputable def m_times : Mf := mkDef 2 2 (sRet (sCall m_ratio (sCons (s2 fMul (s2 fIx (sVar 0) (sC (.int (0)))) (s2 fIx (sVar 1) (sC (.int (0))))) (sCons (s2 fMul (s2 fIx (sVar 0) (sC (.int (1)))) (s2 fIx (sVar 1) (sC (.int (1))))) (sNil)))))
noncomputable def m_over : Mf := mkDef 2 2 (sRet (sCall m_ratio (sCons (s2 fMul (s2 fIx (sVar 0) (sC (.int (0)))) (s2 fIx (sVar 1) (sC (.int (1))))) (sCons (s2 fMul (s2 fIx (sVar 0) (sC (.int (1)))) (s2 fIx (sVar 1) (sC (.int (0))))) (sNil)))))
noncomputable def m_less : Mf := mkDef 2 2 (sRet (s2 fLt (s2 fMul (s2 fIx (sVar 0) (sC (.int (0)))) (s2 fIx (sVar 1) (sC (.int (1))))) (s2 fMul (s2 fIx (sVar 1) (sC (.int (0)))) (s2 fIx (sVar 0) (sC (.int (1)))))))
noncomputable def m_l_sum : Mf := mkDef 2 2 (sRet (sCall m_l_low (sCons (s2 fPlus (s2 fMul (s2 fIx (sVar 0) (sC (.int (0)))) (s2 fIx (sVar 1) (sC (.int (1))))) (s2 fMul (s2 fIx (sVar 1) (sC (.int (0)))) (s2 fIx (sVar 0) (sC (.int (1)))))) (sCons (s2 fMul (s2 fIx (sVar 0) (sC (.int (1)))) (s2 fIx (sVar 1) (sC (.int (1))))) (sNil)))))
noncomputable def m_l_taken : Mf := mkDef 2 2 (sRet (sCall m_l_low (sCons (s2 fMul (s2 fIx (sVar 0) (sC (.int (0)))) (s2 fIx (sVar 1) (sC (.int (0))))) (sCons (s2 fMul (s2 fIx (sVar 0) (sC (.int (1)))) (s2 fIx (sVar 1) (sC (.int (1))))) (sNil)))))
noncomputable def m_l_back : Mf := mkDef 1 1 (sRet (sTup (sCons (s2 fSub (sC (.int (0))) (s2 fIx (sVar 0) (sC (.int (0))))) (sCons (s2 fIx (sVar 0) (sC (.int (1)))) (sNil)))))
noncomputable def m_l_below : Mf := mkDef 2 2 (sRet (s2 fLt (s2 fMul (s2 fIx (sVar 0) (sC (.int (0)))) (s2 fIx (sVar 1) (sC (.int (1))))) (s2 fMul (s2 fIx (sVar 1) (sC (.int (0)))) (s2 fIx (sVar 0) (sC (.int (1)))))))
noncomputable def m_l_number : Mf := mkDef 3 1 (sSeq (sSet 1 (sCall m_l_next (sCons (sVar 0) (sCons (sC (.int (8))) (sNil))))) (sSeq (sIfS (sT (s2 fLt (sVar 1) (sC (.int (5))))) (sRet (sCall m_l_low (sCons (s2 fSub (sCall m_l_next (sCons (sVar 0) (sCons (sC (.int (13))) (sNil)))) (sC (.int (6)))) (sCons (s2 fIx (sLst (sCons (sC (.int (1))) (sCons (sC (.int (1))) (sCons (sC (.int (1))) (sCons (sC (.int (2))) (sCons (sC (.int (3))) (sCons (sC (.int (4))) (sNil)))))))) (sCall m_l_next (sCons (sVar 0) (sCons (sC (.int (6))) (sNil))))) (sNil))))) (sSkip)) (sSeq (sIfS (sT (s2 fEq (sVar 1) (sC (.int (5))))) (sRet (sCall m_l_low (sCons (s2 fSub (sCall m_l_next (sCons (sVar 0) (sCons (sC (.int (81))) (sNil)))) (sC (.int (40)))) (sCons (s2 fPlus (sC (.int (1))) (sCall m_l_next (sCons (sVar 0) (sCons (sC (.int (30))) (sNil))))) (sNil))))) (sSkip)) (sSeq (sIfS (sT (s2 fEq (sVar 1) (sC (.int (6))))) (sSeq (sSet 2 (s2 fSub (s2 fPow (sC (.int (10))) (sC (.int (12)))) (sC (.int (1))))) (sRet (sCall m_l_low (sCons (s2 fSub (sCall m_l_wide (sCons (sVar 0) (sCons (s2 fPlus (s2 fMul (sC (.int (2))) (sVar 2)) (sC (.int (1)))) (sNil)))) (sVar 2)) (sCons (s2 fPlus (sC (.int (1))) (sCall m_l_wide (sCons (sVar 0) (sCons (sVar 2) (sNil))))) (sNil)))))) (sSkip)) (sRet (sTup (sCons (sC (.int (0))) (sCons (sC (.int (1))) (sNil)))))))))
noncomputable def m_negative : Mf := mkDef 1 1 (sRet (sTup (sCons (s2 fSub (sC (.int (0))) (s2 fIx (sVar 0) (sC (.int (0))))) (sCons (s2 fIx (sVar 0) (sC (.int (1)))) (sNil)))))
noncomputable def m_summed : Mf := mkDef 3 3 (sRet (sCall m_plus (sCons (sCall m_times (sCons (sVar 0) (sCons (s2 fIx (sVar 2) (sC (.int (0)))) (sNil)))) (sCons (sCall m_times (sCons (sVar 1) (sCons (s2 fIx (sVar 2) (sC (.int (1)))) (sNil)))) (sNil)))))
noncomputable def m_cross : Mf := mkDef 2 2 (sRet (sCall m_minus (sCons (sCall m_times (sCons (s2 fIx (sVar 0) (sC (.int (0)))) (sCons (s2 fIx (sVar 1) (sC (.int (1)))) (sNil)))) (sCons (sCall m_times (sCons (s2 fIx (sVar 0) (sC (.int (1)))) (sCons (s2 fIx (sVar 1) (sC (.int (0)))) (sNil)))) (sNil)))))
noncomputable def m_l_less : Mf := mkDef 2 2 (sRet (sCall m_l_sum (sCons (sVar 0) (sCons (sCall m_l_back (sCons (sVar 1) (sNil))) (sNil)))))
noncomputable def m_l_worth : Mf := mkDef 3 3 (sRet (sCall m_l_sum (sCons (sCall m_l_taken (sCons (sVar 0) (sCons (s2 fIx (sVar 2) (sC (.int (0)))) (sNil)))) (sCons (sCall m_l_taken (sCons (sVar 1) (sCons (s2 fIx (sVar 2) (sC (.int (1)))) (sNil)))) (sNil)))))
noncomputable def m_l_bare : Mf := mkDef 1 1 (sRet (sTup (sCons (sCall fAbs (sCons (s2 fIx (sVar 0) (sC (.int (0)))) (sNil))) (sCons (s2 fIx (sVar 0) (sC (.int (1)))) (sNil)))))
noncomputable def m_size : Mf := mkDef 1 1 (sRet (sTup (sCons (sCall fAbs (sCons (s2 fIx (sVar 0) (sC (.int (0)))) (sNil))) (sCons (s2 fIx (sVar 0) (sC (.int (1)))) (sNil)))))
noncomputable def m_lets_by : Mf := mkDef 2 2 (sRet (s1 fNot (sCall m_less (sCons (s2 fIx (sVar 0) (sC (.int (2)))) (sCons (sCall m_size (sCons (sCall m_summed (sCons (s2 fIx (sVar 0) (sC (.int (0)))) (sCons (s2 fIx (sVar 0) (sC (.int (1)))) (sCons (sVar 1) (sNil))))) (sNil))) (sNil))))))
noncomputable def m_lets : Mf := mkDef 3 2 (sRet (sCall fAll (sCons (sComp (sIter (sVar 0)) (gN 2) (sYes) (sCall m_lets_by (sCons (sVar 2) (sCons (sVar 1) (sNil)))) [2]) (sNil))))
noncomputable def m_l_line : Mf := mkDef 3 1 (sSeq (sSet 1 (sCall m_l_number (sCons (sVar 0) (sNil)))) (sSeq (sSet 2 (sCall m_l_number (sCons (sVar 0) (sNil)))) (sSeq (sIfS (sAnd (sT (s2 fEq (s2 fIx (sVar 1) (sC (.int (0)))) (sC (.int (0))))) (sT (s2 fEq (s2 fIx (sVar 2) (sC (.int (0)))) (sC (.int (0)))))) (sSet 1 (sTup (sCons (s2 fPlus (sC (.int (1))) (sCall m_l_next (sCons (sVar 0) (sCons (sC (.int (3))) (sNil))))) (sCons (sC (.int (1))) (sNil))))) (sSkip)) (sRet (sTup (sCons (sVar 1) (sCons (sVar 2) (sCons (sCall m_l_low (sCons (s2 fPlus (sC (.int (1))) (sCall m_l_next (sCons (sVar 0) (sCons (sC (.int (12))) (sNil))))) (sCons (s2 fIx (sLst (sCons (sC (.int (1))) (sCons (sC (.int (1))) (sCons (sC (.int (2))) (sCons (sC (.int (5))) (sNil)))))) (sCall m_l_next (sCons (sVar 0) (sCons (sC (.int (4))) (sNil))))) (sNil)))) (sNil)))))))))
noncomputable def m_l_lines : Mf := mkDef 10 2 (sSeq (sSet 2 (sLst (sNil))) (sSeq (sFor (sRng fRng1 (sCons (sCall m_l_next (sCons (sVar 0) (sCons (s2 fPlus (sVar 1) (sC (.int (1)))) (sNil)))) (sNil))) (gN 3) (sSeq (sSet 4 (sCall m_l_line (sCons (sVar 0) (sNil)))) (sSeq (sSet 5 (sCall m_l_next (sCons (sVar 0) (sCons (sC (.int (8))) (sNil))))) (sSeq (sIfS (sAnd (sT (s2 fGt (sVar 3) (sC (.int (0))))) (sT (s2 fLt (sVar 5) (sC (.int (2)))))) (sSeq (sSet 6 (s2 fIx (sVar 2) (sCall m_l_next (sCons (sVar 0) (sCons (sVar 3) (sNil)))))) (sSeq (sSet 7 (s2 fIx (sLst (sCons (sTup (sCons (sC (.int (1))) (sCons (sC (.int (1))) (sNil)))) (sCons (sCall m_l_low (sCons (s2 fSub (sCall m_l_next (sCons (sVar 0) (sCons (sC (.int (9))) (sNil)))) (sC (.int (4)))) (sCons (s2 fPlus (sC (.int (1))) (sCall m_l_next (sCons (sVar 0) (sCons (sC (.int (3))) (sNil))))) (sNil)))) (sNil)))) (sVar 5))) (sSeq (sIfS (sT (s2 fEq (s2 fIx (sVar 7) (sC (.int (0)))) (sC (.int (0))))) (sSet 7 (sTup (sCons (sC (.int (1))) (sCons (sC (.int (1))) (sNil))))) (sSkip)) (sSet 4 (sTup (sCons (sCall m_l_taken (sCons (sVar 7) (sCons (s2 fIx (sVar 6) (sC (.int (0)))) (sNil)))) (sCons (sCall m_l_taken (sCons (sVar 7) (sCons (s2 fIx (sVar 6) (sC (.int (1)))) (sNil)))) (sCons (s2 fIx (sLst (sCons (s2 fIx (sVar 6) (sC (.int (2)))) (sCons (s2 fIx (sVar 4) (sC (.int (2)))) (sNil)))) (sCall m_l_next (sCons (sVar 0) (sCons (sC (.int (2))) (sNil))))) (sNil))))))))) (sSkip)) (sSeq (sIfS (sAnd (sT (s2 fGt (sVar 3) (sC (.int (1))))) (sT (s2 fEq (sVar 5) (sC (.int (2)))))) (sSeq (sPar 8 9 (sCons (s2 fIx (sVar 2) (s2 fSub (sVar 3) (sC (.int (1))))) (sCons (s2 fIx (sVar 2) (s2 fSub (sVar 3) (sC (.int (2))))) (sNil)))) (sSeq (sSet 4 (sTup (sCons (sCall m_l_sum (sCons (s2 fIx (sVar 8) (sC (.int (0)))) (sCons (s2 fIx (sVar 9) (sC (.int (0)))) (sNil)))) (sCons (sCall m_l_sum (sCons (s2 fIx (sVar 8) (sC (.int (1)))) (sCons (s2 fIx (sVar 9) (sC (.int (1)))) (sNil)))) (sCons (sCall m_l_sum (sCons (s2 fIx (sVar 8) (sC (.int (2)))) (sCons (s2 fIx (sVar 9) (sC (.int (2)))) (sNil)))) (sNil)))))) (sIfS (sAnd (sT (s2 fEq (s2 fIx (s2 fIx (sVar 4) (sC (.int (0)))) (sC (.int (0)))) (sC (.int (0))))) (sT (s2 fEq (s2 fIx (s2 fIx (sVar 4) (sC (.int (1)))) (sC (.int (0)))) (sC (.int (0)))))) (sSet 4 (sVar 8)) (sSkip)))) (sSkip)) (sDrop (sMethL fAppend (sVar 2) (sCons (sVar 4) (sNil))))))))) (sRet (sVar 2))))
noncomputable def m_l_lets : Mf := mkDef 5 2 (sSeq (sFor (sIter (sVar 0)) (gT 3 (gsCons (gN 2) (gsCons (gN 3) (gsCons (gN 4) (gsNil))))) (sIfS (sT (sCall m_l_below (sCons (sVar 4) (sCons (sCall m_l_bare (sCons (sCall m_l_worth (sCons (sVar 2) (sCons (sVar 3) (sCons (sVar 1) (sNil))))) (sNil))) (sNil))))) (sRet (sC (.bl false))) (sSkip))) (sRet (sC (.bl true))))
noncomputable def m_by_two : Mf := mkDef 7 4 (sSeq (sSet 4 (sCall m_cross (sCons (sSl (sVar 0) (sNoPart) (sPart (sC (.int (2))))) (sCons (sSl (sVar 1) (sNoPart) (sPart (sC (.int (2))))) (sNil))))) (sSeq (sSet 5 (sCall m_minus (sCons (sCall m_times (sCons (sVar 2) (sCons (s2 fIx (sVar 1) (sC (.int (1)))) (sNil)))) (sCons (sCall m_times (sCons (sVar 3) (sCons (s2 fIx (sVar 0) (sC (.int (1)))) (sNil)))) (sNil))))) (sSeq (sSet 6 (sCall m_minus (sCons (sCall m_times (sCons (sVar 3) (sCons (s2 fIx (sVar 0) (sC (.int (0)))) (sNil)))) (sCons (sCall m_times (sCons (sVar 2) (sCons (s2 fIx (sVar 1) (sC (.int (0)))) (sNil)))) (sNil))))) (sRet (sTup (sCons (sCall m_over (sCons (sVar 5) (sCons (sVar 4) (sNil)))) (sCons (sCall m_over (sCons (sVar 6) (sCons (sVar 4) (sNil)))) (sNil))))))))
noncomputable def m_opposite : Mf := mkDef 1 1 (sRet (sTup (sCons (sCall m_negative (sCons (s2 fIx (sVar 0) (sC (.int (0)))) (sNil))) (sCons (sCall m_negative (sCons (s2 fIx (sVar 0) (sC (.int (1)))) (sNil))) (sNil)))))
noncomputable def m_met_by_two : Mf := mkDef 7 1 (sSeq (sSet 1 (sLst (sNil))) (sSeq (sFor (sRng fEnum (sCons (sVar 0) (sNil))) (gT 2 (gsCons (gN 2) (gsCons (gN 3) (gsNil)))) (sFor (sIter (sSl (sVar 0) (sNoPart) (sPart (sVar 2)))) (gN 4) (sIfS (sT (s2 fNe (s2 fIx (sCall m_cross (sCons (sSl (sVar 3) (sNoPart) (sPart (sC (.int (2))))) (sCons (sSl (sVar 4) (sNoPart) (sPart (sC (.int (2))))) (sNil)))) (sC (.int (0)))) (sC (.int (0))))) (sSeq (sSet 5 (sLst (sCons (sCall m_by_two (sCons (sVar 3) (sCons (sVar 4) (sCons (s2 fIx (sVar 3) (sC (.int (2)))) (sCons (s2 fIx (sVar 4) (sC (.int (2)))) (sNil)))))) (sCons (sCall m_by_two (sCons (sVar 3) (sCons (sVar 4) (sCons (s2 fIx (sVar 3) (sC (.int (2)))) (sCons (sCall m_negative (sCons (s2 fIx (sVar 4) (sC (.int (2)))) (sNil))) (sNil)))))) (sNil))))) (sDrop (sMethL fExtend (sVar 1) (sCons (sComp (sIter (sVar 5)) (gN 6) (sAnd (sT (s2 (fIn true) (sVar 6) (sVar 1))) (sT (sCall m_lets (sCons (sVar 0) (sCons (sVar 6) (sNil)))))) (sVar 6) [6]) (sNil))))) (sSkip)))) (sRet (s2 fPlus (sVar 1) (sComp (sIter (sVar 1)) (gN 6) (sT (s2 (fIn true) (sCall m_opposite (sCons (sVar 6) (sNil))) (sVar 1))) (sCall m_opposite (sCons (sVar 6) (sNil))) [6])))))
noncomputable def m_is_least : Mf := mkDef 4 2 (sSeq (sFor (sRng fZip (sCons (sVar 0) (sCons (sVar 1) (sNil)))) (gT 2 (gsCons (gN 2) (gsCons (gN 3) (gsNil)))) (sIfS (sT (s2 fNe (sVar 2) (sVar 3))) (sRet (s2 fLt (s2 fIx (sCall m_minus (sCons (sVar 2) (sCons (sVar 3) (sNil)))) (sC (.int (0)))) (sC (.int (0))))) (sSkip))) (sRet (sC (.bl false))))
noncomputable def m_least_ray : Mf := mkDef 3 1 (sSeq (sSet 1 (s2 fIx (sVar 0) (sC (.int (0))))) (sSeq (sFor (sIter (sVar 0)) (gN 2) (sIfS (sT (sCall m_is_least (sCons (sVar 2) (sCons (sVar 1) (sNil))))) (sSet 1 (sVar 2)) (sSkip))) (sRet (sVar 1))))
noncomputable def m_next_around : Mf := mkDef 5 2 (sSeq (sSet 2 (sComp (sIter (sVar 0)) (gN 4) (sT (s2 fGt (s2 fIx (sCall m_cross (sCons (sVar 1) (sCons (sVar 4) (sNil)))) (sC (.int (0)))) (sC (.int (0))))) (sVar 4) [4])) (sSeq (sSet 3 (s2 fIx (sVar 2) (sC (.int (0))))) (sSeq (sFor (sIter (sVar 2)) (gN 4) (sIfS (sT (s2 fGt (s2 fIx (sCall m_cross (sCons (sVar 4) (sCons (sVar 3) (sNil)))) (sC (.int (0)))) (sC (.int (0))))) (sSet 3 (sVar 4)) (sSkip))) (sRet (sVar 3)))))
noncomputable def m_corners : Mf := mkDef 3 1 (sSeq (sSet 1 (sCall m_met_by_two (sCons (sVar 0) (sNil)))) (sSeq (sIfS (sT (s2 fEq (sVar 1) (sLst (sNil)))) (sRet (sC (.non))) (sSkip)) (sSeq (sSet 2 (sLst (sCons (sCall m_least_ray (sCons (sVar 1) (sNil))) (sNil)))) (sSeq (sWhile (sT (s2 fLt (sCall fLen (sCons (sVar 2) (sNil))) (sCall fLen (sCons (sVar 1) (sNil))))) (sDrop (sMethL fAppend (sVar 2) (sCons (sCall m_next_around (sCons (sVar 1) (sCons (s2 fIx (sVar 2) (s1 fNeg (sC (.int (1))))) (sNil)))) (sNil))))) (sRet (sVar 2))))))
noncomputable def m_l_cells : Mf := mkDef 4 2 (sSeq (sSet 2 (sSl (s2 fPlus (sCall fList (sCons (sSl (sVar 0) (sNoPart) (sPart (sVar 1))) (sNil))) (sLst (sCons (sC (.int (0))) (sNil)))) (sNoPart) (sPart (sCall fMax2 (sCons (sC (.int (1))) (sCons (sCall fMin2 (sCons (sVar 1) (sCons (sCall fLen (sCons (sVar 0) (sNil))) (sNil)))) (sNil))))))) (sSeq (sFor (sRng fRng2 (sCons (sVar 1) (sCons (sCall fLen (sCons (sVar 0) (sNil))) (sNil)))) (gN 3) (sSetIx (s2 fPlus (s2 fMul (s2 fIx (sVar 2) (s2 fMod (sVar 3) (sVar 1))) (sC (.int (31)))) (s2 fIx (sVar 0) (sVar 3))) (sVar 2) (s2 fMod (sVar 3) (sVar 1)))) (sRet (sVar 2))))
noncomputable def m_l_cross_3 : Mf := mkDef 2 2 (sRet (sCall m_l_less (sCons (sCall m_l_taken (sCons (s2 fIx (sVar 0) (sC (.int (0)))) (sCons (s2 fIx (sVar 1) (sC (.int (1)))) (sNil)))) (sCons (sCall m_l_taken (sCons (s2 fIx (sVar 0) (sC (.int (1)))) (sCons (s2 fIx (sVar 1) (sC (.int (0)))) (sNil)))) (sNil)))))
noncomputable def m_l_met : Mf := mkDef 8 4 (sSeq (sSet 4 (sCall m_l_cross_3 (sCons (sVar 0) (sCons (sVar 1) (sNil))))) (sSeq (sSet 5 (sCall m_l_low (sCons (s2 fIx (sVar 4) (sC (.int (1)))) (sCons (s2 fIx (sVar 4) (sC (.int (0)))) (sNil))))) (sSeq (sSet 6 (sCall m_l_less (sCons (sCall m_l_taken (sCons (sVar 2) (sCons (s2 fIx (sVar 1) (sC (.int (1)))) (sNil)))) (sCons (sCall m_l_taken (sCons (s2 fIx (sVar 0) (sC (.int (1)))) (sCons (sVar 3) (sNil)))) (sNil))))) (sSeq (sSet 7 (sCall m_l_less (sCons (sCall m_l_taken (sCons (s2 fIx (sVar 0) (sC (.int (0)))) (sCons (sVar 3) (sNil)))) (sCons (sCall m_l_taken (sCons (sVar 2) (sCons (s2 fIx (sVar 1) (sC (.int (0)))) (sNil)))) (sNil))))) (sRet (sTup (sCons (sCall m_l_taken (sCons (sVar 5) (sCons (sVar 6) (sNil)))) (sCons (sCall m_l_taken (sCons (sVar 5) (sCons (sVar 7) (sNil)))) (sNil)))))))))
noncomputable def m_l_ahead : Mf := mkDef 2 2 (sSeq (sIfS (sT (s2 fNe (s2 fIx (sVar 0) (sC (.int (0)))) (s2 fIx (sVar 1) (sC (.int (0)))))) (sRet (sCall m_l_below (sCons (s2 fIx (sVar 0) (sC (.int (0)))) (sCons (s2 fIx (sVar 1) (sC (.int (0)))) (sNil))))) (sSkip)) (sRet (sCall m_l_below (sCons (s2 fIx (sVar 0) (sC (.int (1)))) (sCons (s2 fIx (sVar 1) (sC (.int (1)))) (sNil))))))
noncomputable def m_l_around_2 : Mf := mkDef 7 1 (sSeq (sFor (sRng fRng1 (sCons (sCall fLen (sCons (sVar 0) (sNil))) (sNil))) (gN 1) (sSeq (sPar 2 3 (sCons (s2 fIx (sVar 0) (sVar 1)) (sCons (s2 fIx (sVar 0) (s2 fMod (s2 fPlus (sVar 1) (sC (.int (1)))) (sCall fLen (sCons (sVar 0) (sNil))))) (sNil)))) (sSeq (sSet 4 (sTup (sCons (sCall m_l_less (sCons (s2 fIx (sVar 3) (sC (.int (0)))) (sCons (s2 fIx (sVar 2) (sC (.int (0)))) (sNil)))) (sCons (sCall m_l_less (sCons (s2 fIx (sVar 3) (sC (.int (1)))) (sCons (s2 fIx (sVar 2) (sC (.int (1)))) (sNil)))) (sNil))))) (sSeq (sIfS (sOr (sT (s2 fLe (s2 fIx (sCall m_l_cross_3 (sCons (sVar 2) (sCons (sVar 3) (sNil)))) (sC (.int (0)))) (sC (.int (0))))) (sAnd (sT (s2 fGt (sVar 1) (sC (.int (0))))) (sNot (sT (sCall m_l_ahead (sCons (s2 fIx (sVar 0) (sC (.int (0)))) (sCons (sVar 2) (sNil)))))))) (sRet (sC (.bl false))) (sSkip)) (sFor (sIter (sVar 0)) (gN 5) (sSeq (sSet 6 (sTup (sCons (sCall m_l_less (sCons (s2 fIx (sVar 5) (sC (.int (0)))) (sCons (s2 fIx (sVar 2) (sC (.int (0)))) (sNil)))) (sCons (sCall m_l_less (sCons (s2 fIx (sVar 5) (sC (.int (1)))) (sCons (s2 fIx (sVar 2) (sC (.int (1)))) (sNil)))) (sNil))))) (sIfS (sAnd (sT (s2 (fInT true) (sVar 5) (sTup (sCons (sVar 2) (sCons (sVar 3) (sNil)))))) (sT (s2 fLe (s2 fIx (sCall m_l_cross_3 (sCons (sVar 4) (sCons (sVar 6) (sNil)))) (sC (.int (0)))) (sC (.int (0)))))) (sRet (sC (.bl false))) (sSkip)))))))) (sRet (sC (.bl true))))
end Rg
namespace Rg
open PySem L2
def Rk {A : Type} (r : Res A) (P : A → Store → Prop) : Prop := ∃ a S, r = .ok a S ∧ P a S
structure SPt where
  nx : Env → Store → Prop
  rt : D → Store → Prop
  bk : Env → Store → Prop := fun _ _ => False
  ct : Env → Store → Prop := fun _ _ => False
def Sk (r : ResS) (P : SPt) : Prop := match r with
  | .nx e S => P.nx e S
  | .rt d S => P.rt d S
  | .bk e S => P.bk e S
  | .ct e S => P.ct e S
  | _ => False
theorem Rk.imp {A : Type} {r : Res A} {P Q : A → Store → Prop} (h : Rk r P) (hi : ∀ a S, P a S → Q a S) : Rk r Q := by
  obtain ⟨a, S, e, p⟩ := h
  exact ⟨a, S, e, hi a S p⟩
theorem Rk.of {A : Type} {r : Res A} {a : A} {S : Store} {P : A → Store → Prop} (h : r = .ok a S) (p : P a S) : Rk r P := ⟨a, S, h, p⟩
@[simp] theorem rk_ok {A : Type} {a : A} {S : Store} {P : A → Store → Prop} : Rk (.ok a S) P ↔ P a S :=
  ⟨fun ⟨_, _, e, p⟩ => by cases e; exact p, fun p => ⟨a, S, rfl, p⟩⟩
@[simp] theorem rk_bad {A : Type} {P : A → Store → Prop} : Rk (.bad : Res A) P ↔ False := ⟨fun ⟨_, _, e, p⟩ => (by cases e), fun h => h.elim⟩
@[simp] theorem rk_exc {A : Type} {c : Str} {S : Store} {P : A → Store → Prop} : Rk (.exc c S : Res A) P ↔ False := ⟨fun ⟨_, _, e, p⟩ => (by cases e), fun h => h.elim⟩
@[simp] theorem rk_bind {A B : Type} {r : Res A} {f : A → Store → Res B} {P : B → Store → Prop} : Rk (r.bind f) P ↔ Rk r fun a S => Rk (f a S) P := by
  constructor
  · intro h
    cases r with
    | ok a S => exact ⟨a, S, rfl, h⟩
    | exc c S => obtain ⟨_, _, e, _⟩ := h; cases e
    | bad => obtain ⟨_, _, e, _⟩ := h; cases e
  · intro ⟨a, S, e, h⟩
    subst e
    exact h
@[simp] theorem rk_ite {A : Type} {c : Prop} [Decidable c] {r s : Res A} {P : A → Store → Prop} : Rk (if c then r else s) P ↔ (c → Rk r P) ∧ (¬c → Rk s P) := by
  by_cases h : c <;> simp [h]
@[simp] theorem sk_ite {c : Prop} [Decidable c] {r s : ResS} {P : SPt} : Sk (if c then r else s) P ↔ (c → Sk r P) ∧ (¬c → Sk s P) := by
  by_cases h : c <;> simp [h]
@[simp] theorem sk_nx {e : Env} {S : Store} {P : SPt} : Sk (.nx e S) P ↔ P.nx e S := Iff.rfl
@[simp] theorem sk_rt {d : D} {S : Store} {P : SPt} : Sk (.rt d S) P ↔ P.rt d S := Iff.rfl
@[simp] theorem sk_bk {d : Env} {S : Store} {P : SPt} : Sk (.bk d S) P ↔ P.bk d S := Iff.rfl
@[simp] theorem sk_ct {d : Env} {S : Store} {P : SPt} : Sk (.ct d S) P ↔ P.ct d S := Iff.rfl
@[simp] theorem sk_bad {P : SPt} : Sk .bad P ↔ False := Iff.rfl
@[simp] theorem sk_exc {c : Str} {e : Env} {S : Store} {P : SPt} : Sk (.exc c e S) P ↔ False := Iff.rfl
theorem Sk.imp {r : ResS} {P Q : SPt} (h : Sk r P) (h1 : ∀ e S, P.nx e S → Q.nx e S) (h2 : ∀ e S, P.rt e S → Q.rt e S) (h3 : ∀ e S, P.bk e S → Q.bk e S) (h4 : ∀ e S, P.ct e S → Q.ct e S) : Sk r Q := by
  cases r with
  | nx e S => exact h1 _ _ h
  | rt e S => exact h2 _ _ h
  | bk e S => exact h3 _ _ h
  | ct e S => exact h4 _ _ h
  | exc c e S => exact h
  | bad => exact h
@[simp] theorem sk_andS {A : Type} {r : Res A} {env : Env} {f : A → Store → ResS} {P : SPt} : Sk (r.andS env f) P ↔ Rk r fun a S => Sk (f a S) P := by
  constructor
  · intro h
    cases r with
    | ok a S => exact ⟨a, S, rfl, h⟩
    | exc c S => exact h.elim
    | bad => exact h.elim
  · intro ⟨a, S, e, h⟩
    subst e
    exact h
@[simp] theorem sk_seq {s t : SS} {env : Env} {S : Store} {P : SPt} : Sk (sSeq s t env S) P ↔ Sk (s env S) { P with nx := fun e S1 => Sk (t e S1) P } := by
  unfold sSeq
  cases s env S <;> exact Iff.rfl
theorem rk_def {n np : Nat} {body : SS} {ds : List D} {S : Store} {P : D → Store → Prop} : Rk (mkDef n np body ds S) P ↔ ds.length = np ∧ Sk (body (ds.map some ++ List.replicate (n - ds.length) none) S) { nx := fun _ S1 => Rk (gc S .non S1) P, rt := fun d S1 => Rk (gc S d S1) P } := by
  unfold mkDef
  by_cases h : ds.length = np
  · rw [if_pos h]
    constructor
    · intro q
      refine ⟨h, ?_⟩
      cases hb : body (ds.map some ++ List.replicate (n - ds.length) none) S <;> rw [hb] at q <;> first | exact q | (obtain ⟨_, _, e, _⟩ := q; cases e)
    · intro ⟨_, q⟩
      cases hb : body (ds.map some ++ List.replicate (n - ds.length) none) S <;> rw [hb] at q <;> first | exact q.elim | exact q
  · rw [if_neg h]
    constructor
    · intro ⟨_, _, e, _⟩; cases e
    · intro ⟨q, _⟩; exact absurd q h
theorem kept_app {S C : Store} : Kept S (S ++ C) := ⟨by simp, fun n hn => .inl (List.getElem?_append_left hn)⟩
theorem gc_under {S0 S1 : Store} {d : D} (k : Kept S0 S1) (h : d.fresh S0.length = none) : gc S0 d S1 = .ok d (S1.take S0.length) := by
  unfold gc
  rw [if_pos k, h]
theorem gc_self {S : Store} {d : D} (h : d.fresh S.length = none) : gc S d S = .ok d S := by
  rw [gc_under ⟨Nat.le_refl _, fun n _ => .inl rfl⟩ h, List.take_length]
theorem gc_app {S C : Store} {d : D} (h : d.fresh S.length = none) : gc S d (S ++ C) = .ok d S := by
  rw [gc_under kept_app h, List.take_left]
theorem gc_new {S C : Store} {d : D} {n : Nat} {l : List D} (h : d.fresh S.length = some n) (ho : d.only S.length n = true) (hl : (S ++ C)[n]? = some (.lst l)) (u : unders S.length l = true) : gc S d (S ++ C) = .ok (d.subst S.length) (S ++ [.lst l]) := by
  unfold gc
  rw [if_pos kept_app, h]
  dsimp only
  rw [if_pos ho, hl]
  dsimp only
  rw [if_pos u, List.take_left]
@[simp] theorem rk_call {m : Mf} {s : SA} {env : Env} {S : Store} {P : D → Store → Prop} : Rk (sCall m s env S) P ↔ Rk (s env S) fun ds S1 => Rk (m ds S1) P := rk_bind
@[simp] theorem rk_call0 {m : Mf} {env : Env} {S : Store} {P : D → Store → Prop} : Rk (sCall0 m env S) P ↔ Rk (m [] S) P := by
  unfold sCall0
  cases m [] S <;> simp
@[simp] theorem rk_s2 {f : D → D → Store → Res D} {sa sb : SE} {env : Env} {S : Store} {P : D → Store → Prop} : Rk (s2 f sa sb env S) P ↔ Rk (sa env S) fun d S1 => Rk (sb env S1) fun e S2 => Rk (f d e S2) P := by
  unfold s2; simp
@[simp] theorem rk_s1 {f : D → Store → Res D} {sa : SE} {env : Env} {S : Store} {P : D → Store → Prop} : Rk (s1 f sa env S) P ↔ Rk (sa env S) fun d S1 => Rk (f d S1) P := by
  unfold s1; simp
@[simp] theorem rk_C {d : D} {env : Env} {S : Store} {P : D → Store → Prop} : Rk (sC d env S) P ↔ P d S := rk_ok
@[simp] theorem rk_var {i : Nat} {env : Env} {S : Store} {P : D → Store → Prop} : Rk (sVar i env S) P ↔ ∃ d, env[i]? = some (some d) ∧ P d S := by
  unfold sVar
  split
  · rename_i d h
    rw [rk_ok]
    exact ⟨fun p => ⟨d, h, p⟩, fun ⟨d', h', p⟩ => by rw [h] at h'; cases h'; exact p⟩
  · rename_i h
    exact ⟨fun ⟨_, _, e, _⟩ => (by cases e), fun ⟨d, h', p⟩ => (h d h').elim⟩
@[simp] theorem rk_nil {env : Env} {S : Store} {P : List D → Store → Prop} : Rk (sNil env S) P ↔ P [] S := rk_ok
@[simp] theorem rk_cons {s : SE} {r : SA} {env : Env} {S : Store} {P : List D → Store → Prop} : Rk (sCons s r env S) P ↔ Rk (s env S) fun d S1 => Rk (r env S1) fun ds S2 => P (d :: ds) S2 := by
  unfold sCons; simp
@[simp] theorem rk_tup {s : SA} {env : Env} {S : Store} {P : D → Store → Prop} : Rk (sTup s env S) P ↔ Rk (s env S) fun ds S1 => ds.length ≤ sizeLine ∧ P (.tup ds) S1 := by
  unfold sTup; simp only [rk_bind, rk_ite, rk_ok, rk_bad]
  constructor
  · intro h; exact h.imp fun ds S q => by
      by_cases c : ds.length ≤ sizeLine
      · exact ⟨c, q.1 c⟩
      · exact (q.2 c).elim
  · intro h; exact h.imp fun ds S q => ⟨fun _ => q.2, fun c => c q.1⟩
@[simp] theorem rk_lst {s : SA} {env : Env} {S : Store} {P : D → Store → Prop} : Rk (sLst s env S) P ↔ Rk (s env S) fun ds S1 => ds.length ≤ sizeLine ∧ P (.ref S1.length) (S1 ++ [.lst ds]) := by
  unfold sLst; simp only [rk_bind, rk_ite, rk_ok, rk_bad]
  constructor
  · intro h; exact h.imp fun ds S q => by
      by_cases c : ds.length ≤ sizeLine
      · exact ⟨c, q.1 c⟩
      · exact (q.2 c).elim
  · intro h; exact h.imp fun ds S q => ⟨fun _ => q.2, fun c => c q.1⟩
def onB (d : D) (P : Bool → Prop) : Prop := match d with
  | .bl b => P b
  | _ => False
@[simp] theorem onB_bl {b : Bool} {P : Bool → Prop} : onB (.bl b) P ↔ P b := Iff.rfl
@[simp] theorem rk_T {s : SE} {env : Env} {S : Store} {P : Bool → Store → Prop} : Rk (sT s env S) P ↔ Rk (s env S) fun d S1 => onB d fun b => P b S1 := by
  unfold sT; simp only [rk_bind]
  constructor
  · intro h; exact h.imp fun d S q => by
      cases d <;> simp_all [onB]
  · intro h; exact h.imp fun d S q => by cases d <;> simp_all [onB]
@[simp] theorem rk_not {s : ST} {env : Env} {S : Store} {P : Bool → Store → Prop} : Rk (sNot s env S) P ↔ Rk (s env S) fun b S1 => P (!b) S1 := by
  unfold sNot; simp
@[simp] theorem rk_and {s t : ST} {env : Env} {S : Store} {P : Bool → Store → Prop} : Rk (sAnd s t env S) P ↔ Rk (s env S) fun b S1 => (b = true → Rk (t env S1) P) ∧ (b = false → P false S1) := by
  unfold sAnd; simp
@[simp] theorem rk_or {s t : ST} {env : Env} {S : Store} {P : Bool → Store → Prop} : Rk (sOr s t env S) P ↔ Rk (s env S) fun b S1 => (b = true → P true S1) ∧ (b = false → Rk (t env S1) P) := by
  unfold sOr; simp
@[simp] theorem rk_andV {s t : SE} {env : Env} {S : Store} {P : D → Store → Prop} : Rk (sAndV s t env S) P ↔ Rk (s env S) fun d S1 => onB d fun b => (b = true → Rk (t env S1) P) ∧ (b = false → P (.bl false) S1) := by
  unfold sAndV; simp only [rk_bind]
  constructor
  · intro h; exact h.imp fun d S q => by
      cases d with
      | bl b => cases b <;> simp_all [onB]
      | _ => simp_all [onB]
  · intro h; exact h.imp fun d S q => by
      cases d with
      | bl b => cases b <;> simp_all [onB]
      | _ => simp_all [onB]
@[simp] theorem rk_orV {s t : SE} {env : Env} {S : Store} {P : D → Store → Prop} : Rk (sOrV s t env S) P ↔ Rk (s env S) fun d S1 => onB d fun b => (b = true → P (.bl true) S1) ∧ (b = false → Rk (t env S1) P) := by
  unfold sOrV; simp only [rk_bind]
  constructor
  · intro h; exact h.imp fun d S q => by
      cases d with
      | bl b => cases b <;> simp_all [onB]
      | _ => simp_all [onB]
  · intro h; exact h.imp fun d S q => by
      cases d with
      | bl b => cases b <;> simp_all [onB]
      | _ => simp_all [onB]
@[simp] theorem rk_if {t : ST} {sa sb : SE} {env : Env} {S : Store} {P : D → Store → Prop} : Rk (sIf t sa sb env S) P ↔ Rk (t env S) fun b S1 => (b = true → Rk (sa env S1) P) ∧ (b = false → Rk (sb env S1) P) := by
  unfold sIf; simp
@[simp] theorem sk_skip {env : Env} {S : Store} {P : SPt} : Sk (sSkip env S) P ↔ P.nx env S := Iff.rfl
@[simp] theorem sk_break {env : Env} {S : Store} {P : SPt} : Sk (sBreak env S) P ↔ P.bk env S := Iff.rfl
@[simp] theorem sk_cont {env : Env} {S : Store} {P : SPt} : Sk (sCont env S) P ↔ P.ct env S := Iff.rfl
@[simp] theorem sk_never {env : Env} {S : Store} {P : SPt} : Sk (sNever env S) P ↔ False := Iff.rfl
@[simp] theorem sk_drop {s : SE} {env : Env} {S : Store} {P : SPt} : Sk (sDrop s env S) P ↔ Rk (s env S) fun _ S1 => P.nx env S1 := by unfold sDrop; simp
@[simp] theorem sk_ret {s : SE} {env : Env} {S : Store} {P : SPt} : Sk (sRet s env S) P ↔ Rk (s env S) fun d S1 => P.rt d S1 := by unfold sRet; simp
@[simp] theorem sk_retN {env : Env} {S : Store} {P : SPt} : Sk (sRetN env S) P ↔ P.rt .non S := Iff.rfl
@[simp] theorem sk_ifS {c : ST} {s t : SS} {env : Env} {S : Store} {P : SPt} : Sk (sIfS c s t env S) P ↔ Rk (c env S) fun b S1 => (b = true → Sk (s env S1) P) ∧ (b = false → Sk (t env S1) P) := by
  unfold sIfS; simp
@[simp] theorem sk_set {i : Nat} {s : SE} {env : Env} {S : Store} {P : SPt} : Sk (sSet i s env S) P ↔ Rk (s env S) fun d S1 => P.nx (env.set i (some d)) S1 := by unfold sSet; simp
def on2 (ds : List D) (P : D → D → Prop) : Prop := match ds with
  | [d, e] => P d e
  | _ => False
@[simp] theorem on2_mk {d e : D} {P : D → D → Prop} : on2 [d, e] P ↔ P d e := Iff.rfl
def on3 (ds : List D) (P : D → D → D → Prop) : Prop := match ds with
  | [d, e, f] => P d e f
  | _ => False
@[simp] theorem on3_mk {d e f : D} {P : D → D → D → Prop} : on3 [d, e, f] P ↔ P d e f := Iff.rfl
def onRI (o i : D) (P : Nat → Int → Prop) : Prop := match o, i with
  | .ref n, .int k => P n k
  | _, _ => False
@[simp] theorem onRI_mk {n : Nat} {k : Int} {P : Nat → Int → Prop} : onRI (.ref n) (.int k) P ↔ P n k := Iff.rfl
@[simp] theorem sk_par {i j : Nat} {s : SA} {env : Env} {S : Store} {P : SPt} : Sk (sPar i j s env S) P ↔ Rk (s env S) fun ds S1 => on2 ds fun d e => P.nx ((env.set i (some d)).set j (some e)) S1 := by
  unfold sPar; simp only [sk_andS]
  constructor
  · intro h; exact h.imp fun ds S q => by
      split at q
      · exact q
      · exact q.elim
  · intro h; exact h.imp fun ds S q => by
      unfold on2 at q
      split at q
      · exact q
      · exact q.elim
@[simp] theorem sk_par3 {i j l : Nat} {s : SA} {env : Env} {S : Store} {P : SPt} : Sk (sPar3 i j l s env S) P ↔ Rk (s env S) fun ds S1 => on3 ds fun d e f => P.nx (((env.set i (some d)).set j (some e)).set l (some f)) S1 := by
  unfold sPar3; simp only [sk_andS]
  constructor
  · intro h; exact h.imp fun ds S q => by
      split at q
      · exact q
      · exact q.elim
  · intro h; exact h.imp fun ds S q => by
      unfold on3 at q
      split at q
      · exact q
      · exact q.elim
@[simp] theorem sk_asg {s : SE} {g : SG} {env : Env} {S : Store} {P : SPt} : Sk (sAsg s g env S) P ↔ Rk (s env S) fun d S1 => ∃ e, g d env S1 = some e ∧ P.nx e S1 := by
  unfold sAsg; simp only [sk_andS]
  constructor
  · intro h; exact h.imp fun d S q => by
      split at q
      · rename_i e he; exact ⟨e, he, q⟩
      · exact q.elim
  · intro h; exact h.imp fun d S ⟨e, he, q⟩ => by rw [he]; exact q
@[simp] theorem gN_some {i : Nat} {d : D} {env e : Env} {S : Store} : gN i d env S = some e ↔ env.set i (some d) = e := by unfold gN; simp
@[simp] theorem gN_def {i : Nat} {d : D} {env : Env} {S : Store} : gN i d env S = some (env.set i (some d)) := rfl
@[simp] theorem gsNil_def {env : Env} {S : Store} : gsNil [] env S = some env := rfl
@[simp] theorem gsCons_def {g : SG} {r : List D → Env → Store → Option Env} {d : D} {l : List D} {env : Env} {S : Store} : gsCons g r (d :: l) env S = (g d env S).bind fun e => r l e S := rfl
@[simp] theorem gT_def {n : Nat} {r : List D → Env → Store → Option Env} {l : List D} {env : Env} {S : Store} : gT n r (.tup l) env S = if l.length = n then r l env S else none := rfl
@[simp] theorem sk_setIx {se so si : SE} {env : Env} {S : Store} {P : SPt} : Sk (sSetIx se so si env S) P ↔ Rk (se env S) fun d S1 => Rk (so env S1) fun o S2 => Rk (si env S2) fun i S3 =>
    onRI o i fun n k => ∃ l, S3[n]? = some (.lst l) ∧ ∃ j, ixN l.length k = some j ∧ P.nx env (S3.set n (.lst (l.set j d))) := by
  unfold sSetIx; simp only [sk_andS]
  constructor
  · intro h; exact h.imp fun d S q => q.imp fun o S q => q.imp fun i S q => by
      cases o with
      | ref n =>
        cases i with
        | int k =>
          dsimp only at q
          split at q
          · rename_i l hl
            split at q
            · rename_i j hj
              exact ⟨l, hl, j, hj, q⟩
            · exact q.elim
          · exact q.elim
        | _ => exact q.elim
      | _ => exact q.elim
  · intro h; exact h.imp fun d S q => q.imp fun o S q => q.imp fun i S q => by
      unfold onRI at q
      split at q
      · obtain ⟨l, h3, j, h4, q9⟩ := q
        try dsimp only
        rw [h3]
        try dsimp only
        rw [h4]
        exact q9
      · exact q.elim
@[simp] theorem rk_fI {g : Int → Int → Int} {i j : Int} {S : Store} {P : D → Store → Prop} : Rk (fI g (.int i) (.int j) S) P ↔ P (.int (g i j)) S := rk_ok
@[simp] theorem rk_fIB {g : Int → Int → Bool} {i j : Int} {S : Store} {P : D → Store → Prop} : Rk (fIB g (.int i) (.int j) S) P ↔ P (.bl (g i j)) S := rk_ok
@[simp] theorem rk_fIC {C : Int → Int → Prop} {g : Int → Int → Int} {i j : Int} {S : Store} {P : D → Store → Prop} : Rk (fIC C g (.int i) (.int j) S) P ↔ C i j ∧ P (.int (g i j)) S := by
  unfold fIC
  by_cases h : C i j <;> simp [h]
@[simp] theorem rk_plusI {i j : Int} {S : Store} {P : D → Store → Prop} : Rk (fPlus (.int i) (.int j) S) P ↔ P (.int (i + j)) S := by
  unfold fPlus; simp
@[simp] theorem rk_plusT {x y : List D} {S : Store} {P : D → Store → Prop} : Rk (fPlus (.tup x) (.tup y) S) P ↔ x.length + y.length ≤ sizeLine ∧ P (.tup (x ++ y)) S := by
  unfold fPlus
  by_cases h : x.length + y.length ≤ sizeLine <;> simp [h]
@[simp] theorem rk_plusL {m n : Nat} {S : Store} {P : D → Store → Prop} : Rk (fPlus (.ref m) (.ref n) S) P ↔ ∃ x y, lstOf S m = some x ∧ lstOf S n = some y ∧ x.length + y.length ≤ sizeLine ∧ P (.ref S.length) (S ++ [.lst (x ++ y)]) := by
  unfold fPlus
  dsimp only
  split
  · rename_i x y h1 h2
    by_cases h : x.length + y.length ≤ sizeLine
    · rw [if_pos h, rk_ok]
      exact ⟨fun p => ⟨x, y, h1, h2, h, p⟩, fun ⟨x', y', e1, e2, _, p⟩ => by rw [h1] at e1; rw [h2] at e2; cases e1; cases e2; exact p⟩
    · rw [if_neg h, rk_bad]
      exact ⟨fun p => p.elim, fun ⟨x', y', e1, e2, z, p⟩ => by rw [h1] at e1; rw [h2] at e2; cases e1; cases e2; exact h z⟩
  · rename_i h
    rw [rk_bad]
    exact ⟨fun p => p.elim, fun ⟨x', y', e1, e2, z, p⟩ => h _ _ e1 e2⟩
@[simp] theorem rk_neg {i : Int} {S : Store} {P : D → Store → Prop} : Rk (fNeg (.int i) S) P ↔ P (.int (-i)) S := rk_ok
@[simp] theorem rk_fnot {b : Bool} {S : Store} {P : D → Store → Prop} : Rk (fNot (.bl b) S) P ↔ P (.bl (!b)) S := rk_ok
@[simp] theorem rk_isN {d : D} {S : Store} {P : D → Store → Prop} : Rk (fIsN d S) P ↔ P (.bl d.isNon) S := rk_ok
@[simp] theorem rk_notN {d : D} {S : Store} {P : D → Store → Prop} : Rk (fNotN d S) P ↔ P (.bl (!d.isNon)) S := rk_ok
@[simp] theorem rk_isB {a b : Bool} {S : Store} {P : D → Store → Prop} : Rk (fIsB (.bl a) (.bl b) S) P ↔ P (.bl (decide (a = b))) S := rk_ok
@[simp] theorem rk_notB {a b : Bool} {S : Store} {P : D → Store → Prop} : Rk (fNotB (.bl a) (.bl b) S) P ↔ P (.bl (!decide (a = b))) S := rk_ok
@[simp] theorem rk_ixT {l : List D} {i : Int} {S : Store} {P : D → Store → Prop} : Rk (fIx (.tup l) (.int i) S) P ↔ ∃ x, atI l i = some x ∧ P x S := by
  unfold fIx
  cases h : atI l i <;> simp [h]
@[simp] theorem rk_ixL {n : Nat} {i : Int} {S : Store} {P : D → Store → Prop} : Rk (fIx (.ref n) (.int i) S) P ↔ ∃ l x, lstOf S n = some l ∧ atI l i = some x ∧ P x S := by
  unfold fIx
  cases h : lstOf S n with
  | none => simp [h]
  | some l => cases h2 : atI l i <;> simp [h, h2]
@[simp] theorem rk_abs {i : Int} {S : Store} {P : D → Store → Prop} : Rk (fAbs [.int i] S) P ↔ P (.int (i.natAbs : Int)) S := rk_ok
@[simp] theorem rk_max2 {i j : Int} {S : Store} {P : D → Store → Prop} : Rk (fMax2 [.int i, .int j] S) P ↔ P (.int (max i j)) S := rk_ok
@[simp] theorem rk_min2 {i j : Int} {S : Store} {P : D → Store → Prop} : Rk (fMin2 [.int i, .int j] S) P ↔ P (.int (min i j)) S := rk_ok
@[simp] theorem rk_intI {i : Int} {S : Store} {P : D → Store → Prop} : Rk (fInt [.int i] S) P ↔ P (.int i) S := rk_ok
@[simp] theorem rk_intB {b : Bool} {S : Store} {P : D → Store → Prop} : Rk (fInt [.bl b] S) P ↔ P (.int (if b then 1 else 0)) S := rk_ok
@[simp] theorem rk_bits {i : Int} {S : Store} {P : D → Store → Prop} : Rk (fBits (.int i) S) P ↔ P (.int (Builtin.Int.intBits i : Nat)) S := rk_ok
@[simp] theorem rk_lenT {l : List D} {S : Store} {P : D → Store → Prop} : Rk (fLen [.tup l] S) P ↔ P (.int (l.length : Nat)) S := rk_ok
@[simp] theorem rk_lenL {n : Nat} {S : Store} {P : D → Store → Prop} : Rk (fLen [.ref n] S) P ↔ ∃ l, lstOf S n = some l ∧ P (.int (l.length : Nat)) S := by
  unfold fLen
  cases h : lstOf S n <;> simp [h]
@[simp] theorem rk_isi {c : Ty} {d : D} {S : Store} {P : D → Store → Prop} : Rk (fIsi c d S) P ↔ ∃ t, tyOf S d = some t ∧ P (.bl (t.isa c)) S := by
  unfold fIsi
  cases h : tyOf S d <;> simp [h]
@[simp] theorem rk_isi2 {c c' : Ty} {d : D} {S : Store} {P : D → Store → Prop} : Rk (fIsi2 c c' d S) P ↔ ∃ t, tyOf S d = some t ∧ P (.bl (t.isa c || t.isa c')) S := by
  unfold fIsi2
  cases h : tyOf S d <;> simp [h]
@[simp] theorem ty_non {S : Store} : tyOf S .non = some .non := rfl
@[simp] theorem ty_bl {S : Store} {b : Bool} : tyOf S (.bl b) = some .bl := rfl
@[simp] theorem ty_int {S : Store} {b : Int} : tyOf S (.int b) = some .int := rfl
@[simp] theorem ty_str {S : Store} {b : Str} : tyOf S (.str b) = some .str := rfl
@[simp] theorem ty_tup {S : Store} {b : List D} : tyOf S (.tup b) = some .tup := rfl
@[simp] theorem rk_eq {d e : D} {S : Store} {P : D → Store → Prop} : Rk (fEq d e S) P ↔ ∃ x y, toP S 60 d = some x ∧ toP S 60 e = some y ∧ P (.bl (PyData.eqv x y)) S := by
  unfold fEq
  cases h : toP S 60 d <;> cases h' : toP S 60 e <;> simp
@[simp] theorem rk_ne {d e : D} {S : Store} {P : D → Store → Prop} : Rk (fNe d e S) P ↔ ∃ x y, toP S 60 d = some x ∧ toP S 60 e = some y ∧ P (.bl (!PyData.eqv x y)) S := by
  unfold fNe
  cases h : toP S 60 d <;> cases h' : toP S 60 e <;> simp
@[simp] theorem toP_int {S : Store} {k : Nat} {i : Int} : toP S k (.int i) = some (.int i) := by cases k <;> rfl
@[simp] theorem toP_bl {S : Store} {k : Nat} {i : Bool} : toP S k (.bl i) = some (.bool i) := by cases k <;> rfl
@[simp] theorem toP_non {S : Store} {k : Nat} : toP S k .non = some .none := by cases k <;> rfl
@[simp] theorem toP_str {S : Store} {k : Nat} {z : Str} : toP S k (.str z) = if PyData.strOk z then some (.str z) else none := by cases k <;> rfl
@[simp] theorem toP_tup {S : Store} {k : Nat} {l : List D} : toP S (k + 1) (.tup l) = (allP (toP S k) l).map .tuple := rfl
@[simp] theorem toP_tup60 {S : Store} {l : List D} : toP S 60 (.tup l) = (allP (toP S 59) l).map .tuple := rfl
@[simp] theorem toP_tup59 {S : Store} {l : List D} : toP S 59 (.tup l) = (allP (toP S 58) l).map .tuple := rfl
@[simp] theorem toP_tup58 {S : Store} {l : List D} : toP S 58 (.tup l) = (allP (toP S 57) l).map .tuple := rfl
@[simp] theorem allP_nil {f : D → Option PyData} : allP f [] = some [] := rfl
@[simp] theorem allP_cons {f : D → Option PyData} {d : D} {l : List D} : allP f (d :: l) = match f d, allP f l with
  | some x, some r => some (x :: r)
  | _, _ => none := rfl
@[simp] theorem ev_int {i j : Int} : PyData.eqv (.int i) (.int j) = decide (i = j) := by unfold PyData.eqv; exact Bool.beq_eq_decide_eq _ _
@[simp] theorem ev_bl {i j : Bool} : PyData.eqv (.bool i) (.bool j) = decide (i = j) := by unfold PyData.eqv; exact Bool.beq_eq_decide_eq _ _
@[simp] theorem ev_str {i j : Str} : PyData.eqv (.str i) (.str j) = decide (i = j) := by unfold PyData.eqv; exact Bool.beq_eq_decide_eq _ _
@[simp] theorem ev_tup {i j : List PyData} : PyData.eqv (.tuple i) (.tuple j) = PyData.eqvAll i j := by rw [PyData.eqv]
@[simp] theorem ev_lst {i j : List PyData} : PyData.eqv (.list i) (.list j) = PyData.eqvAll i j := by rw [PyData.eqv]
@[simp] theorem ev_nn : PyData.eqv .none .none = true := by rw [PyData.eqv]
@[simp] theorem ev_nt {i : List PyData} : PyData.eqv .none (.tuple i) = false := by rw [PyData.eqv]
@[simp] theorem ev_tn {i : List PyData} : PyData.eqv (.tuple i) .none = false := by rw [PyData.eqv]
@[simp] theorem ev_all0 : PyData.eqvAll [] [] = true := by rw [PyData.eqvAll]
@[simp] theorem ev_all1 {x y : PyData} {xs ys : List PyData} : PyData.eqvAll (x :: xs) (y :: ys) = (PyData.eqv x y && PyData.eqvAll xs ys) := by rw [PyData.eqvAll]
@[simp] theorem ev_all2 {x : PyData} {xs : List PyData} : PyData.eqvAll (x :: xs) [] = false := by rw [PyData.eqvAll]
@[simp] theorem ev_all3 {x : PyData} {xs : List PyData} : PyData.eqvAll [] (x :: xs) = false := by rw [PyData.eqvAll]
@[simp] theorem rk_append {n : Nat} {y : D} {S : Store} {P : D → Store → Prop} : Rk (fAppend (.ref n) [y] S) P ↔ ∃ l, S[n]? = some (.lst l) ∧ l.length < sizeLine ∧ P .non (S.set n (.lst (l ++ [y]))) := by
  unfold fAppend
  dsimp only
  split
  · rename_i l hl
    by_cases h : l.length < sizeLine <;> simp [h, hl]
  · rename_i h
    constructor
    · intro ⟨_, _, e, _⟩; cases e
    · intro ⟨l, e, _⟩; exact absurd e (h l)
@[simp] theorem rk_methL {f : D → List D → Store → Res D} {so : SE} {sr : SA} {env : Env} {S : Store} {P : D → Store → Prop} : Rk (sMethL f so sr env S) P ↔ Rk (so env S) fun d S1 => isLst S1 d = true ∧ Rk (sr env S1) fun ds S2 => Rk (f d ds S2) P := by
  unfold sMethL; simp only [rk_bind, rk_ite, rk_bad]
  constructor
  · intro h; exact h.imp fun d S q => by
      by_cases c : isLst S d = true
      · exact ⟨c, q.1 c⟩
      · exact (q.2 c).elim
  · intro h; exact h.imp fun ds S q => ⟨fun _ => q.2, fun c => c q.1⟩
theorem lstOf_lst {S : Store} {n : Nat} {l : List D} (h : S[n]? = some (.lst l)) : lstOf S n = some l := by unfold lstOf; rw [h]
@[simp] theorem lstOf_new {S : Store} {l : List D} : lstOf (S ++ [.lst l]) S.length = some l := lstOf_lst (by simp)
@[simp] theorem rk_iterT {s : SE} {env : Env} {S : Store} {P : Wk → Store → Prop} : Rk (sIter s env S) P ↔ Rk (s env S) fun d S1 => Rk (fIter d S1) P := by unfold sIter; simp
@[simp] theorem rk_fIterT {l : List D} {S : Store} {P : Wk → Store → Prop} : Rk (fIter (.tup l) S) P ↔ P ⟨l, fun _ => True⟩ S := rk_ok
@[simp] theorem rk_fIterL {n : Nat} {S : Store} {P : Wk → Store → Prop} : Rk (fIter (.ref n) S) P ↔ ∃ l, lstOf S n = some l ∧ P ⟨l, fun S => lstOf S n = some l⟩ S := by
  unfold fIter
  cases h : lstOf S n <;> simp [h]
@[simp] theorem rk_rng {f : List D → Store → Res Wk} {s : SA} {env : Env} {S : Store} {P : Wk → Store → Prop} : Rk (sRng f s env S) P ↔ Rk (s env S) fun ds S1 => Rk (f ds S1) P := by unfold sRng; simp
@[simp] theorem rk_rng1 {j : Int} {S : Store} {P : Wk → Store → Prop} : Rk (fRng1 [.int j] S) P ↔ (-(2 ^ 62) ≤ j ∧ j < 2 ^ 62) ∧ P ⟨rangeD 0 j.toNat, fun _ => True⟩ S := by
  unfold fRng1
  dsimp only
  split
  · rename_i h; rw [rk_ok]; exact ⟨fun q => ⟨h, q⟩, fun q => q.2⟩
  · rename_i h; rw [rk_bad]; exact ⟨fun q => q.elim, fun q => h q.1⟩
theorem sk_for {si : SI} {g : SG} {b : SS} {env : Env} {S : Store} {P : SPt} : Sk (sFor si g b env S) P ↔ Rk (si env S) fun w S1 => Sk (forRun g b w.chk w.items env S1) P := by unfold sFor; simp
theorem sk_forRun {g : SG} {b : SS} {chk : Store → Prop} {P : SPt} (I : Nat → Env → Store → Prop) (items : List D) (hchk : ∀ i e S, I i e S → chk S)
    (turn : ∀ i d e S, items[i]? = some d → I i e S → ∃ e', g d e S = some e' ∧ Sk (b e' S) { nx := I (i + 1), rt := P.rt, bk := P.nx, ct := I (i + 1) })
    (hend : ∀ e S, I items.length e S → P.nx e S) (env : Env) (S : Store) (h0 : I 0 env S) : Sk (forRun g b chk items env S) P := by
  have key : ∀ (l : List D) (i : Nat) (e : Env) (S : Store), items.drop i = l → I i e S → i ≤ items.length → Sk (forRun g b chk l e S) P := by
    intro l
    induction l with
    | nil =>
      intro i e S hd hi hl
      unfold forRun
      rw [if_pos (hchk i e S hi)]
      have : items.length ≤ i := by simpa using hd
      have : i = items.length := by omega
      subst this
      exact hend e S hi
    | cons d l ih =>
      intro i e S hd hi hl
      unfold forRun
      rw [if_pos (hchk i e S hi)]
      have hg : items[i]? = some d := by
        have := congrArg (fun x => x[0]?) hd
        simpa using this
      have hd' : items.drop (i + 1) = l := by
        have := congrArg (List.drop 1) hd
        simpa using this
      have hl' : i + 1 ≤ items.length := (List.getElem?_eq_some_iff.mp hg).1
      obtain ⟨e', h1, h2⟩ := turn i d e S hg hi
      rw [h1]
      dsimp only
      cases hb : b e' S with
      | nx e2 S2 => rw [hb] at h2; exact ih (i + 1) e2 S2 hd' h2 hl'
      | ct e2 S2 => rw [hb] at h2; exact ih (i + 1) e2 S2 hd' h2 hl'
      | bk e2 S2 => rw [hb] at h2; exact h2
      | rt e2 S2 => rw [hb] at h2; exact h2
      | exc x e2 S2 => rw [hb] at h2; exact h2.elim
      | bad => rw [hb] at h2; exact h2.elim
  exact key items 0 env S rfl h0 (Nat.zero_le _)
theorem sk_while {c : ST} {b : SS} {P : SPt} (I : Env → Store → Prop) (μ : Env → Store → Nat)
    (turn : ∀ e S, I e S → Rk (c e S) fun k S1 => (k = true → Sk (b e S1) { nx := fun e2 S2 => I e2 S2 ∧ μ e2 S2 < μ e S, rt := P.rt, bk := P.nx, ct := fun e2 S2 => I e2 S2 ∧ μ e2 S2 < μ e S }) ∧ (k = false → P.nx e S1))
    (env : Env) (S : Store) (h0 : I env S) : Sk (sWhile c b env S) P := by
  have key : ∀ (n : Nat) (e : Env) (S : Store), μ e S = n → I e S → Sk (sWhile c b e S) P := by
    intro n
    induction n using Nat.strongRecOn with
    | ind n ih =>
      intro e S hn hi
      obtain ⟨k, S1, hc, h1, h2⟩ := turn e S hi
      rw [sWhile_eq, hc]
      cases k with
      | false => exact h2 rfl
      | true =>
        have h1 := h1 rfl
        dsimp only
        cases hb : b e S1 with
        | nx e2 S2 => rw [hb] at h1; exact ih _ (hn ▸ h1.2) e2 S2 rfl h1.1
        | ct e2 S2 => rw [hb] at h1; exact ih _ (hn ▸ h1.2) e2 S2 rfl h1.1
        | bk e2 S2 => rw [hb] at h1; exact h1
        | rt e2 S2 => rw [hb] at h1; exact h1
        | exc x e2 S2 => rw [hb] at h1; exact h1.elim
        | bad => rw [hb] at h1; exact h1.elim
  exact key _ env S rfl h0
theorem rk_comp {si : SI} {g : SG} {t : ST} {e : SE} {vs : List Nat} {env : Env} {S : Store} {P : D → Store → Prop} : Rk (sComp si g t e vs env S) P ↔ Rk (si env S) fun w S1 => Rk (compRun g t e w.chk S1.length (wipeD env vs) w.items (S1 ++ [.lst []])) fun _ S2 => P (.ref S1.length) S2 := by unfold sComp; simp
@[simp] theorem sk_forNil {g : SG} {b : SS} {chk : Store → Prop} {env : Env} {S : Store} {P : SPt} : Sk (forRun g b chk [] env S) P ↔ chk S ∧ P.nx env S := by
  unfold forRun
  by_cases h : chk S <;> simp [h]
@[simp] theorem sk_forCons {g : SG} {b : SS} {chk : Store → Prop} {d : D} {l : List D} {env : Env} {S : Store} {P : SPt} : Sk (forRun g b chk (d :: l) env S) P ↔ chk S ∧ ∃ e', g d env S = some e' ∧
    Sk (b e' S) { nx := fun e S1 => Sk (forRun g b chk l e S1) P, rt := P.rt, bk := P.nx, ct := fun e S1 => Sk (forRun g b chk l e S1) P } := by
  conv => lhs; unfold forRun
  by_cases h : chk S
  · simp only [h, if_true, true_and]
    cases hg : g d env S with
    | none => simp
    | some e =>
      simp only [Option.some.injEq, exists_eq_left']
      cases hb : b e S <;> simp
  · simp [h]
@[simp] theorem rk_compNil {g : SG} {t : ST} {e : SE} {chk : Store → Prop} {n0 : Nat} {env : Env} {S : Store} {P : Unit → Store → Prop} : Rk (compRun g t e chk n0 env [] S) P ↔ chk S ∧ P () S := by
  unfold compRun
  by_cases h : chk S <;> simp [h]
@[simp] theorem rk_compCons {g : SG} {t : ST} {e : SE} {chk : Store → Prop} {n0 : Nat} {env : Env} {d : D} {l : List D} {S : Store} {P : Unit → Store → Prop} : Rk (compRun g t e chk n0 env (d :: l) S) P ↔ chk S ∧ ∃ e', g d env S = some e' ∧
    Rk (t e' S) fun b S1 => (b = true → Rk (e e' S1) fun y S2 => ∃ acc, S2[n0]? = some (.lst acc) ∧ acc.length < sizeLine ∧ Rk (compRun g t e chk n0 env l (S2.set n0 (.lst (acc ++ [y])))) P) ∧ (b = false → Rk (compRun g t e chk n0 env l S1) P) := by
  conv => lhs; unfold compRun
  by_cases h : chk S
  · simp only [h, if_true, true_and]
    cases hg : g d env S with
    | none => simp
    | some e1 =>
      simp only [Option.some.injEq, exists_eq_left']
      cases ht : t e1 S with
      | exc c S1 => simp
      | bad => simp
      | ok b S1 =>
        cases b with
        | false => simp
        | true =>
          simp only [rk_ok, forall_const, Bool.true_eq_false, false_implies, and_true]
          cases he : e e1 S1 with
          | exc c S2 => simp
          | bad => simp
          | ok y S2 =>
            simp only [rk_ok]
            split
            · rename_i acc hacc
              by_cases hz : acc.length < sizeLine <;> simp [hz, hacc]
            · rename_i hno
              rw [rk_bad]
              exact ⟨fun h => h.elim, fun ⟨acc, h1, _⟩ => hno acc h1⟩
  · simp [h]
@[simp] theorem rk_yes {env : Env} {S : Store} {P : Bool → Store → Prop} : Rk (sYes env S) P ↔ P true S := rk_ok
theorem boolsD_map {A : Type} {l : List A} {p : A → Bool} : boolsD (l.map fun x => D.bl (p x)) = some (l.map p) := by
  induction l with
  | nil => rfl
  | cons a l ih => simp [boolsD, ih]
@[simp] theorem boolsD_nil : boolsD [] = some [] := rfl
@[simp] theorem boolsD_cons {b : Bool} {l : List D} : boolsD (.bl b :: l) = (boolsD l).map (b :: ·) := rfl
@[simp] theorem intsD_nil : intsD [] = some [] := rfl
@[simp] theorem intsD_cons {b : Int} {l : List D} : intsD (.int b :: l) = (intsD l).map (b :: ·) := rfl
@[simp] theorem rk_all {n : Nat} {S : Store} {P : D → Store → Prop} : Rk (fAll [.ref n] S) P ↔ ∃ l bs, lstOf S n = some l ∧ boolsD l = some bs ∧ P (.bl (bs.all id)) S := by
  unfold fAll lst1
  cases h : lstOf S n with
  | none => simp [h]
  | some l => cases h2 : boolsD l <;> simp [h, h2]
@[simp] theorem rk_any {n : Nat} {S : Store} {P : D → Store → Prop} : Rk (fAny [.ref n] S) P ↔ ∃ l bs, lstOf S n = some l ∧ boolsD l = some bs ∧ P (.bl (bs.any id)) S := by
  unfold fAny lst1
  cases h : lstOf S n with
  | none => simp [h]
  | some l => cases h2 : boolsD l <;> simp [h, h2]
@[simp] theorem rk_sum {n : Nat} {S : Store} {P : D → Store → Prop} : Rk (fSum [.ref n] S) P ↔ ∃ l bs, lstOf S n = some l ∧ intsD l = some bs ∧ P (.int bs.sum) S := by
  unfold fSum lst1
  cases h : lstOf S n with
  | none => simp [h]
  | some l => cases h2 : intsD l <;> simp [h, h2]
@[simp] theorem rk_tupleT {l : List D} {S : Store} {P : D → Store → Prop} : Rk (fTuple [.tup l] S) P ↔ P (.tup l) S := rk_ok
@[simp] theorem rk_tupleL {n : Nat} {S : Store} {P : D → Store → Prop} : Rk (fTuple [.ref n] S) P ↔ ∃ l, lstOf S n = some l ∧ P (.tup l) S := by
  unfold fTuple
  cases h : lstOf S n <;> simp [h]
@[simp] theorem rk_listT {l : List D} {S : Store} {P : D → Store → Prop} : Rk (fList [.tup l] S) P ↔ P (.ref S.length) (S ++ [.lst l]) := rk_ok
@[simp] theorem rk_listL {n : Nat} {S : Store} {P : D → Store → Prop} : Rk (fList [.ref n] S) P ↔ ∃ l, lstOf S n = some l ∧ P (.ref S.length) (S ++ [.lst l]) := by
  unfold fList
  cases h : lstOf S n <;> simp [h]
@[simp] theorem rk_zipL {n m : Nat} {S : Store} {P : Wk → Store → Prop} : Rk (fZip [.ref n, .ref m] S) P ↔ ∃ l k, lstOf S n = some l ∧ lstOf S m = some k ∧ P ⟨zipD l k, fun S => lstOf S n = some l ∧ lstOf S m = some k⟩ S := by
  unfold fZip
  cases h : lstOf S n <;> cases h2 : lstOf S m <;> simp [h, h2]
@[simp] theorem rk_zipT {l k : List D} {S : Store} {P : Wk → Store → Prop} : Rk (fZip [.tup l, .tup k] S) P ↔ P ⟨zipD l k, fun _ => True⟩ S := rk_ok
@[simp] theorem zipD_nil {k : List D} : zipD [] k = [] := rfl
@[simp] theorem zipD_cons {a b : D} {l k : List D} : zipD (a :: l) (b :: k) = .tup [a, b] :: zipD l k := rfl
@[simp] theorem rk_rng2 {i j : Int} {S : Store} {P : Wk → Store → Prop} : Rk (fRng2 [.int i, .int j] S) P ↔ (-(2 ^ 62) ≤ i ∧ i < 2 ^ 62 ∧ -(2 ^ 62) ≤ j ∧ j < 2 ^ 62) ∧ P ⟨rangeD i (j - i).toNat, fun _ => True⟩ S := by
  unfold fRng2
  dsimp only
  split
  · rename_i h; rw [rk_ok]; exact ⟨fun q => ⟨h, q⟩, fun q => q.2⟩
  · rename_i h; rw [rk_bad]; exact ⟨fun q => q.elim, fun q => h q.1⟩
@[simp] theorem wipeD_nil {env : Env} : wipeD env [] = env := rfl
@[simp] theorem wipeD_cons {env : Env} {v : Nat} {vs : List Nat} : wipeD env (v :: vs) = (wipeD env vs).set v none := rfl
@[simp] theorem rk_sl {s : SE} {lo hi : SO} {env : Env} {S : Store} {P : D → Store → Prop} : Rk (sSl s lo hi env S) P ↔ Rk (s env S) fun d S1 => Rk (lo env S1) fun l S2 => Rk (hi env S2) fun h S3 => Rk (fSl d l h S3) P := by unfold sSl; simp
@[simp] theorem rk_noPart {env : Env} {S : Store} {P : Option Int → Store → Prop} : Rk (sNoPart env S) P ↔ P none S := rk_ok
def onI (d : D) (P : Int → Prop) : Prop := match d with
  | .int i => P i
  | _ => False
@[simp] theorem onI_mk {i : Int} {P : Int → Prop} : onI (.int i) P ↔ P i := Iff.rfl
@[simp] theorem rk_part {s : SE} {env : Env} {S : Store} {P : Option Int → Store → Prop} : Rk (sPart s env S) P ↔ Rk (s env S) fun d S1 => onI d fun i => P (some i) S1 := by
  unfold sPart
  simp only [rk_bind]
  constructor
  · intro h; exact h.imp fun d S q => by cases d <;> simp_all [onI]
  · intro h; exact h.imp fun d S q => by cases d <;> simp_all [onI]
@[simp] theorem rk_slT {l : List D} {lo hi : Option Int} {S : Store} {P : D → Store → Prop} : Rk (fSl (.tup l) lo hi S) P ↔ P (.tup (cutL l lo hi)) S := rk_ok
@[simp] theorem rk_slL {n : Nat} {lo hi : Option Int} {S : Store} {P : D → Store → Prop} : Rk (fSl (.ref n) lo hi S) P ↔ ∃ l, lstOf S n = some l ∧ P (.ref S.length) (S ++ [.lst (cutL l lo hi)]) := by
  unfold fSl
  cases h : lstOf S n <;> simp [h]
@[simp] theorem gT_tup {n : Nat} {r : List D → Env → Store → Option Env} {l : List D} {env : Env} {S : Store} : gT n r (.tup l) env S = if l.length = n then r l env S else none := rfl
@[simp] theorem rk_revT {s : SE} {env : Env} {S : Store} {P : Wk → Store → Prop} : Rk (sRev s env S) P ↔ Rk (s env S) fun d S1 => Rk (fRev d S1) P := by unfold sRev; simp
@[simp] theorem rk_fRevT {l : List D} {S : Store} {P : Wk → Store → Prop} : Rk (fRev (.tup l) S) P ↔ P ⟨l.reverse, fun _ => True⟩ S := rk_ok
@[simp] theorem rk_fRevL {n : Nat} {S : Store} {P : Wk → Store → Prop} : Rk (fRev (.ref n) S) P ↔ ∃ l, lstOf S n = some l ∧ P ⟨l.reverse, fun S => lstOf S n = some l⟩ S := by
  unfold fRev
  cases h : lstOf S n <;> simp [h]
@[simp] theorem rk_revL {n : Nat} {S : Store} {P : D → Store → Prop} : Rk (fRevL (.ref n) S) P ↔ ∃ l, lstOf S n = some l ∧ P (.ref S.length) (S ++ [.lst l.reverse]) := by
  unfold fRevL
  cases h : lstOf S n <;> simp [h]
@[simp] theorem rk_zipTL {l : List D} {m : Nat} {S : Store} {P : Wk → Store → Prop} : Rk (fZip [.tup l, .ref m] S) P ↔ ∃ k, lstOf S m = some k ∧ P ⟨zipD l k, fun S => lstOf S m = some k⟩ S := by
  unfold fZip
  cases h : lstOf S m <;> simp [h]
@[simp] theorem rk_enumT {l : List D} {S : Store} {P : Wk → Store → Prop} : Rk (fEnum [.tup l] S) P ↔ P ⟨enumD l, fun _ => True⟩ S := rk_ok
@[simp] theorem rk_listRevT {l : List D} {S : Store} {P : D → Store → Prop} : Rk (fListRev (.tup l) S) P ↔ P (.ref S.length) (S ++ [.lst l.reverse]) := rk_ok
@[simp] theorem rk_listRevL {n : Nat} {S : Store} {P : D → Store → Prop} : Rk (fListRev (.ref n) S) P ↔ ∃ l, lstOf S n = some l ∧ P (.ref S.length) (S ++ [.lst l.reverse]) := by
  unfold fListRev
  cases h : lstOf S n <;> simp [h]
@[simp] theorem rk_callD {m : Mf} {dv : List Int} {s : SA} {env : Env} {S : Store} {P : D → Store → Prop} : Rk (sCallD m dv s env S) P ↔ Rk (s env S) fun ds S1 => Rk (m (ds ++ dv.map D.int) S1) P := rk_bind
@[simp] theorem rk_revRng {s : SE} {env : Env} {S : Store} {P : Wk → Store → Prop} : Rk (sRevRng s env S) P ↔ Rk (s env S) fun d S1 => Rk (fRevRng1 [d] S1) P := by unfold sRevRng; simp
@[simp] theorem rk_revRng1 {j : Int} {S : Store} {P : Wk → Store → Prop} : Rk (fRevRng1 [.int j] S) P ↔ (-(2 ^ 62) ≤ j ∧ j < 2 ^ 62) ∧ P ⟨(rangeD 0 j.toNat).reverse, fun _ => True⟩ S := by
  unfold fRevRng1
  dsimp only
  split
  · rename_i h; rw [rk_ok]; exact ⟨fun q => ⟨h, q⟩, fun q => q.2⟩
  · rename_i h; rw [rk_bad]; exact ⟨fun q => q.elim, fun q => h q.1⟩
end Rg
namespace Rg
open PySem L2
structure Tag {A : Sort _} (P : A) : Type where
  mk ::
def Rok {A : Type} (r : Res A) (P : A → Store → Prop) (_t : Tag P := .mk) : Prop := Rk r P
def Sok (r : ResS) (P : SPt) (_t : Tag P := .mk) : Prop := Sk r P
theorem Rok.imp {A : Type} {r : Res A} {P Q : A → Store → Prop} (h : Rok r P) (hi : ∀ a S, P a S → Q a S) : Rok r Q := Rk.imp h hi
theorem Rok.of {A : Type} {r : Res A} {a : A} {S : Store} {P : A → Store → Prop} (h : r = .ok a S) (p : P a S) : Rok r P := Rk.of h p
@[simp] theorem rok_ok {A : Type} {a : A} {S : Store} {P : A → Store → Prop} : Rok (.ok a S) P ↔ P a S := rk_ok
@[simp] theorem rok_bad {A : Type} {P : A → Store → Prop} : Rok (.bad : Res A) P ↔ False := rk_bad
@[simp] theorem rok_exc {A : Type} {c : Str} {S : Store} {P : A → Store → Prop} : Rok (.exc c S : Res A) P ↔ False := rk_exc
@[simp] theorem rok_bind {A B : Type} {r : Res A} {f : A → Store → Res B} {P : B → Store → Prop} : Rok (r.bind f) P ↔ Rok r fun a S => Rok (f a S) P := rk_bind
@[simp] theorem rok_ite {A : Type} {c : Prop} [Decidable c] {r s : Res A} {P : A → Store → Prop} : Rok (if c then r else s) P ↔ (c → Rok r P) ∧ (¬c → Rok s P) := rk_ite
@[simp] theorem sok_ite {c : Prop} [Decidable c] {r s : ResS} {P : SPt} : Sok (if c then r else s) P ↔ (c → Sok r P) ∧ (¬c → Sok s P) := sk_ite
@[simp] theorem sok_nx {e : Env} {S : Store} {P : SPt} : Sok (.nx e S) P ↔ P.nx e S := sk_nx
@[simp] theorem sok_rt {d : D} {S : Store} {P : SPt} : Sok (.rt d S) P ↔ P.rt d S := sk_rt
@[simp] theorem sok_bk {d : Env} {S : Store} {P : SPt} : Sok (.bk d S) P ↔ P.bk d S := sk_bk
@[simp] theorem sok_ct {d : Env} {S : Store} {P : SPt} : Sok (.ct d S) P ↔ P.ct d S := sk_ct
@[simp] theorem sok_bad {P : SPt} : Sok .bad P ↔ False := sk_bad
@[simp] theorem sok_exc {c : Str} {e : Env} {S : Store} {P : SPt} : Sok (.exc c e S) P ↔ False := sk_exc
theorem Sok.imp {r : ResS} {P Q : SPt} (h : Sok r P) (h1 : ∀ e S, P.nx e S → Q.nx e S) (h2 : ∀ e S, P.rt e S → Q.rt e S) (h3 : ∀ e S, P.bk e S → Q.bk e S) (h4 : ∀ e S, P.ct e S → Q.ct e S) : Sok r Q := Sk.imp h h1 h2 h3 h4
@[simp] theorem sok_andS {A : Type} {r : Res A} {env : Env} {f : A → Store → ResS} {P : SPt} : Sok (r.andS env f) P ↔ Rok r fun a S => Sok (f a S) P := sk_andS
@[simp] theorem sok_seq {s t : SS} {env : Env} {S : Store} {P : SPt} : Sok (sSeq s t env S) P ↔ Sok (s env S) { P with nx := fun e S1 => Sok (t e S1) P } := sk_seq
theorem rok_def {n np : Nat} {body : SS} {ds : List D} {S : Store} {P : D → Store → Prop} : Rok (mkDef n np body ds S) P ↔ ds.length = np ∧ Sok (body (ds.map some ++ List.replicate (n - ds.length) none) S) { nx := fun _ S1 => Rok (gc S .non S1) P, rt := fun d S1 => Rok (gc S d S1) P } := rk_def
@[simp] theorem rok_call {m : Mf} {s : SA} {env : Env} {S : Store} {P : D → Store → Prop} : Rok (sCall m s env S) P ↔ Rok (s env S) fun ds S1 => Rok (m ds S1) P := rk_call
@[simp] theorem rok_call0 {m : Mf} {env : Env} {S : Store} {P : D → Store → Prop} : Rok (sCall0 m env S) P ↔ Rok (m [] S) P := rk_call0
@[simp] theorem rok_s2 {f : D → D → Store → Res D} {sa sb : SE} {env : Env} {S : Store} {P : D → Store → Prop} : Rok (s2 f sa sb env S) P ↔ Rok (sa env S) fun d S1 => Rok (sb env S1) fun e S2 => Rok (f d e S2) P := rk_s2
@[simp] theorem rok_s1 {f : D → Store → Res D} {sa : SE} {env : Env} {S : Store} {P : D → Store → Prop} : Rok (s1 f sa env S) P ↔ Rok (sa env S) fun d S1 => Rok (f d S1) P := rk_s1
@[simp] theorem rok_C {d : D} {env : Env} {S : Store} {P : D → Store → Prop} : Rok (sC d env S) P ↔ P d S := rk_C
@[simp] theorem rok_var {i : Nat} {env : Env} {S : Store} {P : D → Store → Prop} : Rok (sVar i env S) P ↔ ∃ d, env[i]? = some (some d) ∧ P d S := rk_var
@[simp] theorem rok_nil {env : Env} {S : Store} {P : List D → Store → Prop} : Rok (sNil env S) P ↔ P [] S := rk_nil
@[simp] theorem rok_cons {s : SE} {r : SA} {env : Env} {S : Store} {P : List D → Store → Prop} : Rok (sCons s r env S) P ↔ Rok (s env S) fun d S1 => Rok (r env S1) fun ds S2 => P (d :: ds) S2 := rk_cons
@[simp] theorem rok_tup {s : SA} {env : Env} {S : Store} {P : D → Store → Prop} : Rok (sTup s env S) P ↔ Rok (s env S) fun ds S1 => ds.length ≤ sizeLine ∧ P (.tup ds) S1 := rk_tup
@[simp] theorem rok_lst {s : SA} {env : Env} {S : Store} {P : D → Store → Prop} : Rok (sLst s env S) P ↔ Rok (s env S) fun ds S1 => ds.length ≤ sizeLine ∧ P (.ref S1.length) (S1 ++ [.lst ds]) := rk_lst
@[simp] theorem rok_T {s : SE} {env : Env} {S : Store} {P : Bool → Store → Prop} : Rok (sT s env S) P ↔ Rok (s env S) fun d S1 => onB d fun b => P b S1 := rk_T
@[simp] theorem rok_not {s : ST} {env : Env} {S : Store} {P : Bool → Store → Prop} : Rok (sNot s env S) P ↔ Rok (s env S) fun b S1 => P (!b) S1 := rk_not
@[simp] theorem rok_and {s t : ST} {env : Env} {S : Store} {P : Bool → Store → Prop} : Rok (sAnd s t env S) P ↔ Rok (s env S) fun b S1 => (b = true → Rok (t env S1) P) ∧ (b = false → P false S1) := rk_and
@[simp] theorem rok_or {s t : ST} {env : Env} {S : Store} {P : Bool → Store → Prop} : Rok (sOr s t env S) P ↔ Rok (s env S) fun b S1 => (b = true → P true S1) ∧ (b = false → Rok (t env S1) P) := rk_or
@[simp] theorem rok_andV {s t : SE} {env : Env} {S : Store} {P : D → Store → Prop} : Rok (sAndV s t env S) P ↔ Rok (s env S) fun d S1 => onB d fun b => (b = true → Rok (t env S1) P) ∧ (b = false → P (.bl false) S1) := rk_andV
@[simp] theorem rok_orV {s t : SE} {env : Env} {S : Store} {P : D → Store → Prop} : Rok (sOrV s t env S) P ↔ Rok (s env S) fun d S1 => onB d fun b => (b = true → P (.bl true) S1) ∧ (b = false → Rok (t env S1) P) := rk_orV
@[simp] theorem rok_if {t : ST} {sa sb : SE} {env : Env} {S : Store} {P : D → Store → Prop} : Rok (sIf t sa sb env S) P ↔ Rok (t env S) fun b S1 => (b = true → Rok (sa env S1) P) ∧ (b = false → Rok (sb env S1) P) := rk_if
@[simp] theorem sok_skip {env : Env} {S : Store} {P : SPt} : Sok (sSkip env S) P ↔ P.nx env S := sk_skip
@[simp] theorem sok_break {env : Env} {S : Store} {P : SPt} : Sok (sBreak env S) P ↔ P.bk env S := sk_break
@[simp] theorem sok_cont {env : Env} {S : Store} {P : SPt} : Sok (sCont env S) P ↔ P.ct env S := sk_cont
@[simp] theorem sok_never {env : Env} {S : Store} {P : SPt} : Sok (sNever env S) P ↔ False := sk_never
@[simp] theorem sok_drop {s : SE} {env : Env} {S : Store} {P : SPt} : Sok (sDrop s env S) P ↔ Rok (s env S) fun _ S1 => P.nx env S1 := sk_drop
@[simp] theorem sok_ret {s : SE} {env : Env} {S : Store} {P : SPt} : Sok (sRet s env S) P ↔ Rok (s env S) fun d S1 => P.rt d S1 := sk_ret
@[simp] theorem sok_retN {env : Env} {S : Store} {P : SPt} : Sok (sRetN env S) P ↔ P.rt .non S := sk_retN
@[simp] theorem sok_ifS {c : ST} {s t : SS} {env : Env} {S : Store} {P : SPt} : Sok (sIfS c s t env S) P ↔ Rok (c env S) fun b S1 => (b = true → Sok (s env S1) P) ∧ (b = false → Sok (t env S1) P) := sk_ifS
@[simp] theorem sok_set {i : Nat} {s : SE} {env : Env} {S : Store} {P : SPt} : Sok (sSet i s env S) P ↔ Rok (s env S) fun d S1 => P.nx (env.set i (some d)) S1 := sk_set
@[simp] theorem sok_par {i j : Nat} {s : SA} {env : Env} {S : Store} {P : SPt} : Sok (sPar i j s env S) P ↔ Rok (s env S) fun ds S1 => on2 ds fun d e => P.nx ((env.set i (some d)).set j (some e)) S1 := sk_par
@[simp] theorem sok_par3 {i j l : Nat} {s : SA} {env : Env} {S : Store} {P : SPt} : Sok (sPar3 i j l s env S) P ↔ Rok (s env S) fun ds S1 => on3 ds fun d e f => P.nx (((env.set i (some d)).set j (some e)).set l (some f)) S1 := sk_par3
@[simp] theorem sok_asg {s : SE} {g : SG} {env : Env} {S : Store} {P : SPt} : Sok (sAsg s g env S) P ↔ Rok (s env S) fun d S1 => ∃ e, g d env S1 = some e ∧ P.nx e S1 := sk_asg
@[simp] theorem sok_setIx {se so si : SE} {env : Env} {S : Store} {P : SPt} : Sok (sSetIx se so si env S) P ↔ Rok (se env S) fun d S1 => Rok (so env S1) fun o S2 => Rok (si env S2) fun i S3 =>
    onRI o i fun n k => ∃ l, S3[n]? = some (.lst l) ∧ ∃ j, ixN l.length k = some j ∧ P.nx env (S3.set n (.lst (l.set j d))) := sk_setIx
@[simp] theorem rok_fI {g : Int → Int → Int} {i j : Int} {S : Store} {P : D → Store → Prop} : Rok (fI g (.int i) (.int j) S) P ↔ P (.int (g i j)) S := rk_fI
@[simp] theorem rok_fIB {g : Int → Int → Bool} {i j : Int} {S : Store} {P : D → Store → Prop} : Rok (fIB g (.int i) (.int j) S) P ↔ P (.bl (g i j)) S := rk_fIB
@[simp] theorem rok_fIC {C : Int → Int → Prop} {g : Int → Int → Int} {i j : Int} {S : Store} {P : D → Store → Prop} : Rok (fIC C g (.int i) (.int j) S) P ↔ C i j ∧ P (.int (g i j)) S := rk_fIC
@[simp] theorem rok_plusI {i j : Int} {S : Store} {P : D → Store → Prop} : Rok (fPlus (.int i) (.int j) S) P ↔ P (.int (i + j)) S := rk_plusI
@[simp] theorem rok_plusT {x y : List D} {S : Store} {P : D → Store → Prop} : Rok (fPlus (.tup x) (.tup y) S) P ↔ x.length + y.length ≤ sizeLine ∧ P (.tup (x ++ y)) S := rk_plusT
@[simp] theorem rok_plusL {m n : Nat} {S : Store} {P : D → Store → Prop} : Rok (fPlus (.ref m) (.ref n) S) P ↔ ∃ x y, lstOf S m = some x ∧ lstOf S n = some y ∧ x.length + y.length ≤ sizeLine ∧ P (.ref S.length) (S ++ [.lst (x ++ y)]) := rk_plusL
@[simp] theorem rok_neg {i : Int} {S : Store} {P : D → Store → Prop} : Rok (fNeg (.int i) S) P ↔ P (.int (-i)) S := rk_neg
@[simp] theorem rok_fnot {b : Bool} {S : Store} {P : D → Store → Prop} : Rok (fNot (.bl b) S) P ↔ P (.bl (!b)) S := rk_fnot
@[simp] theorem rok_isN {d : D} {S : Store} {P : D → Store → Prop} : Rok (fIsN d S) P ↔ P (.bl d.isNon) S := rk_isN
@[simp] theorem rok_notN {d : D} {S : Store} {P : D → Store → Prop} : Rok (fNotN d S) P ↔ P (.bl (!d.isNon)) S := rk_notN
@[simp] theorem rok_isB {a b : Bool} {S : Store} {P : D → Store → Prop} : Rok (fIsB (.bl a) (.bl b) S) P ↔ P (.bl (decide (a = b))) S := rk_isB
@[simp] theorem rok_notB {a b : Bool} {S : Store} {P : D → Store → Prop} : Rok (fNotB (.bl a) (.bl b) S) P ↔ P (.bl (!decide (a = b))) S := rk_notB
@[simp] theorem rok_ixT {l : List D} {i : Int} {S : Store} {P : D → Store → Prop} : Rok (fIx (.tup l) (.int i) S) P ↔ ∃ x, atI l i = some x ∧ P x S := rk_ixT
@[simp] theorem rok_ixL {n : Nat} {i : Int} {S : Store} {P : D → Store → Prop} : Rok (fIx (.ref n) (.int i) S) P ↔ ∃ l x, lstOf S n = some l ∧ atI l i = some x ∧ P x S := rk_ixL
@[simp] theorem rok_abs {i : Int} {S : Store} {P : D → Store → Prop} : Rok (fAbs [.int i] S) P ↔ P (.int (i.natAbs : Int)) S := rk_abs
@[simp] theorem rok_max2 {i j : Int} {S : Store} {P : D → Store → Prop} : Rok (fMax2 [.int i, .int j] S) P ↔ P (.int (max i j)) S := rk_max2
@[simp] theorem rok_min2 {i j : Int} {S : Store} {P : D → Store → Prop} : Rok (fMin2 [.int i, .int j] S) P ↔ P (.int (min i j)) S := rk_min2
@[simp] theorem rok_intI {i : Int} {S : Store} {P : D → Store → Prop} : Rok (fInt [.int i] S) P ↔ P (.int i) S := rk_intI
@[simp] theorem rok_intB {b : Bool} {S : Store} {P : D → Store → Prop} : Rok (fInt [.bl b] S) P ↔ P (.int (if b then 1 else 0)) S := rk_intB
@[simp] theorem rok_bits {i : Int} {S : Store} {P : D → Store → Prop} : Rok (fBits (.int i) S) P ↔ P (.int (Builtin.Int.intBits i : Nat)) S := rk_bits
@[simp] theorem rok_lenT {l : List D} {S : Store} {P : D → Store → Prop} : Rok (fLen [.tup l] S) P ↔ P (.int (l.length : Nat)) S := rk_lenT
@[simp] theorem rok_lenL {n : Nat} {S : Store} {P : D → Store → Prop} : Rok (fLen [.ref n] S) P ↔ ∃ l, lstOf S n = some l ∧ P (.int (l.length : Nat)) S := rk_lenL
@[simp] theorem rok_isi {c : Ty} {d : D} {S : Store} {P : D → Store → Prop} : Rok (fIsi c d S) P ↔ ∃ t, tyOf S d = some t ∧ P (.bl (t.isa c)) S := rk_isi
@[simp] theorem rok_isi2 {c c' : Ty} {d : D} {S : Store} {P : D → Store → Prop} : Rok (fIsi2 c c' d S) P ↔ ∃ t, tyOf S d = some t ∧ P (.bl (t.isa c || t.isa c')) S := rk_isi2
@[simp] theorem rok_eq {d e : D} {S : Store} {P : D → Store → Prop} : Rok (fEq d e S) P ↔ ∃ x y, toP S 60 d = some x ∧ toP S 60 e = some y ∧ P (.bl (PyData.eqv x y)) S := rk_eq
@[simp] theorem rok_ne {d e : D} {S : Store} {P : D → Store → Prop} : Rok (fNe d e S) P ↔ ∃ x y, toP S 60 d = some x ∧ toP S 60 e = some y ∧ P (.bl (!PyData.eqv x y)) S := rk_ne
@[simp] theorem rok_append {n : Nat} {y : D} {S : Store} {P : D → Store → Prop} : Rok (fAppend (.ref n) [y] S) P ↔ ∃ l, S[n]? = some (.lst l) ∧ l.length < sizeLine ∧ P .non (S.set n (.lst (l ++ [y]))) := rk_append
@[simp] theorem rok_methL {f : D → List D → Store → Res D} {so : SE} {sr : SA} {env : Env} {S : Store} {P : D → Store → Prop} : Rok (sMethL f so sr env S) P ↔ Rok (so env S) fun d S1 => isLst S1 d = true ∧ Rok (sr env S1) fun ds S2 => Rok (f d ds S2) P := rk_methL
@[simp] theorem rok_iterT {s : SE} {env : Env} {S : Store} {P : Wk → Store → Prop} : Rok (sIter s env S) P ↔ Rok (s env S) fun d S1 => Rok (fIter d S1) P := rk_iterT
@[simp] theorem rok_fIterT {l : List D} {S : Store} {P : Wk → Store → Prop} : Rok (fIter (.tup l) S) P ↔ P ⟨l, fun _ => True⟩ S := rk_fIterT
@[simp] theorem rok_fIterL {n : Nat} {S : Store} {P : Wk → Store → Prop} : Rok (fIter (.ref n) S) P ↔ ∃ l, lstOf S n = some l ∧ P ⟨l, fun S => lstOf S n = some l⟩ S := rk_fIterL
@[simp] theorem rok_rng {f : List D → Store → Res Wk} {s : SA} {env : Env} {S : Store} {P : Wk → Store → Prop} : Rok (sRng f s env S) P ↔ Rok (s env S) fun ds S1 => Rok (f ds S1) P := rk_rng
@[simp] theorem rok_rng1 {j : Int} {S : Store} {P : Wk → Store → Prop} : Rok (fRng1 [.int j] S) P ↔ (-(2 ^ 62) ≤ j ∧ j < 2 ^ 62) ∧ P ⟨rangeD 0 j.toNat, fun _ => True⟩ S := rk_rng1
theorem sok_for {si : SI} {g : SG} {b : SS} {env : Env} {S : Store} {P : SPt} : Sok (sFor si g b env S) P ↔ Rok (si env S) fun w S1 => Sok (forRun g b w.chk w.items env S1) P := sk_for
theorem sok_forRun {g : SG} {b : SS} {chk : Store → Prop} {P : SPt} (I : Nat → Env → Store → Prop) (items : List D) (hchk : ∀ i e S, I i e S → chk S)
    (turn : ∀ i d e S, items[i]? = some d → I i e S → ∃ e', g d e S = some e' ∧ Sok (b e' S) { nx := I (i + 1), rt := P.rt, bk := P.nx, ct := I (i + 1) })
    (hend : ∀ e S, I items.length e S → P.nx e S) (env : Env) (S : Store) (h0 : I 0 env S) : Sok (forRun g b chk items env S) P := sk_forRun I items hchk turn hend env S h0
theorem sok_while {c : ST} {b : SS} {P : SPt} (I : Env → Store → Prop) (μ : Env → Store → Nat)
    (turn : ∀ e S, I e S → Rok (c e S) fun k S1 => (k = true → Sok (b e S1) { nx := fun e2 S2 => I e2 S2 ∧ μ e2 S2 < μ e S, rt := P.rt, bk := P.nx, ct := fun e2 S2 => I e2 S2 ∧ μ e2 S2 < μ e S }) ∧ (k = false → P.nx e S1))
    (env : Env) (S : Store) (h0 : I env S) : Sok (sWhile c b env S) P := sk_while I μ turn env S h0
theorem rok_comp {si : SI} {g : SG} {t : ST} {e : SE} {vs : List Nat} {env : Env} {S : Store} {P : D → Store → Prop} : Rok (sComp si g t e vs env S) P ↔ Rok (si env S) fun w S1 => Rok (compRun g t e w.chk S1.length (wipeD env vs) w.items (S1 ++ [.lst []])) fun _ S2 => P (.ref S1.length) S2 := rk_comp
@[simp] theorem sok_forNil {g : SG} {b : SS} {chk : Store → Prop} {env : Env} {S : Store} {P : SPt} : Sok (forRun g b chk [] env S) P ↔ chk S ∧ P.nx env S := sk_forNil
@[simp] theorem sok_forCons {g : SG} {b : SS} {chk : Store → Prop} {d : D} {l : List D} {env : Env} {S : Store} {P : SPt} : Sok (forRun g b chk (d :: l) env S) P ↔ chk S ∧ ∃ e', g d env S = some e' ∧
    Sok (b e' S) { nx := fun e S1 => Sok (forRun g b chk l e S1) P, rt := P.rt, bk := P.nx, ct := fun e S1 => Sok (forRun g b chk l e S1) P } := sk_forCons
@[simp] theorem rok_compNil {g : SG} {t : ST} {e : SE} {chk : Store → Prop} {n0 : Nat} {env : Env} {S : Store} {P : Unit → Store → Prop} : Rok (compRun g t e chk n0 env [] S) P ↔ chk S ∧ P () S := rk_compNil
@[simp] theorem rok_compCons {g : SG} {t : ST} {e : SE} {chk : Store → Prop} {n0 : Nat} {env : Env} {d : D} {l : List D} {S : Store} {P : Unit → Store → Prop} : Rok (compRun g t e chk n0 env (d :: l) S) P ↔ chk S ∧ ∃ e', g d env S = some e' ∧
    Rok (t e' S) fun b S1 => (b = true → Rok (e e' S1) fun y S2 => ∃ acc, S2[n0]? = some (.lst acc) ∧ acc.length < sizeLine ∧ Rok (compRun g t e chk n0 env l (S2.set n0 (.lst (acc ++ [y])))) P) ∧ (b = false → Rok (compRun g t e chk n0 env l S1) P) := rk_compCons
@[simp] theorem rok_yes {env : Env} {S : Store} {P : Bool → Store → Prop} : Rok (sYes env S) P ↔ P true S := rk_yes
@[simp] theorem rok_all {n : Nat} {S : Store} {P : D → Store → Prop} : Rok (fAll [.ref n] S) P ↔ ∃ l bs, lstOf S n = some l ∧ boolsD l = some bs ∧ P (.bl (bs.all id)) S := rk_all
@[simp] theorem rok_any {n : Nat} {S : Store} {P : D → Store → Prop} : Rok (fAny [.ref n] S) P ↔ ∃ l bs, lstOf S n = some l ∧ boolsD l = some bs ∧ P (.bl (bs.any id)) S := rk_any
@[simp] theorem rok_sum {n : Nat} {S : Store} {P : D → Store → Prop} : Rok (fSum [.ref n] S) P ↔ ∃ l bs, lstOf S n = some l ∧ intsD l = some bs ∧ P (.int bs.sum) S := rk_sum
@[simp] theorem rok_tupleT {l : List D} {S : Store} {P : D → Store → Prop} : Rok (fTuple [.tup l] S) P ↔ P (.tup l) S := rk_tupleT
@[simp] theorem rok_tupleL {n : Nat} {S : Store} {P : D → Store → Prop} : Rok (fTuple [.ref n] S) P ↔ ∃ l, lstOf S n = some l ∧ P (.tup l) S := rk_tupleL
@[simp] theorem rok_listT {l : List D} {S : Store} {P : D → Store → Prop} : Rok (fList [.tup l] S) P ↔ P (.ref S.length) (S ++ [.lst l]) := rk_listT
@[simp] theorem rok_listL {n : Nat} {S : Store} {P : D → Store → Prop} : Rok (fList [.ref n] S) P ↔ ∃ l, lstOf S n = some l ∧ P (.ref S.length) (S ++ [.lst l]) := rk_listL
@[simp] theorem rok_zipL {n m : Nat} {S : Store} {P : Wk → Store → Prop} : Rok (fZip [.ref n, .ref m] S) P ↔ ∃ l k, lstOf S n = some l ∧ lstOf S m = some k ∧ P ⟨zipD l k, fun S => lstOf S n = some l ∧ lstOf S m = some k⟩ S := rk_zipL
@[simp] theorem rok_zipT {l k : List D} {S : Store} {P : Wk → Store → Prop} : Rok (fZip [.tup l, .tup k] S) P ↔ P ⟨zipD l k, fun _ => True⟩ S := rk_zipT
@[simp] theorem rok_rng2 {i j : Int} {S : Store} {P : Wk → Store → Prop} : Rok (fRng2 [.int i, .int j] S) P ↔ (-(2 ^ 62) ≤ i ∧ i < 2 ^ 62 ∧ -(2 ^ 62) ≤ j ∧ j < 2 ^ 62) ∧ P ⟨rangeD i (j - i).toNat, fun _ => True⟩ S := rk_rng2
@[simp] theorem rok_sl {s : SE} {lo hi : SO} {env : Env} {S : Store} {P : D → Store → Prop} : Rok (sSl s lo hi env S) P ↔ Rok (s env S) fun d S1 => Rok (lo env S1) fun l S2 => Rok (hi env S2) fun h S3 => Rok (fSl d l h S3) P := rk_sl
@[simp] theorem rok_noPart {env : Env} {S : Store} {P : Option Int → Store → Prop} : Rok (sNoPart env S) P ↔ P none S := rk_noPart
@[simp] theorem rok_part {s : SE} {env : Env} {S : Store} {P : Option Int → Store → Prop} : Rok (sPart s env S) P ↔ Rok (s env S) fun d S1 => onI d fun i => P (some i) S1 := rk_part
@[simp] theorem rok_slT {l : List D} {lo hi : Option Int} {S : Store} {P : D → Store → Prop} : Rok (fSl (.tup l) lo hi S) P ↔ P (.tup (cutL l lo hi)) S := rk_slT
@[simp] theorem rok_slL {n : Nat} {lo hi : Option Int} {S : Store} {P : D → Store → Prop} : Rok (fSl (.ref n) lo hi S) P ↔ ∃ l, lstOf S n = some l ∧ P (.ref S.length) (S ++ [.lst (cutL l lo hi)]) := rk_slL
@[simp] theorem rok_revT {s : SE} {env : Env} {S : Store} {P : Wk → Store → Prop} : Rok (sRev s env S) P ↔ Rok (s env S) fun d S1 => Rok (fRev d S1) P := rk_revT
@[simp] theorem rok_fRevT {l : List D} {S : Store} {P : Wk → Store → Prop} : Rok (fRev (.tup l) S) P ↔ P ⟨l.reverse, fun _ => True⟩ S := rk_fRevT
@[simp] theorem rok_fRevL {n : Nat} {S : Store} {P : Wk → Store → Prop} : Rok (fRev (.ref n) S) P ↔ ∃ l, lstOf S n = some l ∧ P ⟨l.reverse, fun S => lstOf S n = some l⟩ S := rk_fRevL
@[simp] theorem rok_revL {n : Nat} {S : Store} {P : D → Store → Prop} : Rok (fRevL (.ref n) S) P ↔ ∃ l, lstOf S n = some l ∧ P (.ref S.length) (S ++ [.lst l.reverse]) := rk_revL
@[simp] theorem rok_zipTL {l : List D} {m : Nat} {S : Store} {P : Wk → Store → Prop} : Rok (fZip [.tup l, .ref m] S) P ↔ ∃ k, lstOf S m = some k ∧ P ⟨zipD l k, fun S => lstOf S m = some k⟩ S := rk_zipTL
@[simp] theorem rok_enumT {l : List D} {S : Store} {P : Wk → Store → Prop} : Rok (fEnum [.tup l] S) P ↔ P ⟨enumD l, fun _ => True⟩ S := rk_enumT
@[simp] theorem rok_listRevT {l : List D} {S : Store} {P : D → Store → Prop} : Rok (fListRev (.tup l) S) P ↔ P (.ref S.length) (S ++ [.lst l.reverse]) := rk_listRevT
@[simp] theorem rok_listRevL {n : Nat} {S : Store} {P : D → Store → Prop} : Rok (fListRev (.ref n) S) P ↔ ∃ l, lstOf S n = some l ∧ P (.ref S.length) (S ++ [.lst l.reverse]) := rk_listRevL
@[simp] theorem rok_callD {m : Mf} {dv : List Int} {s : SA} {env : Env} {S : Store} {P : D → Store → Prop} : Rok (sCallD m dv s env S) P ↔ Rok (s env S) fun ds S1 => Rok (m (ds ++ dv.map D.int) S1) P := rk_callD
@[simp] theorem rok_revRng {s : SE} {env : Env} {S : Store} {P : Wk → Store → Prop} : Rok (sRevRng s env S) P ↔ Rok (s env S) fun d S1 => Rok (fRevRng1 [d] S1) P := rk_revRng
@[simp] theorem rok_revRng1 {j : Int} {S : Store} {P : Wk → Store → Prop} : Rok (fRevRng1 [.int j] S) P ↔ (-(2 ^ 62) ≤ j ∧ j < 2 ^ 62) ∧ P ⟨(rangeD 0 j.toNat).reverse, fun _ => True⟩ S := rk_revRng1
end Rg
namespace Rg
open PySem PySem.Spec PyProof.Rows L2
mutual
theorem key_is {X : Cx} {pins : List (Addr × Obj)} {σ : L2.St} {H : Hp} {s : Shared} {p : List Addr} (I : Inv X pins σ H s) : ∀ (d : D) (v : V) (u : Value) (k : NestedKey), RV X.K H p d v → RelV v u → keyD d = some k → NestedIs s.heap k u
  | .int i, v, u, k, r, ru, h => by
    rw [RV.int_iff] at r
    subst r
    obtain ⟨t, rfl⟩ := ru
    simp [keyD] at h
    subst h
    exact .int i t
  | .tup l, v, u, k, r, ru, h => by
    obtain ⟨a, xs, rfl, h1, h2⟩ := RV.tup_iff.mp r
    cases ru
    obtain ⟨its, rv, ⟨o, ho, hc, n, hd⟩, _⟩ := I.tuple h1
    simp only [keyD] at h
    cases e : keyD.keyDs l with
    | none => rw [e] at h; cases h
    | some ks =>
      rw [e] at h
      cases h
      exact .tup ho hc hd (keys_are I l xs its ks h2 rv e)
  | .non, _, _, _, _, _, h => by simp [keyD] at h
  | .bl _, _, _, _, _, _, h => by simp [keyD] at h
  | .str _, _, _, _, _, _, h => by simp [keyD] at h
  | .ref _, _, _, _, _, _, h => by simp [keyD] at h
theorem keys_are {X : Cx} {pins : List (Addr × Obj)} {σ : L2.St} {H : Hp} {s : Shared} {p : List Addr} (I : Inv X pins σ H s) : ∀ (l : List D) (vs : List V) (us : List Value) (ks : List NestedKey), RVs X.K H p l vs → Vals vs us → keyD.keyDs l = some ks → NestedAll s.heap ks us
  | [], vs, us, ks, r, ru, h => by
    rw [RVs.nil_iff] at r
    subst r
    cases ru
    simp [keyD.keyDs] at h
    subst h
    exact .nil
  | d :: l, vs, us, ks, r, ru, h => by
    obtain ⟨v, vs', rfl, r1, r2⟩ := RVs.cons_iff.mp r
    cases ru with
    | cons u1 u2 =>
      simp only [keyD.keyDs] at h
      cases e1 : keyD d with
      | none => rw [e1] at h; cases h
      | some k =>
        cases e2 : keyD.keyDs l with
        | none => rw [e1, e2] at h; cases h
        | some ks' =>
          rw [e1, e2] at h
          cases h
          exact .cons (key_is I d _ _ k r1 u1 e1) (keys_are I l _ _ ks' r2 u2 e2)
end
mutual
theorem key_hash : ∀ (d : D) (k : NestedKey), keyD d = some k → ∀ w w', k.hash w = k.hash w'
  | .int i, k, h, w, w' => by
    simp [keyD] at h
    subst h
    rfl
  | .tup l, k, h, w, w' => by
    simp only [keyD] at h
    cases e : keyD.keyDs l with
    | none => rw [e] at h; cases h
    | some ks =>
      rw [e] at h
      cases h
      show reduceHash (Builtin.Tuple.tupleHashOf (NestedKey.hashes w ks)) = reduceHash (Builtin.Tuple.tupleHashOf (NestedKey.hashes w' ks))
      rw [keys_hash l ks e w w']
  | .non, _, h, _, _ => by simp [keyD] at h
  | .bl _, _, h, _, _ => by simp [keyD] at h
  | .str _, _, h, _, _ => by simp [keyD] at h
  | .ref _, _, h, _, _ => by simp [keyD] at h
theorem keys_hash : ∀ (l : List D) (ks : List NestedKey), keyD.keyDs l = some ks → ∀ w w', NestedKey.hashes w ks = NestedKey.hashes w' ks
  | [], ks, h, w, w' => by
    simp [keyD.keyDs] at h
    subst h
    rfl
  | d :: l, ks, h, w, w' => by
    simp only [keyD.keyDs] at h
    cases e1 : keyD d with
    | none => rw [e1] at h; cases h
    | some k =>
      cases e2 : keyD.keyDs l with
      | none => rw [e1, e2] at h; cases h
      | some ks' =>
        rw [e1, e2] at h
        cases h
        show k.hash w :: NestedKey.hashes w ks' = k.hash w' :: NestedKey.hashes w' ks'
        rw [key_hash d k e1 w w', keys_hash l ks' e2 w w']
end
theorem hashN_eq {d : D} {k : NestedKey} (h : keyD d = some k) (w : World) : k.hash w = hashN k := by
  have hx : ∃ n, ∀ w, k.hash w = n := ⟨k.hash w, fun w' => key_hash d k h w' w⟩
  unfold hashN
  rw [dif_pos hx]
  exact hx.choose_spec w
section
variable {X : Cx} {pins : List (Addr × Obj)} {σ : L2.St} {H : Hp} {s : Shared} {p : List Addr} {a : Addr} {xs : List (NestedKey × Addr × Value)} {ks : List D}
theorem dn_of (I : Inv X pins σ H s) (h : H a = some (DNo a xs)) (r : RVs X.K H p ks (xs.map fun x => V.ref x.2.1)) (hk : ks.map keyD = xs.map fun x => some x.1) (hd : ∀ x ∈ xs, x.1.depth ≤ 8) :
    s.heap.DictOfH (nestedKind X.prog X.w) a xs ∧ xs.length ≤ sizeLine ∧ (a == sysModules) = false := by
  obtain ⟨⟨⟨o, es, ep, ho, hc, hda, he⟩, hn, hz, hs, hh⟩, _⟩ := I.hok a _ h
  refine ⟨⟨o, es, ep, ho, hc, hda, ?_, fun x hx => ⟨?_, hd x hx⟩, hn⟩, hz, hs⟩
  · rw [he]
    refine List.map_congr_left fun x hx => ?_
    show (⟨hashN x.1, .ref x.2.1, x.2.2⟩ : DictEntry) = ⟨x.1.hash X.w, .ref x.2.1, x.2.2⟩
    rw [hh x hx]
  · obtain ⟨i, hi⟩ := List.mem_iff_getElem?.mp hx
    have e1 : (ks.map keyD)[i]? = some (some x.1) := by rw [hk, List.getElem?_map, hi]; rfl
    rw [List.getElem?_map] at e1
    obtain ⟨d, hd1, hd2⟩ := Option.map_eq_some_iff.mp e1
    have e2 : (xs.map fun x => V.ref x.2.1)[i]? = some (.ref x.2.1) := by rw [List.getElem?_map, hi]; rfl
    obtain ⟨v, hv, rv⟩ := r.get hd1
    rw [e2] at hv
    cases hv
    exact key_is I d _ _ x.1 rv rfl hd2
theorem dn_new {h' : Heap} {H' : Hp} (hm : h'.DictOfH (nestedKind X.prog X.w) a xs) (hz : xs.length ≤ sizeLine) (hs : (a == sysModules) = false) (hh : ∀ x ∈ xs, ∀ w, x.1.hash w = hashN x.1) : ObjOk X.prog X.w H' h' a (DNo a xs) := by
  obtain ⟨o, es, ep, ho, hc, hda, he, _, hn⟩ := hm
  refine ⟨⟨⟨o, es, ep, ho, hc, hda, ?_⟩, hn, hz, hs, hh⟩, ⟨o, ho⟩, ?_⟩
  · rw [he]
    refine List.map_congr_left fun x hx => ?_
    show (⟨x.1.hash X.w, .ref x.2.1, x.2.2⟩ : DictEntry) = ⟨hashN x.1, .ref x.2.1, x.2.2⟩
    rw [hh x hx]
  · rintro h1 h2 ⟨⟨o, es, ep, q1, q2⟩, q3⟩ k
    exact ⟨⟨o, es, ep, k o q1, q2⟩, q3⟩
def okK (d : D) : Bool := match d with
  | .tup _ => match keyD d with
    | some k => decide (k.depth ≤ 8)
    | none => false
  | _ => false
theorem okK_ok {d : D} (h : okK d = true) : ∃ l k, d = .tup l ∧ keyD d = some k ∧ k.depth ≤ 8 := by
  unfold okK at h
  split at h
  · rename_i l
    split at h
    · rename_i k hk
      exact ⟨l, k, rfl, hk, by simpa using h⟩
    · cases h
  · cases h
structure DnAt (K : PySem.W.Frag) (H : Hp) (p : List Addr) (a : Addr) (ks : List D) (xs : List (NestedKey × Addr × Value)) : Prop where
  at_ : H a = some (DNo a xs)
  rv : RVs K H p ks (xs.map fun x => V.ref x.2.1)
  key : ks.map keyD = xs.map fun x => some x.1
  ok : ∀ d ∈ ks, okK d = true
theorem DnAt.dep {K : PySem.W.Frag} (h : DnAt K H p a ks xs) : ∀ x ∈ xs, x.1.depth ≤ 8 := fun x hx => by
  obtain ⟨i, hi⟩ := List.mem_iff_getElem?.mp hx
  have e1 : (ks.map keyD)[i]? = some (some x.1) := by rw [h.key, List.getElem?_map, hi]; rfl
  rw [List.getElem?_map] at e1
  obtain ⟨d, hd1, hd2⟩ := Option.map_eq_some_iff.mp e1
  obtain ⟨l, k, _, hk, hdep⟩ := okK_ok (h.ok d (List.mem_of_getElem? hd1))
  rw [hd2] at hk
  cases hk
  exact hdep
theorem DnAt.of (I : Inv X pins σ H s) (h : DnAt X.K H p a ks xs) : s.heap.DictOfH (nestedKind X.prog X.w) a xs ∧ xs.length ≤ sizeLine ∧ (a == sysModules) = false := dn_of I h.at_ h.rv h.key h.dep
theorem atKey_mem {k : NestedKey} : (atKey xs k).isSome = xs.any fun x => decide (x.1 = k) := by
  unfold atKey
  rw [Option.isSome_map, Bool.eq_iff_iff, List.find?_isSome]
  simp [List.any_eq_true]
def hasK (ks : List D) (d : D) : Bool := (ks.map keyD).any fun k => decide (k = keyD d)
theorem hasK_eq {k : NestedKey} {d : D} (hk : keyD d = some k) (h : ks.map keyD = xs.map fun x => some x.1) : hasK ks d = (atKey xs k).isSome := by
  unfold hasK
  rw [h, atKey_mem, hk, List.any_map]
  congr 1
  funext x
  simp [Function.comp]
end
section
variable {X : Cx} {G : Gx} {e a b c o : Expr} {pos : Pos} {sa sb so : SE} {st : ST} {es : List Expr} {sr : SA}
def tDNewN : TE := fun _ H Q => ∀ p, H p = none → Q (.ref p) (upd H p (DNo p []))
theorem pe_dnewN : PE X (.Dict [] [] pos) tDNewN := ⟨fun pins s σ H Q I h =>
  wpAny_Dict_empty ⟨.ref s.heap.objs.size, _, I.laid (a := s.heap.objs.size) (o := DNo s.heap.objs.size []) (t' := s.toks) (fun _ _ q => Heap.get?_push_of_some _ q) (Nat.le_refl _)
    (dn_new (X := X) (Heap.DictOfH.new s.heap) (Nat.zero_le _) (beq_eq_false_iff_ne.mpr (Ne.symm (Nat.ne_of_lt I.big))) (fun _ h => by cases h)), rfl, h _ (I.hok.fresh (Nat.le_refl _))⟩⟩
def sDctN : SE := fun _ S => .ok (.ref S.length) (S ++ [.dn []])
theorem me_dctN : ME X G (.Dict [] [] pos) sDctN := fun _ => by
  refine pe_imp pe_dnewN fun σ H Q h => ?_
  obtain ⟨p, env, S, rs, rst, g⟩ := h
  intro q hq
  obtain ⟨E, R, e⟩ := rst.push (o := DNo q []) (c := .dn []) hq ⟨[], upd_same, .nil, rfl⟩
  exact g _ _ E R _ (RV.ref_iff.mpr ⟨q, rfl, e⟩)
def rInN (K : PySem.W.Frag) : R2 := fun x y H Q => ∃ (p : List Addr) (a : Addr) (ks : List D) (xs : List (NestedKey × Addr × Value)) (d : D), DnAt K H p a ks xs ∧ RV K H p d x ∧ okK d = true ∧ y = .ref a ∧ Q (.bl (hasK ks d)) H
theorem op_inN (hu : X.A.units + 65 < cLine) : OpR X (compareOp .In) (rInN X.K) := by
  intro pins s σ H x y v u Q I rx ry h
  obtain ⟨p, a, ks, xs, d, hd, rd, ok, rfl, q⟩ := h
  obtain ⟨hm, hz, hs⟩ := hd.of I
  obtain ⟨l, k, rfl, hk, hdep⟩ := okK_ok ok
  obtain ⟨b, ys, rfl, _, _⟩ := RV.tup_iff.mp rd
  have hkey := key_is I _ _ _ k rd rx hk
  cases rx
  cases ry
  refine wpAny_in_heap (knd := nestedKind X.prog X.w) (k := k) (by show X.A.units + 1 + 8 < cLine; omega) ⟨hkey, hdep⟩ hs hm ?_
  rw [← hasK_eq hk hd.key]
  exact ⟨.bl _, H, I.tok _, rfl, q⟩
def fInN : D → D → Store → Res D := fun d e S => match e with
  | .ref n => match S[n]? with
    | some (.dn ks) => if okK d = true ∧ (∀ k ∈ ks, okK k = true) then .ok (.bl (hasK ks d)) S else .bad
    | _ => .bad
  | _ => .bad
theorem rf_inN {K : PySem.W.Frag} : RfO K (rInN K) fInN := by
  intro G σ H p S d e x y Q rst rx ry h
  unfold fInN at h
  split at h
  · rename_i n
    split at h
    · rename_i ks hn
      split at h
      · rename_i hok
        obtain ⟨a, rfl, ea⟩ := RV.ref_iff.mp ry
        obtain ⟨xs, h1, h2, h3⟩ := rst.cell n _ a hn ea
        exact ⟨p, a, ks, xs, d, ⟨h1, h2, h3, hok.2⟩, rx, hok.1, rfl, h H p .refl rst _ (RV.bl_iff.mpr rfl)⟩
      · exact h.elim
    · exact h.elim
  · exact h.elim
theorem me_inN {k : Nat} (hr : Room (k + 1) X.A) (ha : ME X G a sa) (hb : ME X G b sb) (hm : behindInMarks .In b = false := by rfl) : ME X G (.Compare a [.In] [b] pos) (s2 fInN sa sb) := me_cmp (op_inN (room65 hr)) rf_inN ha hb hm
def rLenN (K : PySem.W.Frag) : List V → Hp → VK → Prop := fun vs H Q => ∃ (p : List Addr) (a : Addr) (ks : List D) (xs : List (NestedKey × Addr × Value)), vs = [.ref a] ∧ DnAt K H p a ks xs ∧ Q (.int ((ks.length : Nat) : Int)) H
theorem cr_lenN : CallR X (.builtin "len") (rLenN X.K) := by
  intro pins s σ H vs us Q I r h
  obtain ⟨p, a, ks, xs, rfl, hd, q⟩ := h
  obtain ⟨hm, hz, hs⟩ := hd.of I
  obtain ⟨u, rfl, rx⟩ := vals1 r
  obtain rfl : u = .ref a := rx
  have hl : ks.length = xs.length := by have := congrArg List.length hd.key; simpa using this
  refine call_len_dictH hs hm (by rw [sizeLine_eq] at hz; omega) ?_
  rw [← hl]
  exact ⟨.int ((ks.length : Nat) : Int), H, I.tok _, ⟨_, rfl⟩, q⟩
def fLenN : Mf := fun ds S => match ds with
  | [.ref n] => match S[n]? with
    | some (.dn ks) => if ∀ k ∈ ks, okK k = true then .ok (.int (ks.length : Nat)) S else .bad
    | _ => .bad
  | _ => .bad
theorem rc_lenN {K : PySem.W.Frag} : RfC K (rLenN K) fLenN := by
  intro G σ H p S ds xs Q rst rx h
  unfold fLenN at h
  split at h
  · rename_i n
    obtain ⟨x, rfl, r⟩ := rx.one
    obtain ⟨a, rfl, ea⟩ := RV.ref_iff.mp r
    split at h
    · rename_i ks hn
      split at h
      · rename_i hok
        obtain ⟨ys, h1, h2, h3⟩ := rst.cell n _ a hn ea
        exact ⟨p, a, ks, ys, rfl, ⟨h1, h2, h3, hok⟩, h H p .refl rst _ (RV.int_iff.mpr rfl)⟩
      · exact h.elim
    · exact h.elim
  · exact h.elim
theorem me_lenN {p : Pos} (hm : X.mg "len" = none) (ha : MA X G (e :: es) sr) (hg : Gl X "len" := by rfl) (he : starEach (e :: es) X.env = (false, eval e X.env) :: starEach es X.env := by rfl) (hpl : (backTo pos (starEach es X.env)).any (·.1) = false := by rfl) :
    ME X G (.Call (.Name "len" p) (e :: es) [] pos) (sCall fLenN sr) := me_callB cr_lenN rc_lenN hm (by decide +kernel) ha hg (by decide) (by decide) he hpl
theorem wpAny_samePairs0 {prog : Program} {w : World} {A : Around} {E : Value → Shared → Prop} {s : Shared} {nm : String} {a b : Addr} {K : Type} [DecidableEq K] {knd : HeapKind prog w K} {xs : List (K × Addr × Value)} {Q : Bool → Shared → Prop} (ha : (a == sysModules) = false) (hb : (b == sysModules) = false)
    (da : s.heap.DictOfH knd a xs) (db : s.heap.DictOfH knd b []) (h : Q xs.isEmpty s) : wpAny (model prog w) A (Builtin.Dict.samePairs nm a b) Q E s := by
  obtain ⟨oa, es, ep, hoa, _, hda, hea, _⟩ := da
  obtain ⟨ob, es', ep', hob, _, hdb, heb, _⟩ := db
  have hla : es.size = xs.length := by rw [← Array.length_toList, hea, List.length_map]
  have hlb : es'.size = 0 := by rw [← Array.length_toList, heb]; rfl
  unfold Builtin.Dict.samePairs Builtin.Dict.showsAll
  rw [if_neg (show ¬ (a == sysModules) = true by rw [ha]; exact Bool.false_ne_true), if_neg (show ¬ (b == sysModules) = true by rw [hb]; exact Bool.false_ne_true)]
  refine wpAny_bind (wpAny_pure (wpAny_bind (wpAny_pure ?_)))
  refine wpAny_bind (wpAny_dictEntries hoa hda ?_)
  dsimp only
  refine wpAny_bind (wpAny_dictEntries hob hdb ?_)
  cases xs with
  | cons x xs =>
    rw [if_pos (by rw [hla, hlb]; simp)]
    exact wpAny_bind (wpAny_rule (wpAny_pure h))
  | nil =>
    rw [if_neg (by rw [hla, hlb]; simp)]
    refine wpAny_bind (wpAny_dictEpoch hoa hda ?_)
    refine wpAny_bind ?_
    rw [Std.Legacy.Range.forIn_eq_forIn_range']
    have e0 : es.size = 0 := hla
    simp only [Std.Legacy.Range.size, Nat.sub_zero, Nat.add_sub_cancel, Nat.div_one, e0, List.range'_zero]
    refine wpAny_forIn_list _ (fun rest q s' => s' = s ∧ q = (none, ()) ∧ rest = []) _ ?_ ?_ _ _ ⟨rfl, rfl, rfl⟩
    · rintro x rest q s' ⟨_, _, z⟩
      cases z
    · rintro q s' ⟨rfl, rfl, _⟩
      exact wpAny_pure h
def rEqN (K : PySem.W.Frag) : R2 := fun x y H Q => ∃ (p : List Addr) (a b : Addr) (ks : List D) (xs : List (NestedKey × Addr × Value)), DnAt K H p a ks xs ∧ DnAt K H p b [] [] ∧ x = .ref a ∧ y = .ref b ∧ Q (.bl ks.isEmpty) H
theorem op_eqN (hu : X.A.units + 65 < cLine) : OpR X (compareOp .Eq) (rEqN X.K) := by
  intro pins s σ H x y v u Q I rx ry h
  obtain ⟨p, a, b, ks, xs, hd, hb, rfl, rfl, q⟩ := h
  obtain ⟨hm, hz, hs⟩ := hd.of I
  obtain ⟨hm2, hz2, hs2⟩ := hb.of I
  cases rx
  cases ry
  have hl : ks.isEmpty = xs.isEmpty := by
    have := congrArg List.length hd.key
    rw [List.length_map, List.length_map] at this
    cases ks <;> cases xs <;> simp_all
  refine wpAny_richCompare_same_room (op := .Eq) hm.typeIs hm2.typeIs PySem.F.slot_dict_eq (wpAny_call_entry PySem.F.slot_dict_eq hm.typeIs PySem.F.entry_dict_eq ?_ (PySem.F.args_dict_eq_2 _ _)) (by omega)
  show wpAny _ _ (Builtin.Dict.dictSlotArgs "__eq__" ⟨[.ref a, .ref b], []⟩ >>= _) _ _ s
  refine wpAny_bind ?_
  unfold Builtin.Dict.dictSlotArgs
  refine wpAny_bind (wpAny_notOrdered_dict hm.typeIs ?_)
  show wpAny _ _ (pure (Value.ref a, Value.ref b)) _ _ s
  refine wpAny_pure ?_
  refine wpAny_bind (wpAny_isInstance (T := "dict") hm2.typeIs PySem.F.sub_dict_dict ?_)
  simp only [Bool.not_true, Bool.false_eq_true, if_false]
  refine wpAny_bind (wpAny_pure (wpAny_bind (wpAny_pure ?_)))
  refine wpAny_bind (wpAny_samePairs0 hs hs2 hm hm2 ?_)
  refine wpAny_pure ⟨_, rfl, ?_, ?_⟩
  · exact fun x => nomatch x
  · rw [← hl]
    have e : (ks.isEmpty == true) = ks.isEmpty := by cases ks.isEmpty <;> rfl
    exact ⟨.bl _, H, I, rfl, by rw [e]; exact q⟩
def fEqN : D → D → Store → Res D := fun d e S => match d, e with
  | .ref n, .ref m => match S[n]?, S[m]? with
    | some (.dn ks), some (.dn []) => if ∀ k ∈ ks, okK k = true then .ok (.bl ks.isEmpty) S else .bad
    | _, _ => .bad
  | _, _ => .bad
theorem rf_eqN {K : PySem.W.Frag} : RfO K (rEqN K) fEqN := by
  intro G σ H p S d e x y Q rst rx ry h
  unfold fEqN at h
  split at h
  · rename_i n m
    split at h
    · rename_i ks hn hm
      split at h
      · rename_i hok
        obtain ⟨a, rfl, ea⟩ := RV.ref_iff.mp rx
        obtain ⟨b, rfl, eb⟩ := RV.ref_iff.mp ry
        obtain ⟨xs, h1, h2, h3⟩ := rst.cell n _ a hn ea
        obtain ⟨ys, g1, g2, g3⟩ := rst.cell m _ b hm eb
        cases ys with
        | cons y ys => simp at g3
        | nil => exact ⟨p, a, b, ks, xs, ⟨h1, h2, h3, hok⟩, ⟨g1, g2, g3, by simp⟩, rfl, rfl, h H p .refl rst _ (RV.bl_iff.mpr rfl)⟩
      · exact h.elim
    · exact h.elim
  · exact h.elim
theorem mt_eqN {k : Nat} (hr : Room (k + 1) X.A) (ha : ME X G a sa) (hb : ME X G b sb) (hm : behindInMarks .Eq b = false := by rfl) : MT X G (.Compare a [.Eq] [b] pos) (sT (s2 fEqN sa sb)) := mt_cmp (op_eqN (room65 hr)) rf_eqN ha hb hm
def rSetN (K : PySem.W.Frag) : TSet := fun o i v H Q => ∃ (p : List Addr) (a b : Addr) (ks : List D) (xs : List (NestedKey × Addr × Value)) (d : D) (k : NestedKey), o = .ref a ∧ i = .ref b ∧ v = .bl true ∧ DnAt K H p a ks xs ∧ RV K H p d i ∧ okK d = true ∧ keyD d = some k ∧ ks.length < sizeLine ∧
  ((∀ cls, DNo a xs ≠ exO a cls none) → Q (upd H a (DNo a (storedH xs k b (.bool true)))))
theorem stored_len {xs : List (NestedKey × Addr × Value)} {k : NestedKey} {b : Addr} {v : Value} : (storedH xs k b v).length ≤ xs.length + 1 := by
  unfold storedH
  split <;> simp
theorem stored_mem {xs : List (NestedKey × Addr × Value)} {k : NestedKey} {b : Addr} {v : Value} {x : NestedKey × Addr × Value} (h : x ∈ storedH xs k b v) : x.1 = k ∨ ∃ y ∈ xs, y.1 = x.1 := by
  unfold storedH at h
  split at h
  · obtain ⟨y, hy, rfl⟩ := List.mem_map.mp h
    refine .inr ⟨y, hy, ?_⟩
    unfold putAt
    split <;> rfl
  · rcases List.mem_append.mp h with h | h
    · exact .inr ⟨x, h, rfl⟩
    · rw [List.mem_singleton.mp h]
      exact .inl rfl
theorem set_dn (hu : X.A.units + 65 < cLine) : PSet X (rSetN X.K) := by
  intro pins s σ H o i v ov iv u Q I ro ri rv h
  obtain ⟨p, a, b, ks, xs, d, k, rfl, rfl, rfl, hd, rd, ok, hk, hlt, q⟩ := h
  obtain ⟨hm, hz, hs⟩ := hd.of I
  obtain ⟨l, k', rfl, hk', hdep⟩ := okK_ok ok
  rw [hk] at hk'
  cases hk'
  have hkey := key_is I _ _ _ k rd ri hk
  have hl : ks.length = xs.length := by have := congrArg List.length hd.key; simpa using this
  cases ro
  cases ri
  cases rv
  obtain ⟨⟨⟨oo, es, ep, ho, hc, hda, he⟩, hn, hz', hs', hh⟩, _⟩ := I.hok a _ hd.at_
  refine wpAny_setItem_heap (knd := nestedKind X.prog X.w) (k := k) (hsz := hz) (by show X.A.units + 1 + 8 < cLine; omega) ⟨hkey, hdep⟩ hm fun h' hm' hsb => ?_
  have hx : ∃ q, h'.get? a = some q := let ⟨q, _, _, hq, _⟩ := hm'; ⟨q, hq⟩
  refine ⟨_, d_write I (by rw [hd.at_]; exact True.intro) hsb hx (dn_new (X := X) hm' ?_ hs ?_), q fun cls z => ?_⟩
  · have := stored_len (xs := xs) (k := k) (b := b) (v := .bool true)
    omega
  · intro x hxm w
    rcases stored_mem hxm with e | ⟨y, hy, e⟩
    · rw [e]; exact hashN_eq hk w
    · rw [← e]; exact hh y hy w
  · have e : (exO a cls none) = DNo a xs := z.symm
    unfold exO DNo at e
    have e2 := congrArg (fun z : HO => match z with | .ext φ => φ s.heap | _ => False) e
    have e3 : (∃ oe : Obj, s.heap.get? a = some oe ∧ Zc cls none oe ∧ ∃ vs, oe.data = .fields vs) := by
      refine (show _ = _ from e2).mpr ⟨⟨oo, es, ep, ho, hc, hda, he⟩, hn, hz', hs', hh⟩
    obtain ⟨oe, h1, _, vs, h2⟩ := e3
    rw [ho] at h1
    cases h1
    rw [hda] at h2
    cases h2
def sSetN (se so si : SE) : SS := fun env S => (se env S).andS env fun d S1 => (so env S1).andS env fun o S2 => (si env S2).andS env fun i S3 => match d, o with
  | .bl true, .ref n => match S3[n]? with
    | some (.dn ks) => if okK i = true ∧ (∀ k ∈ ks, okK k = true) ∧ ks.length < sizeLine then .nx env (S3.set n (.dn (if hasK ks i = true then ks else ks ++ [i]))) else .bad
    | _ => .bad
  | _, _ => .bad
theorem RVs.snoc1 {K : PySem.W.Frag} {H : Hp} {p : List Addr} {l : List D} {xs : List V} {d : D} {v : V} (h : RVs K H p l xs) (r : RV K H p d v) : RVs K H p (l ++ [d]) (xs ++ [v]) := by
  induction l generalizing xs with
  | nil =>
    rw [RVs.nil_iff] at h
    subst h
    exact .cons r .nil
  | cons e l ih =>
    obtain ⟨x, xs', rfl, h1, h2⟩ := RVs.cons_iff.mp h
    exact .cons h1 (ih h2)
theorem ms_setN {k : Nat} {i : Expr} {si : SE} {tpos : Pos} (hr : Room (k + 1) X.A) (he : ME X G e sa) (ho : ME X G o so) (hi : ME X G i si) (hp : ∀ v, assign (.Subscript o i tpos) X.env v = (do
      let ov ← holding [v] (eval o X.env)
      let iv ← holding [v, ov] (eval i X.env)
      standAt tpos
      holding [v, ov, iv] (setItem ov iv v)
      release [v, ov, iv] []) := by intro _; rfl) (hs : swapsWithSole [.Subscript o i tpos] e pos.line X.env = pure false := by rfl) (hw : swappedStores [.Subscript o i tpos] e X.env = pure none := by rfl)
    (h1 : (assignEach [.Subscript o i tpos] X.env).map (·.2) = [assign (.Subscript o i tpos) X.env] := by rfl) : MS X G (.Assign [.Subscript o i tpos] e pos) (sSetN sa so si) := fun ok => ps_imp (ps_asg (he ok) (pg_sub (ho ok) (hi ok) (set_dn (room65 hr)) hp) hs hw h1) fun E σ H h => by
  obtain ⟨p, env, S, rs, rst, g⟩ := h
  refine ⟨p, env, S, rs, rst, (g.and rs).imp fun d S1 H1 p1 e1 r1 g1 v rv => ?_⟩
  obtain ⟨q1, q2, q3⟩ := g1
  refine ⟨p1, env, S1, q1, q2, (q3.and q1).imp fun od S2 H2 p2 e2 r2 g2 ov rov => ?_⟩
  obtain ⟨q4, q5, q6⟩ := g2
  refine ⟨p2, env, S2, q4, q5, (q6.and q4).imp fun id S3 H3 p3 e3 r3 g3 iv riv => ?_⟩
  obtain ⟨q7, q8, q9⟩ := g3
  split at q9
  · rename_i n
    split at q9
    · rename_i ks hl
      split at q9
      · rename_i hok
        have ro := RV.mono e3 _ _ rov
        obtain ⟨a, rfl, ea⟩ := RV.ref_iff.mp ro
        rw [RV.bl_iff] at rv
        obtain ⟨xs, x1, x2, x3⟩ := q8.cell n _ a hl ea
        obtain ⟨l, k, rfl, hk, hdep⟩ := okK_ok hok.1
        obtain ⟨b, ys, rfl, hy1, hy2⟩ := RV.tup_iff.mp riv
        refine ⟨p3, a, b, ks, xs, .tup l, k, rfl, rfl, rv, ⟨x1, x2, x3, hok.2.1⟩, riv, hok.1, hk, hok.2.2, fun nx => ?_⟩
        have hhas := hasK_eq (xs := xs) hk x3
        have cell : ∀ H', Ext X.K H3 H' p3 p3 → H' a = some (DNo a (storedH xs k b (.bool true))) → RC X.K H' p3 a (.dn (if hasK ks (.tup l) = true then ks else ks ++ [.tup l])) := fun H' E' h' => by
          refine ⟨_, h', ?_⟩
          by_cases c : hasK ks (.tup l) = true
          · rw [if_pos c]
            have e : storedH xs k b (.bool true) = xs.map (putAt k (.bool true)) := by
              unfold storedH
              rw [if_pos (by rw [← hhas]; exact c)]
            rw [e, List.map_map, List.map_map]
            have m1 : ((fun x : NestedKey × Addr × Value => V.ref x.2.1) ∘ putAt k (.bool true)) = fun x => V.ref x.2.1 := by
              funext x
              show V.ref (putAt k (.bool true) x).2.1 = _
              unfold putAt
              split <;> rfl
            have m2 : ((fun x : NestedKey × Addr × Value => some x.1) ∘ putAt k (.bool true)) = fun x => some x.1 := by
              funext x
              show some (putAt k (.bool true) x).1 = _
              unfold putAt
              split <;> rfl
            rw [m1, m2]
            exact ⟨RVs.mono E' _ _ x2, x3⟩
          · rw [if_neg c]
            have e : storedH xs k b (.bool true) = xs ++ [(k, b, .bool true)] := by
              unfold storedH
              rw [if_neg (by rw [← hhas]; exact c)]
            rw [e, List.map_append, List.map_append, List.map_append]
            refine ⟨(RVs.mono E' _ _ x2).snoc1 (RV.mono E' _ _ riv), ?_⟩
            rw [x3]
            show _ ++ [keyD (.tup l)] = _
            rw [hk]
            rfl
        have E0 : Ext X.K H3 (upd H3 a (DNo a (storedH xs k b (.bool true)))) p3 p3 := by
          refine ⟨fun _ _ h => h, fun c ys h => ?_⟩
          rcases h with (h | ⟨ob, h⟩) | h
          · have hc : c ≠ a := fun e => by
              subst e
              rw [x1] at h
              unfold DNo at h
              cases h
            exact .inl (.inl (by rw [upd_ne hc]; exact h))
          · have hc : c ≠ a := fun e => by
              subst e
              rw [x1] at h
              unfold DNo at h
              cases h
            exact .inl (.inr ⟨ob, by rw [upd_ne hc]; exact h⟩)
          · exact .inr h
        obtain ⟨E', R'⟩ := q8.write (c := .dn (if hasK ks (.tup l) = true then ks else ks ++ [.tup l])) (o := DNo a (storedH xs k b (.bool true))) hl rfl rfl ea (cell _ E0 upd_same) x1 (fun _ z => by unfold DNo at z; cases z) (fun _ _ z => by unfold DNo at z; cases z) (fun _ z => by unfold DNo at z; cases z) nx
        exact q9 σ _ p3 E' (q7.mono E') R'
      · exact q9.elim
    · exact q9.elim
  · exact q9.elim
end
end Rg
namespace Rg
open PySem L2
noncomputable def m_l_due_10 : Mf := mkDef 7 1 (sSeq (sSet 1 (sDctN)) (sSeq (sFor (sRng fRng1 (sCons (sCall fLen (sCons (sVar 0) (sNil))) (sNil))) (gN 2) (sFor (sRng fRng1 (sCons (sVar 2) (sNil))) (gN 3) (sIfS (sT (s2 fNe (s2 fIx (sCall m_l_cross_3 (sCons (s2 fIx (sVar 0) (sVar 2)) (sCons (s2 fIx (sVar 0) (sVar 3)) (sNil)))) (sC (.int (0)))) (sC (.int (0))))) (sFor (sIter (sLst (sCons (sC (.int (1))) (sCons (s1 fNeg (sC (.int (1)))) (sNil))))) (gN 4) (sSeq (sSet 5 (sTup (sCons (s2 fMul (s2 fIx (s2 fIx (s2 fIx (sVar 0) (sVar 3)) (sC (.int (2)))) (sC (.int (0)))) (sVar 4)) (sCons (s2 fIx (s2 fIx (s2 fIx (sVar 0) (sVar 3)) (sC (.int (2)))) (sC (.int (1)))) (sNil))))) (sSeq (sSet 6 (sCall m_l_met (sCons (s2 fIx (sVar 0) (sVar 2)) (sCons (s2 fIx (sVar 0) (sVar 3)) (sCons (s2 fIx (s2 fIx (sVar 0) (sVar 2)) (sC (.int (2)))) (sCons (sVar 5) (sNil))))))) (sIfS (sT (sCall m_l_lets (sCons (sVar 0) (sCons (sVar 6) (sNil))))) (sSeq (sSetN (sC (.bl true)) (sVar 1) (sVar 6)) (sSetN (sC (.bl true)) (sVar 1) (sTup (sCons (sCall m_l_back (sCons (s2 fIx (sVar 6) (sC (.int (0)))) (sNil))) (sCons (sCall m_l_back (sCons (s2 fIx (sVar 6) (sC (.int (1)))) (sNil))) (sNil)))))) (sSkip))))) (sSkip)))) (sRet (sVar 1))))
noncomputable def m_law_k23 : Mf := mkDef 11 1 (sSeq (sFor (sIter (sCall m_l_cells (sCons (sVar 0) (sCons (sC (.int (4))) (sNil))))) (gN 1) (sSeq (sSet 2 (sCall m_l_pool (sCons (sVar 1) (sNil)))) (sSeq (sSet 3 (sCall m_l_lines (sCons (sVar 2) (sCons (sC (.int (5))) (sNil))))) (sSeq (sIfS (sT (s2 fEq (sCall m_l_next (sCons (sVar 2) (sCons (sC (.int (8))) (sNil)))) (sC (.int (0))))) (sSeq (sSet 4 (s2 fPlus (sC (.int (6))) (sCall m_l_next (sCons (sVar 2) (sCons (sC (.int (7))) (sNil)))))) (sSet 3 (sComp (sRng fRng1 (sCons (sVar 4) (sNil))) (gN 9) (sYes) (sTup (sCons (sTup (sCons (sVar 9) (sCons (sC (.int (1))) (sNil)))) (sCons (sTup (sCons (s2 fSub (sVar 4) (sVar 9)) (sCons (sC (.int (1))) (sNil)))) (sCons (sTup (sCons (s2 fPlus (sC (.int (1))) (s2 fMod (sVar 9) (sC (.int (2))))) (sCons (sC (.int (1))) (sNil)))) (sNil))))) [9]))) (sSkip)) (sSeq (sSet 5 (sCall m_l_due_10 (sCons (sVar 3) (sNil)))) (sSeq (sSet 6 (sCall fList (sCons (sVar 3) (sNil)))) (sSeq (sSet 7 (sCall m_corners (sCons (sVar 6) (sNil)))) (sSeq (sIfS (sT (s2 fNe (sVar 6) (sVar 3))) (sRet (sC (.bl false))) (sSkip)) (sIfS (sT (s2 fEqN (sVar 5) (sDctN))) (sIfS (sT (s1 fNotN (sVar 7))) (sRet (sC (.bl false))) (sSkip)) (sSeq (sIfS (sOr (sNot (sT (s1 (fIsi .lst) (sVar 7)))) (sOr (sT (s2 fNe (sCall fLen (sCons (sVar 7) (sNil))) (sCall fLenN (sCons (sVar 5) (sNil))))) (sNot (sT (sCall fAll (sCons (sComp (sIter (sVar 7)) (gN 10) (sYes) (s2 fInN (sVar 10) (sVar 5)) [10]) (sNil))))))) (sRet (sC (.bl false))) (sSkip)) (sSeq (sIfS (sNot (sT (sCall m_l_around_2 (sCons (sVar 7) (sNil))))) (sRet (sC (.bl false))) (sSkip)) (sSeq (sSet 8 (sCall fList (sCons (sVar 7) (sNil)))) (sSeq (sDrop (sMethL fReverse (sVar 7) sNil)) (sIfS (sT (s2 fNe (sCall m_corners (sCons (sCall fTuple (sCons (sVar 3) (sNil))) (sNil))) (sVar 8))) (sRet (sC (.bl false))) (sSkip))))))))))))))) (sRet (sC (.bl true))))
end Rg
namespace Rg
open PySem L2
theorem Rok.eq {A : Type} {r : Res A} {a : A} {S : Store} (h : Rok r fun x S' => x = a ∧ S' = S) : r = .ok a S := by
  obtain ⟨x, S', e, rfl, rfl⟩ := h
  exact e
def eQ (q : Rat) : D := .tup [.int q.num, .int q.den]
@[simp] theorem atI0 {α : Type} {x : α} {l : List α} : atI (x :: l) 0 = some x := by
  have := atI_nat (xs := x :: l) (j := 0) (v := x) rfl
  exact this
@[simp] theorem atI1 {α : Type} {x y : α} {l : List α} : atI (x :: y :: l) 1 = some y := by
  have := atI_nat (xs := x :: y :: l) (j := 1) (v := y) rfl
  exact this
@[simp] theorem atI2 {α : Type} {x y z : α} {l : List α} : atI (x :: y :: z :: l) 2 = some z := by
  have := atI_nat (xs := x :: y :: z :: l) (j := 2) (v := z) rfl
  exact this
@[simp] theorem atI3 {α : Type} {x y z w : α} {l : List α} : atI (x :: y :: z :: w :: l) 3 = some w := by
  have := atI_nat (xs := x :: y :: z :: w :: l) (j := 3) (v := w) rfl
  exact this
@[simp] theorem szL (n : Nat) : (n ≤ sizeLine) ↔ n ≤ 16777216 := by rw [sizeLine_eq]
@[simp] theorem szL' (n : Nat) : (n < sizeLine) ↔ n < 16777216 := by rw [sizeLine_eq]
theorem CM_l {i j : Int} (h : i.natAbs < 2 ^ 64) : CM i j := .inl (.inl ⟨by omega, by omega⟩)
theorem CM_r {i j : Int} (h : j.natAbs < 2 ^ 64) : CM i j := .inl (.inr ⟨by omega, by omega⟩)
theorem CM_w {i j : Int} {a b : Nat} (ha : i.natAbs < 2 ^ a) (hb : j.natAbs < 2 ^ b) (h : a + b ≤ 999998) : CM i j :=
  .inr (wide_mul (a := a + 1) (b := b + 1) (Nat.lt_of_lt_of_le ha (Nat.pow_le_pow_right (by decide) (by omega))) (Nat.lt_of_lt_of_le hb (Nat.pow_le_pow_right (by decide) (by omega))) (by omega) (by omega) (by omega))
theorem CDv_w {i j : Int} {b : Nat} (h : j ≠ 0) (hb : j.natAbs < 2 ^ b) (h9 : b ≤ 8999) : CDv i j := by
  have x := PySem.Flt.log2_lt_of (show 0 < b + 1 by omega) (Nat.lt_of_lt_of_le hb (Nat.pow_le_pow_right (show 0 < 2 by decide) (show b ≤ b + 1 by omega)))
  exact ⟨h, by omega⟩
theorem fdiv_pos {i j : Int} (h : 0 < j) : i.fdiv j = i / j := Int.fdiv_eq_ediv_of_nonneg i (by omega)
@[simp] theorem fdiv_lit {i : Int} {n : Nat} [NeZero n] : i.fdiv (no_index (OfNat.ofNat n)) = i / (OfNat.ofNat n) := Int.fdiv_eq_ediv_of_nonneg i (by
  show (0 : Int) ≤ ((n : Nat) : Int)
  exact Int.natCast_nonneg n)
theorem fdiv_neg_dvd {i j : Int} (h : j ∣ i) : i.fdiv (-j) = i / (-j) := by
  rw [Int.fdiv_eq_ediv]
  have : (-j) ∣ i := by obtain ⟨k, rfl⟩ := h; exact ⟨-k, by simp [Int.neg_mul_neg]⟩
  rw [if_pos (.inr this), Int.sub_zero]
theorem CPow_s {i j : Int} (h0 : 0 ≤ j) (h1 : j ≤ 1000000) (h : i.natAbs < 2 ^ 64) : CPow i j := ⟨h0, h1, h⟩
def nAt (i : Nat) (e : Env) : Nat := match e[i]? with
  | some (some (.int x)) => x.toNat
  | _ => 0
theorem emod_natAbs {x y : Int} (hx : 0 ≤ x) (hy : 0 ≤ y) : (y % x).natAbs = y.natAbs % x.natAbs := by
  obtain ⟨m, rfl⟩ := Int.eq_ofNat_of_zero_le hx
  obtain ⟨n, rfl⟩ := Int.eq_ofNat_of_zero_le hy
  rw [← Int.natCast_emod]
  rfl
@[simp] theorem fr_int {N : Nat} {i : Int} : (D.int i).fresh N = none := by rw [D.fresh] <;> (intros; contradiction)
@[simp] theorem fr_bl {N : Nat} {i : Bool} : (D.bl i).fresh N = none := by rw [D.fresh] <;> (intros; contradiction)
@[simp] theorem fr_str {N : Nat} {i : Str} : (D.str i).fresh N = none := by rw [D.fresh] <;> (intros; contradiction)
@[simp] theorem fr_non {N : Nat} : (D.non).fresh N = none := by rw [D.fresh] <;> (intros; contradiction)
@[simp] theorem fr_tup {N : Nat} {l : List D} : (D.tup l).fresh N = freshs N l := by rw [D.fresh]
@[simp] theorem fr_nil {N : Nat} : freshs N [] = none := by rw [freshs]
@[simp] theorem fr_cons {N : Nat} {d : D} {l : List D} : freshs N (d :: l) = (d.fresh N).or (freshs N l) := by rw [freshs]
@[simp] theorem fr_ref {N n : Nat} : (D.ref n).fresh N = if n < N then none else some n := by rw [D.fresh]
@[simp] theorem on_int {N n : Nat} {i : Int} : (D.int i).only N n = true := by rw [D.only] <;> (intros; contradiction)
@[simp] theorem on_bl {N n : Nat} {i : Bool} : (D.bl i).only N n = true := by rw [D.only] <;> (intros; contradiction)
@[simp] theorem on_str {N n : Nat} {i : Str} : (D.str i).only N n = true := by rw [D.only] <;> (intros; contradiction)
@[simp] theorem on_non {N n : Nat} : (D.non).only N n = true := by rw [D.only] <;> (intros; contradiction)
@[simp] theorem on_tup {N n : Nat} {l : List D} : (D.tup l).only N n = onlys N n l := by rw [D.only]
@[simp] theorem on_nil {N n : Nat} : onlys N n [] = true := by rw [onlys]
@[simp] theorem on_cons {N n : Nat} {d : D} {l : List D} : onlys N n (d :: l) = (d.only N n && onlys N n l) := by rw [onlys]
@[simp] theorem on_ref {N n m : Nat} : (D.ref m).only N n = (decide (m < N) || decide (m = n)) := by rw [D.only]
@[simp] theorem un_int {N : Nat} {i : Int} : (D.int i).under N = true := by rw [D.under] <;> (intros; contradiction)
@[simp] theorem un_bl {N : Nat} {i : Bool} : (D.bl i).under N = true := by rw [D.under] <;> (intros; contradiction)
@[simp] theorem un_str {N : Nat} {i : Str} : (D.str i).under N = true := by rw [D.under] <;> (intros; contradiction)
@[simp] theorem un_non {N : Nat} : (D.non).under N = true := by rw [D.under] <;> (intros; contradiction)
@[simp] theorem un_tup {N : Nat} {l : List D} : (D.tup l).under N = unders N l := by rw [D.under]
@[simp] theorem un_nil {N : Nat} : unders N [] = true := by rw [unders]
@[simp] theorem un_cons {N : Nat} {d : D} {l : List D} : unders N (d :: l) = (d.under N && unders N l) := by rw [unders]
@[simp] theorem un_ref {N n : Nat} : (D.ref n).under N = decide (n < N) := by rw [D.under]
@[simp] theorem sb_int {N : Nat} {i : Int} : (D.int i).subst N = .int i := by rw [D.subst] <;> (intros; contradiction)
@[simp] theorem sb_bl {N : Nat} {i : Bool} : (D.bl i).subst N = .bl i := by rw [D.subst] <;> (intros; contradiction)
@[simp] theorem sb_str {N : Nat} {i : Str} : (D.str i).subst N = .str i := by rw [D.subst] <;> (intros; contradiction)
@[simp] theorem sb_non {N : Nat} : (D.non).subst N = .non := by rw [D.subst] <;> (intros; contradiction)
@[simp] theorem sb_tup {N : Nat} {l : List D} : (D.tup l).subst N = .tup (substs N l) := by rw [D.subst]
@[simp] theorem sb_nil {N : Nat} : substs N [] = [] := by rw [substs]
@[simp] theorem sb_cons {N : Nat} {d : D} {l : List D} : substs N (d :: l) = d.subst N :: substs N l := by rw [substs]
@[simp] theorem sb_ref {N n : Nat} : (D.ref n).subst N = .ref (if n < N then n else N) := by rw [D.subst]
theorem un_all {N : Nat} {l : List D} (h : ∀ d ∈ l, d.under N = true) : unders N l = true := by
  induction l with
  | nil => rfl
  | cons d l ih => rw [un_cons, h d (by simp), ih fun e he => h e (by simp [he])]; rfl
theorem un_map {A : Type} {N : Nat} {l : List A} {f : A → D} (h : ∀ a ∈ l, (f a).under N = true) : unders N (l.map f) = true := un_all fun d hd => by
  obtain ⟨a, ha, rfl⟩ := List.mem_map.mp hd
  exact h a ha
@[simp] theorem rok_gcs {S : Store} {d : D} {P : D → Store → Prop} (h : d.fresh S.length = none) : Rok (gc S d S) P ↔ P d S := by rw [gc_self h, rok_ok]
@[simp] theorem rok_gca {S C : Store} {d : D} {P : D → Store → Prop} (h : d.fresh S.length = none) : Rok (gc S d (S ++ C)) P ↔ P d S := by rw [gc_app h, rok_ok]
@[simp] theorem rok_gcn {S : Store} {l : List D} {P : D → Store → Prop} (h : unders S.length l = true) : Rok (gc S (.ref S.length) (S ++ [.lst l])) P ↔ P (.ref S.length) (S ++ [.lst l]) := by
  rw [gc_new (n := S.length) (by simp) (by simp) (by simp) h, rok_ok]
  simp
@[simp] theorem eQ_fr {N : Nat} {q : Rat} : (eQ q).fresh N = none := by unfold eQ; simp
@[simp] theorem eQ_un {N : Nat} {q : Rat} : (eQ q).under N = true := by unfold eQ; simp
@[simp] theorem eQ_on {N n : Nat} {q : Rat} : (eQ q).only N n = true := by unfold eQ; simp
@[simp] theorem eQ_sb {N : Nat} {q : Rat} : (eQ q).subst N = eQ q := by unfold eQ; simp
@[simp] theorem eQ_ty {S : Store} {q : Rat} : tyOf S (eQ q) = some .tup := rfl
@[simp] theorem eQ_i0 {S : Store} {q : Rat} {P : D → Store → Prop} : Rok (fIx (eQ q) (.int 0) S) P ↔ P (.int q.num) S := by unfold eQ; simp
@[simp] theorem eQ_i1 {S : Store} {q : Rat} {P : D → Store → Prop} : Rok (fIx (eQ q) (.int 1) S) P ↔ P (.int q.den) S := by unfold eQ; simp
@[simp] theorem eQ_len {S : Store} {q : Rat} {P : D → Store → Prop} : Rok (fLen [eQ q] S) P ↔ P (.int 2) S := by unfold eQ; simp
@[simp] theorem eQ_isNon {q : Rat} : (eQ q).isNon = false := rfl
def pQ (q : Rat) : PyData := .tuple [.int q.num, .int q.den]
@[simp] theorem toP_eQ {S : Store} {k : Nat} {q : Rat} : toP S (k + 1) (eQ q) = some (pQ q) := by unfold eQ pQ; simp
@[simp] theorem toP_eQ60 {S : Store} {q : Rat} : toP S 60 (eQ q) = some (pQ q) := toP_eQ
@[simp] theorem toP_eQ59 {S : Store} {q : Rat} : toP S 59 (eQ q) = some (pQ q) := toP_eQ
@[simp] theorem toP_eQ58 {S : Store} {q : Rat} : toP S 58 (eQ q) = some (pQ q) := toP_eQ
@[simp] theorem toP_eQ57 {S : Store} {q : Rat} : toP S 57 (eQ q) = some (pQ q) := toP_eQ
@[simp] theorem ev_Q {p q : Rat} : PyData.eqv (pQ p) (pQ q) = decide (p = q) := by
  unfold pQ
  rw [Bool.eq_iff_iff]
  simp
  constructor
  · rintro ⟨h1, h2⟩
    exact Rat.ext h1 (by omega)
  · rintro rfl; exact ⟨rfl, rfl⟩
@[simp] theorem ev_nQ {p : Rat} : PyData.eqv .none (pQ p) = false := by unfold pQ; simp
@[simp] theorem ev_Qn {p : Rat} : PyData.eqv (pQ p) .none = false := by unfold pQ; simp
@[simp] theorem tup_1 {i : Int} : D.tup [.int i, .int 1] = eQ (i : Rat) := rfl
@[simp] theorem tup_q {q : Rat} : D.tup [.int q.num, .int (q.den : Nat)] = eQ q := rfl
@[simp] theorem lit_0 : D.tup [.int 0, .int 1] = eQ 0 := rfl
@[simp] theorem lit_1 : D.tup [.int 1, .int 1] = eQ 1 := rfl
@[simp] theorem isNon_non : D.non.isNon = true := rfl
@[simp] theorem isNon_int {i : Int} : (D.int i).isNon = false := rfl
@[simp] theorem isNon_bl {i : Bool} : (D.bl i).isNon = false := rfl
@[simp] theorem isNon_str {i : Str} : (D.str i).isNon = false := rfl
@[simp] theorem isNon_tup {i : List D} : (D.tup i).isNon = false := rfl
@[simp] theorem isNon_ref {i : Nat} : (D.ref i).isNon = false := rfl
@[simp] theorem py_q {q : Rat} : PyData.tuple [.int q.num, .int (q.den : Nat)] = pQ q := rfl
@[simp] theorem py_1 {i : Int} : PyData.tuple [.int i, .int 1] = pQ (i : Rat) := rfl
@[simp] theorem py_0 : PyData.tuple [.int 0, .int 1] = pQ 0 := rfl
@[simp] theorem py_11 : PyData.tuple [.int 1, .int 1] = pQ 1 := rfl
end Rg
namespace Rg
open PySem L2
theorem m_divisor_eq {S : Store} {a b : Int} (hb : 0 < b) : m_divisor [.int a, .int b] S = .ok (.int (Int.gcd a b : Int)) S := by
  refine Rok.eq ?_
  unfold m_divisor
  simp [rok_def]
  refine sok_while (fun e S' => S' = S ∧ ∃ x y : Int, e = [some (.int x), some (.int y)] ∧ 0 ≤ x ∧ 0 < y ∧ Int.gcd x y = Int.gcd a b) (fun e S => nAt 0 e) ?_ _ _ ⟨rfl, a.natAbs, b, rfl, by omega, hb, by simp [Int.gcd]⟩
  rintro e S' ⟨rfl, x, y, rfl, hx, hy, hg⟩
  simp
  constructor
  · intro h
    refine ⟨h, ⟨_, _, ⟨rfl, rfl⟩, Int.emod_nonneg _ (by omega), h, ?_⟩, ?_⟩
    · rw [← hg, Int.gcd_comm x y]
      simp [Int.gcd]
      rw [emod_natAbs (by omega) (by omega), ← Nat.gcd_rec x.natAbs y.natAbs, Nat.gcd_comm]
    · have h1 := Int.emod_lt_of_pos y h
      have h2 := Int.emod_nonneg y (show x ≠ 0 by omega)
      simp [nAt]
      omega
  · intro h
    have : x = 0 := by omega
    subst this
    rw [← hg]
    simp [Int.gcd]
    omega
theorem low_while {S : Store} {P : SPt} {a b : Int} {c d : Option D} (hb : b ≠ 0) (h : P.nx [c, d, some (.int (Int.gcd a b : Int)), some (.int 0)] S) :
    Sok (sWhile (sT (s2 fGt (sVar 3) (sC (.int 0)))) (sPar 2 3 (sCons (sVar 3) (sCons (s2 fMod (sVar 2) (sVar 3)) sNil))) [c, d, some (.int (a.natAbs : Int)), some (.int (b.natAbs : Int))] S) P := by
  refine sok_while (fun e S' => S' = S ∧ ∃ x y : Int, e = [c, d, some (.int x), some (.int y)] ∧ 0 ≤ x ∧ 0 ≤ y ∧ (x ≠ 0 ∨ y ≠ 0) ∧ Int.gcd x y = Int.gcd a b) (fun e S => nAt 3 e) ?_ _ _ ⟨rfl, a.natAbs, b.natAbs, rfl, by omega, by omega, by omega, by simp [Int.gcd]⟩
  rintro e S' ⟨rfl, x, y, rfl, hx, hy, hn, hg⟩
  simp
  constructor
  · intro h
    refine ⟨h, ⟨_, _, ⟨rfl, rfl⟩, by omega, Int.emod_nonneg _ (by omega), by omega, ?_⟩, ?_⟩
    · rw [← hg, Int.gcd_comm y (x % y)]
      simp only [Int.gcd]
      rw [emod_natAbs (by omega) (by omega), ← Nat.gcd_rec y.natAbs x.natAbs, Nat.gcd_comm]
    · have h1 := Int.emod_lt_of_pos x h
      have h2 := Int.emod_nonneg x (show y ≠ 0 by omega)
      simp [nAt]
      omega
  · intro h
    have : y = 0 := by omega
    subst this
    have : (x : Int) = (Int.gcd a b : Int) := by
      rw [← hg]
      simp [Int.gcd]
      omega
    rw [this]
    assumption
theorem divInt_num {t b : Int} (hb : b ≠ 0) : (Rat.divInt t b).num = t / (if b < 0 then -(Int.gcd t b : Int) else (Int.gcd t b : Int)) := by
  rw [Rat.num_divInt, Int.gcd_comm]
  by_cases h : b < 0
  · rw [if_pos h, Int.sign_eq_neg_one_of_neg h, Int.ediv_neg, Int.neg_one_mul]
    exact Int.neg_ediv_of_dvd (Int.gcd_dvd_left ..)
  · rw [if_neg h, Int.sign_eq_one_of_pos (by omega), Int.one_mul]
theorem divInt_den {t b : Int} (hb : b ≠ 0) : ((Rat.divInt t b).den : Int) = b / (if b < 0 then -(Int.gcd t b : Int) else (Int.gcd t b : Int)) := by
  rw [Rat.den_divInt, if_neg hb, Int.gcd_comm]
  by_cases h : b < 0
  · rw [if_pos h, Int.ediv_neg]
    have : ((b.natAbs : Nat) : Int) = -b := by omega
    rw [Int.natCast_ediv, this]
    exact Int.neg_ediv_of_dvd (Int.gcd_dvd_right ..)
  · rw [if_neg h]
    have : ((b.natAbs : Nat) : Int) = b := by omega
    rw [Int.natCast_ediv, this]
theorem gcd_small {t b : Int} {n : Nat} (hb : b ≠ 0) (h : b.natAbs < 2 ^ n) : 0 < (Int.gcd t b : Int) ∧ ((Int.gcd t b : Int)).natAbs < 2 ^ n := by
  have h1 : 0 < Int.gcd t b := Int.gcd_pos_of_ne_zero_right _ hb
  have h2 : Int.gcd t b ≤ b.natAbs := Nat.le_of_dvd (by omega) (Nat.gcd_dvd_right t.natAbs b.natAbs)
  constructor
  · omega
  · have : ((Int.gcd t b : Nat) : Int).natAbs = Int.gcd t b := by omega
    rw [this]
    exact Nat.lt_of_le_of_lt h2 h
theorem m_ratio_eq {S : Store} {t b : Int} (hb : b ≠ 0) (h : b.natAbs < 2 ^ 8999) : m_ratio [.int t, .int b] S = .ok (eQ (Rat.divInt t b)) S := by
  refine Rok.eq ?_
  unfold m_ratio
  rw [rok_def]
  have w : ∀ (x : Int), m_is_whole [.int x] S = .ok (.bl true) S := fun x => by
    refine Rok.eq ?_
    unfold m_is_whole
    rw [rok_def]
    simp [Ty.isa]
  simp [w, hb]
  have g := gcd_small (t := t) hb h
  constructor
  · intro hn
    have g := gcd_small (t := -t) (b := -b) (n := 8999) (by omega) (by simpa using h)
    have e1 : Int.gcd (-t) (-b) = Int.gcd t b := by simp
    rw [e1] at g
    rw [m_divisor_eq (by omega)]
    simp
    refine ⟨CDv_w (by omega) g.2 (by decide), CDv_w (by omega) g.2 (by decide), ?_⟩
    rw [fdiv_pos g.1, fdiv_pos g.1]
    unfold eQ
    rw [divInt_num hb, divInt_den hb, if_pos hn, Int.ediv_neg, Int.ediv_neg, Int.neg_ediv_of_dvd (Int.gcd_dvd_left ..), Int.neg_ediv_of_dvd (Int.gcd_dvd_right ..)]
  · intro hn
    rw [m_divisor_eq (by omega)]
    simp
    refine ⟨CDv_w (by omega) g.2 (by decide), CDv_w (by omega) g.2 (by decide), ?_⟩
    rw [fdiv_pos g.1, fdiv_pos g.1]
    unfold eQ
    rw [divInt_num hb, divInt_den hb, if_neg (by omega)]
theorem m_l_low_eq {S : Store} {t b : Int} (hb : b ≠ 0) (h : b.natAbs < 2 ^ 8999) : m_l_low [.int t, .int b] S = .ok (eQ (Rat.divInt t b)) S := by
  refine Rok.eq ?_
  unfold m_l_low
  rw [rok_def]
  have g := gcd_small (t := t) hb h
  simp
  refine low_while hb ?_
  simp
  constructor
  · intro hn
    refine ⟨CDv_w (by omega) (by simpa using g.2) (by decide), CDv_w (by omega) (by simpa using g.2) (by decide), ?_⟩
    rw [fdiv_neg_dvd (Int.gcd_dvd_left ..), fdiv_neg_dvd (Int.gcd_dvd_right ..)]
    unfold eQ
    rw [divInt_num hb, divInt_den hb, if_pos hn]
  · intro hn
    refine ⟨CDv_w (by omega) g.2 (by decide), CDv_w (by omega) g.2 (by decide), ?_⟩
    rw [fdiv_pos g.1, fdiv_pos g.1]
    unfold eQ
    rw [divInt_num hb, divInt_den hb, if_neg (by omega)]
end Rg
section
set_option exponentiation.threshold 10000
namespace Rg
open PySem L2
class Sz (q : Rat) (k : outParam Nat) : Prop where
  num : q.num.natAbs < 2 ^ k
  den : q.den < 2 ^ k
theorem Sz.pos {q : Rat} {k : Nat} (h : Sz q k) : 1 ≤ k := by
  cases k with
  | zero =>
    have h1 := h.den
    have h2 := q.den_pos
    simp at h1
    omega
  | succ k => omega
theorem pow_le {a b : Nat} (h : a ≤ b) : 2 ^ a ≤ 2 ^ b := Nat.pow_le_pow_right (by decide) h
theorem Sz.mono {q : Rat} {k m : Nat} (h : Sz q k) (hk : k ≤ m) : Sz q m := ⟨Nat.lt_of_lt_of_le h.num (pow_le hk), Nat.lt_of_lt_of_le h.den (pow_le hk)⟩
instance : Sz 0 1 := ⟨by decide, by decide⟩
instance : Sz 1 1 := ⟨by decide, by decide⟩
instance : Sz 2 2 := ⟨by decide, by decide⟩
instance : Sz 4 3 := ⟨by decide, by decide⟩
theorem mul_lt2 {x y i j : Nat} (h : x < 2 ^ i) (h' : y < 2 ^ j) : x * y < 2 ^ (i + j) := by
  rw [Nat.pow_add]
  exact Nat.mul_lt_mul'' h h'
theorem natAbs_ediv_le {x : Int} {n : Nat} : (x / (n : Int)).natAbs ≤ x.natAbs := by
  by_cases h : n = 0
  · subst h; simp
  · have := Int.natAbs_ediv_le_natAbs x n
    exact this
theorem sz_add {p q : Rat} {i j : Nat} (hp : Sz p i) (hq : Sz q j) : Sz (p + q) (i + j + 1) := by
  constructor
  · rw [Rat.num_add]
    refine Nat.lt_of_le_of_lt natAbs_ediv_le ?_
    have h1 : (p.num * (q.den : Int)).natAbs < 2 ^ (i + j) := by rw [Int.natAbs_mul]; exact mul_lt2 hp.num hq.den
    have h2 : (q.num * (p.den : Int)).natAbs < 2 ^ (i + j) := by rw [Int.natAbs_mul, Nat.add_comm]; exact mul_lt2 hq.num hp.den
    rw [Nat.pow_succ]
    omega
  · rw [Rat.den_add]
    refine Nat.lt_of_le_of_lt (Nat.div_le_self _ _) (Nat.lt_of_lt_of_le (mul_lt2 hp.den hq.den) (pow_le (by omega)))
instance {p q : Rat} {i j : Nat} [hp : Sz p i] [hq : Sz q j] : Sz (p + q) (i + j + 1) := sz_add hp hq
theorem sz_neg {p : Rat} {i : Nat} (hp : Sz p i) : Sz (-p) i := ⟨by rw [Rat.neg_num, Int.natAbs_neg]; exact hp.num, by rw [Rat.neg_den]; exact hp.den⟩
instance {p : Rat} {i : Nat} [hp : Sz p i] : Sz (-p) i := sz_neg hp
theorem sz_sub {p q : Rat} {i j : Nat} (hp : Sz p i) (hq : Sz q j) : Sz (p - q) (i + j + 1) := by rw [Rat.sub_eq_add_neg]; exact sz_add hp (sz_neg hq)
instance {p q : Rat} {i j : Nat} [hp : Sz p i] [hq : Sz q j] : Sz (p - q) (i + j + 1) := sz_sub hp hq
theorem sz_mul {p q : Rat} {i j : Nat} (hp : Sz p i) (hq : Sz q j) : Sz (p * q) (i + j) := by
  constructor
  · rw [Rat.num_mul]
    refine Nat.lt_of_le_of_lt natAbs_ediv_le ?_
    rw [Int.natAbs_mul]; exact mul_lt2 hp.num hq.num
  · rw [Rat.den_mul]
    exact Nat.lt_of_le_of_lt (Nat.div_le_self _ _) (mul_lt2 hp.den hq.den)
instance {p q : Rat} {i j : Nat} [hp : Sz p i] [hq : Sz q j] : Sz (p * q) (i + j) := sz_mul hp hq
theorem sz_inv {q : Rat} {j : Nat} (hq : Sz q j) : Sz q⁻¹ j := by
  constructor
  · rw [Rat.num_inv, Int.natAbs_mul]
    have h1 := hq.den
    rcases Int.lt_trichotomy q.num 0 with h | h | h
    · rw [Int.sign_eq_neg_one_of_neg h]; simpa using h1
    · rw [h]; simp; exact Nat.pow_pos (by decide)
    · rw [Int.sign_eq_one_of_pos h]; simpa using h1
  · rw [Rat.den_inv]
    split
    · exact Nat.lt_of_lt_of_le (by decide : 1 < 2 ^ 1) (pow_le hq.pos)
    · exact hq.num
instance {q : Rat} {j : Nat} [hq : Sz q j] : Sz q⁻¹ j := sz_inv hq
theorem sz_div {p q : Rat} {i j : Nat} (hp : Sz p i) (hq : Sz q j) : Sz (p / q) (i + j) := by rw [Rat.div_def]; exact sz_mul hp (sz_inv hq)
instance {p q : Rat} {i j : Nat} [hp : Sz p i] [hq : Sz q j] : Sz (p / q) (i + j) := sz_div hp hq
theorem sz_abs {p : Rat} {i : Nat} (hp : Sz p i) : Sz p.abs i := by
  unfold Rat.abs
  split
  · exact hp
  · exact sz_neg hp
instance {p : Rat} {i : Nat} [hp : Sz p i] : Sz p.abs i := sz_abs hp
theorem Sz.CMnn {p q : Rat} {i j : Nat} (hp : Sz p i) (hq : Sz q j) (h : i + j ≤ 999998) : CM p.num q.num := CM_w hp.num hq.num h
theorem Sz.CMnd {p q : Rat} {i j : Nat} (hp : Sz p i) (hq : Sz q j) (h : i + j ≤ 999998) : CM p.num q.den := CM_w hp.num (by simpa using hq.den) h
theorem Sz.CMdn {p q : Rat} {i j : Nat} (hp : Sz p i) (hq : Sz q j) (h : i + j ≤ 999998) : CM p.den q.num := CM_w (by simpa using hp.den) hq.num h
theorem Sz.CMdd {p q : Rat} {i j : Nat} (hp : Sz p i) (hq : Sz q j) (h : i + j ≤ 999998) : CM p.den q.den := CM_w (by simpa using hp.den) (by simpa using hq.den) h
theorem dd_ne {p q : Rat} : ((p.den : Int) * (q.den : Int)) ≠ 0 := by
  have h1 := p.den_pos
  have h2 := q.den_pos
  exact Int.mul_ne_zero (by omega) (by omega)
theorem dd_lt {p q : Rat} {i j k : Nat} (hp : Sz p i) (hq : Sz q j) (h : i + j ≤ k) : ((p.den : Int) * (q.den : Int)).natAbs < 2 ^ k := by
  rw [Int.natAbs_mul]
  exact Nat.lt_of_lt_of_le (mul_lt2 hp.den hq.den) (pow_le h)
theorem dn_lt {p q : Rat} {i j k : Nat} (hp : Sz p i) (hq : Sz q j) (h : i + j ≤ k) : ((p.den : Int) * q.num).natAbs < 2 ^ k := by
  rw [Int.natAbs_mul]
  exact Nat.lt_of_lt_of_le (mul_lt2 hp.den hq.num) (pow_le h)
theorem add_di {p q : Rat} : Rat.divInt (p.num * q.den + q.num * p.den) (p.den * q.den) = p + q := by
  rw [Rat.add_def', ← Rat.divInt_ofNat]; simp
theorem sub_di {p q : Rat} : Rat.divInt (p.num * q.den - q.num * p.den) (p.den * q.den) = p - q := by
  rw [Rat.sub_def', ← Rat.divInt_ofNat]; simp
theorem mul_di {p q : Rat} : Rat.divInt (p.num * q.num) (p.den * q.den) = p * q := by
  rw [Rat.mul_def', ← Rat.divInt_ofNat]; simp
theorem div_di {p q : Rat} : Rat.divInt (p.num * q.den) (p.den * q.num) = p / q := by
  rw [Rat.div_def, Rat.inv_def, ← Rat.divInt_mul_divInt, Rat.num_divInt_den]
section
variable {S : Store} {p q : Rat} {i j : Nat}
@[simp] theorem m_plus_eq [hp : Sz p i] [hq : Sz q j] (h : i + j ≤ 8998) : m_plus [eQ p, eQ q] S = .ok (eQ (p + q)) S := by
  refine Rok.eq ?_
  unfold m_plus
  rw [rok_def]
  simp [hp.CMnd hq (by omega), hq.CMnd hp (by omega), hp.CMdd hq (by omega)]
  rw [m_ratio_eq dd_ne (dd_lt hp hq (by omega)), add_di]
  simp
@[simp] theorem m_minus_eq [hp : Sz p i] [hq : Sz q j] (h : i + j ≤ 8998) : m_minus [eQ p, eQ q] S = .ok (eQ (p - q)) S := by
  refine Rok.eq ?_
  unfold m_minus
  rw [rok_def]
  simp [hp.CMnd hq (by omega), hq.CMnd hp (by omega), hp.CMdd hq (by omega)]
  rw [m_ratio_eq dd_ne (dd_lt hp hq (by omega)), sub_di]
  simp
@[simp] theorem m_times_eq [hp : Sz p i] [hq : Sz q j] (h : i + j ≤ 8998) : m_times [eQ p, eQ q] S = .ok (eQ (p * q)) S := by
  refine Rok.eq ?_
  unfold m_times
  rw [rok_def]
  simp [hp.CMnn hq (by omega), hp.CMdd hq (by omega)]
  rw [m_ratio_eq dd_ne (dd_lt hp hq (by omega)), mul_di]
  simp
theorem den_ne {p : Rat} : (p.den : Int) ≠ 0 := by have := p.den_pos; omega
theorem num_ne {p : Rat} (h : p ≠ 0) : p.num ≠ 0 := fun e => h (Rat.num_eq_zero.mp e)
theorem m_over_eq [hp : Sz p i] [hq : Sz q j] (hn : q ≠ 0) (h : i + j ≤ 8998) : m_over [eQ p, eQ q] S = .ok (eQ (p / q)) S := by
  refine Rok.eq ?_
  unfold m_over
  rw [rok_def]
  simp [hp.CMnd hq (by omega), hp.CMdn hq (by omega)]
  rw [m_ratio_eq (Int.mul_ne_zero den_ne (num_ne hn)) (dn_lt hp hq (by omega)), div_di]
  simp
@[simp] theorem m_less_eq [hp : Sz p i] [hq : Sz q j] (h : i + j ≤ 999998) : m_less [eQ p, eQ q] S = .ok (.bl (decide (p < q))) S := by
  refine Rok.eq ?_
  unfold m_less
  rw [rok_def]
  simp [hp.CMnd hq (by omega), hq.CMnd hp (by omega)]
  rw [Rat.lt_iff]
@[simp] theorem m_negative_eq : m_negative [eQ p] S = .ok (eQ (-p)) S := by
  refine Rok.eq ?_
  unfold m_negative
  rw [rok_def]
  simp
  rfl
theorem abs_num {p : Rat} : p.abs.num = (p.num.natAbs : Int) := by
  unfold Rat.abs
  have h := Rat.num_nonneg (q := p)
  split
  · rename_i h1; have := h.mpr h1; omega
  · rename_i h1
    rw [Rat.neg_num]
    have : ¬ 0 ≤ p.num := fun q => h1 (h.mp q)
    omega
theorem abs_den {p : Rat} : p.abs.den = p.den := by
  unfold Rat.abs
  split
  · rfl
  · rfl
@[simp] theorem m_size_eq : m_size [eQ p] S = .ok (eQ p.abs) S := by
  refine Rok.eq ?_
  unfold m_size
  rw [rok_def]
  have e : D.tup [.int (p.num.natAbs : Int), .int (p.den : Nat)] = eQ p.abs := by unfold eQ; rw [abs_num, abs_den]
  simp [e]
@[simp] theorem m_l_sum_eq [hp : Sz p i] [hq : Sz q j] (h : i + j ≤ 8998) : m_l_sum [eQ p, eQ q] S = .ok (eQ (p + q)) S := by
  refine Rok.eq ?_
  unfold m_l_sum
  rw [rok_def]
  simp [hp.CMnd hq (by omega), hq.CMnd hp (by omega), hp.CMdd hq (by omega)]
  rw [m_l_low_eq dd_ne (dd_lt hp hq (by omega)), add_di]
  simp
@[simp] theorem m_l_taken_eq [hp : Sz p i] [hq : Sz q j] (h : i + j ≤ 8998) : m_l_taken [eQ p, eQ q] S = .ok (eQ (p * q)) S := by
  refine Rok.eq ?_
  unfold m_l_taken
  rw [rok_def]
  simp [hp.CMnn hq (by omega), hp.CMdd hq (by omega)]
  rw [m_l_low_eq dd_ne (dd_lt hp hq (by omega)), mul_di]
  simp
@[simp] theorem m_l_back_eq : m_l_back [eQ p] S = .ok (eQ (-p)) S := by
  refine Rok.eq ?_
  unfold m_l_back
  rw [rok_def]
  simp
  rfl
@[simp] theorem m_l_below_eq [hp : Sz p i] [hq : Sz q j] (h : i + j ≤ 999998) : m_l_below [eQ p, eQ q] S = .ok (.bl (decide (p < q))) S := by
  refine Rok.eq ?_
  unfold m_l_below
  rw [rok_def]
  simp [hp.CMnd hq (by omega), hq.CMnd hp (by omega)]
  rw [Rat.lt_iff]
@[simp] theorem m_is_whole_int {x : Int} : m_is_whole [.int x] S = .ok (.bl true) S := by
  refine Rok.eq ?_
  unfold m_is_whole
  rw [rok_def]
  simp [Ty.isa]
end
example {S : Store} {a b c d y u : Rat} [Sz a 1340] [Sz b 1340] [Sz y 41] [Sz u 41] : (m_times [eQ a, eQ y] S).bind (fun x S1 => (m_times [eQ b, eQ u] S1).bind fun z S2 => m_plus [x, z] S2) = .ok (eQ (a * y + b * u)) S := by simp
end Rg
end
section
set_option exponentiation.threshold 10000
namespace Rg
open PySem L2
abbrev pl (a b c : Int) : Cell := .lst [.int a, .int b, .int c]
class Pool (S : Store) (n : Nat) : Prop where
  ex : ∃ a b c : Int, S[n]? = some (pl a b c)
theorem Pool.lt {S : Store} {n : Nat} (h : Pool S n) : n < S.length := by
  obtain ⟨a, b, c, h⟩ := h
  exact (List.getElem?_eq_some_iff.mp h).1
instance {S : Store} {n : Nat} {a b c : Int} [h : Pool S n] : Pool (S.set n (pl a b c)) n := ⟨a, b, c, List.getElem?_set_self h.lt⟩
instance {S C : Store} {n : Nat} [h : Pool S n] : Pool (S ++ C) n := by
  obtain ⟨a, b, c, e⟩ := h.ex
  exact ⟨a, b, c, by rw [List.getElem?_append_left h.lt]; exact e⟩
instance {S C : Store} {a b c : Int} : Pool (S ++ pl a b c :: C) S.length := ⟨a, b, c, by simp⟩
@[simp] theorem ixN30 : ixN 3 0 = some 0 := rfl
@[simp] theorem ixN32 : ixN 3 2 = some 2 := rfl
@[simp] theorem lstOf_set {S : Store} {n : Nat} {l : List D} (h : n < S.length) : lstOf (S.set n (.lst l)) n = some l := lstOf_lst (List.getElem?_set_self h)
theorem lstOf_set_ne {S : Store} {n m : Nat} {c : Cell} (h : n ≠ m) : lstOf (S.set n c) m = lstOf S m := by
  unfold lstOf
  rw [List.getElem?_set_ne h]
theorem kept_pool {S : Store} {n : Nat} {a b c : Int} {C : Store} (hn : n < S.length) : Kept S (S.set n (pl a b c) ++ C) := by
  refine ⟨by simp, fun m hm => ?_⟩
  by_cases e : n = m
  · subst e
    refine .inr ⟨pl a b c, ?_, by simp [Cell.under]⟩
    rw [List.getElem?_append_left (by simpa), List.getElem?_set_self hn]
  · refine .inl ?_
    rw [List.getElem?_append_left (by simpa), List.getElem?_set_ne e]
theorem gc_pool {S : Store} {n : Nat} {a b c : Int} {C : Store} {d : D} (hn : n < S.length) (h : d.fresh S.length = none) : gc S d (S.set n (pl a b c) ++ C) = .ok d (S.set n (pl a b c)) := by
  rw [gc_under (kept_pool hn) h, List.take_left' (by simp)]
@[simp] theorem rok_gcp {S : Store} {n : Nat} {a b c : Int} {d : D} {P : D → Store → Prop} (hn : n < S.length) (h : d.fresh S.length = none) : Rok (gc S d (S.set n (pl a b c))) P ↔ P d (S.set n (pl a b c)) := by
  have := gc_pool (C := []) (a := a) (b := b) (c := c) hn h
  rw [List.append_nil] at this
  rw [this, rok_ok]
@[simp] theorem rok_gcpa {S : Store} {n : Nat} {a b c : Int} {C : Store} {d : D} {P : D → Store → Prop} (hn : n < S.length) (h : d.fresh S.length = none) : Rok (gc S d (S.set n (pl a b c) ++ C)) P ↔ P d (S.set n (pl a b c)) := by
  rw [gc_pool hn h, rok_ok]
theorem gc_poolN {S : Store} {n k : Nat} {a b c : Int} {C : Store} {d : D} {l : List D} (hn : n < S.length) (h : d.fresh S.length = some k) (ho : d.only S.length k = true) (hl : (S.set n (pl a b c) ++ C)[k]? = some (.lst l)) (u : unders S.length l = true) :
    gc S d (S.set n (pl a b c) ++ C) = .ok (d.subst S.length) (S.set n (pl a b c) ++ [.lst l]) := by
  unfold gc
  rw [if_pos (kept_pool hn), h]
  dsimp only
  rw [if_pos ho, hl]
  dsimp only
  rw [if_pos u, List.take_left' (by simp)]
@[simp] theorem lstOf_left {A C : Store} {k : Nat} (h : k < A.length) : lstOf (A ++ C) k = lstOf A k := by
  unfold lstOf
  rw [List.getElem?_append_left h]
@[simp] theorem get_right {A C : Store} {k : Nat} (h : A.length ≤ k) : (A ++ C)[k]? = C[k - A.length]? := List.getElem?_append_right h
@[simp] theorem set_right {A C : Store} {k : Nat} {d : Cell} (h : A.length ≤ k) : (A ++ C).set k d = A ++ C.set (k - A.length) d := List.set_append_right _ _ h
@[simp] theorem isLst_ref {S : Store} {n : Nat} : isLst S (.ref n) = (lstOf S n).isSome := rfl
@[simp] theorem rok_mulL {m : Nat} {k : Int} {S : Store} {P : D → Store → Prop} : Rok (fMulL (.ref m) (.int k) S) P ↔ ∃ x, S[m]? = some (.lst x) ∧ (-(2 ^ 63) ≤ k ∧ k < 2 ^ 63 ∧ x.length * k.toNat ≤ sizeLine) ∧ P (.ref S.length) (S ++ [.lst (List.replicate k.toNat x).flatten]) := by
  unfold fMulL
  dsimp only
  split
  · rename_i x hx
    split
    · rename_i h; rw [rok_ok]; exact ⟨fun q => ⟨x, hx, h, q⟩, fun ⟨y, hy, _, q⟩ => by rw [hx] at hy; cases hy; exact q⟩
    · rename_i h; rw [rok_bad]; exact ⟨fun q => q.elim, fun ⟨y, hy, z, q⟩ => by rw [hx] at hy; cases hy; exact h z⟩
  · rename_i h
    rw [rok_bad]
    exact ⟨fun q => q.elim, fun ⟨y, hy, _, _⟩ => h _ hy⟩
theorem lstOf_lt {S : Store} {m : Nat} {l : List D} (h : lstOf S m = some l) : m < S.length := by
  unfold lstOf at h
  rcases Nat.lt_or_ge m S.length with q | q
  · exact q
  · rw [List.getElem?_eq_none q] at h; cases h
theorem lstOf_app {S C : Store} {m : Nat} {l : List D} (h : lstOf S m = some l) : lstOf (S ++ C) m = some l := by rw [lstOf_left (lstOf_lt h)]; exact h
@[simp] theorem lstOf_right {A C : Store} {k : Nat} (h : A.length ≤ k) : lstOf (A ++ C) k = lstOf C (k - A.length) := by
  unfold lstOf
  rw [List.getElem?_append_right h]
@[simp] theorem lstOf_zero {C : Store} {l : List D} : lstOf (.lst l :: C) 0 = some l := rfl
@[simp] theorem lstOf_zerof {C : Store} {l : List D} : lstOf (.fro l :: C) 0 = some l := rfl
@[simp] theorem lstOf_succ {C : Store} {c : Cell} {k : Nat} : lstOf (c :: C) (k + 1) = lstOf C k := by
  unfold lstOf
  rw [List.getElem?_cons_succ]
@[simp] theorem lstOf_one {C : Store} {c : Cell} : lstOf (c :: C) 1 = lstOf C 0 := rfl
@[simp] theorem lstOf_two {C : Store} {c d : Cell} : lstOf (c :: d :: C) 2 = lstOf C 0 := rfl
@[simp] theorem lstOf_setn {S : Store} {n m : Nat} {c : Cell} (h : m ≠ n) : lstOf (S.set n c) m = lstOf S m := lstOf_set_ne (Ne.symm h)
@[simp] theorem set_left {A C : Store} {k : Nat} {c : Cell} (h : k < A.length) : (A ++ C).set k c = A.set k c ++ C := by
  rw [List.set_append_left _ _ h]
theorem next_then {S : Store} {n : Nat} {base : Int} {P : D → Store → Prop} (hp : Pool S n) (hb : 0 < base) (hz : base.natAbs < 2 ^ 8999) (h : ∀ v a b c : Int, 0 ≤ v → v < base → P (.int v) (S.set n (pl a b c))) : Rok (m_l_next [.ref n, .int base] S) P := by
  obtain ⟨a, b, c, e⟩ := hp.ex
  have hn : n < S.length := hp.lt
  have el := lstOf_lst e
  have e' := (List.getElem?_eq_some_iff.mp e).2
  unfold m_l_next
  simp [rok_def, el, e', hn]
  constructor
  · intro ha
    exact ⟨hb, CDv_w (by omega) hz (by decide), h _ _ _ _ (Int.emod_nonneg _ (by omega)) (Int.emod_lt_of_pos _ hb)⟩
  · intro ha
    simp [hn, CMo]
    refine ⟨CM_l (by decide), CM_l ?_, CM_l ?_, CDv_w (b := 4) (by decide) (by decide) (by decide), hb, h _ _ _ _ (Int.emod_nonneg _ (by omega)) (Int.emod_lt_of_pos _ hb)⟩
    · have h1 := Int.emod_nonneg (b + 7919 * (c + 1)) (b := 1000000007) (by decide)
      have h2 := Int.emod_lt_of_pos (b + 7919 * (c + 1)) (b := 1000000007) (by decide)
      omega
    · have h1 := Int.emod_nonneg (((b + 7919 * (c + 1)) % 1000000007 + 11) * ((b + 7919 * (c + 1)) % 1000000007 + 48271)) (b := 998244353) (by decide)
      have h2 := Int.emod_lt_of_pos (((b + 7919 * (c + 1)) % 1000000007 + 11) * ((b + 7919 * (c + 1)) % 1000000007 + 48271)) (b := 998244353) (by decide)
      omega
theorem bits_small {x : Int} (h : x.natAbs < 2 ^ 8999) : Builtin.Int.intBits x ≤ 8999 := intBits_le_iff.mpr h
theorem wide_then {S : Store} {n : Nat} {base : Int} {P : D → Store → Prop} (hp : Pool S n) (hb : 0 < base) (hz : base.natAbs < 2 ^ 8999) (h : ∀ v a b c : Int, 0 ≤ v → v < base → P (.int v) (S.set n (pl a b c))) : Rok (m_l_wide [.ref n, .int base] S) P := by
  obtain ⟨a, b, c, e⟩ := hp.ex
  have hn : n < S.length := hp.lt
  have el := lstOf_lst e
  have hbits := bits_small hz
  have e' := (List.getElem?_eq_some_iff.mp e).2
  unfold m_l_wide
  simp [rok_def, el, e', hn]
  refine ⟨fun _ => next_then hp hb hz fun v a b c h0 h1 => by simp [hn]; exact h v a b c h0 h1, fun _ => ⟨CPow_s (by decide) (by decide) (by decide), fun _ => next_then hp hb hz fun v a b c h0 h1 => by simp [hn]; exact h v a b c h0 h1, fun _ => ?_⟩⟩
  simp [sok_for]
  refine ⟨CDv_w (b := 5) (by decide) (by decide) (by decide), by omega, ?_⟩
  refine sok_forRun (fun _ e S' => (∃ x d, e = [some (.ref n), some (.int base), some (.int x), d]) ∧ ∃ a b c, S' = S.set n (pl a b c)) _ (fun _ _ _ _ => trivial) ?_ ?_ _ _ ⟨⟨0, none, rfl⟩, a, b, c, ?_⟩
  · rintro i d _ _ _ ⟨⟨x, o, rfl⟩, a, b, c, rfl⟩
    simp
    refine ⟨CM_r (by decide), next_then inferInstance (by decide) (by decide) fun v a b c h0 h1 => ?_⟩
    simp
    exact ⟨a, b, c, rfl⟩
  · rintro _ _ ⟨⟨x, o, rfl⟩, a, b, c, rfl⟩
    simp [hn]
    exact ⟨hb, h _ _ _ _ (Int.emod_nonneg _ (by omega)) (Int.emod_lt_of_pos _ hb)⟩
  · exact (List.ext_getElem? fun m => by
      by_cases q : n = m
      · subst q; rw [List.getElem?_set_self hn, e]
      · rw [List.getElem?_set_ne q])
theorem ix_all {l : List D} {i : Int} {P : D → Prop} (h0 : 0 ≤ i) (h1 : i < l.length) (h : ∀ x ∈ l, P x) : ∃ x, atI l i = some x ∧ P x := by
  have hi : i.toNat < l.length := by omega
  have := atI_nat (xs := l) (j := i.toNat) (v := l[i.toNat]) (by simp [hi])
  refine ⟨l[i.toNat], ?_, h _ (List.getElem_mem _)⟩
  rw [← this, Int.toNat_of_nonneg h0]
theorem sz_di {t b : Int} {k : Nat} (hb : b ≠ 0) (h1 : t.natAbs < 2 ^ k) (h2 : b.natAbs < 2 ^ k) : Sz (Rat.divInt t b) k := by
  constructor
  · rw [Rat.num_divInt, Int.gcd_comm]
    refine Nat.lt_of_le_of_lt natAbs_ediv_le ?_
    rw [Int.natAbs_mul]
    have : b.sign.natAbs ≤ 1 := by
      rw [Int.natAbs_sign]
      split <;> omega
    exact Nat.lt_of_le_of_lt (Nat.le_trans (Nat.mul_le_mul_right _ this) (by omega)) h1
  · rw [Rat.den_divInt, if_neg hb]
    exact Nat.lt_of_le_of_lt (Nat.div_le_self _ _) h2
theorem low_then {S : Store} {t b : Int} {P : D → Store → Prop} (k : Nat) (hb : b ≠ 0) (h1 : t.natAbs < 2 ^ k) (h2 : b.natAbs < 2 ^ k) (hk : k ≤ 8999) (h : Sz (Rat.divInt t b) k → P (eQ (Rat.divInt t b)) S) : Rok (m_l_low [.int t, .int b] S) P := by
  rw [m_l_low_eq hb (Nat.lt_of_lt_of_le h2 (pow_le hk)), rok_ok]
  exact h (sz_di hb h1 h2)
theorem number_then {S : Store} {n : Nat} {P : D → Store → Prop} (hp : Pool S n) (h : ∀ (q : Rat) (a b c : Int), Sz q 41 → P (eQ q) (S.set n (pl a b c))) : Rok (m_l_number [.ref n] S) P := by
  have hn : n < S.length := hp.lt
  unfold m_l_number
  simp [rok_def]
  refine next_then hp (by decide) (by decide) fun v a b c v0 v1 => ?_
  simp
  constructor
  · intro _
    refine next_then inferInstance (by decide) (by decide) fun w a b c w0 w1 => ?_
    simp [hn]
    refine next_then inferInstance (by decide) (by decide) fun i a b c i0 i1 => ?_
    simp [hn]
    refine ix_all i0 ?_ ?_
    · simp; omega
    simp [hn]
    refine ⟨?_, ?_, ?_, ?_⟩ <;> (refine low_then 41 (by decide) (by omega) (by decide) (by decide) fun hz => ?_; simp [hn]; exact h _ _ _ _ hz)
  · intro _
    constructor
    · intro _
      refine next_then inferInstance (by decide) (by decide) fun w a b c w0 w1 => ?_
      simp [hn]
      refine next_then inferInstance (by decide) (by decide) fun i a b c i0 i1 => ?_
      simp [hn]
      refine low_then 41 (by omega) (by omega) (by omega) (by decide) fun hz => ?_
      simp [hn]
      exact h _ _ _ _ hz
    · intro _
      constructor
      · intro _
        refine ⟨CPow_s (by decide) (by decide) (by decide), ?_⟩
        refine ⟨CM_l (by decide), ?_⟩
        refine wide_then inferInstance (by decide) (by decide) fun w a b c w0 w1 => ?_
        simp [hn]
        refine wide_then inferInstance (by decide) (by decide) fun i a b c i0 i1 => ?_
        simp [hn]
        refine low_then 41 (by omega) (by omega) (by omega) (by decide) fun hz => ?_
        simp [hn]
        exact h _ _ _ _ hz
      · intro _
        simp [hn]
        exact h _ _ _ _ (Sz.mono inferInstance (by decide))
theorem pool_eq {S : Store} {x : Int} : ∃ a b : Int, m_l_pool [.int x] S = .ok (.ref S.length) (S ++ [pl a b 0]) := by
  have key : Rok (m_l_pool [.int x] S) fun d S' => d = .ref S.length ∧ ∃ a b, S' = S ++ [pl a b 0] := by
    unfold m_l_pool
    simp [rok_def, CMo]
    exact CPow_s (by decide) (by decide) (by decide)
  obtain ⟨d, S', e, rfl, a, b, rfl⟩ := key
  exact ⟨a, b, e⟩
theorem pool_then {S : Store} {x : Int} {P : D → Store → Prop} (h : ∀ a b c : Int, P (.ref S.length) (S ++ [pl a b c])) : Rok (m_l_pool [.int x] S) P := by
  obtain ⟨a, b, e⟩ := pool_eq (S := S) (x := x)
  rw [e, rok_ok]
  exact h a b 0
@[simp] theorem set_last {S : Store} {c d : Cell} {C : Store} : (S ++ c :: C).set S.length d = S ++ d :: C := by
  rw [List.set_append_right _ _ (Nat.le_refl _)]
  simp
theorem law_gen {np slot : Nat} {pre body rest : SS} {si : SI} {ns : List Int} {m : Mf} (EI : Env → Prop) (hm : m = mkDef np 1 (sSeq pre (sSeq (sFor si (gN slot) body) rest)))
    (hpre : Sok (pre (some (.ref 0) :: List.replicate (np - 1) none) [.fro (ns.map Rg.D.int)]) { nx := fun e S' => EI e ∧ S' = [.fro (ns.map Rg.D.int)], rt := fun _ _ => False })
    (hit : ∀ e, EI e → Rok (si e [.fro (ns.map Rg.D.int)]) fun w S' => (∃ xs : List Int, w.items = xs.map Rg.D.int) ∧ (∃ C, S' = [.fro (ns.map Rg.D.int)] ++ C) ∧ ∀ C, w.chk (S' ++ C))
    (turn : ∀ (x : Int) (e : Env) (S : Store), EI e → Sok (body (e.set slot (some (.int x))) S) { nx := fun e' S' => EI e' ∧ ∃ C, S' = S ++ C, rt := fun _ _ => False, ct := fun e' S' => EI e' ∧ ∃ C, S' = S ++ C })
    (hrest : ∀ (e : Env) (S : Store), EI e → Sok (rest e S) { nx := fun _ _ => False, rt := fun d S' => d = .bl true ∧ ∃ C, S' = S ++ C }) :
    ∃ S', m [.ref 0] [.fro (ns.map Rg.D.int)] = .ok (.bl true) S' := by
  have key : Rok (m [.ref 0] [.fro (ns.map Rg.D.int)]) fun d _ => d = .bl true := by
    rw [hm, rok_def]
    refine ⟨rfl, ?_⟩
    rw [sok_seq]
    refine Sok.imp hpre ?_ (fun _ _ h => h.elim) (fun _ _ h => h.elim) (fun _ _ h => h.elim)
    rintro e _ ⟨he, rfl⟩
    dsimp only
    rw [sok_seq, sok_for]
    refine (hit e he).imp ?_
    rintro ⟨items, chk⟩ S1 ⟨⟨xs, hx⟩, ⟨C0, rfl⟩, hchk⟩
    dsimp only at hx hchk ⊢
    subst hx
    refine sok_forRun (fun _ e S' => EI e ∧ ∃ C, S' = [Cell.fro (ns.map Rg.D.int)] ++ C0 ++ C) _ (fun i e S' h => ?_) ?_ ?_ _ _ ⟨he, [], by simp⟩
    · obtain ⟨_, C, rfl⟩ := h
      exact hchk C
    · rintro i d e S' hi ⟨he, C, rfl⟩
      obtain ⟨x, _, rfl⟩ := List.mem_map.mp (List.mem_of_getElem? hi)
      simp only [gN_some]
      refine ⟨_, rfl, ?_⟩
      refine (turn x e _ he).imp ?_ ?_ ?_ ?_
      · rintro e S2 ⟨h1, C2, rfl⟩
        exact ⟨h1, C ++ C2, by simp⟩
      · exact fun _ _ h => h.elim
      · exact fun _ _ h => h.elim
      · rintro e S2 ⟨h1, C2, rfl⟩
        exact ⟨h1, C ++ C2, by simp⟩
    · rintro e S' ⟨he, C, rfl⟩
      refine (hrest e _ he).imp (fun _ _ h => h.elim) ?_ (fun _ _ h => h.elim) (fun _ _ h => h.elim)
      rintro d S2 ⟨rfl, C2, rfl⟩
      have := gc_app (S := [Cell.fro (ns.map Rg.D.int)]) (C := C0 ++ C ++ C2) (d := .bl true) (by simp)
      simp at this ⊢
      rw [this]
      simp
  obtain ⟨d, S', e, rfl⟩ := key
  exact ⟨S', e⟩
theorem comp_thenG {A : Type} {si : SI} {g : SG} {t : ST} {e : SE} {vs : List Nat} {env : Env} {S0 : Store} {P : D → Store → Prop} (S : Store) (l : List A) (enc : A → D) (p : A → Bool) (F : A → D)
    (hsi : Rok (si env S0) fun w S1 => S1 = S ∧ w.items = l.map enc ∧ ∀ acc : List D, w.chk (S ++ [.lst acc])) (hlen : l.length ≤ sizeLine)
    (step : ∀ x ∈ l, ∀ acc : List D, ∃ e', g (enc x) (wipeD env vs) (S ++ [.lst acc]) = some e' ∧ Rok (t e' (S ++ [.lst acc])) fun b S2 => S2 = S ++ [.lst acc] ∧ b = p x ∧ (b = true → Rok (e e' (S ++ [.lst acc])) fun y S3 => S3 = S ++ [.lst acc] ∧ y = F x))
    (hP : P (.ref S.length) (S ++ [.lst ((l.filter p).map F)])) : Rok (sComp si g t e vs env S0) P := by
  rw [rok_comp]
  refine hsi.imp ?_
  rintro ⟨items, chk⟩ S1 ⟨rfl, hit, hchk⟩
  dsimp only at hit hchk ⊢
  subst hit
  have key : ∀ (l' : List A) (acc : List D), (∀ x ∈ l', x ∈ l) → acc.length + l'.length ≤ sizeLine → P (.ref S1.length) (S1 ++ [.lst (acc ++ (l'.filter p).map F)]) → Rok (compRun g t e chk S1.length (wipeD env vs) (l'.map enc) (S1 ++ [.lst acc])) fun _ S2 => P (.ref S1.length) S2 := by
    intro l'
    induction l' with
    | nil =>
      intro acc _ _ h
      rw [List.map_nil, rok_compNil]
      exact ⟨hchk acc, by simpa using h⟩
    | cons d l' ih =>
      intro acc hm hz h
      rw [List.map_cons, rok_compCons]
      obtain ⟨e', h1, b, S2, h2, rfl, rfl, h3⟩ := step d (hm d (by simp)) acc
      refine ⟨hchk acc, e', h1, _, _, h2, fun hb => ?_, fun hb => ?_⟩
      · obtain ⟨y, S3, q1, rfl, rfl⟩ := h3 hb
        refine ⟨_, _, q1, acc, by simp, by simp only [List.length_cons] at hz; omega, ?_⟩
        have : (S1 ++ [Cell.lst acc]).set S1.length (.lst (acc ++ [F d])) = S1 ++ [.lst (acc ++ [F d])] := by
          rw [List.set_append_right _ _ (Nat.le_refl _)]; simp
        rw [this]
        refine ih _ (fun x hx => hm x (by simp [hx])) (by simp only [List.length_cons, List.length_append, List.length_nil] at hz ⊢; omega) ?_
        simpa [hb] using h
      · refine ih _ (fun x hx => hm x (by simp [hx])) (by simp only [List.length_cons] at hz; omega) ?_
        simpa [hb] using h
  exact key l [] (fun _ h => h) (by simpa using hlen) (by simpa using hP)
theorem comp_then {A : Type} {si : SI} {g : SG} {t : ST} {e : SE} {vs : List Nat} {env : Env} {S : Store} {P : D → Store → Prop} (l : List A) (enc : A → D) (p : A → Bool) (F : A → D)
    (hsi : Rok (si env S) fun w S1 => S1 = S ∧ w.items = l.map enc ∧ ∀ acc : List D, w.chk (S ++ [.lst acc])) (hlen : l.length ≤ sizeLine)
    (step : ∀ x ∈ l, ∀ acc : List D, ∃ e', g (enc x) (wipeD env vs) (S ++ [.lst acc]) = some e' ∧ Rok (t e' (S ++ [.lst acc])) fun b S2 => S2 = S ++ [.lst acc] ∧ b = p x ∧ (b = true → Rok (e e' (S ++ [.lst acc])) fun y S3 => S3 = S ++ [.lst acc] ∧ y = F x))
    (hP : P (.ref S.length) (S ++ [.lst ((l.filter p).map F)])) : Rok (sComp si g t e vs env S) P := comp_thenG S l enc p F hsi hlen step hP
theorem comp_map_thenG {A : Type} {si : SI} {g : SG} {e : SE} {vs : List Nat} {env : Env} {S0 : Store} {P : D → Store → Prop} (S : Store) (l : List A) (enc : A → D) (F : A → D)
    (hsi : Rok (si env S0) fun w S1 => S1 = S ∧ w.items = l.map enc ∧ ∀ acc : List D, w.chk (S ++ [.lst acc])) (hlen : l.length ≤ sizeLine)
    (step : ∀ x ∈ l, ∀ acc : List D, ∃ e', g (enc x) (wipeD env vs) (S ++ [.lst acc]) = some e' ∧ Rok (e e' (S ++ [.lst acc])) fun y S3 => S3 = S ++ [.lst acc] ∧ y = F x)
    (hP : P (.ref S.length) (S ++ [.lst (l.map F)])) : Rok (sComp si g sYes e vs env S0) P := by
  refine comp_thenG S l enc (fun _ => true) F hsi hlen (fun x hx acc => ?_) ?_
  · obtain ⟨e', h1, h2⟩ := step x hx acc
    refine ⟨e', h1, ?_⟩
    rw [rok_yes]
    exact ⟨rfl, rfl, fun _ => h2⟩
  · rw [List.filter_eq_self.mpr (fun _ _ => rfl)]
    exact hP
theorem comp_map_then {A : Type} {si : SI} {g : SG} {e : SE} {vs : List Nat} {env : Env} {S : Store} {P : D → Store → Prop} (l : List A) (enc : A → D) (F : A → D)
    (hsi : Rok (si env S) fun w S1 => S1 = S ∧ w.items = l.map enc ∧ ∀ acc : List D, w.chk (S ++ [.lst acc])) (hlen : l.length ≤ sizeLine)
    (step : ∀ x ∈ l, ∀ acc : List D, ∃ e', g (enc x) (wipeD env vs) (S ++ [.lst acc]) = some e' ∧ Rok (e e' (S ++ [.lst acc])) fun y S3 => S3 = S ++ [.lst acc] ∧ y = F x)
    (hP : P (.ref S.length) (S ++ [.lst (l.map F)])) : Rok (sComp si g sYes e vs env S) P := by
  refine comp_then l enc (fun _ => true) F hsi hlen (fun x hx acc => ?_) ?_
  · obtain ⟨e', h1, h2⟩ := step x hx acc
    refine ⟨e', h1, ?_⟩
    rw [rok_yes]
    exact ⟨rfl, rfl, fun _ => h2⟩
  · rw [List.filter_eq_self.mpr (fun _ _ => rfl)]
    exact hP
theorem law_gen0 {np slot : Nat} {body rest : SS} {si : SI} {ns : List Int} {m : Mf} (EI : Env → Prop) (hm : m = mkDef np 1 (sSeq (sFor si (gN slot) body) rest)) (h0 : EI (some (.ref 0) :: List.replicate (np - 1) none))
    (hit : ∀ e, EI e → Rok (si e [.fro (ns.map Rg.D.int)]) fun w S' => (∃ xs : List Int, w.items = xs.map Rg.D.int) ∧ (∃ C, S' = [.fro (ns.map Rg.D.int)] ++ C) ∧ ∀ C, w.chk (S' ++ C))
    (turn : ∀ (x : Int) (e : Env) (S : Store), EI e → Sok (body (e.set slot (some (.int x))) S) { nx := fun e' S' => EI e' ∧ ∃ C, S' = S ++ C, rt := fun _ _ => False, ct := fun e' S' => EI e' ∧ ∃ C, S' = S ++ C })
    (hrest : ∀ (e : Env) (S : Store), EI e → Sok (rest e S) { nx := fun _ _ => False, rt := fun d S' => d = .bl true ∧ ∃ C, S' = S ++ C }) :
    ∃ S', m [.ref 0] [.fro (ns.map Rg.D.int)] = .ok (.bl true) S' :=
  law_gen (pre := sSkip) EI (hm.trans (congrArg (mkDef np 1) rfl)) (sok_skip.mpr ⟨h0, rfl⟩) hit turn hrest
end Rg
end
section
set_option exponentiation.threshold 10000
namespace Rg
open PySem L2
def p2 (j : Nat) : Int := ((2 ^ j : Nat) : Int)
@[simp] theorem rangeD_length (lo : Int) (n : Nat) : (rangeD lo n).length = n := rangeD_len lo n
end Rg
end
section
set_option exponentiation.threshold 10000
namespace Rg
open PySem L2
structure Ry where
  y : Rat
  u : Rat
deriving DecidableEq
structure T4 where
  a : Rat
  b : Rat
  c : Rat
  d : Rat
deriving DecidableEq
theorem Ry.ext' {r s : Ry} (h1 : r.y = s.y) (h2 : r.u = s.u) : r = s := by cases r; cases s; simp_all
theorem T4.ext' {r s : T4} (h1 : r.a = s.a) (h2 : r.b = s.b) (h3 : r.c = s.c) (h4 : r.d = s.d) : r = s := by cases r; cases s; simp_all
def eR (r : Ry) : D := .tup [eQ r.y, eQ r.u]
def eT (t : T4) : D := .tup [eQ t.a, eQ t.b, eQ t.c, eQ t.d]
def pR (r : Ry) : PyData := .tuple [pQ r.y, pQ r.u]
def pT (t : T4) : PyData := .tuple [pQ t.a, pQ t.b, pQ t.c, pQ t.d]
section
variable {S : Store} {N n k : Nat} {r s : Ry} {t v : T4} {P : D → Store → Prop} {p q x w : Rat}
@[simp] theorem eR_mk : D.tup [eQ p, eQ q] = eR ⟨p, q⟩ := rfl
@[simp] theorem eT_mk : D.tup [eQ p, eQ q, eQ x, eQ w] = eT ⟨p, q, x, w⟩ := rfl
@[simp] theorem eR_eta : eR ⟨r.y, r.u⟩ = eR r := rfl
@[simp] theorem pR_mk : PyData.tuple [pQ p, pQ q] = pR ⟨p, q⟩ := rfl
@[simp] theorem pT_mk : PyData.tuple [pQ p, pQ q, pQ x, pQ w] = pT ⟨p, q, x, w⟩ := rfl
@[simp] theorem eR_fr : (eR r).fresh N = none := by unfold eR; rw [fr_tup]; simp only [fr_cons, fr_nil, eQ_fr]; rfl
@[simp] theorem eR_un : (eR r).under N = true := by unfold eR; rw [un_tup]; simp only [un_cons, un_nil, eQ_un]; rfl
@[simp] theorem eR_on : (eR r).only N n = true := by unfold eR; rw [on_tup]; simp only [on_cons, on_nil, eQ_on]; rfl
@[simp] theorem eR_sb : (eR r).subst N = eR r := by unfold eR; rw [sb_tup]; simp only [sb_cons, sb_nil, eQ_sb]
@[simp] theorem eT_fr : (eT t).fresh N = none := by unfold eT; rw [fr_tup]; simp only [fr_cons, fr_nil, eQ_fr]; rfl
@[simp] theorem eT_un : (eT t).under N = true := by unfold eT; rw [un_tup]; simp only [un_cons, un_nil, eQ_un]; rfl
@[simp] theorem eT_on : (eT t).only N n = true := by unfold eT; rw [on_tup]; simp only [on_cons, on_nil, eQ_on]; rfl
@[simp] theorem eT_sb : (eT t).subst N = eT t := by unfold eT; rw [sb_tup]; simp only [sb_cons, sb_nil, eQ_sb]
@[simp] theorem eR_ty : tyOf S (eR r) = some .tup := rfl
@[simp] theorem eT_ty : tyOf S (eT t) = some .tup := rfl
@[simp] theorem eR_non : (eR r).isNon = false := rfl
@[simp] theorem eT_non : (eT t).isNon = false := rfl
@[simp] theorem eR_i0 : Rok (fIx (eR r) (.int 0) S) P ↔ P (eQ r.y) S := by unfold eR; rw [rok_ixT]; simp
@[simp] theorem eR_i1 : Rok (fIx (eR r) (.int 1) S) P ↔ P (eQ r.u) S := by unfold eR; rw [rok_ixT]; simp
@[simp] theorem eT_i0 : Rok (fIx (eT t) (.int 0) S) P ↔ P (eQ t.a) S := by unfold eT; rw [rok_ixT]; simp
@[simp] theorem eT_i1 : Rok (fIx (eT t) (.int 1) S) P ↔ P (eQ t.b) S := by unfold eT; rw [rok_ixT]; simp
@[simp] theorem eT_i2 : Rok (fIx (eT t) (.int 2) S) P ↔ P (eQ t.c) S := by unfold eT; rw [rok_ixT]; simp
@[simp] theorem eT_i3 : Rok (fIx (eT t) (.int 3) S) P ↔ P (eQ t.d) S := by unfold eT; rw [rok_ixT]; simp
@[simp] theorem eR_len : Rok (fLen [eR r] S) P ↔ P (.int 2) S := by unfold eR; rw [rok_lenT]; rfl
@[simp] theorem eT_len : Rok (fLen [eT t] S) P ↔ P (.int 4) S := by unfold eT; rw [rok_lenT]; rfl
@[simp] theorem toP_eR : toP S (k + 2) (eR r) = some (pR r) := by unfold eR pR; rw [toP_tup]; simp only [allP_cons, allP_nil, toP_eQ]; rfl
@[simp] theorem toP_eR60 : toP S 60 (eR r) = some (pR r) := toP_eR
@[simp] theorem toP_eR59 : toP S 59 (eR r) = some (pR r) := toP_eR
@[simp] theorem toP_eR58 : toP S 58 (eR r) = some (pR r) := toP_eR
@[simp] theorem toP_eT : toP S (k + 2) (eT t) = some (pT t) := by unfold eT pT; rw [toP_tup]; simp only [allP_cons, allP_nil, toP_eQ]; rfl
@[simp] theorem toP_eT60 : toP S 60 (eT t) = some (pT t) := toP_eT
@[simp] theorem toP_eT59 : toP S 59 (eT t) = some (pT t) := toP_eT
@[simp] theorem toP_eT58 : toP S 58 (eT t) = some (pT t) := toP_eT
@[simp] theorem ev_R : PyData.eqv (pR r) (pR s) = decide (r = s) := by
  unfold pR
  rw [ev_tup, ev_all1, ev_all1, ev_all0, ev_Q, ev_Q, Bool.eq_iff_iff]
  simp
  exact ⟨fun ⟨a, b⟩ => Ry.ext' a b, fun h => by subst h; exact ⟨rfl, rfl⟩⟩
@[simp] theorem ev_T : PyData.eqv (pT t) (pT v) = decide (t = v) := by
  unfold pT
  rw [ev_tup, ev_all1, ev_all1, ev_all1, ev_all1, ev_all0, ev_Q, ev_Q, ev_Q, ev_Q, Bool.eq_iff_iff]
  simp
  exact ⟨fun ⟨a, b, c, d⟩ => T4.ext' a b c d, fun h => by subst h; exact ⟨rfl, rfl, rfl, rfl⟩⟩
@[simp] theorem gT_eQ {f : List D → Env → Store → Option Env} {env : Env} : gT 2 f (eQ p) env S = f [.int p.num, .int (p.den : Nat)] env S := rfl
@[simp] theorem gT_eR {f : List D → Env → Store → Option Env} {env : Env} : gT 2 f (eR r) env S = f [eQ r.y, eQ r.u] env S := rfl
@[simp] theorem gT_eT {f : List D → Env → Store → Option Env} {env : Env} : gT 4 f (eT t) env S = f [eQ t.a, eQ t.b, eQ t.c, eQ t.d] env S := rfl
@[simp] theorem iter_eR {P : Wk → Store → Prop} : Rok (fIter (eR r) S) P ↔ P ⟨[eQ r.y, eQ r.u], fun _ => True⟩ S := by unfold eR; exact rok_fIterT
@[simp] theorem iter_eT {P : Wk → Store → Prop} : Rok (fIter (eT t) S) P ↔ P ⟨[eQ t.a, eQ t.b, eQ t.c, eQ t.d], fun _ => True⟩ S := by unfold eT; exact rok_fIterT
@[simp] theorem zip_eR {P : Wk → Store → Prop} : Rok (fZip [eR r, eR s] S) P ↔ P ⟨[.tup [eQ r.y, eQ s.y], .tup [eQ r.u, eQ s.u]], fun _ => True⟩ S := by unfold eR; rw [rok_zipT]; rfl
@[simp] theorem zip_eT {P : Wk → Store → Prop} : Rok (fZip [eT t, eT v] S) P ↔ P ⟨[.tup [eQ t.a, eQ v.a], .tup [eQ t.b, eQ v.b], .tup [eQ t.c, eQ v.c], .tup [eQ t.d, eQ v.d]], fun _ => True⟩ S := by unfold eT; rw [rok_zipT]; rfl
end
namespace T4
def one : T4 := ⟨1, 0, 0, 1⟩
def led (t : T4) (r : Ry) : Ry := ⟨t.a * r.y + t.b * r.u, t.c * r.y + t.d * r.u⟩
def thn (s t : T4) : T4 := ⟨t.a * s.a + t.b * s.c, t.a * s.b + t.b * s.d, t.c * s.a + t.d * s.c, t.c * s.b + t.d * s.d⟩
def undone (t : T4) : T4 := ⟨t.d, -t.b, -t.c, t.a⟩
def turned (t : T4) : T4 := ⟨t.d, t.b, t.c, t.a⟩
def neg (t : T4) : T4 := ⟨-t.a, -t.b, -t.c, -t.d⟩
def det (t : T4) : Rat := t.a * t.d - t.b * t.c
end T4
def Ry.cross (r s : Ry) : Rat := r.y * s.u - r.u * s.y
theorem rat_mul_den (q : Rat) : q * (q.den : Rat) = (q.num : Rat) := by
  have h : (q.den : Rat) ≠ 0 := by
    have := q.den_nz
    simpa using this
  have e := Rat.num_divInt_den q
  rw [Rat.divInt_eq_div, Rat.intCast_natCast] at e
  have e2 := Rat.div_mul_cancel (a := (q.num : Rat)) h
  rw [e] at e2
  exact e2
def Ov (D : Nat) (k : Nat) (q : Rat) : Prop := ∃ x : Int, x.natAbs < 2 ^ k ∧ q * (D : Rat) = (x : Rat)
theorem Ov.sz {D k : Nat} {q : Rat} (h0 : 0 < D) (hD : D < 2 ^ k) (h : Ov D k q) : Sz q k := by
  obtain ⟨x, hx, e⟩ := h
  have hne : ((D : Int) : Rat) ≠ 0 := by simp; omega
  have : q = Rat.divInt x (D : Int) := by
    rw [Rat.divInt_eq_div, ← e]
    have := Rat.mul_div_cancel (a := q) hne
    exact this.symm
  rw [this]
  exact sz_di (by omega) hx (by simpa using hD)
theorem Sz.ov {q : Rat} {k : Nat} (h : Sz q k) : Ov q.den k q := ⟨q.num, h.num, rat_mul_den q⟩
theorem Ov.mul {D E k m : Nat} {p q : Rat} (hp : Ov D k p) (hq : Ov E m q) : Ov (D * E) (k + m) (p * q) := by
  obtain ⟨x, hx, e⟩ := hp
  obtain ⟨y, hy, f⟩ := hq
  refine ⟨x * y, by rw [Int.natAbs_mul]; exact mul_lt2 hx hy, ?_⟩
  rw [Rat.natCast_mul, Rat.intCast_mul, ← e, ← f]
  grind
theorem Ov.add {D k m : Nat} {p q : Rat} (hp : Ov D k p) (hq : Ov D m q) (hk : k ≤ m) : Ov D (m + 1) (p + q) := by
  obtain ⟨x, hx, e⟩ := hp
  obtain ⟨y, hy, f⟩ := hq
  refine ⟨x + y, ?_, ?_⟩
  · have := pow_le hk
    rw [Nat.pow_succ]
    omega
  · rw [Rat.intCast_add, ← e, ← f]
    grind
theorem Ov.neg {D k : Nat} {p : Rat} (hp : Ov D k p) : Ov D k (-p) := by
  obtain ⟨x, hx, e⟩ := hp
  refine ⟨-x, by omega, ?_⟩
  rw [Rat.intCast_neg, ← e]
  grind
theorem Ov.mono {D k m : Nat} {p : Rat} (hp : Ov D k p) (h : k ≤ m) : Ov D m p := by
  obtain ⟨x, hx, e⟩ := hp
  exact ⟨x, Nat.lt_of_lt_of_le hx (pow_le h), e⟩
theorem Ov.zero {D k : Nat} : Ov D k 0 := ⟨0, by simp; exact Nat.pow_pos (by decide), by simp⟩
theorem Ov.one {D k : Nat} (h : D < 2 ^ k) : Ov D k 1 := ⟨D, by simpa using h, by rw [Rat.one_mul, Rat.intCast_natCast]⟩
theorem Ov.up {D E k m : Nat} {p : Rat} (hp : Ov D k p) (hE : E < 2 ^ m) : Ov (D * E) (k + m) p := by
  have := hp.mul (Ov.one hE)
  rwa [Rat.mul_one] at this
class SzT (t : T4) (k : outParam Nat) : Prop where
  ex : ∃ D : Nat, 0 < D ∧ D < 2 ^ k ∧ Ov D k t.a ∧ Ov D k t.b ∧ Ov D k t.c ∧ Ov D k t.d
class SzR (r : Ry) (k : outParam Nat) : Prop where
  ex : ∃ D : Nat, 0 < D ∧ D < 2 ^ k ∧ Ov D k r.y ∧ Ov D k r.u
theorem SzT.mono {t : T4} {k m : Nat} (h : SzT t k) (hk : k ≤ m) : SzT t m := by
  obtain ⟨D, h0, h1, a, b, c, d⟩ := h.ex
  exact ⟨D, h0, Nat.lt_of_lt_of_le h1 (pow_le hk), a.mono hk, b.mono hk, c.mono hk, d.mono hk⟩
theorem SzR.mono {t : Ry} {k m : Nat} (h : SzR t k) (hk : k ≤ m) : SzR t m := by
  obtain ⟨D, h0, h1, a, b⟩ := h.ex
  exact ⟨D, h0, Nat.lt_of_lt_of_le h1 (pow_le hk), a.mono hk, b.mono hk⟩
section
variable {t v : T4} {r s : Ry} {i j k : Nat} {p q : Rat}
instance [h : SzT t k] : Sz t.a k := by obtain ⟨D, h0, h1, a, b, c, d⟩ := h.ex; exact a.sz h0 h1
instance [h : SzT t k] : Sz t.b k := by obtain ⟨D, h0, h1, a, b, c, d⟩ := h.ex; exact b.sz h0 h1
instance [h : SzT t k] : Sz t.c k := by obtain ⟨D, h0, h1, a, b, c, d⟩ := h.ex; exact c.sz h0 h1
instance [h : SzT t k] : Sz t.d k := by obtain ⟨D, h0, h1, a, b, c, d⟩ := h.ex; exact d.sz h0 h1
instance [h : SzR r k] : Sz r.y k := by obtain ⟨D, h0, h1, a, b⟩ := h.ex; exact a.sz h0 h1
instance [h : SzR r k] : Sz r.u k := by obtain ⟨D, h0, h1, a, b⟩ := h.ex; exact b.sz h0 h1
instance [hp : Sz p i] [hq : Sz q j] : SzR ⟨p, q⟩ (i + j) := by
  refine ⟨p.den * q.den, Nat.mul_pos p.den_pos q.den_pos, mul_lt2 hp.den hq.den, hp.ov.up hq.den, ?_⟩
  have := hq.ov.up hp.den
  rwa [Nat.mul_comm, Nat.add_comm] at this
theorem two_lt {x y : Nat} {i j : Nat} (h : x < 2 ^ i) (h' : y < 2 ^ j) : x * y < 2 ^ (i + j + 1) := Nat.lt_of_lt_of_le (mul_lt2 h h') (pow_le (by omega))
instance [h : SzT t i] [g : SzT v j] : SzT (t.thn v) (i + j + 1) := by
  obtain ⟨D, h0, h1, a, b, c, d⟩ := h.ex
  obtain ⟨E, g0, g1, a', b', c', d'⟩ := g.ex
  refine ⟨E * D, Nat.mul_pos g0 h0, by rw [Nat.add_comm i j]; exact two_lt g1 h1, ?_, ?_, ?_, ?_⟩ <;> (rw [Nat.add_comm i j])
  · exact (a'.mul a).add (b'.mul c) (Nat.le_refl _)
  · exact (a'.mul b).add (b'.mul d) (Nat.le_refl _)
  · exact (c'.mul a).add (d'.mul c) (Nat.le_refl _)
  · exact (c'.mul b).add (d'.mul d) (Nat.le_refl _)
instance [h : SzT t i] [g : SzR r j] : SzR (t.led r) (i + j + 1) := by
  obtain ⟨D, h0, h1, a, b, c, d⟩ := h.ex
  obtain ⟨E, g0, g1, y, u⟩ := g.ex
  exact ⟨D * E, Nat.mul_pos h0 g0, two_lt h1 g1, (a.mul y).add (b.mul u) (Nat.le_refl _), (c.mul y).add (d.mul u) (Nat.le_refl _)⟩
instance [h : SzT t i] : SzT t.turned i := by
  obtain ⟨D, h0, h1, a, b, c, d⟩ := h.ex
  exact ⟨D, h0, h1, d, b, c, a⟩
instance [h : SzT t i] : SzT t.undone i := by
  obtain ⟨D, h0, h1, a, b, c, d⟩ := h.ex
  exact ⟨D, h0, h1, d, b.neg, c.neg, a⟩
instance [h : SzT t i] : SzT t.neg i := by
  obtain ⟨D, h0, h1, a, b, c, d⟩ := h.ex
  exact ⟨D, h0, h1, a.neg, b.neg, c.neg, d.neg⟩
instance : SzT T4.one 1 := ⟨1, by decide, by decide, Ov.one (by decide), Ov.zero, Ov.zero, Ov.one (by decide)⟩
instance [h : SzR r i] [g : SzR s j] : Sz (r.cross s) (i + j + 1) := by
  obtain ⟨D, h0, h1, y, u⟩ := h.ex
  obtain ⟨E, g0, g1, z, w⟩ := g.ex
  refine Ov.sz (D := D * E) (Nat.mul_pos h0 g0) (two_lt h1 g1) ?_
  unfold Ry.cross
  rw [Rat.sub_eq_add_neg]
  exact (y.mul w).add (u.mul z).neg (Nat.le_refl _)
theorem szT_gap (h : Sz q k) : SzT ⟨1, q, 0, 1⟩ k := ⟨q.den, q.den_pos, h.den, Ov.one h.den, h.ov, Ov.zero, Ov.one h.den⟩
theorem szT_glass (h : Sz q k) : SzT ⟨1, 0, q, 1⟩ k := ⟨q.den, q.den_pos, h.den, Ov.one h.den, Ov.zero, h.ov, Ov.one h.den⟩
instance [h : Sz q k] : SzT ⟨1, q, 0, 1⟩ k := szT_gap h
instance [h : Sz q k] : SzT ⟨1, 0, q, 1⟩ k := szT_glass h
instance [hp : Sz p i] [hq : Sz q j] : SzT ⟨p, 0, 0, q⟩ (i + j) := by
  refine ⟨p.den * q.den, Nat.mul_pos p.den_pos q.den_pos, mul_lt2 hp.den hq.den, hp.ov.up hq.den, Ov.zero, Ov.zero, ?_⟩
  have := hq.ov.up hp.den
  rwa [Nat.mul_comm, Nat.add_comm] at this
end
section
variable {s t v : T4} {r q : Ry}
theorem T4.thn_led : (s.thn t).led r = t.led (s.led r) := by apply Ry.ext' <;> (simp only [T4.thn, T4.led]; grind)
theorem T4.thn_assoc : (s.thn t).thn v = s.thn (t.thn v) := by apply T4.ext' <;> (simp only [T4.thn]; grind)
theorem T4.thn_one : t.thn T4.one = t := by apply T4.ext' <;> (simp only [T4.thn, T4.one]; grind)
theorem T4.one_thn : T4.one.thn t = t := by apply T4.ext' <;> (simp only [T4.thn, T4.one]; grind)
theorem T4.one_led : T4.one.led r = r := by apply Ry.ext' <;> (simp only [T4.led, T4.one]; grind)
def Ry.mir (r : Ry) : Ry := ⟨r.y, -r.u⟩
instance {r : Ry} {k : Nat} [h : SzR r k] : SzR r.mir k := by
  obtain ⟨D, h0, h1, a, b⟩ := h.ex
  exact ⟨D, h0, h1, a, b.neg⟩
theorem T4.det_thn : (s.thn t).det = s.det * t.det := by simp only [T4.thn, T4.det]; grind
theorem Ry.cross_self : r.cross r = 0 := by unfold Ry.cross; grind
end
section
variable {p q x w : Rat} {i j k l : Nat}
instance (priority := low) szT_any [hp : Sz p i] [hq : Sz q j] [hx : Sz x k] [hw : Sz w l] : SzT ⟨p, q, x, w⟩ (i + j + k + l) := by
  refine ⟨p.den * q.den * x.den * w.den, Nat.mul_pos (Nat.mul_pos (Nat.mul_pos p.den_pos q.den_pos) x.den_pos) w.den_pos, mul_lt2 (mul_lt2 (mul_lt2 hp.den hq.den) hx.den) hw.den, ?_, ?_, ?_, ?_⟩
  · exact ((hp.ov.up hq.den).up hx.den).up hw.den
  · have := hq.ov.up hp.den
    rw [Nat.mul_comm, Nat.add_comm] at this
    exact (this.up hx.den).up hw.den
  · have := hx.ov.up (mul_lt2 hp.den hq.den)
    rw [Nat.mul_comm, Nat.add_comm] at this
    exact this.up hw.den
  · have := hw.ov.up (mul_lt2 (mul_lt2 hp.den hq.den) hx.den)
    rw [Nat.mul_comm, Nat.add_comm] at this
    exact this
end
section
variable {S : Store} {r s : Ry} {P : D → Store → Prop}
@[simp] theorem plus_RR : Rok (fPlus (eR r) (eR s) S) P ↔ P (eT ⟨r.y, r.u, s.y, s.u⟩) S := by
  unfold eR
  rw [rok_plusT]
  simp
@[simp] theorem toP_ref60 {n : Nat} : toP S 60 (.ref n) = (lstOf S n).bind fun l => (allP (toP S 59) l).map PyData.list := by
  show (match lstOf S n with
    | some l => (allP (toP S 59) l).map PyData.list
    | none => none) = _
  cases lstOf S n <;> rfl
@[simp] theorem toP_ref59 {n : Nat} : toP S 59 (.ref n) = (lstOf S n).bind fun l => (allP (toP S 58) l).map PyData.list := by
  show (match lstOf S n with
    | some l => (allP (toP S 58) l).map PyData.list
    | none => none) = _
  cases lstOf S n <;> rfl
end
end Rg
end
section
set_option exponentiation.threshold 10000
namespace Rg
open PySem L2
section
variable {S : Store} {r s : Ry} {t v : T4} {i j k l : Nat} {p q : Rat}
@[simp] theorem m_summed_eq [Sz p i] [Sz q j] [SzR r k] (h : i + k ≤ 4000) (h' : j + k ≤ 4000) : m_summed [eQ p, eQ q, eR r] S = .ok (eQ (p * r.y + q * r.u)) S := by
  refine Rok.eq ?_
  unfold m_summed
  have a1 : i + k ≤ 8998 := by omega
  have a2 : j + k ≤ 8998 := by omega
  have a3 : i + k + (j + k) ≤ 8998 := by omega
  simp [rok_def, a1, a2, a3]
@[simp] theorem m_cross_eq [SzR r i] [SzR s j] (h : i + j ≤ 4000) : m_cross [eR r, eR s] S = .ok (eQ (r.cross s)) S := by
  refine Rok.eq ?_
  unfold m_cross
  have a1 : i + j ≤ 8998 := by omega
  have a3 : i + j + (i + j) ≤ 8998 := by omega
  simp [rok_def, a1, a3]
  rfl
end
theorem det_thn {s t : T4} : (s.thn t).det = s.det * t.det := by unfold T4.thn T4.det; grind
theorem divInt_pos {x y : Int} (hx : 0 < x) (hy : 0 < y) : 0 < Rat.divInt x y := by
  rw [Rat.divInt_eq_div, Rat.div_def]
  exact Rat.mul_pos (Rat.intCast_pos.mpr hx) (Rat.inv_pos.mpr (Rat.intCast_pos.mpr hy))
@[simp] theorem m_l_less_eq {S : Store} {p q : Rat} {i j : Nat} [Sz p i] [Sz q j] (h : i + j ≤ 8998) : m_l_less [eQ p, eQ q] S = .ok (eQ (p - q)) S := by
  refine Rok.eq ?_
  unfold m_l_less
  simp [rok_def, h]
  rw [Rat.sub_eq_add_neg]
def tpow (t : T4) : Nat → T4
  | 0 => T4.one
  | n + 1 => (tpow t n).thn t
instance {t : T4} {k n : Nat} [h : SzT t k] : SzT (tpow t n) (1 + n * (k + 1)) := by
  induction n with
  | zero => exact SzT.mono (inferInstance : SzT T4.one 1) (by omega)
  | succ n ih =>
    have : SzT ((tpow t n).thn t) (1 + n * (k + 1) + k + 1) := inferInstance
    exact this.mono (by rw [Nat.add_mul]; omega)
end Rg
end
section
set_option exponentiation.threshold 10000
namespace Rg
open PySem L2
@[simp] theorem rok_countB {n : Nat} {k : Bool} {S : Store} {P : D → Store → Prop} : Rok (fCountB (.ref n) [.bl k] S) P ↔ ∃ l bs, lstOf S n = some l ∧ boolsD l = some bs ∧ P (.int (bs.count k : Nat)) S := by
  unfold fCountB
  cases h : lstOf S n with
  | none => simp [h]
  | some l => cases h2 : boolsD l <;> simp [h, h2]
@[simp] theorem rok_dct {env : Env} {S : Store} {P : D → Store → Prop} : Rok (sDct env S) P ↔ P (.ref S.length) (S ++ [.dct]) := by
  unfold sDct; simp
end Rg
end
section
set_option exponentiation.threshold 10000
namespace Rg
open PySem L2
structure Ln where
  p : Rat
  q : Rat
  r : Rat
def eL (l : Ln) : D := .tup [eQ l.p, eQ l.q, eQ l.r]
structure LnS (l : Ln) (k : Nat) : Prop where
  p : Sz l.p k
  q : Sz l.q k
  r : Sz l.r k
  nz : l.p ≠ 0 ∨ l.q ≠ 0
section
variable {S : Store} {N n : Nat} {l : Ln} {P : D → Store → Prop}
@[simp] theorem eL_fr : (eL l).fresh N = none := by unfold eL; simp
@[simp] theorem eL_un : (eL l).under N = true := by unfold eL; simp
@[simp] theorem eL_i0 : Rok (fIx (eL l) (.int 0) S) P ↔ P (eQ l.p) S := by unfold eL; rw [rok_ixT]; simp
@[simp] theorem eL_i1 : Rok (fIx (eL l) (.int 1) S) P ↔ P (eQ l.q) S := by unfold eL; rw [rok_ixT]; simp
@[simp] theorem eL_i2 : Rok (fIx (eL l) (.int 2) S) P ↔ P (eQ l.r) S := by unfold eL; rw [rok_ixT]; simp
@[simp] theorem eL_mk {p q r : Rat} : D.tup [eQ p, eQ q, eQ r] = eL ⟨p, q, r⟩ := rfl
@[simp] theorem gT_eL {f : List D → Env → Store → Option Env} {env : Env} : gT 3 f (eL l) env S = f [eQ l.p, eQ l.q, eQ l.r] env S := rfl
@[simp] theorem un_lines {L : List Ln} : unders N (L.map eL) = true := un_map fun _ _ => eL_un
end
def OvL (D k : Nat) (l : Ln) : Prop := Ov D k l.p ∧ Ov D k l.q ∧ Ov D k l.r
structure Fam (L : List Ln) : Prop where
  sz : ∀ (j : Nat) (l : Ln), L[j]? = some l → LnS l (150 * (j + 1))
  ov : ∃ G : Nat, 0 < G ∧ G < 2 ^ (150 * L.length + 1) ∧ ∀ l ∈ L, OvL G (150 * L.length + 1) l
theorem fam_nil : Fam [] := ⟨by simp, 1, by decide, by decide, by simp⟩
theorem fam_snoc {L : List Ln} {l : Ln} (hF : Fam L) (hnz : l.p ≠ 0 ∨ l.q ≠ 0) (h : ∀ G, 0 < G → G < 2 ^ (150 * L.length + 1) → (∀ l ∈ L, OvL G (150 * L.length + 1) l) → ∃ E, 0 < E ∧ E < 2 ^ 140 ∧ OvL (G * E) (150 * L.length + 145) l) : Fam (L ++ [l]) := by
  obtain ⟨G, g0, g1, g2⟩ := hF.ov
  obtain ⟨E, e0, e1, e2⟩ := h G g0 g1 g2
  have k0 : 0 < G * E := Nat.mul_pos g0 e0
  have k1 : G * E < 2 ^ (150 * L.length + 1 + 140) := mul_lt2 g1 e1
  have k2 : G * E < 2 ^ (150 * L.length + 145) := Nat.lt_of_lt_of_le k1 (pow_le (by omega))
  refine ⟨fun j m hm => ?_, G * E, k0, ?_, fun m hm => ?_⟩
  · rcases Nat.lt_or_ge j L.length with hj | hj
    · rw [List.getElem?_append_left hj] at hm
      exact hF.sz j m hm
    · rw [List.getElem?_append_right hj] at hm
      have hj0 : j - L.length = 0 := by
        have := (List.getElem?_eq_some_iff.mp hm).1
        simp at this
        omega
      rw [hj0] at hm
      cases hm
      have : 150 * L.length + 145 ≤ 150 * (j + 1) := by omega
      exact ⟨(e2.1.sz k0 k2).mono this, (e2.2.1.sz k0 k2).mono this, (e2.2.2.sz k0 k2).mono this, hnz⟩
  · exact Nat.lt_of_lt_of_le k1 (pow_le (by simp; omega))
  · have hk : 150 * L.length + 1 + 140 ≤ 150 * (L ++ [l]).length + 1 := by simp; omega
    have hk2 : 150 * L.length + 145 ≤ 150 * (L ++ [l]).length + 1 := by simp; omega
    rcases List.mem_append.mp hm with hm | hm
    · obtain ⟨a, b, c⟩ := g2 m hm
      exact ⟨(a.up e1).mono hk, (b.up e1).mono hk, (c.up e1).mono hk⟩
    · rw [List.mem_singleton.mp hm]
      exact ⟨e2.1.mono hk2, e2.2.1.mono hk2, e2.2.2.mono hk2⟩
theorem fam_new {L : List Ln} {l : Ln} (hF : Fam L) (h : LnS l 45) : Fam (L ++ [l]) := by
  refine fam_snoc hF h.nz fun G g0 g1 g2 => ⟨l.p.den * l.q.den * l.r.den, Nat.mul_pos (Nat.mul_pos l.p.den_pos l.q.den_pos) l.r.den_pos, Nat.lt_of_lt_of_le (mul_lt2 (mul_lt2 h.p.den h.q.den) h.r.den) (pow_le (by decide)), ?_, ?_, ?_⟩
  · have := ((h.p.ov.up h.q.den).up h.r.den).up g1
    rw [Nat.mul_comm G]
    exact this.mono (by omega)
  · have := ((h.q.ov.up h.p.den).up h.r.den).up g1
    rw [Nat.mul_comm G, Nat.mul_comm l.p.den]
    exact this.mono (by omega)
  · have := (h.r.ov.up (mul_lt2 h.p.den h.q.den)).up g1
    rw [Nat.mul_comm G, Nat.mul_comm _ l.r.den]
    exact this.mono (by omega)
theorem fam_by {L : List Ln} {l m : Ln} {b r : Rat} (hF : Fam L) (hl : l ∈ L) (hm : LnS m 45) (hb : Sz b 4) (hb0 : b ≠ 0) (hnz : l.p ≠ 0 ∨ l.q ≠ 0) (hr : r = l.r ∨ r = m.r) : Fam (L ++ [⟨b * l.p, b * l.q, r⟩]) := by
  refine fam_snoc hF ?_ fun G g0 g1 g2 => ⟨b.den * m.r.den, Nat.mul_pos b.den_pos m.r.den_pos, Nat.lt_of_lt_of_le (mul_lt2 hb.den hm.r.den) (pow_le (by decide)), ?_, ?_, ?_⟩
  · rcases hnz with h | h
    · exact .inl (by show b * l.p ≠ 0; grind)
    · exact .inr (by show b * l.q ≠ 0; grind)
  · have := (hb.ov.mul (g2 l hl).1).up hm.r.den
    rw [← Nat.mul_assoc, Nat.mul_comm G]
    exact this.mono (by omega)
  · have := (hb.ov.mul (g2 l hl).2.1).up hm.r.den
    rw [← Nat.mul_assoc, Nat.mul_comm G]
    exact this.mono (by omega)
  · rcases hr with rfl | rfl
    · have := (g2 l hl).2.2.up (mul_lt2 hb.den hm.r.den)
      exact this.mono (by omega)
    · have := (hm.r.ov.up hb.den).up g1
      rw [Nat.mul_comm G, Nat.mul_comm b.den]
      exact this.mono (by omega)
theorem fam_sum {L : List Ln} {l m : Ln} (hF : Fam L) (hl : l ∈ L) (hm : m ∈ L) (hnz : l.p + m.p ≠ 0 ∨ l.q + m.q ≠ 0) : Fam (L ++ [⟨l.p + m.p, l.q + m.q, l.r + m.r⟩]) := by
  refine fam_snoc hF hnz fun G g0 g1 g2 => ⟨1, by decide, by decide, ?_, ?_, ?_⟩
  · rw [Nat.mul_one]; exact ((g2 l hl).1.add (g2 m hm).1 (Nat.le_refl _)).mono (by omega)
  · rw [Nat.mul_one]; exact ((g2 l hl).2.1.add (g2 m hm).2.1 (Nat.le_refl _)).mono (by omega)
  · rw [Nat.mul_one]; exact ((g2 l hl).2.2.add (g2 m hm).2.2 (Nat.le_refl _)).mono (by omega)
theorem fam_copy {L : List Ln} {l : Ln} (hF : Fam L) (hl : l ∈ L) (hnz : l.p ≠ 0 ∨ l.q ≠ 0) : Fam (L ++ [l]) := by
  refine fam_snoc hF hnz fun G g0 g1 g2 => ⟨1, by decide, by decide, ?_, ?_, ?_⟩
  · rw [Nat.mul_one]; exact (g2 l hl).1.mono (by omega)
  · rw [Nat.mul_one]; exact (g2 l hl).2.1.mono (by omega)
  · rw [Nat.mul_one]; exact (g2 l hl).2.2.mono (by omega)
theorem Fam.mem {L : List Ln} {l : Ln} (hF : Fam L) (hl : l ∈ L) : LnS l (150 * L.length) := by
  obtain ⟨j, hj, e⟩ := List.getElem_of_mem hl
  have h := hF.sz j l (by rw [List.getElem?_eq_getElem hj, e])
  have : 150 * (j + 1) ≤ 150 * L.length := by omega
  exact ⟨h.p.mono this, h.q.mono this, h.r.mono this, h.nz⟩
end Rg
end
section
set_option exponentiation.threshold 10000
namespace Rg
open PySem L2
theorem atI_L {L : List Ln} {j : Nat} {l : Ln} (h : L[j]? = some l) : atI (L.map eL) (j : Nat) = some (eL l) := atI_nat (by rw [List.getElem?_map, h]; rfl)
end Rg
end
section
set_option exponentiation.threshold 10000
namespace Rg
open PySem L2
def worth (l : Ln) (r : Ry) : Rat := l.p * r.y + l.q * r.u
def okL (l : Ln) (r : Ry) : Bool := !decide (l.r < (worth l r).abs)
structure RyS (r : Ry) (k : Nat) : Prop where
  y : Sz r.y k
  u : Sz r.u k
section
variable {S : Store} {l : Ln} {r : Ry} {L : List Ln} {n : Nat}
theorem m_l_bare_eq {q : Rat} : m_l_bare [eQ q] S = .ok (eQ q.abs) S := by
  refine Rok.eq ?_
  unfold m_l_bare
  have ab : D.tup [.int (q.num.natAbs : Int), .int (q.den : Nat)] = eQ q.abs := by unfold eQ; rw [abs_num, abs_den]
  simp [rok_def, ab]
end
end Rg
end
namespace Rg
def nL (l : Ln) : Ln := ⟨-l.p, -l.q, l.r⟩
def both (L : List Ln) : List Ln := L ++ L.map nL
def lcr (l m : Ln) : Rat := l.p * m.q - l.q * m.p
def rot (l : Ln) : Ry := ⟨-l.q, l.p⟩
def vadd (v : Ry) (t : Rat) (d : Ry) : Ry := ⟨v.y + t * d.y, v.u + t * d.u⟩
def In (C : List Ln) (v : Ry) : Prop := ∀ l ∈ C, worth l v ≤ l.r
structure Vx (C : List Ln) (v : Ry) : Prop where
  inn : In C v
  two : ∃ l ∈ C, ∃ m ∈ C, lcr l m ≠ 0 ∧ worth l v = l.r ∧ worth m v = m.r
structure OkC (C : List Ln) : Prop where
  pos : ∀ l ∈ C, 0 < l.r
  bnd : ∀ d : Ry, d ≠ ⟨0, 0⟩ → ∃ l ∈ C, 0 < worth l d
theorem worth_vadd {l : Ln} {v d : Ry} {t : Rat} : worth l (vadd v t d) = worth l v + t * worth l d := by
  unfold worth vadd; grind
theorem cross_swap {v w : Ry} : w.cross v = -(v.cross w) := by unfold Ry.cross; grind
theorem mul_nn {a b : Rat} (ha : 0 ≤ a) (hb : 0 ≤ b) : 0 ≤ a * b := Rat.mul_nonneg ha hb
theorem mul_pp {a b : Rat} (ha : 0 < a) (hb : 0 < b) : 0 < a * b := Rat.mul_pos ha hb
theorem by_lines {l m : Ln} {v w : Ry} (h : lcr l m ≠ 0) (h1 : worth l v = worth l w) (h2 : worth m v = worth m w) : v = w := by
  unfold worth at h1 h2
  unfold lcr at h
  have e1 : (l.p * m.q - l.q * m.p) * (v.y - w.y) = 0 := by grind
  have e2 : (l.p * m.q - l.q * m.p) * (v.u - w.u) = 0 := by grind
  apply Ry.ext'
  · rcases Rat.mul_eq_zero.mp e1 with z | z
    · exact absurd z h
    · grind
  · rcases Rat.mul_eq_zero.mp e2 with z | z
    · exact absurd z h
    · grind
theorem span {v w u : Ry} {l : Ln} : v.cross w * worth l u = u.cross w * worth l v + v.cross u * worth l w := by
  unfold Ry.cross worth; grind
theorem mid {C : List Ln} {x a b : Ry} {s t : Rat} (hx : Vx C x) (ha : In C a) (hb : In C b) (hs : 0 < s) (ht : 0 < t) (he : ∀ l : Ln, (s + t) * worth l x = s * worth l a + t * worth l b) : a = b := by
  obtain ⟨l, hl, m, hm, hc, h1, h2⟩ := hx.two
  have key : ∀ k ∈ C, worth k x = k.r → worth k a = worth k b := fun k hk h => by
    have e := he k
    rw [h] at e
    have a1 := ha k hk
    have b1 := hb k hk
    have p1 : 0 ≤ s * (k.r - worth k a) := mul_nn (by grind) (by grind)
    have p2 : 0 ≤ t * (k.r - worth k b) := mul_nn (by grind) (by grind)
    have z1 : s * (k.r - worth k a) = 0 := by grind
    have z2 : t * (k.r - worth k b) = 0 := by grind
    have := (Rat.mul_eq_zero.mp z1).resolve_left (by grind)
    have := (Rat.mul_eq_zero.mp z2).resolve_left (by grind)
    grind
  exact by_lines hc (key l hl h1) (key m hm h2)
theorem outer {v : Ry} : ∀ T : List Ln, T ≠ [] → (∀ l ∈ T, 0 < worth l v) → ∃ l ∈ T, ∀ m ∈ T, 0 ≤ lcr m l
  | [], h, _ => absurd rfl h
  | [a], _, _ => ⟨a, by simp, fun m hm => by
    rw [List.mem_singleton.mp hm]
    unfold lcr
    grind⟩
  | a :: b :: T, _, hT => by
    obtain ⟨l, hl, h⟩ := outer (b :: T) (by simp) fun x hx => hT x (by simp [hx])
    by_cases hc : 0 ≤ lcr a l
    · refine ⟨l, by simp [hl], fun m hm => ?_⟩
      rcases List.mem_cons.mp hm with rfl | hm
      · exact hc
      · exact h m hm
    · refine ⟨a, by simp, fun m hm => ?_⟩
      rcases List.mem_cons.mp hm with rfl | hm
      · unfold lcr
        grind
      · have h1 := h m hm
        have wl := hT l (by simp [hl])
        have wa := hT a (by simp)
        have wm := hT m (by simp [hm])
        have e : lcr m a * worth l v = lcr m l * worth a v + lcr l a * worth m v := by unfold lcr worth; grind
        have hla : 0 < lcr l a := by unfold lcr at *; grind
        have p1 := mul_nn h1 (Rat.le_of_lt wa)
        have p2 := mul_pp hla wm
        refine Classical.byContradiction fun hn => ?_
        have : 0 < (-lcr m a) * worth l v := mul_pp (by grind) wl
        grind
theorem least_of {A : Type} (f : A → Rat) : ∀ T : List A, T ≠ [] → ∃ x ∈ T, ∀ y ∈ T, f x ≤ f y
  | [], h => absurd rfl h
  | [a], _ => ⟨a, by simp, fun y hy => by rw [List.mem_singleton.mp hy]; exact Rat.le_refl⟩
  | a :: b :: T, _ => by
    obtain ⟨x, hx, h⟩ := least_of f (b :: T) (by simp)
    by_cases hc : f a ≤ f x
    · refine ⟨a, by simp, fun y hy => ?_⟩
      rcases List.mem_cons.mp hy with rfl | hy
      · exact Rat.le_refl
      · exact Rat.le_trans hc (h y hy)
    · refine ⟨x, by simp [hx], fun y hy => ?_⟩
      rcases List.mem_cons.mp hy with rfl | hy
      · grind
      · exact h y hy
structure Side (C : List Ln) (v w : Ry) (l : Ln) : Prop where
  vx : Vx C v
  wx : Vx C w
  mem : l ∈ C
  on : worth l v = l.r
  al : ∃ t : Rat, 0 < t ∧ w = vadd v t (rot l)
theorem Side.on2 {C : List Ln} {v w : Ry} {l : Ln} (h : Side C v w l) : worth l w = l.r := by
  obtain ⟨t, ht, e⟩ := h.al
  rw [e, worth_vadd, h.on]
  unfold worth rot
  grind
theorem Side.cross {C : List Ln} {v w : Ry} {l : Ln} (h : Side C v w l) (ok : OkC C) : 0 < v.cross w := by
  obtain ⟨t, ht, e⟩ := h.al
  have := mul_pp ht (ok.pos l h.mem)
  have e2 : v.cross w = t * l.r := by
    rw [← h.on, e]
    unfold Ry.cross vadd rot worth
    grind
  rw [e2]
  exact this
theorem side_ex {C : List Ln} {v : Ry} (ok : OkC C) (hv : Vx C v) : ∃ w l, Side C v w l := by
  obtain ⟨T, hT⟩ : ∃ T, T = C.filter fun l => decide (worth l v = l.r) := ⟨_, rfl⟩
  have memT : ∀ l, l ∈ T ↔ l ∈ C ∧ worth l v = l.r := fun l => by rw [hT]; simp
  obtain ⟨l0, h0, _, _, _, h1, _⟩ := hv.two
  obtain ⟨l, hl, hout⟩ := outer (v := v) T (List.ne_nil_of_mem ((memT l0).mpr ⟨h0, h1⟩)) fun l hl => by
    obtain ⟨a, b⟩ := (memT l).mp hl
    rw [b]
    exact ok.pos l a
  obtain ⟨lC, lv⟩ := (memT l).mp hl
  have lpos := ok.pos l lC
  have dne : rot l ≠ ⟨0, 0⟩ := fun z => by
    unfold rot at z
    rw [Ry.mk.injEq] at z
    have : worth l v = 0 := by unfold worth; rw [z.2, show l.q = 0 by grind]; grind
    grind
  have rotw : ∀ m, worth m (rot l) = lcr l m := fun m => by unfold worth rot lcr; grind
  obtain ⟨c0, c0C, c0p⟩ := ok.bnd _ dne
  obtain ⟨U, hU⟩ : ∃ U, U = C.filter fun c => decide (0 < worth c (rot l)) := ⟨_, rfl⟩
  have memU : ∀ c, c ∈ U ↔ c ∈ C ∧ 0 < worth c (rot l) := fun c => by rw [hU]; simp
  obtain ⟨c, hc, hmin⟩ := least_of (fun c => (c.r - worth c v) / worth c (rot l)) U (List.ne_nil_of_mem ((memU c0).mpr ⟨c0C, c0p⟩))
  obtain ⟨cC, cp⟩ := (memU c).mp hc
  have slack : ∀ m ∈ U, 0 < m.r - worth m v := fun m hm => by
    obtain ⟨mC, mp⟩ := (memU m).mp hm
    have i := hv.inn m mC
    refine Classical.byContradiction fun hn => ?_
    have : worth m v = m.r := by grind
    have := hout m ((memT m).mpr ⟨mC, this⟩)
    rw [rotw] at mp
    unfold lcr at *
    grind
  obtain ⟨t, ht⟩ : ∃ t, t = (c.r - worth c v) / worth c (rot l) := ⟨_, rfl⟩
  have tc : t * worth c (rot l) = c.r - worth c v := by rw [ht]; exact Rat.div_mul_cancel (by grind)
  have tpos : 0 < t := by
    have := slack c hc
    refine Classical.byContradiction fun hn => ?_
    have : 0 ≤ (-t) * worth c (rot l) := mul_nn (by grind) (Rat.le_of_lt cp)
    grind
  refine ⟨vadd v t (rot l), l, hv, ⟨fun m mC => ?_, l, lC, c, cC, ?_, ?_, ?_⟩, lC, lv, t, tpos, rfl⟩
  · rw [worth_vadd]
    by_cases hp : 0 < worth m (rot l)
    · have hm := hmin m ((memU m).mpr ⟨mC, hp⟩)
      rw [← ht] at hm
      have e : (m.r - worth m v) / worth m (rot l) * worth m (rot l) = m.r - worth m v := Rat.div_mul_cancel (by grind)
      have := mul_nn (show 0 ≤ (m.r - worth m v) / worth m (rot l) - t by grind) (Rat.le_of_lt hp)
      grind
    · have := hv.inn m mC
      have := mul_nn (Rat.le_of_lt tpos) (show 0 ≤ -worth m (rot l) by grind)
      grind
  · rw [← rotw]
    grind
  · rw [worth_vadd, lv, rotw]
    unfold lcr
    grind
  · rw [worth_vadd]
    grind
theorem side_all {C : List Ln} {v w u : Ry} {l : Ln} (ok : OkC C) (h : Side C v w l) (hu : Vx C u) (h1 : u ≠ v) (h2 : u ≠ w) : 0 < v.cross w + w.cross u + u.cross v := by
  have hD := h.cross ok
  have e := span (v := v) (w := w) (u := u) (l := l)
  rw [h.on, h.on2] at e
  have hr := ok.pos l h.mem
  have hi := hu.inn l h.mem
  -- r (D - a - b) = D (r - worth l u)
  have e2 : l.r * (v.cross w + w.cross u + u.cross v) = v.cross w * (l.r - worth l u) := by
    have s1 := cross_swap (v := u) (w := w)
    have s2 := cross_swap (v := v) (w := u)
    rw [s1, s2]
    grind
  have nn := mul_nn (Rat.le_of_lt hD) (show 0 ≤ l.r - worth l u by grind)
  refine Classical.byContradiction fun hn => ?_
  have hle : v.cross w + w.cross u + u.cross v ≤ 0 := by grind
  have z : l.r * (v.cross w + w.cross u + u.cross v) = 0 := by
    have := mul_nn (Rat.le_of_lt hr) (show 0 ≤ -(v.cross w + w.cross u + u.cross v) by grind)
    grind
  have z2 : v.cross w + w.cross u + u.cross v = 0 := (Rat.mul_eq_zero.mp z).resolve_left (by grind)
  -- on the line: D u = a v + b w, a + b = D
  have hs := fun m => span (v := v) (w := w) (u := u) (l := m)
  have s1 := cross_swap (v := u) (w := w)
  have s2 := cross_swap (v := v) (w := u)
  obtain ⟨a, ha⟩ : ∃ a, a = u.cross w := ⟨_, rfl⟩
  obtain ⟨b, hb⟩ : ∃ b, b = v.cross u := ⟨_, rfl⟩
  obtain ⟨D, hDe⟩ : ∃ D, D = v.cross w := ⟨_, rfl⟩
  rw [s1, s2, ← ha, ← hb, ← hDe] at z2
  simp only [← ha, ← hb, ← hDe] at hs
  rw [← hDe] at hD
  have hsum : a + b = D := by grind
  obtain ⟨l1, hl1, l2, hl2, hc, t1, t2⟩ := hu.two
  by_cases hb0 : b = 0
  · refine h1 (by_lines hc ?_ ?_)
    · have := hs l1
      rw [hb0, show a = D by grind] at this
      have : D * (worth l1 u - worth l1 v) = 0 := by grind
      have := (Rat.mul_eq_zero.mp this).resolve_left (by grind)
      grind
    · have := hs l2
      rw [hb0, show a = D by grind] at this
      have : D * (worth l2 u - worth l2 v) = 0 := by grind
      have := (Rat.mul_eq_zero.mp this).resolve_left (by grind)
      grind
  · by_cases ha0 : a = 0
    · refine h2 (by_lines hc ?_ ?_)
      · have := hs l1
        rw [ha0, show b = D by grind] at this
        have : D * (worth l1 u - worth l1 w) = 0 := by grind
        have := (Rat.mul_eq_zero.mp this).resolve_left (by grind)
        grind
      · have := hs l2
        rw [ha0, show b = D by grind] at this
        have : D * (worth l2 u - worth l2 w) = 0 := by grind
        have := (Rat.mul_eq_zero.mp this).resolve_left (by grind)
        grind
    · by_cases hap : 0 < a
      · by_cases hbp : 0 < b
        · have : v = w := mid hu h.vx.inn h.wx.inn hap hbp fun m => by rw [hsum]; exact hs m
          rw [hDe, this, Ry.cross_self] at hD
          grind
        · -- b < 0: v between u and w
          have : u = w := mid h.vx hu.inn h.wx.inn hD (show 0 < -b by grind) fun m => by
            have := hs m
            have e : D + -b = a := by grind
            rw [e]
            grind
          exact h2 this
      · -- a < 0: w between u and v
        have hbp : 0 < b := by grind
        have : u = v := mid h.wx hu.inn h.vx.inn hD (show 0 < -a by grind) fun m => by
          have := hs m
          have e : D + -a = b := by grind
          rw [e]
          grind
        exact h1 this
theorem sector {C : List Ln} {v w u : Ry} {l : Ln} (ok : OkC C) (h : Side C v w l) (hu : Vx C u) (ha : 0 ≤ u.cross w) (hb : 0 ≤ v.cross u) : u = v ∨ u = w := by
  refine Classical.byContradiction fun hn => ?_
  have h1 : u ≠ v := fun z => hn (.inl z)
  have h2 : u ≠ w := fun z => hn (.inr z)
  have hs := side_all ok h hu h1 h2
  have hD := h.cross ok
  obtain ⟨m, hm, _, _, _, t, _⟩ := hu.two
  have e := span (v := v) (w := w) (u := u) (l := m)
  have s1 := cross_swap (v := u) (w := w)
  have s2 := cross_swap (v := v) (w := u)
  rw [s1, s2] at hs
  rw [t] at e
  have p1 := mul_nn ha (show 0 ≤ m.r - worth m v by have := h.vx.inn m hm; grind)
  have p2 := mul_nn hb (show 0 ≤ m.r - worth m w by have := h.wx.inn m hm; grind)
  have p3 := mul_pp hs (ok.pos m hm)
  grind
theorem side_near {C : List Ln} {v w u : Ry} {l : Ln} (ok : OkC C) (h : Side C v w l) (hu : Vx C u) (hl : 0 < v.cross u) (hw : u ≠ w) : 0 < w.cross u := by
  refine Classical.byContradiction fun hn => ?_
  have s1 := cross_swap (v := u) (w := w)
  rcases sector ok h hu (by grind) (Rat.le_of_lt hl) with z | z
  · rw [z, Ry.cross_self] at hl
    grind
  · exact hw z
theorem side_inj {C : List Ln} {v v' w : Ry} {l l' : Ln} (ok : OkC C) (h : Side C v w l) (h' : Side C v' w l') : v = v' := by
  refine Classical.byContradiction fun hn => ?_
  have ne : ∀ {v w l}, Side C v w l → v ≠ w := fun {v w l} h z => by
    have := h.cross ok
    rw [z, Ry.cross_self] at this
    grind
  have h1 := side_all ok h h'.vx (fun z => hn z.symm) (ne h')
  have h2 := side_all ok h' h.vx hn (ne h)
  have s1 := cross_swap (v := v) (w := w)
  have s2 := cross_swap (v := v') (w := w)
  have s3 := cross_swap (v := v) (w := v')
  grind
end Rg
namespace Rg
def nxL (V : List Ry) (v : Ry) : List Ry := V.filter fun x => decide (0 < v.cross x)
def pickN (f : Ry) (l : List Ry) : Ry := l.foldl (fun f x => if 0 < x.cross f then x else f) f
def nxt (V : List Ry) (v : Ry) : Ry := match nxL V v with
  | [] => v
  | f :: l => pickN f (f :: l)
theorem mem_nxL {V : List Ry} {v x : Ry} : x ∈ nxL V v ↔ x ∈ V ∧ 0 < v.cross x := by simp [nxL]
section
variable {C : List Ln} {V : List Ry} {v w : Ry} {l : Ln}
theorem pick_side (ok : OkC C) (h : Side C v w l) : ∀ (T : List Ry) (f : Ry), (∀ x ∈ f :: T, Vx C x ∧ 0 < v.cross x) → w ∈ f :: T → pickN f T = w
  | [], f, _, hw => by
    rw [List.mem_singleton.mp hw]
    rfl
  | x :: T, f, hT, hw => by
    show pickN (if 0 < x.cross f then x else f) T = w
    obtain ⟨fx, fc⟩ := hT f (by simp)
    obtain ⟨xx, xc⟩ := hT x (by simp)
    by_cases hfw : f = w
    · have : ¬ 0 < x.cross f := fun z => by
        rw [hfw] at z
        by_cases hxw : x = w
        · rw [hxw, Ry.cross_self] at z
          grind
        · have := side_near ok h xx xc hxw
          have := cross_swap (v := x) (w := w)
          grind
      rw [if_neg this]
      exact pick_side ok h T f (fun y hy => hT y (by rcases List.mem_cons.mp hy with rfl | hy <;> simp [*])) (by rw [hfw]; simp)
    · by_cases hxw : x = w
      · have := side_near ok h fx fc hfw
        rw [hxw, if_pos this]
        exact pick_side ok h T w (fun y hy => by
          rcases List.mem_cons.mp hy with rfl | hy
          · rw [← hxw]; exact ⟨xx, xc⟩
          · exact hT y (by simp [hy])) (by simp)
      · have hwT : w ∈ T := by
          rcases List.mem_cons.mp hw with z | z
          · exact absurd z.symm hfw
          · rcases List.mem_cons.mp z with z | z
            · exact absurd z.symm hxw
            · exact z
        by_cases hc : 0 < x.cross f
        · rw [if_pos hc]
          exact pick_side ok h T x (fun y hy => hT y (by rcases List.mem_cons.mp hy with rfl | hy <;> simp [*])) (by simp [hwT])
        · rw [if_neg hc]
          exact pick_side ok h T f (fun y hy => hT y (by rcases List.mem_cons.mp hy with rfl | hy <;> simp [*])) (by simp [hwT])
theorem nxt_side (ok : OkC C) (hV : ∀ x, x ∈ V ↔ Vx C x) (h : Side C v w l) : nxt V v = w ∧ nxL V v ≠ [] := by
  have hw : w ∈ nxL V v := mem_nxL.mpr ⟨(hV w).mpr h.wx, h.cross ok⟩
  have all : ∀ x ∈ nxL V v, Vx C x ∧ 0 < v.cross x := fun x hx => by
    obtain ⟨a, b⟩ := mem_nxL.mp hx
    exact ⟨(hV x).mp a, b⟩
  unfold nxt
  cases hl : nxL V v with
  | nil => rw [hl] at hw; simp at hw
  | cons f T =>
    rw [hl] at hw all
    exact ⟨pick_side ok h (f :: T) f (fun x hx => all x (by rcases List.mem_cons.mp hx with rfl | hx; simp; exact hx)) (by simp [List.mem_cons.mp hw]), by simp⟩
def itN (V : List Ry) (f : Ry) : Nat → Ry
  | 0 => f
  | i + 1 => nxt V (itN V f i)
theorem it_vx (ok : OkC C) (hV : ∀ x, x ∈ V ↔ Vx C x) {f : Ry} (hf : Vx C f) : ∀ i, Vx C (itN V f i) ∧ ∃ l, Side C (itN V f i) (itN V f (i + 1)) l
  | 0 => by
    obtain ⟨w, l, h⟩ := side_ex ok hf
    have e := (nxt_side ok hV h).1
    refine ⟨hf, l, ?_⟩
    show Side C f (nxt V f) l
    rw [e]
    exact h
  | i + 1 => by
    obtain ⟨_, l0, h0⟩ := it_vx ok hV hf i
    obtain ⟨w, l, h⟩ := side_ex ok h0.wx
    have e := (nxt_side ok hV h).1
    refine ⟨h0.wx, l, ?_⟩
    show Side C (itN V f (i + 1)) (nxt V (itN V f (i + 1))) l
    rw [e]
    exact h
end
theorem pigeon {A : Type} [DecidableEq A] : ∀ (n : Nat) (V : List A) (f : Nat → A), V.length ≤ n → (∀ i, f i ∈ V) → ∃ a b, a < b ∧ f a = f b
  | 0, V, f, hn, h => by
    have := h 0
    have hV : V = [] := by simpa using hn
    rw [hV] at this
    simp at this
  | n + 1, V, f, hn, h => by
    by_cases hc : ∃ b, 0 < b ∧ f 0 = f b
    · obtain ⟨b, h1, h2⟩ := hc
      exact ⟨0, b, h1, h2⟩
    · have hm := h 0
      obtain ⟨a, b, h1, h2⟩ := pigeon n (V.erase (f 0)) (fun i => f (i + 1)) (by rw [List.length_erase_of_mem hm]; omega) fun i => by
        have ne : f (i + 1) ≠ f 0 := fun z => hc ⟨i + 1, by omega, z.symm⟩
        exact (List.mem_erase_of_ne ne).mpr (h (i + 1))
      exact ⟨a + 1, b + 1, by omega, h2⟩
theorem nodup_le {A : Type} [DecidableEq A] : ∀ {l V : List A}, l.Nodup → (∀ x ∈ l, x ∈ V) → l.length ≤ V.length
  | [], _, _, _ => by simp
  | a :: l, V, hn, h => by
    obtain ⟨h1, h2⟩ := List.nodup_cons.mp hn
    have hm := h a (by simp)
    have := nodup_le (l := l) (V := V.erase a) h2 fun x hx => by
      have ne : x ≠ a := fun z => h1 (by rw [← z]; exact hx)
      exact (List.mem_erase_of_ne ne).mpr (h x (by simp [hx]))
    rw [List.length_erase_of_mem hm] at this
    have := List.length_pos_of_mem hm
    simp
    omega
theorem least_nat {P : Nat → Prop} (h : ∃ n, P n) : ∃ n, P n ∧ ∀ m, m < n → ¬ P m := by
  obtain ⟨n, hn⟩ := h
  induction n using Nat.strongRecOn with
  | ind n ih =>
    by_cases hc : ∃ m, m < n ∧ P m
    · obtain ⟨m, h1, h2⟩ := hc
      exact ih m h1 h2
    · exact ⟨n, hn, fun m h1 h2 => hc ⟨m, h1, h2⟩⟩
theorem plucker {x y z u : Ry} : x.cross z * y.cross u = x.cross y * z.cross u + y.cross z * x.cross u := by
  unfold Ry.cross; grind
theorem two_along {y z u : Ry} (hu : u ≠ ⟨0, 0⟩) (h1 : y.cross u = 0) (h2 : z.cross u = 0) : y.cross z = 0 := by
  unfold Ry.cross at *
  have e1 : (y.y * z.u - y.u * z.y) * u.y = 0 := by grind
  have e2 : (y.y * z.u - y.u * z.y) * u.u = 0 := by grind
  refine Classical.byContradiction fun hn => hu ?_
  have a := (Rat.mul_eq_zero.mp e1).resolve_left hn
  have b := (Rat.mul_eq_zero.mp e2).resolve_left hn
  exact Ry.ext' a b
theorem passes {f : Nat → Ry} {n : Nat} (hn : 0 < n) (per : ∀ i, f (i + n) = f i) (st : ∀ i, 0 < (f i).cross (f (i + 1))) {u : Ry} (hu : u ≠ ⟨0, 0⟩) : ∃ i, 0 ≤ (f i).cross u ∧ (f (i + 1)).cross u < 0 := by
  refine Classical.byContradiction fun hno => ?_
  have H : ∀ i, 0 ≤ (f i).cross u → 0 ≤ (f (i + 1)).cross u := fun i h => by
    refine Classical.byContradiction fun z => hno ⟨i, h, by grind⟩
  have perk : ∀ k i, f (i + n * k) = f i := fun k => by
    induction k with
    | zero => intro i; rfl
    | succ k ih => intro i; rw [Nat.mul_succ, ← Nat.add_assoc, per, ih]
  -- either all are above nought or all below
  have sign : (∀ i, 0 < (f (i + 1)).cross u) ∨ (∀ i, (f (i + 1)).cross u < 0) := by
    by_cases hc : ∃ i, 0 ≤ (f i).cross u
    · obtain ⟨i0, h0⟩ := hc
      have up : ∀ k, 0 ≤ (f (i0 + k)).cross u := fun k => by
        induction k with
        | zero => exact h0
        | succ k ih => exact H _ ih
      have all : ∀ i, 0 ≤ (f i).cross u := fun i => by
        have hle : i0 ≤ i + n * i0 := by
          have : 1 * i0 ≤ n * i0 := Nat.mul_le_mul_right _ hn
          omega
        have := up (i + n * i0 - i0)
        rw [show i0 + (i + n * i0 - i0) = i + n * i0 by omega, perk] at this
        exact this
      refine .inl fun i => ?_
      refine Classical.byContradiction fun z => ?_
      have z0 : (f (i + 1)).cross u = 0 := by have := all (i + 1); grind
      have e := plucker (x := f i) (y := f (i + 1)) (z := f (i + 2)) (u := u)
      rw [z0] at e
      have p1 := mul_nn (Rat.le_of_lt (st i)) (all (i + 2))
      have p2 := mul_nn (Rat.le_of_lt (st (i + 1))) (all i)
      have q1 : (f i).cross (f (i + 1)) * (f (i + 2)).cross u = 0 := by grind
      have z2 := (Rat.mul_eq_zero.mp q1).resolve_left (by have := st i; grind)
      have := two_along hu z0 z2
      have := st (i + 1)
      grind
    · exact .inr fun i => Classical.byContradiction fun z => hc ⟨i + 1, by grind⟩
  have chain : ∀ k, 0 < (f 1).cross (f (k + 2)) := fun k => by
    induction k with
    | zero => exact st 1
    | succ k ih =>
      have e := plucker (x := f 1) (y := f (k + 2)) (z := f (k + 3)) (u := u)
      have s := st (k + 2)
      show 0 < (f 1).cross (f (k + 3))
      refine Classical.byContradiction fun hz => ?_
      rcases sign with sg | sg
      · have p1 := mul_pp ih (sg (k + 2))
        have p2 := mul_pp s (sg 0)
        have p3 := mul_nn (show 0 ≤ -(f 1).cross (f (k + 3)) by grind) (Rat.le_of_lt (sg (k + 1)))
        simp only [Nat.zero_add] at p2
        grind
      · have p1 := mul_pp ih (show 0 < -(f (k + 3)).cross u by have := sg (k + 2); grind)
        have p2 := mul_pp s (show 0 < -(f 1).cross u by have := sg 0; grind)
        have p3 := mul_nn (show 0 ≤ -(f 1).cross (f (k + 3)) by grind) (show 0 ≤ -(f (k + 2)).cross u by have := sg (k + 1); grind)
        grind
  cases n with
  | zero => omega
  | succ n =>
    cases n with
    | zero =>
      have a := st 0
      have := per 0
      simp only [Nat.zero_add] at this a
      rw [this, Ry.cross_self] at a
      grind
    | succ n =>
      have a := chain n.succ
      have := per 1
      rw [show n.succ + 2 = 1 + (n + 1 + 1) by omega, this, Ry.cross_self] at a
      grind
section
variable {C : List Ln} {V : List Ry}
theorem vx_ne (ok : OkC C) {v : Ry} (h : Vx C v) : v ≠ ⟨0, 0⟩ := fun z => by
  obtain ⟨l, hl, _, _, _, t, _⟩ := h.two
  have := ok.pos l hl
  rw [z] at t
  unfold worth at t
  grind
theorem around (ok : OkC C) (hV : ∀ x, x ∈ V ↔ Vx C x) (hN : V.Nodup) {f : Ry} (hf : f ∈ V) : itN V f V.length = f ∧ ((List.range V.length).map (itN V f)).Nodup ∧ (∀ x, x ∈ (List.range V.length).map (itN V f) ↔ x ∈ V) ∧ (∀ i, itN V f (i + V.length) = itN V f i) := by
  have hx := it_vx ok hV ((hV f).mp hf)
  have mem : ∀ i, itN V f i ∈ V := fun i => (hV _).mpr (hx i).1
  have inj : ∀ k a b, itN V f (a + k) = itN V f (b + k) → itN V f a = itN V f b := fun k => by
    induction k with
    | zero => intro a b h; exact h
    | succ k ih =>
      intro a b h
      refine ih a b ?_
      obtain ⟨l, h1⟩ := (hx (a + k)).2
      obtain ⟨l', h2⟩ := (hx (b + k)).2
      have : itN V f (a + k + 1) = itN V f (b + k + 1) := h
      rw [this] at h1
      exact side_inj ok h1 h2
  obtain ⟨a, b, hab, e⟩ := pigeon _ V (itN V f) (Nat.le_refl _) mem
  have e0 : itN V f (b - a) = itN V f 0 := (inj a 0 (b - a) (by rw [Nat.zero_add, show b - a + a = b by omega]; exact e)).symm
  obtain ⟨n, ⟨n0, n1⟩, nmin⟩ := least_nat (P := fun n => 0 < n ∧ itN V f n = itN V f 0) ⟨b - a, by omega, e0⟩
  have per : ∀ i, itN V f (i + n) = itN V f i := fun i => by
    induction i with
    | zero => rw [Nat.zero_add]; exact n1
    | succ i ih =>
      rw [show i + 1 + n = (i + n) + 1 by omega]
      show nxt V (itN V f (i + n)) = nxt V (itN V f i)
      rw [ih]
  have dist : ∀ i j, i < j → j < n → itN V f i ≠ itN V f j := fun i j h1 h2 z => by
    have := inj i 0 (j - i) (by rw [Nat.zero_add, show j - i + i = j by omega]; exact z)
    exact nmin (j - i) (by omega) ⟨by omega, this.symm⟩
  have nod : ∀ k, k ≤ n → ((List.range k).map (itN V f)).Nodup := fun k => by
    induction k with
    | zero => intro _; simp
    | succ k ih =>
      intro hk
      rw [List.range_succ, List.map_append]
      refine List.nodup_append.mpr ⟨ih (by omega), by simp, fun x hx y hy z => ?_⟩
      obtain ⟨i, hi, rfl⟩ := List.mem_map.mp hx
      simp at hy
      rw [List.mem_range] at hi
      exact dist i k hi (by omega) (z.trans hy)
  have st : ∀ i, 0 < (itN V f i).cross (itN V f (i + 1)) := fun i => by
    obtain ⟨l, h⟩ := (hx i).2
    exact h.cross ok
  have red : ∀ i, ∃ j, j < n ∧ itN V f j = itN V f i := fun i => by
    induction i with
    | zero => exact ⟨0, n0, rfl⟩
    | succ i ih =>
      obtain ⟨j, hj, e⟩ := ih
      by_cases hjn : j + 1 < n
      · exact ⟨j + 1, hjn, by show nxt V _ = nxt V _; rw [e]⟩
      · refine ⟨0, n0, ?_⟩
        have : itN V f (i + 1) = itN V f (j + 1) := by show nxt V _ = nxt V _; rw [e]
        rw [this, show j + 1 = n by omega, n1]
  have cov : ∀ x, x ∈ V → x ∈ (List.range n).map (itN V f) := fun x hxV => by
    have hxx := (hV x).mp hxV
    obtain ⟨i, h1, h2⟩ := passes n0 per st (vx_ne ok hxx)
    obtain ⟨l, h⟩ := (hx i).2
    have s1 := cross_swap (v := x) (w := itN V f (i + 1))
    have : x = itN V f i ∨ x = itN V f (i + 1) := sector ok h hxx (by grind) h1
    rcases this with z | z
    · obtain ⟨j, hj, e⟩ := red i
      exact List.mem_map.mpr ⟨j, List.mem_range.mpr hj, by rw [e, z]⟩
    · obtain ⟨j, hj, e⟩ := red (i + 1)
      exact List.mem_map.mpr ⟨j, List.mem_range.mpr hj, by rw [e, z]⟩
  have l1 := nodup_le (nod n (Nat.le_refl _)) (fun x hx => by obtain ⟨i, _, rfl⟩ := List.mem_map.mp hx; exact mem i)
  have l2 := nodup_le hN cov
  simp at l1 l2
  have hn : n = V.length := by omega
  subst hn
  refine ⟨n1, nod _ (Nat.le_refl _), fun x => ⟨fun h => ?_, cov x⟩, per⟩
  obtain ⟨i, _, rfl⟩ := List.mem_map.mp h
  exact mem i
end
end Rg
namespace Rg
def dot (c x : Ry) : Rat := c.y * x.y + c.u * x.u
section
variable {C : List Ln} {V : List Ry} {v w x : Ry} {l m : Ln}
structure Cyc (C : List Ln) (f : Nat → Ry) (n : Nat) : Prop where
  pos : 0 < n
  per : ∀ i, f (i + n) = f i
  side : ∀ i, ∃ l, Side C (f i) (f (i + 1)) l
theorem Cyc.mod {f : Nat → Ry} {n : Nat} (h : Cyc C f n) : ∀ i, f (i % n) = f i ∧ f (i % n + 1) = f (i + 1) := fun i => by
  have perk : ∀ k i, f (i + n * k) = f i := fun k => by
    induction k with
    | zero => intro i; rfl
    | succ k ih => intro i; rw [Nat.mul_succ, ← Nat.add_assoc, h.per, ih]
  have e := Nat.mod_add_div i n
  have a := perk (i / n) (i % n)
  have b := perk (i / n) (i % n + 1)
  rw [e] at a
  rw [show i % n + 1 + n * (i / n) = i + 1 by omega] at b
  exact ⟨a.symm, b.symm⟩
end
end Rg
namespace Rg
structure OkL (L : List Ln) : Prop where
  pos : ∀ l ∈ L, 0 < l.r
  nz : ∀ l ∈ L, l.p ≠ 0 ∨ l.q ≠ 0
def letsB (L : List Ln) (v : Ry) : Bool := L.all fun l => okL l v
theorem worth_nL {l : Ln} {v : Ry} : worth (nL l) v = -worth l v := by unfold worth nL; grind
theorem mem_both {L : List Ln} {l : Ln} : l ∈ both L ↔ l ∈ L ∨ ∃ m ∈ L, l = nL m := by
  unfold both
  rw [List.mem_append, List.mem_map]
  constructor
  · rintro (h | ⟨m, hm, rfl⟩)
    · exact .inl h
    · exact .inr ⟨m, hm, rfl⟩
  · rintro (h | ⟨m, hm, rfl⟩)
    · exact .inl h
    · exact .inr ⟨m, hm, rfl⟩
theorem lt_abs9 {r x : Rat} : r < x.abs ↔ r < x ∨ r < -x := by
  unfold Rat.abs
  split
  · constructor
    · exact fun h => .inl h
    · rintro (h | h)
      · exact h
      · grind
  · constructor
    · exact fun h => .inr h
    · rintro (h | h)
      · grind
      · exact h
theorem okL_iff {l : Ln} {v : Ry} : okL l v = true ↔ worth l v ≤ l.r ∧ -l.r ≤ worth l v := by
  unfold okL
  simp only [Bool.not_eq_true', decide_eq_false_iff_not, lt_abs9]
  constructor <;> intro h <;> grind
theorem lets_iff {L : List Ln} {v : Ry} : letsB L v = true ↔ In (both L) v := by
  unfold letsB In
  rw [List.all_eq_true]
  constructor
  · intro h l hl
    rcases mem_both.mp hl with hl | ⟨m, hm, rfl⟩
    · exact (okL_iff.mp (h l hl)).1
    · have := (okL_iff.mp (h m hm)).2
      rw [worth_nL]
      show _ ≤ m.r
      grind
  · intro h l hl
    refine okL_iff.mpr ⟨h l (mem_both.mpr (.inl hl)), ?_⟩
    have := h (nL l) (mem_both.mpr (.inr ⟨l, hl, rfl⟩))
    rw [worth_nL] at this
    have e : (nL l).r = l.r := rfl
    grind
def byTwo (l m : Ln) (a b : Rat) : Ry := ⟨(a * m.q - b * l.q) / lcr l m, (b * l.p - a * m.p) / lcr l m⟩
theorem byTwo_ok {l m : Ln} {a b : Rat} (h : lcr l m ≠ 0) : worth l (byTwo l m a b) = a ∧ worth m (byTwo l m a b) = b := by
  have e1 : (a * m.q - b * l.q) / lcr l m * lcr l m = _ := Rat.div_mul_cancel h
  have e2 : (b * l.p - a * m.p) / lcr l m * lcr l m = _ := Rat.div_mul_cancel h
  have fin : ∀ X Y : Rat, X * lcr l m = Y * lcr l m → X = Y := fun X Y hh => by
    have : (X - Y) * lcr l m = 0 := by grind
    have := (Rat.mul_eq_zero.mp this).resolve_right h
    grind
  unfold worth byTwo
  dsimp only
  generalize (a * m.q - b * l.q) / lcr l m = A at *
  generalize (b * l.p - a * m.p) / lcr l m = B at *
  constructor
  · refine fin _ _ ?_
    have : (l.p * A + l.q * B) * lcr l m = l.p * (A * lcr l m) + l.q * (B * lcr l m) := by grind
    rw [this, e1, e2]
    unfold lcr
    grind
  · refine fin _ _ ?_
    have : (m.p * A + m.q * B) * lcr l m = m.p * (A * lcr l m) + m.q * (B * lcr l m) := by grind
    rw [this, e1, e2]
    unfold lcr
    grind
def twoR (l m : Ln) : List Ry := [byTwo l m l.r m.r, byTwo l m l.r (-m.r)]
def addMet (L : List Ln) (found : List Ry) (l m : Ln) : List Ry := if lcr l m ≠ 0 then found ++ (twoR l m).filter (fun x => !found.contains x && letsB L x) else found
def metIn (L : List Ln) (l : Ln) (found : List Ry) (T : List Ln) : List Ry := T.foldl (fun f m => addMet L f l m) found
def metTo (L : List Ln) : Nat → List Ry
  | 0 => []
  | k + 1 => match L[k]? with
    | some l => metIn L l (metTo L k) (L.take k)
    | none => metTo L k
def opp (v : Ry) : Ry := ⟨-v.y, -v.u⟩
def met (L : List Ln) : List Ry := metTo L L.length ++ ((metTo L L.length).filter fun x => !(metTo L L.length).contains (opp x)).map opp
theorem opp_opp {v : Ry} : opp (opp v) = v := by apply Ry.ext' <;> simp [opp]
theorem worth_opp {l : Ln} {v : Ry} : worth l (opp v) = -worth l v := by unfold worth opp; grind
theorem mem_addMet {L : List Ln} {F : List Ry} {l m : Ln} {x : Ry} : x ∈ addMet L F l m ↔ x ∈ F ∨ (lcr l m ≠ 0 ∧ x ∈ twoR l m ∧ letsB L x = true) := by
  unfold addMet
  split
  · rename_i h
    rw [List.mem_append, List.mem_filter]
    constructor
    · rintro (h1 | ⟨h1, h2⟩)
      · exact .inl h1
      · simp at h2
        exact .inr ⟨h, h1, h2.2⟩
    · rintro (h1 | ⟨_, h1, h2⟩)
      · exact .inl h1
      · by_cases hF : x ∈ F
        · exact .inl hF
        · exact .inr ⟨h1, by simp [hF, h2]⟩
  · rename_i h
    constructor
    · exact .inl
    · rintro (h1 | ⟨h1, _⟩)
      · exact h1
      · exact absurd h1 h
theorem two_ne {l m : Ln} (h : lcr l m ≠ 0) (hm : 0 < m.r) : byTwo l m l.r m.r ≠ byTwo l m l.r (-m.r) := fun z => by
  have a := (byTwo_ok (a := l.r) (b := m.r) h).2
  have b := (byTwo_ok (a := l.r) (b := -m.r) h).2
  rw [z] at a
  grind
theorem nodup_addMet {L : List Ln} {F : List Ry} {l m : Ln} (hm : 0 < m.r) (hF : F.Nodup) : (addMet L F l m).Nodup := by
  unfold addMet
  split
  · rename_i h
    refine List.nodup_append.mpr ⟨hF, List.Pairwise.filter _ ?_, fun x hx y hy z => ?_⟩
    · show (twoR l m).Nodup
      unfold twoR
      simp
      exact two_ne h hm
    · rw [List.mem_filter] at hy
      simp at hy
      exact hy.2.1 (z ▸ hx)
  · exact hF
theorem mem_metIn {L : List Ln} {l : Ln} {x : Ry} : ∀ {T : List Ln} {F : List Ry}, x ∈ metIn L l F T ↔ x ∈ F ∨ ∃ m ∈ T, lcr l m ≠ 0 ∧ x ∈ twoR l m ∧ letsB L x = true
  | [], F => by simp [metIn]
  | m :: T, F => by
    show x ∈ metIn L l (addMet L F l m) T ↔ _
    rw [mem_metIn, mem_addMet]
    simp only [List.mem_cons, exists_eq_or_imp, or_assoc]
theorem nodup_metIn {L : List Ln} {l : Ln} : ∀ {T : List Ln} {F : List Ry}, (∀ m ∈ T, 0 < m.r) → F.Nodup → (metIn L l F T).Nodup
  | [], F, _, h => h
  | m :: T, F, hT, h => nodup_metIn (T := T) (fun y hy => hT y (by simp [hy])) (nodup_addMet (hT m (by simp)) h)
theorem mem_metTo {L : List Ln} {x : Ry} : ∀ {k : Nat}, x ∈ metTo L k ↔ ∃ i j l m, i < k ∧ j < i ∧ L[i]? = some l ∧ L[j]? = some m ∧ lcr l m ≠ 0 ∧ x ∈ twoR l m ∧ letsB L x = true
  | 0 => by simp [metTo]
  | k + 1 => by
    have mt : ∀ m, m ∈ L.take k ↔ ∃ j, j < k ∧ L[j]? = some m := fun m => by
      rw [List.mem_iff_getElem?]
      constructor
      · rintro ⟨j, hj⟩
        rw [List.getElem?_take] at hj
        split at hj
        · rename_i h; exact ⟨j, h, hj⟩
        · cases hj
      · rintro ⟨j, h, hj⟩
        exact ⟨j, by rw [List.getElem?_take, if_pos h]; exact hj⟩
    unfold metTo
    cases hk : L[k]? with
    | none =>
      dsimp only
      rw [mem_metTo]
      constructor
      · rintro ⟨i, j, l, m, h1, h2⟩
        exact ⟨i, j, l, m, by omega, h2⟩
      · rintro ⟨i, j, l, m, h1, h2, h3, h4⟩
        refine ⟨i, j, l, m, ?_, h2, h3, h4⟩
        rcases Nat.lt_or_eq_of_le (Nat.lt_succ_iff.mp h1) with z | z
        · exact z
        · rw [z, hk] at h3; cases h3
    | some l =>
      dsimp only
      rw [mem_metIn, mem_metTo]
      constructor
      · rintro (⟨i, j, l, m, h1, h2⟩ | ⟨m, hm, h⟩)
        · exact ⟨i, j, l, m, by omega, h2⟩
        · obtain ⟨j, hj, hj2⟩ := (mt m).mp hm
          exact ⟨k, j, l, m, by omega, hj, hk, hj2, h⟩
      · rintro ⟨i, j, l', m, h1, h2, h3, h4, h5⟩
        rcases Nat.lt_or_eq_of_le (Nat.lt_succ_iff.mp h1) with z | z
        · exact .inl ⟨i, j, l', m, z, h2, h3, h4, h5⟩
        · subst z
          rw [hk] at h3
          cases h3
          exact .inr ⟨m, (mt m).mpr ⟨j, h2, h4⟩, h5⟩
theorem nodup_metTo {L : List Ln} (ok : OkL L) : ∀ {k : Nat}, (metTo L k).Nodup
  | 0 => by simp [metTo]
  | k + 1 => by
    unfold metTo
    cases hk : L[k]? with
    | none => exact nodup_metTo ok
    | some l => exact nodup_metIn (fun m hm => ok.pos m (List.mem_of_mem_take hm)) (nodup_metTo ok)
theorem vx_opp {L : List Ln} {v : Ry} (h : Vx (both L) v) : Vx (both L) (opp v) := by
  have nn : ∀ l ∈ both L, nL l ∈ both L := fun l hl => by
    rcases mem_both.mp hl with hl | ⟨m, hm, rfl⟩
    · exact mem_both.mpr (.inr ⟨l, hl, rfl⟩)
    · refine mem_both.mpr (.inl ?_)
      have : nL (nL m) = m := by cases m; simp [nL]
      rw [this]
      exact hm
  obtain ⟨l, hl, m, hm, hc, h1, h2⟩ := h.two
  refine ⟨fun k hk => ?_, nL l, nn l hl, nL m, nn m hm, ?_, ?_, ?_⟩
  · have := h.inn (nL k) (nn k hk)
    rw [worth_nL] at this
    rw [worth_opp]
    exact this
  · have : lcr (nL l) (nL m) = lcr l m := by unfold lcr nL; grind
    rw [this]; exact hc
  · rw [worth_nL, worth_opp, Rat.neg_neg]; exact h1
  · rw [worth_nL, worth_opp, Rat.neg_neg]; exact h2
theorem mem_met {L : List Ln} (ok : OkL L) (x : Ry) : x ∈ met L ↔ Vx (both L) x := by
  have one : ∀ x, x ∈ metTo L L.length → Vx (both L) x := fun x hx => by
    obtain ⟨i, j, l, m, h1, h2, h3, h4, hc, hx2, hl⟩ := mem_metTo.mp hx
    have lm := List.mem_of_getElem? h3
    have mm := List.mem_of_getElem? h4
    unfold twoR at hx2
    rcases List.mem_cons.mp hx2 with z | z
    · obtain ⟨a, b⟩ := byTwo_ok (a := l.r) (b := m.r) hc
      rw [← z] at a b
      exact ⟨lets_iff.mp hl, l, mem_both.mpr (.inl lm), m, mem_both.mpr (.inl mm), hc, a, b⟩
    · rw [List.mem_singleton] at z
      obtain ⟨a, b⟩ := byTwo_ok (a := l.r) (b := -m.r) hc
      rw [← z] at a b
      refine ⟨lets_iff.mp hl, l, mem_both.mpr (.inl lm), nL m, mem_both.mpr (.inr ⟨m, mm, rfl⟩), ?_, a, ?_⟩
      · have : lcr l (nL m) = -lcr l m := by unfold lcr nL; grind
        rw [this]
        grind
      · rw [worth_nL, b]
        show - -m.r = m.r
        grind
  have back : ∀ x, In (both L) x → ∀ i j l m, j < i → L[i]? = some l → L[j]? = some m → lcr l m ≠ 0 → worth l x = l.r → (worth m x = m.r ∨ worth m x = -m.r) → x ∈ metTo L L.length := fun x hx i j l m h2 h3 h4 hc a b => by
    refine mem_metTo.mpr ⟨i, j, l, m, (List.getElem?_eq_some_iff.mp h3).1, h2, h3, h4, hc, ?_, lets_iff.mpr hx⟩
    unfold twoR
    rcases b with b | b
    · obtain ⟨a2, b2⟩ := byTwo_ok (a := l.r) (b := m.r) hc
      rw [by_lines hc (a.trans a2.symm) (b.trans b2.symm)]
      simp
    · obtain ⟨a2, b2⟩ := byTwo_ok (a := l.r) (b := -m.r) hc
      rw [by_lines hc (a.trans a2.symm) (b.trans b2.symm)]
      simp
  constructor
  · intro hx
    unfold met at hx
    rcases List.mem_append.mp hx with hx | hx
    · exact one x hx
    · obtain ⟨y, hy, rfl⟩ := List.mem_map.mp hx
      exact vx_opp (one y (List.mem_filter.mp hy).1)
  · intro hx
    have final : ∀ y, y ∈ metTo L L.length → (x = y ∨ x = opp y) → x ∈ met L := fun y hy hxy => by
      unfold met
      rw [List.mem_append]
      rcases hxy with rfl | rfl
      · exact .inl hy
      · by_cases hc : opp y ∈ metTo L L.length
        · exact .inl hc
        · exact .inr (List.mem_map.mpr ⟨y, List.mem_filter.mpr ⟨hy, by simpa using hc⟩, rfl⟩)
    obtain ⟨l', hl', m', hm', hc', t1, t2⟩ := hx.two
    have sg : ∀ l' ∈ both L, worth l' x = l'.r → ∃ l ∈ L, (l' = l ∨ l' = nL l) ∧ (worth l x = l.r ∨ worth l x = -l.r) := fun l' h t => by
      rcases mem_both.mp h with h2 | ⟨l, h2, e⟩
      · exact ⟨l', h2, .inl rfl, .inl t⟩
      · refine ⟨l, h2, .inr e, .inr ?_⟩
        rw [e, worth_nL] at t
        have e : (nL l).r = l.r := rfl
        grind
    obtain ⟨l, hl, el, tl⟩ := sg l' hl' t1
    obtain ⟨m, hm, em, tm⟩ := sg m' hm' t2
    have hc : lcr l m ≠ 0 := fun z => hc' (by
      unfold lcr at z ⊢
      rcases el with e1 | e1 <;> rcases em with e2 | e2 <;> rw [e1, e2] <;> (try simp only [nL]) <;> grind)
    obtain ⟨i, hi⟩ := List.mem_iff_getElem?.mp hl
    obtain ⟨j, hj⟩ := List.mem_iff_getElem?.mp hm
    -- the later one is at its end with the plain sign, or the opposite ray is
    have go : ∀ i j l m, j < i → L[i]? = some l → L[j]? = some m → lcr l m ≠ 0 → (worth l x = l.r ∨ worth l x = -l.r) → (worth m x = m.r ∨ worth m x = -m.r) → x ∈ met L := fun i j l m h1 h2 h3 h4 h5 h6 => by
      rcases h5 with h5 | h5
      · exact final x (back x hx.inn i j l m h1 h2 h3 h4 h5 h6) (.inl rfl)
      · refine final (opp x) (back (opp x) (vx_opp hx).inn i j l m h1 h2 h3 h4 (by rw [worth_opp, h5, Rat.neg_neg]) ?_) (.inr opp_opp.symm)
        rw [worth_opp]
        rcases h6 with h6 | h6
        · exact .inr (by rw [h6])
        · exact .inl (by rw [h6, Rat.neg_neg])
    rcases Nat.lt_trichotomy i j with h | h | h
    · exact go j i m l h hj hi (fun z => hc (by unfold lcr at *; grind)) tm tl
    · subst h
      rw [hi] at hj
      cases hj
      exact absurd (show lcr l l = 0 by unfold lcr; grind) hc
    · exact go i j l m h hi hj hc tl tm
theorem nodup_met {L : List Ln} (ok : OkL L) : (met L).Nodup := by
  unfold met
  refine List.nodup_append.mpr ⟨nodup_metTo ok, ?_, fun x hx y hy z => ?_⟩
  · have h := List.Pairwise.filter (fun x => !(metTo L L.length).contains (opp x)) (nodup_metTo ok (k := L.length))
    refine List.Pairwise.map opp (fun a b hab z => hab ?_) h
    have := congrArg opp z
    rwa [opp_opp, opp_opp] at this
  · obtain ⟨w, hw, rfl⟩ := List.mem_map.mp hy
    rw [List.mem_filter] at hw
    have := hw.2
    simp at this
    exact this (z ▸ hx)
end Rg
namespace Rg
def isLeast (a b : Ry) : Bool := if a.y ≠ b.y then decide (a.y < b.y) else decide (a.u < b.u)
def pickL (f : Ry) (l : List Ry) : Ry := l.foldl (fun f x => if isLeast x f then x else f) f
def leastR : List Ry → Ry
  | [] => ⟨0, 0⟩
  | f :: l => pickL f (f :: l)
theorem isLeast_irr {a : Ry} : isLeast a a = false := by simp [isLeast, Rat.lt_irrefl]
theorem isLeast_tr {a b c : Ry} (h1 : isLeast a b = false) (h2 : isLeast b c = false) : isLeast a c = false := by
  unfold isLeast at *
  split at h1 <;> split at h2 <;> split <;> simp at * <;> grind
theorem isLeast_anti {a b : Ry} (h1 : isLeast a b = false) (h2 : isLeast b a = false) : a = b := by
  unfold isLeast at *
  apply Ry.ext' <;> split at h1 <;> split at h2 <;> simp at * <;> grind
theorem isLeast_as {a b : Ry} (h : isLeast a b = true) : isLeast b a = false := by
  unfold isLeast at *
  split at h <;> split <;> simp at * <;> grind
theorem pickL_ok : ∀ (l : List Ry) (f : Ry), (pickL f l = f ∨ pickL f l ∈ l) ∧ isLeast f (pickL f l) = false ∧ ∀ x ∈ l, isLeast x (pickL f l) = false
  | [], f => ⟨.inl rfl, isLeast_irr, by simp⟩
  | x :: l, f => by
    obtain ⟨h1, h2, h3⟩ := pickL_ok l (if isLeast x f then x else f)
    have e : pickL f (x :: l) = pickL (if isLeast x f then x else f) l := rfl
    rw [e]
    by_cases hc : isLeast x f = true
    · rw [if_pos hc] at h1 h2 h3 ⊢
      refine ⟨.inr ?_, isLeast_tr (isLeast_as hc) h2, fun y hy => ?_⟩
      · rcases h1 with h | h
        · rw [h]; simp
        · simp [h]
      · rcases List.mem_cons.mp hy with rfl | hy
        · exact h2
        · exact h3 y hy
    · rw [if_neg hc] at h1 h2 h3 ⊢
      refine ⟨?_, h2, fun y hy => ?_⟩
      · rcases h1 with h | h
        · exact .inl h
        · exact .inr (by simp [h])
      · rcases List.mem_cons.mp hy with rfl | hy
        · exact isLeast_tr (by simpa using hc) h2
        · exact h3 y hy
theorem leastR_ok {V : List Ry} (h : V ≠ []) : leastR V ∈ V ∧ ∀ x ∈ V, isLeast x (leastR V) = false := by
  match V, h with
  | f :: l, _ =>
    obtain ⟨h1, h2, h3⟩ := pickL_ok (f :: l) f
    refine ⟨?_, h3⟩
    rcases h1 with h | h
    · show pickL f (f :: l) ∈ _
      rw [h]; simp
    · exact h
section
variable {L L' : List Ln}
theorem okC_of (ok : OkL L) {l0 m0 : Ln} (hl : l0 ∈ L) (hm : m0 ∈ L) (hc : lcr l0 m0 ≠ 0) : OkC (both L) := by
  refine ⟨fun l h => ?_, fun d hd => ?_⟩
  · rcases mem_both.mp h with h2 | ⟨m, h2, e⟩
    · exact ok.pos l h2
    · rw [e]
      exact ok.pos m h2
  · have : worth l0 d ≠ 0 ∨ worth m0 d ≠ 0 := by
      refine Classical.byContradiction fun hn => hd ?_
      have a : worth l0 d = 0 := Classical.byContradiction fun z => hn (.inl z)
      have b : worth m0 d = 0 := Classical.byContradiction fun z => hn (.inr z)
      have z0 : ∀ l : Ln, worth l ⟨0, 0⟩ = 0 := fun l => by unfold worth; grind
      exact by_lines hc (a.trans (z0 l0).symm) (b.trans (z0 m0).symm)
    have go : ∀ l ∈ L, worth l d ≠ 0 → ∃ l ∈ both L, 0 < worth l d := fun l hl hne => by
      by_cases hp : 0 < worth l d
      · exact ⟨l, mem_both.mpr (.inl hl), hp⟩
      · exact ⟨nL l, mem_both.mpr (.inr ⟨l, hl, rfl⟩), by rw [worth_nL]; grind⟩
    rcases this with h | h
    · exact go l0 hl h
    · exact go m0 hm h
theorem met_okC (ok : OkL L) (h : met L ≠ []) : OkC (both L) := by
  obtain ⟨x, hx⟩ := List.exists_mem_of_ne_nil _ h
  have hv := (mem_met ok x).mp hx
  obtain ⟨l, hl, m, hm, hc, _⟩ := hv.two
  have base : ∀ l ∈ both L, ∃ m ∈ L, l = m ∨ l = nL m := fun l hl => by
    rcases mem_both.mp hl with h | ⟨m, h, e⟩
    · exact ⟨l, h, .inl rfl⟩
    · exact ⟨m, h, .inr e⟩
  obtain ⟨l0, h0, e0⟩ := base l hl
  obtain ⟨m0, h1, e1⟩ := base m hm
  refine okC_of ok h0 h1 fun z => hc ?_
  unfold lcr at z ⊢
  rcases e0 with e0 | e0 <;> rcases e1 with e1 | e1 <;> rw [e0, e1] <;> (try simp only [nL]) <;> grind
theorem crn_cyc (ok : OkL L) (h : met L ≠ []) : Cyc (both L) (itN (met L) (leastR (met L))) (met L).length := by
  have oc := met_okC ok h
  have hl := (leastR_ok h).1
  obtain ⟨_, _, _, per⟩ := around oc (mem_met ok) (nodup_met ok) hl
  exact ⟨List.length_pos_iff.mpr h, per, fun i => (it_vx oc (mem_met ok) ((mem_met ok _).mp hl) i).2⟩
def crL (c : Ry) (m : Ln) : Rat := c.y * m.q - c.u * m.p
def shTwo (l m : Ln) (i j : Nat) (c : Ry) : List (Nat × Rat) := [(i, crL c m / lcr l m), (j, (l.p * c.u - l.q * c.y) / lcr l m)].filter fun x => decide (x.2 ≠ 0)
def shOne (l : Ln) (j : Nat) (c : Ry) : List (Nat × Rat) := if l.p ≠ 0 then [(j, c.y / l.p)] else [(j, c.u / l.q)]
inductive Sh (L : List Ln) (c : Ry) : List (Nat × Rat) → Prop
  | one {j : Nat} {l : Ln} : L[j]? = some l → crL c l = 0 → Sh L c (shOne l j c)
  | two {i j : Nat} {l m : Ln} : i < j → L[i]? = some l → L[j]? = some m → lcr l m ≠ 0 → Sh L c (shTwo l m i j c)
end
end Rg
section
set_option exponentiation.threshold 10000
namespace Rg
open PySem L2
inductive Pt where
  | gap (g : Rat) | glass (p : Rat) | stop (r : Rat)
deriving DecidableEq
namespace Pt
def word : Pt → Str
  | gap _ => "gap" | glass _ => "glass" | stop _ => "stop"
def num : Pt → Rat
  | gap g => g | glass p => p | stop r => r
def tab : Pt → T4
  | gap g => ⟨1, g, 0, 1⟩ | glass p => ⟨1, 0, -p, 1⟩ | stop _ => T4.one
def ok : Pt → Prop
  | gap g => 0 ≤ g | glass _ => True | stop r => 0 < r
end Pt
def eP (p : Pt) : D := .tup [.str p.word, eQ p.num]
def pP (p : Pt) : PyData := .tuple [.str p.word, pQ p.num]
@[simp] theorem ok_gap : PyData.strOk ("gap" : Str) = true := by decide +kernel
@[simp] theorem ok_glass : PyData.strOk ("glass" : Str) = true := by decide +kernel
@[simp] theorem ok_stop : PyData.strOk ("stop" : Str) = true := by decide +kernel
@[simp] theorem ne1 : (("gap" : Str) = "glass") = False := by simp only [eq_iff_iff, iff_false]; decide +kernel
@[simp] theorem ne2 : (("gap" : Str) = "stop") = False := by simp only [eq_iff_iff, iff_false]; decide +kernel
@[simp] theorem ne3 : (("glass" : Str) = "gap") = False := by simp only [eq_iff_iff, iff_false]; decide +kernel
@[simp] theorem ne4 : (("glass" : Str) = "stop") = False := by simp only [eq_iff_iff, iff_false]; decide +kernel
@[simp] theorem ne5 : (("stop" : Str) = "gap") = False := by simp only [eq_iff_iff, iff_false]; decide +kernel
@[simp] theorem ne6 : (("stop" : Str) = "glass") = False := by simp only [eq_iff_iff, iff_false]; decide +kernel
theorem word_ok (p : Pt) : PyData.strOk p.word = true := by
  cases p
  · exact ok_gap
  · exact ok_glass
  · exact ok_stop
theorem word_num {p q : Pt} (h : p.word = q.word) (h' : p.num = q.num) : p = q := by
  cases p <;> cases q <;> simp [Pt.word, Pt.num] at h h' ⊢ <;> exact h'
section
variable {S : Store} {N n k : Nat} {p q : Pt} {P : D → Store → Prop} {r : Rat}
@[simp] theorem eP_fr : (eP p).fresh N = none := by unfold eP; rw [fr_tup]; simp only [fr_cons, fr_nil, eQ_fr, fr_str]; rfl
@[simp] theorem eP_un : (eP p).under N = true := by unfold eP; rw [un_tup]; simp only [un_cons, un_nil, eQ_un, un_str]; rfl
@[simp] theorem eP_on : (eP p).only N n = true := by unfold eP; rw [on_tup]; simp only [on_cons, on_nil, eQ_on, on_str]; rfl
@[simp] theorem eP_sb : (eP p).subst N = eP p := by unfold eP; rw [sb_tup]; simp only [sb_cons, sb_nil, eQ_sb, sb_str]
@[simp] theorem eP_ty : tyOf S (eP p) = some .tup := rfl
@[simp] theorem eP_isNon : (eP p).isNon = false := rfl
@[simp] theorem eP_i0 : Rok (fIx (eP p) (.int 0) S) P ↔ P (.str p.word) S := by unfold eP; rw [rok_ixT]; simp
@[simp] theorem eP_i1 : Rok (fIx (eP p) (.int 1) S) P ↔ P (eQ p.num) S := by unfold eP; rw [rok_ixT]; simp
@[simp] theorem eP_len : Rok (fLen [eP p] S) P ↔ P (.int 2) S := by unfold eP; rw [rok_lenT]; rfl
@[simp] theorem eP_gap : D.tup [.str ("gap" : Str), eQ r] = eP (.gap r) := rfl
@[simp] theorem eP_glass : D.tup [.str ("glass" : Str), eQ r] = eP (.glass r) := rfl
@[simp] theorem eP_stop : D.tup [.str ("stop" : Str), eQ r] = eP (.stop r) := rfl
@[simp] theorem gT_eP {f : List D → Env → Store → Option Env} {env : Env} : gT 2 f (eP p) env S = f [.str p.word, eQ p.num] env S := rfl
theorem toP_eP : toP S (k + 2) (eP p) = some (pP p) := by
  unfold eP pP
  rw [toP_tup]
  simp only [allP_cons, allP_nil, toP_eQ, toP_str, word_ok, if_true]
  rfl
@[simp] theorem toP_eP60 : toP S 60 (eP p) = some (pP p) := toP_eP
@[simp] theorem toP_eP59 : toP S 59 (eP p) = some (pP p) := toP_eP
@[simp] theorem ev_P : PyData.eqv (pP p) (pP q) = decide (p = q) := by
  unfold pP
  rw [ev_tup, ev_all1, ev_all1, ev_all0, ev_str, ev_Q, Bool.eq_iff_iff]
  simp
  exact ⟨fun ⟨a, b⟩ => word_num a b, fun h => by subst h; exact ⟨rfl, rfl⟩⟩
end
theorem allP_map {A : Type} {f : D → Option PyData} {l : List A} {enc : A → D} {pen : A → PyData} (h : ∀ a ∈ l, f (enc a) = some (pen a)) : allP f (l.map enc) = some (l.map pen) := by
  induction l with
  | nil => rfl
  | cons a l ih =>
    rw [List.map_cons, allP_cons, h a (by simp), ih fun x hx => h x (by simp [hx])]
    rfl
theorem ev_map {A : Type} [DecidableEq A] {pen : A → PyData} (hp : ∀ a b, PyData.eqv (pen a) (pen b) = decide (a = b)) : ∀ {l m : List A}, PyData.eqvAll (l.map pen) (m.map pen) = decide (l = m)
  | [], [] => by simp
  | [], b :: m => by simp
  | a :: l, [] => by simp
  | a :: l, b :: m => by
    rw [List.map_cons, List.map_cons, ev_all1, hp, ev_map hp, Bool.eq_iff_iff]
    simp
section
variable {S : Store} {b c : List Pt} {r s : List Ry}
@[simp] theorem allP_bench : allP (toP S 59) (b.map eP) = some (b.map pP) := allP_map fun _ _ => toP_eP59
@[simp] theorem ev_bench : PyData.eqvAll (b.map pP) (c.map pP) = decide (b = c) := ev_map fun _ _ => ev_P
@[simp] theorem allP_rays : allP (toP S 59) (r.map eR) = some (r.map pR) := allP_map fun _ _ => toP_eR59
@[simp] theorem ev_rays : PyData.eqvAll (r.map pR) (s.map pR) = decide (r = s) := ev_map fun _ _ => ev_R
@[simp] theorem allP_rats {l : List Rat} : allP (toP S 59) (l.map eQ) = some (l.map pQ) := allP_map fun _ _ => toP_eQ59
@[simp] theorem ev_rats {l m : List Rat} : PyData.eqvAll (l.map pQ) (m.map pQ) = decide (l = m) := ev_map fun _ _ => ev_Q
@[simp] theorem un_rats {N : Nat} {l : List Rat} : unders N (l.map eQ) = true := un_map fun _ _ => eQ_un
@[simp] theorem allP_rep {k : Nat} {q : Rat} : allP (toP S 59) (List.replicate k (eQ q)) = some (List.replicate k (pQ q)) := by
  have := allP_rats (S := S) (l := List.replicate k q)
  rwa [List.map_replicate, List.map_replicate] at this
@[simp] theorem ev_rep {k : Nat} {q : Rat} : PyData.eqvAll (List.replicate k (pQ q)) (List.replicate k (pQ q)) = true := by
  have := ev_rats (l := List.replicate k q) (m := List.replicate k q)
  rw [List.map_replicate] at this
  rw [this]; simp
@[simp] theorem un_bench {N : Nat} : unders N (b.map eP) = true := un_map fun _ _ => eP_un
@[simp] theorem un_rays {N : Nat} : unders N (r.map eR) = true := un_map fun _ _ => eR_un
end
def tabOf (b : List Pt) : T4 := b.foldl (fun t p => t.thn p.tab) T4.one
theorem tabOf_snoc {b : List Pt} {p : Pt} : tabOf (b ++ [p]) = (tabOf b).thn p.tab := by unfold tabOf; rw [List.foldl_append]; rfl
theorem tabOf_take {b : List Pt} {i : Nat} {p : Pt} (h : b[i]? = some p) : tabOf (b.take (i + 1)) = (tabOf (b.take i)).thn p.tab := by
  have : b.take (i + 1) = b.take i ++ [p] := by
    rw [List.take_succ, h]; rfl
  rw [this, tabOf_snoc]
theorem foldl_thn {b : List Pt} {s t : T4} : b.foldl (fun t p => t.thn p.tab) (s.thn t) = s.thn (b.foldl (fun t p => t.thn p.tab) t) := by
  induction b generalizing t with
  | nil => rfl
  | cons p b ih => rw [List.foldl_cons, T4.thn_assoc, ih]; rfl
theorem tabOf_app {b c : List Pt} : tabOf (b ++ c) = (tabOf b).thn (tabOf c) := by
  unfold tabOf
  rw [List.foldl_append]
  conv => lhs; rw [show b.foldl (fun t p => t.thn p.tab) T4.one = (b.foldl (fun t p => t.thn p.tab) T4.one).thn T4.one from T4.thn_one.symm]
  rw [foldl_thn]
theorem tabOf_cons {p : Pt} {c : List Pt} : tabOf (p :: c) = p.tab.thn (tabOf c) := by
  have := tabOf_app (b := [p]) (c := c)
  rw [show tabOf [p] = p.tab from T4.one_thn] at this
  exact this
theorem tab_det (p : Pt) : p.tab.det = 1 := by cases p <;> (simp only [Pt.tab, T4.det, T4.one]; grind)
theorem tabOf_det (b : List Pt) : (tabOf b).det = 1 := by
  induction b with
  | nil => simp only [tabOf, List.foldl_nil, T4.det, T4.one]; grind
  | cons p b ih => rw [tabOf_cons, T4.det_thn, tab_det, ih]; grind
structure Bk (b : List Pt) (k : Nat) : Prop where
  len : b.length ≤ 13
  sz : ∀ p ∈ b, Sz p.num k
  ok : ∀ p ∈ b, p.ok
end Rg
end
section
set_option exponentiation.threshold 10000
namespace Rg
open PySem L2
@[simp] theorem rok_pop {n : Nat} {S : Store} {P : D → Store → Prop} : Rok (fPop (.ref n) [] S) P ↔ ∃ l y, S[n]? = some (.lst l) ∧ l[l.length - 1]? = some y ∧ P y (S.set n (.lst l.dropLast)) := by
  unfold fPop
  cases h : S[n]? with
  | none => simp [h]
  | some c =>
    cases c with
    | lst l => cases h2 : l[l.length - 1]? <;> simp [h, h2]
    | _ => simp [h]
@[simp] theorem rok_in {neg : Bool} {d e : D} {S : Store} {P : D → Store → Prop} : Rok (fIn neg d e S) P ↔ ∃ x ds, toP S 60 d = some x ∧ toP S 60 e = some (.list ds) ∧ P (.bl (if neg then !ds.any (fun z => PyData.eqv z x) else ds.any fun z => PyData.eqv z x)) S := by
  unfold fIn
  cases h : toP S 60 d with
  | none => simp
  | some x =>
    cases h2 : toP S 60 e with
    | none => simp
    | some y => cases y <;> simp
theorem rok_gcr {S C : Store} {k : Nat} {l : List D} {P : D → Store → Prop} (hk : C[k]? = some (.lst l)) (hu : unders S.length l = true) : Rok (gc S (.ref (S.length + k)) (S ++ C)) P ↔ P (.ref S.length) (S ++ [.lst l]) := by
  rw [gc_new (n := S.length + k) (l := l) (C := C) (by simp) (by simp) (by rw [List.getElem?_append_right (by omega)]; simpa using hk) hu, rok_ok]
  simp only [sb_ref]
  rw [if_neg (by omega)]
end Rg
end
section
set_option exponentiation.threshold 10000
namespace Rg
open PySem L2
theorem ty_lst {S : Store} {n : Nat} {l : List D} (h : lstOf S n = some l) : tyOf S (.ref n) = some .lst := by
  unfold lstOf at h
  unfold tyOf
  split at h
  · rename_i e; simp [e]
  · rename_i e; simp [e]
  · cases h
theorem tab_led {p : Pt} {r : Ry} : p.tab.led r = (match p with
    | .gap g => ⟨r.y + g * r.u, r.u⟩
    | .glass g => ⟨r.y, r.u - g * r.y⟩
    | .stop _ => r) := by
  cases p with
  | gap g => apply Ry.ext' <;> (simp only [Pt.tab, T4.led]; grind)
  | glass g => apply Ry.ext' <;> (simp only [Pt.tab, T4.led]; grind)
  | stop g => exact T4.one_led
theorem led_take {b : List Pt} {i : Nat} {p : Pt} {r : Ry} (h : b[i]? = some p) : p.tab.led ((tabOf (b.take i)).led r) = (tabOf (b.take (i + 1))).led r := by
  rw [tabOf_take h, T4.thn_led]
end Rg
end
section
set_option exponentiation.threshold 10000
namespace Rg
open PySem L2
end Rg
end
section
set_option exponentiation.threshold 10000
namespace Rg
open PySem L2
@[simp] theorem atI_last {α : Type} {l : List α} {x : α} : atI (l ++ [x]) (-1) = some x := by
  have h : atI (l ++ [x]) (-1) = (l ++ [x])[l.length]? := by
    unfold atI
    have : ixN (l ++ [x]).length (-1) = some l.length := by
      unfold ixN
      simp
      omega
    rw [this]
    rfl
  rw [h]
  simp
end Rg
end
section
set_option exponentiation.threshold 10000
namespace Rg
open PySem L2
def hit (b : List Pt) (r : Ry) (i : Nat) : Bool := match b[i]? with
  | some (.stop q) => decide (q < ((tabOf (b.take i)).led r).y.abs)
  | _ => false
theorem enum_get {l : List D} {i : Nat} {d : D} (h : (enumD l)[i]? = some d) : ∃ x, l[i]? = some x ∧ d = .tup [.int (i : Nat), x] := by
  unfold enumD at h
  rw [List.getElem?_map] at h
  obtain ⟨j, hj, rfl⟩ := Option.map_eq_some_iff.mp h
  have h1 := (List.getElem?_eq_some_iff.mp hj).1
  rw [List.length_range] at h1
  rw [List.getElem?_range h1] at hj
  cases hj
  refine ⟨l[i], List.getElem?_eq_getElem h1, ?_⟩
  rw [List.getD_eq_getElem?_getD, List.getElem?_eq_getElem h1]
  rfl
@[simp] theorem enum_len {l : List D} : (enumD l).length = l.length := by unfold enumD; simp
@[simp] theorem rok_enum {n : Nat} {S : Store} {P : Wk → Store → Prop} : Rok (fEnum [.ref n] S) P ↔ ∃ l, lstOf S n = some l ∧ P ⟨enumD l, fun S => lstOf S n = some l⟩ S := by
  unfold fEnum
  cases h : lstOf S n with
  | none => simp [h]
  | some l => simp [h]
@[simp] theorem atI_natm {l : List Pt} {i : Nat} {p : Pt} (h : l[i]? = some p) : atI (l.map eP) (i : Nat) = some (eP p) := atI_nat (by rw [List.getElem?_map, h]; rfl)
end Rg
end
section
set_option exponentiation.threshold 10000
namespace Rg
open PySem L2
def Sq (S : Store) (d : D) (l : List D) : Prop := d = .tup l ∨ ∃ n, d = .ref n ∧ lstOf S n = some l
section
variable {S C : Store} {d : D} {l : List D}
theorem Sq.app (h : Sq S d l) : Sq (S ++ C) d l := by
  rcases h with h | ⟨n, h, e⟩
  · exact .inl h
  · exact .inr ⟨n, h, lstOf_app e⟩
theorem Sq.set {n : Nat} {c : Cell} {l0 : List D} (h : Sq S d l) (hn : lstOf S n = some l0) (hd : d ≠ .ref n) : Sq (S.set n c) d l := by
  rcases h with h | ⟨m, h, e⟩
  · exact .inl h
  · refine .inr ⟨m, h, ?_⟩
    rw [lstOf_setn (by rintro rfl; exact hd h)]
    exact e
theorem Sq.iter {P : Wk → Store → Prop} (h : Sq S d l) (k : ∀ chk : Store → Prop, (∀ S', Sq S' d l → chk S') → P ⟨l, chk⟩ S) : Rok (fIter d S) P := by
  rcases h with rfl | ⟨n, rfl, e⟩
  · rw [rok_fIterT]
    exact k _ fun _ _ => trivial
  · rw [rok_fIterL]
    refine ⟨l, e, k _ fun S' h => ?_⟩
    rcases h with h | ⟨m, h, e⟩
    · cases h
    · cases h; exact e
theorem Sq.list {P : D → Store → Prop} (h : Sq S d l) (k : P (.ref S.length) (S ++ [.lst l])) : Rok (fList [d] S) P := by
  rcases h with rfl | ⟨n, rfl, e⟩
  · rw [rok_listT]; exact k
  · rw [rok_listL]; exact ⟨l, e, k⟩
theorem Sq.len {P : D → Store → Prop} (h : Sq S d l) (k : P (.int (l.length : Nat)) S) : Rok (fLen [d] S) P := by
  rcases h with rfl | ⟨n, rfl, e⟩
  · rw [rok_lenT]; exact k
  · rw [rok_lenL]; exact ⟨l, e, k⟩
theorem Sq.ty (h : Sq S d l) : tyOf S d = some .tup ∨ tyOf S d = some .lst := by
  rcases h with rfl | ⟨n, rfl, e⟩
  · exact .inl rfl
  · exact .inr (ty_lst e)
end
end Rg
end
section
set_option exponentiation.threshold 10000
set_option maxHeartbeats 2000000
namespace Rg
open PySem L2
theorem div_mul_self9 {a b : Rat} (h : b ≠ 0) : a / b * b = a := Rat.div_mul_cancel h
theorem ov_div {D k : Nat} {q : Rat} (h0 : 0 < D) (hq : Ov D k q) (hne : q ≠ 0) : ∃ E : Nat, 0 < E ∧ E < 2 ^ k ∧ ∀ p, Ov D k p → Ov E k (p / q) := by
  obtain ⟨y, hy, ey⟩ := hq
  have yne : y ≠ 0 := by
    rintro rfl
    rcases Rat.mul_eq_zero.mp ey with z | z
    · exact hne z
    · have : (D : Int) = 0 := by exact_mod_cast z
      omega
  have key : ∃ s : Int, (s = 1 ∨ s = -1) ∧ ((y.natAbs : Nat) : Rat) = s * (y : Rat) := by
    rcases Int.lt_or_gt_of_ne yne with h | h
    · refine ⟨-1, .inr rfl, ?_⟩
      have e : ((y.natAbs : Nat) : Rat) = (((y.natAbs : Nat) : Int) : Rat) := (Rat.intCast_natCast _).symm
      rw [e, show ((y.natAbs : Nat) : Int) = -y by omega, Rat.intCast_neg, Rat.intCast_neg]
      grind
    · refine ⟨1, .inl rfl, ?_⟩
      have e : ((y.natAbs : Nat) : Rat) = (((y.natAbs : Nat) : Int) : Rat) := (Rat.intCast_natCast _).symm
      rw [e, show ((y.natAbs : Nat) : Int) = y by omega]
      grind
  refine ⟨y.natAbs, by omega, hy, fun p hp => ?_⟩
  obtain ⟨x, hx, ex⟩ := hp
  obtain ⟨s, hs, hn⟩ := key
  have e1 := div_mul_self9 (a := p) hne
  rcases hs with rfl | rfl
  · refine ⟨x, hx, ?_⟩
    rw [hn, ← ex, ← ey]
    generalize p / q = z at *
    rw [← e1]
    grind
  · refine ⟨-x, by omega, ?_⟩
    have en : ((-x : Int) : Rat) = -(p * (D : Rat)) := by rw [Rat.intCast_neg, ex]
    rw [hn, ← ey, en]
    have m1 : (((-1 : Int)) : Rat) = -1 := by decide
    rw [m1]
    generalize p / q = z at *
    rw [← e1]
    grind
structure GL (L : List Ln) (g : Nat) : Prop where
  ok : OkL L
  len : L.length ≤ 12
  le : g ≤ 900
  ov : ∃ G : Nat, 0 < G ∧ G < 2 ^ g ∧ ∀ l ∈ L, OvL G g l
section
variable {S : Store} {L : List Ln} {l m : Ln} {g n k : Nat} {d : D} {r : Ry}
theorem GL.sz (h : GL L g) (hl : l ∈ L) : LnS l g := by
  obtain ⟨G, g0, g1, hG⟩ := h.ov
  obtain ⟨a, b, c⟩ := hG l hl
  exact ⟨a.sz g0 g1, b.sz g0 g1, c.sz g0 g1, h.ok.nz l hl⟩
theorem GL.rd (h : GL L g) (hl : l ∈ L) : SzR ⟨l.p, l.q⟩ g := by
  obtain ⟨G, g0, g1, hG⟩ := h.ov
  obtain ⟨a, b, c⟩ := hG l hl
  exact ⟨G, g0, g1, a, b⟩
theorem eL_sl {P : D → Store → Prop} : Rok (fSl (eL l) none (some 2) S) P ↔ P (eR ⟨l.p, l.q⟩) S := by
  show Rok (fSl (.tup [eQ l.p, eQ l.q, eQ l.r]) none (some 2) S) P ↔ _
  rw [rok_slT]
  exact Iff.rfl
theorem by_two_eq (h : GL L g) (hl : l ∈ L) (hm : m ∈ L) (hc : lcr l m ≠ 0) {a b : Rat} (ha : Sz a g) (hb : Sz b g) : m_by_two [eL l, eL m, eQ a, eQ b] S = .ok (eR (byTwo l m a b)) S := by
  have s1 := (h.sz hl).p; have s2 := (h.sz hl).q; have s3 := (h.sz hm).p; have s4 := (h.sz hm).q
  have r1 := h.rd hl
  have r2 := h.rd hm
  have hg := h.le
  refine Rok.eq ?_
  unfold m_by_two
  simp [rok_def, eL_sl]
  rw [m_cross_eq (by omega)]
  have f1 : g + g ≤ 8998 := by omega
  have f2 : g + g + (g + g) ≤ 8998 := by omega
  simp [f1, f2]
  have hc' : (⟨l.p, l.q⟩ : Ry).cross ⟨m.p, m.q⟩ ≠ 0 := hc
  rw [m_over_eq hc' (by omega)]
  simp
  rw [m_over_eq hc' (by omega)]
  simp
  rfl
theorem GL.two (h : GL L g) (hl : l ∈ L) (hm : m ∈ L) (hc : lcr l m ≠ 0) {x : Ry} (hx : x ∈ twoR l m) : SzR x (2 * g + 1) := by
  obtain ⟨G, g0, g1, hG⟩ := h.ov
  obtain ⟨a, b, c⟩ := hG l hl
  obtain ⟨a', b', c'⟩ := hG m hm
  have e2 : g + g + 1 = 2 * g + 1 := by omega
  have hD : Ov (G * G) (2 * g + 1) (lcr l m) := by
    unfold lcr
    rw [Rat.sub_eq_add_neg, ← e2]
    exact (a.mul b').add (b.mul a').neg (Nat.le_refl _)
  obtain ⟨E, E0, E1, hE⟩ := ov_div (Nat.mul_pos g0 g0) hD hc
  have go : ∀ s t u v : Rat, Ov G g s → Ov G g t → Ov G g u → Ov G g v → Ov E (2 * g + 1) ((s * t - u * v) / lcr l m) := fun s t u v h1 h2 h3 h4 => by
    refine hE _ ?_
    rw [Rat.sub_eq_add_neg, ← e2]
    exact (h1.mul h2).add (h3.mul h4).neg (Nat.le_refl _)
  unfold twoR at hx
  rcases List.mem_cons.mp hx with rfl | hx
  · exact ⟨E, E0, E1, go _ _ _ _ c b' c' b, go _ _ _ _ c' a c a'⟩
  · rw [List.mem_singleton] at hx
    subst hx
    exact ⟨E, E0, E1, go _ _ _ _ c b' c'.neg b, go _ _ _ _ c'.neg a c a'⟩
theorem opp_sz (h : SzR r k) : SzR (opp r) k := by
  obtain ⟨D, h0, h1, a, b⟩ := h.ex
  exact ⟨D, h0, h1, a.neg, b.neg⟩
theorem GL.met (h : GL L g) {x : Ry} (hx : x ∈ met L) : SzR x (2 * g + 1) := by
  have one : ∀ x, x ∈ metTo L L.length → SzR x (2 * g + 1) := fun x hx => by
    obtain ⟨i, j, l, m, h1, h2, h3, h4, hc, hx2, _⟩ := mem_metTo.mp hx
    exact h.two (List.mem_of_getElem? h3) (List.mem_of_getElem? h4) hc hx2
  unfold Rg.met at hx
  rcases List.mem_append.mp hx with hx | hx
  · exact one x hx
  · obtain ⟨y, hy, rfl⟩ := List.mem_map.mp hx
    exact opp_sz (one y (List.mem_filter.mp hy).1)
theorem szr_y (h : SzR r k) : Sz r.y k := by
  obtain ⟨D, h0, h1, a, b⟩ := h.ex
  exact a.sz h0 h1
theorem szr_u (h : SzR r k) : Sz r.u k := by
  obtain ⟨D, h0, h1, a, b⟩ := h.ex
  exact b.sz h0 h1
theorem lets_by2_eq (hl : LnS l g) (hr : SzR r k) (hk : g + k ≤ 4000) : m_lets_by [eL l, eR r] S = .ok (.bl (okL l r)) S := by
  have h1 := hl.p; have h2 := hl.q; have h3 := hl.r; have h4 := szr_y hr; have h5 := szr_u hr
  have h6 : Sz (l.p * r.y + l.q * r.u) (g + k + (g + k) + 1) := inferInstance
  refine Rok.eq ?_
  unfold m_lets_by
  simp [rok_def]
  rw [m_summed_eq hk hk]
  simp
  rw [m_less_eq (by omega)]
  unfold okL worth
  simp
theorem lets2_eq (h : GL L g) (hr : SzR r k) (hk : g + k ≤ 4000) (hn : Sq S d (L.map eL)) : m_lets [d, eR r] S = .ok (.bl (letsB L r)) S := by
  have hlen := h.len
  refine Rok.eq ?_
  unfold m_lets
  simp [rok_def]
  refine comp_map_then L eL (fun l => .bl (okL l r)) ?_ ?_ ?_ ?_
  · simp
    exact hn.iter fun chk hc => ⟨rfl, rfl, fun acc => hc _ hn.app⟩
  · simp; omega
  · intro l hl acc
    simp [lets_by2_eq (h.sz hl) hr hk]
  · unfold letsB
    simp [boolsD_map, List.all_map]
end
end Rg
end
section
set_option exponentiation.threshold 10000
namespace Rg
open PySem L2
@[simp] theorem rok_extend {n m : Nat} {S : Store} {P : D → Store → Prop} : Rok (fExtend (.ref n) [.ref m] S) P ↔ ∃ l z, S[n]? = some (.lst l) ∧ S[m]? = some (.lst z) ∧ l.length + z.length ≤ sizeLine ∧ P .non (S.set n (.lst (l ++ z))) := by
  unfold fExtend
  cases h : S[n]? with
  | none => simp [h]
  | some c =>
    cases h2 : S[m]? with
    | none => cases c <;> simp [h, h2]
    | some c2 =>
      cases c <;> cases c2 <;> simp [h, h2]
      exact ⟨fun ⟨a, b⟩ => ⟨b, a b⟩, fun ⟨a, b⟩ => ⟨fun _ => b, a⟩⟩
end Rg
end
section
set_option exponentiation.threshold 10000
namespace Rg
open PySem L2
def Shr (q : Rat) (A B : Int) : Prop := ∃ a b : Int, q = Rat.divInt a b ∧ 0 < a ∧ a ≤ A ∧ 0 < b ∧ b ≤ B
theorem Shr.pos {q : Rat} {A B : Int} (h : Shr q A B) : 0 < q := by
  obtain ⟨a, b, rfl, h1, _, h2, _⟩ := h
  exact divInt_pos h1 h2
theorem Shr.sz {q : Rat} {A B : Int} {k : Nat} (h : Shr q A B) (hA : A < 2 ^ k) (hB : B < 2 ^ k) : Sz q k := by
  obtain ⟨a, b, rfl, h1, h2, h3, h4⟩ := h
  have e : ((2 ^ k : Nat) : Int) = 2 ^ k := by push_cast; rfl
  refine sz_di (by omega) ?_ ?_
  · have : a < ((2 ^ k : Nat) : Int) := by rw [e]; omega
    omega
  · have : b < ((2 ^ k : Nat) : Int) := by rw [e]; omega
    omega
theorem Shr.rest {q : Rat} {A B v : Int} (h : Shr q A B) (v0 : 0 ≤ v) (v1 : v < 2) : Shr (q - q / ((2 + v : Int) : Rat)) (A * 2) (B * 3) := by
  obtain ⟨a, b, rfl, h1, h2, h3, h4⟩ := h
  have hv : ((2 + v : Int) : Rat) ≠ 0 := by
    intro e
    have : (2 + v) = 0 := by exact_mod_cast e
    omega
  have hb : (b : Rat) ≠ 0 := by
    intro e
    have : b = 0 := by exact_mod_cast e
    omega
  refine ⟨a * (1 + v), b * (2 + v), ?_, Int.mul_pos h1 (by omega), ?_, Int.mul_pos h3 (by omega), ?_⟩
  · rw [Rat.divInt_eq_div, Rat.divInt_eq_div, Rat.intCast_mul, Rat.intCast_mul]
    have e1 : ((1 + v : Int) : Rat) = ((2 + v : Int) : Rat) - 1 := by
      push_cast
      grind
    rw [e1]
    generalize ((2 + v : Int) : Rat) = w at hv
    generalize (a : Rat) = x
    generalize (b : Rat) = y at hb
    grind
  · have : a * (1 + v) ≤ a * 2 := Int.mul_le_mul_of_nonneg_left (by omega) (by omega)
    omega
  · have : b * (2 + v) ≤ b * 3 := Int.mul_le_mul_of_nonneg_left (by omega) (by omega)
    omega
def Pt.isStop : Pt → Bool
  | .stop _ => true
  | _ => false
end Rg
end
section
set_option exponentiation.threshold 10000
namespace Rg
open PySem L2
def PtS (g : Rat) : Pt → Prop
  | .gap q => 0 ≤ q ∧ Sz (q / g) 4
  | .glass q => Sz (q * g) 4
  | .stop r => 0 < r ∧ Sz r 4000
def Tiny (q : Rat) : Prop := q.den + q.num.natAbs ≤ 8
structure HlS (nr fr : Rat) (b : List Pt) (g : Rat) : Prop where
  g0 : 0 < g
  gz : Sz g 70
  near : Sz (nr * g) 4
  far : Sz (fr * g) 4
  len : b.length ≤ 9
  nz : (b.filter fun p => !p.isStop).length ≤ 6 ∨ ((b.filter fun p => !p.isStop).length ≤ 8 ∧ g = 1 ∧ Tiny nr ∧ Tiny fr ∧ ∀ p ∈ b, p.isStop = true ∨ Tiny p.num)
  part : ∀ p ∈ b, PtS g p
end Rg
end
section
set_option exponentiation.threshold 10000
namespace Rg
open PySem L2
def eO : Option Rat → D
  | none => .non
  | some q => eQ q
def eOO (p : Option Rat × Option Rat) : D := .tup [eO p.1, eO p.2]
end Rg
end
section
set_option exponentiation.threshold 10000
namespace Rg
open PySem L2
theorem cut_to {l : List D} {k : Nat} (h : k ≤ l.length) : cutL l none (some (k : Nat)) = l.take k := by
  unfold cutL
  have h1 : HT.sIx l.length 0 none = 0 := rfl
  have h2 : HT.sIx l.length l.length (some (k : Int)) = k := by
    show (if (k : Int) < 0 then ((k : Int) + ((l.length : Nat) : Int)).toNat else min (k : Int).toNat l.length) = k
    rw [if_neg (by omega)]
    omega
  rw [h1, h2]; simp
@[simp] theorem ixN_nat {n k : Nat} (h : k < n) : ixN n (k : Nat) = some k := by
  unfold ixN
  simp [h]
def Pt.wth : Pt → Rat → Pt
  | .gap _, q => .gap q | .glass _, q => .glass q | .stop _, q => .stop q
@[simp] theorem wth_tup {p : Pt} {q : Rat} : D.tup [.str p.word, eQ q] = eP (p.wth q) := by cases p <;> rfl
end Rg
end
section
set_option exponentiation.threshold 10000
namespace Rg
open PySem L2
theorem rtri (x : Rat) : x < 0 ∨ x = 0 ∨ 0 < x := by grind
theorem lt0_mul {x u : Rat} (h : 0 < u) : (x * u < 0 ↔ x < 0) ∧ (0 < x * u ↔ 0 < x) := by
  have a := Rat.mul_lt_mul_right (a := x) (b := 0) h
  have b := Rat.mul_lt_mul_right (a := 0) (b := x) h
  rw [Rat.zero_mul] at a b
  exact ⟨a, b⟩
theorem gt0_mul {x u : Rat} (h : u < 0) : (x * u < 0 ↔ 0 < x) ∧ (0 < x * u ↔ x < 0) := by
  obtain ⟨a, b⟩ := lt0_mul (x := x) (u := -u) (by grind)
  rw [Rat.mul_neg] at a b
  constructor
  · rw [← b]; grind
  · rw [← a]; grind
theorem div_mul_self {a b : Rat} (h : b ≠ 0) : a / b * b = a := Rat.div_mul_cancel h
def gapOf : Pt → Rat
  | .gap g => g
  | _ => 0
def longOf (b : List Pt) : Rat := b.foldl (fun s p => s + gapOf p) 0
theorem longOf_snoc {b : List Pt} {p : Pt} : longOf (b ++ [p]) = longOf b + gapOf p := by unfold longOf; rw [List.foldl_append]; rfl
theorem longOf_take {b : List Pt} {i : Nat} {p : Pt} (h : b[i]? = some p) : longOf (b.take (i + 1)) = longOf (b.take i) + gapOf p := by
  have : b.take (i + 1) = b.take i ++ [p] := by rw [List.take_succ, h]; rfl
  rw [this, longOf_snoc]
def crossIn (g : Rat) (r : Ry) : Option Rat := if r.u = 0 then none else if (0 - r.y) / r.u < 0 ∨ g < (0 - r.y) / r.u then none else some ((0 - r.y) / r.u)
def putPl (l : List Rat) (q : Rat) : List Rat := if l.getLast? = some q then l else l ++ [q]
def crossAt (b : List Pt) (r : Ry) (i : Nat) (l : List Rat) : List Rat := match b[i]? with
  | some (.gap g) => match crossIn g ((tabOf (b.take i)).led r) with
    | some f => putPl l (longOf (b.take i) + f)
    | none => l
  | _ => l
def crossTo (b : List Pt) (r : Ry) : Nat → List Rat
  | 0 => if r.y = 0 then [0] else []
  | i + 1 => crossAt b r i (crossTo b r i)
def between (h t : Ry) : Prop := h.y.num * t.y.num < 0 ∨ (t.y - h.y ≠ 0 ∧ (h.y = 0 ∨ t.y = 0))
instance {h t : Ry} : Decidable (between h t) := by unfold between; infer_instance
def Ry.nz (r : Ry) : Prop := r.y ≠ 0 ∨ r.u ≠ 0
theorem nz_led {t : T4} {r : Ry} (h : t.det = 1) (hr : r.nz) : (t.led r).nz := by
  unfold Ry.nz at hr ⊢
  simp only [T4.led]
  unfold T4.det at h
  by_cases hy : t.a * r.y + t.b * r.u = 0
  · by_cases hu : t.c * r.y + t.d * r.u = 0
    · have e1 : r.y = t.d * (t.a * r.y + t.b * r.u) - t.b * (t.c * r.y + t.d * r.u) := by grind
      have e2 : r.u = t.a * (t.c * r.y + t.d * r.u) - t.c * (t.a * r.y + t.b * r.u) := by grind
      rw [hy, hu] at e1 e2
      grind
    · exact .inr hu
  · exact .inl hy
end Rg
end
section
set_option exponentiation.threshold 10000
namespace Rg
open PySem L2
def Ry.tm (k : Rat) (r : Ry) : Ry := ⟨k * r.y, k * r.u⟩
end Rg
end
section
set_option exponentiation.threshold 10000
namespace Rg
open PySem L2
section
variable {S : Store} {t : T4} {i j k n m : Nat} {b : List Pt} {x : Option Rat}
@[simp] theorem gT_eOO {f : List D → Env → Store → Option Env} {env : Env} {p : Option Rat × Option Rat} : gT 2 f (eOO p) env S = f [eO p.1, eO p.2] env S := rfl
end
end Rg
end
section
set_option exponentiation.threshold 10000
namespace Rg
open PySem L2
def T4.sc (g : Rat) (t : T4) : T4 := ⟨t.a, t.b / g, t.c * g, t.d⟩
def Ry.sc (g : Rat) (r : Ry) : Ry := ⟨r.y / g, r.u⟩
section
variable {g : Rat} {s t : T4} {r : Ry} {b : List Pt} {p : Pt}
theorem T4.sc_thn (h : g ≠ 0) : (s.thn t).sc g = (s.sc g).thn (t.sc g) := by
  unfold T4.thn T4.sc
  apply T4.ext' <;> dsimp only <;> grind
theorem T4.sc_one : T4.one.sc g = T4.one := by
  unfold T4.one T4.sc
  apply T4.ext' <;> dsimp only <;> grind
def nzs (b : List Pt) : Nat := (b.filter fun p => !p.isStop).length
theorem nzs_cons : nzs (p :: b) = (if p.isStop then 0 else 1) + nzs b := by
  unfold nzs
  rw [List.filter_cons]
  cases p.isStop <;> simp
  omega
theorem nzs_app {c : List Pt} : nzs (b ++ c) = nzs b + nzs c := by
  unfold nzs
  rw [List.filter_append, List.length_append]
theorem nzs_rev : nzs b.reverse = nzs b := by
  unfold nzs
  rw [List.filter_reverse, List.length_reverse]
theorem nzs_take {i : Nat} : nzs (b.take i) ≤ nzs b := by
  conv => rhs; rw [← List.take_append_drop i b]
  rw [nzs_app]
  omega
theorem ptS_sz (h0 : g ≠ 0) (h : PtS g p) : p.isStop = true ∨ (p.isStop = false ∧ SzT (p.tab.sc g) 4) := by
  cases p with
  | stop r => exact .inl rfl
  | gap q =>
    refine .inr ⟨rfl, ?_⟩
    have : (Pt.gap q).tab.sc g = ⟨1, q / g, 0, 1⟩ := by
      unfold Pt.tab T4.sc
      apply T4.ext' <;> dsimp only
      grind
    rw [this]
    exact szT_gap h.2
  | glass q =>
    refine .inr ⟨rfl, ?_⟩
    have : (Pt.glass q).tab.sc g = ⟨1, 0, -(q * g), 1⟩ := by
      unfold Pt.tab T4.sc
      apply T4.ext' <;> dsimp only <;> grind
    rw [this]
    exact szT_glass (sz_neg h)
theorem ptS_tabs (h0 : g ≠ 0) (h : ∀ p ∈ b, PtS g p) : SzT ((tabOf b).sc g) (1 + nzs b * 5) := by
  induction b with
  | nil => rw [show tabOf [] = T4.one from rfl, T4.sc_one]; exact SzT.mono (inferInstance : SzT T4.one 1) (by omega)
  | cons p b ih =>
    have h2 := ih fun q hq => h q (by simp [hq])
    rw [tabOf_cons, nzs_cons]
    rcases ptS_sz h0 (h p (by simp)) with h1 | ⟨h1, h3⟩
    · have : p.tab = T4.one := by cases p <;> first | rfl | cases h1
      rw [this, T4.one_thn, h1]
      exact h2.mono (by simp)
    · rw [T4.sc_thn h0, h1]
      have : SzT ((p.tab.sc g).thn ((tabOf b).sc g)) (4 + (1 + nzs b * 5) + 1) := inferInstance
      exact this.mono (by simp; omega)
end
def roundP (near far : Rat) (b : List Pt) : List Pt := b ++ .glass far :: (b.reverse ++ [.glass near])
theorem HlS.g1 {near far g : Rat} {b : List Pt} (h : HlS near far b g) : g ≠ 0 := by
  rintro rfl
  exact absurd h.g0 (by decide +kernel)
theorem HlS.all {near far g : Rat} {b : List Pt} (h : HlS near far b g) : ∀ p ∈ roundP near far b, PtS g p := by
  intro p hp
  unfold roundP at hp
  simp only [List.mem_append, List.mem_cons, List.mem_reverse, List.not_mem_nil, or_false] at hp
  rcases hp with hp | rfl | hp | rfl
  · exact h.part p hp
  · exact h.far
  · exact h.part p hp
  · exact h.near
theorem nzs_round {near far : Rat} {b : List Pt} : nzs (roundP near far b) = 2 * nzs b + 2 := by
  unfold roundP
  rw [nzs_app, nzs_cons, nzs_app, nzs_rev, nzs_cons]
  unfold Rg.nzs Pt.isStop at *
  simp at *
  omega
def TT (n : Nat) (t : T4) : Prop := ∃ D : Nat, 0 < D ∧ D ≤ 8 ^ n ∧ ∃ x y z w : Int, x.natAbs ≤ 8 ^ n ∧ y.natAbs ≤ 8 ^ n ∧ z.natAbs ≤ 8 ^ n ∧ w.natAbs ≤ 8 ^ n ∧
  t.a * (D : Rat) = (x : Rat) ∧ t.b * (D : Rat) = (y : Rat) ∧ t.c * (D : Rat) = (z : Rat) ∧ t.d * (D : Rat) = (w : Rat)
theorem TT.one : TT 0 T4.one := ⟨1, by decide, by decide, 1, 0, 0, 1, by decide, by decide, by decide, by decide, by decide +kernel, by decide +kernel, by decide +kernel, by decide +kernel⟩
theorem tt_lin {n : Nat} {x y : Int} {q : Rat} (h : Tiny q) (hx : x.natAbs ≤ 8 ^ n) (hy : y.natAbs ≤ 8 ^ n) : (x * q.num + y * q.den).natAbs ≤ 8 ^ (n + 1) ∧ (x * q.den).natAbs ≤ 8 ^ (n + 1) := by
  have e1 : (x * q.num).natAbs ≤ 8 ^ n * q.num.natAbs := by rw [Int.natAbs_mul]; exact Nat.mul_le_mul_right _ hx
  have e2 : (y * q.den).natAbs ≤ 8 ^ n * q.den := by rw [Int.natAbs_mul, Int.natAbs_natCast]; exact Nat.mul_le_mul_right _ hy
  have e3 : (x * q.den).natAbs ≤ 8 ^ n * q.den := by rw [Int.natAbs_mul, Int.natAbs_natCast]; exact Nat.mul_le_mul_right _ hx
  have e4 : 8 ^ n * (q.den + q.num.natAbs) ≤ 8 ^ n * 8 := Nat.mul_le_mul_left _ h
  rw [Nat.mul_add] at e4
  rw [Nat.pow_succ]
  omega
theorem tt_num (q : Rat) : (q.num : Rat) = q * ((q.den : Nat) : Rat) := by
  have := Rat.num_divInt_den q
  rw [Rat.divInt_eq_div] at this
  have hd : ((q.den : Int) : Rat) ≠ 0 := by
    intro z
    have : (q.den : Int) = 0 := by exact_mod_cast z
    have := q.den_pos
    omega
  conv => rhs; lhs; rw [← this]
  show (q.num : Rat) = (q.num : Rat) / ((q.den : Int) : Rat) * ((q.den : Int) : Rat)
  rw [Rat.div_mul_cancel hd]
theorem TT.gap {n : Nat} {t : T4} {q : Rat} (h : TT n t) (hq : Tiny q) : TT (n + 1) ((Pt.gap q).tab.thn t) ∧ TT (n + 1) ((Pt.glass q).tab.thn t) := by
  obtain ⟨D, d0, d1, x, y, z, w, hx, hy, hz, hw, ex, ey, ez, ew⟩ := h
  have dq := q.den_pos
  have hD : D * q.den ≤ 8 ^ (n + 1) := by
    rw [Nat.pow_succ]
    exact Nat.mul_le_mul d1 (by unfold Tiny at hq; omega)
  have hn := tt_num q
  have a1 := tt_lin hq hx hy
  have a2 := tt_lin hq hz hw
  have b1 := tt_lin hq (show (-y).natAbs ≤ 8 ^ n by rwa [Int.natAbs_neg]) hx
  have b2 := tt_lin hq (show (-w).natAbs ≤ 8 ^ n by rwa [Int.natAbs_neg]) hz
  have c1 := (tt_lin hq hy hx).2
  have c2 := (tt_lin hq hw hz).2
  constructor
  · refine ⟨D * q.den, Nat.mul_pos d0 dq, hD, x * q.den, x * q.num + y * q.den, z * q.den, z * q.num + w * q.den, a1.2, a1.1, a2.2, a2.1, ?_, ?_, ?_, ?_⟩ <;>
      (simp only [Pt.tab, T4.thn]; push_cast; simp only [← ex, ← ey, ← ez, ← ew, hn]; grind)
  · refine ⟨D * q.den, Nat.mul_pos d0 dq, hD, -y * q.num + x * q.den, y * q.den, -w * q.num + z * q.den, w * q.den, b1.1, c1, b2.1, c2, ?_, ?_, ?_, ?_⟩ <;>
      (simp only [Pt.tab, T4.thn]; push_cast; simp only [← ex, ← ey, ← ez, ← ew, hn]; grind)
theorem TT.tabs : ∀ {b : List Pt}, (∀ p ∈ b, p.isStop = true ∨ Tiny p.num) → TT (nzs b) (tabOf b)
  | [], _ => TT.one
  | p :: b, h => by
    have h2 := TT.tabs (b := b) fun q hq => h q (by simp [hq])
    rw [tabOf_cons, nzs_cons]
    have hp := h p (by simp)
    cases p with
    | stop r => simpa [Pt.isStop, Pt.tab, T4.one_thn] using h2
    | gap q =>
      have := (h2.gap (q := q) (by rcases hp with z | z; · cases z
                                   · exact z)).1
      rw [show (if (Pt.gap q).isStop then 0 else 1) + nzs b = nzs b + 1 by simp [Pt.isStop]; omega]
      exact this
    | glass q =>
      have := (h2.gap (q := q) (by rcases hp with z | z; · cases z
                                   · exact z)).2
      rw [show (if (Pt.glass q).isStop then 0 else 1) + nzs b = nzs b + 1 by simp [Pt.isStop]; omega]
      exact this
theorem TT.sz {n k : Nat} {t : T4} (h : TT n t) (hk : 3 * n + 1 ≤ k) : SzT t k := by
  obtain ⟨D, d0, d1, x, y, z, w, hx, hy, hz, hw, ex, ey, ez, ew⟩ := h
  have hp : 8 ^ n < 2 ^ k := by
    rw [show (8 : Nat) = 2 ^ 3 by decide, ← Nat.pow_mul]
    exact Nat.pow_lt_pow_right (by decide) (by omega)
  exact ⟨D, d0, Nat.lt_of_le_of_lt d1 hp, ⟨x, Nat.lt_of_le_of_lt hx hp, ex⟩, ⟨y, Nat.lt_of_le_of_lt hy hp, ey⟩, ⟨z, Nat.lt_of_le_of_lt hz hp, ez⟩, ⟨w, Nat.lt_of_le_of_lt hw hp, ew⟩⟩
theorem T4.sc_1 {t : T4} : t.sc 1 = t := by
  unfold T4.sc
  apply T4.ext' <;> dsimp only <;> grind
theorem HlS.sz {near far g : Rat} {b : List Pt} (h : HlS near far b g) (i : Nat) : SzT ((tabOf ((roundP near far b).take i)).sc g) 71 := by
  have h1 := nzs_take (b := roundP near far b) (i := i)
  rw [nzs_round] at h1
  rcases h.nz with h2 | ⟨h2, hg, tn, tf, tb⟩
  · refine (ptS_tabs h.g1 fun p hp => h.all p (List.mem_of_mem_take hp)).mono ?_
    unfold Rg.nzs at *
    omega
  · rw [hg, T4.sc_1]
    refine TT.sz (TT.tabs fun p hp => ?_) (by unfold Rg.nzs at *; omega)
    have hp := List.mem_of_mem_take hp
    unfold roundP at hp
    simp only [List.mem_append, List.mem_cons, List.mem_reverse, List.not_mem_nil, or_false] at hp
    rcases hp with hp | rfl | hp | rfl
    · exact tb p hp
    · exact .inr tf
    · exact tb p hp
    · exact .inr tn
theorem PtS.num {g : Rat} {p : Pt} (h0 : g ≠ 0) (hg : Sz g 70) (h : PtS g p) : p.isStop = true ∨ Sz p.num 75 := by
  cases p with
  | stop r => exact .inl rfl
  | gap q =>
    have h1 : Sz (q / g) 4 := h.2
    have : Sz (q / g * g) (4 + 70) := inferInstance
    rw [show q / g * g = q by grind] at this
    exact .inr (this.mono (by decide))
  | glass q =>
    have h1 : Sz (q * g) 4 := h
    have : Sz (q * g / g) (4 + 70) := inferInstance
    rw [show q * g / g = q by grind] at this
    exact .inr (this.mono (by decide))
def eH (near : Rat) (d : D) (far : Rat) : D := .tup [eQ near, d, eQ far]
end Rg
end
section
set_option exponentiation.threshold 10000
namespace Rg
open PySem L2
end Rg
end
section
set_option exponentiation.threshold 10000
namespace Rg
open PySem L2
inductive Kd where
  | same (n : Nat) | turns | shear (r : Ry) | off (k : Option Rat)
section
variable {S : Store} {near far g : Rat} {b : List Pt} {d : D} {t : T4} {k : Nat}
@[simp] theorem gT_eH {f : List D → Env → Store → Option Env} {env : Env} : gT 3 f (eH near d far) env S = f [eQ near, d, eQ far] env S := rfl
end
end Rg
end
section
set_option exponentiation.threshold 10000
namespace Rg
open PySem L2
theorem Sq.enum {S : Store} {d : D} {l : List D} {P : Wk → Store → Prop} (h : Sq S d l) (k : ∀ chk : Store → Prop, (∀ S', Sq S' d l → chk S') → P ⟨enumD l, chk⟩ S) : Rok (fEnum [d] S) P := by
  rcases h with rfl | ⟨n, rfl, h⟩
  · unfold fEnum
    rw [rok_ok]
    exact k _ fun _ _ => trivial
  · rw [rok_enum]
    refine ⟨l, h, k _ fun S' h' => ?_⟩
    rcases h' with h' | ⟨m, e, h'⟩
    · cases h'
    · cases e; exact h'
@[simp] theorem eH_i0 {near far : Rat} {d : D} {S : Store} {P : D → Store → Prop} : Rok (fIx (eH near d far) (.int 0) S) P ↔ P (eQ near) S := by unfold eH; rw [rok_ixT]; simp
@[simp] theorem eH_i1 {near far : Rat} {d : D} {S : Store} {P : D → Store → Prop} : Rok (fIx (eH near d far) (.int 1) S) P ↔ P d S := by unfold eH; rw [rok_ixT]; simp
@[simp] theorem eH_i2 {near far : Rat} {d : D} {S : Store} {P : D → Store → Prop} : Rok (fIx (eH near d far) (.int 2) S) P ↔ P (eQ far) S := by unfold eH; rw [rok_ixT]; simp
end Rg
end
section
set_option exponentiation.threshold 10000
set_option maxHeartbeats 2000000
namespace Rg
open PySem L2
section
variable {S : Store} {L : List Ln} {l m : Ln} {g n k : Nat} {d : D} {r : Ry} {F : List Ry}
theorem ev_Rs {F : List Ry} {x : Ry} : (F.map pR).any (fun z => PyData.eqv z (pR x)) = F.contains x := by
  induction F with
  | nil => rfl
  | cons a F ih =>
    rw [List.map_cons, List.any_cons, ih, List.contains_cons, ev_R]
    congr 1
    by_cases h : a = x
    · subst h; simp
    · have h' : ¬ x = a := fun z => h z.symm
      simp [h, h']
theorem allP_R {T : Store} {j : Nat} {F : List Ry} : allP (toP T (j + 2)) (F.map eR) = some (F.map pR) := allP_map fun _ _ => toP_eR
@[simp] theorem allP_R59 {T : Store} {F : List Ry} : allP (toP T 59) (F.map eR) = some (F.map pR) := allP_R
@[simp] theorem un_R {N : Nat} {F : List Ry} : unders N (F.map eR) = true := un_map fun _ _ => by simp
theorem Sq.sl2 {d : D} {l : List D} {lo hi : Option Int} {P : D → Store → Prop} (h : Sq S d l) (k1 : P (.tup (cutL l lo hi)) S) (k2 : P (.ref S.length) (S ++ [.lst (cutL l lo hi)])) : Rok (fSl d lo hi S) P := by
  rcases h with rfl | ⟨n, rfl, hn⟩
  · simpa using k1
  · simp [hn]
    exact k2
noncomputable def bMet : SS := (sIfS (sT (s2 fNe (s2 fIx (sCall m_cross (sCons (sSl (sVar 3) (sNoPart) (sPart (sC (.int (2))))) (sCons (sSl (sVar 4) (sNoPart) (sPart (sC (.int (2))))) (sNil)))) (sC (.int (0)))) (sC (.int (0))))) (sSeq (sSet 5 (sLst (sCons (sCall m_by_two (sCons (sVar 3) (sCons (sVar 4) (sCons (s2 fIx (sVar 3) (sC (.int (2)))) (sCons (s2 fIx (sVar 4) (sC (.int (2)))) (sNil)))))) (sCons (sCall m_by_two (sCons (sVar 3) (sCons (sVar 4) (sCons (s2 fIx (sVar 3) (sC (.int (2)))) (sCons (sCall m_negative (sCons (s2 fIx (sVar 4) (sC (.int (2)))) (sNil))) (sNil)))))) (sNil))))) (sDrop (sMethL fExtend (sVar 1) (sCons (sComp (sIter (sVar 5)) (gN 6) (sAnd (sT (s2 (fIn true) (sVar 6) (sVar 1))) (sT (sCall m_lets (sCons (sVar 0) (sCons (sVar 6) (sNil)))))) (sVar 6) [6]) (sNil))))) (sSkip))
theorem bMet_ok {gg : SPt} {i : Int} {C : Store} {o5 o6 : Option D} (h : GL L g) (hl : l ∈ L) (hm : m ∈ L) (hd : ∀ c C', Sq (S ++ c :: C') d (L.map eL)) (hF : F.length ≤ 600)
    (hg : ∀ (C' : Store) (o5 o6 : Option D), gg.nx [some d, some (.ref S.length), some (.int i), some (eL l), some (eL m), o5, o6] (S ++ .lst ((addMet L F l m).map eR) :: (C ++ C'))) :
    Sok (bMet [some d, some (.ref S.length), some (.int i), some (eL l), some (eL m), o5, o6] (S ++ .lst (F.map eR) :: C)) gg := by
  have s1 := (h.sz hl).r
  have s2 := (h.sz hm).r
  have r1 := h.rd hl
  have r2 := h.rd hm
  have hle := h.le
  unfold bMet
  simp [eL_sl]
  rw [m_cross_eq (by omega)]
  have e : (⟨l.p, l.q⟩ : Ry).cross ⟨m.p, m.q⟩ = lcr l m := rfl
  rw [e]
  by_cases hc : lcr l m = 0
  · have : addMet L F l m = F := by unfold addMet; rw [if_neg (by simpa using hc)]
    rw [this] at hg
    simp [hc]
    have := hg [] o5 o6
    simpa using this
  · simp [hc]
    rw [by_two_eq h hl hm hc s1 s2]
    simp
    rw [by_two_eq h hl hm hc s1 (by infer_instance)]
    simp
    have lt := fun (T : Store) (x : Ry) (hx : x ∈ twoR l m) (hs : Sq T d (L.map eL)) => lets2_eq (S := T) h (h.two hl hm hc hx) (by omega) hs
    refine comp_then (twoR l m) eR (fun x => !F.contains x && letsB L x) eR (by simp [twoR]) (by simp [twoR]) (fun x hx acc => ?_) ?_
    · have hs : Sq (S ++ Cell.lst (F.map eR) :: (C ++ [Cell.lst [eR (byTwo l m l.r m.r), eR (byTwo l m l.r (-m.r))]]) ++ [Cell.lst acc]) d (L.map eL) := by
        rw [List.append_assoc]
        exact hd _ _
      have lt' := lt _ x hx hs
      simp at lt'
      simp [ev_Rs, lt']
      exact ⟨fun h1 _ hx => h1 x hx rfl, fun a ha e hx => absurd (e ▸ ha) hx⟩
    · have hl2 : ((twoR l m).filter fun x => !F.contains x && letsB L x).length ≤ 2 := List.length_filter_le _ _
      have e2 : addMet L F l m = F ++ (twoR l m).filter fun x => !F.contains x && letsB L x := by unfold addMet; rw [if_pos hc]
      rw [e2] at hg
      generalize (twoR l m).filter (fun x => !F.contains x && letsB L x) = N at *
      simp
      refine ⟨by omega, ?_⟩
      have := hg [Cell.lst [eR (byTwo l m l.r m.r), eR (byTwo l m l.r (-m.r))], .lst (N.map eR)]
      simpa using this _ _
theorem met_len (h : OkL L) (hlen : L.length ≤ 12) : ∀ k, k ≤ L.length → (metTo L k).length ≤ 2 * (k * 12) := by
  have add : ∀ (l : Ln) (T : List Ln) (F : List Ry), (metIn L l F T).length ≤ F.length + 2 * T.length := fun l T => by
    induction T with
    | nil => intro F; simp [metIn]
    | cons m T ih =>
      intro F
      have := ih (addMet L F l m)
      have e : metIn L l F (m :: T) = metIn L l (addMet L F l m) T := rfl
      rw [e]
      have : (addMet L F l m).length ≤ F.length + 2 := by
        unfold addMet
        split
        · rw [List.length_append]
          have : ((twoR l m).filter fun x => !F.contains x && letsB L x).length ≤ 2 := List.length_filter_le _ _
          omega
        · omega
      simp
      omega
  intro k
  induction k with
  | zero => intro _; simp [metTo]
  | succ k ih =>
    intro hk
    have := ih (by omega)
    unfold metTo
    cases hl : L[k]? with
    | none => dsimp only; omega
    | some l =>
      dsimp only
      have := add l (L.take k) (metTo L k)
      simp at this
      omega
theorem iMet_run {gg : SPt} {i : Nat} {C : Store} {T : List Ln} {o4 o5 o6 : Option D} {chk : Store → Prop} (h : GL L g) (hl : l ∈ L) (hT : ∀ m ∈ T, m ∈ L) (hTl : T.length ≤ 12) (hd : ∀ c C', Sq (S ++ c :: C') d (L.map eL)) (hF : F.length ≤ 400) (hchk : ∀ c C', chk (S ++ c :: (C ++ C')))
    (hg : ∀ (C' : Store) (o4 o5 o6 : Option D), gg.nx [some d, some (.ref S.length), some (.int i), some (eL l), o4, o5, o6] (S ++ .lst ((metIn L l F T).map eR) :: (C ++ C'))) :
    Sok (forRun (gN 4) bMet chk (T.map eL) [some d, some (.ref S.length), some (.int i), some (eL l), o4, o5, o6] (S ++ .lst (F.map eR) :: C)) gg := by
  have add : ∀ (T : List Ln) (F : List Ry), (metIn L l F T).length ≤ F.length + 2 * T.length := fun T => by
    induction T with
    | nil => intro F; simp [metIn]
    | cons m T ih =>
      intro F
      have := ih (addMet L F l m)
      have e : metIn L l F (m :: T) = metIn L l (addMet L F l m) T := rfl
      rw [e]
      have : (addMet L F l m).length ≤ F.length + 2 := by
        unfold addMet
        split
        · rw [List.length_append]
          have : ((twoR l m).filter fun x => !F.contains x && letsB L x).length ≤ 2 := List.length_filter_le _ _
          omega
        · omega
      simp
      omega
  refine sok_forRun (fun j e S' => ∃ (C' : Store) (o4 o5 o6 : Option D), e = [some d, some (.ref S.length), some (.int i), some (eL l), o4, o5, o6] ∧ S' = S ++ .lst ((metIn L l F (T.take j)).map eR) :: (C ++ C')) _ (fun j e S' hh => ?_) ?_ ?_ _ _ ⟨[], o4, o5, o6, rfl, by simp [metIn]⟩
  · obtain ⟨C', _, _, _, _, rfl⟩ := hh
    exact hchk _ _
  · rintro j x e S' hj ⟨C', o4, o5, o6, rfl, rfl⟩
    rw [List.getElem?_map] at hj
    obtain ⟨m, hm, rfl⟩ := Option.map_eq_some_iff.mp hj
    have et : metIn L l F (T.take (j + 1)) = addMet L (metIn L l F (T.take j)) l m := by
      have : T.take (j + 1) = T.take j ++ [m] := by rw [List.take_succ, hm]; rfl
      rw [this]
      unfold metIn
      rw [List.foldl_append]
      rfl
    rw [et]
    have hlen := add (T.take j) F
    simp at hlen
    refine ⟨_, rfl, ?_⟩
    refine bMet_ok h hl (hT m (List.mem_of_getElem? hm)) hd (by omega) fun C2 o5 o6 => ?_
    exact ⟨C' ++ C2, _, _, _, rfl, by simp⟩
  · rintro e S' ⟨C', o4, o5, o6, rfl, rfl⟩
    rw [List.length_map, List.take_length]
    exact hg _ _ _ _
theorem opposite_eq : m_opposite [eR r] S = .ok (eR (opp r)) S := by
  refine Rok.eq ?_
  unfold m_opposite
  simp [rok_def, opp]
theorem met_eq (h : GL L g) (hn : Sq S d (L.map eL)) : m_met_by_two [d] S = .ok (.ref S.length) (S ++ [.lst ((met L).map eR)]) := by
  have hlen := h.len
  have ml := fun k hk => met_len h.ok hlen k hk
  have hd : ∀ c C', Sq (S ++ c :: C') d (L.map eL) := fun c C' => hn.app
  refine Rok.eq ?_
  unfold m_met_by_two
  obtain ⟨A, hA⟩ : ∃ A, A = bMet := ⟨_, rfl⟩
  have hA2 := hA
  unfold bMet at hA2
  rw [← hA2]
  clear hA2
  simp [rok_def, sok_for]
  refine Sq.enum (hn.app) fun chk hchk => ?_
  refine sok_forRun (fun i e S' => ∃ (C : Store) (o2 o3 o4 o5 o6 : Option D), e = [some d, some (.ref S.length), o2, o3, o4, o5, o6] ∧ S' = S ++ .lst ((metTo L i).map eR) :: C) _ (fun i e S' hh => ?_) ?_ ?_ _ _ ⟨[], none, none, none, none, none, rfl, by simp [metTo]⟩
  · obtain ⟨C, _, _, _, _, _, _, rfl⟩ := hh
    exact hchk _ (hd _ _)
  · rintro i x e S' hi ⟨C, o2, o3, o4, o5, o6, rfl, rfl⟩
    obtain ⟨y, hy, rfl⟩ := enum_get hi
    rw [List.getElem?_map] at hy
    obtain ⟨l, hl, rfl⟩ := Option.map_eq_some_iff.mp hy
    have hi12 : i < L.length := (List.getElem?_eq_some_iff.mp hl).1
    have el : metTo L (i + 1) = metIn L l (metTo L i) (L.take i) := by
      show (match L[i]? with | some l => metIn L l (metTo L i) (L.take i) | none => metTo L i) = _
      rw [hl]
    have hF := ml i (by omega)
    have lm := List.mem_of_getElem? hl
    have cut : cutL (L.map eL) none (some (i : Int)) = (L.take i).map eL := by rw [cut_to (by simp; omega), List.map_take]
    rw [el]
    simp [sok_for]
    refine Sq.sl2 (hd _ _) ?_ ?_
    · rw [cut]
      simp
      rw [hA, ← List.map_take]
      exact iMet_run (T := L.take i) (F := metTo L i) (C := C) h lm (fun m hm => List.mem_of_mem_take hm) (by simp; omega) hd (by omega) (fun _ _ => trivial) fun C' o4 o5 o6 => ⟨_, _, _, _, _, _, rfl, rfl⟩
    · rw [cut]
      simp
      rw [hA, ← List.map_take]
      refine iMet_run (i := i) (T := L.take i) (F := metTo L i) (C := C ++ [.lst ((L.take i).map eL)]) h lm (fun m hm => List.mem_of_mem_take hm) (by simp; omega) hd (by omega) ?_ ?_
      · intro c C'
        simp
      · intro C' o4 o5 o6
        exact ⟨_, _, _, _, _, _, rfl, rfl⟩
  · rintro e S' ⟨C, o2, o3, o4, o5, o6, rfl, rfl⟩
    rw [enum_len, List.length_map]
    have hF := ml L.length (Nat.le_refl _)
    have em : met L = metTo L L.length ++ ((metTo L L.length).filter fun x => !(metTo L L.length).contains (opp x)).map opp := rfl
    rw [em]
    generalize metTo L L.length = F at *
    simp
    refine comp_then F eR (fun x => !F.contains (opp x)) (fun x => eR (opp x)) (by simp) (by simp; omega) (fun x hx acc => ?_) ?_
    · simp [opposite_eq, ev_Rs]
      have := ev_Rs (F := F) (x := opp x)
      rw [List.any_map] at this
      rw [this]
      simp
    · have hl2 := List.length_filter_le (fun x => !F.contains (opp x)) F
      have e1 : (F.filter fun x => !F.contains (opp x)).map (fun x => eR (opp x)) = ((F.filter fun x => !F.contains (opp x)).map opp).map eR := by rw [List.map_map]; rfl
      rw [e1]
      generalize F.filter (fun x => !F.contains (opp x)) = N at *
      simp
      refine ⟨by omega, ?_⟩
      have := rok_gcr (S := S) (C := Cell.lst (F.map eR) :: (C ++ [Cell.lst (N.map (eR ∘ opp)), Cell.lst (F.map eR ++ N.map (eR ∘ opp))])) (k := C.length + 1 + 1) (l := (F ++ N.map opp).map eR) (P := fun x S' => x = D.ref (List.length S) ∧ S' = S ++ [Cell.lst (List.map eR (F ++ List.map opp N))]) (by simp) un_R
      exact this.mpr ⟨rfl, rfl⟩
end
end Rg
end
section
set_option exponentiation.threshold 10000
set_option maxHeartbeats 2000000
namespace Rg
open PySem L2
section
variable {S : Store} {L : List Ln} {g n k : Nat} {d : D} {v : Ry} {V : List Ry}
theorem zip_R {a b : Ry} {P : Wk → Store → Prop} : Rok (fZip [eR a, eR b] S) P ↔ P ⟨[.tup [eQ a.y, eQ b.y], .tup [eQ a.u, eQ b.u]], fun _ => True⟩ S := by
  show Rok (fZip [.tup [eQ a.y, eQ a.u], .tup [eQ b.y, eQ b.u]] S) P ↔ _
  rw [rok_zipT]
  exact Iff.rfl
theorem num_lt {p q : Rat} : (p - q).num < 0 ↔ p < q := by
  have := Rat.num_nonneg (q := p - q)
  constructor
  · intro h
    refine Classical.byContradiction fun hn => ?_
    have : 0 ≤ p - q := by grind
    have := Rat.num_nonneg.mpr this
    omega
  · intro h
    refine Classical.byContradiction fun hn => ?_
    have : 0 ≤ p - q := Rat.num_nonneg.mp (by omega)
    grind
theorem num_gt {q : Rat} : 0 < q.num ↔ 0 < q := by
  have h1 := Rat.num_nonneg (q := q)
  have h2 := Rat.num_eq_zero (q := q)
  constructor
  · intro h
    refine Classical.byContradiction fun hn => ?_
    by_cases hz : q = 0
    · have := h2.mpr hz
      omega
    · have := h1.mp (by omega)
      grind
  · intro h
    have a := h1.mpr (Rat.le_of_lt h)
    refine Classical.byContradiction fun hn => ?_
    have := h2.mp (by omega)
    grind
theorem is_least_eq {a b : Ry} (ha : SzR a k) (hb : SzR b k) (hk : k ≤ 4000) : m_is_least [eR a, eR b] S = .ok (.bl (isLeast a b)) S := by
  have a1 := szr_y ha; have a2 := szr_u ha; have b1 := szr_y hb; have b2 := szr_u hb
  have hk2 : k + k ≤ 8998 := by omega
  refine Rok.eq ?_
  unfold m_is_least
  simp [rok_def, sok_for, zip_R, hk2, num_lt]
  unfold isLeast
  refine ⟨fun h => by simp [h], fun h => ⟨fun h2 => by simp [h], fun h2 => by simp [h, h2, Rat.lt_irrefl]⟩⟩
theorem least_eq (hn : lstOf S n = some (V.map eR)) (hV : V ≠ []) (hs : ∀ x ∈ V, SzR x k) (hk : k ≤ 4000) : m_least_ray [.ref n] S = .ok (eR (leastR V)) S := by
  match V, hV with
  | f :: l, _ =>
    have i0 : atI (eR f :: l.map eR) 0 = some (eR f) := atI_nat (j := 0) (by simp)
    simp only [List.map_cons] at hn
    refine Rok.eq ?_
    unfold m_least_ray
    simp [rok_def, hn, i0]
    have il := fun (T : Store) (a b : Ry) (ha : a ∈ f :: l) (hb : b ∈ f :: l) => is_least_eq (S := T) (hs a ha) (hs b hb) hk
    have ef : (eR f :: l.map eR) = (f :: l).map eR := rfl
    simp [sok_for, hn, -sok_forCons]
    rw [ef] at hn ⊢
    refine sok_forRun (fun i e S' => S' = S ∧ ∃ o, e = [some (.ref n), some (eR (pickL f ((f :: l).take i))), o] ∧ pickL f ((f :: l).take i) ∈ f :: l) _ (fun i e S' hh => ?_) ?_ ?_ _ _ ⟨rfl, none, rfl, by simp [pickL]⟩
    · obtain ⟨rfl, _⟩ := hh
      exact hn
    · rintro i x e S' hi ⟨rfl, o, rfl, hm⟩
      rw [List.getElem?_map] at hi
      obtain ⟨x, hx, rfl⟩ := Option.map_eq_some_iff.mp hi
      have xm := List.mem_of_getElem? hx
      have et : pickL f ((f :: l).take (i + 1)) = if isLeast x (pickL f ((f :: l).take i)) then x else pickL f ((f :: l).take i) := by
        have : (f :: l).take (i + 1) = (f :: l).take i ++ [x] := by rw [List.take_succ, hx]; rfl
        rw [this]
        unfold pickL
        rw [List.foldl_append]
        rfl
      rw [et]
      generalize pickL f ((f :: l).take i) = y at *
      simp
      rw [il _ _ _ xm hm]
      cases hc : isLeast x y
      · simp
        simpa using hm
      · simp
        simpa using xm
    · rintro e S' ⟨rfl, o, rfl, hm⟩
      rw [List.length_map, List.take_length]
      simp
      rfl
theorem next_eq (hn : lstOf S n = some (V.map eR)) (hl : V.length ≤ 1000) (hs : ∀ x ∈ V, SzR x k) (hv : SzR v k) (hk : k ≤ 2000) (hne : nxL V v ≠ []) : m_next_around [.ref n, eR v] S = .ok (eR (nxt V v)) S := by
  have hn' := lstOf_lt hn
  have cr := fun (T : Store) (a b : Ry) (ha : SzR a k) (hb : SzR b k) => m_cross_eq (S := T) (r := a) (s := b) (i := k) (j := k) (by omega)
  refine Rok.eq ?_
  unfold m_next_around
  simp [rok_def]
  refine comp_then V eR (fun x => decide (0 < v.cross x)) eR (by simp [hn, hn']) (by simp; omega) (fun x hx acc => ?_) ?_
  · simp
    rw [cr _ _ _ hv (hs x hx)]
    simp [num_gt]
  · have hT : ∀ x ∈ nxL V v, SzR x k := fun x hx => hs x (mem_nxL.mp hx).1
    have hnx : V.filter (fun x => decide (0 < v.cross x)) = nxL V v := rfl
    have hle : (nxL V v).length ≤ V.length := List.length_filter_le _ _
    rw [hnx]
    unfold nxt
    generalize nxL V v = W at *
    match W, hne with
    | f :: l, _ =>
      have i0 : atI (eR f :: l.map eR) 0 = some (eR f) := atI_nat (j := 0) (by simp)
      simp [sok_for, i0, -sok_forCons]
      have ef : (eR f :: l.map eR) = (f :: l).map eR := rfl
      rw [ef]
      refine sok_forRun (fun i e S' => S' = S ++ [.lst ((f :: l).map eR)] ∧ ∃ o, e = [some (.ref n), some (eR v), some (.ref S.length), some (eR (pickN f ((f :: l).take i))), o] ∧ pickN f ((f :: l).take i) ∈ f :: l) _ (fun i e S' hh => ?_) ?_ ?_ _ _ ⟨rfl, none, rfl, by simp [pickN]⟩
      · obtain ⟨rfl, _⟩ := hh
        simp
      · rintro i x e S' hi ⟨rfl, o, rfl, hm⟩
        rw [List.getElem?_map] at hi
        obtain ⟨x, hx, rfl⟩ := Option.map_eq_some_iff.mp hi
        have xm := List.mem_of_getElem? hx
        have et : pickN f ((f :: l).take (i + 1)) = if 0 < x.cross (pickN f ((f :: l).take i)) then x else pickN f ((f :: l).take i) := by
          have : (f :: l).take (i + 1) = (f :: l).take i ++ [x] := by rw [List.take_succ, hx]; rfl
          rw [this]
          unfold pickN
          rw [List.foldl_append]
          rfl
        rw [et]
        generalize pickN f ((f :: l).take i) = y at *
        simp
        rw [cr _ _ _ (hT x xm) (hT y hm)]
        by_cases hc : 0 < x.cross y
        · simp [num_gt, hc]
          simpa using xm
        · simp [num_gt, hc]
          simpa using hm
      · rintro e S' ⟨rfl, o, rfl, hm⟩
        rw [List.length_map, List.take_length]
        simp
theorem corners_none (h : GL L g) (hn : Sq S d (L.map eL)) (hz : met L = []) : m_corners [d] S = .ok .non S := by
  refine Rok.eq ?_
  unfold m_corners
  simp [rok_def]
  rw [met_eq h hn, hz]
  simp
theorem corners_some (h : GL L g) (hn : Sq S d (L.map eL)) (hz : met L ≠ []) : m_corners [d] S = .ok (.ref S.length) (S ++ [.lst (((List.range (met L).length).map (itN (met L) (leastR (met L)))).map eR)]) := by
  have hle := h.le
  have hlen := h.len
  have ml : (met L).length ≤ 600 := by
    have := met_len h.ok hlen L.length (Nat.le_refl _)
    unfold met
    rw [List.length_append, List.length_map]
    have := List.length_filter_le (fun x => !(metTo L L.length).contains (opp x)) (metTo L L.length)
    omega
  have hs : ∀ x ∈ met L, SzR x (2 * g + 1) := fun x hx => h.met hx
  have oc := met_okC h.ok hz
  have hl := (leastR_ok hz).1
  have it := it_vx oc (mem_met h.ok) ((mem_met h.ok _).mp hl)
  have itm : ∀ i, itN (met L) (leastR (met L)) i ∈ met L := fun i => (mem_met h.ok _).mpr (it i).1
  have itn : ∀ i, nxL (met L) (itN (met L) (leastR (met L)) i) ≠ [] := fun i => by
    obtain ⟨l, hsd⟩ := (it i).2
    exact (nxt_side oc (mem_met h.ok) hsd).2
  have pos : 0 < (met L).length := List.length_pos_iff.mpr hz
  refine Rok.eq ?_
  unfold m_corners
  simp [rok_def]
  rw [met_eq h hn]
  clear it
  generalize met L = V at *
  have ee : PyData.eqvAll (V.map pR) [] = false := by
    match V, hz with
    | _ :: _, _ => rfl
  simp [ee]
  rw [least_eq (V := V) (by simp) hz hs (by omega)]
  simp
  refine sok_while (fun e S' => ∃ (j : Nat) (C : Store), 1 ≤ j ∧ j ≤ V.length ∧ e = [some d, some (.ref S.length), some (.ref (S.length + 2))] ∧ S' = S ++ .lst (V.map eR) :: .lst [] :: .lst (((List.range j).map (itN V (leastR V))).map eR) :: C)
    (fun e S' => V.length - (match S'[S.length + 2]? with | some (.lst l) => l.length | _ => 0)) ?_ _ _ ⟨1, [], by omega, by omega, rfl, by simp [itN]⟩
  rintro e S' ⟨j, C, h1, h2, rfl, rfl⟩
  obtain ⟨i, rfl⟩ : ∃ i, j = i + 1 := ⟨j - 1, by omega⟩
  have er : (List.range (i + 1)).map (itN V (leastR V)) = (List.range i).map (itN V (leastR V)) ++ [itN V (leastR V) i] := by rw [List.range_succ, List.map_append]; rfl
  have er2 : (List.range (i + 2)).map (itN V (leastR V)) = (List.range i).map (itN V (leastR V)) ++ [itN V (leastR V) i, itN V (leastR V) (i + 1)] := by rw [List.range_succ, List.range_succ, List.map_append, List.map_append]; simp
  have last : atI (((List.range i).map (itN V (leastR V)) ++ [itN V (leastR V) i]).map eR) (-1) = some (eR (itN V (leastR V) i)) := by rw [List.map_append]; exact atI_last
  have nx := fun T (hT : lstOf T S.length = some (V.map eR)) => next_eq (S := T) (n := S.length) (k := 2 * g + 1) hT (by omega) hs (hs _ (itm i)) (by omega) (itn i)
  rw [er]
  simp at last
  simp [last]
  refine ⟨fun hlt => ?_, fun hge => ?_⟩
  · rw [nx _ (by simp)]
    simp
    refine ⟨by omega, ⟨i + 2, by omega, by omega, ?_⟩, Nat.sub_lt_sub_left (show i + 1 < V.length by omega) (Nat.lt_succ_self (i + 1))⟩
    have := congrArg (List.map eR) er2
    rw [List.map_map] at this
    rw [this]
    simp
    rfl
  · have : i + 1 = V.length := by omega
    rw [← this, er]
    have := rok_gcr (S := S) (C := Cell.lst (V.map eR) :: .lst [] :: .lst (((List.range i).map (itN V (leastR V)) ++ [itN V (leastR V) i]).map eR) :: C) (k := 2) (l := ((List.range i).map (itN V (leastR V)) ++ [itN V (leastR V) i]).map eR) (P := fun x S' => x = D.ref (List.length S) ∧ S' = S ++ [Cell.lst (((List.range i).map (itN V (leastR V)) ++ [itN V (leastR V) i]).map eR)]) rfl un_R
    simpa using this.mpr ⟨rfl, rfl⟩
end
end Rg
end
section
set_option exponentiation.threshold 10000
set_option maxHeartbeats 2000000
namespace Rg
open PySem L2
def eSh (x : Nat × Rat) : D := .tup [.int (x.1 : Nat), eQ x.2]
@[simp] theorem eSh_fr {x : Nat × Rat} {N : Nat} : (eSh x).fresh N = none := by simp [eSh]
end Rg
end
section
set_option exponentiation.threshold 10000
set_option maxHeartbeats 2000000
namespace Rg
open PySem L2
def Pts (b : Nat) (C : Store) : List D → List (List (Nat × Rat)) → Prop
  | [], [] => True
  | k :: ks, sh :: shs => (∃ j, k = .ref (b + j) ∧ C[j]? = some (.lst (sh.map eSh))) ∧ Pts b C ks shs
  | _, _ => False
theorem Pts.app {b : Nat} {C C' : Store} : ∀ {ks : List D} {shs : List (List (Nat × Rat))}, Pts b C ks shs → Pts b (C ++ C') ks shs
  | [], [], _ => trivial
  | k :: ks, sh :: shs, ⟨⟨j, e, hj⟩, h⟩ => ⟨⟨j, e, by rw [List.getElem?_append_left (List.getElem?_eq_some_iff.mp hj).1]; exact hj⟩, h.app⟩
  | [], _ :: _, h => h.elim
  | _ :: _, [], h => h.elim
theorem Pts.len {b : Nat} {C : Store} : ∀ {ks : List D} {shs : List (List (Nat × Rat))}, Pts b C ks shs → ks.length = shs.length
  | [], [], _ => rfl
  | k :: ks, sh' :: shs, ⟨h1, h⟩ => by simp [h.len]
  | [], _ :: _, h => h.elim
  | _ :: _, [], h => h.elim
theorem Pts.get {b : Nat} {C : Store} : ∀ {ks : List D} {shs : List (List (Nat × Rat))} {i : Nat} {k : D}, Pts b C ks shs → ks[i]? = some k → ∃ j sh, shs[i]? = some sh ∧ k = .ref (b + j) ∧ C[j]? = some (.lst (sh.map eSh))
  | [], _, i, k, _, h => by simp at h
  | k' :: ks, sh' :: shs, 0, k, ⟨⟨j, e, hj⟩, _⟩, h => by
    simp at h
    subst h
    exact ⟨j, sh', by simp, e, hj⟩
  | k' :: ks, sh' :: shs, i + 1, k, ⟨_, h⟩, h2 => by
    obtain ⟨j, sh, a, b⟩ := h.get (i := i) (k := k) (by simpa using h2)
    exact ⟨j, sh, by simpa using a, b⟩
  | _ :: _, [], _, _, h, _ => h.elim
end Rg
end
section
set_option exponentiation.threshold 10000
set_option maxHeartbeats 2000000
namespace Rg
open PySem L2
structure ShS (L : List Ln) (b : Nat) (sh : List (Nat × Rat)) : Prop where
  len : sh.length ≤ 2
  idx : ∀ x ∈ sh, ∃ l, L[x.1]? = some l
  sz : ∀ x ∈ sh, Sz x.2 b
end Rg
end
set_option maxHeartbeats 2000000
namespace Rg
def crnL (L : List Ln) : List Ry := (List.range (met L).length).map (itN (met L) (leastR (met L)))
def freeR (L : List Ln) (c : Ry) : Ry := match L with
  | [] => c
  | l :: _ => if 0 < dot c ⟨0 - l.q, l.p⟩ then ⟨0 - l.q, l.p⟩ else ⟨l.q, 0 - l.p⟩
def FreeB (L : List Ln) (c : Ry) : Prop := c ≠ ⟨0, 0⟩ ∧ (∀ l ∈ L, crL c l ≠ 0) ∧ ∀ l ∈ L, ∀ m ∈ L, lcr l m = 0
variable {L : List Ln} {c : Ry} {l m : Ln} {sh : List (Nat × Rat)}
theorem mem_crnL (ok : OkL L) (h : met L ≠ []) {x : Ry} : x ∈ crnL L ↔ x ∈ met L := by
  have oc := met_okC ok h
  exact (around oc (mem_met ok) (nodup_met ok) (leastR_ok h).1).2.2.1 x
theorem sq_pos {x : Rat} (h : x ≠ 0) : 0 < x * x := by
  rcases Classical.em (0 < x) with h1 | h1
  · exact mul_pp h1 h1
  · have := mul_pp (show 0 < -x by grind) (show 0 < -x by grind)
    grind
theorem dot_self (h : c ≠ ⟨0, 0⟩) : 0 < dot c c := by
  unfold dot
  by_cases hy : c.y = 0
  · by_cases hu : c.u = 0
    · exact absurd (Ry.ext' hy hu) h
    · have := sq_pos hu
      rw [hy]
      grind
  · have a := sq_pos hy
    by_cases hu : c.u = 0
    · rw [hu]; grind
    · have := sq_pos hu
      grind
theorem free_ok (h : FreeB L c) : (∀ l ∈ L, worth l (freeR L c) = 0) ∧ 0 < dot c (freeR L c) := by
  obtain ⟨h0, h1, h2⟩ := h
  cases L with
  | nil => exact ⟨by simp, dot_self h0⟩
  | cons a T =>
    have hz := h1 a (by simp)
    have along : ∀ l ∈ a :: T, lcr a l = 0 := fun l hl => h2 a (by simp) l hl
    unfold freeR
    dsimp only
    split
    · rename_i hp
      refine ⟨fun l hl => ?_, hp⟩
      have := along l hl
      unfold worth lcr at *
      dsimp only
      grind
    · rename_i hp
      refine ⟨fun l hl => ?_, ?_⟩
      · have := along l hl
        unfold worth lcr at *
        dsimp only
        grind
      · unfold dot crL at *
        dsimp only at *
        grind
end Rg
section
set_option exponentiation.threshold 10000
set_option maxHeartbeats 2000000
namespace Rg
open PySem L2
section
variable {S : Store} {L : List Ln} {l m : Ln} {g h n k i j : Nat} {d : D} {c : Ry} {sh : List (Nat × Rat)}
theorem crnL_sz (hG : GL L g) (hm : met L ≠ []) : ∀ x ∈ crnL L, SzR x (2 * g + 1) := fun x hx => hG.met ((mem_crnL hG.ok hm).mp hx)
theorem crnL_len : (crnL L).length = (met L).length := by unfold crnL; simp
theorem metL_len (hG : GL L g) : (met L).length ≤ 600 := by
  have hlen := hG.len
  have := met_len hG.ok hlen L.length (Nat.le_refl _)
  unfold met
  rw [List.length_append, List.length_map]
  have := List.length_filter_le (fun x => !(metTo L L.length).contains (opp x)) (metTo L L.length)
  omega
theorem Pts.toP {b : Nat} {T C : Store} : ∀ {ks : List D} {shs : List (List (Nat × Rat))}, Pts b C ks shs → (∀ (j : Nat) (sh : List (Nat × Rat)), C[j]? = some (.lst (sh.map eSh)) → lstOf T (b + j) = some (sh.map eSh)) → ∃ r, allP (Rg.toP T 59) ks = some r ∧ r.length = ks.length
  | [], [], _, _ => ⟨[], rfl, rfl⟩
  | k :: ks, sh :: shs, ⟨⟨j, e, hj⟩, h⟩, hT => by
    obtain ⟨r, h1, h2⟩ := h.toP hT
    have : Rg.toP T 59 k = some (.list (sh.map fun x => .tuple [.int (x.1 : Nat), pQ x.2])) := by
      rw [e]
      show (match lstOf T (b + j) with | some l => (allP (Rg.toP T 58) l).map PyData.list | none => none) = _
      rw [hT j sh hj]
      dsimp only
      rw [allP_map (pen := fun x => .tuple [.int (x.1 : Nat), pQ x.2]) (fun x _ => by unfold eSh; simp)]
      rfl
    exact ⟨.list (sh.map fun x => .tuple [.int (x.1 : Nat), pQ x.2]) :: r, by simp [this, h1], by simp [h2]⟩
  | [], _ :: _, h, _ => h.elim
  | _ :: _, [], h, _ => h.elim
end
end Rg
end
section
set_option exponentiation.threshold 10000
set_option maxHeartbeats 2000000
namespace Rg
open PySem L2
@[simp] theorem ok_free : PyData.strOk ("free" : Str) = true := by decide +kernel
@[simp] theorem ok_most : PyData.strOk ("most" : Str) = true := by decide +kernel
@[simp] theorem ne_mf : (("most" : Str) = ("free" : Str)) ↔ False := by decide +kernel
@[simp] theorem ne_fm : (("free" : Str) = ("most" : Str)) ↔ False := by decide +kernel
@[simp] theorem ev_ff : PyData.eqv (.str ("free" : Str)) (.str ("free" : Str)) = true := by decide +kernel
@[simp] theorem ev_mf : PyData.eqv (.str ("most" : Str)) (.str ("free" : Str)) = false := by decide +kernel
@[simp] theorem ev_fm : PyData.eqv (.str ("free" : Str)) (.str ("most" : Str)) = false := by decide +kernel
@[simp] theorem ev_mm : PyData.eqv (.str ("most" : Str)) (.str ("most" : Str)) = true := by decide +kernel
theorem rok_iff {A : Type} {r : Res A} {P Q : A → Store → Prop} (h : ∀ a S, P a S ↔ Q a S) : Rok r P ↔ Rok r Q := ⟨fun x => x.imp fun a S => (h a S).mp, fun x => x.imp fun a S => (h a S).mpr⟩
@[simp] theorem rok_chain {f g : D → D → Store → Res D} {sa sb sc : SE} {env : Env} {S : Store} {P : D → Store → Prop} : Rok (sChain f g sa sb sc env S) P ↔ Rok (sa env S) fun d S1 => Rok (sb env S1) fun e S2 => Rok (f d e S2) fun r S3 => onB r fun b => (b = true → Rok (sc env S3) fun u S4 => Rok (g e u S4) P) ∧ (b = false → P (.bl false) S3) := by
  unfold sChain
  rw [rok_bind]
  refine rok_iff fun d S1 => ?_
  rw [rok_bind]
  refine rok_iff fun e S2 => ?_
  rw [rok_bind]
  refine rok_iff fun r S3 => ?_
  cases r with
  | bl b => cases b <;> simp [rok_bind, onB]
  | _ => simp [onB]
end Rg
end
section
set_option exponentiation.threshold 10000
namespace Rg
open PySem L2
structure LnP (l : Ln) : Prop where
  s : LnS l 45
  pos : 0 < l.r
  p41 : Sz l.p 41
  q41 : Sz l.q 41
  r5 : Sz l.r 5
def F95 (L : List Ln) : Prop := ∃ G : Nat, 0 < G ∧ G < 2 ^ (95 * L.length + 1) ∧ ∀ l ∈ L, OvL G (95 * L.length + 1) l
def Fam2 (L : List Ln) : Prop := Fam L ∧ (∀ l ∈ L, 0 < l.r) ∧ F95 L
theorem f95_nil : F95 [] := ⟨1, by decide, by decide, by simp⟩
theorem f95_snoc {L : List Ln} {l : Ln} (hF : F95 L) (h : ∀ G, 0 < G → G < 2 ^ (95 * L.length + 1) → (∀ l ∈ L, OvL G (95 * L.length + 1) l) → ∃ E, 0 < E ∧ E < 2 ^ 90 ∧ OvL (G * E) (95 * L.length + 93) l) : F95 (L ++ [l]) := by
  obtain ⟨G, g0, g1, g2⟩ := hF
  obtain ⟨E, e0, e1, e2⟩ := h G g0 g1 g2
  have k1 : G * E < 2 ^ (95 * L.length + 1 + 90) := mul_lt2 g1 e1
  refine ⟨G * E, Nat.mul_pos g0 e0, Nat.lt_of_lt_of_le k1 (pow_le (by simp; omega)), fun m hm => ?_⟩
  have hk : 95 * L.length + 1 + 90 ≤ 95 * (L ++ [l]).length + 1 := by simp; omega
  have hk2 : 95 * L.length + 93 ≤ 95 * (L ++ [l]).length + 1 := by simp; omega
  rcases List.mem_append.mp hm with hm | hm
  · obtain ⟨a, b, c⟩ := g2 m hm
    exact ⟨(a.up e1).mono hk, (b.up e1).mono hk, (c.up e1).mono hk⟩
  · rw [List.mem_singleton.mp hm]
    exact ⟨e2.1.mono hk2, e2.2.1.mono hk2, e2.2.2.mono hk2⟩
theorem f95_new {L : List Ln} {l : Ln} (hF : F95 L) (h : LnP l) : F95 (L ++ [l]) := by
  refine f95_snoc hF fun G g0 g1 g2 => ⟨l.p.den * l.q.den * l.r.den, Nat.mul_pos (Nat.mul_pos l.p.den_pos l.q.den_pos) l.r.den_pos, Nat.lt_of_lt_of_le (mul_lt2 (mul_lt2 h.p41.den h.q41.den) h.r5.den) (pow_le (by decide)), ?_, ?_, ?_⟩
  · have := ((h.p41.ov.up h.q41.den).up h.r5.den).up g1
    rw [Nat.mul_comm G]
    exact this.mono (by omega)
  · have := ((h.q41.ov.up h.p41.den).up h.r5.den).up g1
    rw [Nat.mul_comm G, Nat.mul_comm l.p.den]
    exact this.mono (by omega)
  · have := (h.r5.ov.up (mul_lt2 h.p41.den h.q41.den)).up g1
    rw [Nat.mul_comm G, Nat.mul_comm _ l.r.den]
    exact this.mono (by omega)
theorem f95_by {L : List Ln} {l m : Ln} {b r : Rat} (hF : F95 L) (hl : l ∈ L) (hm : LnP m) (hb : Sz b 4) (hr : r = l.r ∨ r = m.r) : F95 (L ++ [⟨b * l.p, b * l.q, r⟩]) := by
  refine f95_snoc hF fun G g0 g1 g2 => ⟨b.den * m.r.den, Nat.mul_pos b.den_pos m.r.den_pos, Nat.lt_of_lt_of_le (mul_lt2 hb.den hm.r5.den) (pow_le (by decide)), ?_, ?_, ?_⟩
  · have := (hb.ov.mul (g2 l hl).1).up hm.r5.den
    rw [← Nat.mul_assoc, Nat.mul_comm G]
    exact this.mono (by omega)
  · have := (hb.ov.mul (g2 l hl).2.1).up hm.r5.den
    rw [← Nat.mul_assoc, Nat.mul_comm G]
    exact this.mono (by omega)
  · rcases hr with rfl | rfl
    · have := (g2 l hl).2.2.up (mul_lt2 hb.den hm.r5.den)
      exact this.mono (by omega)
    · have := (hm.r5.ov.up hb.den).up g1
      rw [Nat.mul_comm G, Nat.mul_comm b.den]
      exact this.mono (by omega)
theorem f95_sum {L : List Ln} {l m : Ln} (hF : F95 L) (hl : l ∈ L) (hm : m ∈ L) : F95 (L ++ [⟨l.p + m.p, l.q + m.q, l.r + m.r⟩]) := by
  refine f95_snoc hF fun G g0 g1 g2 => ⟨1, by decide, by decide, ?_, ?_, ?_⟩
  · rw [Nat.mul_one]; exact ((g2 l hl).1.add (g2 m hm).1 (Nat.le_refl _)).mono (by omega)
  · rw [Nat.mul_one]; exact ((g2 l hl).2.1.add (g2 m hm).2.1 (Nat.le_refl _)).mono (by omega)
  · rw [Nat.mul_one]; exact ((g2 l hl).2.2.add (g2 m hm).2.2 (Nat.le_refl _)).mono (by omega)
theorem f95_copy {L : List Ln} {l : Ln} (hF : F95 L) (hl : l ∈ L) : F95 (L ++ [l]) := by
  refine f95_snoc hF fun G g0 g1 g2 => ⟨1, by decide, by decide, ?_, ?_, ?_⟩
  · rw [Nat.mul_one]; exact (g2 l hl).1.mono (by omega)
  · rw [Nat.mul_one]; exact (g2 l hl).2.1.mono (by omega)
  · rw [Nat.mul_one]; exact (g2 l hl).2.2.mono (by omega)
theorem di_pos {t b : Int} (ht : 0 < t) (hb : 0 < b) : 0 < Rat.divInt t b := by
  rw [Rat.divInt_eq_div]
  have h1 : (0 : Rat) < t := Rat.intCast_pos.mpr ht
  have h2 : (0 : Rat) < b := Rat.intCast_pos.mpr hb
  have e := Rat.div_mul_cancel (a := (t : Rat)) (b := (b : Rat)) (by grind)
  generalize (t : Rat) / b = z at *
  refine Classical.byContradiction fun hn => ?_
  have := Rat.mul_nonneg (show 0 ≤ -z by grind) (Rat.le_of_lt h2)
  grind
theorem pos_snoc {L : List Ln} {l : Ln} (h : ∀ l ∈ L, 0 < l.r) (hl : 0 < l.r) : ∀ m ∈ L ++ [l], 0 < m.r := fun m hm => by
  rcases List.mem_append.mp hm with h1 | h1
  · exact h m h1
  · rw [List.mem_singleton.mp h1]; exact hl
theorem fam2_nil : Fam2 [] := ⟨fam_nil, by simp, f95_nil⟩
theorem fam2_new {L : List Ln} {l : Ln} (hF : Fam2 L) (h : LnP l) : Fam2 (L ++ [l]) := ⟨fam_new hF.1 h.s, pos_snoc hF.2.1 h.pos, f95_new hF.2.2 h⟩
theorem fam2_by {L : List Ln} {l m : Ln} {b r : Rat} (hF : Fam2 L) (hl : l ∈ L) (hm : LnP m) (hb : Sz b 4) (hb0 : b ≠ 0) (hnz : l.p ≠ 0 ∨ l.q ≠ 0) (hr : r = l.r ∨ r = m.r) : Fam2 (L ++ [⟨b * l.p, b * l.q, r⟩]) :=
  ⟨fam_by hF.1 hl hm.s hb hb0 hnz hr, pos_snoc hF.2.1 (by rcases hr with rfl | rfl; exact hF.2.1 l hl; exact hm.pos), f95_by hF.2.2 hl hm hb hr⟩
theorem fam2_sum {L : List Ln} {l m : Ln} (hF : Fam2 L) (hl : l ∈ L) (hm : m ∈ L) (hnz : l.p + m.p ≠ 0 ∨ l.q + m.q ≠ 0) : Fam2 (L ++ [⟨l.p + m.p, l.q + m.q, l.r + m.r⟩]) :=
  ⟨fam_sum hF.1 hl hm hnz, pos_snoc hF.2.1 (by have a := hF.2.1 l hl; have b := hF.2.1 m hm; show 0 < l.r + m.r; grind), f95_sum hF.2.2 hl hm⟩
theorem fam2_copy {L : List Ln} {l : Ln} (hF : Fam2 L) (hl : l ∈ L) (hnz : l.p ≠ 0 ∨ l.q ≠ 0) : Fam2 (L ++ [l]) := ⟨fam_copy hF.1 hl hnz, pos_snoc hF.2.1 (hF.2.1 l hl), f95_copy hF.2.2 hl⟩
section
variable {S : Store} {n : Nat} {P : D → Store → Prop}
theorem line_then2 (hp : Pool S n) (h : ∀ (l : Ln) (a b c : Int), LnP l → P (eL l) (S.set n (pl a b c))) : Rok (m_l_line [.ref n] S) P := by
  have hn : n < S.length := hp.lt
  have hn' : ¬ S.length = n := by omega
  unfold m_l_line
  simp [rok_def]
  refine number_then hp fun p x y z hp1 => ?_
  simp
  refine number_then inferInstance fun q x y z hq1 => ?_
  simp
  by_cases hz : p = 0 ∧ q = 0
  · obtain ⟨rfl, rfl⟩ := hz
    simp
    refine next_then inferInstance (by decide) (by decide) fun v x y z v0 v1 => ?_
    simp
    refine next_then inferInstance (by decide) (by decide) fun u x y z u0 u1 => ?_
    simp [hn]
    refine next_then inferInstance (by decide) (by decide) fun w x y z w0 w1 => ?_
    simp [hn, hn']
    refine ix_all w0 (by simpa using w1) fun d hd => ?_
    obtain ⟨b, rfl, b0, b1⟩ : ∃ b : Int, d = .int b ∧ 0 < b ∧ b < 6 := by
      simp at hd
      rcases hd with rfl | rfl | rfl | rfl <;> exact ⟨_, rfl, by decide, by decide⟩
    refine low_then 5 (by omega) (by omega) (by omega) (by decide) fun hr => ?_
    simp [hn, hn']
    have e1 : (1 : Rat) + (v : Rat) = ((1 + v : Int) : Rat) := by rw [Rat.intCast_add]; rfl
    rw [e1]
    have hv : Sz (((1 + v : Int)) : Rat) 45 := ⟨by rw [Rat.num_intCast]; omega, by rw [Rat.den_intCast]; decide⟩
    refine h ⟨_, _, _⟩ _ _ _ ⟨⟨hv, hq1.mono (by decide), hr.mono (by decide), .inl ?_⟩, di_pos (by omega) b0, ⟨by show (Rat.num _).natAbs < _; rw [Rat.num_intCast]; omega, by show Rat.den _ < _; rw [Rat.den_intCast]; decide⟩, hq1, hr⟩
    intro e
    have := Rat.intCast_eq_zero_iff.mp e
    omega
  · have hz' : p ≠ 0 ∨ q ≠ 0 := by grind
    rcases hz' with hz' | hz'
    · simp [hz']
      refine next_then inferInstance (by decide) (by decide) fun u x y z u0 u1 => ?_
      simp [hn]
      refine next_then inferInstance (by decide) (by decide) fun w x y z w0 w1 => ?_
      simp [hn, hn']
      refine ix_all w0 (by simpa using w1) fun d hd => ?_
      obtain ⟨b, rfl, b0, b1⟩ : ∃ b : Int, d = .int b ∧ 0 < b ∧ b < 6 := by
        simp at hd
        rcases hd with rfl | rfl | rfl | rfl <;> exact ⟨_, rfl, by decide, by decide⟩
      refine low_then 5 (by omega) (by omega) (by omega) (by decide) fun hr => ?_
      simp [hn, hn']
      exact h ⟨p, q, _⟩ _ _ _ ⟨⟨hp1.mono (by decide), hq1.mono (by decide), hr.mono (by decide), .inl hz'⟩, di_pos (by omega) b0, hp1, hq1, hr⟩
    · simp [hz']
      refine next_then inferInstance (by decide) (by decide) fun u x y z u0 u1 => ?_
      simp [hn]
      refine next_then inferInstance (by decide) (by decide) fun w x y z w0 w1 => ?_
      simp [hn, hn']
      refine ix_all w0 (by simpa using w1) fun d hd => ?_
      obtain ⟨b, rfl, b0, b1⟩ : ∃ b : Int, d = .int b ∧ 0 < b ∧ b < 6 := by
        simp at hd
        rcases hd with rfl | rfl | rfl | rfl <;> exact ⟨_, rfl, by decide, by decide⟩
      refine low_then 5 (by omega) (by omega) (by omega) (by decide) fun hr => ?_
      simp [hn, hn']
      exact h ⟨p, q, _⟩ _ _ _ ⟨⟨hp1.mono (by decide), hq1.mono (by decide), hr.mono (by decide), .inr hz'⟩, di_pos (by omega) b0, hp1, hq1, hr⟩
end
theorem lines_then2 {S : Store} {n : Nat} {m : Int} {P : D → Store → Prop} (hp : Pool S n) (hm0 : 0 ≤ m) (hm1 : m ≤ 12) (h : ∀ (L : List Ln) (a b c : Int), Fam2 L → (L.length : Int) ≤ m → P (.ref S.length) (S.set n (pl a b c) ++ [.lst (L.map eL)])) : Rok (m_l_lines [.ref n, .int m] S) P := by
  have hn : n < S.length := hp.lt
  have hn' : ¬ S.length = n := by omega
  unfold m_l_lines
  simp [rok_def, sok_for]
  refine next_then inferInstance (by omega) (Nat.lt_of_lt_of_le (show (m + 1).natAbs < 2 ^ 10 by omega) (pow_le (by decide))) fun w a b c w0 w1 => ?_
  simp [hn, hn']
  refine ⟨by omega, ?_⟩
  refine sok_forRun (fun i e S' => ∃ (L : List Ln) (x y z : Int) (C : Store) (o3 o4 o5 o6 o7 o8 o9 : Option D), S' = S.set n (pl x y z) ++ (Cell.lst (L.map eL) :: C) ∧ e = [some (.ref n), some (.int m), some (.ref S.length), o3, o4, o5, o6, o7, o8, o9] ∧ L.length = i ∧ Fam2 L) _ (fun i e S' h => trivial) ?_ ?_ _ _ ⟨[], a, b, c, [], none, none, none, none, none, none, none, by simp, rfl, rfl, fam2_nil⟩
  · rintro i d e S' hi ⟨L, x, y, z, C, o3, o4, o5, o6, o7, o8, o9, rfl, rfl, hL, hF⟩
    have hi2 : i < w.toNat := by
      have := (List.getElem?_eq_some_iff.mp hi).1
      simpa using this
    have hd : d = .int (i : Nat) := by
      have := hi
      unfold rangeD at this
      rw [List.getElem?_map, List.getElem?_range hi2] at this
      simpa using this.symm
    subst hd
    have hb : ((i : Int)).natAbs < 2 ^ 8999 := Nat.lt_of_lt_of_le (show ((i : Int)).natAbs < 2 ^ 10 by omega) (pow_le (by decide))
    simp [hn, hn']
    refine line_then2 inferInstance fun l x y z hl => ?_
    simp [hn, hn']
    refine next_then inferInstance (by decide) (by decide) fun v x y z v0 v1 => ?_
    by_cases hi0 : 0 < i
    · by_cases hv : v < 2
      · have hv2 : v ≠ 2 := by omega
        simp [hn, hn', hi0, hv]
        refine next_then inferInstance (by omega) hb fun u x y z u0 u1 => ?_
        simp [hn, hn']
        refine ix_all u0 (by simp; omega) fun d hd => ?_
        obtain ⟨k, hk, rfl⟩ := List.mem_map.mp hd
        have hks := hF.1.mem hk
        have hkp := hks.p; have hkq := hks.q
        have aK : 4 + 150 * L.length ≤ 8998 := by omega
        try simp
        refine next_then inferInstance (by decide) (by decide) fun t x y z t0 t1 => ?_
        simp [hn, hn']
        refine next_then inferInstance (by decide) (by decide) fun s x y z s0 s1 => ?_
        simp [hn, hn']
        refine low_then 4 (by omega) (by omega) (by omega) (by decide) fun hq => ?_
        generalize Rat.divInt (t - 4) (1 + s) = q at *
        simp [hn, hn']
        have hidx : ∀ d : D, d ∈ [eQ k.r, eQ l.r] → ∃ r : Rat, d = eQ r ∧ (r = k.r ∨ r = l.r) := by
          intro d hd
          simp at hd
          rcases hd with rfl | rfl
          · exact ⟨_, rfl, .inl rfl⟩
          · exact ⟨_, rfl, .inr rfl⟩
        have aK1 : 1 + 150 * L.length ≤ 8998 := by omega
        have z1 : Sz (1 : Rat) 4 := ⟨by decide, by decide⟩
        have z1' : (1 : Rat) ≠ 0 := by decide
        obtain rfl | rfl : v = 0 ∨ v = 1 := by omega
        · clear z1
          simp [hn, hn', aK1]
          refine next_then inferInstance (by decide) (by decide) fun u x y z u0 u1 => ?_
          simp [hn, hn']
          refine ix_all u0 (by simpa using u1) fun d hd => ?_
          obtain ⟨r, rfl, hr⟩ := hidx d hd
          simp [hn, hn']
          have key : Fam2 (L ++ [⟨k.p, k.q, r⟩]) := by simpa using fam2_by (b := 1) hF hk hl ⟨by decide, by decide⟩ (by decide) hks.nz hr
          exact ⟨fun _ => ⟨by omega, L ++ [⟨k.p, k.q, r⟩], ⟨x, y, z, by simp⟩, by simp [hL], key⟩, fun _ => ⟨by omega, L ++ [⟨k.p, k.q, r⟩], ⟨x, y, z, by simp⟩, by simp [hL], key⟩⟩
        · by_cases hq0 : q = 0
          · clear z1
            simp [hn, hn', hq0, aK1]
            refine next_then inferInstance (by decide) (by decide) fun u x y z u0 u1 => ?_
            simp [hn, hn']
            refine ix_all u0 (by simpa using u1) fun d hd => ?_
            obtain ⟨r, rfl, hr⟩ := hidx d hd
            simp [hn, hn']
            have key : Fam2 (L ++ [⟨k.p, k.q, r⟩]) := by simpa using fam2_by (b := 1) hF hk hl ⟨by decide, by decide⟩ (by decide) hks.nz hr
            exact ⟨fun _ => ⟨by omega, L ++ [⟨k.p, k.q, r⟩], ⟨x, y, z, by simp⟩, by simp [hL], key⟩, fun _ => ⟨by omega, L ++ [⟨k.p, k.q, r⟩], ⟨x, y, z, by simp⟩, by simp [hL], key⟩⟩
          · simp [hn, hn', hq0, aK]
            refine next_then inferInstance (by decide) (by decide) fun u x y z u0 u1 => ?_
            simp [hn, hn']
            refine ix_all u0 (by simpa using u1) fun d hd => ?_
            obtain ⟨r, rfl, hr⟩ := hidx d hd
            simp [hn, hn']
            have key : Fam2 (L ++ [⟨q * k.p, q * k.q, r⟩]) := by simpa using fam2_by (b := q) hF hk hl hq hq0 hks.nz hr
            exact ⟨fun _ => ⟨by omega, L ++ [⟨q * k.p, q * k.q, r⟩], ⟨x, y, z, by simp⟩, by simp [hL], key⟩, fun _ => ⟨by omega, L ++ [⟨q * k.p, q * k.q, r⟩], ⟨x, y, z, by simp⟩, by simp [hL], key⟩⟩
      · have hv' : 2 ≤ v := by omega
        by_cases hv2 : v = 2
        · by_cases hi1 : 1 < i
          · subst hv2
            have hi1' : (1 : Int) < i := by omega
            have g1 : L[i - 1]? = some L[i - 1] := List.getElem?_eq_getElem (by omega)
            have g2 : L[i - 2]? = some L[i - 2] := List.getElem?_eq_getElem (by omega)
            have e1 : (i : Int) - 1 = ((i - 1 : Nat) : Int) := by omega
            have e2 : (i : Int) - 2 = ((i - 2 : Nat) : Int) := by omega
            have a1 := atI_L g1
            have a2 := atI_L g2
            have m1 : L[i - 1] ∈ L := List.getElem_mem _
            have m2 : L[i - 2] ∈ L := List.getElem_mem _
            generalize L[i - 1] = k at *
            generalize L[i - 2] = k' at *
            have hks := hF.1.mem m1
            have hks' := hF.1.mem m2
            have s1 := hks.p; have s2 := hks.q; have s3 := hks.r
            have s4 := hks'.p; have s5 := hks'.q; have s6 := hks'.r
            have aK : 150 * L.length + 150 * L.length ≤ 8998 := by omega
            rw [← e1] at a1
            rw [← e2] at a2
            by_cases hz1 : k.p + k'.p = 0
            · by_cases hz2 : k.q + k'.q = 0
              · simp [hn, hn', hi0, hi1', a1, a2, aK, hz1, hz2]
                refine ⟨by omega, L ++ [k], ⟨x, y, z, by simp⟩, by simp [hL], fam2_copy hF m1 hks.nz⟩
              · simp [hn, hn', hi0, hi1', a1, a2, aK, hz1, hz2]
                refine ⟨by omega, L ++ [⟨0, k.q + k'.q, k.r + k'.r⟩], ⟨x, y, z, by simp⟩, by simp [hL], ?_⟩
                rw [← hz1]
                exact fam2_sum hF m1 m2 (.inr hz2)
            · simp [hn, hn', hi0, hi1', a1, a2, aK, hz1]
              refine ⟨by omega, L ++ [⟨k.p + k'.p, k.q + k'.q, k.r + k'.r⟩], ⟨x, y, z, by simp⟩, by simp [hL], fam2_sum hF m1 m2 (.inl hz1)⟩
          · have hi1' : ¬ (1 : Int) < i := by omega
            simp [hn, hn', hi0, hv2, hi1']
            refine ⟨by omega, L ++ [l], ⟨x, y, z, by simp⟩, by simp [hL], fam2_new hF hl⟩
        · simp [hn, hn', hi0, hv, hv2]
          exact ⟨fun _ => ⟨by omega, L ++ [l], ⟨x, y, z, by simp⟩, by simp [hL], fam2_new hF hl⟩, fun _ => ⟨by omega, L ++ [l], ⟨x, y, z, by simp⟩, by simp [hL], fam2_new hF hl⟩⟩
    · have hi0' : i = 0 := by omega
      simp [hn, hn', hi0']
      refine ⟨by omega, L ++ [l], ⟨x, y, z, by simp⟩, by simp [hL, hi0'], fam2_new hF hl⟩
  · rintro e S' ⟨L, x, y, z, C, o3, o4, o5, o6, o7, o8, o9, rfl, rfl, hL, hF⟩
    rw [rangeD_length] at hL
    simp
    rw [gc_poolN (k := S.length) (l := L.map eL) hn (by simp) (by simp) (by rw [List.getElem?_append_right (by simp)]; simp) (by simp), rok_ok]
    simp
    exact h L x y z hF (by omega)
end Rg
end
namespace Rg
open PySem L2
def pL (l : Ln) : PyData := .tuple [pQ l.p, pQ l.q, pQ l.r]
theorem toP_eL {S : Store} {k : Nat} {l : Ln} : toP S (k + 2) (eL l) = some (pL l) := by unfold eL pL; simp [-eL_mk]
@[simp] theorem toP_eL60 {S : Store} {l : Ln} : toP S 60 (eL l) = some (pL l) := toP_eL
@[simp] theorem toP_eL59 {S : Store} {l : Ln} : toP S 59 (eL l) = some (pL l) := toP_eL
@[simp] theorem toP_eL58 {S : Store} {l : Ln} : toP S 58 (eL l) = some (pL l) := toP_eL
@[simp] theorem allP_lines {S : Store} {L : List Ln} : allP (toP S 59) (L.map eL) = some (L.map pL) := allP_map fun q _ => toP_eL
theorem ln_ext {l m : Ln} : l = m ↔ l.p = m.p ∧ l.q = m.q ∧ l.r = m.r := by
  cases l; cases m; simp
instance : DecidableEq Ln := fun l m => decidable_of_iff _ ln_ext.symm
@[simp] theorem ev_L {l m : Ln} : PyData.eqv (pL l) (pL m) = decide (l = m) := by
  unfold pL
  simp [ln_ext, Bool.decide_and]
@[simp] theorem ev_Ls {L M : List Ln} : PyData.eqvAll (L.map pL) (M.map pL) = decide (L = M) := ev_map fun a b => ev_L
@[simp] theorem isa_tup : Ty.isa .tup .tup = true := rfl
end Rg
section
set_option exponentiation.threshold 10000
namespace Rg
open PySem L2
end Rg
end
section
set_option exponentiation.threshold 10000
namespace Rg
open PySem L2
end Rg
end
section
set_option exponentiation.threshold 10000
namespace Rg
open PySem L2
theorem pp {x u : Rat} (h : 0 < x) (g : 0 < u) : 0 < x * u := (lt0_mul g).2.mpr h
theorem pn {x u : Rat} (h : 0 < x) (g : u < 0) : x * u < 0 := (gt0_mul g).1.mpr h
theorem np {x u : Rat} (h : x < 0) (g : 0 < u) : x * u < 0 := (lt0_mul g).1.mpr h
theorem nn {x u : Rat} (h : x < 0) (g : u < 0) : 0 < x * u := (gt0_mul g).2.mpr h
def Ss (x y : Rat) : Prop := (0 < x ∧ 0 < y) ∨ (x < 0 ∧ y < 0)
def noz (y u g : Rat) : Prop := u ≠ 0 → (0 - y) / u ≤ 0 ∨ g < (0 - y) / u
theorem zero_at {y u : Rat} (hu : u ≠ 0) : y = -((0 - y) / u * u) := by rw [div_mul_self hu]; grind
theorem noz_sign {y u g t : Rat} (h : noz y u g) (nz : y ≠ 0 ∨ u ≠ 0) (ht : 0 < t) (hg : t ≤ g) : Ss (y + t * u) (y + g * u) ∧ (y ≠ 0 → Ss y (y + t * u)) := by
  by_cases hu : u = 0
  · subst hu
    have hy : y ≠ 0 := by grind
    have : ∀ x : Rat, x * 0 = 0 := fun x => Rat.mul_zero x
    rw [this, this]
    unfold Ss; grind
  · have h := h hu
    have e := zero_at (y := y) hu
    generalize (0 - y) / u = f at *
    have e1 : y + t * u = (t - f) * u := by grind
    have e2 : y + g * u = (g - f) * u := by grind
    have e3 : y = (-f) * u := by grind
    rw [e1, e2]
    rcases rtri u with k | k | k
    · rcases h with h | h
      · have a := pn (x := t - f) (by grind) k
        have b := pn (x := g - f) (by grind) k
        refine ⟨.inr ⟨a, b⟩, fun hy => .inr ⟨?_, a⟩⟩
        rw [e3]
        refine pn ?_ k
        have : f ≠ 0 := fun z => hy (by rw [e3, z]; grind)
        grind
      · have a := nn (x := t - f) (by grind) k
        have b := nn (x := g - f) (by grind) k
        have c := nn (x := -f) (by grind) k
        rw [← e3] at c
        exact ⟨.inl ⟨a, b⟩, fun hy => .inl ⟨c, a⟩⟩
    · contradiction
    · rcases h with h | h
      · have a := pp (x := t - f) (by grind) k
        have b := pp (x := g - f) (by grind) k
        refine ⟨.inl ⟨a, b⟩, fun hy => .inl ⟨?_, a⟩⟩
        rw [e3]
        refine pp ?_ k
        have : f ≠ 0 := fun z => hy (by rw [e3, z]; grind)
        grind
      · have a := np (x := t - f) (by grind) k
        have b := np (x := g - f) (by grind) k
        have c := np (x := -f) (by grind) k
        rw [← e3] at c
        exact ⟨.inr ⟨a, b⟩, fun hy => .inr ⟨c, a⟩⟩
def newIn (g y u : Rat) : Option Rat := if y = 0 ∨ u = 0 ∨ (0 - y) / u < 0 ∨ g < (0 - y) / u then none else some ((0 - y) / u)
theorem newIn_none {g y u : Rat} (h : newIn g y u = none) : noz y u g := by
  intro hu
  unfold newIn at h
  split at h
  · rename_i k
    rcases k with k | k | k | k
    · left; rw [k, Rat.div_def]; grind
    · contradiction
    · left; grind
    · right; exact k
  · simp at h
theorem newIn_some {g y u t : Rat} (h : newIn g y u = some t) : y = -(t * u) ∧ 0 < t ∧ t ≤ g ∧ u ≠ 0 := by
  unfold newIn at h
  split at h
  · simp at h
  · rename_i k
    simp only [Option.some.injEq] at h
    simp only [not_or] at k
    have e := zero_at (y := y) k.2.1
    rw [h] at e k
    refine ⟨e, ?_, by grind, k.2.1⟩
    have : t ≠ 0 := fun z => k.1 (by rw [e, z]; grind)
    grind
def RelP (k : Option Bool) (y1 y2 : Rat) : Prop := match k with
  | none => y1 ≠ 0 ∧ y2 ≠ 0
  | some true => y2 ≠ 0 ∧ (y1 = 0 ∨ y1 * y2 < 0)
  | some false => y1 ≠ 0 ∧ (y2 = 0 ∨ 0 < y1 * y2)
theorem relP_flip {k : Option Bool} {y1 y2 : Rat} : RelP k y1 y2 ↔ RelP (k.map not) y2 (-y1) := by
  have e : y2 * -y1 = -(y1 * y2) := by grind
  have e0 : -y1 ≠ 0 ↔ y1 ≠ 0 := by grind
  have e1 : -y1 = 0 ↔ y1 = 0 := by grind
  rcases k with _ | _ | _
  · simp only [RelP, Option.map]; grind
  · simp only [RelP, Option.map, Bool.not_false]
    rw [e]; grind
  · simp only [RelP, Option.map, Bool.not_true, e0, e1]
    rw [e]; grind
theorem div_neg2 {y u : Rat} : (0 - -y) / -u = (0 - y) / u := by
  by_cases hu : u = 0
  · subst hu; simp [Rat.div_def, Rat.inv_zero]
  · have hn : -u ≠ 0 := by grind
    have e1 := div_mul_self (a := 0 - -y) hn
    have e2 := div_mul_self (a := 0 - y) hu
    generalize (0 - -y) / -u = p at *
    generalize (0 - y) / u = q at *
    have : (p - q) * u = 0 := by grind
    rcases Rat.mul_eq_zero.mp this with h | h
    · grind
    · contradiction
theorem newIn_neg {y u g : Rat} : newIn g (-y) (-u) = newIn g y u := by
  unfold newIn
  have : (0 - -y) / -u = (0 - y) / u := div_neg2
  rw [this]
  have e1 : -y = 0 ↔ y = 0 := by grind
  have e2 : -u = 0 ↔ u = 0 := by grind
  simp only [e1, e2]
section
variable {y1 u1 y2 u2 g : Rat} {k : Option Bool}
theorem mss {a b c : Rat} (h : Ss b c) : (a * b < 0 ↔ a * c < 0) ∧ (0 < a * b ↔ 0 < a * c) ∧ (a * b = 0 ↔ a * c = 0) := by
  rcases h with ⟨h1, h2⟩ | ⟨h1, h2⟩
  · rw [(lt0_mul h1).1, (lt0_mul h1).2, (lt0_mul h2).1, (lt0_mul h2).2, Rat.mul_eq_zero, Rat.mul_eq_zero]; grind
  · rw [(gt0_mul h1).1, (gt0_mul h1).2, (gt0_mul h2).1, (gt0_mul h2).2, Rat.mul_eq_zero, Rat.mul_eq_zero]; grind
theorem step_one (W : 0 < y1 * u2 - u1 * y2) (rel : RelP k y1 y2) {t : Rat} (h1 : newIn g y1 u1 = some t) (h2 : newIn g y2 u2 = none) :
    k ≠ some true ∧ RelP (some true) (y1 + g * u1) (y2 + g * u2) ∧ (y1 + g * u1 = 0 → t = g) := by
  obtain ⟨e, t0, tg, hu⟩ := newIn_some h1
  have nz : y2 ≠ 0 ∨ u2 ≠ 0 := by
    refine Classical.byContradiction fun h => ?_
    simp only [not_or, Classical.not_not] at h
    rw [h.1, h.2] at W; grind
  obtain ⟨s1, s2⟩ := noz_sign (newIn_none h2) nz t0 tg
  have w1 : 0 < (-u1) * (y2 + t * u2) := by
    have : (-u1) * (y2 + t * u2) = y1 * u2 - u1 * y2 := by rw [e]; grind
    rw [this]; exact W
  have w2 : 0 < (-u1) * (y2 + g * u2) := (mss s1).2.1.mp w1
  have gu : y1 + g * u1 = (g - t) * u1 := by rw [e]; grind
  refine ⟨fun hk => ?_, ⟨?_, ?_⟩, fun z => ?_⟩
  · subst hk
    obtain ⟨r1, r2⟩ := rel
    have y1n : y1 ≠ 0 := fun z => by
      have := Rat.mul_eq_zero.mp (show t * u1 = 0 by grind)
      rcases this with h | h
      · grind
      · contradiction
    have r2 : y1 * y2 < 0 := by grind
    have w3 : 0 < (-u1) * y2 := (mss (s2 r1)).2.1.mpr w1
    have e2 : y1 * y2 = (-u1 * y2) * t := by rw [e]; grind
    rw [e2] at r2
    have := pp w3 t0
    grind
  · intro z
    rw [z] at w2; grind
  · by_cases h : t = g
    · left; rw [gu, h]; grind
    · right
      have e2 : (y1 + g * u1) * (y2 + g * u2) = -((-u1 * (y2 + g * u2)) * (g - t)) := by rw [gu]; grind
      rw [e2]
      have := pp w2 (show 0 < g - t by grind)
      grind
  · rw [gu] at z
    rcases Rat.mul_eq_zero.mp z with h | h
    · grind
    · contradiction
theorem step_two (W : 0 < y1 * u2 - u1 * y2) (rel : RelP k y1 y2) {t : Rat} (h1 : newIn g y1 u1 = none) (h2 : newIn g y2 u2 = some t) :
    k ≠ some false ∧ RelP (some false) (y1 + g * u1) (y2 + g * u2) ∧ (y2 + g * u2 = 0 → t = g) := by
  have h := step_one (y1 := y2) (u1 := u2) (y2 := -y1) (u2 := -u1) (k := k.map not) (g := g) (by grind) (relP_flip.mp rel) h2 (by rw [newIn_neg]; exact h1)
  refine ⟨fun z => h.1 (by rw [z]; rfl), ?_, h.2.2⟩
  rw [relP_flip]
  have := h.2.1
  rw [show -y1 + g * -u1 = -(y1 + g * u1) by grind] at this
  exact this
theorem step_none (W : 0 < y1 * u2 - u1 * y2) (hg : 0 ≤ g) (rel : RelP k y1 y2) (h1 : newIn g y1 u1 = none) (h2 : newIn g y2 u2 = none) :
    RelP k (y1 + g * u1) (y2 + g * u2) ∧ (y1 + g * u1 = 0 → g = 0) ∧ (y2 + g * u2 = 0 → g = 0) := by
  by_cases hg0 : g = 0
  · subst hg0
    rw [Rat.zero_mul, Rat.zero_mul, Rat.add_zero, Rat.add_zero]
    exact ⟨rel, by simp, by simp⟩
  have gp : 0 < g := by grind
  have nz1 : y1 ≠ 0 ∨ u1 ≠ 0 := by
    refine Classical.byContradiction fun h => ?_
    simp only [not_or, Classical.not_not] at h
    rw [h.1, h.2] at W; grind
  have nz2 : y2 ≠ 0 ∨ u2 ≠ 0 := by
    refine Classical.byContradiction fun h => ?_
    simp only [not_or, Classical.not_not] at h
    rw [h.1, h.2] at W; grind
  obtain ⟨a1, b1⟩ := noz_sign (newIn_none h1) nz1 gp (Rat.le_refl)
  obtain ⟨a2, b2⟩ := noz_sign (newIn_none h2) nz2 gp (Rat.le_refl)
  generalize e1 : y1 + g * u1 = z1 at *
  generalize e2 : y2 + g * u2 = z2 at *
  have n1 : z1 ≠ 0 := by unfold Ss at a1; grind
  have n2 : z2 ≠ 0 := by unfold Ss at a2; grind
  refine ⟨?_, fun z => absurd z n1, fun z => absurd z n2⟩
  have key : y1 ≠ 0 → y2 ≠ 0 → (y1 * y2 < 0 → z1 * z2 < 0) ∧ (0 < y1 * y2 → 0 < z1 * z2) := fun p q => by
    have m1 := mss (a := y1) (b2 q)
    have m2 := mss (a := z2) (b1 p)
    rw [Rat.mul_comm z2 y1, Rat.mul_comm z2 z1] at m2
    exact ⟨fun h => m2.1.mp (m1.1.mp h), fun h => m2.2.1.mp (m1.2.1.mp h)⟩
  rcases k with _ | _ | _
  · exact ⟨n1, n2⟩
  · obtain ⟨r1, r2⟩ := rel
    refine ⟨n1, .inr ?_⟩
    by_cases y0 : y2 = 0
    · have := (mss (a := u2) (b1 r1)).2.1.mp (by rw [y0] at W; grind)
      rw [← e2, y0]
      have := pp this gp
      grind
    · exact (key r1 y0).2 (by grind)
  · obtain ⟨r1, r2⟩ := rel
    refine ⟨n2, .inr ?_⟩
    by_cases y0 : y1 = 0
    · have := (mss (a := -u1) (b2 r1)).2.1.mp (by rw [y0] at W; grind)
      rw [← e1, y0]
      have := pp this gp
      grind
    · exact (key y0 r1).1 (by grind)
theorem step_both (W : 0 < y1 * u2 - u1 * y2) (rel : RelP k y1 y2) {t s : Rat} (h1 : newIn g y1 u1 = some t) (h2 : newIn g y2 u2 = some s) :
    ((t < s ∧ k ≠ some true ∧ RelP (some false) (y1 + g * u1) (y2 + g * u2) ∧ (y2 + g * u2 = 0 → s = g)) ∨
     (s < t ∧ k ≠ some false ∧ RelP (some true) (y1 + g * u1) (y2 + g * u2) ∧ (y1 + g * u1 = 0 → t = g))) := by
  obtain ⟨e1, t0, tg, hu1⟩ := newIn_some h1
  obtain ⟨e2, s0, sg, hu2⟩ := newIn_some h2
  have w : 0 < (s - t) * (u1 * u2) := by
    have : (s - t) * (u1 * u2) = y1 * u2 - u1 * y2 := by rw [e1, e2]; grind
    rw [this]; exact W
  have p : y1 * y2 = (t * s) * (u1 * u2) := by rw [e1, e2]; grind
  have ts := pp t0 s0
  have gu1 : y1 + g * u1 = (g - t) * u1 := by rw [e1]; grind
  have gu2 : y2 + g * u2 = (g - s) * u2 := by rw [e2]; grind
  have pg : (y1 + g * u1) * (y2 + g * u2) = ((g - t) * (g - s)) * (u1 * u2) := by rw [gu1, gu2]; grind
  have z1 : y1 + g * u1 = 0 → t = g := fun z => by
    rw [gu1] at z
    rcases Rat.mul_eq_zero.mp z with h | h
    · grind
    · contradiction
  have z2 : y2 + g * u2 = 0 → s = g := fun z => by
    rw [gu2] at z
    rcases Rat.mul_eq_zero.mp z with h | h
    · grind
    · contradiction
  have n1 : y1 ≠ 0 := fun z => by
    rcases Rat.mul_eq_zero.mp (show t * u1 = 0 by grind) with h | h
    · grind
    · contradiction
  have n2 : y2 ≠ 0 := fun z => by
    rcases Rat.mul_eq_zero.mp (show s * u2 = 0 by grind) with h | h
    · grind
    · contradiction
  generalize u1 * u2 = v at *
  rcases rtri (s - t) with h | h | h
  · right
    have hv : v < 0 := by
      have := (gt0_mul (x := v) h).2
      rw [Rat.mul_comm] at this
      exact this.mp w
    have py : y1 * y2 < 0 := by rw [p]; exact pn ts hv
    refine ⟨by grind, fun hk => ?_, ⟨?_, ?_⟩, z1⟩
    · subst hk
      obtain ⟨r1, r2⟩ := rel
      grind
    · intro z
      have := z2 z
      grind
    · by_cases h : t = g
      · left; rw [gu1, h]; grind
      · right
        rw [pg]
        exact pn (pp (by grind) (by grind)) hv
  · rw [h] at w; grind
  · left
    have hv : 0 < v := by
      have := (lt0_mul (x := v) h).2
      rw [Rat.mul_comm] at this
      exact this.mp w
    have py : 0 < y1 * y2 := by rw [p]; exact pp ts hv
    refine ⟨by grind, fun hk => ?_, ⟨?_, ?_⟩, z2⟩
    · subst hk
      obtain ⟨r1, r2⟩ := rel
      grind
    · intro z
      have := z1 z
      grind
    · by_cases h : s = g
      · left; rw [gu2, h]; grind
      · right
        rw [pg]
        exact pp (pp (by grind) (by grind)) hv
end
def Altn : List (Rat × Bool) → Prop
  | [] => True
  | [_] => True
  | a :: b :: l => a.1 < b.1 ∧ a.2 ≠ b.2 ∧ Altn (b :: l)
theorem altn_snoc : ∀ {M : List (Rat × Bool)} {x : Rat × Bool}, Altn M → (∀ l, M.getLast? = some l → l.1 < x.1 ∧ l.2 ≠ x.2) → Altn (M ++ [x])
  | [], x, _, _ => trivial
  | [a], x, _, h => by have := h a rfl; exact ⟨this.1, this.2, trivial⟩
  | a :: b :: l, x, h, g => ⟨h.1, h.2.1, altn_snoc (M := b :: l) h.2.2 (fun y hy => g y (by simpa [List.getLast?_cons] using hy))⟩
theorem altn_tail {a : Rat × Bool} : ∀ {M : List (Rat × Bool)}, Altn (a :: M) → Altn M
  | [], _ => trivial
  | _ :: _, h => h.2.2
theorem altn_lt {a : Rat × Bool} : ∀ {M : List (Rat × Bool)}, Altn (a :: M) → ∀ x ∈ M, a.1 < x.1
  | [], _, x, hx => by simp at hx
  | b :: M, h, x, hx => by
    rcases List.mem_cons.mp hx with rfl | hx
    · exact h.1
    · have := altn_lt h.2.2 x hx
      have := h.1
      grind
theorem altn_pw : ∀ {M : List (Rat × Bool)}, Altn M → M.Pairwise fun a b => a.1 < b.1
  | [], _ => List.Pairwise.nil
  | _ :: _, h => List.Pairwise.cons (altn_lt h) (altn_pw (altn_tail h))
def pick (v : Bool) (M : List (Rat × Bool)) : List Rat := (M.filter fun x => x.2 == v).map (·.1)
theorem pick_append {v : Bool} {M N : List (Rat × Bool)} : pick v (M ++ N) = pick v M ++ pick v N := by simp [pick]
theorem pick_cons {v : Bool} {a : Rat × Bool} {M : List (Rat × Bool)} : pick v (a :: M) = if a.2 = v then a.1 :: pick v M else pick v M := by
  unfold pick
  rw [List.filter_cons]
  by_cases h : a.2 = v <;> simp [h]
theorem pick_next {v : Bool} {p q : Rat} : ∀ {M : List (Rat × Bool)}, Altn M → ∀ k, (pick v M)[k]? = some p → (pick v M)[k + 1]? = some q → ∃ A r C, M = A ++ (p, v) :: (r, !v) :: (q, v) :: C
  | [], _, k, h, _ => by simp [pick] at h
  | a :: M, hM, k, hp, hq => by
    by_cases ha : a.2 = v
    · rw [pick_cons, if_pos ha] at hp hq
      cases k with
      | zero =>
        simp at hp hq
        match M, hM, hq with
        | [], _, hq => simp [pick] at hq
        | [b], hM, hq =>
          have : b.2 ≠ v := by rw [← ha]; exact Ne.symm hM.2.1
          simp [pick_cons, this, pick] at hq
        | b :: c :: M, hM, hq =>
          have hb : b.2 ≠ v := by rw [← ha]; exact Ne.symm hM.2.1
          have hc : c.2 = v := by
            have := hM.2.2.2.1
            revert hb this
            cases b.2 <;> cases c.2 <;> cases v <;> simp
          simp [pick_cons, hb, hc] at hq
          refine ⟨[], b.1, M, ?_⟩
          have : b.2 = !v := by revert hb; cases b.2 <;> cases v <;> simp
          rw [← hp, ← hq]
          show a :: b :: c :: M = (a.1, v) :: (b.1, !v) :: (c.1, v) :: M
          rw [← this, show (a.1, v) = a from Prod.ext rfl ha.symm, show (c.1, v) = c from Prod.ext rfl hc.symm]
      | succ k =>
        simp at hp hq
        obtain ⟨A, r, C, e⟩ := pick_next (altn_tail hM) k hp hq
        exact ⟨a :: A, r, C, by rw [e]; rfl⟩
    · rw [pick_cons, if_neg ha] at hp hq
      obtain ⟨A, r, C, e⟩ := pick_next (altn_tail hM) k hp hq
      exact ⟨a :: A, r, C, by rw [e]; rfl⟩
theorem by_turns {v : Bool} {p q : Rat} {M : List (Rat × Bool)} (hM : Altn M) {k : Nat} (hp : (pick v M)[k]? = some p) (hq : (pick v M)[k + 1]? = some q) :
    p < q ∧ ((pick (!v) M).filter fun x => decide (p < x ∧ x < q)).length = 1 := by
  obtain ⟨A, r, C, rfl⟩ := pick_next hM k hp hq
  have pw := altn_pw hM
  rw [List.pairwise_append] at pw
  obtain ⟨_, pw, hA⟩ := pw
  obtain ⟨pw1, pw⟩ := List.pairwise_cons.mp pw
  obtain ⟨pw2, pw⟩ := List.pairwise_cons.mp pw
  obtain ⟨pw3, pw⟩ := List.pairwise_cons.mp pw
  have pr := pw1 (r, !v) (by simp)
  have rq := pw2 (q, v) (by simp)
  dsimp only at pr rq
  refine ⟨by grind, ?_⟩
  have f1 : (pick (!v) A).filter (fun x => decide (p < x ∧ x < q)) = [] := by
    rw [List.filter_eq_nil_iff]
    intro x hx
    obtain ⟨y, hy, rfl⟩ := List.mem_map.mp hx
    have := hA y (List.mem_filter.mp hy).1 (p, v) (by simp)
    simp; grind
  have f2 : (pick (!v) C).filter (fun x => decide (p < x ∧ x < q)) = [] := by
    rw [List.filter_eq_nil_iff]
    intro x hx
    obtain ⟨y, hy, rfl⟩ := List.mem_map.mp hx
    have := pw3 y (List.mem_filter.mp hy).1
    simp; grind
  have n1 : v ≠ !v := by cases v <;> simp
  rw [pick_append, List.filter_append, f1, pick_cons, if_neg n1, pick_cons, if_pos rfl, pick_cons, if_neg n1, List.filter_cons, if_pos (by simp [pr, rq]), f2]
  rfl
theorem pick_apart {v : Bool} {x : Rat} {M : List (Rat × Bool)} (hM : Altn M) (h : x ∈ pick v M) : x ∉ pick (!v) M := by
  intro g
  obtain ⟨y, hy, e1⟩ := List.mem_map.mp h
  obtain ⟨z, hz, e2⟩ := List.mem_map.mp g
  have hyM := (List.mem_filter.mp hy).1
  have hzM := (List.mem_filter.mp hz).1
  have y2 : y.2 = v := by simpa using (List.mem_filter.mp hy).2
  have z2 : z.2 = !v := by simpa using (List.mem_filter.mp hz).2
  have pw := altn_pw hM
  clear h g hM hy hz
  induction M with
  | nil => simp at hyM
  | cons a M ih =>
    obtain ⟨ha, pw'⟩ := List.pairwise_cons.mp pw
    rcases List.mem_cons.mp hyM with rfl | hy' <;> rcases List.mem_cons.mp hzM with rfl | hz'
    · rw [z2] at y2; revert y2; cases v <;> simp
    · have := ha _ hz'; grind
    · have := ha _ hy'; grind
    · exact ih hy' hz' pw'
theorem pick_last {M : List (Rat × Bool)} {x : Rat × Bool} (h : M.getLast? = some x) : (pick x.2 M).getLast? = some x.1 := by
  obtain ⟨N, rfl⟩ := List.getLast?_eq_some_iff.mp h
  rw [pick_append]
  simp [pick]
theorem pick_mem {v : Bool} {M : List (Rat × Bool)} {x : Rat} (h : x ∈ pick v M) : ∃ y ∈ M, y.1 = x := by
  obtain ⟨y, hy, e⟩ := List.mem_map.mp h
  exact ⟨y, (List.mem_filter.mp hy).1, e⟩
theorem crossAt_new {b : List Pt} {r h : Ry} {i : Nat} {g X : Rat} {L : List Rat} (hp : b[i]? = some (.gap g)) (eh : (tabOf (b.take i)).led r = h) (eX : longOf (b.take i) = X) (hg : 0 ≤ g) (nz : h.nz) (hL : ∀ x ∈ L, x ≤ X) (inv : h.y = 0 → L.getLast? = some X) :
    crossAt b r i L = L ++ ((newIn g h.y h.u).toList.map fun t => X + t) := by
  unfold crossAt
  rw [hp, eh, eX]
  dsimp only
  unfold crossIn newIn
  by_cases hu : h.u = 0
  · rw [if_pos hu, if_pos (.inr (.inl hu))]; simp
  · rw [if_neg hu]
    by_cases hy : h.y = 0
    · have e0 : (0 - h.y) / h.u = 0 := by rw [hy, Rat.div_def]; grind
      rw [e0, if_neg (by grind), if_pos (.inl hy)]
      dsimp only
      rw [putPl, inv hy, if_pos (by grind)]; simp
    · by_cases hc : (0 - h.y) / h.u < 0 ∨ g < (0 - h.y) / h.u
      · rw [if_pos hc, if_pos (.inr (.inr hc))]; simp
      · rw [if_neg hc, if_neg (by simp only [not_or] at hc ⊢; exact ⟨hy, hu, hc.1, hc.2⟩)]
        dsimp only
        rw [putPl, if_neg]
        · rfl
        · intro z
          have := hL _ (List.mem_of_getLast? z)
          have e := div_mul_self (a := 0 - h.y) hu
          have : (0 - h.y) / h.u ≠ 0 := fun z => by rw [z] at e; grind
          grind
structure Trn (b : List Pt) (r1 r2 : Ry) (i : Nat) (M : List (Rat × Bool)) : Prop where
  alt : Altn M
  l1 : crossTo b r1 i = pick true M
  l2 : crossTo b r2 i = pick false M
  le : ∀ x ∈ M, 0 ≤ x.1 ∧ x.1 ≤ longOf (b.take i)
  rel : RelP (M.getLast?.map (·.2)) ((tabOf (b.take i)).led r1).y ((tabOf (b.take i)).led r2).y
  at1 : ((tabOf (b.take i)).led r1).y = 0 → M.getLast? = some (longOf (b.take i), true)
  at2 : ((tabOf (b.take i)).led r2).y = 0 → M.getLast? = some (longOf (b.take i), false)
theorem led_cross {t : T4} {r s : Ry} (h : t.det = 1) : (t.led r).y * (t.led s).u - (t.led r).u * (t.led s).y = r.y * s.u - r.u * s.y := by
  simp only [T4.led]
  unfold T4.det at h
  have : (t.a * r.y + t.b * r.u) * (t.c * s.y + t.d * s.u) - (t.c * r.y + t.d * r.u) * (t.a * s.y + t.b * s.u) = (t.a * t.d - t.b * t.c) * (r.y * s.u - r.u * s.y) := by grind
  rw [this, h]; grind
theorem long_app {b c : List Pt} : longOf (b ++ c) = longOf b + longOf c := by
  unfold longOf
  rw [List.foldl_append]
  generalize b.foldl (fun s p => s + gapOf p) 0 = x
  have : ∀ (c : List Pt) (x y : Rat), c.foldl (fun s p => s + gapOf p) (x + y) = x + c.foldl (fun s p => s + gapOf p) y := by
    intro c
    induction c with
    | nil => intros; rfl
    | cons p c ih => intro x y; simp only [List.foldl_cons]; rw [Rat.add_assoc, ih]
  have := this c x 0
  rwa [Rat.add_zero] at this
theorem long_nonneg : ∀ {b : List Pt}, (∀ p ∈ b, p.ok) → 0 ≤ longOf b
  | [], _ => by decide
  | p :: b, h => by
    have e : longOf (p :: b) = longOf [p] + longOf b := long_app (b := [p]) (c := b)
    have := long_nonneg (b := b) fun q hq => h q (by simp [hq])
    have e2 : longOf [p] = gapOf p := Rat.zero_add _
    rw [e, e2]
    have hp := h p (by simp)
    have : 0 ≤ gapOf p := by
      cases p with
      | gap g => exact hp
      | glass g => exact Rat.le_refl
      | stop g => exact Rat.le_refl
    grind
theorem last_kind {M : List (Rat × Bool)} {v : Bool} {x : Rat × Bool} (hne : M.getLast?.map (·.2) ≠ some v) (h : M.getLast? = some x) : x.2 = !v := by
  rw [h] at hne
  revert hne
  simp only [Option.map_some, ne_eq, Option.some.injEq]
  cases x.2 <;> cases v <;> simp
theorem trn_step {b : List Pt} {r1 r2 : Ry} {i : Nat} {M : List (Rat × Bool)} {p : Pt} (W : 0 < r1.y * r2.u - r1.u * r2.y) (n1 : r1.nz) (n2 : r2.nz) (hp : b[i]? = some p) (ok : p.ok) (hX0 : 0 ≤ longOf (b.take i)) (h : Trn b r1 r2 i M) : ∃ N, Trn b r1 r2 (i + 1) (M ++ N) := by
  have w := led_cross (r := r1) (s := r2) (tabOf_det (b.take i))
  rw [← w] at W
  have z1 := nz_led (tabOf_det (b.take i)) n1
  have z2 := nz_led (tabOf_det (b.take i)) n2
  have e1 := led_take (r := r1) hp
  have e2 := led_take (r := r2) hp
  have eX := longOf_take hp
  obtain ⟨alt, l1, l2, le, rel, at1, at2⟩ := h
  have c1 : crossTo b r1 (i + 1) = crossAt b r1 i (pick true M) := by rw [← l1]; rfl
  have c2 : crossTo b r2 (i + 1) = crossAt b r2 i (pick false M) := by rw [← l2]; rfl
  rw [tab_led] at e1 e2
  have q1 : ∀ {y : Rat}, y = longOf (b.take i) → True := fun _ => trivial
  cases p with
  | glass q =>
    refine ⟨[], ?_⟩
    rw [List.append_nil]
    have a1 : ((tabOf (b.take (i + 1))).led r1).y = ((tabOf (b.take i)).led r1).y := by rw [← e1]
    have a2 : ((tabOf (b.take (i + 1))).led r2).y = ((tabOf (b.take i)).led r2).y := by rw [← e2]
    have a3 : longOf (b.take (i + 1)) = longOf (b.take i) := by rw [eX]; exact Rat.add_zero _
    have f : ∀ r L, crossAt b r i L = L := fun r L => by unfold crossAt; rw [hp]
    exact ⟨alt, by rw [c1, f], by rw [c2, f], by rw [a3]; exact le, by rw [a1, a2]; exact rel, by rw [a1, a3]; exact at1, by rw [a2, a3]; exact at2⟩
  | stop q =>
    refine ⟨[], ?_⟩
    rw [List.append_nil]
    have a1 : ((tabOf (b.take (i + 1))).led r1).y = ((tabOf (b.take i)).led r1).y := by rw [← e1]
    have a2 : ((tabOf (b.take (i + 1))).led r2).y = ((tabOf (b.take i)).led r2).y := by rw [← e2]
    have a3 : longOf (b.take (i + 1)) = longOf (b.take i) := by rw [eX]; exact Rat.add_zero _
    have f : ∀ r L, crossAt b r i L = L := fun r L => by unfold crossAt; rw [hp]
    exact ⟨alt, by rw [c1, f], by rw [c2, f], by rw [a3]; exact le, by rw [a1, a2]; exact rel, by rw [a1, a3]; exact at1, by rw [a2, a3]; exact at2⟩
  | gap g =>
    have hg : 0 ≤ g := ok
    have a1 : ((tabOf (b.take (i + 1))).led r1).y = ((tabOf (b.take i)).led r1).y + g * ((tabOf (b.take i)).led r1).u := by rw [← e1]
    have a2 : ((tabOf (b.take (i + 1))).led r2).y = ((tabOf (b.take i)).led r2).y + g * ((tabOf (b.take i)).led r2).u := by rw [← e2]
    have a3 : longOf (b.take (i + 1)) = longOf (b.take i) + g := eX
    clear e1 e2 eX
    have d1 := crossAt_new (L := pick true M) hp rfl rfl hg z1 (fun x hx => by obtain ⟨y, hy, rfl⟩ := pick_mem hx; exact (le y hy).2) (fun z => pick_last (at1 z))
    have d2 := crossAt_new (L := pick false M) hp rfl rfl hg z2 (fun x hx => by obtain ⟨y, hy, rfl⟩ := pick_mem hx; exact (le y hy).2) (fun z => pick_last (at2 z))
    rw [← c1] at d1
    rw [← c2] at d2
    clear c1 c2
    generalize (tabOf (b.take i)).led r1 = h1 at *
    generalize (tabOf (b.take i)).led r2 = h2 at *
    generalize longOf (b.take i) = X at *
    obtain ⟨y1, u1⟩ := h1
    obtain ⟨y2, u2⟩ := h2
    dsimp only at *
    have ltM : ∀ {t : Rat}, 0 < t → ∀ l, M.getLast? = some l → l.1 < X + t := fun ht l hl => by
      have := (le l (List.mem_of_getLast? hl)).2
      grind
    have le' : ∀ x ∈ M, 0 ≤ x.1 ∧ x.1 ≤ X + g := fun x hx => by have := le x hx; grind
    have k1 : (true == false) = false := rfl
    cases s1 : newIn g y1 u1 with
    | none =>
      cases s2 : newIn g y2 u2 with
      | none =>
        obtain ⟨r0, r1, r2⟩ := step_none W hg rel s1 s2
        rw [s1] at d1
        rw [s2] at d2
        refine ⟨[], ?_⟩
        rw [List.append_nil]
        refine ⟨alt, by rw [d1]; simp, by rw [d2]; simp, by rw [a3]; exact le', by rw [a1, a2]; exact r0, ?_, ?_⟩
        · rw [a1, a3]
          intro z
          have := r1 z
          subst this
          rw [at1 (by grind), Rat.add_zero]
        · rw [a2, a3]
          intro z
          have := r2 z
          subst this
          rw [at2 (by grind), Rat.add_zero]
      | some t =>
        obtain ⟨r0, r1, r2⟩ := step_two W rel s1 s2
        obtain ⟨_, t0, tg, _⟩ := newIn_some s2
        rw [s1] at d1
        rw [s2] at d2
        refine ⟨[(X + t, false)], altn_snoc alt fun l hl => ⟨ltM t0 l hl, ?_⟩, ?_, ?_, ?_, ?_, ?_, ?_⟩
        · rw [last_kind r0 hl]; simp
        · rw [d1, pick_append]; simp [pick]
        · rw [d2, pick_append]; simp [pick]
        · intro x hx
          rw [a3]
          rcases List.mem_append.mp hx with hx | hx
          · exact le' x hx
          · rw [List.mem_singleton.mp hx]; dsimp only; grind
        · rw [a1, a2]; simpa using r1
        · rw [a1]; intro z; exact absurd z r1.1
        · rw [a2, a3]; intro z; rw [r2 z]; simp
    | some t =>
      obtain ⟨_, t0, tg, _⟩ := newIn_some s1
      cases s2 : newIn g y2 u2 with
      | none =>
        obtain ⟨r0, r1, r2⟩ := step_one W rel s1 s2
        rw [s1] at d1
        rw [s2] at d2
        refine ⟨[(X + t, true)], altn_snoc alt fun l hl => ⟨ltM t0 l hl, ?_⟩, ?_, ?_, ?_, ?_, ?_, ?_⟩
        · rw [last_kind r0 hl]; simp
        · rw [d1, pick_append]; simp [pick]
        · rw [d2, pick_append]; simp [pick]
        · intro x hx
          rw [a3]
          rcases List.mem_append.mp hx with hx | hx
          · exact le' x hx
          · rw [List.mem_singleton.mp hx]; dsimp only; grind
        · rw [a1, a2]; simpa using r1
        · rw [a1, a3]; intro z; rw [r2 z]; simp
        · rw [a2]; intro z; exact absurd z r1.1
      | some s =>
        obtain ⟨_, s0, sg, _⟩ := newIn_some s2
        rw [s1] at d1
        rw [s2] at d2
        rcases step_both W rel s1 s2 with ⟨ts, r0, r1, r2⟩ | ⟨ts, r0, r1, r2⟩
        · refine ⟨[(X + t, true)] ++ [(X + s, false)], ?_⟩
          rw [← List.append_assoc]
          refine ⟨altn_snoc (altn_snoc alt fun l hl => ⟨ltM t0 l hl, ?_⟩) fun l hl => ?_, ?_, ?_, ?_, ?_, ?_, ?_⟩
          · rw [last_kind r0 hl]; simp
          · simp at hl; rw [← hl]; dsimp only; exact ⟨by grind, by simp⟩
          · rw [d1, pick_append, pick_append]; simp [pick]
          · rw [d2, pick_append, pick_append]; simp [pick]
          · intro x hx
            rw [a3]
            rcases List.mem_append.mp hx with hx | hx
            · rcases List.mem_append.mp hx with hx | hx
              · exact le' x hx
              · rw [List.mem_singleton.mp hx]; dsimp only; grind
            · rw [List.mem_singleton.mp hx]; dsimp only; grind
          · rw [a1, a2]; simpa using r1
          · rw [a1]; intro z; exact absurd z r1.1
          · rw [a2, a3]; intro z; rw [r2 z]; simp
        · refine ⟨[(X + s, false)] ++ [(X + t, true)], ?_⟩
          rw [← List.append_assoc]
          refine ⟨altn_snoc (altn_snoc alt fun l hl => ⟨ltM s0 l hl, ?_⟩) fun l hl => ?_, ?_, ?_, ?_, ?_, ?_, ?_⟩
          · rw [last_kind r0 hl]; simp
          · simp at hl; rw [← hl]; dsimp only; exact ⟨by grind, by simp⟩
          · rw [d1, pick_append, pick_append]; simp [pick]
          · rw [d2, pick_append, pick_append]; simp [pick]
          · intro x hx
            rw [a3]
            rcases List.mem_append.mp hx with hx | hx
            · rcases List.mem_append.mp hx with hx | hx
              · exact le' x hx
              · rw [List.mem_singleton.mp hx]; dsimp only; grind
            · rw [List.mem_singleton.mp hx]; dsimp only; grind
          · rw [a1, a2]; simpa using r1
          · rw [a1, a3]; intro z; rw [r2 z]; simp
          · rw [a2]; intro z; exact absurd z r1.1
theorem trn_all {b : List Pt} {r1 r2 : Ry} (W : 0 < r1.y * r2.u - r1.u * r2.y) (n1 : r1.nz) (n2 : r2.nz) (ok : ∀ p ∈ b, p.ok) : ∀ i, i ≤ b.length → ∃ M, Trn b r1 r2 i M
  | 0, _ => by
    have e : ∀ r, (tabOf (b.take 0)).led r = r := fun r => by rw [List.take_zero]; simp only [tabOf, List.foldl_nil, T4.one_led]
    have eX : longOf (b.take 0) = 0 := rfl
    by_cases h1 : r1.y = 0
    · have h2 : r2.y ≠ 0 := fun z => by rw [h1, z] at W; grind
      refine ⟨[(0, true)], trivial, ?_, ?_, ?_, ?_, ?_, ?_⟩
      · simp [crossTo, h1, pick]
      · simp [crossTo, h2, pick]
      · rw [eX]; intro x hx; rw [List.mem_singleton.mp hx]; exact ⟨Rat.le_refl, Rat.le_refl⟩
      · rw [e, e]; exact ⟨h2, .inl h1⟩
      · rw [eX]; intro; rfl
      · rw [e]; intro z; exact absurd z h2
    · by_cases h2 : r2.y = 0
      · refine ⟨[(0, false)], trivial, ?_, ?_, ?_, ?_, ?_, ?_⟩
        · simp [crossTo, h1, pick]
        · simp [crossTo, h2, pick]
        · rw [eX]; intro x hx; rw [List.mem_singleton.mp hx]; exact ⟨Rat.le_refl, Rat.le_refl⟩
        · rw [e, e]; exact ⟨h1, .inl h2⟩
        · rw [e]; intro z; exact absurd z h1
        · rw [eX]; intro; rfl
      · refine ⟨[], trivial, ?_, ?_, ?_, ?_, ?_, ?_⟩
        · simp [crossTo, h1, pick]
        · simp [crossTo, h2, pick]
        · intro x hx; simp at hx
        · rw [e, e]; exact ⟨h1, h2⟩
        · rw [e]; intro z; exact absurd z h1
        · rw [e]; intro z; exact absurd z h2
  | i + 1, hi => by
    obtain ⟨M, h⟩ := trn_all W n1 n2 ok i (by omega)
    have hp : b[i]? = some b[i] := List.getElem?_eq_getElem (by omega)
    obtain ⟨N, h⟩ := trn_step W n1 n2 hp (ok _ (List.getElem_mem _)) (long_nonneg fun p hp => ok p (List.mem_of_mem_take hp)) h
    exact ⟨_, h⟩
def placesOf (b : List Pt) (r : Ry) : List Rat := crossTo b r b.length
def byTurns (l m : List Rat) : Prop := ∀ k p q, l[k]? = some p → l[k + 1]? = some q → p < q ∧ (m.filter fun x => decide (p < x ∧ x < q)).length = 1
theorem turns {b : List Pt} {r s : Ry} (h : r.y * s.u ≠ r.u * s.y) (ok : ∀ p ∈ b, p.ok) :
    byTurns (placesOf b r) (placesOf b s) ∧ byTurns (placesOf b s) (placesOf b r) ∧ ∀ x ∈ placesOf b r, x ∉ placesOf b s := by
  have key : ∀ {r s : Ry}, 0 < r.y * s.u - r.u * s.y → byTurns (placesOf b r) (placesOf b s) ∧ byTurns (placesOf b s) (placesOf b r) ∧ ∀ x ∈ placesOf b r, x ∉ placesOf b s := by
    intro r s W
    have n1 : r.nz := by
      refine Classical.byContradiction fun h => ?_
      simp only [Ry.nz, not_or, Classical.not_not] at h
      rw [h.1, h.2] at W; grind
    have n2 : s.nz := by
      refine Classical.byContradiction fun h => ?_
      simp only [Ry.nz, not_or, Classical.not_not] at h
      rw [h.1, h.2] at W; grind
    obtain ⟨M, hM⟩ := trn_all W n1 n2 ok b.length (Nat.le_refl _)
    unfold placesOf
    rw [hM.l1, hM.l2]
    exact ⟨fun k p q hp hq => by_turns hM.alt hp hq, fun k p q hp hq => by_turns (v := false) hM.alt hp hq, fun x hx => pick_apart hM.alt hx⟩
  rcases rtri (r.y * s.u - r.u * s.y) with w | w | w
  · obtain ⟨a, b, c⟩ := key (r := s) (s := r) (by grind)
    exact ⟨b, a, fun x hx hy => c x hy hx⟩
  · exact absurd (by grind) h
  · exact key w
end Rg
end
section
set_option exponentiation.threshold 10000
namespace Rg
open PySem L2
end Rg
end
section
set_option exponentiation.threshold 10000
namespace Rg
open PySem L2
def Ry.by (r : Ry) (k : Rat) : Ry := ⟨r.y * k, r.u * k⟩
def frame (a b c : Ry) : Ry × Ry := (a.by (c.cross b / a.cross b), b.by (a.cross c / a.cross b))
end Rg
end
section
set_option exponentiation.threshold 10000
namespace Rg
open PySem L2
def htAt : List Pt → Ry → Rat → Rat
  | [], r, x => r.y + x * r.u
  | .gap g :: b, r, x => if x < g then r.y + x * r.u else htAt b ⟨r.y + g * r.u, r.u⟩ (x - g)
  | .glass q :: b, r, x => htAt b ⟨r.y, r.u - q * r.y⟩ x
  | .stop _ :: b, r, x => htAt b r x
structure Plc (b : List Pt) (r : Ry) (i : Nat) : Prop where
  lt : (crossTo b r i).Pairwise (· < ·)
  mem : ∀ x, x ∈ crossTo b r i ↔ 0 ≤ x ∧ x ≤ longOf (b.take i) ∧ htAt (b.take i) r x = 0
def Ry.back (r : Ry) : Ry := ⟨r.y, -r.u⟩
end Rg
end
section
set_option exponentiation.threshold 10000
namespace Rg
open PySem L2
section
variable {S : Store} {n k j m : Nat} {r : Ry} {b : List Pt}
theorem cut_to2 {A : Type} {f : A → D} {l : List A} {k : Nat} : ∃ c : List A, cutL (l.map f) none (some (k : Nat)) = c.map f ∧ c.length ≤ l.length := by
  unfold cutL
  have h1 : HT.sIx (l.map f).length 0 none = 0 := rfl
  rw [h1]
  refine ⟨(l.drop 0).take (HT.sIx (l.map f).length (l.map f).length (some (k : Int)) - 0), ?_, ?_⟩
  · simp
  · simp; omega
theorem cells_then {ns : List Int} {c : Nat} {P : D → Store → Prop} (hl : ns.length ≤ 63) (c0 : 0 < c) (c1 : c < 100) (hn : lstOf S n = some (ns.map D.int))
    (h : ∀ xs : List Int, P (.ref S.length) (S ++ [.lst (xs.map D.int)])) : Rok (m_l_cells [.ref n, .int (c : Nat)] S) P := by
  have hn' := lstOf_lt hn
  unfold m_l_cells
  simp [rok_def, sok_for, hn, hn']
  by_cases hlt : c < ns.length
  · have e1 : cutL (ns.map D.int) none (some (c : Nat)) = (ns.take c).map D.int := by rw [cut_to (by simp; omega), List.map_take]
    have e3 : max (1 : Int) (min (c : Nat) (ns.length : Nat)) = (c : Nat) := by omega
    have e4 : cutL ((ns.take c).map D.int ++ [.int 0]) none (some (c : Nat)) = (ns.take c).map D.int := by
      rw [cut_to (by simp; omega), List.take_append_of_le_length (by simp; omega), List.take_of_length_le (by simp; omega)]
    rw [e1, e3, e4]
    refine ⟨by simp; omega, ⟨by omega, by omega⟩, ?_⟩
    refine sok_forRun (fun i e S' => ∃ (L : List Int) (A B C E : Cell) (o : Option D), L.length = c ∧ S' = S ++ [A, B, C, E, .lst (L.map D.int)] ∧ e = [some (.ref n), some (.int (c : Nat)), some (.ref (S.length + 4)), o]) _ (fun i e S' h => trivial) ?_ ?_ _ _ ⟨ns.take c, _, _, _, _, none, by simp; omega, rfl, rfl⟩
    · rintro i d e S' hi ⟨L, A, B, C, E, o, hL, rfl, rfl⟩
      unfold rangeD at hi
      rw [List.getElem?_map] at hi
      obtain ⟨q, hq, rfl⟩ := Option.map_eq_some_iff.mp hi
      have hq2 := List.getElem?_eq_some_iff.mp hq
      obtain ⟨q1, q2⟩ := hq2
      simp at q1 q2
      subst q2
      have hm : i % c < c := Nat.mod_lt _ c0
      have a1 : atI (L.map D.int) ((i : Int) % (c : Int)) = some (.int (L.getD (i % c) 0)) := by
        have : (i : Int) % (c : Int) = ((i % c : Nat) : Int) := by omega
        rw [this, atI_nat (v := .int (L.getD (i % c) 0))]
        rw [List.getElem?_map, List.getElem?_eq_getElem (by omega)]
        simp [List.getD_eq_getElem?_getD, hL, hm]
      have a2 : atI (ns.map D.int) ((c : Int) + (i : Int)) = some (.int (ns.getD (c + i) 0)) := by
        have : (c : Int) + (i : Int) = ((c + i : Nat) : Int) := by omega
        rw [this, atI_nat (v := .int (ns.getD (c + i) 0))]
        rw [List.getElem?_map, List.getElem?_eq_getElem (by omega)]
        simp [List.getD_eq_getElem?_getD, show c + i < ns.length by omega]
      have a3 : ixN L.length ((i : Int) % (c : Int)) = some (i % c) := by
        have : (i : Int) % (c : Int) = ((i % c : Nat) : Int) := by omega
        rw [this, ixN_nat (by omega)]
      have c2 : (c : Int) ≠ 0 := by omega
      have c3 : (0 : Int) < c := by omega
      simp [hn, hn', a1, a2, a3, c2, c3]
      refine ⟨c3, CM_r (by decide), c3, L.set (i % c) (L[i % c]?.getD 0 * 31 + ns[c + i]?.getD 0), by simp [hL], by rw [List.map_set]⟩
    · rintro e S' ⟨L, A, B, C, E, o, hL, rfl, rfl⟩
      simp
      rw [rok_gcr (S := S) (k := 4) (C := [A, B, C, E, Cell.lst (L.map D.int)]) (l := L.map D.int) rfl (un_map fun _ _ => un_int)]
      exact h L
  · have e0 : ns.length - c = 0 := by omega
    rw [e0]
    obtain ⟨l0, e1, n1⟩ := cut_to2 (f := D.int) (l := ns) (k := c)
    have e2 : l0.map D.int ++ [D.int 0] = (l0 ++ [0]).map D.int := by simp
    have e3 : max (1 : Int) (min (c : Nat) (ns.length : Nat)) = ((max 1 (min c ns.length) : Nat) : Int) := by omega
    obtain ⟨xs, e4, n4⟩ := cut_to2 (f := D.int) (l := l0 ++ [0]) (k := max 1 (min c ns.length))
    rw [e3, e1, e2, e4]
    refine ⟨by simp; omega, ⟨by omega, by omega⟩, ?_⟩
    simp [rangeD]
    rw [rok_gcr (S := S) (k := 4) (C := [.lst (l0.map D.int), .lst (l0.map D.int), .lst [.int 0], .lst (l0.map D.int ++ [D.int 0]), .lst (xs.map D.int)]) (l := xs.map D.int) rfl (un_map fun _ _ => un_int)]
    exact h xs
end
end Rg
end
section
set_option exponentiation.threshold 10000
set_option maxHeartbeats 2000000
namespace Rg
open PySem L2
section
variable {S : Store} {L : List Ln} {l m : Ln} {g h n k i j b : Nat} {d s : D} {c x : Ry} {p q : Rat}
theorem GL.mono {g' : Nat} (h : GL L g) (hg : g ≤ g') (hl : g' ≤ 900) : GL L g' := by
  obtain ⟨G, g0, g1, hG⟩ := h.ov
  exact ⟨h.ok, h.len, hl, G, g0, Nat.lt_of_lt_of_le g1 (pow_le hg), fun l hl => ⟨(hG l hl).1.mono hg, (hG l hl).2.1.mono hg, (hG l hl).2.2.mono hg⟩⟩
def webL (n : Nat) : List Ln := (List.range n).map fun (k : Nat) => ⟨((k : Int) : Rat), (((n : Int) - (k : Int) : Int) : Rat), (((1 + (k : Int) % 2 : Int)) : Rat)⟩
theorem eQ_int {i : Int} : eQ (i : Rat) = .tup [.int i, .int 1] := by
  unfold eQ
  rw [Rat.num_intCast, Rat.den_intCast]
  rfl
theorem ov_int {i : Int} {k : Nat} (h : i.natAbs < 2 ^ k) : Ov 1 k (i : Rat) := ⟨i, h, by
  have : ((1 : Nat) : Rat) = 1 := rfl
  rw [this, Rat.mul_one]⟩
theorem webL_GL (hn : n ≤ 12) : GL (webL n) 5 := by
  have mem : ∀ l ∈ webL n, ∃ k : Nat, k < n ∧ l = ⟨((k : Int) : Rat), (((n : Int) - (k : Int) : Int) : Rat), (((1 + (k : Int) % 2 : Int)) : Rat)⟩ := fun l hl => by
    obtain ⟨k, hk, rfl⟩ := List.mem_map.mp hl
    exact ⟨k, List.mem_range.mp hk, rfl⟩
  refine ⟨⟨fun l hl => ?_, fun l hl => ?_⟩, by unfold webL; simpa using hn, by decide, 1, by decide, by decide, fun l hl => ?_⟩
  · obtain ⟨k, hk, rfl⟩ := mem l hl
    exact Rat.intCast_pos.mpr (by omega)
  · obtain ⟨k, hk, rfl⟩ := mem l hl
    refine .inr fun z => ?_
    have := Rat.intCast_eq_zero_iff.mp z
    omega
  · obtain ⟨k, hk, rfl⟩ := mem l hl
    exact ⟨ov_int (by omega), ov_int (by omega), ov_int (by omega)⟩
end
end Rg
end
section
set_option exponentiation.threshold 10000
set_option maxHeartbeats 2000000
namespace Rg
open PySem L2
section
variable {S : Store} {L : List Ln} {l m : Ln} {g h n k i j b : Nat} {d s : D} {c x : Ry} {sh : List (Int × Rat)} {p q : Rat}
theorem l_worth_y [hp : Sz p i] [hq : Sz q j] (hx : RyS x k) (h : i + k + (j + k) ≤ 8998) : m_l_worth [eQ p, eQ q, eR x] S = .ok (eQ (p * x.y + q * x.u)) S := by
  have h4 := hx.y
  have h5 := hx.u
  have a1 : i + k ≤ 8998 := by omega
  have a2 : j + k ≤ 8998 := by omega
  refine Rok.eq ?_
  unfold m_l_worth
  simp [rok_def, a1, a2, h]
theorem l_lets_y (hG : GL L g) (hr : RyS x k) (hk : g + k ≤ 4498) (hn : Sq S d (L.map eL)) : m_l_lets [d, eR x] S = .ok (.bl (letsB L x)) S := by
  refine Rok.eq ?_
  unfold m_l_lets
  simp [rok_def, sok_for]
  refine hn.iter fun chk hchk => ?_
  refine sok_forRun (fun i e S' => S' = S ∧ (∃ o o' o'', e = [some d, some (eR x), o, o', o'']) ∧ ∀ l ∈ L.take i, okL l x = true) _ (fun i e S' h => ?_) ?_ ?_ _ _ ⟨rfl, ⟨none, none, none, rfl⟩, by simp⟩
  · obtain ⟨rfl, _⟩ := h; exact hchk _ hn
  · rintro i d e S' hi ⟨rfl, ⟨o, o', o'', rfl⟩, ho⟩
    rw [List.getElem?_map] at hi
    obtain ⟨l, hl, rfl⟩ := Option.map_eq_some_iff.mp hi
    have hm := List.mem_of_getElem? hl
    have hs := hG.sz hm
    have h3 := hs.r
    have h1 := hs.p; have h2 := hs.q; have h4 := hr.y; have h5 := hr.u
    have ew : m_l_worth [eQ l.p, eQ l.q, eR x] S' = .ok (eQ (worth l x)) S' := l_worth_y hr (by omega)
    have h6 : Sz (worth l x) (g + k + (g + k) + 1) := (inferInstance : Sz (l.p * x.y + l.q * x.u) _)
    simp [ew, m_l_bare_eq]
    rw [m_l_below_eq (by omega)]
    simp
    refine ⟨fun hlt => ?_, fun hlt => ?_⟩
    · unfold letsB
      rw [List.all_eq_false]
      exact ⟨l, hm, by unfold okL; simp [hlt]⟩
    · intro m hm'
      rw [List.take_succ, hl] at hm'
      rcases List.mem_append.mp hm' with hm' | hm'
      · exact ho m hm'
      · simp at hm'
        subst hm'
        unfold okL
        simp [hlt]
  · rintro e S' ⟨rfl, ⟨o, o', o'', rfl⟩, ho⟩
    have : letsB L x = true := by
      unfold letsB
      rw [List.all_eq_true]
      intro l hl
      exact ho l (by rw [List.length_map, List.take_length]; exact hl)
    simp [this]
end
end Rg
end
section
set_option exponentiation.threshold 10000
set_option maxHeartbeats 2000000
namespace Rg
open PySem L2
section
variable {S : Store} {L : List Ln} {l m : Ln} {g h n k i j b : Nat} {d s : D} {c x : Ry} {sh : List (Int × Rat)} {p q : Rat}
noncomputable instance : Decidable (FreeB L c) := Classical.propDecidable _
end
end Rg
end
section
set_option exponentiation.threshold 10000
set_option maxHeartbeats 2000000
namespace Rg
open PySem L2
section
variable {S : Store} {L : List Ln} {l m : Ln} {g h n k i j b : Nat} {d s : D} {c x : Ry} {sh : List (Int × Rat)} {p q : Rat}
theorem web_map {N : Int} {n : Nat} (h : (n : Int) = N) : ((List.range n).map fun (k : Nat) => D.tup [.tup [.int (k : Int), .int 1], .tup [.int (N - (k : Int)), .int 1], .tup [.int (1 + (k : Int) % 2), .int 1]]) = (webL n).map eL := by
  unfold webL
  rw [List.map_map]
  refine List.map_congr_left fun k _ => ?_
  rw [← h]
  show _ = D.tup [eQ _, eQ _, eQ _]
  rw [eQ_int, eQ_int, eQ_int]
end
end Rg
end
section
set_option exponentiation.threshold 10000
namespace Rg
open PySem L2
end Rg
end
section
set_option exponentiation.threshold 10000
namespace Rg
open PySem L2
section
variable {S : Store} {b : List Pt} {x h : Rat} {d : D} {n k : Nat}
def eNL (q : Nat × Ln) : D := .tup [.int (q.1 : Nat), eQ q.2.p, eQ q.2.q, eQ q.2.r]
@[simp] theorem eNL_mk {k : Nat} {p q r : Rat} : D.tup [.int (k : Nat), eQ p, eQ q, eQ r] = eNL (k, ⟨p, q, r⟩) := rfl
@[simp] theorem eNL_un {N : Nat} {q : Nat × Ln} : (eNL q).under N = true := by unfold eNL; rw [un_tup]; simp only [un_cons, un_nil, eQ_un, un_int]; rfl
@[simp] theorem gT_eNL {f : List D → Env → Store → Option Env} {env : Env} {q : Nat × Ln} : gT 4 f (eNL q) env S = f [.int (q.1 : Nat), eQ q.2.p, eQ q.2.q, eQ q.2.r] env S := rfl
@[simp] theorem un_nls {N : Nat} {L : List (Nat × Ln)} : unders N (L.map eNL) = true := un_map fun _ _ => eNL_un
end
end Rg
end
section
set_option exponentiation.threshold 10000
namespace Rg
open PySem L2
def Ln.out (h s : Rat) (l : Ln) : Prop := l.r < (l.p * h + l.q * s).abs
instance {h s : Rat} {l : Ln} : Decidable (l.out h s) := by unfold Ln.out; infer_instance
end Rg
end
section
set_option exponentiation.threshold 10000
namespace Rg
open PySem L2
end Rg
end
section
set_option exponentiation.threshold 10000
namespace Rg
open PySem L2
end Rg
end
section
set_option exponentiation.threshold 10000
namespace Rg
open PySem L2
section
variable {S : Store} {b : List Pt} {x h s : Rat} {r : Ry} {n k i m : Nat}
theorem Sq.sl {S : Store} {d : D} {l : List D} {lo hi : Option Int} {P : D → Store → Prop} (h : Sq S d l) (k : ∀ d' C, Sq (S ++ C) d' (cutL l lo hi) → P d' (S ++ C)) : Rok (fSl d lo hi S) P := by
  rcases h with rfl | ⟨n, rfl, e⟩
  · rw [rok_slT]
    have := k (.tup (cutL l lo hi)) [] (.inl rfl)
    rwa [List.append_nil] at this
  · rw [rok_slL]
    exact ⟨l, e, k _ _ (.inr ⟨_, rfl, by simp⟩)⟩
theorem Bk.take (h : Bk b k) (i : Nat) : Bk (b.take i) k := ⟨by rw [List.length_take]; have := h.len; omega, fun p hp => h.sz p (List.mem_of_mem_take hp), fun p hp => h.ok p (List.mem_of_mem_take hp)⟩
end
end Rg
end
section
set_option exponentiation.threshold 10000
set_option maxHeartbeats 2000000
namespace Rg
open PySem L2
end Rg
end
section
set_option exponentiation.threshold 10000
set_option maxHeartbeats 2000000
namespace Rg
open PySem L2
@[simp] theorem ok_needed : PyData.strOk ("needed" : Str) = true := by decide +kernel
@[simp] theorem ok_idle : PyData.strOk ("idle" : Str) = true := by decide +kernel
@[simp] theorem ne_in : (("idle" : Str) = ("needed" : Str)) ↔ False := by decide +kernel
@[simp] theorem ne_ni : (("needed" : Str) = ("idle" : Str)) ↔ False := by decide +kernel
end Rg
end
set_option maxHeartbeats 2000000
namespace Rg
def tight (l : Ln) (x : Ry) : Prop := worth l x = l.r ∨ worth l x = -l.r
structure VxL (L : List Ln) (x : Ry) : Prop where
  ok : letsB L x = true
  two : ∃ l ∈ L, ∃ m ∈ L, lcr l m ≠ 0 ∧ tight l x ∧ tight m x
variable {L M : List Ln} {l m : Ln} {c x : Ry} {k j : Nat}
end Rg
section
set_option exponentiation.threshold 10000
namespace Rg
open PySem L2
end Rg
end
section
set_option exponentiation.threshold 10000
set_option maxHeartbeats 2000000
namespace Rg
open PySem L2
def OvT (D k : Nat) (t : T4) : Prop := Ov D k t.a ∧ Ov D k t.b ∧ Ov D k t.c ∧ Ov D k t.d
section
variable {S : Store} {b : List Pt} {L M : List Ln} {l : Ln} {k g h n : Nat} {x c : Ry} {d : D}
theorem OvT.up {D E k m : Nat} {t : T4} (h : OvT D k t) (hE : E < 2 ^ m) : OvT (D * E) (k + m) t := ⟨h.1.up hE, h.2.1.up hE, h.2.2.1.up hE, h.2.2.2.up hE⟩
theorem OvT.mono {D k m : Nat} {t : T4} (h : OvT D k t) (hk : k ≤ m) : OvT D m t := ⟨h.1.mono hk, h.2.1.mono hk, h.2.2.1.mono hk, h.2.2.2.mono hk⟩
theorem GL.sub {L M : List Ln} (hG : GL L g) (hs : ∀ l ∈ M, l ∈ L) (hl : M.length ≤ 12) : GL M g := by
  obtain ⟨G, g0, g1, hGG⟩ := hG.ov
  exact ⟨⟨fun l h => hG.ok.pos l (hs l h), fun l h => hG.ok.nz l (hs l h)⟩, hl, hG.le, G, g0, g1, fun l h => hGG l (hs l h)⟩
theorem GL.app {L M K : List Ln} (hG : GL L g) (hM : GL M h) (hgh : g + h ≤ 900) (hs : ∀ l ∈ K, l ∈ L ∨ l ∈ M) (hl : K.length ≤ 12) : GL K (g + h) := by
  obtain ⟨G, g0, g1, hGG⟩ := hG.ov
  obtain ⟨H, h0, h1, hHH⟩ := hM.ov
  refine ⟨⟨fun l hk => ?_, fun l hk => ?_⟩, hl, hgh, G * H, Nat.mul_pos g0 h0, mul_lt2 g1 h1, fun l hk => ?_⟩
  · rcases hs l hk with z | z
    · exact hG.ok.pos l z
    · exact hM.ok.pos l z
  · rcases hs l hk with z | z
    · exact hG.ok.nz l z
    · exact hM.ok.nz l z
  · rcases hs l hk with z | z
    · obtain ⟨a, b, c⟩ := hGG l z
      exact ⟨a.up h1, b.up h1, c.up h1⟩
    · obtain ⟨a, b, c⟩ := hHH l z
      have a := a.up g1
      have b := b.up g1
      have c := c.up g1
      rw [Nat.mul_comm, Nat.add_comm] at a b c
      exact ⟨a, b, c⟩
end
end Rg
end
section
set_option exponentiation.threshold 10000
set_option maxHeartbeats 2000000
namespace Rg
open PySem L2
end Rg
end
section
set_option exponentiation.threshold 10000
set_option maxHeartbeats 2000000
namespace Rg
open PySem L2
section
variable {S : Store} {L M : List Ln} {l : Ln} {k g h n i j m : Nat} {x y c : Ry} {d : D} {p q : Rat}
theorem less_eqK [hp : Sz p i] [hq : Sz q j] (hk : i + j ≤ 8998) : m_l_less [eQ p, eQ q] S = .ok (eQ (p - q)) S := by
  have hq' := sz_neg hq
  refine Rok.eq ?_
  unfold m_l_less
  simp [rok_def]
  rw [m_l_sum_eq (by omega)]
  have : p + -q = p - q := by grind
  simp [this]
theorem cross3_eqK {P Q : D} {a b u v : Rat} (h0 : ∀ T (X : D → Store → Prop), Rok (fIx P (.int 0) T) X ↔ X (eQ a) T) (h1 : ∀ T (X : D → Store → Prop), Rok (fIx P (.int 1) T) X ↔ X (eQ b) T)
    (h2 : ∀ T (X : D → Store → Prop), Rok (fIx Q (.int 0) T) X ↔ X (eQ u) T) (h3 : ∀ T (X : D → Store → Prop), Rok (fIx Q (.int 1) T) X ↔ X (eQ v) T) (ha : Sz a i) (hb : Sz b i) (hu : Sz u j) (hv : Sz v j) (hij : i + j + (i + j) ≤ 8998) : m_l_cross_3 [P, Q] S = .ok (eQ (a * v - b * u)) S := by
  refine Rok.eq ?_
  unfold m_l_cross_3
  simp [rok_def, h0, h1, h2, h3]
  rw [m_l_taken_eq (by omega)]
  simp [h0, h1, h2, h3]
  rw [m_l_taken_eq (by omega)]
  simp
  rw [less_eqK (by omega)]
  simp
theorem it_mod (ok : OkL L) (hm : met L ≠ []) (i : Nat) : itN (met L) (leastR (met L)) (i % (met L).length) = itN (met L) (leastR (met L)) i := (Cyc.mod (crn_cyc ok hm) i).1
theorem crnL_get (hi : i < (met L).length) : (crnL L)[i]? = some (itN (met L) (leastR (met L)) i) := by
  unfold crnL
  rw [List.getElem?_map, List.getElem?_range hi]
  rfl
theorem it_met (ok : OkL L) (hm : met L ≠ []) (i : Nat) : itN (met L) (leastR (met L)) i ∈ met L := (mem_met ok _).mpr (it_vx (met_okC ok hm) (mem_met ok) ((mem_met ok _).mp (leastR_ok hm).1) i).1
theorem szr_sub (hx : SzR x i) (hy : SzR y j) : SzR ⟨x.y - y.y, x.u - y.u⟩ (i + j + 1) := by
  obtain ⟨D, h0, h1, a, b⟩ := hx.ex
  obtain ⟨E, g0, g1, c, e⟩ := hy.ex
  have c := c.up h1
  have e := e.up h1
  rw [Nat.mul_comm, Nat.add_comm j i] at c e
  refine ⟨D * E, Nat.mul_pos h0 g0, Nat.lt_of_lt_of_le (mul_lt2 h1 g1) (pow_le (by omega)), ?_, ?_⟩
  · show Ov _ _ (x.y - y.y)
    rw [Rat.sub_eq_add_neg]
    exact (a.up g1).add c.neg (Nat.le_refl _)
  · show Ov _ _ (x.u - y.u)
    rw [Rat.sub_eq_add_neg]
    exact (b.up g1).add e.neg (Nat.le_refl _)
end
end Rg
end
set_option maxHeartbeats 2000000
namespace Rg
theorem crnL_perm {L : List Ln} (ok : OkL L) (hm : met L ≠ []) : (crnL L).Perm (met L) := by
  have h := around (met_okC ok hm) (mem_met ok) (nodup_met ok) (leastR_ok hm).1
  exact (List.perm_ext_iff_of_nodup h.2.1 (nodup_met ok)).mpr h.2.2.1
end Rg
section
set_option exponentiation.threshold 10000
namespace Rg
open PySem L2
section
variable {S : Store} {L : List Ln} {l m : Ln} {g n k j : Nat} {x y z : Ry} {F G G' : List Ry} {d : D} {a b : Rat}
theorem keyD_R : keyD (eR x) = some (.tup [.tup [.num x.y.num, .num (x.y.den : Int)], .tup [.num x.u.num, .num (x.u.den : Int)]]) := rfl
theorem keyD_inj (h : keyD (eR x) = keyD (eR y)) : x = y := by
  rw [keyD_R, keyD_R] at h
  simp at h
  obtain ⟨⟨h1, h2⟩, h3, h4⟩ := h
  exact Ry.ext' (Rat.ext h1 (by omega)) (Rat.ext h3 (by omega))
theorem okK_R : okK (eR x) = true := rfl
theorem okK_Rs : ∀ k ∈ F.map eR, okK k = true := fun k hk => by
  obtain ⟨x, _, rfl⟩ := List.mem_map.mp hk
  exact okK_R
theorem hasK_R : hasK (F.map eR) (eR x) = F.contains x := by
  unfold hasK
  rw [List.map_map, List.any_map, Bool.eq_iff_iff, List.any_eq_true, List.contains_iff_mem]
  constructor
  · rintro ⟨y, hy, h⟩
    have : y = x := keyD_inj (by simpa using h)
    exact this ▸ hy
  · intro h
    exact ⟨x, h, by simp⟩
theorem inN_eq (h : S[n]? = some (.dn (F.map eR))) : fInN (eR x) (.ref n) S = .ok (.bl (F.contains x)) S := by
  unfold fInN
  simp only [h]
  rw [if_pos ⟨okK_R, okK_Rs⟩, hasK_R]
theorem lenN_eq (h : S[n]? = some (.dn (F.map eR))) : fLenN [.ref n] S = .ok (.int (F.length : Nat)) S := by
  unfold fLenN
  simp only [h]
  rw [if_pos okK_Rs, List.length_map]
theorem eqN_eq {m : Nat} (h : S[n]? = some (.dn (F.map eR))) (h2 : S[m]? = some (.dn [])) : fEqN (.ref n) (.ref m) S = .ok (.bl F.isEmpty) S := by
  unfold fEqN
  simp only [h, h2]
  rw [if_pos okK_Rs]
  cases F <;> rfl
@[simp] theorem rok_dctN {env : Env} {P : D → Store → Prop} : Rok (sDctN env S) P ↔ P (.ref S.length) (S ++ [.dn []]) := by
  unfold sDctN
  rw [rok_ok]
def addR (F : List Ry) (x : Ry) : List Ry := if F.contains x then F else F ++ [x]
def setNok (o i : D) (S : Store) (P : Store → Prop) : Prop := ∃ n F x, o = .ref n ∧ i = eR x ∧ S[n]? = some (.dn (F.map eR)) ∧ F.length < sizeLine ∧ P (S.set n (.dn ((addR F x).map eR)))
theorem sok_setN {so si : SE} {env : Env} {P : SPt} (h : Rok (so env S) fun o S2 => Rok (si env S2) fun i S3 => setNok o i S3 (P.nx env)) : Sok (sSetN (sC (.bl true)) so si env S) P := by
  unfold sSetN
  rw [sok_andS, rok_C, sok_andS]
  refine h.imp fun o S2 h => ?_
  rw [sok_andS]
  refine h.imp fun i S3 h => ?_
  obtain ⟨n, F, x, rfl, rfl, h1, h2, h3⟩ := h
  simp only [h1]
  rw [if_pos ⟨okK_R, okK_Rs, by rw [List.length_map]; exact h2⟩, sok_nx, hasK_R]
  have : (if F.contains x = true then F.map eR else F.map eR ++ [eR x]) = (addR F x).map eR := by
    unfold addR
    split <;> simp
  rw [this]
  exact h3
theorem gc_dn {S S1 : Store} {d : D} {k : Nat} {ks : List D} (h : d.fresh S.length = some k) (hk : S1[k]? = some (.dn ks)) : gc S d S1 = .ok d S1 := by
  unfold gc
  split
  · rw [h]
    dsimp only
    split
    · rw [hk]
    · rfl
  · rfl
theorem l_met_eq (h : GL L g) (hl : l ∈ L) (hm : m ∈ L) (hc : lcr l m ≠ 0) (hg : g ≤ 800) (ha : Sz a g) (hb : Sz b g) : m_l_met [eL l, eL m, eQ a, eQ b] S = .ok (eR (byTwo l m a b)) S := by
  have hs := h.sz hl
  have ht := h.sz hm
  have a1 := hs.p; have a2 := hs.q; have b1 := ht.p; have b2 := ht.q
  have zc : Sz (lcr l m) (g + g + (g + g) + 1) := (inferInstance : Sz (l.p * m.q - l.q * m.p) _)
  have zy : Sz (a * m.q - l.q * b) (g + g + (g + g) + 1) := inferInstance
  have zu : Sz (l.p * b - a * m.p) (g + g + (g + g) + 1) := inferInstance
  refine Rok.eq ?_
  unfold m_l_met
  simp [rok_def]
  rw [cross3_eqK (fun _ _ => eL_i0) (fun _ _ => eL_i1) (fun _ _ => eL_i0) (fun _ _ => eL_i1) a1 a2 b1 b2 (by omega)]
  have e : l.p * m.q - l.q * m.p = lcr l m := rfl
  rw [e]
  simp
  rw [m_l_low_eq (num_ne hc) (Nat.lt_of_lt_of_le zc.num (pow_le (by omega))), ← Rat.inv_def]
  simp
  rw [m_l_taken_eq (p := a) (q := m.q) (by omega)]
  simp
  rw [m_l_taken_eq (p := l.q) (q := b) (by omega)]
  simp
  rw [less_eqK (p := a * m.q) (q := l.q * b) (by omega)]
  simp
  rw [m_l_taken_eq (p := l.p) (q := b) (by omega)]
  simp
  rw [m_l_taken_eq (p := a) (q := m.p) (by omega)]
  simp
  rw [less_eqK (p := l.p * b) (q := a * m.p) (by omega)]
  simp
  rw [m_l_taken_eq (p := (lcr l m)⁻¹) (q := a * m.q - l.q * b) (by omega)]
  simp
  rw [m_l_taken_eq (p := (lcr l m)⁻¹) (q := l.p * b - a * m.p) (by omega)]
  simp
  have e1 : (⟨(lcr l m)⁻¹ * (a * m.q - l.q * b), (lcr l m)⁻¹ * (l.p * b - a * m.p)⟩ : Ry) = byTwo l m a b := by
    unfold byTwo
    rw [Rat.div_def, Rat.div_def]
    apply Ry.ext' <;> dsimp only <;> grind
  rw [e1]
def dueAdd (L : List Ln) (F : List Ry) (z : Ry) : List Ry := if letsB L z then addR (addR F z) (opp z) else F
theorem addR_len : (addR F z).length ≤ F.length + 1 := by
  unfold addR
  split
  · omega
  · simp
theorem dueAdd_len : (dueAdd L F z).length ≤ F.length + 2 := by
  unfold dueAdd
  split
  · have := addR_len (F := F) (z := z)
    have := addR_len (F := addR F z) (z := opp z)
    omega
  · omega
theorem mem_addR : x ∈ addR F z ↔ x ∈ F ∨ x = z := by
  unfold addR
  split
  · rename_i h
    rw [List.contains_iff_mem] at h
    constructor
    · exact .inl
    · rintro (h2 | rfl)
      · exact h2
      · exact h
  · simp
theorem nodup_addR (h : F.Nodup) : (addR F z).Nodup := by
  unfold addR
  split
  · exact h
  · rename_i h2
    rw [List.contains_iff_mem] at h2
    rw [List.nodup_append]
    refine ⟨h, by simp, fun a ha b hb e => h2 ?_⟩
    rw [List.mem_singleton] at hb
    rw [← hb, ← e]
    exact ha
def Sym (F G : List Ry) : Prop := F.Nodup ∧ ∀ x, x ∈ F ↔ x ∈ G ∨ opp x ∈ G
theorem Sym.congr (h : Sym F G) (e : ∀ x, x ∈ G ↔ x ∈ G') : Sym F G' := ⟨h.1, fun x => by rw [h.2, e, e]⟩
theorem opp_eq : opp x = z ↔ x = opp z := by
  constructor
  · rintro rfl; rw [opp_opp]
  · rintro rfl; rw [opp_opp]
theorem Sym.add (h : Sym F G) : Sym (dueAdd L F z) (G ++ if letsB L z = true then [z] else []) := by
  unfold dueAdd
  split
  · refine ⟨nodup_addR (nodup_addR h.1), fun x => ?_⟩
    rw [mem_addR, mem_addR, h.2]
    simp [opp_eq]
    grind
  · simpa using h
theorem Sym.two (h : Sym F G) (hc : lcr l m ≠ 0) : Sym (dueAdd L (dueAdd L F (byTwo l m l.r m.r)) (byTwo l m l.r (-m.r))) (addMet L G l m) := by
  refine (h.add.add).congr fun x => ?_
  rw [mem_addMet]
  simp only [List.mem_append, twoR, List.mem_cons, List.not_mem_nil, or_false]
  constructor
  · rintro ((h | h) | h)
    · exact .inl h
    · split at h
      · rename_i hz
        rw [List.mem_singleton] at h
        exact .inr ⟨hc, .inl h, h ▸ hz⟩
      · cases h
    · split at h
      · rename_i hz
        rw [List.mem_singleton] at h
        exact .inr ⟨hc, .inr h, h ▸ hz⟩
      · cases h
  · rintro (h | ⟨_, rfl | rfl, hz⟩)
    · exact .inl (.inl h)
    · rw [if_pos hz]; simp
    · rw [if_pos hz]; simp
theorem Sym.met (h : Sym F (metTo L L.length)) : F.Nodup ∧ ∀ x, x ∈ F ↔ x ∈ met L := by
  refine ⟨h.1, fun x => ?_⟩
  rw [h.2]
  unfold Rg.met
  rw [List.mem_append, List.mem_map]
  constructor
  · rintro (h | h)
    · exact .inl h
    · by_cases hx : x ∈ metTo L L.length
      · exact .inl hx
      · refine .inr ⟨opp x, List.mem_filter.mpr ⟨h, ?_⟩, opp_opp⟩
        rw [opp_opp]
        simpa using hx
  · rintro (h | ⟨y, hy, rfl⟩)
    · exact .inl h
    · rw [opp_opp]
      exact .inr (List.mem_filter.mp hy).1
noncomputable def bDue : SS := (sSeq (sSet 5 (sTup (sCons (s2 fMul (s2 fIx (s2 fIx (s2 fIx (sVar 0) (sVar 3)) (sC (.int (2)))) (sC (.int (0)))) (sVar 4)) (sCons (s2 fIx (s2 fIx (s2 fIx (sVar 0) (sVar 3)) (sC (.int (2)))) (sC (.int (1)))) (sNil))))) (sSeq (sSet 6 (sCall m_l_met (sCons (s2 fIx (sVar 0) (sVar 2)) (sCons (s2 fIx (sVar 0) (sVar 3)) (sCons (s2 fIx (s2 fIx (sVar 0) (sVar 2)) (sC (.int (2)))) (sCons (sVar 5) (sNil))))))) (sIfS (sT (sCall m_l_lets (sCons (sVar 0) (sCons (sVar 6) (sNil))))) (sSeq (sSetN (sC (.bl true)) (sVar 1) (sVar 6)) (sSetN (sC (.bl true)) (sVar 1) (sTup (sCons (sCall m_l_back (sCons (s2 fIx (sVar 6) (sC (.int (0)))) (sNil))) (sCons (sCall m_l_back (sCons (s2 fIx (sVar 6) (sC (.int (1)))) (sNil))) (sNil)))))) (sSkip))))
theorem bDue_ok {gg : SPt} {C : Store} {o5 o6 : Option D} {s : Int} {r : Rat} (h : GL L g) (hg : g ≤ 800) (hl : L[k]? = some l) (hm : L[j]? = some m) (hc : lcr l m ≠ 0) (hn : lstOf S n = some (L.map eL)) (hF : F.length ≤ 900)
    (h64 : s.natAbs < 2 ^ 64) (hs : D.tup [.int (m.r.num * s), .int (m.r.den : Int)] = eQ r) (hr : r = m.r ∨ r = -m.r)
    (hk : ∀ o5 o6 : Option D, gg.nx [some (.ref n), some (.ref S.length), some (.int k), some (.int j), some (.int s), o5, o6] (S ++ .dn ((dueAdd L F (byTwo l m l.r r)).map eR) :: C)) :
    Sok (bDue [some (.ref n), some (.ref S.length), some (.int k), some (.int j), some (.int s), o5, o6] (S ++ .dn (F.map eR) :: C)) gg := by
  have hlt := lstOf_lt hn
  have lm := List.mem_of_getElem? hl
  have mm := List.mem_of_getElem? hm
  have s1 := (h.sz lm).r
  have s2 := (h.sz mm).r
  have sr : Sz r g := by rcases hr with rfl | rfl <;> infer_instance
  have a1 : atI (L.map eL) (k : Int) = some (eL l) := atI_nat (by rw [List.getElem?_map, hl]; rfl)
  have a2 : atI (L.map eL) (j : Int) = some (eL m) := atI_nat (by rw [List.getElem?_map, hm]; rfl)
  have hx : byTwo l m l.r r ∈ twoR l m := by rcases hr with rfl | rfl <;> simp [twoR]
  have sx := h.two lm mm hc hx
  have hle := h.le
  have cm : CM m.r.num s := CM_r h64
  unfold bDue
  simp [hn, hlt, a1, a2, hs, cm]
  rw [l_met_eq h lm mm hc hg s1 sr]
  simp
  rw [l_lets_y h ⟨szr_y sx, szr_u sx⟩ (by omega) (.inr ⟨n, rfl, by simp [hn, hlt]⟩)]
  simp
  unfold dueAdd at hk
  refine ⟨fun hb => ?_, fun hb => ?_⟩
  · simp only [hb, if_pos] at hk
    refine sok_setN ?_
    simp
    refine ⟨_, F, _, rfl, rfl, by simp, by simp; omega, ?_⟩
    refine sok_setN ?_
    simp
    refine ⟨_, addR F (byTwo l m l.r r), opp (byTwo l m l.r r), rfl, rfl, by simp, by have := addR_len (F := F) (z := byTwo l m l.r r); simp; omega, ?_⟩
    simp
    exact hk _ _
  · simp only [hb, if_neg, Bool.false_eq_true, not_false_eq_true] at hk
    exact hk _ _
noncomputable def jDue : SS := (sIfS (sT (s2 fNe (s2 fIx (sCall m_l_cross_3 (sCons (s2 fIx (sVar 0) (sVar 2)) (sCons (s2 fIx (sVar 0) (sVar 3)) (sNil)))) (sC (.int (0)))) (sC (.int (0))))) (sFor (sIter (sLst (sCons (sC (.int (1))) (sCons (s1 fNeg (sC (.int (1)))) (sNil))))) (gN 4) bDue) (sSkip))
theorem jDue_ok {gg : SPt} {C : Store} {o4 o5 o6 : Option D} (h : GL L g) (hg : g ≤ 800) (hl : L[k]? = some l) (hm : L[j]? = some m) (hn : lstOf S n = some (L.map eL)) (hF : F.length ≤ 890) (hS : Sym F G)
    (hk : ∀ (F' : List Ry) (C' : Store) (o4 o5 o6 : Option D), Sym F' (addMet L G l m) → F'.length ≤ F.length + 4 → gg.nx [some (.ref n), some (.ref S.length), some (.int k), some (.int j), o4, o5, o6] (S ++ .dn (F'.map eR) :: (C ++ C'))) :
    Sok (jDue [some (.ref n), some (.ref S.length), some (.int k), some (.int j), o4, o5, o6] (S ++ .dn (F.map eR) :: C)) gg := by
  have hlt := lstOf_lt hn
  have lm := List.mem_of_getElem? hl
  have mm := List.mem_of_getElem? hm
  have a1 : atI (L.map eL) (k : Int) = some (eL l) := atI_nat (by rw [List.getElem?_map, hl]; rfl)
  have a2 : atI (L.map eL) (j : Int) = some (eL m) := atI_nat (by rw [List.getElem?_map, hm]; rfl)
  have hs := h.sz lm
  have ht := h.sz mm
  unfold jDue
  simp [hn, hlt, a1, a2]
  rw [cross3_eqK (fun _ _ => eL_i0) (fun _ _ => eL_i1) (fun _ _ => eL_i0) (fun _ _ => eL_i1) hs.p hs.q ht.p ht.q (by omega)]
  have e : l.p * m.q - l.q * m.p = lcr l m := rfl
  rw [e]
  by_cases hc : lcr l m = 0
  · have : addMet L G l m = G := by unfold addMet; rw [if_neg (by simpa using hc)]
    simp [hc]
    have := hk F [] o4 o5 o6 (by rw [this]; exact hS) (by omega)
    simpa using this
  · simp [hc, sok_for]
    refine bDue_ok h hg hl hm hc hn (by omega) (by decide) (r := m.r) (by simp) (.inl rfl) fun o5 o6 => ?_
    simp
    have q1 := dueAdd_len (L := L) (F := F) (z := byTwo l m l.r m.r)
    refine bDue_ok h hg hl hm hc hn (by omega) (by decide) (r := -m.r) (by simp [eQ]) (.inr rfl) fun o5 o6 => ?_
    simp
    have q2 := dueAdd_len (L := L) (F := dueAdd L F (byTwo l m l.r m.r)) (z := byTwo l m l.r (-m.r))
    exact hk _ [_] _ _ _ (hS.two hc) (by omega)
noncomputable def kDue : SS := (sFor (sRng fRng1 (sCons (sVar 2) (sNil))) (gN 3) jDue)
theorem kDue_ok {A : SS} {gg : SPt} {C : Store} {o3 o4 o5 o6 : Option D} (h : GL L g) (hg : g ≤ 800) (hl : L[k]? = some l) (hn : lstOf S n = some (L.map eL)) (hF : F.length ≤ 800) (hS : Sym F (metTo L k))
    (hk : ∀ (F' : List Ry) (C' : Store) (o3 o4 o5 o6 : Option D), Sym F' (metTo L (k + 1)) → F'.length ≤ F.length + 48 → gg.nx [some (.ref n), some (.ref S.length), some (.int k), o3, o4, o5, o6] (S ++ .dn (F'.map eR) :: (C ++ C')))
    (hA : A = kDue) : Sok (A [some (.ref n), some (.ref S.length), some (.int k), o3, o4, o5, o6] (S ++ .dn (F.map eR) :: C)) gg := by
  rw [hA]
  have hk12 := (List.getElem?_eq_some_iff.mp hl).1
  have h12 := h.len
  have el : metTo L (k + 1) = metIn L l (metTo L k) (L.take k) := by
    show (match L[k]? with | some l => metIn L l (metTo L k) (L.take k) | none => metTo L k) = _
    rw [hl]
  unfold kDue
  simp [sok_for]
  refine ⟨by omega, ?_⟩
  refine sok_forRun (fun j e S' => ∃ (F' : List Ry) (C' : Store) (o3 o4 o5 o6 : Option D), e = [some (.ref n), some (.ref S.length), some (.int k), o3, o4, o5, o6] ∧ S' = S ++ .dn (F'.map eR) :: (C ++ C') ∧ Sym F' (metIn L l (metTo L k) (L.take j)) ∧ F'.length ≤ F.length + 4 * j) _ (fun j e S' hh => trivial) ?_ ?_ _ _ ⟨F, [], o3, o4, o5, o6, rfl, by simp, by simpa [metIn] using hS, by omega⟩
  · rintro j x e S' hj ⟨F', C', o3, o4, o5, o6, rfl, rfl, hS', hF'⟩
    have hj2 := (List.getElem?_eq_some_iff.mp hj).1
    have hj3 : j < k := by simpa [rangeD] using hj2
    have hd : x = .int (j : Nat) := by
      unfold rangeD at hj
      rw [List.getElem?_map] at hj
      obtain ⟨z, hz, rfl⟩ := Option.map_eq_some_iff.mp hj
      have := (List.getElem?_eq_some_iff.mp hz).2
      simp at this
      rw [← this]
      simp
    subst hd
    obtain ⟨m, hm⟩ : ∃ m, L[j]? = some m := ⟨_, List.getElem?_eq_getElem (by omega)⟩
    have et : metIn L l (metTo L k) (L.take (j + 1)) = addMet L (metIn L l (metTo L k) (L.take j)) l m := by
      have : L.take (j + 1) = L.take j ++ [m] := by rw [List.take_succ, hm]; rfl
      rw [this]
      unfold metIn
      rw [List.foldl_append]
      rfl
    refine ⟨_, rfl, ?_⟩
    refine jDue_ok h hg hl hm hn (by omega) hS' fun F2 C2 o4 o5 o6 hS2 hF2 => ?_
    exact ⟨F2, C' ++ C2, _, _, _, _, rfl, by simp, et ▸ hS2, by omega⟩
  · rintro e S' ⟨F', C', o3, o4, o5, o6, rfl, rfl, hS', hF'⟩
    have e1 : (rangeD 0 ((k : Int)).toNat).length = k := by simp [rangeD]
    have e2 : (rangeD 0 k).length = k := by simp [rangeD]
    simp only [e1, e2] at hS' hF'
    exact hk F' C' _ _ _ _ (el ▸ hS') (by omega)
theorem l_due_eq {P : D → Store → Prop} (h : GL L g) (hg : g ≤ 800) (hn : lstOf S n = some (L.map eL)) (hP : ∀ (F : List Ry) (C : Store), F.Nodup → (∀ x, x ∈ F ↔ x ∈ met L) → P (.ref S.length) (S ++ .dn (F.map eR) :: C)) : Rok (m_l_due_10 [.ref n] S) P := by
  have hlt := lstOf_lt hn
  have h12 := h.len
  unfold m_l_due_10
  obtain ⟨A, hA⟩ : ∃ A, A = kDue := ⟨_, rfl⟩
  have hA2 := hA
  unfold kDue jDue bDue at hA2
  rw [← hA2]
  clear hA2
  simp [rok_def, sok_for, hn, hlt]
  refine ⟨by omega, ?_⟩
  refine sok_forRun (fun i e S' => ∃ (F : List Ry) (C : Store) (o2 o3 o4 o5 o6 : Option D), e = [some (.ref n), some (.ref S.length), o2, o3, o4, o5, o6] ∧ S' = S ++ .dn (F.map eR) :: C ∧ Sym F (metTo L i) ∧ F.length ≤ 48 * i) _ (fun i e S' hh => trivial) ?_ ?_ _ _ ⟨[], [], none, none, none, none, none, rfl, by simp, ⟨by simp, by simp [metTo]⟩, by simp⟩
  · rintro i x e S' hi ⟨F, C, o2, o3, o4, o5, o6, rfl, rfl, hS, hF⟩
    have hi2 := (List.getElem?_eq_some_iff.mp hi).1
    have hi3 : i < L.length := by simpa [rangeD] using hi2
    have hd : x = .int (i : Nat) := by
      unfold rangeD at hi
      rw [List.getElem?_map] at hi
      obtain ⟨z, hz, rfl⟩ := Option.map_eq_some_iff.mp hi
      have := (List.getElem?_eq_some_iff.mp hz).2
      simp at this
      rw [← this]
      simp
    subst hd
    obtain ⟨l, hl⟩ : ∃ l, L[i]? = some l := ⟨_, List.getElem?_eq_getElem hi3⟩
    refine ⟨_, rfl, ?_⟩
    refine kDue_ok (k := i) h hg hl hn (by omega) hS (fun F' C' o3 o4 o5 o6 hS' hF' => ?_) hA
    exact ⟨F', C ++ C', _, _, _, _, _, rfl, rfl, hS', by omega⟩
  · rintro e S' ⟨F, C, o2, o3, o4, o5, o6, rfl, rfl, hS, hF⟩
    have e1 : (rangeD 0 L.length).length = L.length := by simp [rangeD]
    rw [e1] at hS
    have := hS.met
    simp
    rw [gc_dn (k := S.length) (ks := F.map eR) (by simp [D.fresh]) (by simp), rok_ok]
    exact hP F C this.1 this.2
end
end Rg
end
section
set_option exponentiation.threshold 10000
namespace Rg
open PySem L2
section
variable {S : Store} {L : List Ln} {l m : Ln} {g n k j : Nat} {x y z : Ry} {F G G' : List Ry} {d : D} {a b : Ry}
theorem l_ahead_eq (ha : SzR a k) (hb : SzR b k) (hk : k ≤ 4000) : m_l_ahead [eR a, eR b] S = .ok (.bl (isLeast a b)) S := by
  have a1 := szr_y ha; have a2 := szr_u ha; have b1 := szr_y hb; have b2 := szr_u hb
  have hk2 : k + k ≤ 999998 := by omega
  refine Rok.eq ?_
  unfold m_l_ahead
  simp [rok_def, hk2]
  unfold isLeast
  refine ⟨fun h => by simp [h], fun h => by simp [h]⟩
theorem fam2_GL95 (hF : Fam2 L) (hm : L.length ≤ 5) : GL L 476 := by
  obtain ⟨G, g0, g1, hG⟩ := hF.2.2
  have : GL L (95 * L.length + 1) := ⟨⟨hF.2.1, fun l hl => (hF.1.mem hl).nz⟩, by omega, by omega, G, g0, g1, hG⟩
  exact this.mono (by omega) (by omega)
theorem first_ahead (ok : OkL L) (hm : met L ≠ []) {i : Nat} (h0 : 0 < i) (hi : i < (met L).length) : isLeast (itN (met L) (leastR (met L)) 0) (itN (met L) (leastR (met L)) i) = true := by
  have hl := leastR_ok hm
  have h := around (met_okC ok hm) (mem_met ok) (nodup_met ok) hl.1
  cases hh : isLeast (itN (met L) (leastR (met L)) 0) (itN (met L) (leastR (met L)) i)
  · exfalso
    have e := isLeast_anti hh (hl.2 _ (it_met ok hm i))
    have nd := h.2.1
    have g0 : ((List.range (met L).length).map (itN (met L) (leastR (met L))))[0]? = some (itN (met L) (leastR (met L)) 0) := by
      rw [List.getElem?_map, List.getElem?_range (by omega)]; rfl
    have gi : ((List.range (met L).length).map (itN (met L) (leastR (met L))))[i]? = some (itN (met L) (leastR (met L)) i) := by
      rw [List.getElem?_map, List.getElem?_range hi]; rfl
    obtain ⟨q0, q1⟩ := List.getElem?_eq_some_iff.mp g0
    obtain ⟨p0, p1⟩ := List.getElem?_eq_some_iff.mp gi
    exact List.pairwise_iff_getElem.mp nd 0 i q0 p0 h0 (by rw [q1, p1, e])
  · rfl
theorem l_around_eq (hG : GL L g) (hg : g ≤ 560) (hm : met L ≠ []) (hn : lstOf S n = some ((crnL L).map eR)) : m_l_around_2 [.ref n] S = .ok (.bl true) S := by
  have hn' := lstOf_lt hn
  have ok := hG.ok
  have hml := metL_len hG
  have hcl := crnL_len (L := L)
  have hpos : 0 < (met L).length := List.length_pos_iff.mpr hm
  have hsz : ∀ i, SzR (itN (met L) (leastR (met L)) i) (2 * g + 1) := fun i => hG.met (it_met ok hm i)
  have hmod := it_mod ok hm
  have hget : ∀ i, i < (met L).length → (crnL L)[i]? = some (itN (met L) (leastR (met L)) i) := fun i hi => crnL_get hi
  have hmem : ∀ x ∈ crnL L, Vx (both L) x ∧ SzR x (2 * g + 1) := fun x hx => ⟨(mem_met ok x).mp ((mem_crnL ok hm).mp hx), crnL_sz hG hm x hx⟩
  have hside := (crn_cyc ok hm).side
  have hfirst : ∀ i, 0 < i → i < (met L).length → isLeast (itN (met L) (leastR (met L)) 0) (itN (met L) (leastR (met L)) i) = true := fun i h0 hi => first_ahead ok hm h0 hi
  have oc := met_okC ok hm
  generalize itN (met L) (leastR (met L)) = f at *
  generalize (met L).length = N at *
  refine Rok.eq ?_
  unfold m_l_around_2
  simp [rok_def, sok_for, hn, hn', hcl]
  refine ⟨by omega, ?_⟩
  refine sok_forRun (fun i e S' => S' = S ∧ (∃ o1 o2 o3 o4 o5 o6, e = [some (.ref n), o1, o2, o3, o4, o5, o6])) _ (fun i e S' hh => trivial) ?_ ?_ _ _ ⟨rfl, none, none, none, none, none, none, rfl⟩
  · rintro i d e S' hi ⟨rfl, ⟨o1, o2, o3, o4, o5, o6, rfl⟩⟩
    have hi2 := (List.getElem?_eq_some_iff.mp hi).1
    have hi3 : i < N := by simpa [rangeD] using hi2
    have hd : d = .int (i : Nat) := by
      unfold rangeD at hi
      rw [List.getElem?_map] at hi
      obtain ⟨z, hz, rfl⟩ := Option.map_eq_some_iff.mp hi
      have := (List.getElem?_eq_some_iff.mp hz).2
      simp at this
      rw [← this]
      simp
    subst hd
    have a0 : atI ((crnL L).map eR) 0 = some (eR (f 0)) := atI_nat (j := 0) (by rw [List.getElem?_map, hget 0 hpos]; rfl)
    have a1 : atI ((crnL L).map eR) (i : Nat) = some (eR (f i)) := atI_nat (by rw [List.getElem?_map, hget i hi3]; rfl)
    have a2 : atI ((crnL L).map eR) (((i : Int) + 1) % (N : Int)) = some (eR (f (i + 1))) := by
      have : ((i : Int) + 1) % (N : Int) = (((i + 1) % N : Nat) : Int) := by rw [Int.natCast_emod]; rfl
      rw [this]
      refine atI_nat ?_
      rw [List.getElem?_map, hget _ (Nat.mod_lt _ hpos), hmod]
      rfl
    have cm : CMo ((i : Int) + 1) (N : Int) := by show (0 : Int) < N; omega
    have z1 := hsz i
    have z2 := hsz (i + 1)
    obtain ⟨l, hl⟩ := hside i
    have hcross := hl.cross oc
    have al := (szr_sub z2 z1).mono (show 2 * g + 1 + (2 * g + 1) + 1 ≤ 4 * g + 3 by omega)
    have hal : SzR (f i) (2 * g + 1) := z1
    have hsz1 : 2 * g + 1 + (2 * g + 1) + (2 * g + 1 + (2 * g + 1)) ≤ 8998 := by omega
    have hsz2 : 4 * g + 3 + (4 * g + 3) + (4 * g + 3 + (4 * g + 3)) ≤ 8998 := by omega
    simp [hn, hn', hcl, a1, a2]
    refine ⟨cm, ?_⟩
    rw [less_eqK (p := (f (i + 1)).y) (q := (f i).y) (by omega)]
    simp
    rw [less_eqK (p := (f (i + 1)).u) (q := (f i).u) (by omega)]
    simp
    rw [cross3_eqK (fun _ _ => eR_i0) (fun _ _ => eR_i1) (fun _ _ => eR_i0) (fun _ _ => eR_i1) (szr_y z1) (szr_u z1) (szr_y z2) (szr_u z2) hsz1]
    have ec : (f i).y * (f (i + 1)).u - (f i).u * (f (i + 1)).y = (f i).cross (f (i + 1)) := rfl
    rw [ec]
    have hc2 : ¬ ((f i).cross (f (i + 1))).num ≤ 0 := by
      have := num_gt.mpr hcross
      omega
    have inner : ∀ gg : SPt, (∀ o5 o6, gg.nx [some (.ref n), some (.int i), some (eR (f i)), some (eR (f (i + 1))), some (eR ⟨(f (i + 1)).y - (f i).y, (f (i + 1)).u - (f i).u⟩), o5, o6] S') →
        Sok (sFor (sIter (sVar 0)) (gN 5) (sSeq (sSet 6 (sTup (sCons (sCall m_l_less (sCons (s2 fIx (sVar 5) (sC (.int (0)))) (sCons (s2 fIx (sVar 2) (sC (.int (0)))) (sNil)))) (sCons (sCall m_l_less (sCons (s2 fIx (sVar 5) (sC (.int (1)))) (sCons (s2 fIx (sVar 2) (sC (.int (1)))) (sNil)))) (sNil))))) (sIfS (sAnd (sT (s2 (fInT true) (sVar 5) (sTup (sCons (sVar 2) (sCons (sVar 3) (sNil)))))) (sT (s2 fLe (s2 fIx (sCall m_l_cross_3 (sCons (sVar 4) (sCons (sVar 6) (sNil)))) (sC (.int (0)))) (sC (.int (0)))))) (sRet (sC (.bl false))) (sSkip))) [some (.ref n), some (.int i), some (eR (f i)), some (eR (f (i + 1))), some (eR ⟨(f (i + 1)).y - (f i).y, (f (i + 1)).u - (f i).u⟩), o5, o6] S') gg := by
      intro gg hgg
      simp [sok_for, hn]
      refine sok_forRun (fun j e S2 => S2 = S' ∧ ∃ o5 o6, e = [some (.ref n), some (.int i), some (eR (f i)), some (eR (f (i + 1))), some (eR ⟨(f (i + 1)).y - (f i).y, (f (i + 1)).u - (f i).u⟩), o5, o6]) _ (fun j e S2 hh => hh.1 ▸ hn) ?_ ?_ _ _ ⟨rfl, _, _, rfl⟩
      · rintro j d e S2 hj ⟨rfl, o5, o6, rfl⟩
        rw [List.getElem?_map] at hj
        obtain ⟨t, ht, rfl⟩ := Option.map_eq_some_iff.mp hj
        obtain ⟨tv, tz⟩ := hmem t (List.mem_of_getElem? ht)
        have to := (szr_sub tz z1).mono (show 2 * g + 1 + (2 * g + 1) + 1 ≤ 4 * g + 3 by omega)
        have ty := szr_y tz
        have tu := szr_u tz
        have y1 := szr_y z1
        have u1 := szr_u z1
        refine ⟨_, rfl, ?_⟩
        simp
        rw [less_eqK (p := t.y) (q := (f i).y) (by omega)]
        simp
        rw [less_eqK (p := t.u) (q := (f i).u) (by omega)]
        simp [fInT]
        rw [cross3_eqK (fun _ _ => eR_i0) (fun _ _ => eR_i1) (fun _ _ => eR_i0) (fun _ _ => eR_i1) (szr_y al) (szr_u al) (szr_y to) (szr_u to) hsz2]
        have ec : ((f (i + 1)).y - (f i).y) * (t.u - (f i).u) - ((f (i + 1)).u - (f i).u) * (t.y - (f i).y) = (f i).cross (f (i + 1)) + (f (i + 1)).cross t + t.cross (f i) := by unfold Ry.cross; grind
        rw [ec]
        have key : t ≠ f i → t ≠ f (i + 1) → ¬ ((f i).cross (f (i + 1)) + (f (i + 1)).cross t + t.cross (f i)).num ≤ 0 := fun h1 h2 => by
          have := num_gt.mpr (side_all oc hl tv h1 h2)
          omega
        intro h1 h2
        have kk := key (Ne.symm h1) (Ne.symm h2)
        simp [kk]
      · rintro e S2 ⟨rfl, o5, o6, rfl⟩
        exact hgg _ _
    simp [hc2]
    refine ⟨fun h0 => ⟨_, hn, _, a0, ?_⟩, fun h0 => ?_⟩
    · rw [l_ahead_eq (hsz 0) z1 (by omega)]
      simp [hfirst i h0 hi3]
      exact inner _ fun o5 o6 => ⟨rfl, _, _, _, _, _, _, rfl⟩
    · exact inner _ fun o5 o6 => ⟨rfl, _, _, _, _, _, _, rfl⟩
  · rintro e S' ⟨rfl, ⟨o1, o2, o3, o4, o5, o6, rfl⟩⟩
    simp
end
end Rg
end
section
set_option exponentiation.threshold 10000
namespace Rg
open PySem L2
def tinyQ : Rat := ⟨1, 1000000000000, by decide, by decide⟩
instance : Sz tinyQ 41 := ⟨by decide, by decide⟩
section
variable {S : Store} {L : List Ln} {l m : Ln} {c x : Ry} {k i j g h b n mm : Nat} {d s : D} {sh : List (Int × Rat)} {q : Rat}
theorem rok_reverseA {P : D → Store → Prop} {l : List D} (hl : S[n]? = some (.lst l)) (h : P .non (S.set n (.lst l.reverse))) : Rok (fReverse (.ref n) [] S) P := by
  unfold fReverse
  simp only [hl, rok_ok]
  exact h
end
end Rg
end
namespace K23
open PySem PySem.Spec PyProof.Rows L2 Rg
def top (i : Nat) : Stmt := PySem.Challenge.pw_roundglass_k23_corners_told.main.body.getD i (.Pass ⟨0, 0, 0, 0⟩)
structure Txt (K : PySem.W.Frag) (mg : Str → Option Value) (xv : XV) : Prop where
  n_abs : mg ("abs" : Str) = none
  n_all : mg ("all" : Str) = none
  n_bool : mg ("bool" : Str) = none
  n_enumerate : mg ("enumerate" : Str) = none
  n_int : mg ("int" : Str) = none
  n_isinstance : mg ("isinstance" : Str) = none
  n_len : mg ("len" : Str) = none
  n_list : mg ("list" : Str) = none
  n_max : mg ("max" : Str) = none
  n_min : mg ("min" : Str) = none
  n_range : mg ("range" : Str) = none
  n_tuple : mg ("tuple" : Str) = none
  n_zip : mg ("zip" : Str) = none
abbrev s_l_cells : Stmt := top 31
abbrev N_l_cells : List Str := ["script", "bound", "found", "k"]
abbrev P_l_cells : List Str := ["script", "bound"]
theorem sc_l_cells : FnScope N_l_cells P_l_cells (defScope s_l_cells) := ⟨rfl, rfl, rfl, by decide +kernel, rfl, by decide +kernel, by decide +kernel⟩
abbrev s_l_pool : Stmt := top 29
abbrev N_l_pool : List Str := ["cell"]
abbrev P_l_pool : List Str := ["cell"]
theorem sc_l_pool : FnScope N_l_pool P_l_pool (defScope s_l_pool) := ⟨rfl, rfl, rfl, by decide +kernel, rfl, by decide +kernel, by decide +kernel⟩
abbrev s_l_next : Stmt := top 30
abbrev N_l_next : List Str := ["pool", "base", "digit", "near", "stir"]
abbrev P_l_next : List Str := ["pool", "base"]
theorem sc_l_next : FnScope N_l_next P_l_next (defScope s_l_next) := ⟨rfl, rfl, rfl, by decide +kernel, rfl, by decide +kernel, by decide +kernel⟩
abbrev s_l_low : Stmt := top 33
abbrev N_l_low : List Str := ["top", "bottom", "one", "other"]
abbrev P_l_low : List Str := ["top", "bottom"]
theorem sc_l_low : FnScope N_l_low P_l_low (defScope s_l_low) := ⟨rfl, rfl, rfl, by decide +kernel, rfl, by decide +kernel, by decide +kernel⟩
abbrev s_l_wide : Stmt := top 32
abbrev N_l_wide : List Str := ["pool", "base", "number", "turn"]
abbrev P_l_wide : List Str := ["pool", "base"]
theorem sc_l_wide : FnScope N_l_wide P_l_wide (defScope s_l_wide) := ⟨rfl, rfl, rfl, by decide +kernel, rfl, by decide +kernel, by decide +kernel⟩
abbrev s_l_number : Stmt := top 38
abbrev N_l_number : List Str := ["pool", "pick", "far"]
abbrev P_l_number : List Str := ["pool"]
theorem sc_l_number : FnScope N_l_number P_l_number (defScope s_l_number) := ⟨rfl, rfl, rfl, by decide +kernel, rfl, by decide +kernel, by decide +kernel⟩
abbrev s_l_line : Stmt := top 39
abbrev N_l_line : List Str := ["pool", "p", "q"]
abbrev P_l_line : List Str := ["pool"]
theorem sc_l_line : FnScope N_l_line P_l_line (defScope s_l_line) := ⟨rfl, rfl, rfl, by decide +kernel, rfl, by decide +kernel, by decide +kernel⟩
abbrev s_l_taken : Stmt := top 35
abbrev N_l_taken : List Str := ["one", "other"]
abbrev P_l_taken : List Str := ["one", "other"]
theorem sc_l_taken : FnScope N_l_taken P_l_taken (defScope s_l_taken) := ⟨rfl, rfl, rfl, by decide +kernel, rfl, by decide +kernel, by decide +kernel⟩
abbrev s_l_sum : Stmt := top 34
abbrev N_l_sum : List Str := ["one", "other"]
abbrev P_l_sum : List Str := ["one", "other"]
theorem sc_l_sum : FnScope N_l_sum P_l_sum (defScope s_l_sum) := ⟨rfl, rfl, rfl, by decide +kernel, rfl, by decide +kernel, by decide +kernel⟩
abbrev s_l_lines : Stmt := top 40
abbrev N_l_lines : List Str := ["pool", "most_lines", "found", "k", "line", "pick", "ahead", "by", "one", "other"]
abbrev P_l_lines : List Str := ["pool", "most_lines"]
theorem sc_l_lines : FnScope N_l_lines P_l_lines (defScope s_l_lines) := ⟨rfl, rfl, rfl, by decide +kernel, rfl, by decide +kernel, by decide +kernel⟩
abbrev s_l_back : Stmt := top 36
abbrev N_l_back : List Str := ["one"]
abbrev P_l_back : List Str := ["one"]
theorem sc_l_back : FnScope N_l_back P_l_back (defScope s_l_back) := ⟨rfl, rfl, rfl, by decide +kernel, rfl, by decide +kernel, by decide +kernel⟩
abbrev s_l_less : Stmt := top 44
abbrev N_l_less : List Str := ["one", "other"]
abbrev P_l_less : List Str := ["one", "other"]
theorem sc_l_less : FnScope N_l_less P_l_less (defScope s_l_less) := ⟨rfl, rfl, rfl, by decide +kernel, rfl, by decide +kernel, by decide +kernel⟩
abbrev s_l_cross : Stmt := top 45
abbrev N_l_cross : List Str := ["one", "other"]
abbrev P_l_cross : List Str := ["one", "other"]
theorem sc_l_cross : FnScope N_l_cross P_l_cross (defScope s_l_cross) := ⟨rfl, rfl, rfl, by decide +kernel, rfl, by decide +kernel, by decide +kernel⟩
abbrev s_l_met : Stmt := top 46
abbrev N_l_met : List Str := ["one", "other", "worth", "more", "under", "by", "y", "u"]
abbrev P_l_met : List Str := ["one", "other", "worth", "more"]
theorem sc_l_met : FnScope N_l_met P_l_met (defScope s_l_met) := ⟨rfl, rfl, rfl, by decide +kernel, rfl, by decide +kernel, by decide +kernel⟩
abbrev s_l_below : Stmt := top 37
abbrev N_l_below : List Str := ["one", "other"]
abbrev P_l_below : List Str := ["one", "other"]
theorem sc_l_below : FnScope N_l_below P_l_below (defScope s_l_below) := ⟨rfl, rfl, rfl, by decide +kernel, rfl, by decide +kernel, by decide +kernel⟩
abbrev s_l_bare : Stmt := top 42
abbrev N_l_bare : List Str := ["one"]
abbrev P_l_bare : List Str := ["one"]
theorem sc_l_bare : FnScope N_l_bare P_l_bare (defScope s_l_bare) := ⟨rfl, rfl, rfl, by decide +kernel, rfl, by decide +kernel, by decide +kernel⟩
abbrev s_l_worth : Stmt := top 41
abbrev N_l_worth : List Str := ["p", "q", "ray"]
abbrev P_l_worth : List Str := ["p", "q", "ray"]
theorem sc_l_worth : FnScope N_l_worth P_l_worth (defScope s_l_worth) := ⟨rfl, rfl, rfl, by decide +kernel, rfl, by decide +kernel, by decide +kernel⟩
abbrev s_l_lets : Stmt := top 43
abbrev N_l_lets : List Str := ["lines", "ray", "p", "q", "r"]
abbrev P_l_lets : List Str := ["lines", "ray"]
theorem sc_l_lets : FnScope N_l_lets P_l_lets (defScope s_l_lets) := ⟨rfl, rfl, rfl, by decide +kernel, rfl, by decide +kernel, by decide +kernel⟩
abbrev s_l_due : Stmt := top 47
abbrev N_l_due : List Str := ["lines", "found", "k", "j", "sign", "more", "ray"]
abbrev P_l_due : List Str := ["lines"]
theorem sc_l_due : FnScope N_l_due P_l_due (defScope s_l_due) := ⟨rfl, rfl, rfl, by decide +kernel, rfl, by decide +kernel, by decide +kernel⟩
abbrev s_is_whole : Stmt := top 4
abbrev N_is_whole : List Str := ["thing"]
abbrev P_is_whole : List Str := ["thing"]
theorem sc_is_whole : FnScope N_is_whole P_is_whole (defScope s_is_whole) := ⟨rfl, rfl, rfl, by decide +kernel, rfl, by decide +kernel, by decide +kernel⟩
abbrev s_divisor : Stmt := top 5
abbrev N_divisor : List Str := ["one", "other"]
abbrev P_divisor : List Str := ["one", "other"]
theorem sc_divisor : FnScope N_divisor P_divisor (defScope s_divisor) := ⟨rfl, rfl, rfl, by decide +kernel, rfl, by decide +kernel, by decide +kernel⟩
abbrev s_ratio : Stmt := top 6
abbrev N_ratio : List Str := ["top", "bottom", "by"]
abbrev P_ratio : List Str := ["top", "bottom"]
theorem sc_ratio : FnScope N_ratio P_ratio (defScope s_ratio) := ⟨rfl, rfl, rfl, by decide +kernel, rfl, by decide +kernel, by decide +kernel⟩
abbrev s_minus : Stmt := top 8
abbrev N_minus : List Str := ["one", "other"]
abbrev P_minus : List Str := ["one", "other"]
theorem sc_minus : FnScope N_minus P_minus (defScope s_minus) := ⟨rfl, rfl, rfl, by decide +kernel, rfl, by decide +kernel, by decide +kernel⟩
abbrev s_times : Stmt := top 9
abbrev N_times : List Str := ["one", "other"]
abbrev P_times : List Str := ["one", "other"]
theorem sc_times : FnScope N_times P_times (defScope s_times) := ⟨rfl, rfl, rfl, by decide +kernel, rfl, by decide +kernel, by decide +kernel⟩
abbrev s_cross : Stmt := top 16
abbrev N_cross : List Str := ["one", "other"]
abbrev P_cross : List Str := ["one", "other"]
theorem sc_cross : FnScope N_cross P_cross (defScope s_cross) := ⟨rfl, rfl, rfl, by decide +kernel, rfl, by decide +kernel, by decide +kernel⟩
abbrev s_over : Stmt := top 10
abbrev N_over : List Str := ["one", "other"]
abbrev P_over : List Str := ["one", "other"]
theorem sc_over : FnScope N_over P_over (defScope s_over) := ⟨rfl, rfl, rfl, by decide +kernel, rfl, by decide +kernel, by decide +kernel⟩
abbrev s_by_two : Stmt := top 21
abbrev N_by_two : List Str := ["one", "other", "worth", "more", "under", "height", "slope"]
abbrev P_by_two : List Str := ["one", "other", "worth", "more"]
theorem sc_by_two : FnScope N_by_two P_by_two (defScope s_by_two) := ⟨rfl, rfl, rfl, by decide +kernel, rfl, by decide +kernel, by decide +kernel⟩
abbrev s_negative : Stmt := top 12
abbrev N_negative : List Str := ["one"]
abbrev P_negative : List Str := ["one"]
theorem sc_negative : FnScope N_negative P_negative (defScope s_negative) := ⟨rfl, rfl, rfl, by decide +kernel, rfl, by decide +kernel, by decide +kernel⟩
abbrev s_less : Stmt := top 11
abbrev N_less : List Str := ["one", "other"]
abbrev P_less : List Str := ["one", "other"]
theorem sc_less : FnScope N_less P_less (defScope s_less) := ⟨rfl, rfl, rfl, by decide +kernel, rfl, by decide +kernel, by decide +kernel⟩
abbrev s_size : Stmt := top 13
abbrev N_size : List Str := ["one"]
abbrev P_size : List Str := ["one"]
theorem sc_size : FnScope N_size P_size (defScope s_size) := ⟨rfl, rfl, rfl, by decide +kernel, rfl, by decide +kernel, by decide +kernel⟩
abbrev s_plus : Stmt := top 7
abbrev N_plus : List Str := ["one", "other"]
abbrev P_plus : List Str := ["one", "other"]
theorem sc_plus : FnScope N_plus P_plus (defScope s_plus) := ⟨rfl, rfl, rfl, by decide +kernel, rfl, by decide +kernel, by decide +kernel⟩
abbrev s_summed : Stmt := top 15
abbrev N_summed : List Str := ["p", "q", "ray"]
abbrev P_summed : List Str := ["p", "q", "ray"]
theorem sc_summed : FnScope N_summed P_summed (defScope s_summed) := ⟨rfl, rfl, rfl, by decide +kernel, rfl, by decide +kernel, by decide +kernel⟩
abbrev s_lets_by : Stmt := top 18
abbrev N_lets_by : List Str := ["line", "ray"]
abbrev P_lets_by : List Str := ["line", "ray"]
theorem sc_lets_by : FnScope N_lets_by P_lets_by (defScope s_lets_by) := ⟨rfl, rfl, rfl, by decide +kernel, rfl, by decide +kernel, by decide +kernel⟩
abbrev s_lets : Stmt := top 19
abbrev N_lets : List Str := ["lines", "ray", "line"]
abbrev P_lets : List Str := ["lines", "ray"]
theorem sc_lets : FnScope N_lets P_lets (defScope s_lets) := ⟨rfl, rfl, rfl, by decide +kernel, rfl, by decide +kernel, by decide +kernel⟩
abbrev s_opposite : Stmt := top 22
abbrev N_opposite : List Str := ["ray"]
abbrev P_opposite : List Str := ["ray"]
theorem sc_opposite : FnScope N_opposite P_opposite (defScope s_opposite) := ⟨rfl, rfl, rfl, by decide +kernel, rfl, by decide +kernel, by decide +kernel⟩
abbrev s_met_by_two : Stmt := top 23
abbrev N_met_by_two : List Str := ["lines", "found", "k", "one", "other", "rays", "ray"]
abbrev P_met_by_two : List Str := ["lines"]
theorem sc_met_by_two : FnScope N_met_by_two P_met_by_two (defScope s_met_by_two) := ⟨rfl, rfl, rfl, by decide +kernel, rfl, by decide +kernel, by decide +kernel⟩
abbrev s_is_least : Stmt := top 24
abbrev N_is_least : List Str := ["ray", "other", "one", "more"]
abbrev P_is_least : List Str := ["ray", "other"]
theorem sc_is_least : FnScope N_is_least P_is_least (defScope s_is_least) := ⟨rfl, rfl, rfl, by decide +kernel, rfl, by decide +kernel, by decide +kernel⟩
abbrev s_least_ray : Stmt := top 25
abbrev N_least_ray : List Str := ["rays", "found", "ray"]
abbrev P_least_ray : List Str := ["rays"]
theorem sc_least_ray : FnScope N_least_ray P_least_ray (defScope s_least_ray) := ⟨rfl, rfl, rfl, by decide +kernel, rfl, by decide +kernel, by decide +kernel⟩
abbrev s_next_around : Stmt := top 26
abbrev N_next_around : List Str := ["rays", "ray", "left", "found", "other"]
abbrev P_next_around : List Str := ["rays", "ray"]
theorem sc_next_around : FnScope N_next_around P_next_around (defScope s_next_around) := ⟨rfl, rfl, rfl, by decide +kernel, rfl, by decide +kernel, by decide +kernel⟩
abbrev s_corners : Stmt := top 27
abbrev N_corners : List Str := ["lines", "rays", "found"]
abbrev P_corners : List Str := ["lines"]
theorem sc_corners : FnScope N_corners P_corners (defScope s_corners) := ⟨rfl, rfl, rfl, by decide +kernel, rfl, by decide +kernel, by decide +kernel⟩
abbrev s_l_ahead : Stmt := top 48
abbrev N_l_ahead : List Str := ["one", "other"]
abbrev P_l_ahead : List Str := ["one", "other"]
theorem sc_l_ahead : FnScope N_l_ahead P_l_ahead (defScope s_l_ahead) := ⟨rfl, rfl, rfl, by decide +kernel, rfl, by decide +kernel, by decide +kernel⟩
abbrev s_l_around : Stmt := top 49
abbrev N_l_around : List Str := ["found", "k", "one", "other", "along", "third", "to"]
abbrev P_l_around : List Str := ["found"]
theorem sc_l_around : FnScope N_l_around P_l_around (defScope s_l_around) := ⟨rfl, rfl, rfl, by decide +kernel, rfl, by decide +kernel, by decide +kernel⟩
abbrev s_law : Stmt := top 50
abbrev N_law : List Str := ["script", "cell", "pool", "lines", "size_of_web", "due", "handed", "found", "kept", "k", "ray"]
abbrev P_law : List Str := ["script"]
theorem sc_law : FnScope N_law P_law (defScope s_law) := ⟨rfl, rfl, rfl, by decide +kernel, rfl, by decide +kernel, by decide +kernel⟩
section
variable {P : Program} {w : World} {K : PySem.W.Frag} {mg : Str → Option Value} {base h : Heap} {xv : XV}
theorem ok_l_cells (hX : K.In h) (hG : h.Ns mainGlobals mg) (T : Txt K mg xv) (F : FAt K ("_law_cells" : Str) s_l_cells []) : DefOk P w K mg base xv ("_law_cells" : Str) 1 P_l_cells m_l_cells := defok_mk hX hG F sc_l_cells (fun _ _ _ _ _ _ us hl => match us, hl with | [_, _], _ => rfl) fun f cdv A outer s H E hr =>
  mss_cons (ms_set sc_l_cells.nd (me_slice (me_add (me_clist T.n_list (ma_cons (me_slice (me_var 0) (mo_none) (mo_some (me_var 1))) (ma_nil))) (me_lst (ma_cons (me_int) (ma_nil)))) (mo_none) (mo_some (me_max2 T.n_max (ma_cons (me_int) (ma_cons (me_min2 T.n_min (ma_cons (me_var 1) (ma_cons (me_len T.n_len (ma_cons (me_var 0) (ma_nil))) (ma_nil)))) (ma_nil))))))) (mss_cons (ms_for (mi_range2 T.n_range (ma_cons (me_var 1) (ma_cons (me_len T.n_len (ma_cons (me_var 0) (ma_nil))) (ma_nil)))) (pg_name (i := 3) sc_l_cells.nd rfl (by first | exact Or.inl rfl | exact Or.inr rfl)) (tg_name _ 3) (mss_one (ms_setIx (me_add (me_mul (me_item (me_var 2) (me_mod (me_var 3) (me_var 1))) (me_int)) (me_item (me_var 0) (me_var 3))) (me_var 2) (me_mod (me_var 3) (me_var 1))))) (mss_one (ms_ret (me_var 2))))
theorem ok_l_pool (hX : K.In h) (hG : h.Ns mainGlobals mg) (T : Txt K mg xv) (F : FAt K ("_law_pool" : Str) s_l_pool []) : DefOk P w K mg base xv ("_law_pool" : Str) 1 P_l_pool m_l_pool := defok_mk hX hG F sc_l_pool (fun _ _ _ _ _ _ us hl => match us, hl with | [_], _ => rfl) fun f cdv A outer s H E hr =>
  mss_one (ms_ret (me_lst (ma_cons (me_max2 T.n_max (ma_cons (me_int) (ma_cons (me_sub (me_var 0) (me_pow (me_int) (me_int))) (ma_nil)))) (ma_cons (me_mod (me_var 0) (me_pow (me_int) (me_int))) (ma_cons (me_int) (ma_nil))))))
theorem ok_l_next (hX : K.In h) (hG : h.Ns mainGlobals mg) (T : Txt K mg xv) (F : FAt K ("_law_next" : Str) s_l_next []) : DefOk P w K mg base xv ("_law_next" : Str) 1 P_l_next m_l_next := defok_mk hX hG F sc_l_next (fun _ _ _ _ _ _ us hl => match us, hl with | [_, _], _ => rfl) fun f cdv A outer s H E hr =>
  mss_cons (ms_if (mt_gt (me_item (me_var 0) (me_int)) (me_int)) (mss_cons (ms_set sc_l_next.nd (me_mod (me_item (me_var 0) (me_int)) (me_var 1))) (mss_cons (ms_setIx (me_div (me_item (me_var 0) (me_int)) (me_var 1)) (me_var 0) (me_int)) (mss_one (ms_ret (me_var 2))))) (mss_nil)) (mss_cons (ms_setIx (me_add (me_item (me_var 0) (me_int)) (me_int)) (me_var 0) (me_int)) (mss_cons (ms_set sc_l_next.nd (me_mod (me_add (me_item (me_var 0) (me_int)) (me_mul (me_int) (me_item (me_var 0) (me_int)))) (me_int))) (mss_cons (ms_set sc_l_next.nd (me_mod (me_mul (me_add (me_var 3) (me_int)) (me_add (me_var 3) (me_int))) (me_int))) (mss_one (ms_ret (me_mod (me_div (me_mod (me_mul (me_var 4) (me_var 4)) (me_int)) (me_int)) (me_var 1)))))))
theorem ok_l_low (hX : K.In h) (hG : h.Ns mainGlobals mg) (T : Txt K mg xv) (F : FAt K ("_law_low" : Str) s_l_low []) : DefOk P w K mg base xv ("_law_low" : Str) 1 P_l_low m_l_low := defok_mk hX hG F sc_l_low (fun _ _ _ _ _ _ us hl => match us, hl with | [_, _], _ => rfl) fun f cdv A outer s H E hr =>
  mss_cons (ms_par sc_l_low.nd (ma_cons (me_abs T.n_abs (ma_cons (me_var 0) (ma_nil))) (ma_cons (me_abs T.n_abs (ma_cons (me_var 1) (ma_nil))) (ma_nil)))) (mss_cons (ms_while (mt_gt (me_var 3) (me_int)) (mss_one (ms_par sc_l_low.nd (ma_cons (me_var 3) (ma_cons (me_mod (me_var 2) (me_var 3)) (ma_nil)))))) (mss_cons (ms_if (mt_lt (me_var 1) (me_int)) (mss_one (ms_set sc_l_low.nd (me_sub (me_int) (me_var 2)))) (mss_nil)) (mss_one (ms_ret (me_tup (ma_cons (me_div (me_var 0) (me_var 2)) (ma_cons (me_div (me_var 1) (me_var 2)) (ma_nil))))))))
theorem ok_l_wide (hX : K.In h) (hG : h.Ns mainGlobals mg) (T : Txt K mg xv) (F : FAt K ("_law_wide" : Str) s_l_wide []) (D_l_next : DefOk P w K mg base xv ("_law_next" : Str) 1 P_l_next m_l_next) : DefOk P w K mg base xv ("_law_wide" : Str) 2 P_l_wide m_l_wide := defok_mk hX hG F sc_l_wide (fun _ _ _ _ _ _ us hl => match us, hl with | [_, _], _ => rfl) fun f cdv A outer s H E hr =>
  mss_cons (ms_if (MW.pt (mw_or (mt_gt (me_item (me_var 0) (me_int)) (me_int)) (mw_or1 (mt_lt (me_var 1) (me_pow (me_int) (me_int)))))) (mss_one (ms_ret (me_fn D_l_next hr (ma_cons (me_var 0) (ma_cons (me_var 1) (ma_nil)))))) (mss_nil)) (mss_cons (ms_set sc_l_wide.nd (me_int)) (mss_cons (ms_for (mi_range1 T.n_range (ma_cons (me_add (me_int) (me_div (me_bits (me_var 1)) (me_int))) (ma_nil))) (pg_name (i := 3) sc_l_wide.nd rfl (by first | exact Or.inl rfl | exact Or.inr rfl)) (tg_name _ 3) (mss_one (ms_set sc_l_wide.nd (me_add (me_mul (me_var 2) (me_int)) (me_fn D_l_next hr (ma_cons (me_var 0) (ma_cons (me_int) (ma_nil)))))))) (mss_one (ms_ret (me_mod (me_var 2) (me_var 1))))))
theorem ok_l_number (hX : K.In h) (hG : h.Ns mainGlobals mg) (T : Txt K mg xv) (F : FAt K ("_law_number" : Str) s_l_number []) (D_l_next : DefOk P w K mg base xv ("_law_next" : Str) 1 P_l_next m_l_next) (D_l_low : DefOk P w K mg base xv ("_law_low" : Str) 1 P_l_low m_l_low) (D_l_wide : DefOk P w K mg base xv ("_law_wide" : Str) 2 P_l_wide m_l_wide) : DefOk P w K mg base xv ("_law_number" : Str) 3 P_l_number m_l_number := defok_mk hX hG F sc_l_number (fun _ _ _ _ _ _ us hl => match us, hl with | [_], _ => rfl) fun f cdv A outer s H E hr =>
  mss_cons (ms_set sc_l_number.nd (me_fn D_l_next hr (ma_cons (me_var 0) (ma_cons (me_int) (ma_nil))))) (mss_cons (ms_if (mt_lt (me_var 1) (me_int)) (mss_one (ms_ret (me_fn D_l_low hr (ma_cons (me_sub (me_fn D_l_next hr (ma_cons (me_var 0) (ma_cons (me_int) (ma_nil)))) (me_int)) (ma_cons (me_item (me_lst (ma_cons (me_int) (ma_cons (me_int) (ma_cons (me_int) (ma_cons (me_int) (ma_cons (me_int) (ma_cons (me_int) (ma_nil)))))))) (me_fn D_l_next hr (ma_cons (me_var 0) (ma_cons (me_int) (ma_nil))))) (ma_nil)))))) (mss_nil)) (mss_cons (ms_if (mt_eq hr (me_var 1) (me_int)) (mss_one (ms_ret (me_fn D_l_low hr (ma_cons (me_sub (me_fn D_l_next hr (ma_cons (me_var 0) (ma_cons (me_int) (ma_nil)))) (me_int)) (ma_cons (me_add (me_int) (me_fn D_l_next hr (ma_cons (me_var 0) (ma_cons (me_int) (ma_nil))))) (ma_nil)))))) (mss_nil)) (mss_cons (ms_if (mt_eq hr (me_var 1) (me_int)) (mss_cons (ms_set sc_l_number.nd (me_sub (me_pow (me_int) (me_int)) (me_int))) (mss_one (ms_ret (me_fn D_l_low hr (ma_cons (me_sub (me_fn D_l_wide hr (ma_cons (me_var 0) (ma_cons (me_add (me_mul (me_int) (me_var 2)) (me_int)) (ma_nil)))) (me_var 2)) (ma_cons (me_add (me_int) (me_fn D_l_wide hr (ma_cons (me_var 0) (ma_cons (me_var 2) (ma_nil))))) (ma_nil))))))) (mss_nil)) (mss_one (ms_ret (me_tup (ma_cons (me_int) (ma_cons (me_int) (ma_nil)))))))))
theorem ok_l_line (hX : K.In h) (hG : h.Ns mainGlobals mg) (T : Txt K mg xv) (F : FAt K ("_law_line" : Str) s_l_line []) (D_l_number : DefOk P w K mg base xv ("_law_number" : Str) 3 P_l_number m_l_number) (D_l_next : DefOk P w K mg base xv ("_law_next" : Str) 1 P_l_next m_l_next) (D_l_low : DefOk P w K mg base xv ("_law_low" : Str) 1 P_l_low m_l_low) : DefOk P w K mg base xv ("_law_line" : Str) 4 P_l_line m_l_line := defok_mk hX hG F sc_l_line (fun _ _ _ _ _ _ us hl => match us, hl with | [_], _ => rfl) fun f cdv A outer s H E hr =>
  mss_cons (ms_set sc_l_line.nd (me_fn D_l_number hr (ma_cons (me_var 0) (ma_nil)))) (mss_cons (ms_set sc_l_line.nd (me_fn D_l_number hr (ma_cons (me_var 0) (ma_nil)))) (mss_cons (ms_if (MW.pt (mw_and (mt_eq hr (me_item (me_var 1) (me_int)) (me_int)) (mw_and1 (mt_eq hr (me_item (me_var 2) (me_int)) (me_int))))) (mss_one (ms_set sc_l_line.nd (me_tup (ma_cons (me_add (me_int) (me_fn D_l_next hr (ma_cons (me_var 0) (ma_cons (me_int) (ma_nil))))) (ma_cons (me_int) (ma_nil)))))) (mss_nil)) (mss_one (ms_ret (me_tup (ma_cons (me_var 1) (ma_cons (me_var 2) (ma_cons (me_fn D_l_low hr (ma_cons (me_add (me_int) (me_fn D_l_next hr (ma_cons (me_var 0) (ma_cons (me_int) (ma_nil))))) (ma_cons (me_item (me_lst (ma_cons (me_int) (ma_cons (me_int) (ma_cons (me_int) (ma_cons (me_int) (ma_nil)))))) (me_fn D_l_next hr (ma_cons (me_var 0) (ma_cons (me_int) (ma_nil))))) (ma_nil)))) (ma_nil)))))))))
theorem ok_l_taken (hX : K.In h) (hG : h.Ns mainGlobals mg) (T : Txt K mg xv) (F : FAt K ("_law_taken" : Str) s_l_taken []) (D_l_low : DefOk P w K mg base xv ("_law_low" : Str) 1 P_l_low m_l_low) : DefOk P w K mg base xv ("_law_taken" : Str) 2 P_l_taken m_l_taken := defok_mk hX hG F sc_l_taken (fun _ _ _ _ _ _ us hl => match us, hl with | [_, _], _ => rfl) fun f cdv A outer s H E hr =>
  mss_one (ms_ret (me_fn D_l_low hr (ma_cons (me_mul (me_item (me_var 0) (me_int)) (me_item (me_var 1) (me_int))) (ma_cons (me_mul (me_item (me_var 0) (me_int)) (me_item (me_var 1) (me_int))) (ma_nil)))))
theorem ok_l_sum (hX : K.In h) (hG : h.Ns mainGlobals mg) (T : Txt K mg xv) (F : FAt K ("_law_sum" : Str) s_l_sum []) (D_l_low : DefOk P w K mg base xv ("_law_low" : Str) 1 P_l_low m_l_low) : DefOk P w K mg base xv ("_law_sum" : Str) 2 P_l_sum m_l_sum := defok_mk hX hG F sc_l_sum (fun _ _ _ _ _ _ us hl => match us, hl with | [_, _], _ => rfl) fun f cdv A outer s H E hr =>
  mss_one (ms_ret (me_fn D_l_low hr (ma_cons (me_add (me_mul (me_item (me_var 0) (me_int)) (me_item (me_var 1) (me_int))) (me_mul (me_item (me_var 1) (me_int)) (me_item (me_var 0) (me_int)))) (ma_cons (me_mul (me_item (me_var 0) (me_int)) (me_item (me_var 1) (me_int))) (ma_nil)))))
theorem ok_l_lines (hX : K.In h) (hG : h.Ns mainGlobals mg) (T : Txt K mg xv) (F : FAt K ("_law_lines" : Str) s_l_lines []) (D_l_next : DefOk P w K mg base xv ("_law_next" : Str) 1 P_l_next m_l_next) (D_l_line : DefOk P w K mg base xv ("_law_line" : Str) 4 P_l_line m_l_line) (D_l_low : DefOk P w K mg base xv ("_law_low" : Str) 1 P_l_low m_l_low) (D_l_taken : DefOk P w K mg base xv ("_law_taken" : Str) 2 P_l_taken m_l_taken) (D_l_sum : DefOk P w K mg base xv ("_law_sum" : Str) 2 P_l_sum m_l_sum) : DefOk P w K mg base xv ("_law_lines" : Str) 5 P_l_lines m_l_lines := defok_mk hX hG F sc_l_lines (fun _ _ _ _ _ _ us hl => match us, hl with | [_, _], _ => rfl) fun f cdv A outer s H E hr =>
  mss_cons (ms_set sc_l_lines.nd (me_lst (ma_nil))) (mss_cons (ms_for (mi_range1 T.n_range (ma_cons (me_fn D_l_next hr (ma_cons (me_var 0) (ma_cons (me_add (me_var 1) (me_int)) (ma_nil)))) (ma_nil))) (pg_name (i := 3) sc_l_lines.nd rfl (by first | exact Or.inl rfl | exact Or.inr rfl)) (tg_name _ 3) (mss_cons (ms_set sc_l_lines.nd (me_fn D_l_line hr (ma_cons (me_var 0) (ma_nil)))) (mss_cons (ms_set sc_l_lines.nd (me_fn D_l_next hr (ma_cons (me_var 0) (ma_cons (me_int) (ma_nil))))) (mss_cons (ms_if (MW.pt (mw_and (mt_gt (me_var 3) (me_int)) (mw_and1 (mt_lt (me_var 5) (me_int))))) (mss_cons (ms_set sc_l_lines.nd (me_item (me_var 2) (me_fn D_l_next hr (ma_cons (me_var 0) (ma_cons (me_var 3) (ma_nil)))))) (mss_cons (ms_set sc_l_lines.nd (me_item (me_lst (ma_cons (me_tup (ma_cons (me_int) (ma_cons (me_int) (ma_nil)))) (ma_cons (me_fn D_l_low hr (ma_cons (me_sub (me_fn D_l_next hr (ma_cons (me_var 0) (ma_cons (me_int) (ma_nil)))) (me_int)) (ma_cons (me_add (me_int) (me_fn D_l_next hr (ma_cons (me_var 0) (ma_cons (me_int) (ma_nil))))) (ma_nil)))) (ma_nil)))) (me_var 5))) (mss_cons (ms_if (mt_eq hr (me_item (me_var 7) (me_int)) (me_int)) (mss_one (ms_set sc_l_lines.nd (me_tup (ma_cons (me_int) (ma_cons (me_int) (ma_nil)))))) (mss_nil)) (mss_one (ms_set sc_l_lines.nd (me_tup (ma_cons (me_fn D_l_taken hr (ma_cons (me_var 7) (ma_cons (me_item (me_var 6) (me_int)) (ma_nil)))) (ma_cons (me_fn D_l_taken hr (ma_cons (me_var 7) (ma_cons (me_item (me_var 6) (me_int)) (ma_nil)))) (ma_cons (me_item (me_lst (ma_cons (me_item (me_var 6) (me_int)) (ma_cons (me_item (me_var 4) (me_int)) (ma_nil)))) (me_fn D_l_next hr (ma_cons (me_var 0) (ma_cons (me_int) (ma_nil))))) (ma_nil)))))))))) (mss_nil)) (mss_cons (ms_if (MW.pt (mw_and (mt_gt (me_var 3) (me_int)) (mw_and1 (mt_eq hr (me_var 5) (me_int))))) (mss_cons (ms_par sc_l_lines.nd (ma_cons (me_item (me_var 2) (me_sub (me_var 3) (me_int))) (ma_cons (me_item (me_var 2) (me_sub (me_var 3) (me_int))) (ma_nil)))) (mss_cons (ms_set sc_l_lines.nd (me_tup (ma_cons (me_fn D_l_sum hr (ma_cons (me_item (me_var 8) (me_int)) (ma_cons (me_item (me_var 9) (me_int)) (ma_nil)))) (ma_cons (me_fn D_l_sum hr (ma_cons (me_item (me_var 8) (me_int)) (ma_cons (me_item (me_var 9) (me_int)) (ma_nil)))) (ma_cons (me_fn D_l_sum hr (ma_cons (me_item (me_var 8) (me_int)) (ma_cons (me_item (me_var 9) (me_int)) (ma_nil)))) (ma_nil)))))) (mss_one (ms_if (MW.pt (mw_and (mt_eq hr (me_item (me_item (me_var 4) (me_int)) (me_int)) (me_int)) (mw_and1 (mt_eq hr (me_item (me_item (me_var 4) (me_int)) (me_int)) (me_int))))) (mss_one (ms_set sc_l_lines.nd (me_var 8))) (mss_nil))))) (mss_nil)) (mss_one (ms_expr (me_append (me_var 2) (ma_cons (me_var 4) (ma_nil)))))))))) (mss_one (ms_ret (me_var 2))))
theorem ok_l_back (hX : K.In h) (hG : h.Ns mainGlobals mg) (T : Txt K mg xv) (F : FAt K ("_law_back" : Str) s_l_back []) : DefOk P w K mg base xv ("_law_back" : Str) 1 P_l_back m_l_back := defok_mk hX hG F sc_l_back (fun _ _ _ _ _ _ us hl => match us, hl with | [_], _ => rfl) fun f cdv A outer s H E hr =>
  mss_one (ms_ret (me_tup (ma_cons (me_sub (me_int) (me_item (me_var 0) (me_int))) (ma_cons (me_item (me_var 0) (me_int)) (ma_nil)))))
theorem ok_l_less (hX : K.In h) (hG : h.Ns mainGlobals mg) (T : Txt K mg xv) (F : FAt K ("_law_less" : Str) s_l_less []) (D_l_sum : DefOk P w K mg base xv ("_law_sum" : Str) 2 P_l_sum m_l_sum) (D_l_back : DefOk P w K mg base xv ("_law_back" : Str) 1 P_l_back m_l_back) : DefOk P w K mg base xv ("_law_less" : Str) 3 P_l_less m_l_less := defok_mk hX hG F sc_l_less (fun _ _ _ _ _ _ us hl => match us, hl with | [_, _], _ => rfl) fun f cdv A outer s H E hr =>
  mss_one (ms_ret (me_fn D_l_sum hr (ma_cons (me_var 0) (ma_cons (me_fn D_l_back hr (ma_cons (me_var 1) (ma_nil))) (ma_nil)))))
theorem ok_l_cross (hX : K.In h) (hG : h.Ns mainGlobals mg) (T : Txt K mg xv) (F : FAt K ("_law_cross" : Str) s_l_cross []) (D_l_less : DefOk P w K mg base xv ("_law_less" : Str) 3 P_l_less m_l_less) (D_l_taken : DefOk P w K mg base xv ("_law_taken" : Str) 2 P_l_taken m_l_taken) : DefOk P w K mg base xv ("_law_cross" : Str) 4 P_l_cross m_l_cross_3 := defok_mk hX hG F sc_l_cross (fun _ _ _ _ _ _ us hl => match us, hl with | [_, _], _ => rfl) fun f cdv A outer s H E hr =>
  mss_one (ms_ret (me_fn D_l_less hr (ma_cons (me_fn D_l_taken hr (ma_cons (me_item (me_var 0) (me_int)) (ma_cons (me_item (me_var 1) (me_int)) (ma_nil)))) (ma_cons (me_fn D_l_taken hr (ma_cons (me_item (me_var 0) (me_int)) (ma_cons (me_item (me_var 1) (me_int)) (ma_nil)))) (ma_nil)))))
theorem ok_l_met (hX : K.In h) (hG : h.Ns mainGlobals mg) (T : Txt K mg xv) (F : FAt K ("_law_met" : Str) s_l_met []) (D_l_cross : DefOk P w K mg base xv ("_law_cross" : Str) 4 P_l_cross m_l_cross_3) (D_l_low : DefOk P w K mg base xv ("_law_low" : Str) 1 P_l_low m_l_low) (D_l_less : DefOk P w K mg base xv ("_law_less" : Str) 3 P_l_less m_l_less) (D_l_taken : DefOk P w K mg base xv ("_law_taken" : Str) 2 P_l_taken m_l_taken) : DefOk P w K mg base xv ("_law_met" : Str) 5 P_l_met m_l_met := defok_mk hX hG F sc_l_met (fun _ _ _ _ _ _ us hl => match us, hl with | [_, _, _, _], _ => rfl) fun f cdv A outer s H E hr =>
  mss_cons (ms_set sc_l_met.nd (me_fn D_l_cross hr (ma_cons (me_var 0) (ma_cons (me_var 1) (ma_nil))))) (mss_cons (ms_set sc_l_met.nd (me_fn D_l_low hr (ma_cons (me_item (me_var 4) (me_int)) (ma_cons (me_item (me_var 4) (me_int)) (ma_nil))))) (mss_cons (ms_set sc_l_met.nd (me_fn D_l_less hr (ma_cons (me_fn D_l_taken hr (ma_cons (me_var 2) (ma_cons (me_item (me_var 1) (me_int)) (ma_nil)))) (ma_cons (me_fn D_l_taken hr (ma_cons (me_item (me_var 0) (me_int)) (ma_cons (me_var 3) (ma_nil)))) (ma_nil))))) (mss_cons (ms_set sc_l_met.nd (me_fn D_l_less hr (ma_cons (me_fn D_l_taken hr (ma_cons (me_item (me_var 0) (me_int)) (ma_cons (me_var 3) (ma_nil)))) (ma_cons (me_fn D_l_taken hr (ma_cons (me_var 2) (ma_cons (me_item (me_var 1) (me_int)) (ma_nil)))) (ma_nil))))) (mss_one (ms_ret (me_tup (ma_cons (me_fn D_l_taken hr (ma_cons (me_var 5) (ma_cons (me_var 6) (ma_nil)))) (ma_cons (me_fn D_l_taken hr (ma_cons (me_var 5) (ma_cons (me_var 7) (ma_nil)))) (ma_nil)))))))))
theorem ok_l_below (hX : K.In h) (hG : h.Ns mainGlobals mg) (T : Txt K mg xv) (F : FAt K ("_law_below" : Str) s_l_below []) : DefOk P w K mg base xv ("_law_below" : Str) 1 P_l_below m_l_below := defok_mk hX hG F sc_l_below (fun _ _ _ _ _ _ us hl => match us, hl with | [_, _], _ => rfl) fun f cdv A outer s H E hr =>
  mss_one (ms_ret (me_lt (me_mul (me_item (me_var 0) (me_int)) (me_item (me_var 1) (me_int))) (me_mul (me_item (me_var 1) (me_int)) (me_item (me_var 0) (me_int)))))
theorem ok_l_bare (hX : K.In h) (hG : h.Ns mainGlobals mg) (T : Txt K mg xv) (F : FAt K ("_law_bare" : Str) s_l_bare []) : DefOk P w K mg base xv ("_law_bare" : Str) 1 P_l_bare m_l_bare := defok_mk hX hG F sc_l_bare (fun _ _ _ _ _ _ us hl => match us, hl with | [_], _ => rfl) fun f cdv A outer s H E hr =>
  mss_one (ms_ret (me_tup (ma_cons (me_abs T.n_abs (ma_cons (me_item (me_var 0) (me_int)) (ma_nil))) (ma_cons (me_item (me_var 0) (me_int)) (ma_nil)))))
theorem ok_l_worth (hX : K.In h) (hG : h.Ns mainGlobals mg) (T : Txt K mg xv) (F : FAt K ("_law_worth" : Str) s_l_worth []) (D_l_sum : DefOk P w K mg base xv ("_law_sum" : Str) 2 P_l_sum m_l_sum) (D_l_taken : DefOk P w K mg base xv ("_law_taken" : Str) 2 P_l_taken m_l_taken) : DefOk P w K mg base xv ("_law_worth" : Str) 3 P_l_worth m_l_worth := defok_mk hX hG F sc_l_worth (fun _ _ _ _ _ _ us hl => match us, hl with | [_, _, _], _ => rfl) fun f cdv A outer s H E hr =>
  mss_one (ms_ret (me_fn D_l_sum hr (ma_cons (me_fn D_l_taken hr (ma_cons (me_var 0) (ma_cons (me_item (me_var 2) (me_int)) (ma_nil)))) (ma_cons (me_fn D_l_taken hr (ma_cons (me_var 1) (ma_cons (me_item (me_var 2) (me_int)) (ma_nil)))) (ma_nil)))))
theorem ok_l_lets (hX : K.In h) (hG : h.Ns mainGlobals mg) (T : Txt K mg xv) (F : FAt K ("_law_lets" : Str) s_l_lets []) (D_l_below : DefOk P w K mg base xv ("_law_below" : Str) 1 P_l_below m_l_below) (D_l_bare : DefOk P w K mg base xv ("_law_bare" : Str) 1 P_l_bare m_l_bare) (D_l_worth : DefOk P w K mg base xv ("_law_worth" : Str) 3 P_l_worth m_l_worth) : DefOk P w K mg base xv ("_law_lets" : Str) 4 P_l_lets m_l_lets := defok_mk hX hG F sc_l_lets (fun _ _ _ _ _ _ us hl => match us, hl with | [_, _], _ => rfl) fun f cdv A outer s H E hr =>
  mss_cons (ms_for (mi_seq (me_var 0)) (pg_tup rfl (pgs_cons (pg_name (i := 2) sc_l_lets.nd rfl (by first | exact Or.inl rfl | exact Or.inr rfl)) (pgs_cons (pg_name (i := 3) sc_l_lets.nd rfl (by first | exact Or.inl rfl | exact Or.inr rfl)) (pgs_cons (pg_name (i := 4) sc_l_lets.nd rfl (by first | exact Or.inl rfl | exact Or.inr rfl)) (pgs_nil))))) (tg_tup (tgs_cons (tg_name _ 2) (tgs_cons (tg_name _ 3) (tgs_cons (tg_name _ 4) (tgs_nil _))))) (mss_one (ms_if (mt_val (me_fn D_l_below hr (ma_cons (me_var 4) (ma_cons (me_fn D_l_bare hr (ma_cons (me_fn D_l_worth hr (ma_cons (me_var 2) (ma_cons (me_var 3) (ma_cons (me_var 1) (ma_nil))))) (ma_nil))) (ma_nil))))) (mss_one (ms_ret (me_bl))) (mss_nil)))) (mss_one (ms_ret (me_bl)))
theorem ok_l_due (hX : K.In h) (hG : h.Ns mainGlobals mg) (T : Txt K mg xv) (F : FAt K ("_law_due" : Str) s_l_due []) (D_l_cross : DefOk P w K mg base xv ("_law_cross" : Str) 4 P_l_cross m_l_cross_3) (D_l_met : DefOk P w K mg base xv ("_law_met" : Str) 5 P_l_met m_l_met) (D_l_lets : DefOk P w K mg base xv ("_law_lets" : Str) 4 P_l_lets m_l_lets) (D_l_back : DefOk P w K mg base xv ("_law_back" : Str) 1 P_l_back m_l_back) : DefOk P w K mg base xv ("_law_due" : Str) 6 P_l_due m_l_due_10 := defok_mk hX hG F sc_l_due (fun _ _ _ _ _ _ us hl => match us, hl with | [_], _ => rfl) fun f cdv A outer s H E hr =>
  mss_cons (ms_set sc_l_due.nd (me_dctN)) (mss_cons (ms_for (mi_range1 T.n_range (ma_cons (me_len T.n_len (ma_cons (me_var 0) (ma_nil))) (ma_nil))) (pg_name (i := 2) sc_l_due.nd rfl (by first | exact Or.inl rfl | exact Or.inr rfl)) (tg_name _ 2) (mss_one (ms_for (mi_range1 T.n_range (ma_cons (me_var 2) (ma_nil))) (pg_name (i := 3) sc_l_due.nd rfl (by first | exact Or.inl rfl | exact Or.inr rfl)) (tg_name _ 3) (mss_one (ms_if (mt_ne hr (me_item (me_fn D_l_cross hr (ma_cons (me_item (me_var 0) (me_var 2)) (ma_cons (me_item (me_var 0) (me_var 3)) (ma_nil)))) (me_int)) (me_int)) (mss_one (ms_for (mi_seq (me_lst (ma_cons (me_int) (ma_cons (me_neg (me_int)) (ma_nil))))) (pg_name (i := 4) sc_l_due.nd rfl (by first | exact Or.inl rfl | exact Or.inr rfl)) (tg_name _ 4) (mss_cons (ms_set sc_l_due.nd (me_tup (ma_cons (me_mul (me_item (me_item (me_item (me_var 0) (me_var 3)) (me_int)) (me_int)) (me_var 4)) (ma_cons (me_item (me_item (me_item (me_var 0) (me_var 3)) (me_int)) (me_int)) (ma_nil))))) (mss_cons (ms_set sc_l_due.nd (me_fn D_l_met hr (ma_cons (me_item (me_var 0) (me_var 2)) (ma_cons (me_item (me_var 0) (me_var 3)) (ma_cons (me_item (me_item (me_var 0) (me_var 2)) (me_int)) (ma_cons (me_var 5) (ma_nil))))))) (mss_one (ms_if (mt_val (me_fn D_l_lets hr (ma_cons (me_var 0) (ma_cons (me_var 6) (ma_nil))))) (mss_cons (ms_setN hr (me_bl) (me_var 1) (me_var 6)) (mss_one (ms_setN hr (me_bl) (me_var 1) (me_tup (ma_cons (me_fn D_l_back hr (ma_cons (me_item (me_var 6) (me_int)) (ma_nil))) (ma_cons (me_fn D_l_back hr (ma_cons (me_item (me_var 6) (me_int)) (ma_nil))) (ma_nil))))))) (mss_nil))))))) (mss_nil)))))) (mss_one (ms_ret (me_var 1))))
theorem ok_is_whole (hX : K.In h) (hG : h.Ns mainGlobals mg) (T : Txt K mg xv) (F : FAt K ("is_whole" : Str) s_is_whole []) : DefOk P w K mg base xv ("is_whole" : Str) 1 P_is_whole m_is_whole := defok_mk hX hG F sc_is_whole (fun _ _ _ _ _ _ us hl => match us, hl with | [_], _ => rfl) fun f cdv A outer s H E hr =>
  mss_one (ms_ret (me_and (me_isi .int T.n_isinstance T.n_int (by decide +kernel) (me_var 0)) (me_one (me_not (me_isi .bl T.n_isinstance T.n_bool (by decide +kernel) (me_var 0))))))
theorem ok_divisor (hX : K.In h) (hG : h.Ns mainGlobals mg) (T : Txt K mg xv) (F : FAt K ("divisor" : Str) s_divisor []) : DefOk P w K mg base xv ("divisor" : Str) 1 P_divisor m_divisor := defok_mk hX hG F sc_divisor (fun _ _ _ _ _ _ us hl => match us, hl with | [_, _], _ => rfl) fun f cdv A outer s H E hr =>
  mss_cons (ms_set sc_divisor.nd (me_abs T.n_abs (ma_cons (me_var 0) (ma_nil)))) (mss_cons (ms_while (mt_gt (me_var 0) (me_int)) (mss_one (ms_par sc_divisor.nd (ma_cons (me_mod (me_var 1) (me_var 0)) (ma_cons (me_var 0) (ma_nil)))))) (mss_one (ms_ret (me_var 1))))
theorem ok_ratio (hX : K.In h) (hG : h.Ns mainGlobals mg) (T : Txt K mg xv) (F : FAt K ("ratio" : Str) s_ratio [.int 1]) (D_is_whole : DefOk P w K mg base xv ("is_whole" : Str) 1 P_is_whole m_is_whole) (D_divisor : DefOk P w K mg base xv ("divisor" : Str) 1 P_divisor m_divisor) : DefOk P w K mg base xv ("ratio" : Str) 2 P_ratio m_ratio := defok_mkD hX hG F (by simp) sc_ratio (fun T kV doc pm an cdv ct us its hl hz => match us, hl, its, hz with | [_, _], _, [_], _ => ⟨_, rfl, rfl⟩) fun f cdv A outer s H E hr =>
  mss_cons (ms_if (MW.pt (mw_or (mt_not (mt_val (me_fn D_is_whole hr (ma_cons (me_var 0) (ma_nil))))) (mw_or (mt_not (mt_val (me_fn D_is_whole hr (ma_cons (me_var 1) (ma_nil))))) (mw_or1 (mt_eq hr (me_var 1) (me_int)))))) (mss_one (ms_never)) (mss_nil)) (mss_cons (ms_if (mt_lt (me_var 1) (me_int)) (mss_one (ms_par sc_ratio.nd (ma_cons (me_sub (me_int) (me_var 0)) (ma_cons (me_sub (me_int) (me_var 1)) (ma_nil))))) (mss_nil)) (mss_cons (ms_set sc_ratio.nd (me_fn D_divisor hr (ma_cons (me_var 0) (ma_cons (me_var 1) (ma_nil))))) (mss_one (ms_ret (me_tup (ma_cons (me_div (me_var 0) (me_var 2)) (ma_cons (me_div (me_var 1) (me_var 2)) (ma_nil))))))))
theorem ok_minus (hX : K.In h) (hG : h.Ns mainGlobals mg) (T : Txt K mg xv) (F : FAt K ("minus" : Str) s_minus []) (D_ratio : DefOk P w K mg base xv ("ratio" : Str) 2 P_ratio m_ratio) : DefOk P w K mg base xv ("minus" : Str) 3 P_minus m_minus := defok_mk hX hG F sc_minus (fun _ _ _ _ _ _ us hl => match us, hl with | [_, _], _ => rfl) fun f cdv A outer s H E hr =>
  mss_one (ms_ret (me_fn D_ratio hr (ma_cons (me_sub (me_mul (me_item (me_var 0) (me_int)) (me_item (me_var 1) (me_int))) (me_mul (me_item (me_var 1) (me_int)) (me_item (me_var 0) (me_int)))) (ma_cons (me_mul (me_item (me_var 0) (me_int)) (me_item (me_var 1) (me_int))) (ma_nil)))))
theorem ok_times (hX : K.In h) (hG : h.Ns mainGlobals mg) (T : Txt K mg xv) (F : FAt K ("times" : Str) s_times []) (D_ratio : DefOk P w K mg base xv ("ratio" : Str) 2 P_ratio m_ratio) : DefOk P w K mg base xv ("times" : Str) 3 P_times m_times := defok_mk hX hG F sc_times (fun _ _ _ _ _ _ us hl => match us, hl with | [_, _], _ => rfl) fun f cdv A outer s H E hr =>
  mss_one (ms_ret (me_fn D_ratio hr (ma_cons (me_mul (me_item (me_var 0) (me_int)) (me_item (me_var 1) (me_int))) (ma_cons (me_mul (me_item (me_var 0) (me_int)) (me_item (me_var 1) (me_int))) (ma_nil)))))
theorem ok_cross (hX : K.In h) (hG : h.Ns mainGlobals mg) (T : Txt K mg xv) (F : FAt K ("cross" : Str) s_cross []) (D_minus : DefOk P w K mg base xv ("minus" : Str) 3 P_minus m_minus) (D_times : DefOk P w K mg base xv ("times" : Str) 3 P_times m_times) : DefOk P w K mg base xv ("cross" : Str) 4 P_cross m_cross := defok_mk hX hG F sc_cross (fun _ _ _ _ _ _ us hl => match us, hl with | [_, _], _ => rfl) fun f cdv A outer s H E hr =>
  mss_one (ms_ret (me_fn D_minus hr (ma_cons (me_fn D_times hr (ma_cons (me_item (me_var 0) (me_int)) (ma_cons (me_item (me_var 1) (me_int)) (ma_nil)))) (ma_cons (me_fn D_times hr (ma_cons (me_item (me_var 0) (me_int)) (ma_cons (me_item (me_var 1) (me_int)) (ma_nil)))) (ma_nil)))))
theorem ok_over (hX : K.In h) (hG : h.Ns mainGlobals mg) (T : Txt K mg xv) (F : FAt K ("over" : Str) s_over []) (D_ratio : DefOk P w K mg base xv ("ratio" : Str) 2 P_ratio m_ratio) : DefOk P w K mg base xv ("over" : Str) 3 P_over m_over := defok_mk hX hG F sc_over (fun _ _ _ _ _ _ us hl => match us, hl with | [_, _], _ => rfl) fun f cdv A outer s H E hr =>
  mss_one (ms_ret (me_fn D_ratio hr (ma_cons (me_mul (me_item (me_var 0) (me_int)) (me_item (me_var 1) (me_int))) (ma_cons (me_mul (me_item (me_var 0) (me_int)) (me_item (me_var 1) (me_int))) (ma_nil)))))
theorem ok_by_two (hX : K.In h) (hG : h.Ns mainGlobals mg) (T : Txt K mg xv) (F : FAt K ("by_two" : Str) s_by_two []) (D_cross : DefOk P w K mg base xv ("cross" : Str) 4 P_cross m_cross) (D_minus : DefOk P w K mg base xv ("minus" : Str) 3 P_minus m_minus) (D_times : DefOk P w K mg base xv ("times" : Str) 3 P_times m_times) (D_over : DefOk P w K mg base xv ("over" : Str) 3 P_over m_over) : DefOk P w K mg base xv ("by_two" : Str) 5 P_by_two m_by_two := defok_mk hX hG F sc_by_two (fun _ _ _ _ _ _ us hl => match us, hl with | [_, _, _, _], _ => rfl) fun f cdv A outer s H E hr =>
  mss_cons (ms_set sc_by_two.nd (me_fn D_cross hr (ma_cons (me_slice (me_var 0) (mo_none) (mo_some (me_int))) (ma_cons (me_slice (me_var 1) (mo_none) (mo_some (me_int))) (ma_nil))))) (mss_cons (ms_set sc_by_two.nd (me_fn D_minus hr (ma_cons (me_fn D_times hr (ma_cons (me_var 2) (ma_cons (me_item (me_var 1) (me_int)) (ma_nil)))) (ma_cons (me_fn D_times hr (ma_cons (me_var 3) (ma_cons (me_item (me_var 0) (me_int)) (ma_nil)))) (ma_nil))))) (mss_cons (ms_set sc_by_two.nd (me_fn D_minus hr (ma_cons (me_fn D_times hr (ma_cons (me_var 3) (ma_cons (me_item (me_var 0) (me_int)) (ma_nil)))) (ma_cons (me_fn D_times hr (ma_cons (me_var 2) (ma_cons (me_item (me_var 1) (me_int)) (ma_nil)))) (ma_nil))))) (mss_one (ms_ret (me_tup (ma_cons (me_fn D_over hr (ma_cons (me_var 5) (ma_cons (me_var 4) (ma_nil)))) (ma_cons (me_fn D_over hr (ma_cons (me_var 6) (ma_cons (me_var 4) (ma_nil)))) (ma_nil))))))))
theorem ok_negative (hX : K.In h) (hG : h.Ns mainGlobals mg) (T : Txt K mg xv) (F : FAt K ("negative" : Str) s_negative []) : DefOk P w K mg base xv ("negative" : Str) 1 P_negative m_negative := defok_mk hX hG F sc_negative (fun _ _ _ _ _ _ us hl => match us, hl with | [_], _ => rfl) fun f cdv A outer s H E hr =>
  mss_one (ms_ret (me_tup (ma_cons (me_sub (me_int) (me_item (me_var 0) (me_int))) (ma_cons (me_item (me_var 0) (me_int)) (ma_nil)))))
theorem ok_less (hX : K.In h) (hG : h.Ns mainGlobals mg) (T : Txt K mg xv) (F : FAt K ("less" : Str) s_less []) : DefOk P w K mg base xv ("less" : Str) 1 P_less m_less := defok_mk hX hG F sc_less (fun _ _ _ _ _ _ us hl => match us, hl with | [_, _], _ => rfl) fun f cdv A outer s H E hr =>
  mss_one (ms_ret (me_lt (me_mul (me_item (me_var 0) (me_int)) (me_item (me_var 1) (me_int))) (me_mul (me_item (me_var 1) (me_int)) (me_item (me_var 0) (me_int)))))
theorem ok_size (hX : K.In h) (hG : h.Ns mainGlobals mg) (T : Txt K mg xv) (F : FAt K ("size" : Str) s_size []) : DefOk P w K mg base xv ("size" : Str) 1 P_size m_size := defok_mk hX hG F sc_size (fun _ _ _ _ _ _ us hl => match us, hl with | [_], _ => rfl) fun f cdv A outer s H E hr =>
  mss_one (ms_ret (me_tup (ma_cons (me_abs T.n_abs (ma_cons (me_item (me_var 0) (me_int)) (ma_nil))) (ma_cons (me_item (me_var 0) (me_int)) (ma_nil)))))
theorem ok_plus (hX : K.In h) (hG : h.Ns mainGlobals mg) (T : Txt K mg xv) (F : FAt K ("plus" : Str) s_plus []) (D_ratio : DefOk P w K mg base xv ("ratio" : Str) 2 P_ratio m_ratio) : DefOk P w K mg base xv ("plus" : Str) 3 P_plus m_plus := defok_mk hX hG F sc_plus (fun _ _ _ _ _ _ us hl => match us, hl with | [_, _], _ => rfl) fun f cdv A outer s H E hr =>
  mss_one (ms_ret (me_fn D_ratio hr (ma_cons (me_add (me_mul (me_item (me_var 0) (me_int)) (me_item (me_var 1) (me_int))) (me_mul (me_item (me_var 1) (me_int)) (me_item (me_var 0) (me_int)))) (ma_cons (me_mul (me_item (me_var 0) (me_int)) (me_item (me_var 1) (me_int))) (ma_nil)))))
theorem ok_summed (hX : K.In h) (hG : h.Ns mainGlobals mg) (T : Txt K mg xv) (F : FAt K ("summed" : Str) s_summed []) (D_plus : DefOk P w K mg base xv ("plus" : Str) 3 P_plus m_plus) (D_times : DefOk P w K mg base xv ("times" : Str) 3 P_times m_times) : DefOk P w K mg base xv ("summed" : Str) 4 P_summed m_summed := defok_mk hX hG F sc_summed (fun _ _ _ _ _ _ us hl => match us, hl with | [_, _, _], _ => rfl) fun f cdv A outer s H E hr =>
  mss_one (ms_ret (me_fn D_plus hr (ma_cons (me_fn D_times hr (ma_cons (me_var 0) (ma_cons (me_item (me_var 2) (me_int)) (ma_nil)))) (ma_cons (me_fn D_times hr (ma_cons (me_var 1) (ma_cons (me_item (me_var 2) (me_int)) (ma_nil)))) (ma_nil)))))
theorem ok_lets_by (hX : K.In h) (hG : h.Ns mainGlobals mg) (T : Txt K mg xv) (F : FAt K ("lets_by" : Str) s_lets_by []) (D_less : DefOk P w K mg base xv ("less" : Str) 1 P_less m_less) (D_size : DefOk P w K mg base xv ("size" : Str) 1 P_size m_size) (D_summed : DefOk P w K mg base xv ("summed" : Str) 4 P_summed m_summed) : DefOk P w K mg base xv ("lets_by" : Str) 5 P_lets_by m_lets_by := defok_mk hX hG F sc_lets_by (fun _ _ _ _ _ _ us hl => match us, hl with | [_, _], _ => rfl) fun f cdv A outer s H E hr =>
  mss_one (ms_ret (me_not (me_fn D_less hr (ma_cons (me_item (me_var 0) (me_int)) (ma_cons (me_fn D_size hr (ma_cons (me_fn D_summed hr (ma_cons (me_item (me_var 0) (me_int)) (ma_cons (me_item (me_var 0) (me_int)) (ma_cons (me_var 1) (ma_nil))))) (ma_nil))) (ma_nil))))))
theorem ok_lets (hX : K.In h) (hG : h.Ns mainGlobals mg) (T : Txt K mg xv) (F : FAt K ("lets" : Str) s_lets []) (D_lets_by : DefOk P w K mg base xv ("lets_by" : Str) 5 P_lets_by m_lets_by) : DefOk P w K mg base xv ("lets" : Str) 6 P_lets m_lets := defok_mk hX hG F sc_lets (fun _ _ _ _ _ _ us hl => match us, hl with | [_, _], _ => rfl) fun f cdv A outer s H E hr =>
  mss_one (ms_ret (me_all T.n_all (ma_cons (me_lc (own := [(("line" : Str), 2)]) (g := gName 2) sc_lets.nd (mi_seq (me_var 0)) (blkOk_by (N := N_lets) (sc := defScope s_lets) (by decide +kernel)) (fun _ _ _ _ _ => pg_name (i := 2) sc_lets.nd rfl (by first | exact Or.inl rfl | exact Or.inr rfl)) (tg_name _ 2) (by decide) (fun _ _ _ _ _ => mts_nil) (fun _ _ _ _ _ => me_fn D_lets_by hr (ma_cons (me_var 2) (ma_cons (me_var 1) (ma_nil))))) (ma_nil))))
theorem ok_opposite (hX : K.In h) (hG : h.Ns mainGlobals mg) (T : Txt K mg xv) (F : FAt K ("opposite" : Str) s_opposite []) (D_negative : DefOk P w K mg base xv ("negative" : Str) 1 P_negative m_negative) : DefOk P w K mg base xv ("opposite" : Str) 2 P_opposite m_opposite := defok_mk hX hG F sc_opposite (fun _ _ _ _ _ _ us hl => match us, hl with | [_], _ => rfl) fun f cdv A outer s H E hr =>
  mss_one (ms_ret (me_tup (ma_cons (me_fn D_negative hr (ma_cons (me_item (me_var 0) (me_int)) (ma_nil))) (ma_cons (me_fn D_negative hr (ma_cons (me_item (me_var 0) (me_int)) (ma_nil))) (ma_nil)))))
theorem ok_met_by_two (hX : K.In h) (hG : h.Ns mainGlobals mg) (T : Txt K mg xv) (F : FAt K ("met_by_two" : Str) s_met_by_two []) (D_cross : DefOk P w K mg base xv ("cross" : Str) 4 P_cross m_cross) (D_by_two : DefOk P w K mg base xv ("by_two" : Str) 5 P_by_two m_by_two) (D_negative : DefOk P w K mg base xv ("negative" : Str) 1 P_negative m_negative) (D_lets : DefOk P w K mg base xv ("lets" : Str) 6 P_lets m_lets) (D_opposite : DefOk P w K mg base xv ("opposite" : Str) 2 P_opposite m_opposite) : DefOk P w K mg base xv ("met_by_two" : Str) 7 P_met_by_two m_met_by_two := defok_mk hX hG F sc_met_by_two (fun _ _ _ _ _ _ us hl => match us, hl with | [_], _ => rfl) fun f cdv A outer s H E hr =>
  mss_cons (ms_set sc_met_by_two.nd (me_lst (ma_nil))) (mss_cons (ms_for (mi_enum T.n_enumerate (ma_cons (me_var 0) (ma_nil))) (pg_tup rfl (pgs_cons (pg_name (i := 2) sc_met_by_two.nd rfl (by first | exact Or.inl rfl | exact Or.inr rfl)) (pgs_cons (pg_name (i := 3) sc_met_by_two.nd rfl (by first | exact Or.inl rfl | exact Or.inr rfl)) (pgs_nil)))) (tg_tup (tgs_cons (tg_name _ 2) (tgs_cons (tg_name _ 3) (tgs_nil _)))) (mss_one (ms_for (mi_seq (me_slice (me_var 0) (mo_none) (mo_some (me_var 2)))) (pg_name (i := 4) sc_met_by_two.nd rfl (by first | exact Or.inl rfl | exact Or.inr rfl)) (tg_name _ 4) (mss_one (ms_if (mt_ne hr (me_item (me_fn D_cross hr (ma_cons (me_slice (me_var 3) (mo_none) (mo_some (me_int))) (ma_cons (me_slice (me_var 4) (mo_none) (mo_some (me_int))) (ma_nil)))) (me_int)) (me_int)) (mss_cons (ms_set sc_met_by_two.nd (me_lst (ma_cons (me_fn D_by_two hr (ma_cons (me_var 3) (ma_cons (me_var 4) (ma_cons (me_item (me_var 3) (me_int)) (ma_cons (me_item (me_var 4) (me_int)) (ma_nil)))))) (ma_cons (me_fn D_by_two hr (ma_cons (me_var 3) (ma_cons (me_var 4) (ma_cons (me_item (me_var 3) (me_int)) (ma_cons (me_fn D_negative hr (ma_cons (me_item (me_var 4) (me_int)) (ma_nil))) (ma_nil)))))) (ma_nil))))) (mss_one (ms_expr (me_extend (me_var 1) (ma_cons (me_lc (own := [(("ray" : Str), 6)]) (g := gName 6) sc_met_by_two.nd (mi_seq (me_var 5)) (blkOk_by (N := N_met_by_two) (sc := defScope s_met_by_two) (by decide +kernel)) (fun _ _ _ _ _ => pg_name (i := 6) sc_met_by_two.nd rfl (by first | exact Or.inl rfl | exact Or.inr rfl)) (tg_name _ 6) (by decide) (fun _ _ _ _ _ => mts_one (MW.pt (mw_and (mt_notin hr (me_var 6) (me_var 1)) (mw_and1 (mt_val (me_fn D_lets hr (ma_cons (me_var 0) (ma_cons (me_var 6) (ma_nil))))))))) (fun _ _ _ _ _ => me_var 6)) (ma_nil)))))) (mss_nil)))))) (mss_one (ms_ret (me_add (me_var 1) (me_lc (own := [(("ray" : Str), 6)]) (g := gName 6) sc_met_by_two.nd (mi_seq (me_var 1)) (blkOk_by (N := N_met_by_two) (sc := defScope s_met_by_two) (by decide +kernel)) (fun _ _ _ _ _ => pg_name (i := 6) sc_met_by_two.nd rfl (by first | exact Or.inl rfl | exact Or.inr rfl)) (tg_name _ 6) (by decide) (fun _ _ _ _ _ => mts_one (mt_notin hr (me_fn D_opposite hr (ma_cons (me_var 6) (ma_nil))) (me_var 1))) (fun _ _ _ _ _ => me_fn D_opposite hr (ma_cons (me_var 6) (ma_nil))))))))
theorem ok_is_least (hX : K.In h) (hG : h.Ns mainGlobals mg) (T : Txt K mg xv) (F : FAt K ("is_least" : Str) s_is_least []) (D_minus : DefOk P w K mg base xv ("minus" : Str) 3 P_minus m_minus) : DefOk P w K mg base xv ("is_least" : Str) 4 P_is_least m_is_least := defok_mk hX hG F sc_is_least (fun _ _ _ _ _ _ us hl => match us, hl with | [_, _], _ => rfl) fun f cdv A outer s H E hr =>
  mss_cons (ms_for (mi_zip T.n_zip (ma_cons (me_var 0) (ma_cons (me_var 1) (ma_nil)))) (pg_tup rfl (pgs_cons (pg_name (i := 2) sc_is_least.nd rfl (by first | exact Or.inl rfl | exact Or.inr rfl)) (pgs_cons (pg_name (i := 3) sc_is_least.nd rfl (by first | exact Or.inl rfl | exact Or.inr rfl)) (pgs_nil)))) (tg_tup (tgs_cons (tg_name _ 2) (tgs_cons (tg_name _ 3) (tgs_nil _)))) (mss_one (ms_if (mt_ne hr (me_var 2) (me_var 3)) (mss_one (ms_ret (me_lt (me_item (me_fn D_minus hr (ma_cons (me_var 2) (ma_cons (me_var 3) (ma_nil)))) (me_int)) (me_int)))) (mss_nil)))) (mss_one (ms_ret (me_bl)))
theorem ok_least_ray (hX : K.In h) (hG : h.Ns mainGlobals mg) (T : Txt K mg xv) (F : FAt K ("least_ray" : Str) s_least_ray []) (D_is_least : DefOk P w K mg base xv ("is_least" : Str) 4 P_is_least m_is_least) : DefOk P w K mg base xv ("least_ray" : Str) 5 P_least_ray m_least_ray := defok_mk hX hG F sc_least_ray (fun _ _ _ _ _ _ us hl => match us, hl with | [_], _ => rfl) fun f cdv A outer s H E hr =>
  mss_cons (ms_set sc_least_ray.nd (me_item (me_var 0) (me_int))) (mss_cons (ms_for (mi_seq (me_var 0)) (pg_name (i := 2) sc_least_ray.nd rfl (by first | exact Or.inl rfl | exact Or.inr rfl)) (tg_name _ 2) (mss_one (ms_if (mt_val (me_fn D_is_least hr (ma_cons (me_var 2) (ma_cons (me_var 1) (ma_nil))))) (mss_one (ms_set sc_least_ray.nd (me_var 2))) (mss_nil)))) (mss_one (ms_ret (me_var 1))))
theorem ok_next_around (hX : K.In h) (hG : h.Ns mainGlobals mg) (T : Txt K mg xv) (F : FAt K ("next_around" : Str) s_next_around []) (D_cross : DefOk P w K mg base xv ("cross" : Str) 4 P_cross m_cross) : DefOk P w K mg base xv ("next_around" : Str) 5 P_next_around m_next_around := defok_mk hX hG F sc_next_around (fun _ _ _ _ _ _ us hl => match us, hl with | [_, _], _ => rfl) fun f cdv A outer s H E hr =>
  mss_cons (ms_setLc (own := [(("other" : Str), 4)]) (g := gName 4) sc_next_around.nd (mi_seq (me_var 0)) (blkOk_by (N := N_next_around) (sc := defScope s_next_around) (by decide +kernel)) (fun _ _ _ _ _ => pg_name (i := 4) sc_next_around.nd rfl (by first | exact Or.inl rfl | exact Or.inr rfl)) (tg_name _ 4) (by decide) (fun _ _ _ _ _ => mts_one (mt_gt (me_item (me_fn D_cross hr (ma_cons (me_var 1) (ma_cons (me_var 4) (ma_nil)))) (me_int)) (me_int))) (fun _ _ _ _ _ => me_var 4) (sw_true rfl rfl rfl (by decide +kernel))) (mss_cons (ms_set sc_next_around.nd (me_item (me_var 2) (me_int))) (mss_cons (ms_for (mi_seq (me_var 2)) (pg_name (i := 4) sc_next_around.nd rfl (by first | exact Or.inl rfl | exact Or.inr rfl)) (tg_name _ 4) (mss_one (ms_if (mt_gt (me_item (me_fn D_cross hr (ma_cons (me_var 4) (ma_cons (me_var 3) (ma_nil)))) (me_int)) (me_int)) (mss_one (ms_set sc_next_around.nd (me_var 4))) (mss_nil)))) (mss_one (ms_ret (me_var 3)))))
theorem ok_corners (hX : K.In h) (hG : h.Ns mainGlobals mg) (T : Txt K mg xv) (F : FAt K ("corners" : Str) s_corners []) (D_met_by_two : DefOk P w K mg base xv ("met_by_two" : Str) 7 P_met_by_two m_met_by_two) (D_least_ray : DefOk P w K mg base xv ("least_ray" : Str) 5 P_least_ray m_least_ray) (D_next_around : DefOk P w K mg base xv ("next_around" : Str) 5 P_next_around m_next_around) : DefOk P w K mg base xv ("corners" : Str) 8 P_corners m_corners := defok_mk hX hG F sc_corners (fun _ _ _ _ _ _ us hl => match us, hl with | [_], _ => rfl) fun f cdv A outer s H E hr =>
  mss_cons (ms_set sc_corners.nd (me_fn D_met_by_two hr (ma_cons (me_var 0) (ma_nil)))) (mss_cons (ms_if (mt_eq hr (me_var 1) (me_lst (ma_nil))) (mss_one (ms_ret (me_non))) (mss_nil)) (mss_cons (ms_set sc_corners.nd (me_lst (ma_cons (me_fn D_least_ray hr (ma_cons (me_var 1) (ma_nil))) (ma_nil)))) (mss_cons (ms_while (mt_lt (me_len T.n_len (ma_cons (me_var 2) (ma_nil))) (me_len T.n_len (ma_cons (me_var 1) (ma_nil)))) (mss_one (ms_expr (me_append (me_var 2) (ma_cons (me_fn D_next_around hr (ma_cons (me_var 1) (ma_cons (me_item (me_var 2) (me_neg (me_int))) (ma_nil)))) (ma_nil)))))) (mss_one (ms_ret (me_var 2))))))
theorem ok_l_ahead (hX : K.In h) (hG : h.Ns mainGlobals mg) (T : Txt K mg xv) (F : FAt K ("_law_ahead" : Str) s_l_ahead []) (D_l_below : DefOk P w K mg base xv ("_law_below" : Str) 1 P_l_below m_l_below) : DefOk P w K mg base xv ("_law_ahead" : Str) 2 P_l_ahead m_l_ahead := defok_mk hX hG F sc_l_ahead (fun _ _ _ _ _ _ us hl => match us, hl with | [_, _], _ => rfl) fun f cdv A outer s H E hr =>
  mss_cons (ms_if (mt_ne hr (me_item (me_var 0) (me_int)) (me_item (me_var 1) (me_int))) (mss_one (ms_ret (me_fn D_l_below hr (ma_cons (me_item (me_var 0) (me_int)) (ma_cons (me_item (me_var 1) (me_int)) (ma_nil)))))) (mss_nil)) (mss_one (ms_ret (me_fn D_l_below hr (ma_cons (me_item (me_var 0) (me_int)) (ma_cons (me_item (me_var 1) (me_int)) (ma_nil))))))
theorem ok_l_around (hX : K.In h) (hG : h.Ns mainGlobals mg) (T : Txt K mg xv) (F : FAt K ("_law_around" : Str) s_l_around []) (D_l_less : DefOk P w K mg base xv ("_law_less" : Str) 3 P_l_less m_l_less) (D_l_cross : DefOk P w K mg base xv ("_law_cross" : Str) 4 P_l_cross m_l_cross_3) (D_l_ahead : DefOk P w K mg base xv ("_law_ahead" : Str) 2 P_l_ahead m_l_ahead) : DefOk P w K mg base xv ("_law_around" : Str) 5 P_l_around m_l_around_2 := defok_mk hX hG F sc_l_around (fun _ _ _ _ _ _ us hl => match us, hl with | [_], _ => rfl) fun f cdv A outer s H E hr =>
  mss_cons (ms_for (mi_range1 T.n_range (ma_cons (me_len T.n_len (ma_cons (me_var 0) (ma_nil))) (ma_nil))) (pg_name (i := 1) sc_l_around.nd rfl (by first | exact Or.inl rfl | exact Or.inr rfl)) (tg_name _ 1) (mss_cons (ms_par sc_l_around.nd (ma_cons (me_item (me_var 0) (me_var 1)) (ma_cons (me_item (me_var 0) (me_mod (me_add (me_var 1) (me_int)) (me_len T.n_len (ma_cons (me_var 0) (ma_nil))))) (ma_nil)))) (mss_cons (ms_set sc_l_around.nd (me_tup (ma_cons (me_fn D_l_less hr (ma_cons (me_item (me_var 3) (me_int)) (ma_cons (me_item (me_var 2) (me_int)) (ma_nil)))) (ma_cons (me_fn D_l_less hr (ma_cons (me_item (me_var 3) (me_int)) (ma_cons (me_item (me_var 2) (me_int)) (ma_nil)))) (ma_nil))))) (mss_cons (ms_if (MW.pt (mw_or (mt_le (me_item (me_fn D_l_cross hr (ma_cons (me_var 2) (ma_cons (me_var 3) (ma_nil)))) (me_int)) (me_int)) (mw_or1 (MW.pt (mw_and (mt_gt (me_var 1) (me_int)) (mw_and1 (mt_not (mt_val (me_fn D_l_ahead hr (ma_cons (me_item (me_var 0) (me_int)) (ma_cons (me_var 2) (ma_nil)))))))))))) (mss_one (ms_ret (me_bl))) (mss_nil)) (mss_one (ms_for (mi_seq (me_var 0)) (pg_name (i := 5) sc_l_around.nd rfl (by first | exact Or.inl rfl | exact Or.inr rfl)) (tg_name _ 5) (mss_cons (ms_set sc_l_around.nd (me_tup (ma_cons (me_fn D_l_less hr (ma_cons (me_item (me_var 5) (me_int)) (ma_cons (me_item (me_var 2) (me_int)) (ma_nil)))) (ma_cons (me_fn D_l_less hr (ma_cons (me_item (me_var 5) (me_int)) (ma_cons (me_item (me_var 2) (me_int)) (ma_nil)))) (ma_nil))))) (mss_one (ms_if (MW.pt (mw_and (mt_notinT hr (me_var 5) (me_tup (ma_cons (me_var 2) (ma_cons (me_var 3) (ma_nil))))) (mw_and1 (mt_le (me_item (me_fn D_l_cross hr (ma_cons (me_var 4) (ma_cons (me_var 6) (ma_nil)))) (me_int)) (me_int))))) (mss_one (ms_ret (me_bl))) (mss_nil)))))))))) (mss_one (ms_ret (me_bl)))
theorem ok_law (hX : K.In h) (hG : h.Ns mainGlobals mg) (T : Txt K mg xv) (F : FAt K ("law" : Str) s_law []) (D_l_cells : DefOk P w K mg base xv ("_law_cells" : Str) 1 P_l_cells m_l_cells) (D_l_pool : DefOk P w K mg base xv ("_law_pool" : Str) 1 P_l_pool m_l_pool) (D_l_lines : DefOk P w K mg base xv ("_law_lines" : Str) 5 P_l_lines m_l_lines) (D_l_next : DefOk P w K mg base xv ("_law_next" : Str) 1 P_l_next m_l_next) (D_l_due : DefOk P w K mg base xv ("_law_due" : Str) 6 P_l_due m_l_due_10) (D_corners : DefOk P w K mg base xv ("corners" : Str) 8 P_corners m_corners) (D_l_around : DefOk P w K mg base xv ("_law_around" : Str) 5 P_l_around m_l_around_2) : DefOk P w K mg base xv ("law" : Str) 9 P_law m_law_k23 := defok_mk hX hG F sc_law (fun _ _ _ _ _ _ us hl => match us, hl with | [_], _ => rfl) fun f cdv A outer s H E hr =>
  mss_cons (ms_for (mi_seq (me_fn D_l_cells hr (ma_cons (me_var 0) (ma_cons (me_int) (ma_nil))))) (pg_name (i := 1) sc_law.nd rfl (by first | exact Or.inl rfl | exact Or.inr rfl)) (tg_name _ 1) (mss_cons (ms_set sc_law.nd (me_fn D_l_pool hr (ma_cons (me_var 1) (ma_nil)))) (mss_cons (ms_set sc_law.nd (me_fn D_l_lines hr (ma_cons (me_var 2) (ma_cons (me_int) (ma_nil))))) (mss_cons (ms_if (mt_eq hr (me_fn D_l_next hr (ma_cons (me_var 2) (ma_cons (me_int) (ma_nil)))) (me_int)) (mss_cons (ms_set sc_law.nd (me_add (me_int) (me_fn D_l_next hr (ma_cons (me_var 2) (ma_cons (me_int) (ma_nil)))))) (mss_one (ms_setLc (own := [(("k" : Str), 9)]) (g := gName 9) sc_law.nd (mi_range1 T.n_range (ma_cons (me_var 4) (ma_nil))) (blkOk_by (N := N_law) (sc := defScope s_law) (by decide +kernel)) (fun _ _ _ _ _ => pg_name (i := 9) sc_law.nd rfl (by first | exact Or.inl rfl | exact Or.inr rfl)) (tg_name _ 9) (by decide) (fun _ _ _ _ _ => mts_nil) (fun _ _ _ _ _ => me_tup (ma_cons (me_tup (ma_cons (me_var 9) (ma_cons (me_int) (ma_nil)))) (ma_cons (me_tup (ma_cons (me_sub (me_var 4) (me_var 9)) (ma_cons (me_int) (ma_nil)))) (ma_cons (me_tup (ma_cons (me_add (me_int) (me_mod (me_var 9) (me_int))) (ma_cons (me_int) (ma_nil)))) (ma_nil))))) (sw_true rfl rfl rfl (by decide +kernel))))) (mss_nil)) (mss_cons (ms_set sc_law.nd (me_fn D_l_due hr (ma_cons (me_var 3) (ma_nil)))) (mss_cons (ms_set sc_law.nd (me_clist T.n_list (ma_cons (me_var 3) (ma_nil)))) (mss_cons (ms_set sc_law.nd (me_fn D_corners hr (ma_cons (me_var 6) (ma_nil)))) (mss_cons (ms_if (mt_ne hr (me_var 6) (me_var 3)) (mss_one (ms_ret (me_bl))) (mss_nil)) (mss_one (ms_if (mt_eqN hr (me_var 5) (me_dctN)) (mss_one (ms_if (mt_notN (me_var 7)) (mss_one (ms_ret (me_bl))) (mss_nil))) (mss_cons (ms_if (MW.pt (mw_or (mt_not (mt_val (me_isi .lst T.n_isinstance T.n_list (by decide +kernel) (me_var 7)))) (mw_or (mt_ne hr (me_len T.n_len (ma_cons (me_var 7) (ma_nil))) (me_lenN T.n_len (ma_cons (me_var 5) (ma_nil)))) (mw_or1 (mt_not (mt_val (me_all T.n_all (ma_cons (me_lc (own := [(("ray" : Str), 10)]) (g := gName 10) sc_law.nd (mi_seq (me_var 7)) (blkOk_by (N := N_law) (sc := defScope s_law) (by decide +kernel)) (fun _ _ _ _ _ => pg_name (i := 10) sc_law.nd rfl (by first | exact Or.inl rfl | exact Or.inr rfl)) (tg_name _ 10) (by decide) (fun _ _ _ _ _ => mts_nil) (fun _ _ _ _ _ => me_inN hr (me_var 10) (me_var 5))) (ma_nil))))))))) (mss_one (ms_ret (me_bl))) (mss_nil)) (mss_cons (ms_if (mt_not (mt_val (me_fn D_l_around hr (ma_cons (me_var 7) (ma_nil))))) (mss_one (ms_ret (me_bl))) (mss_nil)) (mss_cons (ms_set sc_law.nd (me_clist T.n_list (ma_cons (me_var 7) (ma_nil)))) (mss_cons (ms_expr (me_reverse (me_var 7))) (mss_one (ms_if (mt_ne hr (me_fn D_corners hr (ma_cons (me_ctuple T.n_tuple (ma_cons (me_var 3) (ma_nil))) (ma_nil))) (me_var 8)) (mss_one (ms_ret (me_bl))) (mss_nil))))))))))))))))) (mss_one (ms_ret (me_bl)))
structure All (K : PySem.W.Frag) : Prop where
  f_l_cells : FAt K ("_law_cells" : Str) s_l_cells []
  f_l_pool : FAt K ("_law_pool" : Str) s_l_pool []
  f_l_next : FAt K ("_law_next" : Str) s_l_next []
  f_l_low : FAt K ("_law_low" : Str) s_l_low []
  f_l_wide : FAt K ("_law_wide" : Str) s_l_wide []
  f_l_number : FAt K ("_law_number" : Str) s_l_number []
  f_l_line : FAt K ("_law_line" : Str) s_l_line []
  f_l_taken : FAt K ("_law_taken" : Str) s_l_taken []
  f_l_sum : FAt K ("_law_sum" : Str) s_l_sum []
  f_l_lines : FAt K ("_law_lines" : Str) s_l_lines []
  f_l_back : FAt K ("_law_back" : Str) s_l_back []
  f_l_less : FAt K ("_law_less" : Str) s_l_less []
  f_l_cross : FAt K ("_law_cross" : Str) s_l_cross []
  f_l_met : FAt K ("_law_met" : Str) s_l_met []
  f_l_below : FAt K ("_law_below" : Str) s_l_below []
  f_l_bare : FAt K ("_law_bare" : Str) s_l_bare []
  f_l_worth : FAt K ("_law_worth" : Str) s_l_worth []
  f_l_lets : FAt K ("_law_lets" : Str) s_l_lets []
  f_l_due : FAt K ("_law_due" : Str) s_l_due []
  f_is_whole : FAt K ("is_whole" : Str) s_is_whole []
  f_divisor : FAt K ("divisor" : Str) s_divisor []
  f_ratio : FAt K ("ratio" : Str) s_ratio [.int 1]
  f_minus : FAt K ("minus" : Str) s_minus []
  f_times : FAt K ("times" : Str) s_times []
  f_cross : FAt K ("cross" : Str) s_cross []
  f_over : FAt K ("over" : Str) s_over []
  f_by_two : FAt K ("by_two" : Str) s_by_two []
  f_negative : FAt K ("negative" : Str) s_negative []
  f_less : FAt K ("less" : Str) s_less []
  f_size : FAt K ("size" : Str) s_size []
  f_plus : FAt K ("plus" : Str) s_plus []
  f_summed : FAt K ("summed" : Str) s_summed []
  f_lets_by : FAt K ("lets_by" : Str) s_lets_by []
  f_lets : FAt K ("lets" : Str) s_lets []
  f_opposite : FAt K ("opposite" : Str) s_opposite []
  f_met_by_two : FAt K ("met_by_two" : Str) s_met_by_two []
  f_is_least : FAt K ("is_least" : Str) s_is_least []
  f_least_ray : FAt K ("least_ray" : Str) s_least_ray []
  f_next_around : FAt K ("next_around" : Str) s_next_around []
  f_corners : FAt K ("corners" : Str) s_corners []
  f_l_ahead : FAt K ("_law_ahead" : Str) s_l_ahead []
  f_l_around : FAt K ("_law_around" : Str) s_l_around []
  f_law : FAt K ("law" : Str) s_law []
theorem law_ok (hX : K.In h) (hG : h.Ns mainGlobals mg) (T : Txt K mg xv) (F : All K) : DefOk P w K mg base xv "law" 9 P_law m_law_k23 := by
  have D_l_cells := ok_l_cells (P := P) (w := w) (base := base) (xv := xv) hX hG T F.f_l_cells
  have D_l_pool := ok_l_pool (P := P) (w := w) (base := base) (xv := xv) hX hG T F.f_l_pool
  have D_l_next := ok_l_next (P := P) (w := w) (base := base) (xv := xv) hX hG T F.f_l_next
  have D_l_low := ok_l_low (P := P) (w := w) (base := base) (xv := xv) hX hG T F.f_l_low
  have D_l_wide := ok_l_wide (P := P) (w := w) (base := base) (xv := xv) hX hG T F.f_l_wide D_l_next
  have D_l_number := ok_l_number (P := P) (w := w) (base := base) (xv := xv) hX hG T F.f_l_number D_l_next D_l_low D_l_wide
  have D_l_line := ok_l_line (P := P) (w := w) (base := base) (xv := xv) hX hG T F.f_l_line D_l_number D_l_next D_l_low
  have D_l_taken := ok_l_taken (P := P) (w := w) (base := base) (xv := xv) hX hG T F.f_l_taken D_l_low
  have D_l_sum := ok_l_sum (P := P) (w := w) (base := base) (xv := xv) hX hG T F.f_l_sum D_l_low
  have D_l_lines := ok_l_lines (P := P) (w := w) (base := base) (xv := xv) hX hG T F.f_l_lines D_l_next D_l_line D_l_low D_l_taken D_l_sum
  have D_l_back := ok_l_back (P := P) (w := w) (base := base) (xv := xv) hX hG T F.f_l_back
  have D_l_less := ok_l_less (P := P) (w := w) (base := base) (xv := xv) hX hG T F.f_l_less D_l_sum D_l_back
  have D_l_cross := ok_l_cross (P := P) (w := w) (base := base) (xv := xv) hX hG T F.f_l_cross D_l_less D_l_taken
  have D_l_met := ok_l_met (P := P) (w := w) (base := base) (xv := xv) hX hG T F.f_l_met D_l_cross D_l_low D_l_less D_l_taken
  have D_l_below := ok_l_below (P := P) (w := w) (base := base) (xv := xv) hX hG T F.f_l_below
  have D_l_bare := ok_l_bare (P := P) (w := w) (base := base) (xv := xv) hX hG T F.f_l_bare
  have D_l_worth := ok_l_worth (P := P) (w := w) (base := base) (xv := xv) hX hG T F.f_l_worth D_l_sum D_l_taken
  have D_l_lets := ok_l_lets (P := P) (w := w) (base := base) (xv := xv) hX hG T F.f_l_lets D_l_below D_l_bare D_l_worth
  have D_l_due := ok_l_due (P := P) (w := w) (base := base) (xv := xv) hX hG T F.f_l_due D_l_cross D_l_met D_l_lets D_l_back
  have D_is_whole := ok_is_whole (P := P) (w := w) (base := base) (xv := xv) hX hG T F.f_is_whole
  have D_divisor := ok_divisor (P := P) (w := w) (base := base) (xv := xv) hX hG T F.f_divisor
  have D_ratio := ok_ratio (P := P) (w := w) (base := base) (xv := xv) hX hG T F.f_ratio D_is_whole D_divisor
  have D_minus := ok_minus (P := P) (w := w) (base := base) (xv := xv) hX hG T F.f_minus D_ratio
  have D_times := ok_times (P := P) (w := w) (base := base) (xv := xv) hX hG T F.f_times D_ratio
  have D_cross := ok_cross (P := P) (w := w) (base := base) (xv := xv) hX hG T F.f_cross D_minus D_times
  have D_over := ok_over (P := P) (w := w) (base := base) (xv := xv) hX hG T F.f_over D_ratio
  have D_by_two := ok_by_two (P := P) (w := w) (base := base) (xv := xv) hX hG T F.f_by_two D_cross D_minus D_times D_over
  have D_negative := ok_negative (P := P) (w := w) (base := base) (xv := xv) hX hG T F.f_negative
  have D_less := ok_less (P := P) (w := w) (base := base) (xv := xv) hX hG T F.f_less
  have D_size := ok_size (P := P) (w := w) (base := base) (xv := xv) hX hG T F.f_size
  have D_plus := ok_plus (P := P) (w := w) (base := base) (xv := xv) hX hG T F.f_plus D_ratio
  have D_summed := ok_summed (P := P) (w := w) (base := base) (xv := xv) hX hG T F.f_summed D_plus D_times
  have D_lets_by := ok_lets_by (P := P) (w := w) (base := base) (xv := xv) hX hG T F.f_lets_by D_less D_size D_summed
  have D_lets := ok_lets (P := P) (w := w) (base := base) (xv := xv) hX hG T F.f_lets D_lets_by
  have D_opposite := ok_opposite (P := P) (w := w) (base := base) (xv := xv) hX hG T F.f_opposite D_negative
  have D_met_by_two := ok_met_by_two (P := P) (w := w) (base := base) (xv := xv) hX hG T F.f_met_by_two D_cross D_by_two D_negative D_lets D_opposite
  have D_is_least := ok_is_least (P := P) (w := w) (base := base) (xv := xv) hX hG T F.f_is_least D_minus
  have D_least_ray := ok_least_ray (P := P) (w := w) (base := base) (xv := xv) hX hG T F.f_least_ray D_is_least
  have D_next_around := ok_next_around (P := P) (w := w) (base := base) (xv := xv) hX hG T F.f_next_around D_cross
  have D_corners := ok_corners (P := P) (w := w) (base := base) (xv := xv) hX hG T F.f_corners D_met_by_two D_least_ray D_next_around
  have D_l_ahead := ok_l_ahead (P := P) (w := w) (base := base) (xv := xv) hX hG T F.f_l_ahead D_l_below
  have D_l_around := ok_l_around (P := P) (w := w) (base := base) (xv := xv) hX hG T F.f_l_around D_l_less D_l_cross D_l_ahead
  have D_law := ok_law (P := P) (w := w) (base := base) (xv := xv) hX hG T F.f_law D_l_cells D_l_pool D_l_lines D_l_next D_l_due D_corners D_l_around
  exact D_law
end
end K23
section
set_option exponentiation.threshold 10000
namespace K23
open PySem L2 Rg
theorem itc {ns : List Int} (hl : ns.length ≤ 63) {e : Rg.Env} (h0 : e[0]? = some (some (.ref 0))) : Rok (sIter (sCall m_l_cells (sCons (sVar 0) (sCons (sC (.int (4))) (sNil)))) e [.fro (ns.map Rg.D.int)]) fun w S' => (∃ xs : List Int, w.items = xs.map Rg.D.int) ∧ (∃ C, S' = [.fro (ns.map Rg.D.int)] ++ C) ∧ ∀ C, w.chk (S' ++ C) := by
  simp [h0]
  refine cells_then (c := 4) hl (by decide) (by decide) rfl fun xs => ?_
  simp
  exact ⟨xs, rfl⟩
noncomputable def fin23 : SS := (sSeq (sSet 5 (sCall m_l_due_10 (sCons (sVar 3) (sNil)))) (sSeq (sSet 6 (sCall fList (sCons (sVar 3) (sNil)))) (sSeq (sSet 7 (sCall m_corners (sCons (sVar 6) (sNil)))) (sSeq (sIfS (sT (s2 fNe (sVar 6) (sVar 3))) (sRet (sC (.bl false))) (sSkip)) (sIfS (sT (s2 fEqN (sVar 5) (sDctN))) (sIfS (sT (s1 fNotN (sVar 7))) (sRet (sC (.bl false))) (sSkip)) (sSeq (sIfS (sOr (sNot (sT (s1 (fIsi .lst) (sVar 7)))) (sOr (sT (s2 fNe (sCall fLen (sCons (sVar 7) (sNil))) (sCall fLenN (sCons (sVar 5) (sNil))))) (sNot (sT (sCall fAll (sCons (sComp (sIter (sVar 7)) (gN 10) (sYes) (s2 fInN (sVar 10) (sVar 5)) [10]) (sNil))))))) (sRet (sC (.bl false))) (sSkip)) (sSeq (sIfS (sNot (sT (sCall m_l_around_2 (sCons (sVar 7) (sNil))))) (sRet (sC (.bl false))) (sSkip)) (sSeq (sSet 8 (sCall fList (sCons (sVar 7) (sNil)))) (sSeq (sDrop (sMethL fReverse (sVar 7) sNil)) (sIfS (sT (s2 fNe (sCall m_corners (sCons (sCall fTuple (sCons (sVar 3) (sNil))) (sNil))) (sVar 8))) (sRet (sC (.bl false))) (sSkip)))))))))))
theorem fin_then {gg : SPt} {S C : Store} {x0 x0' y0' z0' : Int} {m : Nat} {L : List Ln} {o4 o5 o6 o7 o8 o9 o10 : Option Rg.D} (hG : GL L 476) (hm : lstOf (S ++ pl x0' y0' z0' :: C) m = some (L.map eL))
    (hk : ∀ e' C', e'.length = 11 → e'[0]? = some (some (.ref 0)) → gg.nx e' (S ++ C')) : Sok (fin23 [some (.ref 0), some (.int x0), some (.ref S.length), some (.ref m), o4, o5, o6, o7, o8, o9, o10] (S ++ pl x0' y0' z0' :: C)) gg := by
  unfold fin23
  have hT0 : ∃ C0, S ++ pl x0' y0' z0' :: C = S ++ C0 := ⟨_, rfl⟩
  generalize S ++ pl x0' y0' z0' :: C = T at *
  obtain ⟨C0, hT0⟩ := hT0
  have hmlt := lstOf_lt hm
  have hlX : ∀ X : Store, lstOf (T ++ X) m = some (L.map eL) := fun X => by rw [lstOf_left hmlt]; exact hm
  have hk2 : ∀ e' X, e'.length = 11 → e'[0]? = some (some (.ref 0)) → gg.nx e' (T ++ X) := fun e' X h1 h2 => by
    rw [hT0, List.append_assoc]
    exact hk e' _ h1 h2
  simp
  refine l_due_eq hG (by decide) hm fun F C1 hN hF => ?_
  simp [hlX, hmlt]
  by_cases hz : met L = []
  · have hF0 : F = [] := List.eq_nil_iff_forall_not_mem.mpr fun x hx => by
      have := (hF x).mp hx
      rw [hz] at this
      cases this
    rw [corners_none hG (.inr ⟨_, rfl, by simp⟩) hz]
    simp [hlX]
    rw [eqN_eq (F := F) (by simp) (by simp)]
    simp [hF0]
    exact hk2 _ _ rfl rfl
  · rw [corners_some hG (.inr ⟨_, rfl, by simp⟩) hz]
    have ecr : (List.range (met L).length).map (itN (met L) (leastR (met L))) = crnL L := rfl
    rw [ecr]
    have ok := hG.ok
    have hFne : F.isEmpty = false := by
      cases F with
      | nil =>
        obtain ⟨x, hx⟩ := List.exists_mem_of_ne_nil _ hz
        have := (hF x).mpr hx
        cases this
      | cons a F => rfl
    have hp : (crnL L).Perm (met L) := crnL_perm ok hz
    have hFl : F.length = (crnL L).length := ((List.perm_ext_iff_of_nodup hN (nodup_met ok)).mpr hF).length_eq.trans hp.length_eq.symm
    have hin : ∀ x ∈ crnL L, F.contains x = true := fun x hx => by
      rw [List.contains_iff_mem]
      exact (hF x).mpr (hp.mem_iff.mp hx)
    have hcl : (crnL L).length ≤ 1000 := by rw [crnL_len]; exact Nat.le_trans (metL_len hG) (by decide)
    simp [hlX]
    rw [eqN_eq (F := F) (by simp) (by simp)]
    simp [hFne]
    obtain ⟨U, hU⟩ : ∃ U, U = T ++ Cell.dn (F.map eR) :: (C1 ++ [Cell.lst (L.map eL), Cell.lst ((crnL L).map eR), Cell.dn []]) := ⟨_, rfl⟩
    obtain ⟨fi, hfi⟩ : ∃ fi, fi = T.length + (C1.length + 1 + 1) := ⟨_, rfl⟩
    rw [← hU, ← hfi]
    have u3 : fi < U.length := by rw [hU, hfi]; simp
    have u1 : ∀ X : Store, (U ++ X)[T.length]? = some (.dn (F.map eR)) := fun X => by rw [hU]; simp
    have u0 : U[fi]? = some (.lst ((crnL L).map eR)) := by rw [hU, hfi]; simp
    have u2 : lstOf U fi = some ((crnL L).map eR) := by rw [hU, hfi]; simp
    have u4 : lstOf U m = some (L.map eL) := by rw [hU]; exact hlX _
    have u6 : m < U.length := lstOf_lt u4
    have u5 : ∀ c X, ∃ X', (U ++ X).set fi c = T ++ X' := fun c X => ⟨_, by rw [hU, hfi, List.append_assoc]; exact List.set_append_right _ _ (by omega)⟩
    have u7 : fi ≠ m := by omega
    have q1 : fLenN [D.ref T.length] U = .ok (.int (F.length : Nat)) U := by
      have := lenN_eq (F := F) (u1 [])
      simpa using this
    have q2 : ∀ x ∈ crnL L, ∀ X : Store, fInN (eR x) (.ref T.length) (U ++ X) = .ok (.bl true) (U ++ X) := fun x hx X => by rw [inN_eq (F := F) (u1 X), hin x hx]
    simp [tyOf, u0, q1, hFl, Ty.isa]
    refine comp_map_then (crnL L) eR (fun _ => D.bl true) ?_ (by simp; omega) (fun x hx acc => ?_) ?_
    · simp [u2, u3]
    · simp
      rw [q2 x hx]
      simp
    · simp
      refine ⟨(crnL L).map fun _ => true, boolsD_map, fun h => ?_, fun _ => ?_⟩
      · simp at h
      rw [l_around_eq hG (by decide) hz (by simp [u2, u3])]
      generalize hB : Cell.lst (List.map (fun x => D.bl true) (crnL L)) = B
      simp [u2, u3]
      refine rok_reverseA (l := (crnL L).map eR) (by rw [List.getElem?_append_left u3]; exact u0) ?_
      have v1 : lstOf ((U ++ [B, Cell.lst ((crnL L).map eR)]).set fi (.lst ((crnL L).map eR).reverse)) m = some (L.map eL) := by
        rw [lstOf_set_ne (by omega), lstOf_left u6]
        exact u4
      have v2 : lstOf ((U ++ [B, Cell.lst ((crnL L).map eR)]).set fi (.lst ((crnL L).map eR).reverse)) (U.length + 1) = some ((crnL L).map eR) := by
        rw [lstOf_set_ne (by omega)]
        simp
      obtain ⟨X', hX⟩ := u5 (.lst ((crnL L).map eR).reverse) [B, Cell.lst ((crnL L).map eR)]
      have v3 : ((U ++ [B, Cell.lst ((crnL L).map eR)]).set fi (.lst ((crnL L).map eR).reverse)).length = U.length + 2 := by simp
      have v4 : U.length + 1 < ((U ++ [B, Cell.lst ((crnL L).map eR)]).set fi (.lst ((crnL L).map eR).reverse)).length := by omega
      generalize (U ++ [B, Cell.lst ((crnL L).map eR)]).set fi (.lst ((crnL L).map eR).reverse) = V at *
      have v5 := lstOf_lt v1
      simp [v1]
      rw [corners_some hG (.inl rfl) hz, ecr]
      simp [v2, v4, v3]
      rw [hX, List.append_assoc]
      exact hk2 _ _ rfl rfl
theorem law_true (ns : List Int) (hl : ns.length ≤ 63) (hb : ∀ z ∈ ns, Builtin.Int.intBits z ≤ 1048576) : ∃ S', m_law_k23 [.ref 0] [.fro (ns.map Rg.D.int)] = .ok (.bl true) S' := by
  refine law_gen0 (slot := 1) (fun e => e.length = 11 ∧ e[0]? = some (some (.ref 0))) rfl ⟨rfl, rfl⟩ (fun e he => itc hl he.2) ?_ ?_
  · rintro x e S ⟨he, h0⟩
    obtain ⟨o0, o1, o2, o3, o4, o5, o6, o7, o8, o9, o10, rfl⟩ : ∃ a b c d e' f g h i j k, e = [a, b, c, d, e', f, g, h, i, j, k] := by
      match e, he with
      | [a, b, c, d, e, f, g, h, i, j, k], _ => exact ⟨_, _, _, _, _, _, _, _, _, _, _, rfl⟩
    simp at h0
    subst h0
    obtain ⟨A, hA⟩ : ∃ A, A = fin23 := ⟨_, rfl⟩
    have hA2 := hA
    unfold fin23 at hA2
    rw [← hA2]
    clear hA2
    simp
    refine pool_then fun a b c => ?_
    simp
    refine lines_then2 (n := S.length) inferInstance (by decide) (by decide) fun L x y z hF hLen => ?_
    have hG := fam2_GL95 hF (by omega)
    simp
    refine next_then (n := S.length) inferInstance (by decide) (by decide) fun w x y z w0 w1 => ?_
    simp
    refine ⟨fun hw => ?_, fun hw => ?_⟩
    · refine next_then (n := S.length) inferInstance (by decide) (by decide) fun v x y z v0 v1 => ?_
      simp
      refine comp_map_thenG (S ++ [pl x y z, .lst (L.map eL)]) (List.range (6 + v).toNat) (fun (k : Nat) => .int (k : Int)) (fun (k : Nat) => D.tup [.tup [.int (k : Int), .int 1], .tup [.int (6 + v - (k : Int)), .int 1], .tup [.int (1 + (k : Int) % 2), .int 1]]) ?_ (by simp; omega) (fun k hk acc => ?_) ?_
      · simp [rangeD]
        omega
      · simp
        show (0 : Int) < 2
        decide
      · rw [web_map (by omega)]
        have hG' : GL (webL (6 + v).toNat) 476 := (webL_GL (by omega)).mono (by decide) (by decide)
        simp
        rw [hA]
        exact fin_then hG' (by simp) fun e C h1 h2 => ⟨⟨h1, h2⟩, C, rfl⟩
    · rw [hA]
      exact fin_then hG (by simp) fun e C h1 h2 => ⟨⟨h1, h2⟩, C, rfl⟩
  · rintro e S ⟨he, h0⟩
    simp
end K23
end
namespace K23
open PySem PySem.Spec PyProof.Rows L2 Rg
def fn : List He.DefD := ([⟨(("_law_cells" : Str), none), ("_law_cells" : Str), ("_law_cells" : Str), defArgs s_l_cells, defBody s_l_cells, defScope s_l_cells, [], []⟩, ⟨(("_law_pool" : Str), none), ("_law_pool" : Str), ("_law_pool" : Str), defArgs s_l_pool, defBody s_l_pool, defScope s_l_pool, [], []⟩, ⟨(("_law_next" : Str), none), ("_law_next" : Str), ("_law_next" : Str), defArgs s_l_next, defBody s_l_next, defScope s_l_next, [], []⟩, ⟨(("_law_low" : Str), none), ("_law_low" : Str), ("_law_low" : Str), defArgs s_l_low, defBody s_l_low, defScope s_l_low, [], []⟩, ⟨(("_law_wide" : Str), none), ("_law_wide" : Str), ("_law_wide" : Str), defArgs s_l_wide, defBody s_l_wide, defScope s_l_wide, [], []⟩, ⟨(("_law_number" : Str), none), ("_law_number" : Str), ("_law_number" : Str), defArgs s_l_number, defBody s_l_number, defScope s_l_number, [], []⟩, ⟨(("_law_line" : Str), none), ("_law_line" : Str), ("_law_line" : Str), defArgs s_l_line, defBody s_l_line, defScope s_l_line, [], []⟩, ⟨(("_law_taken" : Str), none), ("_law_taken" : Str), ("_law_taken" : Str), defArgs s_l_taken, defBody s_l_taken, defScope s_l_taken, [], []⟩, ⟨(("_law_sum" : Str), none), ("_law_sum" : Str), ("_law_sum" : Str), defArgs s_l_sum, defBody s_l_sum, defScope s_l_sum, [], []⟩, ⟨(("_law_lines" : Str), none), ("_law_lines" : Str), ("_law_lines" : Str), defArgs s_l_lines, defBody s_l_lines, defScope s_l_lines, [], []⟩, ⟨(("_law_back" : Str), none), ("_law_back" : Str), ("_law_back" : Str), defArgs s_l_back, defBody s_l_back, defScope s_l_back, [], []⟩, ⟨(("_law_less" : Str), none), ("_law_less" : Str), ("_law_less" : Str), defArgs s_l_less, defBody s_l_less, defScope s_l_less, [], []⟩, ⟨(("_law_cross" : Str), none), ("_law_cross" : Str), ("_law_cross" : Str), defArgs s_l_cross, defBody s_l_cross, defScope s_l_cross, [], []⟩, ⟨(("_law_met" : Str), none), ("_law_met" : Str), ("_law_met" : Str), defArgs s_l_met, defBody s_l_met, defScope s_l_met, [], []⟩, ⟨(("_law_below" : Str), none), ("_law_below" : Str), ("_law_below" : Str), defArgs s_l_below, defBody s_l_below, defScope s_l_below, [], []⟩, ⟨(("_law_bare" : Str), none), ("_law_bare" : Str), ("_law_bare" : Str), defArgs s_l_bare, defBody s_l_bare, defScope s_l_bare, [], []⟩, ⟨(("_law_worth" : Str), none), ("_law_worth" : Str), ("_law_worth" : Str), defArgs s_l_worth, defBody s_l_worth, defScope s_l_worth, [], []⟩, ⟨(("_law_lets" : Str), none), ("_law_lets" : Str), ("_law_lets" : Str), defArgs s_l_lets, defBody s_l_lets, defScope s_l_lets, [], []⟩, ⟨(("_law_due" : Str), none), ("_law_due" : Str), ("_law_due" : Str), defArgs s_l_due, defBody s_l_due, defScope s_l_due, [], []⟩, ⟨(("is_whole" : Str), none), ("is_whole" : Str), ("is_whole" : Str), defArgs s_is_whole, defBody s_is_whole, defScope s_is_whole, [], []⟩, ⟨(("divisor" : Str), none), ("divisor" : Str), ("divisor" : Str), defArgs s_divisor, defBody s_divisor, defScope s_divisor, [], []⟩, ⟨(("ratio" : Str), none), ("ratio" : Str), ("ratio" : Str), defArgs s_ratio, defBody s_ratio, defScope s_ratio, [.int 1], []⟩, ⟨(("minus" : Str), none), ("minus" : Str), ("minus" : Str), defArgs s_minus, defBody s_minus, defScope s_minus, [], []⟩, ⟨(("times" : Str), none), ("times" : Str), ("times" : Str), defArgs s_times, defBody s_times, defScope s_times, [], []⟩, ⟨(("cross" : Str), none), ("cross" : Str), ("cross" : Str), defArgs s_cross, defBody s_cross, defScope s_cross, [], []⟩, ⟨(("over" : Str), none), ("over" : Str), ("over" : Str), defArgs s_over, defBody s_over, defScope s_over, [], []⟩, ⟨(("by_two" : Str), none), ("by_two" : Str), ("by_two" : Str), defArgs s_by_two, defBody s_by_two, defScope s_by_two, [], []⟩, ⟨(("negative" : Str), none), ("negative" : Str), ("negative" : Str), defArgs s_negative, defBody s_negative, defScope s_negative, [], []⟩, ⟨(("less" : Str), none), ("less" : Str), ("less" : Str), defArgs s_less, defBody s_less, defScope s_less, [], []⟩, ⟨(("size" : Str), none), ("size" : Str), ("size" : Str), defArgs s_size, defBody s_size, defScope s_size, [], []⟩] : List He.DefD) ++ ([⟨(("plus" : Str), none), ("plus" : Str), ("plus" : Str), defArgs s_plus, defBody s_plus, defScope s_plus, [], []⟩, ⟨(("summed" : Str), none), ("summed" : Str), ("summed" : Str), defArgs s_summed, defBody s_summed, defScope s_summed, [], []⟩, ⟨(("lets_by" : Str), none), ("lets_by" : Str), ("lets_by" : Str), defArgs s_lets_by, defBody s_lets_by, defScope s_lets_by, [], []⟩, ⟨(("lets" : Str), none), ("lets" : Str), ("lets" : Str), defArgs s_lets, defBody s_lets, defScope s_lets, [], []⟩, ⟨(("opposite" : Str), none), ("opposite" : Str), ("opposite" : Str), defArgs s_opposite, defBody s_opposite, defScope s_opposite, [], []⟩, ⟨(("met_by_two" : Str), none), ("met_by_two" : Str), ("met_by_two" : Str), defArgs s_met_by_two, defBody s_met_by_two, defScope s_met_by_two, [], []⟩, ⟨(("is_least" : Str), none), ("is_least" : Str), ("is_least" : Str), defArgs s_is_least, defBody s_is_least, defScope s_is_least, [], []⟩, ⟨(("least_ray" : Str), none), ("least_ray" : Str), ("least_ray" : Str), defArgs s_least_ray, defBody s_least_ray, defScope s_least_ray, [], []⟩, ⟨(("next_around" : Str), none), ("next_around" : Str), ("next_around" : Str), defArgs s_next_around, defBody s_next_around, defScope s_next_around, [], []⟩, ⟨(("corners" : Str), none), ("corners" : Str), ("corners" : Str), defArgs s_corners, defBody s_corners, defScope s_corners, [], []⟩, ⟨(("_law_ahead" : Str), none), ("_law_ahead" : Str), ("_law_ahead" : Str), defArgs s_l_ahead, defBody s_l_ahead, defScope s_l_ahead, [], []⟩, ⟨(("_law_around" : Str), none), ("_law_around" : Str), ("_law_around" : Str), defArgs s_l_around, defBody s_l_around, defScope s_l_around, [], []⟩, ⟨(("law" : Str), none), ("law" : Str), ("law" : Str), defArgs s_law, defBody s_law, defScope s_law, [], []⟩] : List He.DefD)
def fa : List He.Fa := ([.glo ("_law_cells" : Str), .glo ("_law_pool" : Str), .glo ("_law_next" : Str), .glo ("_law_low" : Str), .glo ("_law_wide" : Str), .glo ("_law_number" : Str), .glo ("_law_line" : Str), .glo ("_law_taken" : Str), .glo ("_law_sum" : Str), .glo ("_law_lines" : Str), .glo ("_law_back" : Str), .glo ("_law_less" : Str), .glo ("_law_cross" : Str), .glo ("_law_met" : Str), .glo ("_law_below" : Str), .glo ("_law_bare" : Str), .glo ("_law_worth" : Str), .glo ("_law_lets" : Str), .glo ("_law_due" : Str), .glo ("is_whole" : Str), .glo ("divisor" : Str), .glo ("ratio" : Str), .glo ("minus" : Str), .glo ("times" : Str), .glo ("cross" : Str), .glo ("over" : Str), .glo ("by_two" : Str), .glo ("negative" : Str), .glo ("less" : Str), .glo ("size" : Str)] : List He.Fa) ++ ([.glo ("plus" : Str), .glo ("summed" : Str), .glo ("lets_by" : Str), .glo ("lets" : Str), .glo ("opposite" : Str), .glo ("met_by_two" : Str), .glo ("is_least" : Str), .glo ("least_ray" : Str), .glo ("next_around" : Str), .glo ("corners" : Str), .glo ("_law_ahead" : Str), .glo ("_law_around" : Str), .glo ("law" : Str), .free ("abs" : Str), .free ("all" : Str), .free ("bool" : Str), .free ("enumerate" : Str), .free ("int" : Str), .free ("isinstance" : Str), .free ("len" : Str), .free ("list" : Str), .free ("max" : Str), .free ("min" : Str), .free ("range" : Str), .free ("tuple" : Str), .free ("zip" : Str)] : List He.Fa)
def cs : List (Str × D) := ([] : List (Str × D))
def fx : List Rg.Fx := ([] : List Rg.Fx)
abbrev R : PySem.W.OpenRow := PySem.W.OpenLaw.row PySem.Challenge.rw_roundglass_k23_corners_told
abbrev hk : PySem.W.Hook := Rg.hookR 4 fx fa fn cs
def ob (s : PySem.W.SharedT) : Rg.AlR := Rg.obsRG 4 fx fa fn cs (HandSHeadRun.getT s)
theorem ob_eq (s : PySem.W.SharedT) : ob s = hk.obs s.abs := Rg.obsRG_eq (HandSHeadRun.getT_eq s)
def loose : List PySem.Str := (["GlassError", "NoRatio", "is_whole", "divisor", "ratio", "plus", "minus", "times", "over", "less", "negative", "size", "summed", "cross", "lets_by", "lets", "by_two", "opposite", "met_by_two", "is_least"] : List PySem.Str) ++ (["least_ray", "next_around", "corners", "_law_pool", "_law_next", "_law_cells", "_law_wide", "_law_low", "_law_sum", "_law_taken", "_law_back", "_law_below", "_law_number", "_law_line", "_law_lines", "_law_worth", "_law_bare", "_law_lets", "_law_less", "_law_cross"] : List PySem.Str) ++ (["_law_met", "_law_due", "_law_ahead", "_law_around"] : List PySem.Str)
theorem run (w : World) : HandSHeadRun.RunEq R (PySem.W.view R.prog [50]) hk ob 20000 loose w := by
  intro os
  kernel_rfl
theorem facts {w : World} {K : PySem.W.Frag} {h : Heap} {mg : Str → Option Value} {f : Addr} (X : K.In h) (G : h.Ns mainGlobals mg) (hfa : mg ("law" : Str) = some (.ref f)) (c : Rg.SaysR fx fa fn cs K) :
    ∃ fd : FuncData, (∀ (s : Shared) (v : Value), BindsTo s fd ⟨[v], []⟩ [("script", v)]) ∧ ∀ base : Heap, K.In base → base.Ns mainGlobals mg → FnOk PySem.Challenge.rw_roundglass_k23_corners_told.prog w K mg base (L2.CX PySem.Challenge.rw_roundglass_k23_corners_told.prog w) 9 f fd ["script"] (SpOf K (xvK K) m_law_k23) := by
  have f_l_cells : FAt K ("_law_cells" : Str) s_l_cells [] := c.f 0 0 (dvs := [])
  have f_l_pool : FAt K ("_law_pool" : Str) s_l_pool [] := c.f 1 1 (dvs := [])
  have f_l_next : FAt K ("_law_next" : Str) s_l_next [] := c.f 2 2 (dvs := [])
  have f_l_low : FAt K ("_law_low" : Str) s_l_low [] := c.f 3 3 (dvs := [])
  have f_l_wide : FAt K ("_law_wide" : Str) s_l_wide [] := c.f 4 4 (dvs := [])
  have f_l_number : FAt K ("_law_number" : Str) s_l_number [] := c.f 5 5 (dvs := [])
  have f_l_line : FAt K ("_law_line" : Str) s_l_line [] := c.f 6 6 (dvs := [])
  have f_l_taken : FAt K ("_law_taken" : Str) s_l_taken [] := c.f 7 7 (dvs := [])
  have f_l_sum : FAt K ("_law_sum" : Str) s_l_sum [] := c.f 8 8 (dvs := [])
  have f_l_lines : FAt K ("_law_lines" : Str) s_l_lines [] := c.f 9 9 (dvs := [])
  have f_l_back : FAt K ("_law_back" : Str) s_l_back [] := c.f 10 10 (dvs := [])
  have f_l_less : FAt K ("_law_less" : Str) s_l_less [] := c.f 11 11 (dvs := [])
  have f_l_cross : FAt K ("_law_cross" : Str) s_l_cross [] := c.f 12 12 (dvs := [])
  have f_l_met : FAt K ("_law_met" : Str) s_l_met [] := c.f 13 13 (dvs := [])
  have f_l_below : FAt K ("_law_below" : Str) s_l_below [] := c.f 14 14 (dvs := [])
  have f_l_bare : FAt K ("_law_bare" : Str) s_l_bare [] := c.f 15 15 (dvs := [])
  have f_l_worth : FAt K ("_law_worth" : Str) s_l_worth [] := c.f 16 16 (dvs := [])
  have f_l_lets : FAt K ("_law_lets" : Str) s_l_lets [] := c.f 17 17 (dvs := [])
  have f_l_due : FAt K ("_law_due" : Str) s_l_due [] := c.f 18 18 (dvs := [])
  have f_is_whole : FAt K ("is_whole" : Str) s_is_whole [] := c.f 19 19 (dvs := [])
  have f_divisor : FAt K ("divisor" : Str) s_divisor [] := c.f 20 20 (dvs := [])
  have f_ratio : FAt K ("ratio" : Str) s_ratio [.int 1] := c.f 21 21 (dvs := [.int 1])
  have f_minus : FAt K ("minus" : Str) s_minus [] := c.f 22 22 (dvs := [])
  have f_times : FAt K ("times" : Str) s_times [] := c.f 23 23 (dvs := [])
  have f_cross : FAt K ("cross" : Str) s_cross [] := c.f 24 24 (dvs := [])
  have f_over : FAt K ("over" : Str) s_over [] := c.f 25 25 (dvs := [])
  have f_by_two : FAt K ("by_two" : Str) s_by_two [] := c.f 26 26 (dvs := [])
  have f_negative : FAt K ("negative" : Str) s_negative [] := c.f 27 27 (dvs := [])
  have f_less : FAt K ("less" : Str) s_less [] := c.f 28 28 (dvs := [])
  have f_size : FAt K ("size" : Str) s_size [] := c.f 29 29 (dvs := [])
  have f_plus : FAt K ("plus" : Str) s_plus [] := c.f 30 30 (dvs := [])
  have f_summed : FAt K ("summed" : Str) s_summed [] := c.f 31 31 (dvs := [])
  have f_lets_by : FAt K ("lets_by" : Str) s_lets_by [] := c.f 32 32 (dvs := [])
  have f_lets : FAt K ("lets" : Str) s_lets [] := c.f 33 33 (dvs := [])
  have f_opposite : FAt K ("opposite" : Str) s_opposite [] := c.f 34 34 (dvs := [])
  have f_met_by_two : FAt K ("met_by_two" : Str) s_met_by_two [] := c.f 35 35 (dvs := [])
  have f_is_least : FAt K ("is_least" : Str) s_is_least [] := c.f 36 36 (dvs := [])
  have f_least_ray : FAt K ("least_ray" : Str) s_least_ray [] := c.f 37 37 (dvs := [])
  have f_next_around : FAt K ("next_around" : Str) s_next_around [] := c.f 38 38 (dvs := [])
  have f_corners : FAt K ("corners" : Str) s_corners [] := c.f 39 39 (dvs := [])
  have f_l_ahead : FAt K ("_law_ahead" : Str) s_l_ahead [] := c.f 40 40 (dvs := [])
  have f_l_around : FAt K ("_law_around" : Str) s_l_around [] := c.f 41 41 (dvs := [])
  have f_law : FAt K ("law" : Str) s_law [] := c.f 42 42 (dvs := [])
  exact Rg.law_end (ps := P_law) X G hfa f_law (fun _ _ _ _ _ _ _ => rfl) rfl fun base _ _ => law_ok (P := PySem.Challenge.rw_roundglass_k23_corners_told.prog) (w := w) (base := base) (xv := (xvK K)) X G ⟨He.free_ok X G (c.d.fact 43 (f := .free ("abs" : Str)) rfl), He.free_ok X G (c.d.fact 44 (f := .free ("all" : Str)) rfl), He.free_ok X G (c.d.fact 45 (f := .free ("bool" : Str)) rfl), He.free_ok X G (c.d.fact 46 (f := .free ("enumerate" : Str)) rfl), He.free_ok X G (c.d.fact 47 (f := .free ("int" : Str)) rfl), He.free_ok X G (c.d.fact 48 (f := .free ("isinstance" : Str)) rfl), He.free_ok X G (c.d.fact 49 (f := .free ("len" : Str)) rfl), He.free_ok X G (c.d.fact 50 (f := .free ("list" : Str)) rfl), He.free_ok X G (c.d.fact 51 (f := .free ("max" : Str)) rfl), He.free_ok X G (c.d.fact 52 (f := .free ("min" : Str)) rfl), He.free_ok X G (c.d.fact 53 (f := .free ("range" : Str)) rfl), He.free_ok X G (c.d.fact 54 (f := .free ("tuple" : Str)) rfl), He.free_ok X G (c.d.fact 55 (f := .free ("zip" : Str)) rfl)⟩ ⟨f_l_cells, f_l_pool, f_l_next, f_l_low, f_l_wide, f_l_number, f_l_line, f_l_taken, f_l_sum, f_l_lines, f_l_back, f_l_less, f_l_cross, f_l_met, f_l_below, f_l_bare, f_l_worth, f_l_lets, f_l_due, f_is_whole, f_divisor, f_ratio, f_minus, f_times, f_cross, f_over, f_by_two, f_negative, f_less, f_size, f_plus, f_summed, f_lets_by, f_lets, f_opposite, f_met_by_two, f_is_least, f_least_ray, f_next_around, f_corners, f_l_ahead, f_l_around, f_law⟩
end K23
open PySem PySem.W PySem.Calls PyProof.Rows
set_option maxHeartbeats 0 in
theorem PySem.Challenge.cw_roundglass_k23_corners_told_holds : PySem.Challenge.rw_roundglass_k23_corners_told.Holds := by
  w_on; o_law
  refine HandSHeadRun.head_any (r := OpenLaw.row PySem.Challenge.rw_roundglass_k23_corners_told) (q := view (OpenLaw.row PySem.Challenge.rw_roundglass_k23_corners_told).prog [50]) (H := K23.hk) (ob := K23.ob) (M := 20000) (loose := K23.loose) (d := HandSHeadRun.topDef (OpenLaw.row PySem.Challenge.rw_roundglass_k23_corners_told).prog 50) (kwd := []) K23.ob_eq
    (by kernel_rfl) (fun s => by kernel_rfl) K23.run (by kernel_rfl) (by kernel_rfl) (by kernel_rfl) (by rfl) (by first | assumption | decide +kernel) (by decide +kernel) ⟨rfl, rfl, rfl, rfl, rfl, by decide +kernel⟩ ?hw ?hc
  case hw => w_witness2
  case hc =>
    refine Rg.walk_ofR (l := PySem.Challenge.rw_roundglass_k23_corners_told) (n := 63) (k := 9) (x := "script") (CX := fun w => L2.CX PySem.Challenge.rw_roundglass_k23_corners_told.prog w) rfl (by decide) (by kernel_rfl) ⟨rfl, by decide, by decide⟩ ?F (fun w H s e s' z => Rg.cx_no z)
    intro w mg fa h Y G hmg0
    obtain ⟨K, KX, c⟩ := Y
    have hmg : mg ("law" : PySem.Str) = some (.ref fa) := by
      have e : (HandSHeadRun.topDef (OpenLaw.row PySem.Challenge.rw_roundglass_k23_corners_told).prog 50).name = ("law" : PySem.Str) := by kernel_rfl
      rw [← e]
      exact hmg0
    obtain ⟨fd, hb, hF⟩ := K23.facts (w := w) KX G hmg c
    exact ⟨K, fd, Rg.SpOf K (Rg.xvK K) Rg.m_law_k23, KX, hb, fun H a ns hl hbits hO hS => (K23.law_true ns hl hbits).elim fun S hS2 => Rg.law_sp hO hS S hS2, hF⟩

