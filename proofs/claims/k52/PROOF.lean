import PyProof.Rows.All
import Wide.All
import OpenK.AllK
import Wide.FinOn
import HandS.ForMost
import HandS.ForExc
import HandS.Wide
import HandS.WideBits
import HandS.IsInst
import HandS.Walk
import HandS.Deep
import HandS.Flow
import HandS.TupAny
import HandS.Style
import HandS.Rev
import HandS.Zip
import HandS.EndBits
import HandS.More
import HandS.HeadHook1
import KE.KDictKeyed
import KE.KeyNested
import HandS.CallSlots
import HandS.Defaults
import HandS.ExcCtx
import HandS.WordsExc
import KE.GoesEnum
import HandS.SetFor
import KE.KDictList
import KE.KStateDown
import HandS.Head0
import HandS.Head1
import HandS.Head2
import HandS.HeadHook2
import HandS.HeadHook3
import HandS.HeadEnd
import HandS.ExcIs
import HandS.RevRange
import HandS.Text
import HandS.RevTup
import HandS.Strs
import KE.SortData
import HandS.Steps
import KE.KIntText
import PyProof.Rows.StrOr
import KE.GoesComp
import KE.GoesRaise
import HandS.TupMul
import HandS.SuiteRaise
import HandS.StrMore
import KE.GoesMore
import KE.KDictZip
import PyProof.MaxThree
import PyProof.MinMaxWalk
import KE.KEqDict
import HandS.TupLen
import HandS.Iter
import HandS.Conv
import HandS.ExcValue
import KE.KDictDisplayH
import KE.KDictSum
import PyProof.DictTable
import PySem.Challenge.RW_roundglass_k52_whole_all_short_rows
set_option Elab.async false
set_option linter.all false
set_option maxRecDepth 100000
set_option maxHeartbeats 4000000
namespace Rg
open PySem PySem.Spec PyProof.Rows L2
inductive D where
  | non | bl (b : Bool) | int (i : Int) | str (s : Str) | tup (l : List D) | ref (n : Nat)
inductive Cell where
  | lst (l : List D) | fro (l : List D) | dct | ins (C : Str) (fs : List (Str × D)) | xcp (x : Str) | dn (ks : List D) | dm (ks : List D) (vs : List Int) | df (ks : List D) (vs : List Int)
abbrev Store := List Cell
inductive Res (A : Type) where
  | ok (a : A) (S : Store) | exc (c : Str) (S : Store) | bad
def Res.bind {A B : Type} (r : Res A) (f : A → Store → Res B) : Res B := match r with
  | .ok a S => f a S
  | .exc c S => .exc c S
  | .bad => .bad
@[simp] theorem bind_ok {A B : Type} (a : A) (S : Store) (f : A → Store → Res B) : (Res.ok a S).bind f = f a S := rfl
@[simp] theorem bind_exc {A B : Type} (c : Str) (S : Store) (f : A → Store → Res B) : (Res.exc c S).bind f = .exc c S := rfl
@[simp] theorem bind_bad {A B : Type} (f : A → Store → Res B) : (Res.bad).bind f = .bad := rfl
abbrev Env := List (Option D)
abbrev SE := Env → Store → Res D
abbrev SA := Env → Store → Res (List D)
abbrev ST := Env → Store → Res Bool
mutual
def RV (K : PySem.W.Frag) (H : Hp) (p : List Addr) : D → V → Prop
  | .non, v => v = .non
  | .bl b, v => v = .bl b
  | .int i, v => v = .int i
  | .str s, v => v = .str s
  | .tup l, v => ∃ a xs, v = .ref a ∧ SqT K H a xs ∧ RVs K H p l xs
  | .ref n, v => ∃ a, v = .ref a ∧ p[n]? = some a
def RVs (K : PySem.W.Frag) (H : Hp) (p : List Addr) : List D → List V → Prop
  | [], xs => xs = []
  | d :: l, xs => ∃ x r, xs = x :: r ∧ RV K H p d x ∧ RVs K H p l r
end
structure Ext (K : PySem.W.Frag) (H H' : Hp) (p p' : List Addr) : Prop where
  pre : ∀ (n : Nat) (a : Addr), p[n]? = some a → p'[n]? = some a
  tup : ∀ a xs, SqT K H a xs → SqT K H' a xs
  frz : ∀ a o u, H a = some (.frz o u) → H' a = some (.frz o u)
theorem Ext.refl {K : PySem.W.Frag} {H : Hp} {p : List Addr} : Ext K H H p p := ⟨fun _ _ h => h, fun _ _ h => h, fun _ _ _ h => h⟩
def exO (a : Addr) (cls : Value) (d : Option Addr) : HO := .ext fun h => ∃ oe : Obj, h.get? a = some oe ∧ Zc cls d oe ∧ ∃ vs, oe.data = .fields vs
def keyD : D → Option NestedKey
  | .int i => some (.num i)
  | .tup l => (keyDs l).map .tup
  | _ => none
where keyDs : List D → Option (List NestedKey)
  | [] => some []
  | d :: l => match keyD d, keyDs l with
    | some k, some ks => some (k :: ks)
    | _, _ => none
open Classical in
noncomputable def hashN (k : NestedKey) : Int := if h : ∃ n, ∀ w, k.hash w = n then h.choose else 0
def DNo (a : Addr) (xs : List (NestedKey × Addr × Value)) : HO := .ext fun h => (∃ o es ep, h.get? a = some o ∧ o.ExactDict ∧ o.data = .dict es ep ∧ es.toList = xs.map fun x => (⟨hashN x.1, .ref x.2.1, x.2.2⟩ : DictEntry)) ∧ (xs.map (·.1)).Nodup ∧ xs.length ≤ sizeLine ∧ (a == sysModules) = false ∧ ∀ x ∈ xs, ∀ w, x.1.hash w = hashN x.1
def valI : Value → Option Int
  | .int i _ => some i
  | _ => none
theorem Ext.trans {K : PySem.W.Frag} {H H1 H2 : Hp} {p p1 p2 : List Addr} (a : Ext K H H1 p p1) (b : Ext K H1 H2 p1 p2) : Ext K H H2 p p2 :=
  ⟨fun n x h => b.pre n x (a.pre n x h), fun x xs h => b.tup x xs (a.tup x xs h), fun x o u h => b.frz x o u (a.frz x o u h)⟩
mutual
theorem RV.mono {K : PySem.W.Frag} {H H' : Hp} {p p' : List Addr} (e : Ext K H H' p p') : ∀ (d : D) (v : V), RV K H p d v → RV K H' p' d v
  | .non, _, h => by unfold RV at h ⊢; exact h
  | .bl _, _, h => by unfold RV at h ⊢; exact h
  | .int _, _, h => by unfold RV at h ⊢; exact h
  | .str _, _, h => by unfold RV at h ⊢; exact h
  | .tup l, _, h => by
    unfold RV at h ⊢
    obtain ⟨a, xs, h1, h2, h3⟩ := h
    exact ⟨a, xs, h1, e.tup _ _ h2, RVs.mono e l xs h3⟩
  | .ref _, _, h => by
    unfold RV at h ⊢
    obtain ⟨a, h1, h2⟩ := h
    exact ⟨a, h1, e.pre _ _ h2⟩
theorem RVs.mono {K : PySem.W.Frag} {H H' : Hp} {p p' : List Addr} (e : Ext K H H' p p') : ∀ (l : List D) (xs : List V), RVs K H p l xs → RVs K H' p' l xs
  | [], _, h => by unfold RVs at h ⊢; exact h
  | d :: l, _, h => by
    unfold RVs at h ⊢
    obtain ⟨x, r, h1, h2, h3⟩ := h
    exact ⟨x, r, h1, RV.mono e d x h2, RVs.mono e l r h3⟩
end
section
variable {K : PySem.W.Frag} {H : Hp} {p : List Addr}
theorem RV.non_iff {v : V} : RV K H p .non v ↔ v = .non := by unfold RV; exact Iff.rfl
theorem RV.bl_iff {b : Bool} {v : V} : RV K H p (.bl b) v ↔ v = .bl b := by unfold RV; exact Iff.rfl
theorem RV.int_iff {i : Int} {v : V} : RV K H p (.int i) v ↔ v = .int i := by unfold RV; exact Iff.rfl
theorem RV.str_iff {s : Str} {v : V} : RV K H p (.str s) v ↔ v = .str s := by unfold RV; exact Iff.rfl
theorem RV.tup_iff {l : List D} {v : V} : RV K H p (.tup l) v ↔ ∃ a xs, v = .ref a ∧ SqT K H a xs ∧ RVs K H p l xs := by
  conv => lhs; unfold RV
theorem RV.ref_iff {n : Nat} {v : V} : RV K H p (.ref n) v ↔ ∃ a, v = .ref a ∧ p[n]? = some a := by
  conv => lhs; unfold RV
theorem RVs.nil_iff {xs : List V} : RVs K H p [] xs ↔ xs = [] := by unfold RVs; exact Iff.rfl
theorem RVs.cons_iff {d : D} {l : List D} {xs : List V} : RVs K H p (d :: l) xs ↔ ∃ x r, xs = x :: r ∧ RV K H p d x ∧ RVs K H p l r := by
  conv => lhs; unfold RVs
theorem RVs.nil : RVs K H p [] [] := RVs.nil_iff.mpr rfl
theorem RVs.cons {d : D} {l : List D} {x : V} {r : List V} (a : RV K H p d x) (b : RVs K H p l r) : RVs K H p (d :: l) (x :: r) := RVs.cons_iff.mpr ⟨x, r, rfl, a, b⟩
theorem RVs.len : ∀ {l : List D} {xs : List V}, RVs K H p l xs → l.length = xs.length
  | [], _, h => by rw [RVs.nil_iff] at h; subst h; rfl
  | d :: l, _, h => by
    obtain ⟨x, r, rfl, _, h3⟩ := RVs.cons_iff.mp h
    simp [RVs.len h3]
theorem RVs.get : ∀ {l : List D} {xs : List V} {i : Nat} {d : D}, RVs K H p l xs → l[i]? = some d → ∃ x, xs[i]? = some x ∧ RV K H p d x
  | [], _, _, _, _, e => by simp at e
  | d :: l, _, 0, d', h, e => by
    obtain ⟨x, r, rfl, h2, _⟩ := RVs.cons_iff.mp h
    simp at e
    subst e
    exact ⟨x, rfl, h2⟩
  | d :: l, _, i + 1, d', h, e => by
    obtain ⟨x, r, rfl, _, h3⟩ := RVs.cons_iff.mp h
    obtain ⟨y, e1, e2⟩ := RVs.get (i := i) (d := d') h3 (by simpa using e)
    exact ⟨y, by simpa using e1, e2⟩
theorem RVs.get' : ∀ {l : List D} {xs : List V} {i : Nat} {x : V}, RVs K H p l xs → xs[i]? = some x → ∃ d, l[i]? = some d ∧ RV K H p d x := fun {l xs i x} h e => by
  have hl := h.len
  have hi : i < l.length := by rw [hl]; exact (List.getElem?_eq_some_iff.mp e).1
  obtain ⟨y, e1, e2⟩ := h.get (d := l[i]) (i := i) (by simp [hi])
  rw [e] at e1
  cases e1
  exact ⟨_, by simp [hi], e2⟩
theorem RVs.app : ∀ {l l' : List D} {xs ys : List V}, RVs K H p l xs → RVs K H p l' ys → RVs K H p (l ++ l') (xs ++ ys)
  | [], _, _, _, h, h' => by rw [RVs.nil_iff] at h; subst h; exact h'
  | d :: l, _, _, _, h, h' => by
    obtain ⟨x, r, rfl, h2, h3⟩ := RVs.cons_iff.mp h
    exact RVs.cons h2 (RVs.app h3 h')
theorem RVs.set : ∀ {l : List D} {xs : List V} (i : Nat) {d : D} {x : V}, RVs K H p l xs → RV K H p d x → RVs K H p (l.set i d) (xs.set i x)
  | [], _, _, _, _, h, _ => by rw [RVs.nil_iff] at h; subst h; exact RVs.nil
  | d :: l, _, 0, d', x', h, q => by
    obtain ⟨x, r, rfl, _, h3⟩ := RVs.cons_iff.mp h
    exact RVs.cons q h3
  | d :: l, _, i + 1, d', x', h, q => by
    obtain ⟨x, r, rfl, h2, h3⟩ := RVs.cons_iff.mp h
    exact RVs.cons h2 (RVs.set i h3 q)
theorem RVs.take : ∀ {l : List D} {xs : List V} (n : Nat), RVs K H p l xs → RVs K H p (l.take n) (xs.take n)
  | _, _, 0, _ => RVs.nil
  | [], _, n + 1, h => by rw [RVs.nil_iff] at h; subst h; exact RVs.nil
  | d :: l, _, n + 1, h => by
    obtain ⟨x, r, rfl, h2, h3⟩ := RVs.cons_iff.mp h
    exact RVs.cons h2 (RVs.take n h3)
theorem RVs.drop : ∀ {l : List D} {xs : List V} (n : Nat), RVs K H p l xs → RVs K H p (l.drop n) (xs.drop n)
  | _, _, 0, h => h
  | [], _, n + 1, h => by rw [RVs.nil_iff] at h; subst h; exact RVs.nil
  | d :: l, _, n + 1, h => by
    obtain ⟨x, r, rfl, h2, h3⟩ := RVs.cons_iff.mp h
    exact RVs.drop n h3
theorem RVs.rev : ∀ {l : List D} {xs : List V}, RVs K H p l xs → RVs K H p l.reverse xs.reverse
  | [], _, h => by rw [RVs.nil_iff] at h; subst h; exact RVs.nil
  | d :: l, _, h => by
    obtain ⟨x, r, rfl, h2, h3⟩ := RVs.cons_iff.mp h
    rw [List.reverse_cons, List.reverse_cons]
    exact RVs.app (RVs.rev h3) (RVs.cons h2 RVs.nil)
theorem RVs.all_int : ∀ {ns : List Int} {xs : List V}, RVs K H p (ns.map D.int) xs → xs = ns.map V.int
  | [], _, h => RVs.nil_iff.mp h
  | n :: ns, _, h => by
    obtain ⟨x, r, rfl, h2, h3⟩ := RVs.cons_iff.mp h
    rw [RV.int_iff] at h2
    rw [List.map_cons, RVs.all_int h3, h2]
end
def FroX (K : PySem.W.Frag) (H : Hp) (a : Addr) (xs : List V) : Prop :=
  (∃ o, H a = some (.frz o (.lst xs))) ∨ ∃ (o : Obj) (its : Array Value) (n : Nat), K.lookup a = some o ∧ o.cls = .type "list" ∧ o.dict = none ∧ o.data = .seq its n ∧ its.size ≤ sizeLine ∧ Vals xs its.toList
theorem FroX.sql {K : PySem.W.Frag} {H : Hp} {a : Addr} {xs : List V} (h : FroX K H a xs) : SqL K H a xs := by
  rcases h with ⟨o, h⟩ | h
  · exact .inl (.inr ⟨o, h⟩)
  · exact .inr h
def RFs (K : PySem.W.Frag) (H : Hp) (p : List Addr) (fs : List (Str × D)) (vs : List (Str × V)) : Prop := fs.map (·.1) = vs.map (·.1) ∧ RVs K H p (fs.map (·.2)) (vs.map (·.2))
def RC (K : PySem.W.Frag) (H : Hp) (p : List Addr) (a : Addr) : Cell → Prop
  | .lst l => ∃ xs, H a = some (.lst xs) ∧ RVs K H p l xs
  | .fro l => ∃ xs, FroX K H a xs ∧ RVs K H p l xs
  | .dct => ∃ kvs, H a = some (.dK kvs)
  | .ins C fs => ∃ dx vs, H a = some (.ins (He.ga K C) dx vs) ∧ RFs K H p fs vs
  | .xcp x => H a = some (exO a (.ref (He.ga K x)) none)
  | .dn ks => ∃ xs : List (NestedKey × Addr × Value), H a = some (DNo a xs) ∧ RVs K H p ks (xs.map fun x => V.ref x.2.1) ∧ ks.map keyD = xs.map fun x => some x.1
  | .dm ks vs => ∃ xs : List (NestedKey × Addr × Value), H a = some (DNo a xs) ∧ RVs K H p ks (xs.map fun x => V.ref x.2.1) ∧ (ks.map keyD = xs.map fun x => some x.1) ∧ (xs.map fun x => valI x.2.2) = vs.map some
  | .df ks vs => ∃ xs : List (NestedKey × Addr × Value), (∃ od, H a = some (.frz od (DNo a xs))) ∧ RVs K H p ks (xs.map fun x => V.ref x.2.1) ∧ (ks.map keyD = xs.map fun x => some x.1) ∧ (xs.map fun x => valI x.2.2) = vs.map some
def Cell.mut : Cell → Bool
  | .lst _ => true
  | .ins _ _ => true
  | .dn _ => true
  | .dm _ _ => true
  | _ => false
structure RSt (K : PySem.W.Frag) (H : Hp) (p : List Addr) (S : Store) : Prop where
  len : p.length = S.length
  cell : ∀ (n : Nat) (c : Cell) (a : Addr), S[n]? = some c → p[n]? = some a → RC K H p a c
  inj : ∀ (m n : Nat) (a : Addr) (c c' : Cell), S[m]? = some c → S[n]? = some c' → c.mut = true → c'.mut = true → p[m]? = some a → p[n]? = some a → m = n
theorem ext_same {K : PySem.W.Frag} {H H' : Hp} {p : List Addr} (s : Same H H') : Ext K H H' p p := by
  refine ⟨fun _ _ h => h, fun a xs h => ?_, fun a o u h => s _ _ h⟩
  rcases h with (h | ⟨o, h⟩) | h
  · exact .inl (.inl (s _ _ h))
  · exact .inl (.inr ⟨o, s _ _ h⟩)
  · exact .inr h
theorem RFs.mono {K : PySem.W.Frag} {H H' : Hp} {p p' : List Addr} (e : Ext K H H' p p') {fs : List (Str × D)} {vs : List (Str × V)} (h : RFs K H p fs vs) : RFs K H' p' fs vs := ⟨h.1, RVs.mono e _ _ h.2⟩
theorem RC.stay {K : PySem.W.Frag} {H H' : Hp} {p p' : List Addr} {a : Addr} {c : Cell} (e : Ext K H H' p p') (k : ∀ o, H a = some o → (∀ xs, o ≠ .tup xs) → H' a = some o) (h : RC K H p a c) : RC K H' p' a c := by
  cases c with
  | lst l =>
    obtain ⟨xs, h1, h2⟩ := h
    exact ⟨xs, k _ h1 (fun _ z => by cases z), RVs.mono e _ _ h2⟩
  | fro l =>
    obtain ⟨xs, h1, h2⟩ := h
    refine ⟨xs, ?_, RVs.mono e _ _ h2⟩
    rcases h1 with ⟨o, h1⟩ | h1
    · exact .inl ⟨o, k _ h1 (fun _ z => by cases z)⟩
    · exact .inr h1
  | dct =>
    obtain ⟨kvs, h1⟩ := h
    exact ⟨kvs, k _ h1 (fun _ z => by cases z)⟩
  | ins C fs =>
    obtain ⟨dx, vs, h1, h2⟩ := h
    exact ⟨dx, vs, k _ h1 (fun _ z => by cases z), h2.mono e⟩
  | xcp x => exact k _ h (fun _ z => by cases z)
  | dn ks =>
    obtain ⟨xs, h1, h2, h3⟩ := h
    exact ⟨xs, k _ h1 (fun _ z => by unfold DNo at z; cases z), RVs.mono e _ _ h2, h3⟩
  | dm ks vs =>
    obtain ⟨xs, h1, h2, h3⟩ := h
    exact ⟨xs, k _ h1 (fun _ z => by unfold DNo at z; cases z), RVs.mono e _ _ h2, h3⟩
  | df ks vs =>
    obtain ⟨xs, ⟨od, h1⟩, h2, h3⟩ := h
    exact ⟨xs, ⟨od, k _ h1 (fun _ z => by cases z)⟩, RVs.mono e _ _ h2, h3⟩
theorem RSt.same {K : PySem.W.Frag} {H H' : Hp} {p : List Addr} {S : Store} (s : Same H H') (R : RSt K H p S) : RSt K H' p S :=
  ⟨R.len, fun n c a e1 e2 => (R.cell n c a e1 e2).stay (ext_same s) fun o h _ => s _ _ h, R.inj⟩
theorem same_new {H : Hp} {q : Addr} {o : HO} (h : H q = none) : Same H (upd H q o) := fun b x e => by
  rw [upd_ne (ne_of_none e h)]
  exact e
theorem RC.there {K : PySem.W.Frag} {H : Hp} {p : List Addr} {a : Addr} {c : Cell} (h : RC K H p a c) (m : c.mut = true) : ∃ o, H a = some o ∧ Mut (some o) := by
  cases c with
  | lst l => obtain ⟨xs, h1, _⟩ := h; exact ⟨_, h1, trivial⟩
  | fro l => cases m
  | dct => cases m
  | ins C fs => obtain ⟨dx, vs, h1, _⟩ := h; exact ⟨_, h1, trivial⟩
  | xcp x => cases m
  | dn ks => obtain ⟨xs, h1, _⟩ := h; exact ⟨_, h1, trivial⟩
  | dm ks vs => obtain ⟨xs, h1, _⟩ := h; exact ⟨_, h1, trivial⟩
  | df ks vs => cases m
theorem RSt.push {K : PySem.W.Frag} {H : Hp} {p : List Addr} {S : Store} {q : Addr} {o : HO} {c : Cell} (R : RSt K H p S) (h : H q = none) (r : RC K (upd H q o) (p ++ [q]) q c) :
    Ext K H (upd H q o) p (p ++ [q]) ∧ RSt K (upd H q o) (p ++ [q]) (S ++ [c]) ∧ (p ++ [q])[S.length]? = some q := by
  have s : Same H (upd H q o) := same_new h
  have pre : ∀ n a, p[n]? = some a → (p ++ [q])[n]? = some a := fun n a e => by
    have hn := (List.getElem?_eq_some_iff.mp e).1
    rw [List.getElem?_append_left hn]
    exact e
  have E : Ext K H (upd H q o) p (p ++ [q]) := ⟨pre, (ext_same (p := p) s).tup, (ext_same (K := K) (p := p) s).frz⟩
  have qn : (p ++ [q])[S.length]? = some q := by
    rw [← R.len, List.getElem?_append_right (Nat.le_refl _)]
    simp
  have old : ∀ n c', (S ++ [c])[n]? = some c' → (n < S.length ∧ S[n]? = some c') ∨ (n = S.length ∧ c' = c) := fun n c' e => by
    rcases Nat.lt_or_ge n S.length with hn | hn
    · rw [List.getElem?_append_left hn] at e
      exact .inl ⟨hn, e⟩
    · rw [List.getElem?_append_right hn] at e
      have : n - S.length = 0 := by
        have := (List.getElem?_eq_some_iff.mp e).1
        simp at this
        omega
      rw [this] at e
      simp at e
      exact .inr ⟨by omega, e.symm⟩
  have oldp : ∀ n a, n < S.length → (p ++ [q])[n]? = some a → p[n]? = some a := fun n a hn e => by
    rw [List.getElem?_append_left (by rw [R.len]; exact hn)] at e
    exact e
  refine ⟨E, ⟨by simp [R.len], fun n c' a e1 e2 => ?_, fun m n a l1 l2 e1 e2 m1 m2 e3 e4 => ?_⟩, qn⟩
  · rcases old n c' e1 with ⟨hn, e⟩ | ⟨rfl, rfl⟩
    · exact (R.cell n c' a e (oldp n a hn e2)).stay E fun o h _ => s _ _ h
    · rw [qn] at e2
      cases e2
      exact r
  · rcases old m _ e1 with ⟨hm, q1⟩ | ⟨rfl, q1⟩ <;> rcases old n _ e2 with ⟨hn, q2⟩ | ⟨rfl, q2⟩
    · exact R.inj m n a l1 l2 q1 q2 m1 m2 (oldp m a hm e3) (oldp n a hn e4)
    · rw [qn] at e4
      cases e4
      obtain ⟨ys, h1, _⟩ := (R.cell m _ _ q1 (oldp m _ hm e3)).there m1
      rw [h] at h1
      cases h1
    · rw [qn] at e3
      cases e3
      obtain ⟨ys, h1, _⟩ := (R.cell n _ _ q2 (oldp n _ hn e4)).there m2
      rw [h] at h1
      cases h1
    · rfl
theorem RSt.writeX {K : PySem.W.Frag} {H : Hp} {p : List Addr} {S : Store} {n : Nat} {a : Addr} {o o0 : HO} {c c0 : Cell} (R : RSt K H p S) (hS : S[n]? = some c0) (m0 : c0.mut = true) (hp : p[n]? = some a) (r : RC K (upd H a o) p a c)
    (h0 : H a = some o0) (nt : ∀ xs, o0 ≠ .tup xs) (nf : ∀ ob xs, o0 ≠ .frz ob xs) (nd : ∀ kvs, o0 ≠ .dK kvs) (nx : ∀ cls, o0 ≠ exO a cls none := by intro _ z; unfold exO at z; cases z) :
    Ext K H (upd H a o) p p ∧ RSt K (upd H a o) p (S.set n c) := by
  have hfz : ∀ b ob u, H b = some (.frz ob u) → upd H a o b = some (.frz ob u) := fun b ob u h => by
    rw [upd_ne (fun e => by subst e; rw [h0] at h; cases h; exact nf _ _ rfl)]
    exact h
  have E : Ext K H (upd H a o) p p := by
    refine ⟨fun _ _ h => h, fun b ys h => ?_, hfz⟩
    rcases h with (h | ⟨ob, h⟩) | h
    · have hb : b ≠ a := fun e => by
        subst e
        rw [h0] at h
        cases h
        exact nt _ rfl
      exact .inl (.inl (by rw [upd_ne hb]; exact h))
    · have hb : b ≠ a := fun e => by
        subst e
        rw [h0] at h
        cases h
        exact nf _ _ rfl
      exact .inl (.inr ⟨ob, by rw [upd_ne hb]; exact h⟩)
    · exact .inr h
  have hn : n < S.length := (List.getElem?_eq_some_iff.mp hS).1
  refine ⟨E, ⟨by simp [R.len], fun m c' b e1 e2 => ?_, fun m k b l1 l2 e1 e2 m1 m2 e3 e4 => ?_⟩⟩
  · by_cases hm : m = n
    · subst hm
      rw [List.getElem?_set_self hn] at e1
      cases e1
      rw [hp] at e2
      cases e2
      exact r
    · rw [List.getElem?_set_ne (Ne.symm hm)] at e1
      have rc := R.cell m c' b e1 e2
      by_cases hb : b = a
      · subst hb
        cases hc : c'.mut with
        | true => exact absurd (R.inj m n b _ _ e1 hS hc m0 e2 hp) hm
        | false =>
          cases c' with
          | lst l => cases hc
          | ins C fs => cases hc
          | dn ks => cases hc
          | dm ks vs => cases hc
          | df ks vs =>
            obtain ⟨xs, ⟨od, h1⟩, h2, h3⟩ := rc
            obtain ⟨o', g1, g2⟩ := (R.cell n _ b hS hp).there m0
            rw [h1] at g1
            cases g1
            exact g2.elim
          | fro l =>
            obtain ⟨xs, h1, h2⟩ := rc
            rcases h1 with ⟨ob, h1⟩ | h1
            · rw [h0] at h1
              cases h1
              exact absurd rfl (nf _ _)
            · exact ⟨xs, .inr h1, RVs.mono E _ _ h2⟩
          | dct =>
            obtain ⟨kvs, h1⟩ := rc
            rw [h0] at h1
            cases h1
            exact absurd rfl (nd _)
          | xcp x =>
            have h1 : H b = some (exO b (.ref (He.ga K x)) none) := rc
            rw [h0] at h1
            exact absurd (Option.some.inj h1) (nx _)
      · exact rc.stay E fun o' h' n' => by
          rw [upd_ne hb]
          exact h'
  · have g : ∀ (j : Nat) (l' : Cell), (S.set n c)[j]? = some l' → l'.mut = true → ∃ l'' : Cell, S[j]? = some l'' ∧ l''.mut = true := fun j l' e mm => by
      by_cases hj : j = n
      · subst hj
        exact ⟨_, hS, m0⟩
      · rw [List.getElem?_set_ne (Ne.symm hj)] at e
        exact ⟨_, e, mm⟩
    obtain ⟨l1', q1, n1⟩ := g m l1 e1 m1
    obtain ⟨l2', q2, n2⟩ := g k l2 e2 m2
    exact R.inj m k b _ _ q1 q2 n1 n2 e3 e4
theorem RSt.write {K : PySem.W.Frag} {H : Hp} {p : List Addr} {S : Store} {n : Nat} {a : Addr} {o o0 : HO} {c c0 : Cell} (R : RSt K H p S) (hS : S[n]? = some c0) (m0 : c0.mut = true) (mc : c.mut = true) (hp : p[n]? = some a) (r : RC K (upd H a o) p a c)
    (h0 : H a = some o0) (nt : ∀ xs, o0 ≠ .tup xs) (nf : ∀ ob xs, o0 ≠ .frz ob xs) (nd : ∀ kvs, o0 ≠ .dK kvs) (nx : ∀ cls, o0 ≠ exO a cls none := by intro _ z; unfold exO at z; cases z) :
    Ext K H (upd H a o) p p ∧ RSt K (upd H a o) p (S.set n c) := R.writeX hS m0 hp r h0 nt nf nd nx
end Rg
namespace Rg
open PySem PySem.Spec PyProof.Rows L2
structure XV where
  v : Str → Value
  nn : Bool
instance : CoeFun XV (fun _ => Str → Value) := ⟨XV.v⟩
structure Gx where
  xv : XV
  W : WX
def CXn : Bool → Program → World → CXT
  | true => L2N.CX
  | false => L2.CX
def TakesN : Bool → Cx → WX → Prop
  | true => L2N.Takes
  | false => L2.Takes
theorem takesN_0 : ∀ {b : Bool} {X : Cx}, TakesN b X (fun _ _ _ _ => False)
  | true, _ => fun _ _ x => by
    obtain ⟨_, _, _, _, _, _, _, _, _, _, _, _, _, _, _, _, z⟩ := x
    exact z.elim
  | false, _ => takes0
theorem passN : ∀ {b : Bool} {X : Cx} {W : WX}, TakesN b X W → ∀ σ, PassesAt (CXn b X.prog X.w) X σ (WE W σ)
  | true, _, _, tk, σ => L2N.passAt tk σ
  | false, _, _, tk, σ => L2.passAt tk σ
theorem takesN_of : ∀ {b : Bool} {X : Cx} {E : XK} {E₁ : Value → Shared → Prop} (hs : X.stack = X.env :: X.outer) (hf : X.env.frame = some X.env.locals) (hex : X.ex = [])
    (hx : X.xe = fun e s' => wpAny (model X.prog X.w) X.A (leaving X.env e) (fun _ s'' => CXn b X.prog X.w X.outer X.H_0 X.s_0 E e s'') E₁ s'), TakesN b X (fun cls d _ H => E cls d H)
  | true, _, _, _, hs, hf, hex, hx => L2N.takes_of hs hf hex hx
  | false, _, _, _, hs, hf, hex, hx => L2.takes_of hs hf hex hx
structure Cok (X : Cx) (G : Gx) : Prop where
  tk : TakesN G.xv.nn X G.W
  po : PassesOwn (model X.prog X.w) X.A X.env X.xe
def Rs (K : PySem.W.Frag) (H : Hp) (p : List Addr) (env : Env) (σ : L2.St) : Prop := env.length = σ.length ∧ ∀ (i : Nat) (d : D), env[i]? = some (some d) → ∃ v, σ[i]? = some (some v) ∧ RV K H p d v
theorem Rs.mono {K : PySem.W.Frag} {H H' : Hp} {p p' : List Addr} {env : Env} {σ : L2.St} (e : Ext K H H' p p') (h : Rs K H p env σ) : Rs K H' p' env σ :=
  ⟨h.1, fun i d q => let ⟨v, a, b⟩ := h.2 i d q; ⟨v, a, RV.mono e _ _ b⟩⟩
theorem Rs.set {K : PySem.W.Frag} {H : Hp} {p : List Addr} {env : Env} {σ : L2.St} {d : D} {v : V} (i : Nat) (h : Rs K H p env σ) (r : RV K H p d v) : Rs K H p (env.set i (some d)) (σ.set i (some v)) := by
  refine ⟨by simp [h.1], fun j e q => ?_⟩
  by_cases hj : i = j
  · subst hj
    have hi : i < env.length := by
      have := (List.getElem?_eq_some_iff.mp q).1
      simpa using this
    rw [List.getElem?_set_self hi] at q
    cases q
    exact ⟨v, by rw [List.getElem?_set_self (by rw [← h.1]; exact hi)], r⟩
  · rw [List.getElem?_set_ne hj] at q
    obtain ⟨w, a, b⟩ := h.2 j e q
    exact ⟨w, by rw [List.getElem?_set_ne hj]; exact a, b⟩
def Good {A : Type} (K : PySem.W.Frag) (G : Gx) (σ : L2.St) (H : Hp) (p : List Addr) (r : Res A) (P : A → Store → Hp → List Addr → Prop) : Prop := match r with
  | .ok a S' => ∀ H' p', Ext K H H' p p' → RSt K H' p' S' → P a S' H' p'
  | .exc c S' => ∀ H' p', Ext K H H' p p' → RSt K H' p' S' → G.W (G.xv c) none σ H'
  | .bad => False
section
variable {K : PySem.W.Frag} {G : Gx} {σ : L2.St} {H H1 : Hp} {p p1 : List Addr}
theorem Good.at {A : Type} {r : Res A} {P : A → Store → Hp → List Addr → Prop} (e : Ext K H H1 p p1) (h : Good K G σ H p r P) : Good K G σ H1 p1 r P := by
  cases r with
  | ok a S => exact fun H' p' x => h H' p' (e.trans x)
  | exc c S => exact fun H' p' x => h H' p' (e.trans x)
  | bad => exact h
theorem Good.imp {A : Type} {r : Res A} {P P' : A → Store → Hp → List Addr → Prop} (h : Good K G σ H p r P) (hi : ∀ a S H' p', Ext K H H' p p' → RSt K H' p' S → P a S H' p' → P' a S H' p') : Good K G σ H p r P' := by
  cases r with
  | ok a S => exact fun H' p' x q => hi _ _ _ _ x q (h H' p' x q)
  | exc c S => exact h
  | bad => exact h
theorem Good.bind {A B : Type} {r : Res A} {f : A → Store → Res B} {P : B → Store → Hp → List Addr → Prop} (h : Good K G σ H p (r.bind f) P) : Good K G σ H p r fun a S1 H1 p1 => Good K G σ H1 p1 (f a S1) P := by
  cases r with
  | ok a S => exact fun H' p' x _ => Good.at x h
  | exc c S => exact h
  | bad => exact h
end
def PV (K : PySem.W.Frag) (Q : VK) : D → Store → Hp → List Addr → Prop := fun d _ H' p' => ∀ v, RV K H' p' d v → Q v H'
def TEo (K : PySem.W.Frag) (G : Gx) (s : SE) : TE := fun σ H Q => ∃ p env S, Rs K H p env σ ∧ RSt K H p S ∧ Good K G σ H p (s env S) (PV K Q)
def TTo (K : PySem.W.Frag) (G : Gx) (s : ST) : TT := fun σ H Q => ∃ p env S, Rs K H p env σ ∧ RSt K H p S ∧ Good K G σ H p (s env S) fun b _ H' _ => Q b H'
def TAo (K : PySem.W.Frag) (G : Gx) (s : SA) : TA := fun σ H Q => ∃ p env S, Rs K H p env σ ∧ RSt K H p S ∧ Good K G σ H p (s env S) fun ds _ H' p' => ∀ vs, RVs K H' p' ds vs → Q vs H'
def ME (X : Cx) (G : Gx) (e : Expr) (s : SE) : Prop := Cok X G → PE X e (TEo X.K G s)
def MT (X : Cx) (G : Gx) (e : Expr) (s : ST) : Prop := Cok X G → PT X e (TTo X.K G s)
def MW (X : Cx) (G : Gx) (e : Expr) (s : ST) : Prop := Cok X G → PW X e (TTo X.K G s)
def MA (X : Cx) (G : Gx) (es : List Expr) (s : SA) : Prop := Cok X G → PA X es (TAo X.K G s)
section
variable {X : Cx} {G : Gx} {e a b c : Expr} {pos : Pos}
theorem pe_imp {t t' : TE} (h : PE X e t) (hi : ∀ σ H Q, t' σ H Q → t σ H Q) : PE X e t' := ⟨fun pins s σ H Q I q => h.run pins s σ H Q I (hi _ _ _ q)⟩
theorem pt_imp {t t' : TT} (h : PT X e t) (hi : ∀ σ H Q, t' σ H Q → t σ H Q) : PT X e t' := ⟨fun pins s σ H Q I q => h.run pins s σ H Q I (hi _ _ _ q)⟩
theorem pw_imp {t t' : TT} (h : PW X e t) (hi : ∀ σ H Q, t' σ H Q → t σ H Q) : PW X e t' := ⟨fun w pins s σ H Q I q => h.run w pins s σ H Q I (hi _ _ _ q)⟩
theorem pa_imp {es : List Expr} {t t' : TA} (h : PA X es t) (hi : ∀ σ H Q, t' σ H Q → t σ H Q) : PA X es t' := ⟨fun po pins s σ H Q I q => h.run po pins s σ H Q I (hi _ _ _ q)⟩
def sVar (i : Nat) : SE := fun env S => match env[i]? with
  | some (some d) => .ok d S
  | _ => .bad
def sC (d : D) : SE := fun _ S => .ok d S
theorem me_var (i : Nat) {x : Str} (hN : X.N[i]? = some x := by rfl) (hv : Vis X.env.scope x := by first | exact Or.inl rfl | exact Or.inr (Or.inl rfl) | exact Or.inr (Or.inr rfl)) (hd : (x == ("__debug__" : Str)) = false := by decide)
    (hcd : (x == ("__classdict__" : Str)) = false := by decide) : ME X G (.Name x pos) (sVar i) := fun _ => by
  refine pe_imp (pe_var hN hv hd hcd) fun σ H Q h => ?_
  obtain ⟨p, env, S, rs, rst, g⟩ := h
  unfold sVar at g
  split at g
  · rename_i d hd
    obtain ⟨v, e1, e2⟩ := rs.2 _ _ hd
    exact ⟨v, e1, g H p .refl rst v e2⟩
  · exact g.elim
theorem me_c {d : D} {v : V} (h : PE X e (tC v)) (r : ∀ H p, RV X.K H p d v) : ME X G e (sC d) := fun _ => by
  refine pe_imp h fun σ H Q h => ?_
  obtain ⟨p, env, S, rs, rst, g⟩ := h
  exact g H p .refl rst v (r _ _)
theorem me_int {i : Int} {j} : ME X G (.Constant (.int i) j pos) (sC (.int i)) := me_c pe_int fun _ _ => RV.int_iff.mpr rfl
theorem me_str {i : Str} {j} : ME X G (.Constant (.str i) j pos) (sC (.str i)) := me_c pe_str fun _ _ => RV.str_iff.mpr rfl
theorem me_bl {i : Bool} {j} : ME X G (.Constant (.bool i) j pos) (sC (.bl i)) := me_c pe_bl fun _ _ => RV.bl_iff.mpr rfl
theorem me_non {j} : ME X G (.Constant .none j pos) (sC .non) := me_c pe_non fun _ _ => RV.non_iff.mpr rfl
def KD (K : PySem.W.Frag) (d : D) (v : V) : Prop := RV K (fun _ => none) [] d v
theorem KD.rv {K : PySem.W.Frag} {d : D} {v : V} (h : KD K d v) (H : Hp) (p : List Addr) : RV K H p d v := by
  refine RV.mono (H := fun _ => none) (p := []) ⟨fun n a e => by simp at e, fun a xs h => ?_, fun a o u h => by cases h⟩ d v h
  rcases h with (h | ⟨o, h⟩) | h
  · cases h
  · cases h
  · exact .inr h
theorem me_glob {x : Str} {d : D} {v : V} {u : Value} (hm : X.mg x = some u) (r : RelV v u) (k : KD X.K d v) (hg : Gl X x := by rfl) (hd : (x == ("__debug__" : Str)) = false := by decide) : ME X G (.Name x pos) (sC d) := me_c (pe_glob hg hm r hd) k.rv
def s2 (f : D → D → Store → Res D) (sa sb : SE) : SE := fun env S => (sa env S).bind fun d S1 => (sb env S1).bind fun e S2 => f d e S2
def s1 (f : D → Store → Res D) (sa : SE) : SE := fun env S => (sa env S).bind fun d S1 => f d S1
def RfO (K : PySem.W.Frag) (r : R2) (f : D → D → Store → Res D) : Prop := ∀ (G : Gx) (σ : L2.St) (H : Hp) (p : List Addr) (S : Store) (d e : D) (x y : V) (Q : VK), RSt K H p S → RV K H p d x → RV K H p e y → Good K G σ H p (f d e S) (PV K Q) → r x y H Q
def RfU (K : PySem.W.Frag) (r : V → Hp → VK → Prop) (f : D → Store → Res D) : Prop := ∀ (G : Gx) (σ : L2.St) (H : Hp) (p : List Addr) (S : Store) (d : D) (x : V) (Q : VK), RSt K H p S → RV K H p d x → Good K G σ H p (f d S) (PV K Q) → r x H Q
theorem one {K : PySem.W.Frag} {A : Type} {f : D → Store → Res A} {sa : SE} {σ : L2.St} {H : Hp} {P : A → Store → Hp → List Addr → Prop} {R : V → Hp → Prop} {p : List Addr} {env : Env} {S : Store} (rs : Rs K H p env σ) (rst : RSt K H p S) (g : Good K G σ H p ((sa env S).bind f) P)
    (hr : ∀ (H1 : Hp) (p1 : List Addr) (S1 : Store) (d : D) (x : V), Ext K H H1 p p1 → Rs K H1 p1 env σ → RSt K H1 p1 S1 → RV K H1 p1 d x → Good K G σ H1 p1 (f d S1) P → R x H1) : TEo K G sa σ H R :=
  ⟨p, env, S, rs, rst, g.bind.imp fun d S1 H1 p1 e1 r1 g1 x rx => hr H1 p1 S1 d x e1 (rs.mono e1) r1 rx g1⟩
theorem two {K : PySem.W.Frag} {f : D → D → Store → Res D} {sa sb : SE} {σ : L2.St} {H : Hp} {Q : VK} {R : V → V → Hp → Prop} (h : TEo K G (s2 f sa sb) σ H Q)
    (hr : ∀ (H : Hp) (p : List Addr) (S : Store) (d e : D) (x y : V), RSt K H p S → RV K H p d x → RV K H p e y → Good K G σ H p (f d e S) (PV K Q) → R x y H) :
    TEo K G sa σ H fun x H1 => TEo K G sb σ H1 fun y H2 => R x y H2 := by
  obtain ⟨p, env, S, rs, rst, g⟩ := h
  refine one rs rst g fun H1 p1 S1 d x e1 rs1 r1 rx g1 => ?_
  exact one rs1 r1 g1 fun H2 p2 S2 e y e2 rs2 r2 ry g2 => hr H2 p2 S2 d e x y r2 (RV.mono e2 _ _ rx) ry g2
theorem me_op {op : Operator} {r : R2} {f : D → D → Store → Res D} {sa sb : SE} (ho : OpR X (binaryOp op) r) (hf : RfO X.K r f) (ha : ME X G a sa) (hb : ME X G b sb) : ME X G (.BinOp a op b pos) (s2 f sa sb) := fun ok =>
  pe_imp (pe_op ho (ha ok) (hb ok)) fun σ H Q h => two h fun H p S d e x y rst rx ry g => hf G σ H p S d e x y Q rst rx ry g
theorem me_un {op : UnaryOp} {r : V → Hp → VK → Prop} {f : D → Store → Res D} {sa : SE} (ho : UnR X (unaryOp op) r) (hf : RfU X.K r f) (ha : ME X G a sa) : ME X G (.UnaryOp op a pos) (s1 f sa) := fun ok =>
  pe_imp (pe_un ho (ha ok)) fun σ H Q h => by
    obtain ⟨p, env, S, rs, rst, g⟩ := h
    exact one rs rst g fun H1 p1 S1 d x _ _ r1 rx g1 => hf G σ H1 p1 S1 d x Q r1 rx g1
theorem me_cmp {op : CmpOp} {r : R2} {f : D → D → Store → Res D} {sa sb : SE} (ho : OpR X (compareOp op) r) (hf : RfO X.K r f) (ha : ME X G a sa) (hb : ME X G b sb) (hm : behindInMarks op b = false) : ME X G (.Compare a [op] [b] pos) (s2 f sa sb) := fun ok =>
  pe_imp (pe_cmpR ho (ha ok) (hb ok) hm) fun σ H Q h => two h fun H p S d e x y rst rx ry g => hf G σ H p S d e x y Q rst rx ry g
theorem me_ix {r : R2} {f : D → D → Store → Res D} {sa sb : SE} (ho : IxR X r) (hf : RfO X.K r f) (ha : ME X G a sa) (hb : ME X G b sb) (hs : PlainIx b := by intro _ _; rfl) : ME X G (.Subscript a b pos) (s2 f sa sb) := fun ok =>
  pe_imp (pe_ix ho (ha ok) (hb ok) hs) fun σ H Q h => two h fun H p S d e x y rst rx ry g => hf G σ H p S d e x y Q rst rx ry g
def fI (g : Int → Int → Int) : D → D → Store → Res D := fun d e S => match d, e with
  | .int i, .int j => .ok (.int (g i j)) S
  | _, _ => .bad
open Classical in
noncomputable def fIC (C : Int → Int → Prop) (g : Int → Int → Int) : D → D → Store → Res D := fun d e S => match d, e with
  | .int i, .int j => if C i j then .ok (.int (g i j)) S else .bad
  | _, _ => .bad
def fIB (g : Int → Int → Bool) : D → D → Store → Res D := fun d e S => match d, e with
  | .int i, .int j => .ok (.bl (g i j)) S
  | _, _ => .bad
theorem rf_I {K : PySem.W.Frag} {g : Int → Int → Int} : RfO K (rI0 fun i j => .int (g i j)) (fI g) := by
  intro G σ H p S d e x y Q rst rx ry h
  unfold fI at h
  split at h
  · rw [RV.int_iff] at rx ry
    exact ⟨_, _, rx, ry, h H p .refl rst _ (RV.int_iff.mpr rfl)⟩
  · exact h.elim
theorem rf_IC {K : PySem.W.Frag} {C : Int → Int → Prop} {g : Int → Int → Int} : RfO K (rI C fun i j => .int (g i j)) (fIC C g) := by
  intro G σ H p S d e x y Q rst rx ry h
  unfold fIC at h
  split at h
  · split at h
    · rename_i hc
      rw [RV.int_iff] at rx ry
      exact ⟨_, _, rx, ry, hc, h H p .refl rst _ (RV.int_iff.mpr rfl)⟩
    · exact h.elim
  · exact h.elim
theorem rf_IB {K : PySem.W.Frag} {g : Int → Int → Bool} : RfO K (rI0 fun i j => .bl (g i j)) (fIB g) := by
  intro G σ H p S d e x y Q rst rx ry h
  unfold fIB at h
  split at h
  · rw [RV.int_iff] at rx ry
    exact ⟨_, _, rx, ry, h H p .refl rst _ (RV.bl_iff.mpr rfl)⟩
  · exact h.elim
def CM (i j : Int) : Prop := CMul i j ∨ CMulW i j
theorem op_mulA : OpR X (binaryOp .Mult) (rI CM fun i j => .int (i * j)) := opI fun _ _ _ _ _ _ _ hc q => mul_int q (hc.elim (·.ok) (·.ok))
def CDv (_ j : Int) : Prop := j ≠ 0 ∧ j.natAbs.log2 < 9000
theorem op_fdivV : OpR X (binaryOp .FloorDiv) (rI CDv fun i j => .int (i.fdiv j)) := opI fun _ _ _ _ _ _ _ hc q => floordiv_int hc.1 q (.inl (PyProof.noPylong_of_log2 hc.2))
def CMo (_ j : Int) : Prop := 0 < j
theorem op_modA : OpR X (binaryOp .Mod) (rI CMo fun i j => .int (i % j)) := op_mod
noncomputable abbrev fMul := fIC CM fun i j => i * j
noncomputable abbrev fDiv := fIC CDv fun i j => i.fdiv j
noncomputable abbrev fMod := fIC CMo fun i j => i % j
noncomputable abbrev fPow := fIC CPow fun i j => i ^ j.toNat
abbrev fSub := fI fun i j => i - j
variable {sa sb : SE}
theorem me_mul (ha : ME X G a sa) (hb : ME X G b sb) : ME X G (.BinOp a .Mult b pos) (s2 fMul sa sb) := me_op op_mulA rf_IC ha hb
theorem me_div (ha : ME X G a sa) (hb : ME X G b sb) : ME X G (.BinOp a .FloorDiv b pos) (s2 fDiv sa sb) := me_op op_fdivV rf_IC ha hb
theorem me_mod (ha : ME X G a sa) (hb : ME X G b sb) : ME X G (.BinOp a .Mod b pos) (s2 fMod sa sb) := me_op op_modA rf_IC ha hb
theorem me_pow (ha : ME X G a sa) (hb : ME X G b sb) : ME X G (.BinOp a .Pow b pos) (s2 fPow sa sb) := me_op op_pow rf_IC ha hb
theorem me_sub (ha : ME X G a sa) (hb : ME X G b sb) : ME X G (.BinOp a .Sub b pos) (s2 fSub sa sb) := me_op op_sub rf_I ha hb
def lstOf (S : Store) (n : Nat) : Option (List D) := match S[n]? with
  | some (.lst l) => some l
  | some (.fro l) => some l
  | _ => none
open Classical in
noncomputable def fPlus : D → D → Store → Res D := fun d e S => match d, e with
  | .int i, .int j => .ok (.int (i + j)) S
  | .str x, .str y => if x.length + y.length ≤ sizeLine then .ok (.str (x ++ y)) S else .bad
  | .tup x, .tup y => if x.length + y.length ≤ sizeLine then .ok (.tup (x ++ y)) S else .bad
  | .ref m, .ref n => match lstOf S m, lstOf S n with
    | some x, some y => if x.length + y.length ≤ sizeLine then .ok (.ref S.length) (S ++ [.lst (x ++ y)]) else .bad
    | _, _ => .bad
  | _, _ => .bad
end
section
variable {K : PySem.W.Frag} {H : Hp} {p : List Addr} {S : Store}
theorem RSt.list (R : RSt K H p S) {n : Nat} {l : List D} {v : V} (h : lstOf S n = some l) (r : RV K H p (.ref n) v) : ∃ a xs, v = .ref a ∧ SqL K H a xs ∧ RVs K H p l xs := by
  obtain ⟨a, rfl, e⟩ := RV.ref_iff.mp r
  unfold lstOf at h
  split at h
  · rename_i l' hl
    cases h
    obtain ⟨xs, h1, h2⟩ := R.cell n _ a hl e
    exact ⟨a, xs, rfl, SqL.of h1, h2⟩
  · rename_i l' hl
    cases h
    obtain ⟨xs, h1, h2⟩ := R.cell n _ a hl e
    exact ⟨a, xs, rfl, h1.sql, h2⟩
  · cases h
theorem RSt.newL {q : Addr} {xs : List V} {l : List D} (R : RSt K H p S) (h : H q = none) (r : RVs K H p l xs) :
    Ext K H (upd H q (.lst xs)) p (p ++ [q]) ∧ RSt K (upd H q (.lst xs)) (p ++ [q]) (S ++ [.lst l]) ∧ RV K (upd H q (.lst xs)) (p ++ [q]) (.ref S.length) (.ref q) := by
  have E : Ext K H (upd H q (.lst xs)) p (p ++ [q]) := ⟨fun n a e => by
    rw [List.getElem?_append_left (List.getElem?_eq_some_iff.mp e).1]
    exact e, (ext_same (p := p) (same_new h)).tup, (ext_same (K := K) (p := p) (same_new h)).frz⟩
  obtain ⟨a1, a2, a3⟩ := R.push (c := .lst l) h ⟨xs, upd_same, RVs.mono E _ _ r⟩
  exact ⟨a1, a2, RV.ref_iff.mpr ⟨q, rfl, a3⟩⟩
theorem RSt.newT {q : Addr} {xs : List V} {l : List D} (R : RSt K H p S) (h : H q = none) (r : RVs K H p l xs) :
    Ext K H (upd H q (.tup xs)) p p ∧ RSt K (upd H q (.tup xs)) p S ∧ RV K (upd H q (.tup xs)) p (.tup l) (.ref q) := by
  have E : Ext K H (upd H q (.tup xs)) p p := ext_same (same_new h)
  exact ⟨E, R.same (same_new h), RV.tup_iff.mpr ⟨q, xs, rfl, SqT.of upd_same, RVs.mono E _ _ r⟩⟩
theorem RSt.setL {n : Nat} {a : Addr} {xs : List V} {l l0 : List D} (R : RSt K H p S) (hS : S[n]? = some (.lst l0)) (hp : p[n]? = some a) (r : RVs K H p l xs) :
    Ext K H (upd H a (.lst xs)) p p ∧ RSt K (upd H a (.lst xs)) p (S.set n (.lst l)) := by
  obtain ⟨ys, h0, _⟩ := R.cell n _ a hS hp
  have E : Ext K H (upd H a (.lst xs)) p p := by
    refine ⟨fun _ _ h => h, fun b zs h => ?_, fun b ob u h => by rw [upd_ne (fun e => by subst e; rw [h0] at h; cases h)]; exact h⟩
    rcases h with (h | ⟨ob, h⟩) | h
    · have hb : b ≠ a := fun e => by subst e; rw [h0] at h; cases h
      exact .inl (.inl (by rw [upd_ne hb]; exact h))
    · have hb : b ≠ a := fun e => by subst e; rw [h0] at h; cases h
      exact .inl (.inr ⟨ob, by rw [upd_ne hb]; exact h⟩)
    · exact .inr h
  exact R.write hS rfl rfl hp ⟨xs, upd_same, RVs.mono E _ _ r⟩ h0 (fun _ z => by cases z) (fun _ _ z => by cases z) (fun _ z => by cases z)
end
section
variable {X : Cx} {G : Gx} {e a b c : Expr} {pos : Pos} {sa sb : SE}
def rCatR (K : PySem.W.Frag) : R2 := fun x y H Q => ∃ l b xs zs, x = .ref l ∧ y = .ref b ∧ SqL K H l xs ∧ SqL K H b zs ∧ xs.length + zs.length ≤ sizeLine ∧ ∀ p, H p = none → Q (.ref p) (upd H p (.lst (xs ++ zs)))
theorem op_catR : OpR X (binaryOp .Add) (rCatR X.K) := by
  intro pins s σ H x y v u Q I rx ry h
  obtain ⟨l, b, xs, zs, rfl, rfl, hH, hB, hz, q⟩ := h
  cases rx
  cases ry
  obtain ⟨its, r, pl, _⟩ := I.list hH
  obtain ⟨its2, r2, pl2, _⟩ := I.list hB
  have hl := r.length
  have hl2 := r2.length
  obtain ⟨⟨cls, dd, data, sl⟩, ho, hc, n, hd⟩ := pl.isList
  obtain ⟨⟨cls2, dd2, data2, sl2⟩, ho2, hc2, n2, hd2⟩ := pl2.isList
  simp only at hc hd hc2 hd2
  subst hc hd hc2 hd2
  refine concat_meets ⟨_, ho, rfl⟩ ⟨_, ho2, rfl⟩ noFill_list_add seq_list_add PySem.F.slot_list_add PySem.F.entry_list_add (PySem.F.args_list_add_2 _ _) (list_addW l b its.toArray its2.toArray n n2 dd dd2 sl sl2 (by simp only [List.size_toArray]; omega)) ⟨ho, ho2, ?_⟩
  have ea : its.toArray ++ its2.toArray = (its ++ its2).toArray := by simp
  rw [ea]
  exact ⟨.ref _, _, I.lnew (t' := s.toks) (r.append r2) (by rw [List.length_append]; omega), rfl, q _ I.fresh⟩
theorem rf_plus {K : PySem.W.Frag} : RfO K (fun x y H Q => (rI0 fun i j => .int (i + j)) x y H Q ∨ ((∃ i j, x = .str i ∧ y = .str j ∧ i.length + j.length ≤ sizeLine ∧ Q (.str (i ++ j)) H) ∨ (rCatA K x y H Q ∨ rCatR K x y H Q))) fPlus := by
  intro G σ H p S d e x y Q rst rx ry h
  unfold fPlus at h
  split at h
  · rw [RV.int_iff] at rx ry
    exact .inl ⟨_, _, rx, ry, h H p .refl rst _ (RV.int_iff.mpr rfl)⟩
  · split at h
    · rename_i hc
      rw [RV.str_iff] at rx ry
      exact .inr (.inl ⟨_, _, rx, ry, hc, h H p .refl rst _ (RV.str_iff.mpr rfl)⟩)
    · exact h.elim
  · split at h
    · rename_i l1 l2 hc
      obtain ⟨a, xs, rfl, ha, hx⟩ := RV.tup_iff.mp rx
      obtain ⟨b, ys, rfl, hb, hy⟩ := RV.tup_iff.mp ry
      have e1 := hx.len
      have e2 := hy.len
      refine .inr (.inr (.inl ⟨a, b, xs, ys, rfl, rfl, ha, hb, by omega, fun z => ?_, fun _ z => ?_, fun _ _ q hq => ?_⟩))
      · subst z
        have z1 : l1 = [] := List.length_eq_zero_iff.mp (by simpa using e1)
        subst z1
        exact h H p .refl rst _ ry
      · subst z
        have z1 : l2 = [] := List.length_eq_zero_iff.mp (by simpa using e2)
        subst z1
        rw [List.append_nil] at h
        exact h H p .refl rst _ rx
      · obtain ⟨E, R, r⟩ := rst.newT hq (hx.app hy)
        exact h _ _ E R _ r
    · exact h.elim
  · split at h
    · rename_i m n l1 l2 h1 h2
      split at h
      · rename_i hc
        obtain ⟨a, xs, rfl, ha, hx⟩ := rst.list h1 rx
        obtain ⟨b, ys, rfl, hb, hy⟩ := rst.list h2 ry
        have e1 := hx.len
        have e2 := hy.len
        refine .inr (.inr (.inr ⟨a, b, xs, ys, rfl, rfl, ha, hb, by omega, fun q hq => ?_⟩))
        obtain ⟨E, R, r⟩ := rst.newL hq (hx.app hy)
        exact h _ _ E R _ r
      · exact h.elim
    · exact h.elim
  · exact h.elim
theorem me_add (ha : ME X G a sa) (hb : ME X G b sb) : ME X G (.BinOp a .Add b pos) (s2 fPlus sa sb) := me_op (op_add.or (op_add_str.or (op_catA.or op_catR))) rf_plus ha hb
open Classical in
noncomputable def fMulL : D → D → Store → Res D := fun d e S => match d, e with
  | .ref m, .int k => match S[m]? with
    | some (.lst x) => if -(2 ^ 63) ≤ k ∧ k < 2 ^ 63 ∧ x.length * k.toNat ≤ sizeLine then .ok (.ref S.length) (S ++ [.lst (List.replicate k.toNat x).flatten]) else .bad
    | _ => .bad
  | _, _ => .bad
theorem RVs.rep {K : PySem.W.Frag} {H : Hp} {p : List Addr} {l : List D} {xs : List V} (h : RVs K H p l xs) : ∀ k : Nat, RVs K H p (List.replicate k l).flatten (List.replicate k xs).flatten
  | 0 => RVs.nil
  | k + 1 => by
    rw [List.replicate_succ, List.replicate_succ, List.flatten_cons, List.flatten_cons]
    exact h.app (RVs.rep h k)
theorem rf_mulL {K : PySem.W.Frag} : RfO K rRep fMulL := by
  intro G σ H p S d e x y Q rst rx ry h
  unfold fMulL at h
  split at h
  · rename_i m k
    split at h
    · rename_i l hl
      split at h
      · rename_i hc
        obtain ⟨a, rfl, ea⟩ := RV.ref_iff.mp rx
        rw [RV.int_iff] at ry
        obtain ⟨xs, h1, h2⟩ := rst.cell m _ a hl ea
        have e1 := h2.len
        refine ⟨a, k, xs, rfl, ry, h1, hc.1, hc.2.1, by rw [← e1]; exact hc.2.2, fun q hq => ?_⟩
        obtain ⟨E, R, r⟩ := rst.newL hq (h2.rep k.toNat)
        exact h _ _ E R _ r
      · exact h.elim
    · exact h.elim
  · exact h.elim
theorem me_mulL (ha : ME X G a sa) (hb : ME X G b sb) : ME X G (.BinOp a .Mult b pos) (s2 fMulL sa sb) := me_op op_rep rf_mulL ha hb
def fNeg : D → Store → Res D := fun d S => match d with
  | .int i => .ok (.int (-i)) S
  | _ => .bad
theorem rf_neg {K : PySem.W.Frag} : RfU K (rU fun i => .int (-i)) fNeg := by
  intro G σ H p S d x Q rst rx h
  unfold fNeg at h
  split at h
  · rw [RV.int_iff] at rx
    exact ⟨_, rx, h H p .refl rst _ (RV.int_iff.mpr rfl)⟩
  · exact h.elim
theorem me_neg (ha : ME X G a sa) : ME X G (.UnaryOp .USub a pos) (s1 fNeg sa) := me_un un_neg rf_neg ha
def fIx : D → D → Store → Res D := fun d e S => match d, e with
  | .tup l, .int i => match atI l i with
    | some x => .ok x S
    | none => .bad
  | .ref n, .int i => match lstOf S n with
    | some l => match atI l i with
      | some x => .ok x S
      | none => .bad
    | none => .bad
  | .str z, .int i => if z.length ≤ sizeLine then match atI z.cps.toList i with
      | some c => .ok (.str ⟨#[c]⟩) S
      | none => .bad
    else .bad
  | _, _ => .bad
theorem RVs.atI {K : PySem.W.Frag} {H : Hp} {p : List Addr} {l : List D} {xs : List V} {i : Int} {d : D} (h : RVs K H p l xs) (e : atI l i = some d) : ∃ v, L2.atI xs i = some v ∧ RV K H p d v := by
  unfold L2.atI at e ⊢
  rw [← h.len]
  cases hx : ixN l.length i with
  | none => rw [hx] at e; cases e
  | some j =>
    rw [hx] at e
    exact h.get e
theorem rf_ix {K : PySem.W.Frag} : RfO K (rIx K) fIx := by
  intro G σ H p S d e x y Q rst rx ry h
  unfold fIx at h
  split at h
  · split at h
    · rename_i hc
      obtain ⟨a, xs, rfl, ha, hx⟩ := RV.tup_iff.mp rx
      rw [RV.int_iff] at ry
      obtain ⟨v, e1, e2⟩ := hx.atI hc
      exact .inr (.inl ⟨a, xs, _, v, rfl, ry, ha, e1, h H p .refl rst _ e2⟩)
    · exact h.elim
  · split at h
    · rename_i hl
      split at h
      · rename_i hc
        obtain ⟨a, xs, rfl, ha, hx⟩ := rst.list hl rx
        rw [RV.int_iff] at ry
        obtain ⟨v, e1, e2⟩ := hx.atI hc
        exact .inl ⟨a, xs, _, v, rfl, ry, ha, e1, h H p .refl rst _ e2⟩
      · exact h.elim
    · exact h.elim
  · split at h
    · rename_i hz
      split at h
      · rename_i hc
        rw [RV.str_iff] at rx
        rw [RV.int_iff] at ry
        exact .inr (.inr ⟨_, _, _, rx, ry, hz, hc, h H p .refl rst _ (RV.str_iff.mpr rfl)⟩)
      · exact h.elim
    · exact h.elim
  · exact h.elim
theorem me_item (ha : ME X G a sa) (hb : ME X G b sb) (hs : PlainIx b := by intro _ _; rfl) : ME X G (.Subscript a b pos) (s2 fIx sa sb) := me_ix ix_seq rf_ix ha hb hs
end
def allP (f : D → Option PyData) : List D → Option (List PyData)
  | [] => some []
  | d :: l => match f d, allP f l with
    | some x, some r => some (x :: r)
    | _, _ => none
def toP (S : Store) : Nat → D → Option PyData
  | _, .non => some .none
  | _, .bl b => some (.bool b)
  | _, .int i => some (.int i)
  | _, .str s => if PyData.strOk s then some (.str s) else none
  | k + 1, .tup l => (allP (toP S k) l).map .tuple
  | k + 1, .ref n => match lstOf S n with
    | some l => (allP (toP S k) l).map .list
    | none => none
  | 0, .tup _ => none
  | 0, .ref _ => none
theorem allP_sh {k : Nat} {f : D → Option PyData} (hf : ∀ d x, f d = some x → x.canLay0 = true ∧ x.depth ≤ k) : ∀ {l : List D} {r : List PyData}, allP f l = some r → PyData.canLayAll0 r = true ∧ PyData.depthAll r ≤ k
  | [], r, h => by
    cases h
    exact ⟨rfl, Nat.zero_le _⟩
  | d :: l, r, h => by
    unfold allP at h
    split at h
    · rename_i x r' h1 h2
      cases h
      obtain ⟨a1, a2⟩ := hf d x h1
      obtain ⟨b1, b2⟩ := allP_sh hf h2
      unfold PyData.canLayAll0 PyData.depthAll
      exact ⟨by rw [a1, b1]; rfl, by omega⟩
    · cases h
theorem toP_sh {S : Store} : ∀ (k : Nat) (d : D) (x : PyData), toP S k d = some x → x.canLay0 = true ∧ x.depth ≤ k := by
  intro k
  induction k with
  | zero =>
    intro d x h
    cases d with
    | str s =>
      simp only [toP] at h
      split at h
      · rename_i hs
        cases h
        exact ⟨by simpa [PyData.canLay0] using hs, by simp [PyData.depth]⟩
      · cases h
    | tup l => simp [toP] at h
    | ref n => simp [toP] at h
    | non => simp only [toP] at h; cases h; exact ⟨rfl, by simp [PyData.depth]⟩
    | bl b => simp only [toP] at h; cases h; exact ⟨rfl, by simp [PyData.depth]⟩
    | int i => simp only [toP] at h; cases h; exact ⟨rfl, by simp [PyData.depth]⟩
  | succ k ih =>
    intro d x h
    cases d with
    | str s =>
      simp only [toP] at h
      split at h
      · rename_i hs
        cases h
        exact ⟨by simpa [PyData.canLay0] using hs, by simp [PyData.depth]⟩
      · cases h
    | tup l =>
      simp only [toP] at h
      cases e : allP (toP S k) l with
      | none => rw [e] at h; cases h
      | some r =>
        rw [e] at h
        cases h
        obtain ⟨a, b⟩ := allP_sh (k := k) ih e
        exact ⟨by simpa [PyData.canLay0] using a, by simp [PyData.depth]; omega⟩
    | ref n =>
      simp only [toP] at h
      split at h
      · rename_i l hl
        cases e : allP (toP S k) l with
        | none => rw [e] at h; cases h
        | some r =>
          rw [e] at h
          cases h
          obtain ⟨a, b⟩ := allP_sh (k := k) ih e
          exact ⟨by simpa [PyData.canLay0] using a, by simp [PyData.depth]; omega⟩
      · cases h
    | non => simp only [toP] at h; cases h; exact ⟨rfl, by simp [PyData.depth]⟩
    | bl b => simp only [toP] at h; cases h; exact ⟨rfl, by simp [PyData.depth]⟩
    | int i => simp only [toP] at h; cases h; exact ⟨rfl, by simp [PyData.depth]⟩
theorem toP_shaped {S : Store} {d : D} {x : PyData} (h : toP S 60 d = some x) : SeqAt.shaped x = true := by
  obtain ⟨a, b⟩ := toP_sh 60 d x h
  unfold SeqAt.shaped
  rw [a, Bool.true_and]
  exact decide_eq_true (by omega)
theorem allP_dp {K : PySem.W.Frag} {H : Hp} {p : List Addr} {f : D → Option PyData} (hf : ∀ d x v, f d = some x → RV K H p d v → Dp K H v x) : ∀ {l : List D} {r : List PyData} {xs : List V}, allP f l = some r → RVs K H p l xs → DpAll K H xs r
  | [], r, xs, h, q => by
    cases h
    rw [RVs.nil_iff] at q
    subst q
    exact .nil
  | d :: l, r, xs, h, q => by
    unfold allP at h
    split at h
    · rename_i x r' h1 h2
      cases h
      obtain ⟨v, vs, rfl, q1, q2⟩ := RVs.cons_iff.mp q
      exact .cons (hf d x v h1 q1) (allP_dp hf h2 q2)
    · cases h
theorem toP_dp {K : PySem.W.Frag} {H : Hp} {p : List Addr} {S : Store} (R : RSt K H p S) : ∀ (k : Nat) (d : D) (x : PyData) (v : V), toP S k d = some x → RV K H p d v → Dp K H v x := by
  intro k
  induction k with
  | zero =>
    intro d x v h q
    cases d with
    | str s =>
      simp only [toP] at h
      split at h
      · cases h; rw [RV.str_iff] at q; subst q; exact .str _
      · cases h
    | tup l => simp [toP] at h
    | ref n => simp [toP] at h
    | non => simp only [toP] at h; cases h; rw [RV.non_iff] at q; subst q; exact .non
    | bl b => simp only [toP] at h; cases h; rw [RV.bl_iff] at q; subst q; exact .bl _
    | int i => simp only [toP] at h; cases h; rw [RV.int_iff] at q; subst q; exact .int _
  | succ k ih =>
    intro d x v h q
    cases d with
    | str s =>
      simp only [toP] at h
      split at h
      · cases h; rw [RV.str_iff] at q; subst q; exact .str _
      · cases h
    | tup l =>
      simp only [toP] at h
      cases e : allP (toP S k) l with
      | none => rw [e] at h; cases h
      | some r =>
        rw [e] at h
        cases h
        obtain ⟨a, xs, rfl, ha, hx⟩ := RV.tup_iff.mp q
        exact .tup ha (allP_dp ih e hx)
    | ref n =>
      simp only [toP] at h
      split at h
      · rename_i l hl
        cases e : allP (toP S k) l with
        | none => rw [e] at h; cases h
        | some r =>
          rw [e] at h
          cases h
          obtain ⟨a, xs, rfl, ha, hx⟩ := R.list hl q
          exact .lst ha (allP_dp ih e hx)
      · cases h
    | non => simp only [toP] at h; cases h; rw [RV.non_iff] at q; subst q; exact .non
    | bl b => simp only [toP] at h; cases h; rw [RV.bl_iff] at q; subst q; exact .bl _
    | int i => simp only [toP] at h; cases h; rw [RV.int_iff] at q; subst q; exact .int _
def fEq : D → D → Store → Res D := fun d e S => match toP S 60 d, toP S 60 e with
  | some x, some y => .ok (.bl (PyData.eqv x y)) S
  | _, _ => .bad
def fNe : D → D → Store → Res D := fun d e S => match toP S 60 d, toP S 60 e with
  | some x, some y => .ok (.bl (!PyData.eqv x y)) S
  | _, _ => .bad
theorem rf_eq {K : PySem.W.Frag} : RfO K (rEqD K) fEq := by
  intro G σ H p S d e x y Q rst rx ry h
  unfold fEq at h
  split at h
  · rename_i a b h1 h2
    exact ⟨a, b, toP_dp rst 60 d a x h1 rx, toP_dp rst 60 e b y h2 ry, toP_shaped h1, toP_shaped h2, h H p .refl rst _ (RV.bl_iff.mpr rfl)⟩
  · exact h.elim
theorem rf_ne {K : PySem.W.Frag} : RfO K (rNeD K) fNe := by
  intro G σ H p S d e x y Q rst rx ry h
  unfold fNe at h
  split at h
  · rename_i a b h1 h2
    exact ⟨a, b, toP_dp rst 60 d a x h1 rx, toP_dp rst 60 e b y h2 ry, toP_shaped h1, toP_shaped h2, h H p .refl rst _ (RV.bl_iff.mpr rfl)⟩
  · exact h.elim
end Rg
namespace Rg
open PySem PySem.Spec PyProof.Rows L2
section
variable {X : Cx} {G : Gx} {e a b c : Expr} {pos : Pos} {sa sb : SE} {st su : ST} {es rest : List Expr} {sr : SA}
def sT (s : SE) : ST := fun env S => (s env S).bind fun d S1 => match d with
  | .bl b => .ok b S1
  | _ => .bad
def sNot (s : ST) : ST := fun env S => (s env S).bind fun b S1 => .ok (!b) S1
def sAnd (s t : ST) : ST := fun env S => (s env S).bind fun b S1 => if b = true then t env S1 else .ok false S1
def sOr (s t : ST) : ST := fun env S => (s env S).bind fun b S1 => if b = true then .ok true S1 else t env S1
def sAndV (sa sb : SE) : SE := fun env S => (sa env S).bind fun d S1 => match d with
  | .bl true => sb env S1
  | .bl false => .ok (.bl false) S1
  | _ => .bad
def sOrV (sa sb : SE) : SE := fun env S => (sa env S).bind fun d S1 => match d with
  | .bl true => .ok (.bl true) S1
  | .bl false => sb env S1
  | _ => .bad
def fNot : D → Store → Res D := fun d S => match d with
  | .bl b => .ok (.bl (!b)) S
  | _ => .bad
def sIf (t : ST) (sa sb : SE) : SE := fun env S => (t env S).bind fun b S1 => if b = true then sa env S1 else sb env S1
theorem sT_of {K : PySem.W.Frag} {σ : L2.St} {H : Hp} {Q : Bool → Hp → Prop} (h : TTo K G (sT sa) σ H Q) : TEo K G sa σ H fun x H' => ∃ k, x = .bl k ∧ Q k H' := by
  obtain ⟨p, env, S, rs, rst, g⟩ := h
  refine one rs rst g fun H1 p1 S1 d x _ _ r1 rx g1 => ?_
  cases d with
  | bl b =>
    rw [RV.bl_iff] at rx
    exact ⟨b, rx, g1 H1 p1 .refl r1⟩
  | _ => exact g1.elim
theorem mt_cmp {op : CmpOp} {r : R2} {f : D → D → Store → Res D} (ho : OpR X (compareOp op) r) (hf : RfO X.K r f) (ha : ME X G a sa) (hb : ME X G b sb) (hm : behindInMarks op b = false) : MT X G (.Compare a [op] [b] pos) (sT (s2 f sa sb)) := fun ok =>
  pt_imp (pt_cmpR ho (ha ok) (hb ok) hm) fun σ H Q h => by
    have h1 := sT_of h
    exact two h1 fun H p S d e x y rst rx ry g => hf G σ H p S d e x y _ rst rx ry g
theorem TTo.bind {K : PySem.W.Frag} {A : Type} {f : Bool → Store → Res A} {σ : L2.St} {H : Hp} {P : A → Store → Hp → List Addr → Prop} {R : Bool → Hp → Prop} {p : List Addr} {env : Env} {S : Store} (rs : Rs K H p env σ) (rst : RSt K H p S) (g : Good K G σ H p ((st env S).bind f) P)
    (hr : ∀ (H1 : Hp) (p1 : List Addr) (S1 : Store) (b : Bool), Ext K H H1 p p1 → Rs K H1 p1 env σ → RSt K H1 p1 S1 → Good K G σ H1 p1 (f b S1) P → R b H1) : TTo K G st σ H R :=
  ⟨p, env, S, rs, rst, g.bind.imp fun b S1 H1 p1 e1 r1 g1 => hr H1 p1 S1 b e1 (rs.mono e1) r1 g1⟩
theorem MW.pt (h : MW X G a st) : MT X G a st := fun ok => (h ok).pt
theorem mw_and1 (ha : MT X G a st) : MW X G (.BoolOp .And [a] pos) st := fun ok => pw_and1 (ha ok)
theorem mw_or1 (ha : MT X G a st) : MW X G (.BoolOp .Or [a] pos) st := fun ok => pw_or1 (ha ok)
theorem mw_and (ha : MT X G a st) (hb : MW X G (.BoolOp .And (b :: rest) pos) su) : MW X G (.BoolOp .And (a :: b :: rest) pos) (sAnd st su) := fun ok =>
  pw_imp (pw_and (ha ok) (hb ok)) fun σ H Q h => by
    obtain ⟨p, env, S, rs, rst, g⟩ := h
    refine TTo.bind rs rst g fun H1 p1 S1 b _ rs1 r1 g1 => ?_
    cases b with
    | true => exact ⟨p1, env, S1, rs1, r1, g1⟩
    | false => exact g1 H1 p1 .refl r1
theorem mw_or (ha : MT X G a st) (hb : MW X G (.BoolOp .Or (b :: rest) pos) su) : MW X G (.BoolOp .Or (a :: b :: rest) pos) (sOr st su) := fun ok =>
  pw_imp (pw_or (ha ok) (hb ok)) fun σ H Q h => by
    obtain ⟨p, env, S, rs, rst, g⟩ := h
    refine TTo.bind rs rst g fun H1 p1 S1 b _ rs1 r1 g1 => ?_
    cases b with
    | true => exact g1 H1 p1 .refl r1
    | false => exact ⟨p1, env, S1, rs1, r1, g1⟩
abbrev fLt := fIB fun i j => decide (i < j)
abbrev fLe := fIB fun i j => decide (i ≤ j)
abbrev fGt := fIB fun i j => decide (j < i)
theorem mt_lt (ha : ME X G a sa) (hb : ME X G b sb) : MT X G (.Compare a [.Lt] [b] pos) (sT (s2 fLt sa sb)) := mt_cmp op_lt rf_IB ha hb (nomark _)
theorem mt_gt (ha : ME X G a sa) (hb : ME X G b sb) : MT X G (.Compare a [.Gt] [b] pos) (sT (s2 fGt sa sb)) := mt_cmp op_gt rf_IB ha hb (nomark _)
theorem me_eq {k : Nat} (hr : Room k X.A) (ha : ME X G a sa) (hb : ME X G b sb) : ME X G (.Compare a [.Eq] [b] pos) (s2 fEq sa sb) := me_cmp (op_eqD hr.units) rf_eq ha hb (nomark _)
theorem mt_eq {k : Nat} (hr : Room k X.A) (ha : ME X G a sa) (hb : ME X G b sb) : MT X G (.Compare a [.Eq] [b] pos) (sT (s2 fEq sa sb)) := mt_cmp (op_eqD hr.units) rf_eq ha hb (nomark _)
theorem mt_ne {k : Nat} (hr : Room k X.A) (ha : ME X G a sa) (hb : ME X G b sb) : MT X G (.Compare a [.NotEq] [b] pos) (sT (s2 fNe sa sb)) := mt_cmp (op_neD hr.units) rf_ne ha hb (nomark _)
def D.isNon : D → Bool
  | .non => true
  | _ => false
theorem RV.isNon {K : PySem.W.Frag} {H : Hp} {p : List Addr} {d : D} {v : V} (r : RV K H p d v) : decide (v = .non) = d.isNon := by
  cases d with
  | non => rw [RV.non_iff] at r; subst r; rfl
  | bl b => rw [RV.bl_iff] at r; subst r; rfl
  | int b => rw [RV.int_iff] at r; subst r; rfl
  | str b => rw [RV.str_iff] at r; subst r; rfl
  | tup l => obtain ⟨a, xs, rfl, _⟩ := RV.tup_iff.mp r; rfl
  | ref l => obtain ⟨a, rfl, _⟩ := RV.ref_iff.mp r; rfl
def fIsN : D → Store → Res D := fun d S => .ok (.bl d.isNon) S
def fNotN : D → Store → Res D := fun d S => .ok (.bl (!d.isNon)) S
def fIsB : D → D → Store → Res D := fun d e S => match d, e with
  | .bl x, .bl y => .ok (.bl (decide (x = y))) S
  | _, _ => .bad
def fNotB : D → D → Store → Res D := fun d e S => match d, e with
  | .bl x, .bl y => .ok (.bl (!decide (x = y))) S
  | _, _ => .bad
def sChain (f g : D → D → Store → Res D) (sa sb sc : SE) : SE := fun env S => (sa env S).bind fun d S1 => (sb env S1).bind fun e S2 => (f d e S2).bind fun r S3 => match r with
  | .bl true => (sc env S3).bind fun u S4 => g e u S4
  | .bl false => .ok (.bl false) S3
  | _ => .bad
def sNil : SA := fun _ S => .ok [] S
def sCons (s : SE) (r : SA) : SA := fun env S => (s env S).bind fun d S1 => (r env S1).bind fun ds S2 => .ok (d :: ds) S2
def sTup (s : SA) : SE := fun env S => (s env S).bind fun ds S1 => if ds.length ≤ sizeLine then .ok (.tup ds) S1 else .bad
def sLst (s : SA) : SE := fun env S => (s env S).bind fun ds S1 => if ds.length ≤ sizeLine then .ok (.ref S1.length) (S1 ++ [.lst ds]) else .bad
theorem ma_nil : MA X G [] sNil := fun _ => pa_imp pa_nil fun σ H Q h => by
  obtain ⟨p, env, S, rs, rst, g⟩ := h
  exact g H p .refl rst [] RVs.nil
theorem TAo.bind {K : PySem.W.Frag} {A : Type} {f : List D → Store → Res A} {σ : L2.St} {H : Hp} {P : A → Store → Hp → List Addr → Prop} {R : List V → Hp → Prop} {p : List Addr} {env : Env} {S : Store} (rs : Rs K H p env σ) (rst : RSt K H p S) (g : Good K G σ H p ((sr env S).bind f) P)
    (hr : ∀ (H1 : Hp) (p1 : List Addr) (S1 : Store) (ds : List D) (xs : List V), Ext K H H1 p p1 → Rs K H1 p1 env σ → RSt K H1 p1 S1 → RVs K H1 p1 ds xs → Good K G σ H1 p1 (f ds S1) P → R xs H1) : TAo K G sr σ H R :=
  ⟨p, env, S, rs, rst, g.bind.imp fun ds S1 H1 p1 e1 r1 g1 xs rx => hr H1 p1 S1 ds xs e1 (rs.mono e1) r1 rx g1⟩
theorem ma_cons (ha : ME X G e sa) (hr : MA X G es sr) (hs : starEach (e :: es) X.env = (false, eval e X.env) :: starEach es X.env := by rfl) : MA X G (e :: es) (sCons sa sr) := fun ok =>
  pa_imp (pa_cons (ha ok) (hr ok) hs) fun σ H Q h => by
    obtain ⟨p, env, S, rs, rst, g⟩ := h
    refine one rs rst g fun H1 p1 S1 d x _ rs1 r1 rx g1 => ?_
    refine TAo.bind rs1 r1 g1 fun H2 p2 S2 ds xs e2 rs2 r2 rxs g2 => ?_
    exact g2 H2 p2 .refl r2 _ (RVs.cons (RV.mono e2 _ _ rx) rxs)
theorem me_tup {x1} (h : MA X G es sr) : ME X G (.Tuple es x1 pos) (sTup sr) := fun ok =>
  pe_imp (pe_tup (h ok)) fun σ H Q h => by
    obtain ⟨p, env, S, rs, rst, g⟩ := h
    refine TAo.bind rs rst g fun H1 p1 S1 ds xs _ rs1 r1 rx g1 => ?_
    split at g1
    · rename_i hz
      refine ⟨by rw [← rx.len]; exact hz, fun q hq => ?_⟩
      obtain ⟨E, R, r⟩ := r1.newT hq rx
      exact g1 _ _ E R _ r
    · exact g1.elim
theorem me_lst (h : MA X G es sr) : ME X G (.List es pos) (sLst sr) := fun ok =>
  pe_imp (pe_lst (h ok)) fun σ H Q h => by
    obtain ⟨p, env, S, rs, rst, g⟩ := h
    refine TAo.bind rs rst g fun H1 p1 S1 ds xs _ rs1 r1 rx g1 => ?_
    split at g1
    · rename_i hz
      refine ⟨by rw [← rx.len]; exact hz, fun q hq => ?_⟩
      obtain ⟨E, R, r⟩ := r1.newL hq rx
      exact g1 _ _ E R _ r
    · exact g1.elim
abbrev Mf := List D → Store → Res D
def sCall (m : Mf) (s : SA) : SE := fun env S => (s env S).bind fun ds S1 => m ds S1
def SpOf (K : PySem.W.Frag) (xv : XV) (m : Mf) : Sp := fun vs H Q E => ∃ ds p S, RVs K H p ds vs ∧ RSt K H p S ∧ Good K ⟨xv, fun cls d _ H' => E cls d H'⟩ [] H p (m ds S) (PV K Q)
theorem me_call {x : Str} {p : Pos} {k j : Nat} {f : Addr} {fd : FuncData} {ps : List Str} {m : Mf} (F : FnOk X.prog X.w X.K X.mg X.base (CXn G.xv.nn X.prog X.w) k f fd ps (SpOf X.K G.xv m)) (hr : Room j X.A) (hj : k ≤ j) (hm : X.mg x = some (.ref f)) (hk : PySem.W.keepIn X.K (.ref f) = true) (hb : Binds X.K fd ps [])
    (ha : MA X G (e :: es) sr) (hg : Gl X x := by rfl) (hdb : (x == ("__debug__" : Str)) = false := by decide) (he : starEach (e :: es) X.env = (false, eval e X.env) :: starEach es X.env := by rfl) (hpl : (backTo pos (starEach es X.env)).any (·.1) = false := by rfl) :
    ME X G (.Call (.Name x p) (e :: es) [] pos) (sCall m sr) := fun ok =>
  pe_imp (pe_callS F (hr.mono hj) hg hm hk hb (passN ok.tk) (ha ok) hdb he hpl) fun σ H Q h => by
    obtain ⟨p, env, S, rs, rst, g⟩ := h
    refine TAo.bind rs rst g fun H1 p1 S1 ds xs _ rs1 r1 rx g1 => ?_
    refine ⟨ds, p1, S1, rx, r1, ?_⟩
    cases hm : m ds S1 with
    | ok d S2 => rw [hm] at g1; exact g1
    | exc c S2 => rw [hm] at g1; exact g1
    | bad => rw [hm] at g1; exact g1
def sCall0 (m : Mf) : SE := fun _ S => match m [] S with
  | .ok d S1 => .ok d S1
  | _ => .bad
def RfC (K : PySem.W.Frag) (r : List V → Hp → VK → Prop) (f : Mf) : Prop := ∀ (G : Gx) (σ : L2.St) (H : Hp) (p : List Addr) (S : Store) (ds : List D) (xs : List V) (Q : VK), RSt K H p S → RVs K H p ds xs → Good K G σ H p (f ds S) (PV K Q) → r xs H Q
theorem me_callB {x : Str} {p : Pos} {id : String} {r : List V → Hp → VK → Prop} {f : Mf} (hc : CallR X (.builtin id) r) (hf : RfC X.K r f) (hm : X.mg x = none) (hv : bootBuiltins x = some (.builtin id)) (ha : MA X G (e :: es) sr) (hg : Gl X x := by rfl) (hn : x ≠ "__name__" := by decide) (hdb : (x == ("__debug__" : Str)) = false := by decide)
    (he : starEach (e :: es) X.env = (false, eval e X.env) :: starEach es X.env := by rfl) (hpl : (backTo pos (starEach es X.env)).any (·.1) = false := by rfl) : ME X G (.Call (.Name x p) (e :: es) [] pos) (sCall f sr) := fun ok =>
  pe_imp (pe_callB hc hg hm hv (ha ok) hn hdb he hpl) fun σ H Q h => by
    obtain ⟨p, env, S, rs, rst, g⟩ := h
    exact TAo.bind rs rst g fun H1 p1 S1 ds xs _ rs1 r1 rx g1 => hf G σ H1 p1 S1 ds xs Q r1 rx g1
theorem me_callTy {x : Str} {p : Pos} {id : String} {r : List V → Hp → VK → Prop} {f : Mf} (hc : CallR X (.type id) r) (hf : RfC X.K r f) (hm : X.mg x = none) (hv : bootBuiltins x = some (.type id)) (ha : MA X G (e :: es) sr) (hg : Gl X x := by rfl) (hn : x ≠ "__name__" := by decide) (hdb : (x == ("__debug__" : Str)) = false := by decide)
    (he : starEach (e :: es) X.env = (false, eval e X.env) :: starEach es X.env := by rfl) (hpl : (backTo pos (starEach es X.env)).any (·.1) = false := by rfl) : ME X G (.Call (.Name x p) (e :: es) [] pos) (sCall f sr) := fun ok =>
  pe_imp (pe_callTy hc hg hm hv (ha ok) hn hdb he hpl) fun σ H Q h => by
    obtain ⟨p, env, S, rs, rst, g⟩ := h
    exact TAo.bind rs rst g fun H1 p1 S1 ds xs _ rs1 r1 rx g1 => hf G σ H1 p1 S1 ds xs Q r1 rx g1
end
end Rg
namespace Rg
open PySem PySem.Spec PyProof.Rows L2
theorem RVs.one {K : PySem.W.Frag} {H : Hp} {p : List Addr} {d : D} {xs : List V} (h : RVs K H p [d] xs) : ∃ x, xs = [x] ∧ RV K H p d x := by
  obtain ⟨x, r, rfl, h1, h2⟩ := RVs.cons_iff.mp h
  rw [RVs.nil_iff] at h2
  subst h2
  exact ⟨x, rfl, h1⟩
theorem RVs.two {K : PySem.W.Frag} {H : Hp} {p : List Addr} {d e : D} {xs : List V} (h : RVs K H p [d, e] xs) : ∃ x y, xs = [x, y] ∧ RV K H p d x ∧ RV K H p e y := by
  obtain ⟨x, r, rfl, h1, h2⟩ := RVs.cons_iff.mp h
  obtain ⟨y, rfl, h3⟩ := h2.one
  exact ⟨x, y, rfl, h1, h3⟩
section
variable {X : Cx} {G : Gx} {e a b c : Expr} {pos : Pos} {sa sb : SE} {st su : ST} {es rest : List Expr} {sr : SA}
def fAbs : Mf := fun ds S => match ds with
  | [.int i] => .ok (.int (i.natAbs : Int)) S
  | _ => .bad
def fMax2 : Mf := fun ds S => match ds with
  | [.int i, .int j] => .ok (.int (max i j)) S
  | _ => .bad
theorem rc_max2 {K : PySem.W.Frag} : RfC K (fun xs H Q => ∃ i j, xs = [.int i, .int j] ∧ Q (.int (if j > i then j else i)) H) fMax2 := by
  intro G σ H p S ds xs Q rst rx h
  unfold fMax2 at h
  split at h
  · rename_i i j
    obtain ⟨x, y, rfl, r, r'⟩ := rx.two
    rw [RV.int_iff] at r r'
    subst r r'
    refine ⟨i, j, rfl, h H p .refl rst _ (RV.int_iff.mpr ?_)⟩
    congr 1
    split <;> omega
  · exact h.elim
def fMin2 : Mf := fun ds S => match ds with
  | [.int i, .int j] => .ok (.int (min i j)) S
  | _ => .bad
def fInt : Mf := fun ds S => match ds with
  | [.int i] => .ok (.int i) S
  | [.bl b] => .ok (.int (if b then 1 else 0)) S
  | _ => .bad
theorem rc_int {K : PySem.W.Frag} : RfC K (fun xs H Q => (∃ i, xs = [.int i] ∧ Q (.int i) H) ∨ ∃ k, xs = [.bl k] ∧ Q (.int (if k then 1 else 0)) H) fInt := by
  intro G σ H p S ds xs Q rst rx h
  unfold fInt at h
  split at h
  · obtain ⟨x, rfl, r⟩ := rx.one
    rw [RV.int_iff] at r
    subst r
    exact .inl ⟨_, rfl, h H p .refl rst _ (RV.int_iff.mpr rfl)⟩
  · obtain ⟨x, rfl, r⟩ := rx.one
    rw [RV.bl_iff] at r
    subst r
    exact .inr ⟨_, rfl, h H p .refl rst _ (RV.int_iff.mpr rfl)⟩
  · exact h.elim
def fLen : Mf := fun ds S => match ds with
  | [.tup l] => .ok (.int (l.length : Nat)) S
  | [.ref n] => match lstOf S n with
    | some l => .ok (.int (l.length : Nat)) S
    | none => .bad
  | [.str z] => if z.length ≤ sizeLine then .ok (.int (z.length : Nat)) S else .bad
  | _ => .bad
theorem rc_len {K : PySem.W.Frag} : RfC K (fun xs H Q => (∃ p ys, xs = [.ref p] ∧ (SqL K H p ys ∨ SqT K H p ys) ∧ Q (.int ys.length) H) ∨ ∃ z, xs = [.str z] ∧ z.length ≤ sizeLine ∧ Q (.int z.length) H) fLen := by
  intro G σ H p S ds xs Q rst rx h
  unfold fLen at h
  split at h
  · obtain ⟨x, rfl, r⟩ := rx.one
    obtain ⟨a, ys, rfl, h1, h2⟩ := RV.tup_iff.mp r
    refine .inl ⟨a, ys, rfl, .inr h1, h H p .refl rst _ (RV.int_iff.mpr ?_)⟩
    rw [h2.len]
  · obtain ⟨x, rfl, r⟩ := rx.one
    split at h
    · rename_i l hl
      obtain ⟨a, ys, rfl, h1, h2⟩ := rst.list hl r
      refine .inl ⟨a, ys, rfl, .inl h1, h H p .refl rst _ (RV.int_iff.mpr ?_)⟩
      rw [h2.len]
    · exact h.elim
  · obtain ⟨x, rfl, r⟩ := rx.one
    rw [RV.str_iff] at r
    subst r
    split at h
    · rename_i hz
      exact .inr ⟨_, rfl, hz, h H p .refl rst _ (RV.int_iff.mpr rfl)⟩
    · exact h.elim
  · exact h.elim
def fList : Mf := fun ds S => match ds with
  | [.tup l] => .ok (.ref S.length) (S ++ [.lst l])
  | [.ref n] => match lstOf S n with
    | some l => .ok (.ref S.length) (S ++ [.lst l])
    | none => .bad
  | _ => .bad
def fTuple : Mf := fun ds S => match ds with
  | [.tup l] => .ok (.tup l) S
  | [.ref n] => match lstOf S n with
    | some l => .ok (.tup l) S
    | none => .bad
  | _ => .bad
theorem rc_tuple {K : PySem.W.Frag} : RfC K (fun xs H Q => ∃ p ys, xs = [.ref p] ∧ ((SqL K H p ys ∧ ∀ l, H l = none → Q (.ref l) (upd H l (.tup ys))) ∨ (SqT K H p ys ∧ Q (.ref p) H))) fTuple := by
  intro G σ H p S ds xs Q rst rx h
  unfold fTuple at h
  split at h
  · obtain ⟨x, rfl, r⟩ := rx.one
    obtain ⟨a, ys, rfl, h1, h2⟩ := RV.tup_iff.mp r
    exact ⟨a, ys, rfl, .inr ⟨h1, h H p .refl rst _ r⟩⟩
  · obtain ⟨x, rfl, r⟩ := rx.one
    split at h
    · rename_i l hl
      obtain ⟨a, ys, rfl, h1, h2⟩ := rst.list hl r
      refine ⟨a, ys, rfl, .inl ⟨h1, fun q hq => ?_⟩⟩
      obtain ⟨E, R, r⟩ := rst.newT hq h2
      exact h _ _ E R _ r
    · exact h.elim
  · exact h.elim
def boolsD : List D → Option (List Bool)
  | [] => some []
  | .bl b :: l => (boolsD l).map (b :: ·)
  | _ :: _ => none
def intsD : List D → Option (List Int)
  | [] => some []
  | .int b :: l => (intsD l).map (b :: ·)
  | _ :: _ => none
theorem intsD_eq : ∀ {l : List D} {bs : List Int}, intsD l = some bs → l = bs.map D.int
  | [], _, h => by cases h; rfl
  | .int b :: l, bs, h => by
    simp only [intsD] at h
    cases e : intsD l with
    | none => rw [e] at h; cases h
    | some r => rw [e] at h; cases h; rw [intsD_eq e]; rfl
  | .non :: _, _, h => by cases h
  | .bl _ :: _, _, h => by cases h
  | .str _ :: _, _, h => by cases h
  | .tup _ :: _, _, h => by cases h
  | .ref _ :: _, _, h => by cases h
def lst1 (S : Store) (ds : List D) : Option (List D) := match ds with
  | [.ref n] => lstOf S n
  | _ => none
theorem lst1_of {K : PySem.W.Frag} {H : Hp} {p : List Addr} {S : Store} {ds l : List D} {xs : List V} (R : RSt K H p S) (h : lst1 S ds = some l) (r : RVs K H p ds xs) : ∃ a ys, xs = [.ref a] ∧ SqL K H a ys ∧ RVs K H p l ys := by
  unfold lst1 at h
  split at h
  · obtain ⟨x, rfl, r2⟩ := r.one
    obtain ⟨a, ys, rfl, h1, h2⟩ := R.list h r2
    exact ⟨a, ys, rfl, h1, h2⟩
  · cases h
def fAll : Mf := fun ds S => match (lst1 S ds).bind boolsD with
  | some bs => .ok (.bl (bs.all id)) S
  | none => .bad
def fAny : Mf := fun ds S => match (lst1 S ds).bind boolsD with
  | some bs => .ok (.bl (bs.any id)) S
  | none => .bad
theorem ints_of {K : PySem.W.Frag} {H : Hp} {p : List Addr} {S : Store} {ds : List D} {bs : List Int} {xs : List V} (R : RSt K H p S) (h : (lst1 S ds).bind intsD = some bs) (r : RVs K H p ds xs) : ∃ a, xs = [.ref a] ∧ SqL K H a (bs.map V.int) := by
  cases e : lst1 S ds with
  | none => rw [e] at h; cases h
  | some l =>
    rw [e] at h
    obtain ⟨a, ys, rfl, h1, h2⟩ := lst1_of R e r
    rw [intsD_eq h] at h2
    rw [← h2.all_int]
    exact ⟨a, rfl, h1⟩
def fSum : Mf := fun ds S => match (lst1 S ds).bind intsD with
  | some bs => .ok (.int bs.sum) S
  | none => .bad
theorem rc_sum {K : PySem.W.Frag} : RfC K (rSum K) fSum := by
  intro G σ H p S ds xs Q rst rx h
  unfold fSum at h
  split at h
  · rename_i bs hb
    obtain ⟨a, rfl, h1⟩ := ints_of rst hb rx
    exact ⟨a, bs, rfl, h1, h H p .refl rst _ (RV.int_iff.mpr rfl)⟩
  · exact h.elim
theorem me_max2 {p : Pos} (hm : X.mg "max" = none) (ha : MA X G (e :: es) sr) (hc : X.calm = true := by rfl) (hg : Gl X "max" := by rfl) (he : starEach (e :: es) X.env = (false, eval e X.env) :: starEach es X.env := by rfl) (hpl : (backTo pos (starEach es X.env)).any (·.1) = false := by rfl) :
    ME X G (.Call (.Name "max" p) (e :: es) [] pos) (sCall fMax2 sr) := me_callB (call_max2 hc) rc_max2 hm (by decide +kernel) ha hg (by decide) (by decide) he hpl
theorem me_len {p : Pos} (hm : X.mg "len" = none) (ha : MA X G (e :: es) sr) (hg : Gl X "len" := by rfl) (he : starEach (e :: es) X.env = (false, eval e X.env) :: starEach es X.env := by rfl) (hpl : (backTo pos (starEach es X.env)).any (·.1) = false := by rfl) :
    ME X G (.Call (.Name "len" p) (e :: es) [] pos) (sCall fLen sr) := me_callB (call_len_seq.or call_len_str) rc_len hm (by decide +kernel) ha hg (by decide) (by decide) he hpl
theorem me_sum {p : Pos} (hm : X.mg "sum" = none) (ha : MA X G (e :: es) sr) (hc : X.calm = true := by rfl) (hg : Gl X "sum" := by rfl) (he : starEach (e :: es) X.env = (false, eval e X.env) :: starEach es X.env := by rfl) (hpl : (backTo pos (starEach es X.env)).any (·.1) = false := by rfl) :
    ME X G (.Call (.Name "sum" p) (e :: es) [] pos) (sCall fSum sr) := me_callB (cr_sum hc) rc_sum hm (by decide +kernel) ha hg (by decide) (by decide) he hpl
theorem me_cint {p : Pos} (hm : X.mg "int" = none) (ha : MA X G (e :: es) sr) (hg : Gl X "int" := by rfl) (he : starEach (e :: es) X.env = (false, eval e X.env) :: starEach es X.env := by rfl) (hpl : (backTo pos (starEach es X.env)).any (·.1) = false := by rfl) :
    ME X G (.Call (.Name "int" p) (e :: es) [] pos) (sCall fInt sr) := me_callTy call_int1 rc_int hm (by decide +kernel) ha hg (by decide) (by decide) he hpl
theorem me_ctuple {p : Pos} (hm : X.mg "tuple" = none) (ha : MA X G (e :: es) sr) (hg : Gl X "tuple" := by rfl) (he : starEach (e :: es) X.env = (false, eval e X.env) :: starEach es X.env := by rfl) (hpl : (backTo pos (starEach es X.env)).any (·.1) = false := by rfl) :
    ME X G (.Call (.Name "tuple" p) (e :: es) [] pos) (sCall fTuple sr) := me_callTy call_tuple_of rc_tuple hm (by decide +kernel) ha hg (by decide) (by decide) he hpl
inductive Ty where
  | non | bl | int | str | tup | lst | dct
def Ty.name : Ty → String
  | .non => "NoneType"
  | .bl => "bool"
  | .int => "int"
  | .str => "str"
  | .tup => "tuple"
  | .lst => "list"
  | .dct => "dict"
def Ty.isa : Ty → Ty → Bool
  | .bl, .bl => true
  | .bl, .int => true
  | .int, .int => true
  | .str, .str => true
  | .tup, .tup => true
  | .lst, .lst => true
  | .dct, .dct => true
  | .non, .non => true
  | _, _ => false
theorem Ty.kit (t c : Ty) : kitB t.name c.name = some (t.isa c) := by
  cases t <;> cases c <;> decide +kernel
def tyOf (S : Store) : D → Option Ty
  | .non => some .non
  | .bl _ => some .bl
  | .int _ => some .int
  | .str _ => some .str
  | .tup _ => some .tup
  | .ref n => match S[n]? with
    | some (.lst _) => some .lst
    | some (.fro _) => some .lst
    | some .dct => some .dct
    | _ => none
def fIsi (c : Ty) : D → Store → Res D := fun d S => match tyOf S d with
  | some t => .ok (.bl (t.isa c)) S
  | none => .bad
def fIsi2 (c c' : Ty) : D → Store → Res D := fun d S => match tyOf S d with
  | some t => .ok (.bl (t.isa c || t.isa c')) S
  | none => .bad
abbrev SO := Env → Store → Res (Option Int)
def sNoPart : SO := fun _ S => .ok none S
def sPart (s : SE) : SO := fun env S => (s env S).bind fun d S1 => match d with
  | .int i => .ok (some i) S1
  | _ => .bad
def cutL {α : Type} (xs : List α) (lo hi : Option Int) : List α := (xs.drop (HT.sIx xs.length 0 lo)).take (HT.sIx xs.length xs.length hi - HT.sIx xs.length 0 lo)
def fSl (d : D) (lo hi : Option Int) (S : Store) : Res D := match d with
  | .tup l => .ok (.tup (cutL l lo hi)) S
  | .ref n => match lstOf S n with
    | some l => .ok (.ref S.length) (S ++ [.lst (cutL l lo hi)])
    | none => .bad
  | .str z => if z.length ≤ sizeLine then .ok (.str (cutS z lo hi)) S else .bad
  | _ => .bad
def sSl (s : SE) (lo hi : SO) : SE := fun env S => (s env S).bind fun d S1 => (lo env S1).bind fun l S2 => (hi env S2).bind fun h S3 => fSl d l h S3
def TOo (K : PySem.W.Frag) (G : Gx) (s : SO) : TO := fun σ H Q => ∃ p env S, Rs K H p env σ ∧ RSt K H p S ∧ Good K G σ H p (s env S) fun o _ H' _ => Q o H'
def MO (X : Cx) (G : Gx) (e : Option Expr) (s : SO) : Prop := Cok X G → PO X e (TOo X.K G s)
theorem po_imp {o : Option Expr} {t t' : TO} (h : PO X o t) (hi : ∀ σ H Q, t' σ H Q → t σ H Q) : PO X o t' := ⟨fun pins s σ H Q I q => h.run pins s σ H Q I (hi _ _ _ q)⟩
theorem mo_none : MO X G none sNoPart := fun _ => po_imp po_none fun σ H Q h => by
  obtain ⟨p, env, S, rs, rst, g⟩ := h
  exact g H p .refl rst
theorem mo_some (ha : ME X G a sa) : MO X G (some a) (sPart sa) := fun ok => po_imp (po_some (ha ok)) fun σ H Q h => by
  obtain ⟨p, env, S, rs, rst, g⟩ := h
  refine one rs rst g fun H1 p1 S1 d x _ rs1 r1 rx g1 => ?_
  split at g1
  · rw [RV.int_iff] at rx
    exact ⟨_, rx, g1 H1 p1 .refl r1⟩
  · exact g1.elim
theorem TOo.bind {K : PySem.W.Frag} {A : Type} {so : SO} {f : Option Int → Store → Res A} {σ : L2.St} {H : Hp} {P : A → Store → Hp → List Addr → Prop} {R : Option Int → Hp → Prop} {p : List Addr} {env : Env} {S : Store} (rs : Rs K H p env σ) (rst : RSt K H p S) (g : Good K G σ H p ((so env S).bind f) P)
    (hr : ∀ (H1 : Hp) (p1 : List Addr) (S1 : Store) (o : Option Int), Ext K H H1 p p1 → Rs K H1 p1 env σ → RSt K H1 p1 S1 → Good K G σ H1 p1 (f o S1) P → R o H1) : TOo K G so σ H R :=
  ⟨p, env, S, rs, rst, g.bind.imp fun o S1 H1 p1 e1 r1 g1 => hr H1 p1 S1 o e1 (rs.mono e1) r1 g1⟩
theorem cutV_whole {α : Type} {xs : List α} {lo hi : Option Int} (h : HT.sIx xs.length 0 lo = 0 ∧ HT.sIx xs.length xs.length hi = xs.length) : cutL xs lo hi = xs := by
  unfold cutL
  rw [h.1, h.2]
  simp
theorem RVs.cut {K : PySem.W.Frag} {H : Hp} {p : List Addr} {l : List D} {xs : List V} (h : RVs K H p l xs) (lo hi : Option Int) : RVs K H p (cutL l lo hi) (cutV xs lo hi) := by
  unfold cutL cutV
  rw [h.len]
  exact (h.drop _).take _
theorem me_slice {lo hi : Option Expr} {so1 so2 : SO} {p2 : Pos} (ha : ME X G a sa) (hl : MO X G lo so1) (hh : MO X G hi so2) : ME X G (.Subscript a (.Slice lo hi none p2) pos) (sSl sa so1 so2) := fun ok =>
  pe_imp (pe_slice (sl_tupA.or (sl_list.or sl_str)) (ha ok) (hl ok) (hh ok)) fun σ H Q h => by
    obtain ⟨p, env, S, rs, rst, g⟩ := h
    refine one rs rst g fun H1 p1 S1 d x _ rs1 r1 rx g1 => ?_
    refine TOo.bind rs1 r1 g1 fun H2 p2 S2 o1 e2 rs2 r2 g2 => ?_
    refine TOo.bind rs2 r2 g2 fun H3 p3 S3 o2 e3 rs3 r3 g3 => ?_
    have rx3 := RV.mono (e2.trans e3) _ _ rx
    unfold fSl at g3
    split at g3
    · rename_i l
      obtain ⟨a, xs, rfl, h1, h2⟩ := RV.tup_iff.mp rx3
      refine .inl ⟨a, xs, rfl, h1, fun hw => ?_, fun _ q hq => ?_⟩
      · rw [← h2.len] at hw
        rw [cutV_whole hw] at g3
        exact g3 H3 p3 .refl r3 _ rx3
      · obtain ⟨E, R, r⟩ := r3.newT hq (h2.cut o1 o2)
        exact g3 _ _ E R _ r
    · split at g3
      · rename_i l hl
        obtain ⟨a, xs, rfl, h1, h2⟩ := r3.list hl rx3
        refine .inr (.inl ⟨a, xs, rfl, h1, fun q hq => ?_⟩)
        obtain ⟨E, R, r⟩ := r3.newL hq (h2.cut o1 o2)
        exact g3 _ _ E R _ r
      · exact g3.elim
    · split at g3
      · rename_i hz
        rw [RV.str_iff] at rx3
        exact .inr (.inr ⟨_, rx3, hz, g3 H3 p3 .refl r3 _ (RV.str_iff.mpr rfl)⟩)
      · exact g3.elim
    · exact g3.elim
end
end Rg
namespace Rg
open PySem PySem.Spec PyProof.Rows L2
section
variable {X : Cx} {G : Gx} {e a b c o : Expr} {pos : Pos} {sa sb so : SE} {st su : ST} {es rest : List Expr} {sr : SA}
def isLst (S : Store) : D → Bool
  | .ref n => (lstOf S n).isSome
  | _ => false
def sMethL (f : D → List D → Store → Res D) (so : SE) (sr : SA) : SE := fun env S => (so env S).bind fun d S1 => if isLst S1 d = true then (sr env S1).bind fun ds S2 => f d ds S2 else .bad
def RfM (K : PySem.W.Frag) (r : V → List V → Hp → VK → Prop) (f : D → List D → Store → Res D) : Prop := ∀ (G : Gx) (σ : L2.St) (H : Hp) (p : List Addr) (S : Store) (d : D) (x : V) (ds : List D) (xs : List V) (Q : VK), RSt K H p S → RV K H p d x → RVs K H p ds xs → Good K G σ H p (f d ds S) (PV K Q) → r x xs H Q
theorem isLst_ty {K : PySem.W.Frag} {H : Hp} {p : List Addr} {S : Store} {d : D} {x : V} (R : RSt K H p S) (h : isLst S d = true) (r : RV K H p d x) : tyV K "list" x H := by
  cases d with
  | ref n =>
    have h : (lstOf S n).isSome = true := h
    obtain ⟨l, hl⟩ := Option.isSome_iff_exists.mp h
    obtain ⟨a, xs, rfl, h1, h2⟩ := R.list hl r
    exact .inl ⟨rfl, xs, h1⟩
  | _ => cases h
theorem me_bmL {name : Str} {id : String} {apos : Pos} {r : V → List V → Hp → VK → Prop} {f : D → List D → Store → Res D} (slot : Slot "list" name id) (hty : typeOf (.builtin id) = pure (.type "method_descriptor")) (hm : MtR X id r) (hf : RfM X.K r f) (ho : ME X G o so) (ha : MA X G (e :: es) sr)
    (hbase : attributeBase o name X.env (eval o X.env) = eval o X.env)
    (hfew : ((backTo pos (starEach (e :: es) X.env)).all (fun x => !x.1) && (backToKw pos (keywordEach [] X.env)).all (fun x => x.1.isSome)
      && decide ((e :: es).length + ([] : List Keyword).length + (if ([] : List Keyword).isEmpty then 0 else 1) < 30)) = true)
    (hline : (apos.endLine == pos.line) = true) (hs : starEach (e :: es) X.env = (false, eval e X.env) :: starEach es X.env) (hplain : (backTo pos (starEach es X.env)).any (·.1) = false) :
    ME X G (.Call (.Attribute o name apos) (e :: es) [] pos) (sMethL f so sr) := fun ok =>
  pe_imp (pe_bm PySem.F.plainAttrs_list slot hty hm (ho ok) (ha ok) hbase hfew hline hs hplain) fun σ H Q h => by
    obtain ⟨p, env, S, rs, rst, g⟩ := h
    refine one rs rst g fun H1 p1 S1 d x _ rs1 r1 rx g1 => ?_
    split at g1
    · rename_i hl
      refine ⟨isLst_ty r1 hl rx, TAo.bind rs1 r1 g1 fun H2 p2 S2 ds xs e2 rs2 r2 rxs g2 => ?_⟩
      exact hf G σ H2 p2 S2 d x ds xs Q r2 (RV.mono e2 _ _ rx) rxs g2
    · exact g1.elim
theorem me_bmL0 {name : Str} {id : String} {apos : Pos} {r : V → List V → Hp → VK → Prop} {f : D → List D → Store → Res D} (slot : Slot "list" name id) (hty : typeOf (.builtin id) = pure (.type "method_descriptor")) (hm : MtR X id r) (hf : RfM X.K r f) (ho : ME X G o so)
    (hbase : attributeBase o name X.env (eval o X.env) = eval o X.env) (hline : (apos.endLine == pos.line) = true) :
    ME X G (.Call (.Attribute o name apos) [] [] pos) (sMethL f so sNil) := fun ok =>
  pe_imp (pe_bm0 PySem.F.plainAttrs_list slot hty hm (ho ok) hbase hline) fun σ H Q h => by
    obtain ⟨p, env, S, rs, rst, g⟩ := h
    refine one rs rst g fun H1 p1 S1 d x _ rs1 r1 rx g1 => ?_
    split at g1
    · rename_i hl
      exact ⟨isLst_ty r1 hl rx, hf G σ H1 p1 S1 d x [] [] Q r1 rx RVs.nil g1⟩
    · exact g1.elim
def fAppend : D → List D → Store → Res D := fun d ds S => match d, ds with
  | .ref n, [y] => match S[n]? with
    | some (.lst l) => if l.length < sizeLine then .ok .non (S.set n (.lst (l ++ [y]))) else .bad
    | _ => .bad
  | _, _ => .bad
theorem rm_append {K : PySem.W.Frag} : RfM K rAppend fAppend := by
  intro G σ H p S d x ds xs Q rst rx rxs h
  unfold fAppend at h
  split at h
  · rename_i n y
    split at h
    · rename_i l hl
      split at h
      · rename_i hz
        obtain ⟨a, rfl, e⟩ := RV.ref_iff.mp rx
        obtain ⟨v, rfl, rv⟩ := rxs.one
        obtain ⟨zs, h1, h2⟩ := rst.cell n _ a hl e
        obtain ⟨E, R⟩ := rst.setL hl e (h2.app (RVs.cons rv RVs.nil))
        exact ⟨a, zs, v, rfl, rfl, h1, by rw [← h2.len]; exact hz, h _ _ E R _ (RV.non_iff.mpr rfl)⟩
      · exact h.elim
    · exact h.elim
  · exact h.elim
def fExtend : D → List D → Store → Res D := fun d ds S => match d, ds with
  | .ref n, [.ref m] => match S[n]?, S[m]? with
    | some (.lst l), some (.lst z) => if l.length + z.length ≤ sizeLine then .ok .non (S.set n (.lst (l ++ z))) else .bad
    | _, _ => .bad
  | _, _ => .bad
def fPop : D → List D → Store → Res D := fun d ds S => match d, ds with
  | .ref n, [] => match S[n]? with
    | some (.lst l) => match l[l.length - 1]? with
      | some y => .ok y (S.set n (.lst l.dropLast))
      | none => .bad
    | _ => .bad
  | _, _ => .bad
theorem RVs.dropLast {K : PySem.W.Frag} {H : Hp} {p : List Addr} {l : List D} {xs : List V} (h : RVs K H p l xs) : RVs K H p l.dropLast xs.dropLast := by
  rw [List.dropLast_eq_take, List.dropLast_eq_take, ← h.len]
  exact h.take _
theorem rm_pop {K : PySem.W.Frag} : RfM K rPop fPop := by
  intro G σ H p S d x ds xs Q rst rx rxs h
  unfold fPop at h
  split at h
  · rename_i n
    split at h
    · rename_i l hl
      split at h
      · rename_i y hy
        obtain ⟨a, rfl, e⟩ := RV.ref_iff.mp rx
        have q := RVs.nil_iff.mp rxs
        subst q
        obtain ⟨zs, h1, h2⟩ := rst.cell n _ a hl e
        obtain ⟨v, e1, e2⟩ := h2.get hy
        obtain ⟨E, R⟩ := rst.setL hl e h2.dropLast
        exact ⟨a, zs, v, rfl, rfl, h1, by rw [← h2.len]; exact e1, h _ _ E R _ (RV.mono E _ _ e2)⟩
      · exact h.elim
    · exact h.elim
  · exact h.elim
def fReverse : D → List D → Store → Res D := fun d ds S => match d, ds with
  | .ref n, [] => match S[n]? with
    | some (.lst l) => .ok .non (S.set n (.lst l.reverse))
    | _ => .bad
  | _, _ => .bad
theorem me_append {apos : Pos} (ho : ME X G o so) (ha : MA X G (e :: es) sr)
    (hbase : attributeBase o "append" X.env (eval o X.env) = eval o X.env := by rfl)
    (hfew : ((backTo pos (starEach (e :: es) X.env)).all (fun x => !x.1) && (backToKw pos (keywordEach [] X.env)).all (fun x => x.1.isSome)
      && decide ((e :: es).length + ([] : List Keyword).length + (if ([] : List Keyword).isEmpty then 0 else 1) < 30)) = true := by rfl)
    (hline : (apos.endLine == pos.line) = true := by rfl) (hs : starEach (e :: es) X.env = (false, eval e X.env) :: starEach es X.env := by rfl) (hplain : (backTo pos (starEach es X.env)).any (·.1) = false := by rfl) :
    ME X G (.Call (.Attribute o "append" apos) (e :: es) [] pos) (sMethL fAppend so sr) := me_bmL PySem.F.slot_list_append PySem.F.type_list_append mt_append rm_append ho ha hbase hfew hline hs hplain
theorem me_pop {apos : Pos} (ho : ME X G o so) (hbase : attributeBase o "pop" X.env (eval o X.env) = eval o X.env := by rfl) (hline : (apos.endLine == pos.line) = true := by rfl) :
    ME X G (.Call (.Attribute o "pop" apos) [] [] pos) (sMethL fPop so sNil) := me_bmL0 PySem.F.slot_list_pop PySem.F.type_list_pop mt_pop rm_pop ho hbase hline
def fBits : D → Store → Res D := fun d S => match d with
  | .int i => .ok (.int (Builtin.Int.intBits i : Nat)) S
  | _ => .bad
def fRevL : D → Store → Res D := fun d S => match d with
  | .ref n => match lstOf S n with
    | some l => .ok (.ref S.length) (S ++ [.lst l.reverse])
    | none => .bad
  | _ => .bad
theorem me_revL {k : Nat} {p1 p2 p3 : Pos} (ha : ME X G a sa) : ME X G (.Subscript a (.Slice none none (some (.UnaryOp .USub (.Constant (.int 1) k p1) p2)) p3) pos) (s1 fRevL sa) := fun ok =>
  pe_imp (pe_revL (ha ok)) fun σ H Q h => by
    obtain ⟨p, env, S, rs, rst, g⟩ := h
    refine one rs rst g fun H1 p1 S1 d x _ rs1 r1 rx g1 => ?_
    unfold fRevL at g1
    split at g1
    · split at g1
      · rename_i l hl
        obtain ⟨a, xs, rfl, h1, h2⟩ := r1.list hl rx
        refine ⟨a, xs, rfl, h1, fun q hq => ?_⟩
        obtain ⟨E, R, r⟩ := r1.newL hq h2.rev
        exact g1 _ _ E R _ r
      · exact g1.elim
    · exact g1.elim
def fIn (neg : Bool) : D → D → Store → Res D := fun d e S => match toP S 60 d, toP S 60 e with
  | some x, some (.list ds) => .ok (.bl (if neg then !ds.any fun z => PyData.eqv z x else ds.any fun z => PyData.eqv z x)) S
  | _, _ => .bad
theorem room65 {k : Nat} {A : Around} (hr : Room (k + 1) A) : A.units + 65 < cLine := by
  have := hr.un
  omega
end
inductive ResS where
  | nx (e : Env) (S : Store) | rt (d : D) (S : Store) | bk (e : Env) (S : Store) | ct (e : Env) (S : Store) | exc (c : Str) (e : Env) (S : Store) | bad
abbrev SS := Env → Store → ResS
def GoodS (K : PySem.W.Frag) (G : Gx) (H : Hp) (p : List Addr) (r : ResS) (E : Ends) : Prop := match r with
  | .nx e S' => ∀ σ' H' p', Ext K H H' p p' → Rs K H' p' e σ' → RSt K H' p' S' → E.nx σ' H'
  | .bk e S' => ∀ σ' H' p', Ext K H H' p p' → Rs K H' p' e σ' → RSt K H' p' S' → E.bk σ' H'
  | .ct e S' => ∀ σ' H' p', Ext K H H' p p' → Rs K H' p' e σ' → RSt K H' p' S' → E.ct σ' H'
  | .rt d S' => ∀ v H' p', Ext K H H' p p' → RSt K H' p' S' → RV K H' p' d v → E.rt v H'
  | .exc c e S' => ∀ σ' H' p', Ext K H H' p p' → Rs K H' p' e σ' → RSt K H' p' S' → G.W (G.xv c) none σ' H'
  | .bad => False
def TSo (K : PySem.W.Frag) (G : Gx) (s : SS) : TS := fun E σ H => ∃ p env S, Rs K H p env σ ∧ RSt K H p S ∧ GoodS K G H p (s env S) E
def MS (X : Cx) (G : Gx) (st : Stmt) (s : SS) : Prop := Cok X G → PS X st (TSo X.K G s)
def MSs (X : Cx) (G : Gx) (st : List Stmt) (s : SS) : Prop := Cok X G → PSs X st (TSo X.K G s)
theorem ps_imp {X : Cx} {st : Stmt} {t t' : TS} (h : PS X st t) (hi : ∀ E σ H, t' E σ H → t E σ H) : PS X st t' := ⟨fun pins s σ H E I q => h.run pins s σ H E I (hi _ _ _ q)⟩
theorem pss_imp {X : Cx} {st : List Stmt} {t t' : TS} (h : PSs X st t) (hi : ∀ E σ H, t' E σ H → t E σ H) : PSs X st t' := ⟨fun pins s σ H E I q => h.run pins s σ H E I (hi _ _ _ q)⟩
theorem GoodS.at {K : PySem.W.Frag} {G : Gx} {H H1 : Hp} {p p1 : List Addr} {r : ResS} {E : Ends} (e : Ext K H H1 p p1) (h : GoodS K G H p r E) : GoodS K G H1 p1 r E := by
  cases r with
  | nx a S => exact fun σ' H' p' x => h σ' H' p' (e.trans x)
  | bk a S => exact fun σ' H' p' x => h σ' H' p' (e.trans x)
  | ct a S => exact fun σ' H' p' x => h σ' H' p' (e.trans x)
  | rt a S => exact fun σ' H' p' x => h σ' H' p' (e.trans x)
  | exc c a S => exact fun σ' H' p' x => h σ' H' p' (e.trans x)
  | bad => exact h
def Res.andS {A : Type} (r : Res A) (env : Env) (f : A → Store → ResS) : ResS := match r with
  | .ok a S => f a S
  | .exc c S => .exc c env S
  | .bad => .bad
@[simp] theorem andS_ok {A : Type} (a : A) (S : Store) (env : Env) (f : A → Store → ResS) : (Res.ok a S).andS env f = f a S := rfl
@[simp] theorem andS_exc {A : Type} (c : Str) (S : Store) (env : Env) (f : A → Store → ResS) : (Res.exc c S).andS env f = .exc c env S := rfl
@[simp] theorem andS_bad {A : Type} (env : Env) (f : A → Store → ResS) : (Res.bad).andS env f = .bad := rfl
theorem GoodS.and {K : PySem.W.Frag} {G : Gx} {A : Type} {r : Res A} {env : Env} {f : A → Store → ResS} {σ : L2.St} {H : Hp} {p : List Addr} {E : Ends} (rs : Rs K H p env σ) (h : GoodS K G H p (r.andS env f) E) :
    Good K G σ H p r fun a S1 H1 p1 => Rs K H1 p1 env σ ∧ RSt K H1 p1 S1 ∧ GoodS K G H1 p1 (f a S1) E := by
  cases r with
  | ok a S => exact fun H' p' x q => ⟨rs.mono x, q, h.at x⟩
  | exc c S => exact fun H' p' x q => h σ H' p' x (rs.mono x) q
  | bad => exact h
section
variable {X : Cx} {G : Gx} {e a b c o : Expr} {pos : Pos} {sa sb so : SE} {st su : ST} {es : List Expr} {sr : SA} {s t : SS} {x : Stmt} {rest xs ys : List Stmt}
def sSkip : SS := fun env S => .nx env S
def sSeq (s t : SS) : SS := fun env S => match s env S with
  | .nx e S1 => t e S1
  | r => r
theorem mss_nil : MSs X G [] sSkip := fun _ => pss_imp pss_nil fun E σ H h => by
  obtain ⟨p, env, S, rs, rst, g⟩ := h
  exact g σ H p .refl rs rst
theorem seq_of {K : PySem.W.Frag} {E : Ends} {σ : L2.St} {H : Hp} (h : TSo K G (sSeq s t) E σ H) : TSo K G s { E with nx := TSo K G t E } σ H := by
  obtain ⟨p, env, S, rs, rst, g⟩ := h
  refine ⟨p, env, S, rs, rst, ?_⟩
  unfold sSeq at g
  cases hs : s env S with
  | nx e1 S1 =>
    rw [hs] at g
    exact fun σ' H' p' x rs' rst' => ⟨p', e1, S1, rs', rst', g.at x⟩
  | bk e1 S1 => rw [hs] at g; exact g
  | ct e1 S1 => rw [hs] at g; exact g
  | rt e1 S1 => rw [hs] at g; exact g
  | exc c e1 S1 => rw [hs] at g; exact g
  | bad => rw [hs] at g; exact g
theorem mss_cons (h1 : MS X G x s) (h2 : MSs X G rest t) : MSs X G (x :: rest) (sSeq s t) := fun ok => pss_imp (pss_cons (h1 ok) (h2 ok)) fun E σ H h => seq_of h
theorem mss_one (h1 : MS X G x s) : MSs X G [x] s := fun ok => pss_one (h1 ok)
def sBreak : SS := fun env S => .bk env S
def sCont : SS := fun env S => .ct env S
def sNever : SS := fun _ _ => .bad
theorem ms_never : MS X G x sNever := fun _ => ps_imp ps_never fun E σ H h => by
  obtain ⟨p, env, S, rs, rst, g⟩ := h
  exact g.elim
def sDrop (s : SE) : SS := fun env S => (s env S).andS env fun _ S1 => .nx env S1
theorem ms_expr (he : ME X G e sa) (hs : swapsWith e none pos.line X.env = pure false := by rfl) : MS X G (.Expr e pos) (sDrop sa) := fun ok => ps_imp (ps_expr (he ok) hs) fun E σ H h => by
  obtain ⟨p, env, S, rs, rst, g⟩ := h
  exact ⟨p, env, S, rs, rst, (g.and rs).imp fun d S1 H1 p1 e1 r1 g1 v rv => g1.2.2 σ H1 p1 .refl g1.1 g1.2.1⟩
def sRet (s : SE) : SS := fun env S => (s env S).andS env fun d S1 => .rt d S1
theorem ms_ret (he : ME X G e sa) : MS X G (.Return (some e) pos) (sRet sa) := fun ok => ps_imp (ps_ret (he ok)) fun E σ H h => by
  obtain ⟨p, env, S, rs, rst, g⟩ := h
  exact ⟨p, env, S, rs, rst, (g.and rs).imp fun d S1 H1 p1 e1 r1 g1 v rv => g1.2.2 v H1 p1 .refl g1.2.1 rv⟩
def sRetN : SS := fun _ S => .rt .non S
def sIfS (c : ST) (s t : SS) : SS := fun env S => (c env S).andS env fun b S1 => if b = true then s env S1 else t env S1
theorem ms_if (hc : MT X G c st) (ha : MSs X G xs s) (hb : MSs X G ys t) : MS X G (.If c xs ys pos) (sIfS st s t) := fun ok => ps_imp (ps_if (hc ok) (ha ok) (hb ok)) fun E σ H h => by
  obtain ⟨p, env, S, rs, rst, g⟩ := h
  refine ⟨p, env, S, rs, rst, (g.and rs).imp fun b S1 H1 p1 e1 r1 g1 => ?_⟩
  obtain ⟨q1, q2, q3⟩ := g1
  cases b with
  | true => exact ⟨p1, env, S1, q1, q2, q3⟩
  | false => exact ⟨p1, env, S1, q1, q2, q3⟩
abbrev SG := D → Env → Store → Option Env
def TgOk (K : PySem.W.Frag) (vs : List Nat) (g : TG) (sg : SG) : Prop := ∀ (σ : L2.St) (H : Hp) (p : List Addr) (env env' : Env) (S : Store) (d : D) (v : V) (Q : L2.St → Hp → Prop), Rs K H p env σ → RSt K H p S → RV K H p d v → sg d env S = some env' →
  (∀ σ', Rs K H p env' σ' → (∀ ws : List Nat, (∀ i ∈ vs, i ∈ ws) → wipe σ' ws = wipe σ ws) → Q σ' H) → g v σ H Q
def TgsOk (K : PySem.W.Frag) (vs : List Nat) (g : TGs) (sg : List D → Env → Store → Option Env) : Prop := ∀ (σ : L2.St) (H : Hp) (p : List Addr) (env env' : Env) (S : Store) (ds : List D) (xs : List V) (Q : L2.St → Hp → Prop), Rs K H p env σ → RSt K H p S → RVs K H p ds xs → sg ds env S = some env' →
  (∀ σ', Rs K H p env' σ' → (∀ ws : List Nat, (∀ i ∈ vs, i ∈ ws) → wipe σ' ws = wipe σ ws) → Q σ' H) → g xs σ H Q
def gN (i : Nat) : SG := fun d env _ => some (env.set i (some d))
def gsNil : List D → Env → Store → Option Env := fun ds env _ => match ds with
  | [] => some env
  | _ => none
def gsCons (g : SG) (r : List D → Env → Store → Option Env) : List D → Env → Store → Option Env := fun ds env S => match ds with
  | d :: l => (g d env S).bind fun e => r l e S
  | [] => none
def gT (n : Nat) (r : List D → Env → Store → Option Env) : SG := fun d env S => match d with
  | .tup l => if l.length = n then r l env S else none
  | _ => none
theorem wipe_set {σ : L2.St} {i : Nat} {o : Option V} : ∀ {ws : List Nat}, i ∈ ws → wipe (σ.set i o) ws = wipe σ ws
  | [], h => by cases h
  | w :: ws, h => by
    unfold wipe
    by_cases hi : i ∈ ws
    · rw [wipe_set hi]
    · have e : i = w := (List.mem_cons.mp h).resolve_right hi
      subst e
      have k : ∀ (l : List Nat), i ∉ l → ∀ τ : L2.St, wipe (τ.set i o) l = (wipe τ l).set i o := by
        intro l
        induction l with
        | nil => intro _ _; rfl
        | cons w l ih =>
          intro hn τ
          unfold wipe
          rw [ih (fun z => hn (List.mem_cons_of_mem _ z)), List.set_comm _ _ (fun z => hn (by simp [z]))]
      rw [k ws hi, List.set_set]
theorem tg_name (K : PySem.W.Frag) (i : Nat) : TgOk K [i] (gName i) (gN i) := by
  intro σ H p env env' S d v Q rs rst r e k
  cases e
  exact k _ (rs.set i r) fun ws hw => wipe_set (hw i (by simp))
theorem tgs_nil (K : PySem.W.Frag) : TgsOk K [] gNil gsNil := by
  intro σ H p env env' S ds xs Q rs rst r e k
  unfold gsNil at e
  split at e
  · cases e
    exact ⟨RVs.nil_iff.mp r, k σ rs fun _ _ => rfl⟩
  · cases e
theorem tgs_cons {K : PySem.W.Frag} {vs ws : List Nat} {g : TG} {gr : TGs} {sg : SG} {sgr : List D → Env → Store → Option Env} (h1 : TgOk K vs g sg) (h2 : TgsOk K ws gr sgr) : TgsOk K (vs ++ ws) (gCons g gr) (gsCons sg sgr) := by
  intro σ H p env env' S ds xs Q rs rst r e k
  unfold gsCons at e
  split at e
  · rename_i d l
    obtain ⟨x, xs', rfl, r1, r2⟩ := RVs.cons_iff.mp r
    cases he : sg d env S with
    | none => rw [he] at e; cases e
    | some env1 =>
      rw [he] at e
      refine ⟨x, xs', rfl, h1 σ H p env env1 S d x _ rs rst r1 he fun σ1 rs1 w1 => ?_⟩
      exact h2 σ1 H p env1 env' S l xs' Q rs1 rst r2 e fun σ2 rs2 w2 => k σ2 rs2 fun us hu => (w2 us fun i hi => hu i (List.mem_append_right _ hi)).trans (w1 us fun i hi => hu i (List.mem_append_left _ hi))
  · cases e
theorem tg_tup {K : PySem.W.Frag} {vs : List Nat} {n : Nat} {g : TGs} {sg : List D → Env → Store → Option Env} (h : TgsOk K vs g sg) : TgOk K vs (gTup K n g) (gT n sg) := by
  intro σ H p env env' S d v Q rs rst r e k
  unfold gT at e
  split at e
  · split at e
    · rename_i l hl
      obtain ⟨a, xs, rfl, h1, h2⟩ := RV.tup_iff.mp r
      exact ⟨a, xs, rfl, h1, by rw [← h2.len]; exact hl, h σ H p env env' S l xs Q rs rst h2 e k⟩
    · cases e
  · cases e
def sAsg (s : SE) (g : SG) : SS := fun env S => (s env S).andS env fun d S1 => match g d env S1 with
  | some e => .nx e S1
  | none => .bad
theorem ms_asg {tg : Expr} {g : TG} {sg : SG} {vs : List Nat} (he : ME X G e sa) (hg : PG X tg g) (ht : TgOk X.K vs g sg) (hs : swapsWithSole [tg] e pos.line X.env = pure false := by rfl) (hw : swappedStores [tg] e X.env = pure none := by rfl)
    (h1 : (assignEach [tg] X.env).map (·.2) = [assign tg X.env] := by rfl) : MS X G (.Assign [tg] e pos) (sAsg sa sg) := fun ok => ps_imp (ps_asg (he ok) hg hs hw h1) fun E σ H h => by
  obtain ⟨p, env, S, rs, rst, g⟩ := h
  refine ⟨p, env, S, rs, rst, (g.and rs).imp fun d S1 H1 p1 e1 r1 g1 v rv => ?_⟩
  obtain ⟨q1, q2, q3⟩ := g1
  split at q3
  · rename_i env' he
    exact ht σ H1 p1 env env' S1 d v _ q1 q2 rv he fun σ' rs' _ => q3 σ' H1 p1 .refl rs' q2
  · exact q3.elim
def sSet (i : Nat) (s : SE) : SS := fun env S => (s env S).andS env fun d S1 => .nx (env.set i (some d)) S1
theorem ms_set {i : Nat} {x : Str} {pos' : Pos} (hN : X.N.Nodup) (he : ME X G e sa) (hi : X.N[i]? = some x := by rfl) (hx : Loc X.env.scope x := by first | exact Or.inl rfl | exact Or.inr rfl) (hs : swapsWith e (some (.Name x pos')) pos.line X.env = pure false := by rfl) (hf : X.fn x = true ∨ X.env.scope.names.lookup x = some .local := by first | exact .inl rfl | exact .inr rfl) :
    MS X G (.Assign [.Name x pos'] e pos) (sSet i sa) := fun ok => ps_imp (ps_set hN hi hx (he ok) hs hf) fun E σ H h => by
  obtain ⟨p, env, S, rs, rst, g⟩ := h
  exact ⟨p, env, S, rs, rst, (g.and rs).imp fun d S1 H1 p1 e1 r1 g1 v rv => g1.2.2 _ H1 p1 .refl (g1.1.set i rv) g1.2.1⟩
def sPar (i j : Nat) (s : SA) : SS := fun env S => (s env S).andS env fun ds S1 => match ds with
  | [d, e] => .nx ((env.set i (some d)).set j (some e)) S1
  | _ => .bad
theorem ms_par {i j : Nat} {x y : Str} {px py pt : Pos} {kt k2 pt2} (hN : X.N.Nodup) (ha : MA X G [a, b] sr) (hi : X.N[i]? = some x := by rfl) (hj : X.N[j]? = some y := by rfl) (hij : i ≠ j := by decide)
    (hx : X.env.scope.names.lookup x = some .local := by rfl) (hy : X.env.scope.names.lookup y = some .local := by rfl)
    (hw : swappedStores [.Tuple [.Name x px, .Name y py] kt pt] (.Tuple [a, b] k2 pt2) X.env = pure (some [x, y]) := by rfl) (hc : X.calm = true := by rfl)
    (hs : swapsWithSole [.Tuple [.Name x px, .Name y py] kt pt] (.Tuple [a, b] k2 pt2) pos.line X.env = pure false := by rfl) :
    MS X G (.Assign [.Tuple [.Name x px, .Name y py] kt pt] (.Tuple [a, b] k2 pt2) pos) (sPar i j sr) := fun ok => ps_imp (ps_par hc hN hi hj hij hx hy (ha ok) hw hs) fun E σ H h => by
  obtain ⟨p, env, S, rs, rst, g⟩ := h
  refine ⟨p, env, S, rs, rst, (g.and rs).imp fun ds S1 H1 p1 e1 r1 g1 xs rx => ?_⟩
  obtain ⟨q1, q2, q3⟩ := g1
  split at q3
  · obtain ⟨v, w, rfl, rv, rw'⟩ := rx.two
    exact ⟨v, w, rfl, q3 _ H1 p1 .refl ((q1.set i rv).set j rw') q2⟩
  · exact q3.elim
def sPar3 (i j l : Nat) (s : SA) : SS := fun env S => (s env S).andS env fun ds S1 => match ds with
  | [d, e, f] => .nx (((env.set i (some d)).set j (some e)).set l (some f)) S1
  | _ => .bad
def sSetIx (se so si : SE) : SS := fun env S => (se env S).andS env fun d S1 => (so env S1).andS env fun o S2 => (si env S2).andS env fun i S3 => match o, i with
  | .ref n, .int k => match S3[n]? with
    | some (.lst l) => match ixN l.length k with
      | some j => .nx env (S3.set n (.lst (l.set j d)))
      | none => .bad
    | _ => .bad
  | _, _ => .bad
theorem ms_setIx {i : Expr} {si : SE} {tpos : Pos} (he : ME X G e sa) (ho : ME X G o so) (hi : ME X G i si) (hp : ∀ v, assign (.Subscript o i tpos) X.env v = (do
      let ov ← holding [v] (eval o X.env)
      let iv ← holding [v, ov] (eval i X.env)
      standAt tpos
      holding [v, ov, iv] (setItem ov iv v)
      release [v, ov, iv] []) := by intro _; rfl) (hs : swapsWithSole [.Subscript o i tpos] e pos.line X.env = pure false := by rfl) (hw : swappedStores [.Subscript o i tpos] e X.env = pure none := by rfl)
    (h1 : (assignEach [.Subscript o i tpos] X.env).map (·.2) = [assign (.Subscript o i tpos) X.env] := by rfl) : MS X G (.Assign [.Subscript o i tpos] e pos) (sSetIx sa so si) := fun ok => ps_imp (ps_asg (he ok) (pg_sub (ho ok) (hi ok) set_list hp) hs hw h1) fun E σ H h => by
  obtain ⟨p, env, S, rs, rst, g⟩ := h
  refine ⟨p, env, S, rs, rst, (g.and rs).imp fun d S1 H1 p1 e1 r1 g1 v rv => ?_⟩
  obtain ⟨q1, q2, q3⟩ := g1
  refine ⟨p1, env, S1, q1, q2, (q3.and q1).imp fun od S2 H2 p2 e2 r2 g2 ov rov => ?_⟩
  obtain ⟨q4, q5, q6⟩ := g2
  refine ⟨p2, env, S2, q4, q5, (q6.and q4).imp fun id S3 H3 p3 e3 r3 g3 iv riv => ?_⟩
  obtain ⟨q7, q8, q9⟩ := g3
  split at q9
  · rename_i n k
    split at q9
    · rename_i l hl
      split at q9
      · rename_i j hj
        have ro := RV.mono e3 _ _ rov
        have rd := RV.mono (e2.trans e3) _ _ rv
        obtain ⟨a, rfl, ea⟩ := RV.ref_iff.mp ro
        rw [RV.int_iff] at riv
        obtain ⟨xs, x1, x2⟩ := q8.cell n _ a hl ea
        obtain ⟨E', R'⟩ := q8.setL hl ea (x2.set j rd)
        exact ⟨a, xs, k, j, rfl, riv, x1, by rw [← x2.len]; exact hj, q9 σ _ p3 E' (q7.mono E') R'⟩
      · exact q9.elim
    · exact q9.elim
  · exact q9.elim
end
end Rg
namespace Rg
open PySem PySem.Spec PyProof.Rows L2
end Rg
namespace Rg
open PySem PySem.Spec PyProof.Rows L2
def runW (c : ST) (b : SS) : Nat → Env → Store → Option ResS
  | 0, _, _ => none
  | n + 1, env, S => match c env S with
    | .ok true S1 => match b env S1 with
      | .nx e S2 => runW c b n e S2
      | .ct e S2 => runW c b n e S2
      | .bk e S2 => some (.nx e S2)
      | .rt d S2 => some (.rt d S2)
      | .exc x e S2 => some (.exc x e S2)
      | .bad => some .bad
    | .ok false S1 => some (.nx env S1)
    | .exc x S1 => some (.exc x env S1)
    | .bad => some .bad
theorem runW_succ {c : ST} {b : SS} : ∀ {n : Nat} {env : Env} {S : Store} {r : ResS}, runW c b n env S = some r → runW c b (n + 1) env S = some r
  | 0, _, _, _, h => by cases h
  | n + 1, env, S, r, h => by
    unfold runW at h ⊢
    cases hc : c env S with
    | ok k S1 =>
      rw [hc] at h
      cases k with
      | false => exact h
      | true =>
        dsimp only at h ⊢
        cases hb : b env S1 with
        | nx e S2 => rw [hb] at h; exact runW_succ (n := n) h
        | ct e S2 => rw [hb] at h; exact runW_succ (n := n) h
        | bk e S2 => rw [hb] at h; exact h
        | rt e S2 => rw [hb] at h; exact h
        | exc x e S2 => rw [hb] at h; exact h
        | bad => rw [hb] at h; exact h
    | exc x S1 => rw [hc] at h; exact h
    | bad => rw [hc] at h; exact h
theorem runW_le {c : ST} {b : SS} {m n : Nat} {env : Env} {S : Store} {r : ResS} (h : runW c b m env S = some r) (l : m ≤ n) : runW c b n env S = some r := by
  induction n with
  | zero =>
    have : m = 0 := by omega
    subst this
    exact h
  | succ n ih =>
    rcases Nat.lt_or_ge m (n + 1) with q | q
    · exact runW_succ (ih (by omega))
    · have : m = n + 1 := by omega
      subst this
      exact h
theorem runW_det {c : ST} {b : SS} {m n : Nat} {env : Env} {S : Store} {r r' : ResS} (h : runW c b m env S = some r) (h' : runW c b n env S = some r') : r = r' := by
  have a := runW_le h (Nat.le_max_left m n)
  have b := runW_le h' (Nat.le_max_right m n)
  rw [a] at b
  exact Option.some.inj b
open Classical in
noncomputable def sWhile (c : ST) (b : SS) : SS := fun env S => if h : ∃ n r, runW c b n env S = some r then h.choose_spec.choose else .bad
theorem sWhile_of {c : ST} {b : SS} {n : Nat} {env : Env} {S : Store} {r : ResS} (h : runW c b n env S = some r) : sWhile c b env S = r := by
  have e : ∃ n r, runW c b n env S = some r := ⟨n, r, h⟩
  unfold sWhile
  rw [dif_pos e]
  exact runW_det e.choose_spec.choose_spec h
theorem sWhile_no {c : ST} {b : SS} {env : Env} {S : Store} (h : ¬ ∃ n r, runW c b n env S = some r) : sWhile c b env S = .bad := by
  unfold sWhile
  rw [dif_neg h]
theorem sWhile_eq (c : ST) (b : SS) (env : Env) (S : Store) : sWhile c b env S = match c env S with
    | .ok true S1 => (match b env S1 with
      | .nx e S2 => sWhile c b e S2
      | .ct e S2 => sWhile c b e S2
      | .bk e S2 => .nx e S2
      | .rt d S2 => .rt d S2
      | .exc x e S2 => .exc x e S2
      | .bad => .bad)
    | .ok false S1 => .nx env S1
    | .exc x S1 => .exc x env S1
    | .bad => .bad := by
  have go : ∀ {e : Env} {S1 S2 : Store}, c env S = .ok true S1 → (∀ n, runW c b (n + 1) env S = runW c b n e S2) → sWhile c b env S = sWhile c b e S2 := fun {e S1 S2} hc hn => by
    by_cases h : ∃ n r, runW c b n e S2 = some r
    · obtain ⟨n, r, h⟩ := h
      rw [sWhile_of h, sWhile_of (n := n + 1) ((hn n).trans h)]
    · rw [sWhile_no h]
      refine sWhile_no fun ⟨n, r, h'⟩ => h ⟨n, r, ?_⟩
      rw [← hn n]
      exact runW_succ h'
  cases hc : c env S with
  | ok k S1 =>
    cases k with
    | false => exact sWhile_of (n := 1) (by unfold runW; rw [hc])
    | true =>
      dsimp only
      cases hb : b env S1 with
      | nx e S2 => exact go hc fun n => by rw [runW, hc]; dsimp only; rw [hb]
      | ct e S2 => exact go hc fun n => by rw [runW, hc]; dsimp only; rw [hb]
      | bk e S2 => exact sWhile_of (n := 1) (by unfold runW; rw [hc]; dsimp only; rw [hb])
      | rt e S2 => exact sWhile_of (n := 1) (by unfold runW; rw [hc]; dsimp only; rw [hb])
      | exc x e S2 => exact sWhile_of (n := 1) (by unfold runW; rw [hc]; dsimp only; rw [hb])
      | bad => exact sWhile_of (n := 1) (by unfold runW; rw [hc]; dsimp only; rw [hb])
  | exc x S1 => exact sWhile_of (n := 1) (by unfold runW; rw [hc])
  | bad => exact sWhile_of (n := 1) (by unfold runW; rw [hc])
section
variable {X : Cx} {G : Gx} {e a b c o tg iter : Expr} {pos : Pos} {sa sb so : SE} {st su : ST} {es : List Expr} {sr : SA} {s t : SS} {x : Stmt} {rest xs ys body : List Stmt}
theorem ms_while (hc : MT X G c st) (hb : MSs X G body s) : MS X G (.While c body [] pos) (sWhile st s) := fun ok => ps_imp (ps_while ok.po (hc ok) (hb ok)) fun E σ H h => by
  obtain ⟨p, env, S, rs, rst, g⟩ := h
  by_cases ex : ∃ n r, runW st s n env S = some r
  · obtain ⟨n, r, hr⟩ := ex
    rw [sWhile_of hr] at g
    refine ⟨fun m σ H => ∃ p env S r, Rs X.K H p env σ ∧ RSt X.K H p S ∧ runW st s m env S = some r ∧ GoodS X.K G H p r E, ⟨n, p, env, S, r, rs, rst, hr, g⟩, ?_⟩
    rintro m σ H ⟨p, env, S, r, rs, rst, hr, g⟩
    cases m with
    | zero => cases hr
    | succ m =>
      unfold runW at hr
      refine ⟨p, env, S, rs, rst, ?_⟩
      cases hc : st env S with
      | ok k S1 =>
        rw [hc] at hr
        cases k with
        | false =>
          cases hr
          exact fun H' p' x r' => g σ H' p' x (rs.mono x) r'
        | true =>
          dsimp only at hr
          intro H' p' x r'
          dsimp only
          rw [if_pos rfl]
          refine ⟨fun σ' H' => ∃ p e S2 r, Rs X.K H' p e σ' ∧ RSt X.K H' p S2 ∧ runW st s m e S2 = some r ∧ GoodS X.K G H' p r E, fun σ' H' q => ⟨m, Nat.lt_succ_self m, q⟩, p', env, S1, rs.mono x, r', ?_⟩
          cases hb : s env S1 with
          | nx e S2 => rw [hb] at hr; exact fun σ2 H2 p2 x2 rs2 r2 => ⟨p2, e, S2, r, rs2, r2, hr, g.at (x.trans x2)⟩
          | ct e S2 => rw [hb] at hr; exact fun σ2 H2 p2 x2 rs2 r2 => ⟨p2, e, S2, r, rs2, r2, hr, g.at (x.trans x2)⟩
          | bk e S2 => rw [hb] at hr; cases hr; exact g.at x
          | rt e S2 => rw [hb] at hr; cases hr; exact g.at x
          | exc y e S2 => rw [hb] at hr; cases hr; exact g.at x
          | bad => rw [hb] at hr; cases hr; exact g
      | exc y S1 =>
        rw [hc] at hr
        cases hr
        exact fun H' p' x r' => g σ H' p' x (rs.mono x) r'
      | bad =>
        rw [hc] at hr
        cases hr
        exact g
  · rw [sWhile_no ex] at g
    exact g.elim
structure Wk where
  items : List D
  chk : Store → Prop
abbrev SI := Env → Store → Res Wk
def WalkD (K : PySem.W.Frag) (J : It) (w : Wk) (H1 : Hp) (p1 : List Addr) : Prop :=
  Walk J w.items.length (fun H => ∃ p S, Ext K H1 H p1 p ∧ RSt K H p S ∧ w.chk S)
    (fun i H x H' => ∀ p S, Ext K H1 H p1 p → RSt K H p S → w.chk S → ∃ d, w.items[i]? = some d ∧ Ext K H H' p p ∧ RSt K H' p S ∧ RV K H' p d x)
def TIo (K : PySem.W.Frag) (G : Gx) (si : SI) : TI := fun σ H R => ∃ p env S, Rs K H p env σ ∧ RSt K H p S ∧ Good K G σ H p (si env S) fun w S1 H1 p1 => ∀ J, WalkD K J w H1 p1 → R J H1
def MI (X : Cx) (G : Gx) (tg iter : Expr) (si : SI) : Prop := Cok X G → PI X tg iter (TIo X.K G si)
theorem pi_imp {t t' : TI} (h : PI X tg iter t) (hi : ∀ σ H R, t' σ H R → t σ H R) : PI X tg iter t' := ⟨fun pins s σ H R I q => h.run pins s σ H R I (hi _ _ _ q)⟩
def signs (z : Str) : List D := z.cps.toList.map fun c => .str ⟨#[c]⟩
def fIter (d : D) (S : Store) : Res Wk := match d with
  | .tup l => .ok ⟨l, fun _ => True⟩ S
  | .ref n => match lstOf S n with
    | some l => .ok ⟨l, fun S => lstOf S n = some l⟩ S
    | none => .bad
  | .str z => .ok ⟨signs z, fun _ => True⟩ S
  | _ => .bad
def sIter (s : SE) : SI := fun env S => (s env S).bind fIter
def iSeq (K : PySem.W.Frag) (tl : TE) : TI := fun σ H R => tl σ H fun x H1 => (∃ a, x = .ref a ∧ (∃ xs, SqL K H1 a xs) ∧ R (Itl K a) H1) ∨ (∃ a, x = .ref a ∧ (∃ xs, SqT K H1 a xs) ∧ R (Itt K a) H1) ∨ ∃ z, x = .str z ∧ R (Its z) H1
theorem pi_seq {tl : TE} (hl : PE X a tl) : PI X tg a (iSeq X.K tl) := by
  refine ⟨fun pins s σ H R I h => ?_⟩
  refine thn (hl.run pins s σ H _ I h) fun v s1 ⟨x, H1, I1, r1, q1⟩ => ?_
  rcases q1 with ⟨a, e, ⟨xs, hq⟩, q⟩ | ⟨a, e, ⟨xs, hq⟩, q⟩ | ⟨z, e, q⟩
  · subst e
    cases r1
    obtain ⟨its, rv, p, hz⟩ := I1.list hq
    refine wpAny_pyIter_list p.isList ?_
    refine ⟨s1.heap.objs.size, [s1.heap.objs.size], _, _, H1, rfl, I1.kept (t' := s1.toks) fun b o e => Heap.get?_push_of_some _ e, turn_list a _, ⟨_, Heap.get?_push_size _ rfl, rfl, rfl⟩, fun b hb => ?_, q⟩
    have e : b = s1.heap.objs.size := by simpa using hb
    subst e
    exact I1.fpOk (Nat.le_refl _) (I1.hok.fresh (Nat.le_refl _))
  · subst e
    cases r1
    obtain ⟨its, rv, p, hz⟩ := I1.tuple hq
    refine wpAny_pyIter_tuple (show s1.heap.IsTuple a its.toArray from p) ?_
    refine ⟨s1.heap.objs.size, [s1.heap.objs.size], _, _, H1, rfl, I1.kept (t' := s1.toks) fun b o e => Heap.get?_push_of_some _ e, turn_tuple a _, ⟨_, Heap.get?_push_size _ rfl, rfl, rfl⟩, fun b hb => ?_, q⟩
    have e : b = s1.heap.objs.size := by simpa using hb
    subst e
    exact I1.fpOk (Nat.le_refl _) (I1.hok.fresh (Nat.le_refl _))
  · subst e
    obtain ⟨t, rfl⟩ := r1
    cases ha : z.cps.all (· < 128)
    · exact wpAny_pyIter_wide ha (pi_one (tk := s1.toks) I1 _ (turn_str _ z t "str_iterator" (.inr rfl)) ⟨_, Heap.get?_push_size _ rfl, rfl, rfl⟩ q)
    · exact wpAny_pyIter_ascii ha (pi_one (tk := s1.toks) I1 _ (turn_str _ z t "str_ascii_iterator" (.inl rfl)) ⟨_, Heap.get?_push_size _ rfl, rfl, rfl⟩ q)
section
variable {K : PySem.W.Frag} {H1 : Hp} {p1 : List Addr} {a b : Addr} {l l2 : List D} {n m : Nat}
theorem list_at {H : Hp} {p : List Addr} {S : Store} (hp : p1[n]? = some a) (e : Ext K H1 H p1 p) (R : RSt K H p S) (h : lstOf S n = some l) : ∃ xs, SqL K H a xs ∧ RVs K H p l xs := by
  obtain ⟨a', xs, e1, h1, h2⟩ := R.list h (RV.ref_iff.mpr ⟨a, rfl, e.pre _ _ hp⟩)
  cases e1
  exact ⟨xs, h1, h2⟩
theorem walkd_list (hp : p1[n]? = some a) : WalkD K (Itl K a) ⟨l, fun S => lstOf S n = some l⟩ H1 p1 := by
  refine ⟨fun i H hi q => ?_, fun H q => ?_, fun i H x H' hi q y p S e R hc => ?_⟩
  · obtain ⟨p, S, e, R, hc⟩ := q
    obtain ⟨xs, h1, h2⟩ := list_at hp e R hc
    obtain ⟨x, e1, e2⟩ := h2.get (d := l[i]) (i := i) (by simp [show i < l.length from hi])
    exact ⟨xs, x, h1, e1⟩
  · obtain ⟨p, S, e, R, hc⟩ := q
    obtain ⟨xs, h1, h2⟩ := list_at hp e R hc
    exact ⟨xs, h1, by rw [← h2.len]; exact Nat.le_refl _⟩
  · obtain ⟨e1, y⟩ := y
    subst e1
    obtain ⟨xs, h1, h2⟩ := list_at hp e R hc
    obtain ⟨d, e1, e2⟩ := h2.get' (y xs h1)
    exact ⟨d, e1, .refl, R, e2⟩
theorem walkd_tup {xs : List V} (h1 : SqT K H1 a xs) (h2 : RVs K H1 p1 l xs) : WalkD K (Itt K a) ⟨l, fun _ => True⟩ H1 p1 := by
  refine ⟨fun i H hi q => ?_, fun H q => ?_, fun i H x H' hi q y p S e R hc => ?_⟩
  · obtain ⟨p, S, e, R, hc⟩ := q
    obtain ⟨x, e1, e2⟩ := h2.get (d := l[i]) (i := i) (by simp [show i < l.length from hi])
    exact ⟨xs, x, e.tup _ _ h1, e1⟩
  · obtain ⟨p, S, e, R, hc⟩ := q
    exact ⟨xs, e.tup _ _ h1, by rw [← h2.len]; exact Nat.le_refl _⟩
  · obtain ⟨e1, y⟩ := y
    subst e1
    obtain ⟨d, e1, e2⟩ := h2.get' (y xs (e.tup _ _ h1))
    exact ⟨d, e1, .refl, R, RV.mono e _ _ e2⟩
theorem walkd_fn {J : It} {f : Nat → V} (w : Walk J l.length (fun _ => True) (fun i H x H' => H' = H ∧ x = f i)) (hf : ∀ i d, l[i]? = some d → ∀ H p, RV K H p d (f i)) : WalkD K J ⟨l, fun _ => True⟩ H1 p1 := by
  refine ⟨fun i H hi q => w.goes i H hi trivial, fun H q => w.stops H trivial, fun i H x H' hi q y p S e R hc => ?_⟩
  obtain ⟨rfl, rfl⟩ := w.yields i H x H' hi trivial y
  exact ⟨l[i], by simp [show i < l.length from hi], .refl, R, hf i _ (by simp [show i < l.length from hi]) _ _⟩
end
theorem mi_seq (ha : ME X G a sa) : MI X G tg a (sIter sa) := fun ok => pi_imp (pi_seq (ha ok)) fun σ H R h => by
  obtain ⟨p, env, S, rs, rst, g⟩ := h
  refine one rs rst g fun H1 p1 S1 d x _ rs1 r1 rx g1 => ?_
  unfold fIter at g1
  split at g1
  · rename_i l
    obtain ⟨a, xs, rfl, h1, h2⟩ := RV.tup_iff.mp rx
    exact .inr (.inl ⟨a, rfl, ⟨xs, h1⟩, g1 H1 p1 .refl r1 _ (walkd_tup h1 h2)⟩)
  · split at g1
    · rename_i n l hl
      obtain ⟨a, rfl, e⟩ := RV.ref_iff.mp rx
      obtain ⟨xs, h1, h2⟩ := list_at e .refl r1 hl
      exact .inl ⟨a, rfl, ⟨xs, h1⟩, g1 H1 p1 .refl r1 _ (walkd_list e)⟩
    · exact g1.elim
  · rename_i z
    rw [RV.str_iff] at rx
    subst rx
    refine .inr (.inr ⟨z, rfl, g1 H1 p1 .refl r1 _ ?_⟩)
    have hlen : (signs z).length = z.cps.size := by unfold signs; simp
    have w := walk_str (z := z)
    refine ⟨fun i H hi q => w.goes i H (by rw [← hlen]; exact hi) trivial, fun H q => ?_, fun i H x H' hi q y p S e R hc => ?_⟩
    · have q := w.stops H trivial
      rw [← hlen] at q
      exact q
    · obtain ⟨rfl, c, hc, rfl⟩ := w.yields i H x H' (by rw [← hlen]; exact hi) trivial y
      refine ⟨.str ⟨#[c]⟩, ?_, .refl, R, RV.str_iff.mpr rfl⟩
      unfold signs
      rw [List.getElem?_map, Array.getElem?_toList, hc]
      rfl
  · exact g1.elim
def rangeD (lo : Int) (n : Nat) : List D := (List.range n).map fun i => .int (lo + (i : Nat))
theorem rangeD_len (lo : Int) (n : Nat) : (rangeD lo n).length = n := by unfold rangeD; simp
def fRng1 (ds : List D) (S : Store) : Res Wk := match ds with
  | [.int j] => if -(2 ^ 62) ≤ j ∧ j < 2 ^ 62 then .ok ⟨rangeD 0 j.toNat, fun _ => True⟩ S else .bad
  | _ => .bad
def fRng2 (ds : List D) (S : Store) : Res Wk := match ds with
  | [.int i, .int j] => if -(2 ^ 62) ≤ i ∧ i < 2 ^ 62 ∧ -(2 ^ 62) ≤ j ∧ j < 2 ^ 62 then .ok ⟨rangeD i (j - i).toNat, fun _ => True⟩ S else .bad
  | _ => .bad
def sRng (f : List D → Store → Res Wk) (s : SA) : SI := fun env S => (s env S).bind f
theorem walkd_range {K : PySem.W.Frag} {H1 : Hp} {p1 : List Addr} {lo : Int} {n : Nat} : WalkD K (Itr lo n) ⟨rangeD lo n, fun _ => True⟩ H1 p1 := by
  refine walkd_fn (f := fun i => .int (lo + (i : Nat))) ?_ fun i d h H p => ?_
  · rw [rangeD_len]
    exact walk_range
  · unfold rangeD at h
    rw [List.getElem?_map] at h
    by_cases hi : i < n
    · rw [List.getElem?_range hi] at h
      cases h
      exact RV.int_iff.mpr rfl
    · rw [List.getElem?_eq_none (by simpa using hi)] at h
      cases h
theorem mi_range1 {p : Pos} (hm : X.mg "range" = none) (ha : MA X G [a] sr) (hg : Gl X "range" := by rfl) (hs : starEach [a] X.env = [(false, eval a X.env)] := by rfl) : MI X G tg (.Call (.Name "range" p) [a] [] pos) (sRng fRng1 sr) := fun ok => pi_imp (pi_range1 hg hm (ha ok) hs) fun σ H R h => by
  obtain ⟨p, env, S, rs, rst, g⟩ := h
  refine TAo.bind rs rst g fun H1 p1 S1 ds xs _ rs1 r1 rx g1 => ?_
  unfold fRng1 at g1
  split at g1
  · split at g1
    · rename_i j hj
      obtain ⟨x, rfl, r⟩ := rx.one
      rw [RV.int_iff] at r
      subst r
      exact ⟨j, rfl, hj.1, hj.2, g1 H1 p1 .refl r1 _ walkd_range⟩
    · exact g1.elim
  · exact g1.elim
theorem mi_range2 {p : Pos} (hm : X.mg "range" = none) (ha : MA X G [a, b] sr) (hg : Gl X "range" := by rfl) (hs : starEach [a, b] X.env = [(false, eval a X.env), (false, eval b X.env)] := by rfl) (hs2 : starEach [b] X.env = [(false, eval b X.env)] := by rfl) : MI X G tg (.Call (.Name "range" p) [a, b] [] pos) (sRng fRng2 sr) := fun ok => pi_imp (pi_range2 hg hm (ha ok) hs hs2) fun σ H R h => by
  obtain ⟨p, env, S, rs, rst, g⟩ := h
  refine TAo.bind rs rst g fun H1 p1 S1 ds xs _ rs1 r1 rx g1 => ?_
  unfold fRng2 at g1
  split at g1
  · split at g1
    · rename_i i j hj
      obtain ⟨x, y, rfl, r, r'⟩ := rx.two
      rw [RV.int_iff] at r r'
      subst r r'
      exact ⟨i, j, rfl, hj, g1 H1 p1 .refl r1 _ walkd_range⟩
    · exact g1.elim
  · exact g1.elim
def enumD (l : List D) : List D := (List.range l.length).map fun i => .tup [.int (i : Nat), l.getD i .non]
def fEnum (ds : List D) (S : Store) : Res Wk := match ds with
  | [.ref n] => match lstOf S n with
    | some l => .ok ⟨enumD l, fun S => lstOf S n = some l⟩ S
    | none => .bad
  | [.tup l] => .ok ⟨enumD l, fun _ => True⟩ S
  | _ => .bad
def zipD (l m : List D) : List D := (l.zip m).map fun q => .tup [q.1, q.2]
def fZip (ds : List D) (S : Store) : Res Wk := match ds with
  | [.ref n, .ref m] => match lstOf S n, lstOf S m with
    | some l, some k => .ok ⟨zipD l k, fun S => lstOf S n = some l ∧ lstOf S m = some k⟩ S
    | _, _ => .bad
  | [.tup l, .tup k] => .ok ⟨zipD l k, fun _ => True⟩ S
  | [.tup l, .ref m] => match lstOf S m with
    | some k => .ok ⟨zipD l k, fun S => lstOf S m = some k⟩ S
    | none => .bad
  | _ => .bad
open Classical in
noncomputable def forRun (g : SG) (b : SS) (chk : Store → Prop) : List D → SS
  | [], env, S => if chk S then .nx env S else .bad
  | d :: l, env, S => if chk S then match g d env S with
    | some e => match b e S with
      | .nx e S2 => forRun g b chk l e S2
      | .ct e S2 => forRun g b chk l e S2
      | .bk e S2 => .nx e S2
      | .rt d S2 => .rt d S2
      | .exc x e S2 => .exc x e S2
      | .bad => .bad
    | none => .bad
    else .bad
noncomputable def sFor (si : SI) (g : SG) (b : SS) : SS := fun env S => (si env S).andS env fun w S1 => forRun g b w.chk w.items env S1
theorem forRun_chk {g : SG} {b : SS} {chk : Store → Prop} {l : List D} {env : Env} {S : Store} (h : forRun g b chk l env S ≠ .bad) : chk S := by
  cases l with
  | nil =>
    unfold forRun at h
    split at h
    · assumption
    · exact absurd rfl h
  | cons d l =>
    unfold forRun at h
    split at h
    · assumption
    · exact absurd rfl h
theorem GoodS.ne {K : PySem.W.Frag} {H : Hp} {p : List Addr} {r : ResS} {E : Ends} (h : GoodS K G H p r E) : r ≠ .bad := fun e => by
  subst e
  exact h
theorem ms_for {g : TG} {sg : SG} {vs : List Nat} {si : SI} (hi : MI X G tg iter si) (hg : PG X tg g) (ht : TgOk X.K vs g sg) (hb : MSs X G body s) (hc : X.calm = true := by rfl)
    (hs : ∀ x, foldedSetIterable iter X.env x = pure x := by intro _; rfl) : MS X G (.For tg iter body [] pos) (sFor si sg s) := fun ok => ps_imp (ps_for ok.po hc (hi ok) hg (hb ok) hs) fun E σ H h => by
  obtain ⟨p, env, S, rs, rst, g0⟩ := h
  refine ⟨p, env, S, rs, rst, (g0.and rs).imp fun w S1 H1 p1 e1 r1 g1 J hw => ?_⟩
  obtain ⟨q1, q2, q3⟩ := g1
  refine for_it hw (fun i σ H => ∃ p env S, Ext X.K H1 H p1 p ∧ Rs X.K H p env σ ∧ RSt X.K H p S ∧ GoodS X.K G H p (forRun sg s w.chk (w.items.drop i) env S) E) ⟨p1, env, S1, .refl, q1, q2, q3⟩ ?_ ?_ ?_
  · rintro i σ H hi ⟨p, env, S, ex, rs, rst, g⟩
    exact ⟨p, S, ex, rst, forRun_chk g.ne⟩
  · rintro i x σ H H' hi ⟨p, env, S, ex, rs, rst, g⟩ hy
    have hck : w.chk S := forRun_chk g.ne
    obtain ⟨d, hd, ex2, rst2, rx⟩ := hy p S ex rst hck
    have hdrop : w.items.drop i = d :: w.items.drop (i + 1) := by
      obtain ⟨h1, h2⟩ := List.getElem?_eq_some_iff.mp hd
      rw [List.drop_eq_getElem_cons h1, h2]
    rw [hdrop] at g
    unfold forRun at g
    rw [if_pos hck] at g
    cases hgd : sg d env S with
    | none => rw [hgd] at g; exact g.elim
    | some e =>
      rw [hgd] at g
      dsimp only at g
      refine ht σ H' p env e S d x _ (rs.mono ex2) rst2 rx hgd fun σ2 rs2 _ => ?_
      refine ⟨p, e, S, rs2, rst2, ?_⟩
      have g := GoodS.at ex2 g
      have ex3 := ex.trans ex2
      cases hb : s e S with
      | nx e' S2 => rw [hb] at g; exact fun σ3 H3 p3 x3 rs3 r3 => ⟨p3, e', S2, ex3.trans x3, rs3, r3, g.at x3⟩
      | ct e' S2 => rw [hb] at g; exact fun σ3 H3 p3 x3 rs3 r3 => ⟨p3, e', S2, ex3.trans x3, rs3, r3, g.at x3⟩
      | bk e' S2 => rw [hb] at g; exact g
      | rt e' S2 => rw [hb] at g; exact g
      | exc y e' S2 => rw [hb] at g; exact g
      | bad => rw [hb] at g; exact g
  · rintro σ H ⟨p, env, S, ex, rs, rst, g⟩
    rw [List.drop_length] at g
    have hck : w.chk S := forRun_chk g.ne
    unfold forRun at g
    rw [if_pos hck] at g
    exact g σ H p .refl rs rst
end
end Rg
namespace Rg
open PySem PySem.Spec PyProof.Rows L2
def wipeD (env : Env) : List Nat → Env
  | [] => env
  | v :: vs => (wipeD env vs).set v none
theorem Rs.wipe {K : PySem.W.Frag} {H : Hp} {p : List Addr} {env : Env} {σ : L2.St} (h : Rs K H p env σ) : ∀ vs : List Nat, Rs K H p (wipeD env vs) (L2.wipe σ vs)
  | [] => h
  | v :: vs => by
    have ih := Rs.wipe h vs
    refine ⟨by simp [wipeD, L2.wipe, ih.1], fun i d q => ?_⟩
    unfold wipeD at q
    unfold L2.wipe
    by_cases hi : v = i
    · subst hi
      by_cases hv : v < (wipeD env vs).length
      · rw [List.getElem?_set_self hv] at q
        cases q
      · rw [List.getElem?_eq_none (by simpa using hv)] at q
        cases q
    · rw [List.getElem?_set_ne hi] at q ⊢
      exact ih.2 i d q
theorem wipe_mem {σ : L2.St} {v : Nat} : ∀ {vs : List Nat}, v ∈ vs → (wipe σ vs).set v none = wipe σ vs
  | [], h => by cases h
  | w :: vs, h => by
    unfold wipe
    by_cases e : v = w
    · subst e
      rw [List.set_set]
    · rw [List.set_comm _ _ (Ne.symm e), wipe_mem ((List.mem_cons.mp h).resolve_left e)]
theorem wipe_sub {σ : L2.St} {vs : List Nat} : ∀ {ws : List Nat}, (∀ i ∈ ws, i ∈ vs) → wipe (wipe σ vs) ws = wipe σ vs
  | [], _ => rfl
  | w :: ws, h => by
    show (wipe (wipe σ vs) ws).set w none = wipe σ vs
    rw [wipe_sub fun i hi => h i (List.mem_cons_of_mem _ hi)]
    exact wipe_mem (h w (by simp))
def Gno (xv : XV) : Gx := ⟨xv, fun _ _ _ _ => False⟩
section
variable {X : Cx} {G : Gx} {e a b c o tg iter elt : Expr} {pos : Pos} {sa sb so : SE} {st su : ST} {es ifs : List Expr} {sr : SA} {s t : SS} {x : Stmt} {rest xs ys body : List Stmt}
def MTs (X : Cx) (G : Gx) (ifs : List Expr) (s : ST) : Prop := Cok X G → PTs X ifs (TTo X.K G s)
def sYes : ST := fun _ S => .ok true S
theorem pts_imp {t t' : TT} (h : PTs X ifs t) (hi : ∀ σ H Q, t' σ H Q → t σ H Q) : PTs X ifs t' := ⟨fun pins s σ H Q I q => h.run pins s σ H Q I (hi _ _ _ q)⟩
theorem mts_nil : MTs X G [] sYes := fun _ => pts_imp pts_nil fun σ H Q h => by
  obtain ⟨p, env, S, rs, rst, g⟩ := h
  exact g H p .refl rst
open Classical in
noncomputable def compRun (g : SG) (t : ST) (e : SE) (chk : Store → Prop) (n0 : Nat) (env0 : Env) : List D → Store → Res Unit
  | [], S => if chk S then .ok () S else .bad
  | d :: l, S => if chk S then match g d env0 S with
    | some env => match t env S with
      | .ok true S1 => match e env S1 with
        | .ok y S2 => match S2[n0]? with
          | some (.lst acc) => if acc.length < sizeLine then compRun g t e chk n0 env0 l (S2.set n0 (.lst (acc ++ [y]))) else .bad
          | _ => .bad
        | _ => .bad
      | .ok false S1 => compRun g t e chk n0 env0 l S1
      | _ => .bad
    | none => .bad
    else .bad
noncomputable def sComp (si : SI) (g : SG) (t : ST) (e : SE) (vs : List Nat) : SE := fun env S => (si env S).bind fun w S1 => (compRun g t e w.chk S1.length (wipeD env vs) w.items (S1 ++ [.lst []])).bind fun _ S2 => .ok (.ref S1.length) S2
theorem compRun_chk {g : SG} {t : ST} {e : SE} {chk : Store → Prop} {n0 : Nat} {env0 : Env} {l : List D} {S : Store} (h : compRun g t e chk n0 env0 l S ≠ .bad) : chk S := by
  cases l with
  | nil =>
    unfold compRun at h
    split at h
    · assumption
    · exact absurd rfl h
  | cons d l =>
    unfold compRun at h
    split at h
    · assumption
    · exact absurd rfl h
theorem Good.ne {K : PySem.W.Frag} {A : Type} {σ : L2.St} {H : Hp} {p : List Addr} {r : Res A} {P : A → Store → Hp → List Addr → Prop} (h : Good K G σ H p r P) : r ≠ .bad := fun e => by
  subst e
  exact h
theorem lc_of {K : PySem.W.Frag} {g : TG} {sg : SG} {vs us : List Nat} {si : SI} {xv : XV} (ht : TgOk K us g sg) (hus : ∀ i ∈ us, i ∈ vs) {σ : L2.St} {H : Hp} {Q : VK} (h : TEo K G (sComp si sg st sa vs) σ H Q) :
    tLc (TIo K G si) g (TTo K (Gno xv) st) (TEo K (Gno xv) sa) vs σ H Q := by
  obtain ⟨p, env, S, rs, rst, g0⟩ := h
  refine ⟨p, env, S, rs, rst, g0.bind.imp fun w S1 H1 p1 e1 r1 g1 J hw D hD => ?_⟩
  have rs1 : Rs K H1 p1 env σ := rs.mono e1
  have P0 := r1.push (c := .lst []) (o := .lst []) hD ⟨[], upd_same, RVs.nil⟩
  obtain ⟨E0, R0, q0⟩ := P0
  refine lc_it hw (fun i H => ∃ p S, Ext K H1 H p1 p ∧ RSt K H p S ∧ p[S1.length]? = some D ∧ Good K G σ H p ((compRun sg st sa w.chk S1.length (wipeD env vs) (w.items.drop i) S).bind fun _ S2 => .ok (.ref S1.length) S2) (PV K Q)) ⟨_, _, E0, R0, q0, by rw [List.drop_zero]; exact g1.at E0⟩ ?_ ?_ ?_
  · rintro i H hi ⟨p, S, ex, R, q, g⟩
    exact ⟨p, S, ex, R, compRun_chk fun z => g.ne (by rw [z]; rfl)⟩
  · rintro i x H H' hi ⟨p, S, ex, R, q, g⟩ hy
    have hck : w.chk S := compRun_chk fun z => g.ne (by rw [z]; rfl)
    obtain ⟨d, hd, ex2, R2, rx⟩ := hy p S ex R hck
    have hdrop : w.items.drop i = d :: w.items.drop (i + 1) := by
      obtain ⟨h1, h2⟩ := List.getElem?_eq_some_iff.mp hd
      rw [List.drop_eq_getElem_cons h1, h2]
    rw [hdrop] at g
    unfold compRun at g
    rw [if_pos hck] at g
    have ex3 := ex.trans ex2
    have g := g.at ex2
    have rsw : Rs K H' p (wipeD env vs) (wipe σ vs) := (rs1.mono ex3).wipe vs
    cases hgd : sg d (wipeD env vs) S with
    | none => rw [hgd] at g; exact g.elim
    | some env' =>
      rw [hgd] at g
      dsimp only at g
      refine ht (wipe σ vs) H' p (wipeD env vs) env' S d x _ rsw R2 rx hgd fun σ2 rs2 w2 => ⟨(w2 vs hus).trans (wipe_sub fun i hi => hi), ?_⟩
      refine ⟨p, env', S, rs2, R2, ?_⟩
      cases hst : st env' S with
      | ok b S2 =>
        rw [hst] at g
        intro H3 p3 x3 R3
        cases b with
        | false =>
          dsimp only at g ⊢
          rw [if_neg Bool.false_ne_true]
          exact ⟨p3, S2, ex3.trans x3, R3, x3.pre _ _ q, g.at x3⟩
        | true =>
          dsimp only at g ⊢
          rw [if_pos rfl]
          refine ⟨p3, env', S2, rs2.mono x3, R3, ?_⟩
          cases hsa : sa env' S2 with
          | ok y S3 =>
            rw [hsa] at g
            dsimp only at g
            intro H4 p4 x4 R4 v rv
            split at g
            · rename_i acc hacc
              split at g
              · rename_i hz
                have q4 := x4.pre _ _ (x3.pre _ _ q)
                obtain ⟨zs, z1, z2⟩ := R4.cell _ _ D hacc q4
                obtain ⟨E5, R5⟩ := R4.setL hacc q4 (z2.app (RVs.cons rv RVs.nil))
                exact ⟨zs, z1, by rw [← z2.len]; exact hz, p4, _, (ex3.trans (x3.trans x4)).trans E5, R5, q4, g.at ((x3.trans x4).trans E5)⟩
              · exact g.elim
            · exact g.elim
          | exc c S3 => rw [hsa] at g; exact g.elim
          | bad => rw [hsa] at g; exact g.elim
      | exc c S2 => rw [hst] at g; exact g.elim
      | bad => rw [hst] at g; exact g.elim
  · rintro H ⟨p, S, ex, R, q, g⟩
    rw [List.drop_length] at g
    have hck : w.chk S := compRun_chk fun z => g.ne (by rw [z]; rfl)
    unfold compRun at g
    rw [if_pos hck] at g
    exact g H p .refl R _ (RV.ref_iff.mpr ⟨D, rfl, q⟩)
theorem me_lc {scope : Scope} {own : List (Str × Nat)} {g : TG} {sg : SG} {us : List Nat} {si : SI} (hN : X.N.Nodup) (hi : MI X G tg iter si) (ok : BlkOk X.N X.env.scope scope own)
    (hg : ∀ (s : Shared) (H : Hp) (C : Addr) (cl : List (Str × Addr)) (fp : List Addr), PG (X.blk s H scope (compEnvC scope cl C X.env) fp) tg g) (ht : TgOk X.K us g sg) (hus : ∀ i ∈ us, i ∈ own.map (·.2))
    (htt : ∀ (s : Shared) (H : Hp) (C : Addr) (cl : List (Str × Addr)) (fp : List Addr), MTs (X.blk s H scope (compEnvC scope cl C X.env) fp) (Gno G.xv) ifs st)
    (he : ∀ (s : Shared) (H : Hp) (C : Addr) (cl : List (Str × Addr)) (fp : List Addr), ME (X.blk s H scope (compEnvC scope cl C X.env) fp) (Gno G.xv) elt sa) (hc : X.calm = true := by rfl) (hs : ∀ x, foldedSetIterable iter X.env x = pure x := by intro _; rfl) :
    ME X G (.ListComp elt [⟨tg, iter, ifs, 0⟩] scope pos) (sComp si sg st sa (own.map (·.2))) := fun ck =>
  pe_imp (pe_lc hc hN (hi ck) ok hg (fun s H C cl fp => htt s H C cl fp ⟨takesN_0, PassesOwn.never⟩) (fun s H C cl fp => he s H C cl fp ⟨takesN_0, PassesOwn.never⟩) hs) fun σ H Q h => lc_of (xv := G.xv) ht hus h
def fRev (d : D) (S : Store) : Res Wk := match d with
  | .tup l => .ok ⟨l.reverse, fun _ => True⟩ S
  | .ref n => match lstOf S n with
    | some l => .ok ⟨l.reverse, fun S => lstOf S n = some l⟩ S
    | none => .bad
  | _ => .bad
def sRev (s : SE) : SI := fun env S => (s env S).bind fun d S1 => fRev d S1
end
mutual
/-- no reference to a thing from N on -/
def D.under (N : Nat) : D → Bool
  | .ref n => decide (n < N)
  | .tup l => unders N l
  | _ => true
def unders (N : Nat) : List D → Bool
  | [] => true
  | d :: l => d.under N && unders N l
end
mutual
/-- each reference from N on is n -/
def D.only (N n : Nat) : D → Bool
  | .ref m => decide (m < N) || decide (m = n)
  | .tup l => onlys N n l
  | _ => true
def onlys (N n : Nat) : List D → Bool
  | [] => true
  | d :: l => d.only N n && onlys N n l
end
mutual
/-- references from N on become N -/
def D.subst (N : Nat) : D → D
  | .ref m => .ref (if m < N then m else N)
  | .tup l => .tup (substs N l)
  | d => d
def substs (N : Nat) : List D → List D
  | [] => []
  | d :: l => d.subst N :: substs N l
end
mutual
/-- a reference from N on, if any -/
def D.fresh (N : Nat) : D → Option Nat
  | .ref m => if m < N then none else some m
  | .tup l => freshs N l
  | _ => none
def freshs (N : Nat) : List D → Option Nat
  | [] => none
  | d :: l => (d.fresh N).or (freshs N l)
end
def Cell.under (N : Nat) : Cell → Bool
  | .lst l => unders N l
  | .fro l => unders N l
  | .dct => true
  | .ins _ fs => unders N (fs.map (·.2))
  | .xcp _ => true
  | .dn ks => unders N ks
  | .dm ks _ => unders N ks
  | .df ks _ => unders N ks
def Kept (S0 S1 : Store) : Prop := S0.length ≤ S1.length ∧ ∀ n, n < S0.length → S1[n]? = S0[n]? ∨ ∃ c, S1[n]? = some c ∧ c.under S0.length = true
open Classical in
noncomputable def gc (S0 : Store) (d : D) (S1 : Store) : Res D :=
  if Kept S0 S1 then match d.fresh S0.length with
    | none => .ok d (S1.take S0.length)
    | some n => if d.only S0.length n = true then match S1[n]? with
        | some (.lst l) => if unders S0.length l = true then .ok (d.subst S0.length) (S1.take S0.length ++ [.lst l]) else .ok d S1
        | _ => .ok d S1
      else .ok d S1
  else .ok d S1
noncomputable def mkDef (n np : Nat) (body : SS) : Mf := fun ds S => if ds.length = np then match body (ds.map some ++ List.replicate (n - ds.length) none) S with
    | .rt d S1 => gc S d S1
    | .nx _ S1 => gc S .non S1
    | .exc c _ S1 => .exc c S1
    | _ => .bad
  else .bad
mutual
theorem fresh_none {N n : Nat} : ∀ (d : D), d.fresh N = none → d.under N = true
  | .non, _ => rfl
  | .bl _, _ => rfl
  | .int _, _ => rfl
  | .str _, _ => rfl
  | .ref m, h => by
    unfold D.fresh at h
    unfold D.under
    split at h
    · simpa
    · cases h
  | .tup l, h => by
    unfold D.fresh at h
    unfold D.under
    exact freshs_none (n := n) l h
theorem freshs_none {N n : Nat} : ∀ (l : List D), freshs N l = none → unders N l = true
  | [], _ => rfl
  | d :: l, h => by
    unfold freshs at h
    unfold unders
    cases hd : d.fresh N with
    | some m => rw [hd] at h; cases h
    | none =>
      rw [hd] at h
      rw [fresh_none (n := n) d hd, freshs_none (n := n) l (by simpa using h)]
      rfl
end
mutual
theorem fresh_ge {N n : Nat} : ∀ (d : D), d.fresh N = some n → N ≤ n
  | .ref m, h => by
    unfold D.fresh at h
    split at h
    · cases h
    · cases h; omega
  | .tup l, h => by
    unfold D.fresh at h
    exact freshs_ge l h
theorem freshs_ge {N n : Nat} : ∀ (l : List D), freshs N l = some n → N ≤ n
  | d :: l, h => by
    unfold freshs at h
    cases hd : d.fresh N with
    | some m =>
      rw [hd] at h
      cases h
      exact fresh_ge d hd
    | none =>
      rw [hd] at h
      exact freshs_ge l (by simpa using h)
end
section
variable {K : PySem.W.Frag} {H H' : Hp} {p p' q : List Addr}
mutual
theorem RV.under : ∀ (d : D) (v : V), RV K H p d v → d.under p.length = true
  | .non, _, _ => rfl
  | .bl _, _, _ => rfl
  | .int _, _, _ => rfl
  | .str _, _, _ => rfl
  | .ref m, v, h => by
    obtain ⟨a, rfl, e⟩ := RV.ref_iff.mp h
    unfold D.under
    exact decide_eq_true (List.getElem?_eq_some_iff.mp e).1
  | .tup l, v, h => by
    obtain ⟨a, xs, rfl, _, r⟩ := RV.tup_iff.mp h
    unfold D.under
    exact RVs.under l xs r
theorem RVs.under : ∀ (l : List D) (xs : List V), RVs K H p l xs → unders p.length l = true
  | [], _, _ => rfl
  | d :: l, _, h => by
    obtain ⟨x, r, rfl, h2, h3⟩ := RVs.cons_iff.mp h
    unfold unders
    rw [RV.under d x h2, RVs.under l r h3]
    rfl
end
mutual
theorem RV.down {N : Nat} (e : ∀ n, n < N → q[n]? = p[n]?) : ∀ (d : D) (v : V), d.under N = true → RV K H p d v → RV K H q d v
  | .non, _, _, h => by rw [RV.non_iff] at h ⊢; exact h
  | .bl _, _, _, h => by rw [RV.bl_iff] at h ⊢; exact h
  | .int _, _, _, h => by rw [RV.int_iff] at h ⊢; exact h
  | .str _, _, _, h => by rw [RV.str_iff] at h ⊢; exact h
  | .ref m, v, b, h => by
    obtain ⟨a, rfl, x⟩ := RV.ref_iff.mp h
    unfold D.under at b
    exact RV.ref_iff.mpr ⟨a, rfl, by rw [e m (of_decide_eq_true b)]; exact x⟩
  | .tup l, v, b, h => by
    obtain ⟨a, xs, rfl, x, r⟩ := RV.tup_iff.mp h
    unfold D.under at b
    exact RV.tup_iff.mpr ⟨a, xs, rfl, x, RVs.down e l xs b r⟩
theorem RVs.down {N : Nat} (e : ∀ n, n < N → q[n]? = p[n]?) : ∀ (l : List D) (xs : List V), unders N l = true → RVs K H p l xs → RVs K H q l xs
  | [], _, _, h => by rw [RVs.nil_iff] at h ⊢; exact h
  | d :: l, _, b, h => by
    obtain ⟨x, r, rfl, h2, h3⟩ := RVs.cons_iff.mp h
    unfold unders at b
    rw [Bool.and_eq_true] at b
    exact RVs.cons (RV.down e d x b.1 h2) (RVs.down e l r b.2 h3)
end
mutual
theorem RV.subst {N n : Nat} (e : ∀ m, m < N → q[m]? = p[m]?) (en : q[N]? = p[n]?) : ∀ (d : D) (v : V), d.only N n = true → RV K H p d v → RV K H q (d.subst N) v
  | .non, _, _, h => by unfold D.subst; rw [RV.non_iff] at h ⊢; exact h
  | .bl _, _, _, h => by unfold D.subst; rw [RV.bl_iff] at h ⊢; exact h
  | .int _, _, _, h => by unfold D.subst; rw [RV.int_iff] at h ⊢; exact h
  | .str _, _, _, h => by unfold D.subst; rw [RV.str_iff] at h ⊢; exact h
  | .ref m, v, b, h => by
    obtain ⟨a, rfl, x⟩ := RV.ref_iff.mp h
    unfold D.only at b
    unfold D.subst
    refine RV.ref_iff.mpr ⟨a, rfl, ?_⟩
    by_cases hm : m < N
    · rw [if_pos hm, e m hm]; exact x
    · have : m = n := by simpa [hm] using b
      subst this
      rw [if_neg hm, en]; exact x
  | .tup l, v, b, h => by
    obtain ⟨a, xs, rfl, x, r⟩ := RV.tup_iff.mp h
    unfold D.only at b
    unfold D.subst
    exact RV.tup_iff.mpr ⟨a, xs, rfl, x, RVs.subst e en l xs b r⟩
theorem RVs.subst {N n : Nat} (e : ∀ m, m < N → q[m]? = p[m]?) (en : q[N]? = p[n]?) : ∀ (l : List D) (xs : List V), onlys N n l = true → RVs K H p l xs → RVs K H q (substs N l) xs
  | [], _, _, h => by unfold substs; rw [RVs.nil_iff] at h ⊢; exact h
  | d :: l, _, b, h => by
    obtain ⟨x, r, rfl, h2, h3⟩ := RVs.cons_iff.mp h
    unfold onlys at b
    rw [Bool.and_eq_true] at b
    unfold substs
    exact RVs.cons (RV.subst e en d x b.1 h2) (RVs.subst e en l r b.2 h3)
end
theorem RC.down {N : Nat} (e : ∀ n, n < N → q[n]? = p[n]?) {a : Addr} {c : Cell} (b : c.under N = true) (h : RC K H p a c) : RC K H q a c := by
  cases c with
  | lst l => obtain ⟨xs, h1, h2⟩ := h; exact ⟨xs, h1, RVs.down e _ _ b h2⟩
  | fro l => obtain ⟨xs, h1, h2⟩ := h; exact ⟨xs, h1, RVs.down e _ _ b h2⟩
  | dct => exact h
  | ins C fs => obtain ⟨dx, vs, h1, h2, h3⟩ := h; exact ⟨dx, vs, h1, h2, RVs.down e _ _ b h3⟩
  | xcp x => exact h
  | dn ks => obtain ⟨xs, h1, h2, h3⟩ := h; exact ⟨xs, h1, RVs.down e _ _ b h2, h3⟩
  | dm ks vs => obtain ⟨xs, h1, h2, h3⟩ := h; exact ⟨xs, h1, RVs.down e _ _ b h2, h3⟩
  | df ks vs => obtain ⟨xs, h1, h2, h3⟩ := h; exact ⟨xs, h1, RVs.down e _ _ b h2, h3⟩
theorem RC.under {a : Addr} {c : Cell} (h : RC K H p a c) : c.under p.length = true := by
  cases c with
  | lst l => obtain ⟨xs, h1, h2⟩ := h; exact RVs.under _ _ h2
  | fro l => obtain ⟨xs, h1, h2⟩ := h; exact RVs.under _ _ h2
  | dct => rfl
  | ins C fs => obtain ⟨dx, vs, h1, h2, h3⟩ := h; exact RVs.under _ _ h3
  | xcp x => rfl
  | dn ks => obtain ⟨xs, h1, h2, h3⟩ := h; exact RVs.under _ _ h2
  | dm ks vs => obtain ⟨xs, h1, h2, h3⟩ := h; exact RVs.under _ _ h2
  | df ks vs => obtain ⟨xs, h1, h2, h3⟩ := h; exact RVs.under _ _ h2
theorem RSt.lt {S : Store} {n : Nat} {a : Addr} (R : RSt K H p S) (h : p[n]? = some a) : n < S.length := by
  rw [← R.len]; exact (List.getElem?_eq_some_iff.mp h).1
theorem gc_ok {S0 S1 : Store} {d : D} {v : V} {P : D → Store → Hp → List Addr → Prop} {G : Gx} {σ : L2.St} (r0 : RSt K H p S0) (x : Ext K H H' p p') (r : RSt K H' p' S1) (rv : RV K H' p' d v)
    (g : Good K G σ H p (gc S0 d S1) P) : ∃ d' S' p'', P d' S' H' p'' ∧ RV K H' p'' d' v := by
  have plain : P d S1 H' p' → ∃ d' S' p'', P d' S' H' p'' ∧ RV K H' p'' d' v := fun h => ⟨d, S1, p', h, rv⟩
  unfold gc at g
  split at g
  · rename_i kept
    have hp : p.length = S0.length := r0.len
    have hag : ∀ n, n < S0.length → p[n]? = p'[n]? := fun n hn => by
      have e : p[n]? = some (p[n]'(by omega)) := List.getElem?_eq_getElem _
      rw [x.pre n _ e]
      exact e
    -- the cells that stood
    have cell : ∀ (n : Nat) (c : Cell) (a : Addr), n < S0.length → S1[n]? = some c → p[n]? = some a → c.under S0.length = true ∧ RC K H' p' a c := fun n c a hn e1 e2 => by
      refine ⟨?_, r.cell n c a e1 (x.pre n a e2)⟩
      rcases kept.2 n hn with z | ⟨c', z, b⟩
      · rw [z] at e1
        rw [← hp]
        exact (r0.cell n c a e1 e2).under
      · rw [z] at e1
        cases e1
        exact b
    split at g
    · rename_i hf
      have b := fresh_none (n := 0) d hf
      refine ⟨d, S1.take S0.length, p, g H' p ⟨fun _ _ h => h, x.tup, x.frz⟩ ⟨?_, fun n c a e1 e2 => ?_, fun m n a c c' e1 e2 m1 m2 e3 e4 => ?_⟩, RV.down hag d v b rv⟩
      · rw [List.length_take, hp]; have := kept.1; omega
      · have hn : n < S0.length := r0.lt e2
        rw [List.getElem?_take_of_lt hn] at e1
        obtain ⟨b, h⟩ := cell n c a hn e1 e2
        exact h.down hag b
      · have hm : m < S0.length := r0.lt e3
        have hn : n < S0.length := r0.lt e4
        rw [List.getElem?_take_of_lt hm] at e1
        rw [List.getElem?_take_of_lt hn] at e2
        exact r.inj m n a c c' e1 e2 m1 m2 (x.pre _ _ e3) (x.pre _ _ e4)
    · rename_i k hf
      have hk := fresh_ge d hf
      split at g
      · rename_i ho
        split at g
        · rename_i l hl
          split at g
          · rename_i bl
            have hk1 : k < S1.length := (List.getElem?_eq_some_iff.mp hl).1
            have hk2 : k < p'.length := by rw [r.len]; exact hk1
            have ek : p'[k]? = some (p'[k]'hk2) := List.getElem?_eq_getElem _
            generalize p'[k]'hk2 = qa at ek
            have len0 : (S1.take S0.length).length = S0.length := by rw [List.length_take]; have := kept.1; omega
            have up : ∀ n, n < S0.length → (p ++ [qa])[n]? = p'[n]? := fun n hn => by
              rw [List.getElem?_append_left (by omega)]
              exact hag n hn
            have un : (p ++ [qa])[S0.length]? = p'[k]? := by
              rw [List.getElem?_append_right (by omega), hp, ek]
              simp
            -- the places that stood, and the new one
            have place : ∀ (n : Nat) (c : Cell) (a : Addr), (S1.take S0.length ++ [.lst l])[n]? = some c → (p ++ [qa])[n]? = some a → (n < S0.length ∧ S1[n]? = some c ∧ p[n]? = some a ∧ p'[n]? = some a) ∨ (n = S0.length ∧ c = .lst l ∧ p'[k]? = some a) := fun n c a e1 e2 => by
              rcases Nat.lt_or_ge n S0.length with hn | hn
              · rw [List.getElem?_append_left (by omega), List.getElem?_take_of_lt hn] at e1
                rw [List.getElem?_append_left (by omega)] at e2
                exact .inl ⟨hn, e1, e2, x.pre _ _ e2⟩
              · have hn2 : n < S0.length + 1 := by
                  have := (List.getElem?_eq_some_iff.mp e1).1
                  rw [List.length_append, len0] at this
                  simpa using this
                have hn3 : n = S0.length := by omega
                subst hn3
                rw [un] at e2
                rw [List.getElem?_append_right (by omega), len0] at e1
                simp at e1
                exact .inr ⟨rfl, e1.symm, e2⟩
            refine ⟨d.subst S0.length, S1.take S0.length ++ [.lst l], p ++ [qa], g H' (p ++ [qa]) ⟨fun n a e => ?_, x.tup, x.frz⟩ ⟨?_, fun n c a e1 e2 => ?_, fun m n a c c' e1 e2 m1 m2 e3 e4 => ?_⟩, RV.subst up un d v ho rv⟩
            · rw [List.getElem?_append_left (by rw [hp]; exact r0.lt e)]
              exact e
            · rw [List.length_append, List.length_append, len0, hp]; rfl
            · rcases place n c a e1 e2 with ⟨hn, q1, q2, q3⟩ | ⟨rfl, rfl, q3⟩
              · obtain ⟨b, h⟩ := cell n c a hn q1 q2
                exact h.down up b
              · exact (r.cell k _ a hl q3).down up bl
            · rcases place m c a e1 e3 with ⟨hm, q1, q2, q3⟩ | ⟨rfl, rfl, q3⟩ <;> rcases place n c' a e2 e4 with ⟨hn, w1, w2, w3⟩ | ⟨rfl, rfl, w3⟩
              · exact r.inj m n a c c' q1 w1 m1 m2 q3 w3
              · have := r.inj m k a _ _ q1 hl m1 rfl q3 w3
                omega
              · have := r.inj n k a _ _ w1 hl m2 rfl w3 q3
                omega
              · rfl
          · exact plain (g H' p' x r)
        · exact plain (g H' p' x r)
      · exact plain (g H' p' x r)
  · exact plain (g H' p' x r)
end
theorem start_rs {K : PySem.W.Frag} {H : Hp} {p : List Addr} {N : List Str} {ds : List D} {vs : List V} (h : RVs K H p ds vs) : Rs K H p (ds.map some ++ List.replicate (N.length - ds.length) none) (L2.start N vs) := by
  have e := h.len
  unfold L2.start
  refine ⟨by simp [e], fun i d q => ?_⟩
  by_cases hi : i < ds.length
  · rw [List.getElem?_append_left (by simpa using hi), List.getElem?_map] at q
    have q' : ds[i]? = some d := by
      cases hd : ds[i]? with
      | none => rw [hd] at q; cases q
      | some x => rw [hd] at q; cases q; rfl
    obtain ⟨v, e1, e2⟩ := h.get q'
    refine ⟨v, ?_, e2⟩
    rw [List.getElem?_append_left (by simp; omega), List.getElem?_map, e1]
    rfl
  · rw [List.getElem?_append_right (by simpa using hi)] at q
    obtain ⟨h1, h2⟩ := List.getElem?_eq_some_iff.mp q
    simp at h2
section
variable {P : Program} {w : World} {K : PySem.W.Frag} {mg : Str → Option Value} {base : Heap} {x qual : Str} {st : Stmt} {dvs : List V} {kws : List (Str × V)} {f : Addr} {fd : FuncData}
theorem fn_def {N ps : List Str} {k n np : Nat} {body : SS} {xv : XV} (F : FunD K x qual (defArgs st) (defBody st) (defScope st) dvs kws f fd) (S : FnScope N ps (defScope st))
    (hbody : ∀ (cdv : Value) (A : Around) (outer : List PySem.Env) (s : Shared) (H : Hp) (E : XK), Room k (A.deeper (envOfC qual (defScope st) s.heap.objs.size f cdv)) →
      MSs (cxOf (CXn xv.nn P w) P w K mg base N qual (defScope st) f cdv A outer s H E) ⟨xv, fun cls d _ H => E cls d H⟩ (defBody st) body) (hn : N.length = n := by rfl) (hp : ps.length = np := by rfl) : FnOk P w K mg base (CXn xv.nn P w) (k + 1) f fd ps (SpOf K xv (mkDef n np body)) := by
  subst hn hp
  refine F.ok S (fun vs H Q E h => ?_) fun cdv A outer s H vs Q E hr h => ?_
  · obtain ⟨ds, p, S0, r, rst, g⟩ := h
    unfold mkDef at g
    split at g
    · rename_i hl
      rw [← r.len]
      exact hl
    · exact g.elim
  · obtain ⟨ds, p, S0, r, rst, g⟩ := h
    refine ⟨_, hbody cdv A outer s H E hr ⟨takesN_of rfl rfl rfl rfl, passes_of rfl⟩, p, _, S0, start_rs r, rst, ?_⟩
    unfold mkDef at g
    split at g
    · cases hb : body (ds.map some ++ List.replicate (N.length - ds.length) none) S0 with
      | rt d S1 =>
        rw [hb] at g
        exact fun v H' p' x r' rv => let ⟨_, _, _, q, rv'⟩ := gc_ok rst x r' rv g; q v rv'
      | nx e S1 =>
        rw [hb] at g
        exact fun σ' H' p' x _ r' => let ⟨_, _, _, q, rv'⟩ := gc_ok rst x r' (RV.non_iff.mpr rfl) g; q _ rv'
      | exc c e S1 => rw [hb] at g; exact fun σ' H' p' x _ r' => g H' p' x r'
      | bk e S1 => rw [hb] at g; exact g.elim
      | ct e S1 => rw [hb] at g; exact g.elim
      | bad => rw [hb] at g; exact g.elim
    · exact g.elim
theorem _root_.L2.FunD.lk (F : FunD K x qual (defArgs st) (defBody st) (defScope st) dvs kws f fd) : ∃ oc od osl, K.lookup f = some ⟨oc, od, .func fd, osl⟩ := by
  obtain ⟨oc, od, dV, kV, doc, pm, an, cdv, ct, osl, rfl, lk, _⟩ := F.ex
  exact ⟨oc, od, osl, lk⟩
structure FAt (K : PySem.W.Frag) (x : Str) (st : Stmt) (dvs : List V) : Prop where
  ex : ∃ (f : Addr) (fd : FuncData), PySem.W.nsIn K mainGlobals x = some (some (.ref f)) ∧ FunD K x x (defArgs st) (defBody st) (defScope st) dvs [] f fd
end
structure DefOk (P : Program) (w : World) (K : PySem.W.Frag) (mg : Str → Option Value) (base : Heap) (xv : XV) (x : Str) (k : Nat) (ps : List Str) (m : Mf) : Prop where
  ex : ∃ (f : Addr) (fd : FuncData), mg x = some (.ref f) ∧ PySem.W.keepIn K (.ref f) = true ∧ Binds K fd ps [] ∧ FnOk P w K mg base (CXn xv.nn P w) k f fd ps (SpOf K xv m) ∧ ∃ oc od osl, K.lookup f = some ⟨oc, od, .func fd, osl⟩
section
variable {X : Cx} {G : Gx} {e : Expr} {es : List Expr} {sr : SA} {pos : Pos}
theorem me_fn {x : Str} {p : Pos} {k j : Nat} {ps : List Str} {m : Mf} (F : DefOk X.prog X.w X.K X.mg X.base G.xv x k ps m) (hr : Room j X.A) (ha : MA X G (e :: es) sr) (hj : k ≤ j := by decide)
    (hg : Gl X x := by rfl) (hdb : (x == ("__debug__" : Str)) = false := by decide) (he : starEach (e :: es) X.env = (false, eval e X.env) :: starEach es X.env := by rfl) (hpl : (backTo pos (starEach es X.env)).any (·.1) = false := by rfl) :
    ME X G (.Call (.Name x p) (e :: es) [] pos) (sCall m sr) := by
  obtain ⟨f, fd, h1, h2, h3, h4, _⟩ := F.ex
  exact me_call h4 hr hj h1 h2 h3 ha hg hdb he hpl
end
section
variable {P : Program} {w : World} {K : PySem.W.Frag} {mg : Str → Option Value} {base h : Heap}
theorem defok_mk {x : Str} {st : Stmt} {N ps : List Str} {k n np : Nat} {body : SS} {xv : XV} (X : K.In h) (G : h.Ns mainGlobals mg) (F : FAt K x st []) (S : FnScope N ps (defScope st))
    (hb : ∀ (kV doc pm : Value) (an : Option Addr) (cdv ct : Value) (us : List Value), us.length = ps.length → bindArgs (PySem.W.fnOf x x (defArgs st) (defBody st) (defScope st) .none kV doc pm an cdv ct) ⟨us, []⟩ = pure (ps.zip us))
    (hbody : ∀ (f : Addr) (cdv : Value) (A : Around) (outer : List PySem.Env) (s : Shared) (H : Hp) (E : XK), Room k (A.deeper (envOfC x (defScope st) s.heap.objs.size f cdv)) →
      MSs (cxOf (CXn xv.nn P w) P w K mg base N x (defScope st) f cdv A outer s H E) ⟨xv, fun cls d _ H => E cls d H⟩ (defBody st) body) (hn : N.length = n := by rfl) (hp : ps.length = np := by rfl) : DefOk P w K mg base xv x (k + 1) ps (mkDef n np body) := by
  obtain ⟨f, fd, a, F⟩ := F.ex
  exact ⟨f, fd, PySem.W.mg_of X G a, F.kp, F.bindsN hb, fn_def F S (hbody f) hn hp, F.lk⟩
end
theorem law_sp {K : PySem.W.Frag} {xv : XV} {m : Mf} {H : Hp} {a : Addr} {ns : List Int} (hO : Only H) (hS : SqL K H a (ns.map V.int)) (S' : Store) (h : m [.ref 0] [.fro (ns.map D.int)] = .ok (.bl true) S') :
    SpOf K xv m [.ref a] H (fun v _ => v = .bl true) fun _ _ _ => False := by
  have hf : FroX K H a (ns.map V.int) := by
    rcases hS with (h | h) | h
    · rcases hO a with z | ⟨o, xs, z⟩
      · rw [z] at h; cases h
      · rw [z] at h; cases h
    · exact .inl h
    · exact .inr h
  have ri : ∀ ns : List Int, RVs K H [a] (ns.map D.int) (ns.map V.int) := by
    intro ns
    induction ns with
    | nil => exact RVs.nil
    | cons n r ih => exact RVs.cons (RV.int_iff.mpr rfl) ih
  refine ⟨[.ref 0], [a], [.fro (ns.map D.int)], RVs.cons (RV.ref_iff.mpr ⟨a, rfl, rfl⟩) RVs.nil, ⟨rfl, fun n c b e1 e2 => ?_, fun m n b c c' e1 e2 m1 m2 e3 e4 => ?_⟩, ?_⟩
  · cases n with
    | zero =>
      cases e1
      cases e2
      exact ⟨_, hf, ri ns⟩
    | succ n => simp at e1
  · cases m with
    | zero => cases e1; cases m1
    | succ m => simp at e1
  · rw [h]
    exact fun H' p' _ _ v rv => RV.bl_iff.mp rv
end Rg
namespace Rg
open PySem PySem.Spec PyProof.Rows L2
structure CAt (K : PySem.W.Frag) (mg : Str → Option Value) (x : Str) (d : D) : Prop where
  ex : ∃ (v : V) (u : Value), mg x = some u ∧ RelV v u ∧ KD K d v
section
variable {X : Cx} {G : Gx} {e a b c o : Expr} {pos : Pos} {sa sb sc so : SE} {st su : ST} {es : List Expr} {sr : SA}
theorem me_const {x : Str} {d : D} (h : CAt X.K X.mg x d) (hg : Gl X x := by rfl) (hd : (x == ("__debug__" : Str)) = false := by decide) : ME X G (.Name x pos) (sC d) := by
  obtain ⟨v, u, h1, h2, h3⟩ := h.ex
  exact me_glob h1 h2 h3 hg hd
def minL : List Int → Int
  | [] => 0
  | [a] => a
  | a :: r => min a (minL r)
def fMinL : Mf := fun ds S => match (lst1 S ds).bind intsD with
  | some (a :: r) => .ok (.int (minL (a :: r))) S
  | _ => .bad
end
theorem cx_no {P : Program} {w : World} {H : Hp} {s s' : Shared} {e : Value} (z : L2.CX P w [] H s (fun _ _ _ => False) e s') : False := by
  obtain ⟨_, _, _, _, _, _, _, _, _, _, _, _, q⟩ := z
  exact q.elim
theorem law_end {P : Program} {w : World} {K : PySem.W.Frag} {mg : Str → Option Value} {h : Heap} {fa : Addr} {k : Nat} {ps : List Str} {m : Mf} {x : Str} {st : Stmt} {xv : XV} (X : K.In h) (G : h.Ns mainGlobals mg) (hfa : mg x = some (.ref fa)) (F : FAt K x st [])
    (hb : ∀ (kV doc pm : Value) (an : Option Addr) (cdv ct : Value) (u : Value), bindArgs (PySem.W.fnOf x x (defArgs st) (defBody st) (defScope st) .none kV doc pm an cdv ct) ⟨[u], []⟩ = pure [(ps.headD x, u)])
    (hp : ps = [ps.headD x])
    (ok : ∀ base : Heap, K.In base → base.Ns mainGlobals mg → DefOk P w K mg base xv x k ps m) :
    ∃ fd : FuncData, (∀ (s : Shared) (u : Value), BindsTo s fd ⟨[u], []⟩ [(ps.headD x, u)]) ∧ ∀ base : Heap, K.In base → base.Ns mainGlobals mg → FnOk P w K mg base (CXn xv.nn P w) k fa fd [ps.headD x] (SpOf K xv m) := by
  obtain ⟨f, fd, a, F⟩ := F.ex
  have e := hfa.symm.trans (PySem.W.mg_of X G a)
  cases e
  have F0 := F
  obtain ⟨oc, od, dV, kV, doc, pm, an, cdv, ct, osl, rfl, lk, hcd, hD, hK⟩ := F.ex
  have hdv : dV = .none := by
    rcases hD with ⟨_, e⟩ | ⟨e, _⟩
    · exact e
    · exact absurd rfl e
  subst hdv
  refine ⟨_, fun s u => .of_eq (hb kV doc pm an cdv ct u), fun base h1 h2 => ?_⟩
  obtain ⟨f', fd', g1, g2, g3, g4, oc', od', osl', lk'⟩ := (ok base h1 h2).ex
  have e2 := hfa.symm.trans g1
  cases e2
  rw [← hp]
  rw [lk] at lk'
  cases lk'
  exact g4
end Rg
namespace Rg
open PySem PySem.Spec PyProof.Rows L2
section
variable {X : Cx} {G : Gx} {e a b c o : Expr} {pos : Pos} {sa sb so : SE} {st : ST} {es : List Expr} {sr : SA}
def sDct : SE := fun _ S => .ok (.ref S.length) (S ++ [.dct])
def fCountB : D → List D → Store → Res D := fun d ds S => match d, ds with
  | .ref n, [.bl k] => match (lstOf S n).bind boolsD with
    | some bs => .ok (.int (bs.count k : Nat)) S
    | none => .bad
  | _, _ => .bad
end
end Rg
namespace Rg
open PySem PySem.Spec PyProof.Rows L2
section
variable {prog : Program} {w : World} {A : Around} {E : Value → Shared → Prop} {s : Shared} {it l : Addr} {items : Array Value}
structure OwnSrc (prog : Program) (w : World) (T : String) (r d : Addr) (n : Nat) (P : Nat → Value → Prop) (St : Nat → Heap → Prop) : Prop where
  type : ∀ s : Shared, St 0 s.heap → s.TypeIs (.ref r) T
  there : ∀ h : Heap, St 0 h → r < h.objs.size ∧ d < h.objs.size
  notList : (Value.type T == Value.type "list") = false
  notTuple : (Value.type T == Value.type "tuple") = false
  hint : ∀ (A : Around) (E : Value → Shared → Prop) (s : Shared) (Q : Bool → Shared → Prop), St 0 s.heap → (∀ b tk, Q b { s with toks := tk }) → wpAny (model prog w) A (Builtin.List.listLengthHint (.ref r)) Q E s
  walk : ∀ (A : Around), A.handled = none → Walks prog w A r [r, d] [r] n P St
variable {T : String} {r d : Addr} {n : Nat} {P : Nat → Value → Prop} {St : Nat → Heap → Prop}
end
end Rg
namespace Rg
open PySem PySem.Spec PyProof.Rows L2
mutual
/-- a value of the written part, by data -/
def kdB (K : PySem.W.Frag) : D → Value → Bool
  | .non, .none => true
  | .bl b, .bool c => b == c
  | .int i, .int j _ => decide (i = j)
  | .str x, .str y _ => decide (x = y)
  | .tup l, .ref a => (match K.lookup a with
    | some ⟨.type c, _, .seq its _, _⟩ => decide (c = "tuple") && (decide (its.size ≤ sizeLine) && kdAll K l its.toList)
    | _ => false)
  | _, _ => false
def kdAll (K : PySem.W.Frag) : List D → List Value → Bool
  | [], [] => true
  | d :: l, u :: us => kdB K d u && kdAll K l us
  | _, _ => false
end
mutual
theorem kdB_ok {K : PySem.W.Frag} : ∀ (d : D) (u : Value), kdB K d u = true → ∃ v, RelV v u ∧ KD K d v
  | .non, u, h => by
    cases u with
    | none => exact ⟨.non, rfl, RV.non_iff.mpr rfl⟩
    | _ => simp [kdB] at h
  | .bl b, u, h => by
    cases u with
    | bool c =>
      have e : b = c := by simpa [kdB] using h
      subst e
      exact ⟨.bl b, rfl, RV.bl_iff.mpr rfl⟩
    | _ => simp [kdB] at h
  | .int i, u, h => by
    cases u with
    | int j t =>
      have e : i = j := by simpa [kdB] using h
      subst e
      exact ⟨.int i, ⟨_, rfl⟩, RV.int_iff.mpr rfl⟩
    | _ => simp [kdB] at h
  | .str x, u, h => by
    cases u with
    | str y t =>
      have e : x = y := by simpa [kdB] using h
      subst e
      exact ⟨.str x, ⟨_, rfl⟩, RV.str_iff.mpr rfl⟩
    | _ => simp [kdB] at h
  | .ref n, u, h => by simp [kdB] at h
  | .tup l, u, h => by
    cases u with
    | ref a =>
      unfold kdB at h
      cases q : K.lookup a with
      | none => rw [q] at h; cases h
      | some o =>
        obtain ⟨oc, od, dt, osl⟩ := o
        rw [q] at h
        cases oc with
        | type c =>
          cases dt with
          | seq its n =>
            dsimp only at h
            rw [Bool.and_eq_true, Bool.and_eq_true] at h
            obtain ⟨h1, h2, h3⟩ := h
            obtain ⟨xs, h4, h5⟩ := kdAll_ok l its.toList h3
            exact ⟨.ref a, rfl, RV.tup_iff.mpr ⟨a, xs, rfl, .inr ⟨_, its, n, q, congrArg Value.type (of_decide_eq_true h1), rfl, of_decide_eq_true h2, h4⟩, h5⟩⟩
          | _ => cases h
        | _ => cases h
    | _ => simp [kdB] at h
theorem kdAll_ok {K : PySem.W.Frag} : ∀ (l : List D) (us : List Value), kdAll K l us = true → ∃ xs, Vals xs us ∧ RVs K (fun _ => none) [] l xs
  | [], us, h => by
    cases us with
    | nil => exact ⟨[], .nil, RVs.nil⟩
    | cons u us => simp [kdAll] at h
  | d :: l, us, h => by
    cases us with
    | nil => simp [kdAll] at h
    | cons u us =>
      unfold kdAll at h
      rw [Bool.and_eq_true] at h
      obtain ⟨v, h1, h2⟩ := kdB_ok d u h.1
      obtain ⟨xs, h3, h4⟩ := kdAll_ok l us h.2
      exact ⟨v :: xs, .cons h1 h3, RVs.cons h2 h4⟩
end
def constB (K : PySem.W.Frag) (q : Str × D) : Bool := match PySem.W.nsIn K mainGlobals q.1 with
  | some (some u) => kdB K q.2 u
  | _ => false
theorem constB_ok {K : PySem.W.Frag} {h : Heap} {mg : Str → Option Value} {x : Str} {d : D} (X : K.In h) (G : h.Ns mainGlobals mg) (c : constB K (x, d) = true) : CAt K mg x d := by
  unfold constB at c
  cases e : PySem.W.nsIn K mainGlobals x with
  | none =>
    have e : PySem.W.nsIn K mainGlobals (x, d).1 = none := e
    rw [e] at c; cases c
  | some o =>
    have e2 : PySem.W.nsIn K mainGlobals (x, d).1 = some o := e
    rw [e2] at c
    cases o with
    | none => cases c
    | some u =>
      obtain ⟨v, h1, h2⟩ := kdB_ok d u c
      exact ⟨v, u, PySem.W.mg_of X G e, h1, h2⟩
inductive Cn where
  | own (y : Str) | blt (t : String)
def Cn.v (K : PySem.W.Frag) : Cn → Value
  | .own y => .ref (He.ga K y)
  | .blt t => .type t
inductive Fx where
  | isx (x : Str) | kit (x : Str) (cs : List Cn) (b : Bool) | nodig | tvals (x : Str) (tab : List (Str × Str))
def Fx.ok (K : PySem.W.Frag) : Fx → Bool
  | .isx x => decide (PySem.W.findIn K (.ref (He.ga K x)) "__getattribute__" = some (some (.builtin "BaseException.__getattribute__"))) && (decide (PySem.W.findIn K (.ref (He.ga K x)) "__getattr__" = some none) &&
      (decide (PySem.W.subIn K (.ref (He.ga K x)) (.type "BaseException") = some true) && (PySem.W.hasDictIn K (He.ga K x) && (decide (PySem.W.findIn K (.ref (He.ga K x)) "__class__" = some (some (.builtin "object.__class__"))) &&
      (decide (PySem.W.specialIn K (.builtin "object.__class__") "__get__" = some (some (.builtin "getset_descriptor.__get__"))) && (decide (PySem.W.takesIn K (.builtin "object.__class__") = some true) && decide (PySem.W.mroIn K (He.ga K x) (.type "object") = some true)))))))
  | .nodig => decide (PySem.W.nsIn K cStatics "sys.int_max_str_digits" = some none)
  | .tvals x tab => He.valsB K (He.ga K x) (tab.map fun q => (q.1, He.Dv.str q.2))
  | .kit x cs b => decide (PySem.W.kitAny K (.ref (He.ga K x)) (cs.map (Cn.v K)) = some b)
abbrev AlR : Type := Bool × He.AlD
def obsR (fx : List Fx) (fa : List He.Fa) (fn : List He.DefD) (cs : List (Str × D)) (K : PySem.W.Frag) : AlR := (cs.all (constB K) && fx.all (Fx.ok K), He.obsD fa fn K)
def valR (fn : List He.DefD) : AlR := (true, He.valD fn)
def SaysR (fx : List Fx) (fa : List He.Fa) (fn : List He.DefD) (cs : List (Str × D)) (K : PySem.W.Frag) : Prop := obsR fx fa fn cs K = valR fn
def obsRG (n : Nat) (fx : List Fx) (fa : List He.Fa) (fn : List He.DefD) (cs : List (Str × D)) (g : Addr → Option Obj) : AlR := obsR fx fa fn cs (He.frG g (cStatics :: He.asD g n))
def hookR (n : Nat) (fx : List Fx) (fa : List He.Fa) (fn : List He.DefD) (cs : List (Str × D)) : PySem.W.Hook where
  α := AlR
  obs := fun s => obsRG n fx fa fn cs s.heap.get?
  val := fun _ => valR fn
  says := fun _ h => ∃ K : PySem.W.Frag, K.In h ∧ SaysR fx fa fn cs K
  of := fun _ _ e => ⟨_, He.frG_in, e⟩
  keeps := fun _ _ _ ⟨K, hK, c⟩ k => ⟨K, PySem.W.Frag.In.keeps hK k, c⟩
structure SaysRT (fx : List Fx) (fa : List He.Fa) (fn : List He.DefD) (cs : List (Str × D)) (ts : List He.Tab) (w : World) (K : PySem.W.Frag) : Prop where
  r : SaysR fx fa fn cs K
  t : ts.map (fun t => He.dicW K (t.1 K)) = ts.map fun t => some (He.keysIn w.params t.2)
theorem obsRG_eq {n : Nat} {fx : List Fx} {fa : List He.Fa} {fn : List He.DefD} {cs : List (Str × D)} {g : Addr → Option Obj} {s : Shared} (h : ∀ a, g a = s.heap.get? a) : obsRG n fx fa fn cs g = (hookR n fx fa fn cs).obs s := by
  have e : g = s.heap.get? := funext h
  rw [e] <;> rfl
section
variable {fx : List Fx} {fa : List He.Fa} {fn : List He.DefD} {cs : List (Str × D)} {K : PySem.W.Frag}
theorem SaysR.d (c : SaysR fx fa fn cs K) : He.SaysD fa fn K := congrArg (fun z : AlR => z.2) c
theorem SaysR.c (c : SaysR fx fa fn cs K) {h : Heap} {mg : Str → Option Value} (X : K.In h) (G : h.Ns mainGlobals mg) (i : Nat) {x : Str} {d : D} (e : cs[i]? = some (x, d) := by rfl) : CAt K mg x d := by
  have c1 : cs.all (constB K) = true := (Bool.and_eq_true_iff.mp (congrArg (fun z : AlR => z.1) c)).1
  exact constB_ok X G (List.all_eq_true.mp c1 _ (List.mem_of_getElem? e))
theorem SaysR.x (c : SaysR fx fa fn cs K) (i : Nat) {f : Fx} (e : fx[i]? = some f := by rfl) : f.ok K = true := by
  have c1 : fx.all (Fx.ok K) = true := (Bool.and_eq_true_iff.mp (congrArg (fun z : AlR => z.1) c)).2
  exact List.all_eq_true.mp c1 _ (List.mem_of_getElem? e)
theorem SaysR.f (c : SaysR fx fa fn cs K) (i j : Nat) {x : Str} {st : Stmt} {dvs : List He.Dv} (e : fn[i]? = some ⟨(x, none), x, x, defArgs st, defBody st, defScope st, dvs, []⟩ := by rfl) (g : fa[j]? = some (.glo x) := by rfl) : FAt K x st (dvs.map (He.Dv.v K)) := by
  obtain ⟨fd, F⟩ := c.d.def_ i e
  exact ⟨⟨_, fd, He.eqO_ok (c.d.fact j g), F⟩⟩
end
theorem walk_ofR {l : PySem.W.OpenLaw} {n k : Nat} {q : Program} {loose : List Str} {XP : (Str → Option Value) → Heap → Prop} {YP : World → Heap → Prop} {d : DefRec} {CX : World → CXT} {x : Str}
    (hn : l.most = some n) (hn2 : n ≤ sizeLine) (hdf : d.params.defaults = []) (hr : Room k callerA)
    (F : ∀ (w : World) (mg : Str → Option Value) (fa : Addr) (h : Heap), YP w h → h.Ns mainGlobals mg → mg d.name = some (.ref fa) →
      ∃ (K : PySem.W.Frag) (fd : FuncData) (sp : Sp), K.In h ∧ (∀ (s : Shared) (u : Value), BindsTo s fd ⟨[u], []⟩ [(x, u)]) ∧
        (∀ (H : Hp) (a : Addr) (ns : List Int), ns.length ≤ n → (∀ z ∈ ns, Builtin.Int.intBits z ≤ 1048576) → Only H → SqL K H a (ns.map V.int) → sp [.ref a] H (fun v _ => v = .bl true) fun _ _ _ => False) ∧
        ∀ base : Heap, K.In base → base.Ns mainGlobals mg → FnOk l.prog w K mg base (CX w) k fa fd [x] sp)
    (hCX : ∀ (w : World) (H : Hp) (s : Shared) (e : Value) (s' : Shared), CX w [] H s (fun _ _ _ => False) e s' → False) :
    PySem.W.WalkO q loose XP YP l.row.toRowW d [] (fun f vs => PySem.call f vs) := by
  refine Att.attach_callB hn hdf fun w s₀ s₁ mg mb fa o pm cd doc a vs ns G Y ho hd hcd hmg hobj hints hlen hbits hg => ?_
  obtain ⟨K, fd, sp, KX, hb, hsp, hF⟩ := F w mg fa _ Y G.T.g hmg
  exact law_call KX G.T.g G.T.b G.T.builtins G.T.nolimit hg hobj hints (Nat.le_trans hlen hn2) hr hF hb (fun H hO hS => hsp H a ns hlen hbits hO hS) fun H e s' => hCX w H s₁ e s'
end Rg
namespace Rg
open PySem PySem.Spec PyProof.Rows L2
def sCallD (m : Mf) (dv : List Int) (s : SA) : SE := fun env S => (s env S).bind fun ds S1 => m (ds ++ dv.map D.int) S1
structure DefOkD (P : Program) (w : World) (K : PySem.W.Frag) (mg : Str → Option Value) (base : Heap) (xv : XV) (x : Str) (k : Nat) (ps : List Str) (dv : List Int) (m : Mf) : Prop where
  ex : ∃ (f : Addr) (fd : FuncData) (its : List Value), mg x = some (.ref f) ∧ PySem.W.keepIn K (.ref f) = true ∧ Vals (dv.map V.int) its ∧ Binds K fd ps its ∧ FnOk P w K mg base (CXn xv.nn P w) k f fd ps (SpOf K xv m)
def fRevRng1 (ds : List D) (S : Store) : Res Wk := match ds with
  | [.int j] => if -(2 ^ 62) ≤ j ∧ j < 2 ^ 62 then .ok ⟨(rangeD 0 j.toNat).reverse, fun _ => True⟩ S else .bad
  | _ => .bad
section
def sRevRng (sa : SE) : SI := fun env S => (sa env S).bind fun d S1 => fRevRng1 [d] S1
variable {X : Cx} {G : Gx} {tg a : Expr} {pos pos2 : Pos} {sa : SE}
end
end Rg
namespace Rg
open PySem PySem.Spec PyProof.Rows L2
section
variable {K : PySem.W.Frag} {H H' : Hp} {p p' : List Addr}
theorem RFs.len {fs : List (Str × D)} {vs : List (Str × V)} (h : RFs K H p fs vs) : fs.length = vs.length := by
  have := congrArg List.length h.1
  simpa using this
end
structure MAt (K : PySem.W.Frag) (c mn q : Str) (st : Stmt) : Prop where
  ex : ∃ fd : FuncData, FunD K mn q (defArgs st) (defBody st) (defScope st) [] [] (He.ma K (He.ga K c) mn) fd
structure MetOk (P : Program) (w : World) (K : PySem.W.Frag) (mg : Str → Option Value) (base : Heap) (xv : XV) (c mn : Str) (k : Nat) (ps : List Str) (m : Mf) : Prop where
  ex : ∃ fd : FuncData, Binds K fd ps [] ∧ FnOk P w K mg base (CXn xv.nn P w) k (He.ma K (He.ga K c) mn) fd ps (SpOf K xv m)
end Rg
namespace Rg
open PySem PySem.Spec PyProof.Rows L2
end Rg
namespace Rg
open PySem PySem.Spec PyProof.Rows L2
section
variable {X : Cx} {G : Gx} {e : Expr} {sa : SE}
def fListRev : D → Store → Res D := fun d S => match d with
  | .tup l => .ok (.ref S.length) (S ++ [.lst l.reverse])
  | .ref n => match lstOf S n with
    | some l => .ok (.ref S.length) (S ++ [.lst l.reverse])
    | none => .bad
  | _ => .bad
end
end Rg
namespace Rg
open PySem PySem.Spec PyProof.Rows L2
def xvK (K : PySem.W.Frag) : XV := ⟨fun x => .ref (He.ga K x), false⟩
structure XAt (K : PySem.W.Frag) (mg : Str → Option Value) (xv : XV) (x : Str) : Prop where
  v : xv x = .ref (He.ga K x)
  g : mg x = some (.ref (He.ga K x))
  e : PySem.W.excIn K (He.ga K x) He.veBase "ValueError.__new__" = true
  k : PySem.W.keepIn K (.ref (He.ga K x)) = true
  b : PySem.W.subIn K (.ref (He.ga K x)) (.type "BaseException") = some true
  t : PySem.W.typeIn K (.ref (He.ga K x)) = some (.type "type")
end Rg
namespace Rg
open PySem PySem.Spec PyProof.Rows L2
end Rg
namespace Rg
open PySem PySem.Spec PyProof.Rows L2
section
variable {X : Cx} {G : Gx} {a b e : Expr} {pos : Pos} {sa sb : SE} {es : List Expr} {sr : SA}
theorem each_of_vals {R : V → PyData → Prop} : ∀ {bs : List (V × PyData)} {us : List Value}, Vals (bs.map (·.1)) us → PySem.W.EachIs (fun u (b : V × PyData) => RelV b.1 u) us bs
  | [], us, h => by cases h; exact .nil
  | b :: bs, us, h => by
    cases h with
    | cons r1 r => exact .cons r1 (each_of_vals (R := R) r)
theorem vals_of_each : ∀ {bs : List (V × PyData)} {us : List Value}, PySem.W.EachIs (fun u (b : V × PyData) => RelV b.1 u) us bs → Vals (bs.map (·.1)) us
  | [], _, .nil => .nil
  | _ :: _, _, .cons r1 r => .cons r1 (vals_of_each r)
def datas (S : Store) (l : List D) : Option (List (D × PyData)) := match allP (toP S 60) l with
  | some ds => some (l.zip ds)
  | none => none
theorem three_of {K : PySem.W.Frag} {H : Hp} {p : List Addr} {S : Store} (R : RSt K H p S) : ∀ {l : List D} {ds : List PyData} {xs : List V}, allP (toP S 60) l = some ds → RVs K H p l xs →
    ∃ zs : List (D × V × PyData), zs.map (·.1) = l ∧ zs.map (·.2.1) = xs ∧ zs.map (·.2.2) = ds ∧ (∀ z ∈ zs, RV K H p z.1 z.2.1 ∧ Dp K H z.2.1 z.2.2 ∧ z.2.2.depth ≤ 60)
  | [], ds, xs, h, r => by
    unfold allP at h
    cases h
    rw [RVs.nil_iff] at r
    subst r
    exact ⟨[], rfl, rfl, rfl, by simp⟩
  | d :: l, ds, xs, h, r => by
    unfold allP at h
    split at h
    · rename_i x r' h1 h2
      cases h
      obtain ⟨v, t, rfl, r1, r2⟩ := RVs.cons_iff.mp r
      obtain ⟨zs, e1, e2, e3, e4⟩ := three_of R h2 r2
      refine ⟨(d, v, x) :: zs, by simp [e1], by simp [e2], by simp [e3], fun z hz => ?_⟩
      rcases List.mem_cons.mp hz with rfl | hz
      · exact ⟨r1, toP_dp R 60 d x v h1 r1, (toP_sh 60 d x h1).2⟩
      · exact e4 z hz
    · cases h
theorem rvs_map {K : PySem.W.Frag} {H : Hp} {p : List Addr} : ∀ {zs : List (D × V × PyData)}, (∀ z ∈ zs, RV K H p z.1 z.2.1) → RVs K H p (zs.map (·.1)) (zs.map (·.2.1))
  | [], _ => .nil
  | z :: zs, h => .cons (h z (by simp)) (rvs_map fun y hy => h y (by simp [hy]))
end
end Rg
namespace Rg
open PySem PySem.Spec PyProof.Rows L2
section
variable {X : Cx} {G : Gx} {pos : Pos}
theorem Rs.clear {K : PySem.W.Frag} {H : Hp} {p : List Addr} {env : Env} {σ : L2.St} (i : Nat) (h : Rs K H p env σ) : Rs K H p (env.set i none) (σ.set i none) := by
  refine ⟨by simp [h.1], fun j e q => ?_⟩
  by_cases hj : i = j
  · subst hj
    by_cases hi : i < env.length
    · rw [List.getElem?_set_self hi] at q
      cases q
    · rw [List.getElem?_eq_none (by simpa using hi)] at q
      cases q
  · rw [List.getElem?_set_ne hj] at q
    obtain ⟨w, a, b⟩ := h.2 j e q
    exact ⟨w, by rw [List.getElem?_set_ne hj]; exact a, b⟩
def Cn.x (K : PySem.W.Frag) : Cn → V
  | .own y => .ref (He.ga K y)
  | .blt t => .ty t
theorem Cn.rel {K : PySem.W.Frag} {c : Cn} {u : Value} (h : RelV (c.x K) u) : u = c.v K := by
  cases c with
  | own y => exact h
  | blt t => exact h
variable {a e : Expr} {es : List Expr} {sa : SE}
variable {b o : Expr} {sb so se : SE} {apos : Pos}
end
end Rg
namespace Rg
open PySem PySem.Spec PyProof.Rows L2
structure HidL (p : Prop) : Prop where
  out : p
end Rg
namespace Rg
open PySem PySem.Spec PyProof.Rows L2
end Rg
namespace Rg
open PySem PySem.Spec PyProof.Rows L2
section
variable {X : Cx} {G : Gx} {e : Expr} {es : List Expr} {sa : SE} {sr sk : SA} {pos kpos : Pos} {kws : List Keyword} {nm : Option Str}
def kwOrd {α : Type} (rv : Bool) (us ws : List α) : List α := us ++ if rv then ws.reverse else ws
structure DefOkK (P : Program) (w : World) (K : PySem.W.Frag) (mg : Str → Option Value) (base : Heap) (xv : XV) (x : Str) (k : Nat) (ps : List Str) (n : Nat) (ks : List Str) (rv : Bool) (m : Mf) : Prop where
  ex : ∃ (f : Addr) (fd : FuncData), mg x = some (.ref f) ∧ PySem.W.keepIn K (.ref f) = true ∧ KBn K fd ps n ks (kwOrd rv) (kwOrd rv) ∧ FnOk P w K mg base (CXn xv.nn P w) k f fd ps (SpOf K xv m)
end
end Rg
namespace Rg
open PySem PySem.Spec PyProof.Rows L2
structure TabAt (K : PySem.W.Frag) (w : World) (mg : Str → Option Value) (x : Str) (tab : List (Str × Str)) : Prop where
  ex : ∃ a es n, mg x = some (.ref a) ∧ KDict K w a es n ∧ (∀ z y, tab.lookup z = some y → ∃ u, PySem.W.nsIn K a z = some (some u) ∧ RelV (.str y) u) ∧ ∀ z, tab.lookup z = none → PySem.W.nsIn K a z = some none
end Rg
namespace Rg
open PySem PySem.Spec PyProof.Rows L2
end Rg
namespace Rg
open PySem PySem.Spec PyProof.Rows L2
structure FAtA (K : PySem.W.Frag) (x nm : Str) (st : Stmt) : Prop where
  ex : ∃ (f : Addr) (fd : FuncData), PySem.W.nsIn K mainGlobals x = some (some (.ref f)) ∧ FunD K nm nm (defArgs st) (defBody st) (defScope st) [] [] f fd
end Rg
namespace Rg
open PySem PySem.Spec PyProof.Rows L2
end Rg
namespace Rg
open PySem PySem.Spec PyProof.Rows L2
section
variable {prog : Program} {w : World} {A : Around} {E : Value → Shared → Prop} {s : Shared}
structure HeapSrc (prog : Program) (w : World) (T : String) (S r : Addr) (fp wr : List Addr) (n : Nat) (J : Nat → Array Value → Heap → Prop) (F : Array Value → Heap → Prop) : Prop where
  type : ∀ (s : Shared) acc, J 0 acc s.heap → s.TypeIs (.ref r) T
  notList : (Value.type T == Value.type "list") = false
  notTuple : (Value.type T == Value.type "tuple") = false
  hint : ∀ (A : Around) (E : Value → Shared → Prop) (s : Shared) (Q : Bool → Shared → Prop) acc, J 0 acc s.heap → (∀ b tk, Q b { s with toks := tk }) → wpAny (model prog w) A (Builtin.List.listLengthHint (.ref r)) Q E s
  off : S ∉ wr
  ne : S ≠ r
  size : ∀ i acc h, J i acc h → acc.size = i
  frame : ∀ i acc h h', J i acc h → (∀ b o, b ≠ S → h.get? b = some o → h'.get? b = some o) → J i acc h'
  item : ∀ (A : Around), A.handled = none → ∀ i (s : Shared) acc (Q : Option Value → Shared → Prop) (E : Value → Shared → Prop), i < n → S < s.heap.objs.size → J i acc s.heap →
    (∀ v h' tk, J (i + 1) (acc.push v) h' → (∀ b o, b ∉ wr → s.heap.get? b = some o → h'.get? b = some o) → Q (some v) { s with heap := h', toks := tk }) → wpAny (model prog w) A (pyNext (.ref r)) Q E s
  done : ∀ (A : Around), A.handled = none → ∀ (s : Shared) acc (Q : Option Value → Shared → Prop) (E : Value → Shared → Prop), J n acc s.heap →
    (∀ h' tk, F acc h' → (∀ b o, b ∉ wr → s.heap.get? b = some o → h'.get? b = some o) → Q none { s with heap := h', toks := tk }) → wpAny (model prog w) A (pyNext (.ref r)) Q E s
  self : ∀ (A : Around) (s : Shared) acc (Q : Value → Shared → Prop) (E : Value → Shared → Prop), J 0 acc s.heap → Q (.ref r) s → wpAny (model prog w) A (pyIter (.ref r)) Q E s
variable {T : String} {S r : Addr} {fp wr : List Addr} {n : Nat} {J : Nat → Array Value → Heap → Prop} {F : Array Value → Heap → Prop} {R : Result → Shared → Prop}
end
end Rg
namespace Rg
open PySem PySem.Spec PyProof.Rows L2
structure EJ (N0 : Nat) (S e it : Addr) (P : Nat → Value → Prop) (St : Nat → Heap → Prop) (i : Nat) (acc : Array Value) (h : Heap) : Prop where
  size : acc.size = i
  st : St i h
  tup : ∀ j, j < i → ∃ a t x, acc[j]? = some (.ref a) ∧ h.get? a = some { cls := .type "tuple", data := .seq #[.int j t, x] } ∧ P j x ∧ N0 ≤ a ∧ a ≠ S ∧ a ≠ e ∧ a ≠ it
  en : (i = 0 ∧ ∃ old, IsEnum h e it 0 old) ∨ 0 < i ∧ ∃ T f old oT, IsEnumHeld h e it i old T f ∧ h.get? T = some oT ∧ T ≠ e ∧ T ≠ it ∧ T ≠ S
end Rg
namespace Rg
open PySem PySem.Spec PyProof.Rows L2
end Rg
namespace Rg
open PySem PySem.Spec PyProof.Rows L2
def fMin4 : Mf := fun ds S => match ds with
  | [.int i, .int j, .int k, .int l] => .ok (.int (min (min (min i j) k) l)) S
  | _ => .bad
end Rg
namespace Rg
open PySem PySem.Spec PyProof.Rows L2
def fMinA : Mf := fun ds S => match ds with
  | [.tup [.int i, .int j, .int k, .int l]] => .ok (.int (min (min (min i j) k) l)) S
  | _ => fMinL ds S
end Rg
namespace Rg
open PySem PySem.Spec PyProof.Rows L2
structure ZJ (N0 : Nat) (S z TI TO i1 i2 l1 l2 : Addr) (xs ys : Array Value) (i : Nat) (acc : Array Value) (h : Heap) : Prop where
  size : acc.size = i
  ti : IsPair h TI (.ref i1) (.ref i2)
  h1 : h.IsListIter i1 l1 i
  h2 : h.IsListIter i2 l2 i
  hl1 : h.IsList l1 xs
  hl2 : h.IsList l2 ys
  tup : ∀ j, j < i → ∃ a x y, acc[j]? = some (.ref a) ∧ IsPair h a x y ∧ xs[j]? = some x ∧ ys[j]? = some y ∧ N0 ≤ a ∧ a ≠ S ∧ a ≠ z ∧ a ≠ TO ∧ a ≠ i1 ∧ a ≠ i2
  inj : ∀ (j k : Nat) (a : Addr), acc[j]? = some (.ref a) → acc[k]? = some (.ref a) → j = k
  to : ∃ a b, IsPair h TO a b
  en : (i = 0 ∧ IsZip h z TI TO .none) ∨ 0 < i ∧ ∃ T f oT, IsZipHeld h z TI TO T f ∧ h.get? T = some oT ∧ T ≠ z ∧ T ≠ i1 ∧ T ≠ i2 ∧ T ≠ S
end Rg
namespace Rg
open PySem PySem.Spec PyProof.Rows L2
end Rg
namespace Rg
open PySem L2
noncomputable def m_l_pool : Mf := mkDef 1 1 (sRet (sLst (sCons (sCall fMax2 (sCons (sC (.int (0))) (sCons (s2 fSub (sVar 0) (s2 fPow (sC (.int (10))) (sC (.int (18))))) (sNil)))) (sCons (s2 fMod (sVar 0) (s2 fPow (sC (.int (10))) (sC (.int (18))))) (sCons (sC (.int (0))) (sNil))))))
noncomputable def m_l_next : Mf := mkDef 5 2 (sSeq (sIfS (sT (s2 fGt (s2 fIx (sVar 0) (sC (.int (0)))) (sC (.int (0))))) (sSeq (sSet 2 (s2 fMod (s2 fIx (sVar 0) (sC (.int (0)))) (sVar 1))) (sSeq (sSetIx (s2 fDiv (s2 fIx (sVar 0) (sC (.int (0)))) (sVar 1)) (sVar 0) (sC (.int (0)))) (sRet (sVar 2)))) (sSkip)) (sSeq (sSetIx (s2 fPlus (s2 fIx (sVar 0) (sC (.int (2)))) (sC (.int (1)))) (sVar 0) (sC (.int (2)))) (sSeq (sSet 3 (s2 fMod (s2 fPlus (s2 fIx (sVar 0) (sC (.int (1)))) (s2 fMul (sC (.int (7919))) (s2 fIx (sVar 0) (sC (.int (2)))))) (sC (.int (1000000007))))) (sSeq (sSet 4 (s2 fMod (s2 fMul (s2 fPlus (sVar 3) (sC (.int (11)))) (s2 fPlus (sVar 3) (sC (.int (48271))))) (sC (.int (998244353))))) (sRet (s2 fMod (s2 fDiv (s2 fMod (s2 fMul (sVar 4) (sVar 4)) (sC (.int (2147483647)))) (sC (.int (8)))) (sVar 1)))))))
noncomputable def m_whole_entries : Mf := mkDef 2 1 (sSeq (sFor (sIter (sVar 0)) (gN 1) (sIfS (sT (s2 fNe (s2 fIx (sVar 1) (sC (.int (1)))) (sC (.int (1))))) (sNever) (sSkip))) (sRet (sCall fTuple (sCons (sComp (sIter (sVar 0)) (gN 1) (sYes) (s2 fIx (sVar 1) (sC (.int (0)))) [1]) (sNil)))))
noncomputable def m_product : Mf := mkDef 10 2 (sSeq (sAsg (sVar 0) (gT 4 (gsCons (gN 2) (gsCons (gN 3) (gsCons (gN 4) (gsCons (gN 5) (gsNil))))))) (sSeq (sAsg (sVar 1) (gT 4 (gsCons (gN 6) (gsCons (gN 7) (gsCons (gN 8) (gsCons (gN 9) (gsNil))))))) (sRet (sTup (sCons (s2 fPlus (s2 fMul (sVar 2) (sVar 6)) (s2 fMul (sVar 3) (sVar 8))) (sCons (s2 fPlus (s2 fMul (sVar 2) (sVar 7)) (s2 fMul (sVar 3) (sVar 9))) (sCons (s2 fPlus (s2 fMul (sVar 4) (sVar 6)) (s2 fMul (sVar 5) (sVar 8))) (sCons (s2 fPlus (s2 fMul (sVar 4) (sVar 7)) (s2 fMul (sVar 5) (sVar 9))) (sNil)))))))))
noncomputable def m_run_entries : Mf := mkDef 3 3 (sSeq (sIfS (sT (s2 fEq (sVar 0) (sC (.str ("gap" : Str))))) (sRet (sTup (sCons (sC (.int (1))) (sCons (sVar 1) (sCons (sC (.int (0))) (sCons (sC (.int (1))) (sNil))))))) (sSkip)) (sRet (sTup (sCons (sC (.int (1))) (sCons (sC (.int (0))) (sCons (s2 fSub (sC (.int (0))) (s2 fMul (sVar 1) (sVar 2))) (sCons (sC (.int (1))) (sNil))))))))
noncomputable def m_product_of : Mf := mkDef 5 2 (sSeq (sSet 2 (sTup (sCons (sC (.int (1))) (sCons (sC (.int (0))) (sCons (sC (.int (0))) (sCons (sC (.int (1))) (sNil))))))) (sSeq (sFor (sIter (sVar 0)) (gT 2 (gsCons (gN 3) (gsCons (gN 4) (gsNil)))) (sSet 2 (sCall m_product (sCons (sVar 2) (sCons (sCall m_run_entries (sCons (sVar 3) (sCons (sVar 4) (sCons (sVar 1) (sNil))))) (sNil)))))) (sRet (sVar 2))))
noncomputable def m_run_table : Mf := mkDef 4 2 (sSeq (sSet 2 (sCall m_product_of (sCons (s1 fListRev (sVar 0)) (sCons (sVar 1) (sNil))))) (sRet (sCall fTuple (sCons (sComp (sIter (sVar 2)) (gN 3) (sYes) (sTup (sCons (sVar 3) (sCons (sC (.int (1))) (sNil)))) [3]) (sNil)))))
noncomputable def m_refuse_many : Mf := mkDef 1 1 (sIfS (sT (s2 fGt (sVar 0) (sC (.int (4000))))) (sNever) (sSkip))
noncomputable def m_turns_of : Mf := mkDef 8 1 (sSeq (sAsg (sVar 0) (gT 4 (gsCons (gN 1) (gsCons (gN 2) (gsCons (gN 3) (gsCons (gN 4) (gsNil))))))) (sSeq (sSet 5 (sLst (sNil))) (sSeq (sSet 6 (sC (.int (0)))) (sSeq (sWhile (sT (s2 fNe (sVar 3) (sC (.int (0))))) (sSeq (sSet 7 (s2 fSub (sC (.int (0))) (s2 fDiv (s2 fSub (sC (.int (0))) (s2 fMul (sVar 1) (sVar 3))) (s2 fMul (sVar 3) (sVar 3))))) (sSeq (sIfS (sT (s2 fGt (sCall fLen (sCons (sVar 5) (sNil))) (sC (.int (0))))) (sSeq (sSet 6 (s2 fPlus (sVar 6) (sVar 7))) (sDrop (sCall m_refuse_many (sCons (sVar 6) (sNil))))) (sSkip)) (sSeq (sDrop (sMethL fAppend (sVar 5) (sCons (sVar 7) (sNil)))) (sAsg (sTup (sCons (s2 fSub (sC (.int (0))) (sVar 3)) (sCons (s2 fSub (sC (.int (0))) (sVar 4)) (sCons (s2 fSub (sVar 1) (s2 fMul (sVar 7) (sVar 3))) (sCons (s2 fSub (sVar 2) (s2 fMul (sVar 7) (sVar 4))) (sNil)))))) (gT 4 (gsCons (gN 1) (gsCons (gN 2) (gsCons (gN 3) (gsCons (gN 4) (gsNil))))))))))) (sSeq (sDrop (sMethL fAppend (sVar 5) (sCons (s2 fMul (sVar 1) (sVar 2)) (sNil)))) (sRet (sVar 5)))))))
noncomputable def m_mended_ahead : Mf := mkDef 2 1 (sSeq (sSet 1 (s2 fIx (sVar 0) (sC (.int (0))))) (sSeq (sIfS (sT (s2 fGt (sVar 1) (sC (.int (0))))) (sRet (sVar 0)) (sSkip)) (sSeq (sIfS (sT (s2 fEq (sVar 1) (sC (.int (0))))) (sRet (sSl (sVar 0) (sPart (sC (.int (1)))) (sNoPart))) (sSkip)) (sSeq (sDrop (sCall m_refuse_many (sCons (s2 fSub (s2 fSub (sC (.int (0))) (s2 fMul (sC (.int (2))) (sVar 1))) (sC (.int (1)))) (sNil)))) (sRet (s2 fPlus (s2 fPlus (s2 fPlus (sLst (sCons (sC (.int (1))) (sNil))) (s2 fMulL (sLst (sCons (sC (.int (2))) (sNil))) (s2 fSub (s2 fSub (sC (.int (0))) (sVar 1)) (sC (.int (1)))))) (sLst (sCons (s2 fPlus (s2 fIx (sVar 0) (sC (.int (1)))) (sC (.int (1)))) (sNil)))) (sSl (sVar 0) (sPart (sC (.int (2)))) (sNoPart))))))))
noncomputable def m_blocks_of : Mf := mkDef 2 1 (sSeq (sSet 1 (sCall m_turns_of (sCons (sVar 0) (sNil)))) (sSeq (sIfS (sAnd (sT (s2 fEq (sCall fLen (sCons (sVar 1) (sNil))) (sC (.int (1))))) (sT (s2 fLt (s2 fIx (sVar 1) (sC (.int (0)))) (sC (.int (0)))))) (sSet 1 (s2 fPlus (sVar 1) (sLst (sCons (sC (.int (0))) (sNil))))) (sSkip)) (sSeq (sIfS (sT (s2 fGt (sCall fLen (sCons (sVar 1) (sNil))) (sC (.int (1))))) (sSet 1 (sCall m_mended_ahead (sCons (sVar 1) (sNil)))) (sSkip)) (sSeq (sIfS (sAnd (sT (s2 fEq (sCall fLen (sCons (sVar 1) (sNil))) (sC (.int (1))))) (sT (s2 fLt (s2 fIx (sVar 1) (sC (.int (0)))) (sC (.int (0)))))) (sSet 1 (sCall m_mended_ahead (sCons (s2 fPlus (sVar 1) (sLst (sCons (sC (.int (0))) (sNil)))) (sNil)))) (sSkip)) (sSeq (sSet 1 (s1 fRevL (sVar 1))) (sSeq (sIfS (sOr (sT (s2 fGt (sCall fLen (sCons (sVar 1) (sNil))) (sC (.int (1))))) (sT (s2 fEq (sVar 1) (sLst (sCons (sC (.int (0))) (sNil)))))) (sSet 1 (sCall m_mended_ahead (sCons (sVar 1) (sNil)))) (sSkip)) (sRet (s1 fRevL (sVar 1)))))))))
noncomputable def m_by_turns : Mf := mkDef 4 2 (sSeq (sSet 2 (sLst (sNil))) (sSeq (sFor (sIter (sVar 0)) (gN 3) (sSeq (sDrop (sMethL fAppend (sVar 2) (sCons (sTup (sCons (sVar 1) (sCons (sVar 3) (sNil)))) (sNil)))) (sSet 1 (s2 fIx (sLst (sCons (sC (.str ("gap" : Str))) (sCons (sC (.str ("glass" : Str))) (sNil)))) (sCall fInt (sCons (s2 fEq (sVar 1) (sC (.str ("gap" : Str)))) (sNil))))))) (sRet (sVar 2))))
noncomputable def m_joined : Mf := mkDef 4 1 (sSeq (sSet 1 (sLst (sNil))) (sSeq (sFor (sIter (sVar 0)) (gT 2 (gsCons (gN 2) (gsCons (gN 3) (gsNil)))) (sSeq (sIfS (sAnd (sT (s2 fGt (sCall fLen (sCons (sVar 1) (sNil))) (sC (.int (0))))) (sT (s2 fEq (s2 fIx (s2 fIx (sVar 1) (s2 fSub (sCall fLen (sCons (sVar 1) (sNil))) (sC (.int (1))))) (sC (.int (0)))) (sVar 2)))) (sSet 3 (s2 fPlus (sVar 3) (s2 fIx (sMethL fPop (sVar 1) sNil) (sC (.int (1)))))) (sSkip)) (sDrop (sMethL fAppend (sVar 1) (sCons (sTup (sCons (sVar 2) (sCons (sVar 3) (sNil)))) (sNil)))))) (sRet (sVar 1))))
noncomputable def m_fewest : Mf := mkDef 8 1 (sSeq (sSet 1 (sCall m_whole_entries (sCons (sVar 0) (sNil)))) (sSeq (sSet 2 (sCall m_blocks_of (sCons (sVar 1) (sNil)))) (sSeq (sDrop (sCall m_refuse_many (sCons (sCall fSum (sCons (sVar 2) (sNil))) (sNil)))) (sSeq (sSet 3 (sLst (sCons (sTup (sCons (sC (.str ("gap" : Str))) (sCons (sC (.int (1))) (sNil)))) (sCons (sTup (sCons (sC (.str ("glass" : Str))) (sCons (sC (.int (1))) (sNil)))) (sCons (sTup (sCons (sC (.str ("gap" : Str))) (sCons (sC (.int (1))) (sNil)))) (sNil)))))) (sSeq (sFor (sRng fRng1 (sCons (sC (.int (4))) (sNil))) (gN 4) (sFor (sIter (sLst (sCons (sC (.str ("gap" : Str))) (sCons (sC (.str ("glass" : Str))) (sNil))))) (gN 5) (sSeq (sSet 6 (s2 fPlus (s2 fMulL (sVar 3) (sVar 4)) (sCall m_by_turns (sCons (sVar 2) (sCons (sVar 5) (sNil)))))) (sIfS (sT (s2 fEq (sCall m_product_of (sCons (sVar 6) (sCons (sC (.int (1))) (sNil)))) (sVar 1))) (sSeq (sSet 7 (s2 fPlus (s2 fMul (sC (.int (3))) (sVar 4)) (sCall fSum (sCons (sVar 2) (sNil))))) (sSeq (sDrop (sCall m_refuse_many (sCons (sVar 7) (sNil)))) (sRet (sTup (sCons (sVar 7) (sCons (sCall m_joined (sCons (s1 fRevL (sVar 6)) (sNil))) (sNil))))))) (sSkip))))) (sRet (sC (.non))))))))
noncomputable def m_l_led_4 : Mf := mkDef 9 2 (sSeq (sAsg (sTup (sCons (sC (.int (1))) (sCons (sC (.int (0))) (sCons (sC (.int (0))) (sCons (sC (.int (1))) (sNil)))))) (gT 4 (gsCons (gN 2) (gsCons (gN 3) (gsCons (gN 4) (gsCons (gN 5) (gsNil))))))) (sSeq (sFor (sIter (sVar 0)) (gT 2 (gsCons (gN 6) (gsCons (gN 7) (gsNil)))) (sIfS (sT (s2 fEq (sVar 6) (sC (.str ("gap" : Str))))) (sPar 2 3 (sCons (s2 fPlus (sVar 2) (s2 fMul (sVar 7) (sVar 4))) (sCons (s2 fPlus (sVar 3) (s2 fMul (sVar 7) (sVar 5))) (sNil)))) (sSeq (sSet 8 (s2 fMul (sVar 1) (sVar 7))) (sPar 4 5 (sCons (s2 fSub (sVar 4) (s2 fMul (sVar 8) (sVar 2))) (sCons (s2 fSub (sVar 5) (s2 fMul (sVar 8) (sVar 3))) (sNil))))))) (sRet (sTup (sCons (sVar 2) (sCons (sVar 3) (sCons (sVar 4) (sCons (sVar 5) (sNil)))))))))
noncomputable def m_l_told : Mf := mkDef 2 1 (sRet (sCall fTuple (sCons (sComp (sIter (sVar 0)) (gN 1) (sYes) (sTup (sCons (sVar 1) (sCons (sC (.int (1))) (sNil)))) [1]) (sNil))))
noncomputable def m_l_runs : Mf := mkDef 7 2 (sSeq (sSet 2 (s2 fIx (sLst (sCons (sC (.str ("gap" : Str))) (sCons (sC (.str ("glass" : Str))) (sNil)))) (sCall m_l_next (sCons (sVar 0) (sCons (sC (.int (2))) (sNil)))))) (sSeq (sSet 3 (sLst (sNil))) (sSeq (sFor (sRng fRng1 (sCons (sCall m_l_next (sCons (sVar 0) (sCons (s2 fPlus (sVar 1) (sC (.int (1)))) (sNil)))) (sNil))) (gN 4) (sSeq (sSet 5 (sLst (sCons (sC (.int (1))) (sCons (sC (.int (1))) (sCons (sC (.int (1))) (sCons (sC (.int (2))) (sCons (sC (.int (2))) (sCons (sC (.int (3))) (sCons (s2 fPlus (sC (.int (1))) (sCall m_l_next (sCons (sVar 0) (sCons (sC (.int (9))) (sNil))))) (sCons (s2 fPlus (sC (.int (1))) (sCall m_l_next (sCons (sVar 0) (sCons (sC (.int (60))) (sNil))))) (sNil))))))))))) (sSeq (sSet 6 (s2 fIx (sVar 5) (sCall m_l_next (sCons (sVar 0) (sCons (sC (.int (8))) (sNil)))))) (sSeq (sDrop (sMethL fAppend (sVar 3) (sCons (sTup (sCons (sVar 2) (sCons (sVar 6) (sNil)))) (sNil)))) (sSet 2 (s2 fIx (sLst (sCons (sC (.str ("gap" : Str))) (sCons (sC (.str ("glass" : Str))) (sNil)))) (sCall fInt (sCons (s2 fEq (sVar 2) (sC (.str ("gap" : Str)))) (sNil))))))))) (sRet (sVar 3)))))
noncomputable def m_l_formed : Mf := mkDef 3 1 (sSeq (sFor (sRng fEnum (sCons (sVar 0) (sNil))) (gT 2 (gsCons (gN 1) (gsCons (gN 2) (gsNil)))) (sSeq (sIfS (sOr (sNot (sT (s1 (fIsi .tup) (sVar 2)))) (sOr (sT (s2 fNe (sCall fLen (sCons (sVar 2) (sNil))) (sC (.int (2))))) (sT (s2 (fIn true) (s2 fIx (sVar 2) (sC (.int (0)))) (sLst (sCons (sC (.str ("gap" : Str))) (sCons (sC (.str ("glass" : Str))) (sNil)))))))) (sRet (sC (.bl false))) (sSkip)) (sSeq (sIfS (sOr (sT (s1 (fIsi .bl) (s2 fIx (sVar 2) (sC (.int (1)))))) (sOr (sNot (sT (s1 (fIsi .int) (s2 fIx (sVar 2) (sC (.int (1))))))) (sT (s2 fLt (s2 fIx (sVar 2) (sC (.int (1)))) (sC (.int (1))))))) (sRet (sC (.bl false))) (sSkip)) (sIfS (sAnd (sT (s2 fGt (sVar 1) (sC (.int (0))))) (sT (s2 fEq (s2 fIx (s2 fIx (sVar 0) (s2 fSub (sVar 1) (sC (.int (1))))) (sC (.int (0)))) (s2 fIx (sVar 2) (sC (.int (0))))))) (sRet (sC (.bl false))) (sSkip))))) (sRet (s1 (fIsi .lst) (sVar 0))))
noncomputable def m_l_right_6 : Mf := mkDef 7 1 (sSeq (sSet 1 (sCall m_l_told (sCons (sVar 0) (sNil)))) (sSeq (sSet 2 (sCall m_fewest (sCons (sVar 1) (sNil)))) (sSeq (sIfS (sOr (sNot (sT (s1 (fIsi .tup) (sVar 2)))) (sOr (sT (s2 fNe (sCall fLen (sCons (sVar 2) (sNil))) (sC (.int (2))))) (sNot (sT (sCall m_l_formed (sCons (s2 fIx (sVar 2) (sC (.int (1)))) (sNil))))))) (sRet (sC (.bl false))) (sSkip)) (sSeq (sAsg (sVar 2) (gT 2 (gsCons (gN 3) (gsCons (gN 4) (gsNil))))) (sSeq (sIfS (sOr (sT (s1 (fIsi .bl) (sVar 3))) (sT (s2 fNe (sVar 3) (sCall fSum (sCons (sComp (sIter (sVar 4)) (gN 6) (sYes) (s2 fIx (sVar 6) (sC (.int (1)))) [6]) (sNil)))))) (sRet (sC (.bl false))) (sSkip)) (sSeq (sIfS (sOr (sT (s2 fNe (sCall m_l_led_4 (sCons (sVar 4) (sCons (sC (.int (1))) (sNil)))) (sVar 0))) (sT (s2 fNe (sCall m_run_table (sCons (sVar 4) (sCons (sC (.int (1))) (sNil)))) (sVar 1)))) (sRet (sC (.bl false))) (sSkip)) (sSeq (sSet 5 (sCall fList (sCons (sVar 4) (sNil)))) (sSeq (sDrop (sMethL fAppend (sVar 4) (sCons (sTup (sCons (sC (.str ("gap" : Str))) (sCons (sC (.int (1))) (sNil)))) (sNil)))) (sRet (s2 fEq (sCall m_fewest (sCons (sVar 1) (sNil))) (sTup (sCons (sVar 3) (sCons (sVar 5) (sNil))))))))))))))
noncomputable def m_law_k50 : Mf := mkDef 11 1 (sSeq (sFor (sIter (s2 fPlus (sLst (sCons (sC (.int (0))) (sNil))) (sVar 0))) (gN 1) (sSeq (sSet 2 (sCall m_l_pool (sCons (sVar 1) (sNil)))) (sSeq (sSet 3 (sCall m_l_runs (sCons (sVar 2) (sCons (sC (.int (12))) (sNil))))) (sSeq (sAsg (sCall m_l_led_4 (sCons (sVar 3) (sCons (sC (.int (1))) (sNil)))) (gT 4 (gsCons (gN 4) (gsCons (gN 5) (gsCons (gN 6) (gsCons (gN 7) (gsNil))))))) (sSeq (sIfS (sT (s2 fNe (sCall m_run_table (sCons (sCall fTuple (sCons (sVar 3) (sNil))) (sCons (sC (.int (1))) (sNil)))) (sCall m_l_told (sCons (sTup (sCons (sVar 4) (sCons (sVar 5) (sCons (sVar 6) (sCons (sVar 7) (sNil)))))) (sNil))))) (sRet (sC (.bl false))) (sSkip)) (sSeq (sIfS (sT (s2 fGt (s2 fIx (sCall m_fewest (sCons (sCall m_l_told (sCons (sTup (sCons (sVar 4) (sCons (sVar 5) (sCons (sVar 6) (sCons (sVar 7) (sNil)))))) (sNil))) (sNil))) (sC (.int (0)))) (sCall fSum (sCons (sComp (sIter (sVar 3)) (gN 10) (sYes) (s2 fIx (sVar 10) (sC (.int (1)))) [10]) (sNil))))) (sRet (sC (.bl false))) (sSkip)) (sSeq (sSet 8 (sLst (sCons (sTup (sCons (sVar 4) (sCons (sVar 5) (sCons (sVar 6) (sCons (sVar 7) (sNil)))))) (sCons (sTup (sCons (s2 fSub (sC (.int (0))) (sVar 4)) (sCons (s2 fSub (sC (.int (0))) (sVar 5)) (sCons (s2 fSub (sC (.int (0))) (sVar 6)) (sCons (s2 fSub (sC (.int (0))) (sVar 7)) (sNil)))))) (sNil))))) (sSeq (sIfS (sT (s2 fLt (s2 fPlus (sCall fAbs (sCons (sVar 5) (sNil))) (sCall fAbs (sCons (sVar 6) (sNil)))) (sC (.int (400))))) (sDrop (sMethL fAppend (sVar 8) (sCons (sTup (sCons (sVar 7) (sCons (s2 fSub (sC (.int (0))) (sVar 5)) (sCons (s2 fSub (sC (.int (0))) (sVar 6)) (sCons (sVar 4) (sNil)))))) (sNil)))) (sSkip)) (sFor (sIter (sVar 8)) (gN 9) (sIfS (sNot (sT (sCall m_l_right_6 (sCons (sVar 9) (sNil))))) (sRet (sC (.bl false))) (sSkip))))))))))) (sRet (sC (.bl true))))
noncomputable def m_l_parts_2 : Mf := mkDef 4 1 (sSeq (sSet 1 (sLst (sNil))) (sSeq (sFor (sIter (sVar 0)) (gT 2 (gsCons (gN 2) (gsCons (gN 3) (gsNil)))) (sDrop (sMethL fExtend (sVar 1) (sCons (s2 fMulL (sLst (sCons (sVar 2) (sNil))) (sVar 3)) (sNil))))) (sRet (sVar 1))))
noncomputable def m_l_count : Mf := mkDef 2 1 (sRet (s2 fIx (sCall m_fewest (sCons (sCall m_l_told (sCons (sCall m_l_led_4 (sCons (sComp (sIter (sVar 0)) (gN 1) (sYes) (sTup (sCons (sVar 1) (sCons (sC (.int (1))) (sNil)))) [1]) (sCons (sC (.int (1))) (sNil)))) (sNil))) (sNil))) (sC (.int (0)))))
noncomputable def m_l_near_2 : Mf := mkDef 7 2 (sSeq (sAsg (sVar 0) (gT 4 (gsCons (gN 2) (gsCons (gN 3) (gsCons (gN 4) (gsCons (gN 5) (gsNil))))))) (sSeq (sFor (sIter (sLst (sCons (sTup (sCons (s2 fPlus (sVar 2) (sVar 4)) (sCons (s2 fPlus (sVar 3) (sVar 5)) (sCons (sVar 4) (sCons (sVar 5) (sNil)))))) (sCons (sTup (sCons (sVar 2) (sCons (sVar 3) (sCons (s2 fSub (sVar 4) (sVar 2)) (sCons (s2 fSub (sVar 5) (sVar 3)) (sNil)))))) (sCons (sTup (sCons (sVar 2) (sCons (s2 fPlus (sVar 2) (sVar 3)) (sCons (sVar 4) (sCons (s2 fPlus (sVar 4) (sVar 5)) (sNil)))))) (sCons (sTup (sCons (s2 fSub (sVar 2) (sVar 3)) (sCons (sVar 3) (sCons (s2 fSub (sVar 4) (sVar 5)) (sCons (sVar 5) (sNil)))))) (sNil))))))) (gN 6) (sIfS (sT (s2 fGt (s2 fIx (sCall m_fewest (sCons (sCall m_l_told (sCons (sVar 6) (sNil))) (sNil))) (sC (.int (0)))) (s2 fPlus (sVar 1) (sC (.int (1)))))) (sRet (sC (.bl false))) (sSkip))) (sRet (sC (.bl true)))))
noncomputable def m_l_beginnings : Mf := mkDef 3 2 (sSeq (sFor (sIter (sLst (sCons (sC (.int (0))) (sCons (sC (.int (1))) (sCons (s2 fDiv (sCall fLen (sCons (sVar 0) (sNil))) (sC (.int (2)))) (sCons (s2 fSub (sCall fLen (sCons (sVar 0) (sNil))) (sC (.int (1)))) (sCons (sCall m_l_next (sCons (sVar 1) (sCons (s2 fPlus (sCall fLen (sCons (sVar 0) (sNil))) (sC (.int (1)))) (sNil)))) (sNil)))))))) (gN 2) (sIfS (sAnd (sT (sChain fLe fLe (sC (.int (0))) (sVar 2) (sCall fLen (sCons (sVar 0) (sNil))))) (sT (s2 fNe (sCall m_l_count (sCons (sSl (sVar 0) (sNoPart) (sPart (sVar 2))) (sNil))) (sVar 2)))) (sRet (sC (.bl false))) (sSkip))) (sRet (sC (.bl true))))
noncomputable def m_l_right_7 : Mf := mkDef 10 2 (sSeq (sAsg (sVar 0) (gT 4 (gsCons (gN 2) (gsCons (gN 3) (gsCons (gN 4) (gsCons (gN 5) (gsNil))))))) (sSeq (sAsg (sCall m_fewest (sCons (sCall m_l_told (sCons (sVar 0) (sNil))) (sNil))) (gT 2 (gsCons (gN 6) (gsCons (gN 7) (gsNil))))) (sSeq (sSet 8 (sCall m_l_parts_2 (sCons (sVar 7) (sNil)))) (sSeq (sIfS (sOr (sNot (sT (sCall m_l_near_2 (sCons (sVar 0) (sCons (sVar 6) (sNil)))))) (sNot (sT (sCall m_l_beginnings (sCons (sVar 8) (sCons (sVar 1) (sNil))))))) (sRet (sC (.bl false))) (sSkip)) (sSeq (sIfS (sAnd (sT (s2 fGt (sVar 6) (sC (.int (0))))) (sT (s2 fNe (sCall m_l_count (sCons (sSl (sVar 8) (sPart (sC (.int (1)))) (sNoPart)) (sNil))) (s2 fSub (sVar 6) (sC (.int (1))))))) (sRet (sC (.bl false))) (sSkip)) (sSeq (sSet 9 (s2 fIx (sCall m_fewest (sCons (sCall m_l_told (sCons (sTup (sCons (s2 fSub (sC (.int (0))) (sVar 2)) (sCons (s2 fSub (sC (.int (0))) (sVar 3)) (sCons (s2 fSub (sC (.int (0))) (sVar 4)) (sCons (s2 fSub (sC (.int (0))) (sVar 5)) (sNil)))))) (sNil))) (sNil))) (sC (.int (0))))) (sRet (s2 fEq (sCall fAbs (sCons (s2 fSub (sVar 6) (sVar 9)) (sNil))) (sC (.int (6)))))))))))
noncomputable def m_l_drawn : Mf := mkDef 7 1 (sSeq (sAsg (sTup (sCons (sC (.int (1))) (sCons (sC (.int (0))) (sCons (sC (.int (0))) (sCons (sC (.int (1))) (sNil)))))) (gT 4 (gsCons (gN 1) (gsCons (gN 2) (gsCons (gN 3) (gsCons (gN 4) (gsNil))))))) (sSeq (sFor (sRng fRng1 (sCons (sCall m_l_next (sCons (sVar 0) (sCons (sC (.int (6))) (sNil)))) (sNil))) (gN 5) (sSeq (sSet 6 (s2 fSub (sCall m_l_next (sCons (sVar 0) (sCons (sC (.int (13))) (sNil)))) (sC (.int (6))))) (sIfS (sT (s2 fEq (s2 fMod (sVar 5) (sC (.int (2)))) (sC (.int (0))))) (sPar 1 2 (sCons (s2 fPlus (sVar 1) (s2 fMul (sVar 6) (sVar 3))) (sCons (s2 fPlus (sVar 2) (s2 fMul (sVar 6) (sVar 4))) (sNil)))) (sPar 3 4 (sCons (s2 fSub (sVar 3) (s2 fMul (sVar 6) (sVar 1))) (sCons (s2 fSub (sVar 4) (s2 fMul (sVar 6) (sVar 2))) (sNil))))))) (sSeq (sIfS (sT (s2 fEq (sCall m_l_next (sCons (sVar 0) (sCons (sC (.int (3))) (sNil)))) (sC (.int (0))))) (sAsg (sTup (sCons (s2 fSub (sC (.int (0))) (sVar 3)) (sCons (s2 fSub (sC (.int (0))) (sVar 4)) (sCons (sVar 1) (sCons (sVar 2) (sNil)))))) (gT 4 (gsCons (gN 1) (gsCons (gN 2) (gsCons (gN 3) (gsCons (gN 4) (gsNil))))))) (sSkip)) (sRet (sTup (sCons (sVar 1) (sCons (sVar 2) (sCons (sVar 3) (sCons (sVar 4) (sNil))))))))))
noncomputable def m_law_k51 : Mf := mkDef 8 1 (sSeq (sIfS (sT (s2 fNe (sCall m_fewest (sCons (sCall m_l_told (sCons (sTup (sCons (sC (.int (1))) (sCons (sC (.int (0))) (sCons (sC (.int (0))) (sCons (sC (.int (1))) (sNil)))))) (sNil))) (sNil))) (sTup (sCons (sC (.int (0))) (sCons (sLst (sNil)) (sNil)))))) (sRet (sC (.bl false))) (sSkip)) (sSeq (sFor (sIter (s2 fPlus (sLst (sCons (sC (.int (0))) (sNil))) (sVar 0))) (gN 1) (sSeq (sSet 2 (sCall m_l_pool (sCons (sVar 1) (sNil)))) (sSeq (sSet 3 (sComp (sIter (sCall m_l_runs (sCons (sVar 2) (sCons (sC (.int (9))) (sNil))))) (gT 2 (gsCons (gN 5) (gsCons (gN 6) (gsNil)))) (sYes) (sTup (sCons (sVar 5) (sCons (sCall fMin2 (sCons (sVar 6) (sCons (sC (.int (5))) (sNil)))) (sNil)))) [5, 6])) (sSeq (sSet 4 (sCall m_l_led_4 (sCons (sVar 3) (sCons (sC (.int (1))) (sNil))))) (sSeq (sIfS (sT (s2 fGt (s2 fIx (sCall m_fewest (sCons (sCall m_l_told (sCons (sVar 4) (sNil))) (sNil))) (sC (.int (0)))) (sCall fSum (sCons (sComp (sIter (sVar 3)) (gN 7) (sYes) (s2 fIx (sVar 7) (sC (.int (1)))) [7]) (sNil))))) (sRet (sC (.bl false))) (sSkip)) (sIfS (sOr (sNot (sT (sCall m_l_right_7 (sCons (sVar 4) (sCons (sVar 2) (sNil)))))) (sNot (sT (sCall m_l_right_7 (sCons (sCall m_l_drawn (sCons (sVar 2) (sNil))) (sCons (sVar 2) (sNil))))))) (sRet (sC (.bl false))) (sSkip))))))) (sRet (sC (.bl true)))))
noncomputable def m_l_behind_2 : Mf := mkDef 10 2 (sSeq (sAsg (sVar 0) (gT 4 (gsCons (gN 2) (gsCons (gN 3) (gsCons (gN 4) (gsCons (gN 5) (gsNil))))))) (sSeq (sAsg (sVar 1) (gT 4 (gsCons (gN 6) (gsCons (gN 7) (gsCons (gN 8) (gsCons (gN 9) (gsNil))))))) (sRet (sTup (sCons (s2 fPlus (s2 fMul (sVar 6) (sVar 2)) (s2 fMul (sVar 7) (sVar 4))) (sCons (s2 fPlus (s2 fMul (sVar 6) (sVar 3)) (s2 fMul (sVar 7) (sVar 5))) (sCons (s2 fPlus (s2 fMul (sVar 8) (sVar 2)) (s2 fMul (sVar 9) (sVar 4))) (sCons (s2 fPlus (s2 fMul (sVar 8) (sVar 3)) (s2 fMul (sVar 9) (sVar 5))) (sNil)))))))))
end Rg
namespace Rg
open PySem L2
def Rk {A : Type} (r : Res A) (P : A → Store → Prop) : Prop := ∃ a S, r = .ok a S ∧ P a S
structure SPt where
  nx : Env → Store → Prop
  rt : D → Store → Prop
  bk : Env → Store → Prop := fun _ _ => False
  ct : Env → Store → Prop := fun _ _ => False
def Sk (r : ResS) (P : SPt) : Prop := match r with
  | .nx e S => P.nx e S
  | .rt d S => P.rt d S
  | .bk e S => P.bk e S
  | .ct e S => P.ct e S
  | _ => False
theorem Rk.imp {A : Type} {r : Res A} {P Q : A → Store → Prop} (h : Rk r P) (hi : ∀ a S, P a S → Q a S) : Rk r Q := by
  obtain ⟨a, S, e, p⟩ := h
  exact ⟨a, S, e, hi a S p⟩
theorem Rk.of {A : Type} {r : Res A} {a : A} {S : Store} {P : A → Store → Prop} (h : r = .ok a S) (p : P a S) : Rk r P := ⟨a, S, h, p⟩
@[simp] theorem rk_ok {A : Type} {a : A} {S : Store} {P : A → Store → Prop} : Rk (.ok a S) P ↔ P a S :=
  ⟨fun ⟨_, _, e, p⟩ => by cases e; exact p, fun p => ⟨a, S, rfl, p⟩⟩
@[simp] theorem rk_bad {A : Type} {P : A → Store → Prop} : Rk (.bad : Res A) P ↔ False := ⟨fun ⟨_, _, e, p⟩ => (by cases e), fun h => h.elim⟩
@[simp] theorem rk_exc {A : Type} {c : Str} {S : Store} {P : A → Store → Prop} : Rk (.exc c S : Res A) P ↔ False := ⟨fun ⟨_, _, e, p⟩ => (by cases e), fun h => h.elim⟩
@[simp] theorem rk_bind {A B : Type} {r : Res A} {f : A → Store → Res B} {P : B → Store → Prop} : Rk (r.bind f) P ↔ Rk r fun a S => Rk (f a S) P := by
  constructor
  · intro h
    cases r with
    | ok a S => exact ⟨a, S, rfl, h⟩
    | exc c S => obtain ⟨_, _, e, _⟩ := h; cases e
    | bad => obtain ⟨_, _, e, _⟩ := h; cases e
  · intro ⟨a, S, e, h⟩
    subst e
    exact h
@[simp] theorem rk_ite {A : Type} {c : Prop} [Decidable c] {r s : Res A} {P : A → Store → Prop} : Rk (if c then r else s) P ↔ (c → Rk r P) ∧ (¬c → Rk s P) := by
  by_cases h : c <;> simp [h]
@[simp] theorem sk_ite {c : Prop} [Decidable c] {r s : ResS} {P : SPt} : Sk (if c then r else s) P ↔ (c → Sk r P) ∧ (¬c → Sk s P) := by
  by_cases h : c <;> simp [h]
@[simp] theorem sk_nx {e : Env} {S : Store} {P : SPt} : Sk (.nx e S) P ↔ P.nx e S := Iff.rfl
@[simp] theorem sk_rt {d : D} {S : Store} {P : SPt} : Sk (.rt d S) P ↔ P.rt d S := Iff.rfl
@[simp] theorem sk_bk {d : Env} {S : Store} {P : SPt} : Sk (.bk d S) P ↔ P.bk d S := Iff.rfl
@[simp] theorem sk_ct {d : Env} {S : Store} {P : SPt} : Sk (.ct d S) P ↔ P.ct d S := Iff.rfl
@[simp] theorem sk_bad {P : SPt} : Sk .bad P ↔ False := Iff.rfl
@[simp] theorem sk_exc {c : Str} {e : Env} {S : Store} {P : SPt} : Sk (.exc c e S) P ↔ False := Iff.rfl
theorem Sk.imp {r : ResS} {P Q : SPt} (h : Sk r P) (h1 : ∀ e S, P.nx e S → Q.nx e S) (h2 : ∀ e S, P.rt e S → Q.rt e S) (h3 : ∀ e S, P.bk e S → Q.bk e S) (h4 : ∀ e S, P.ct e S → Q.ct e S) : Sk r Q := by
  cases r with
  | nx e S => exact h1 _ _ h
  | rt e S => exact h2 _ _ h
  | bk e S => exact h3 _ _ h
  | ct e S => exact h4 _ _ h
  | exc c e S => exact h
  | bad => exact h
@[simp] theorem sk_andS {A : Type} {r : Res A} {env : Env} {f : A → Store → ResS} {P : SPt} : Sk (r.andS env f) P ↔ Rk r fun a S => Sk (f a S) P := by
  constructor
  · intro h
    cases r with
    | ok a S => exact ⟨a, S, rfl, h⟩
    | exc c S => exact h.elim
    | bad => exact h.elim
  · intro ⟨a, S, e, h⟩
    subst e
    exact h
@[simp] theorem sk_seq {s t : SS} {env : Env} {S : Store} {P : SPt} : Sk (sSeq s t env S) P ↔ Sk (s env S) { P with nx := fun e S1 => Sk (t e S1) P } := by
  unfold sSeq
  cases s env S <;> exact Iff.rfl
theorem rk_def {n np : Nat} {body : SS} {ds : List D} {S : Store} {P : D → Store → Prop} : Rk (mkDef n np body ds S) P ↔ ds.length = np ∧ Sk (body (ds.map some ++ List.replicate (n - ds.length) none) S) { nx := fun _ S1 => Rk (gc S .non S1) P, rt := fun d S1 => Rk (gc S d S1) P } := by
  unfold mkDef
  by_cases h : ds.length = np
  · rw [if_pos h]
    constructor
    · intro q
      refine ⟨h, ?_⟩
      cases hb : body (ds.map some ++ List.replicate (n - ds.length) none) S <;> rw [hb] at q <;> first | exact q | (obtain ⟨_, _, e, _⟩ := q; cases e)
    · intro ⟨_, q⟩
      cases hb : body (ds.map some ++ List.replicate (n - ds.length) none) S <;> rw [hb] at q <;> first | exact q.elim | exact q
  · rw [if_neg h]
    constructor
    · intro ⟨_, _, e, _⟩; cases e
    · intro ⟨q, _⟩; exact absurd q h
theorem kept_app {S C : Store} : Kept S (S ++ C) := ⟨by simp, fun n hn => .inl (List.getElem?_append_left hn)⟩
theorem gc_under {S0 S1 : Store} {d : D} (k : Kept S0 S1) (h : d.fresh S0.length = none) : gc S0 d S1 = .ok d (S1.take S0.length) := by
  unfold gc
  rw [if_pos k, h]
theorem gc_self {S : Store} {d : D} (h : d.fresh S.length = none) : gc S d S = .ok d S := by
  rw [gc_under ⟨Nat.le_refl _, fun n _ => .inl rfl⟩ h, List.take_length]
theorem gc_app {S C : Store} {d : D} (h : d.fresh S.length = none) : gc S d (S ++ C) = .ok d S := by
  rw [gc_under kept_app h, List.take_left]
theorem gc_new {S C : Store} {d : D} {n : Nat} {l : List D} (h : d.fresh S.length = some n) (ho : d.only S.length n = true) (hl : (S ++ C)[n]? = some (.lst l)) (u : unders S.length l = true) : gc S d (S ++ C) = .ok (d.subst S.length) (S ++ [.lst l]) := by
  unfold gc
  rw [if_pos kept_app, h]
  dsimp only
  rw [if_pos ho, hl]
  dsimp only
  rw [if_pos u, List.take_left]
@[simp] theorem rk_call {m : Mf} {s : SA} {env : Env} {S : Store} {P : D → Store → Prop} : Rk (sCall m s env S) P ↔ Rk (s env S) fun ds S1 => Rk (m ds S1) P := rk_bind
@[simp] theorem rk_call0 {m : Mf} {env : Env} {S : Store} {P : D → Store → Prop} : Rk (sCall0 m env S) P ↔ Rk (m [] S) P := by
  unfold sCall0
  cases m [] S <;> simp
@[simp] theorem rk_s2 {f : D → D → Store → Res D} {sa sb : SE} {env : Env} {S : Store} {P : D → Store → Prop} : Rk (s2 f sa sb env S) P ↔ Rk (sa env S) fun d S1 => Rk (sb env S1) fun e S2 => Rk (f d e S2) P := by
  unfold s2; simp
@[simp] theorem rk_s1 {f : D → Store → Res D} {sa : SE} {env : Env} {S : Store} {P : D → Store → Prop} : Rk (s1 f sa env S) P ↔ Rk (sa env S) fun d S1 => Rk (f d S1) P := by
  unfold s1; simp
@[simp] theorem rk_C {d : D} {env : Env} {S : Store} {P : D → Store → Prop} : Rk (sC d env S) P ↔ P d S := rk_ok
@[simp] theorem rk_var {i : Nat} {env : Env} {S : Store} {P : D → Store → Prop} : Rk (sVar i env S) P ↔ ∃ d, env[i]? = some (some d) ∧ P d S := by
  unfold sVar
  split
  · rename_i d h
    rw [rk_ok]
    exact ⟨fun p => ⟨d, h, p⟩, fun ⟨d', h', p⟩ => by rw [h] at h'; cases h'; exact p⟩
  · rename_i h
    exact ⟨fun ⟨_, _, e, _⟩ => (by cases e), fun ⟨d, h', p⟩ => (h d h').elim⟩
@[simp] theorem rk_nil {env : Env} {S : Store} {P : List D → Store → Prop} : Rk (sNil env S) P ↔ P [] S := rk_ok
@[simp] theorem rk_cons {s : SE} {r : SA} {env : Env} {S : Store} {P : List D → Store → Prop} : Rk (sCons s r env S) P ↔ Rk (s env S) fun d S1 => Rk (r env S1) fun ds S2 => P (d :: ds) S2 := by
  unfold sCons; simp
@[simp] theorem rk_tup {s : SA} {env : Env} {S : Store} {P : D → Store → Prop} : Rk (sTup s env S) P ↔ Rk (s env S) fun ds S1 => ds.length ≤ sizeLine ∧ P (.tup ds) S1 := by
  unfold sTup; simp only [rk_bind, rk_ite, rk_ok, rk_bad]
  constructor
  · intro h; exact h.imp fun ds S q => by
      by_cases c : ds.length ≤ sizeLine
      · exact ⟨c, q.1 c⟩
      · exact (q.2 c).elim
  · intro h; exact h.imp fun ds S q => ⟨fun _ => q.2, fun c => c q.1⟩
@[simp] theorem rk_lst {s : SA} {env : Env} {S : Store} {P : D → Store → Prop} : Rk (sLst s env S) P ↔ Rk (s env S) fun ds S1 => ds.length ≤ sizeLine ∧ P (.ref S1.length) (S1 ++ [.lst ds]) := by
  unfold sLst; simp only [rk_bind, rk_ite, rk_ok, rk_bad]
  constructor
  · intro h; exact h.imp fun ds S q => by
      by_cases c : ds.length ≤ sizeLine
      · exact ⟨c, q.1 c⟩
      · exact (q.2 c).elim
  · intro h; exact h.imp fun ds S q => ⟨fun _ => q.2, fun c => c q.1⟩
def onB (d : D) (P : Bool → Prop) : Prop := match d with
  | .bl b => P b
  | _ => False
@[simp] theorem onB_bl {b : Bool} {P : Bool → Prop} : onB (.bl b) P ↔ P b := Iff.rfl
@[simp] theorem rk_T {s : SE} {env : Env} {S : Store} {P : Bool → Store → Prop} : Rk (sT s env S) P ↔ Rk (s env S) fun d S1 => onB d fun b => P b S1 := by
  unfold sT; simp only [rk_bind]
  constructor
  · intro h; exact h.imp fun d S q => by
      cases d <;> simp_all [onB]
  · intro h; exact h.imp fun d S q => by cases d <;> simp_all [onB]
@[simp] theorem rk_not {s : ST} {env : Env} {S : Store} {P : Bool → Store → Prop} : Rk (sNot s env S) P ↔ Rk (s env S) fun b S1 => P (!b) S1 := by
  unfold sNot; simp
@[simp] theorem rk_and {s t : ST} {env : Env} {S : Store} {P : Bool → Store → Prop} : Rk (sAnd s t env S) P ↔ Rk (s env S) fun b S1 => (b = true → Rk (t env S1) P) ∧ (b = false → P false S1) := by
  unfold sAnd; simp
@[simp] theorem rk_or {s t : ST} {env : Env} {S : Store} {P : Bool → Store → Prop} : Rk (sOr s t env S) P ↔ Rk (s env S) fun b S1 => (b = true → P true S1) ∧ (b = false → Rk (t env S1) P) := by
  unfold sOr; simp
@[simp] theorem rk_andV {s t : SE} {env : Env} {S : Store} {P : D → Store → Prop} : Rk (sAndV s t env S) P ↔ Rk (s env S) fun d S1 => onB d fun b => (b = true → Rk (t env S1) P) ∧ (b = false → P (.bl false) S1) := by
  unfold sAndV; simp only [rk_bind]
  constructor
  · intro h; exact h.imp fun d S q => by
      cases d with
      | bl b => cases b <;> simp_all [onB]
      | _ => simp_all [onB]
  · intro h; exact h.imp fun d S q => by
      cases d with
      | bl b => cases b <;> simp_all [onB]
      | _ => simp_all [onB]
@[simp] theorem rk_orV {s t : SE} {env : Env} {S : Store} {P : D → Store → Prop} : Rk (sOrV s t env S) P ↔ Rk (s env S) fun d S1 => onB d fun b => (b = true → P (.bl true) S1) ∧ (b = false → Rk (t env S1) P) := by
  unfold sOrV; simp only [rk_bind]
  constructor
  · intro h; exact h.imp fun d S q => by
      cases d with
      | bl b => cases b <;> simp_all [onB]
      | _ => simp_all [onB]
  · intro h; exact h.imp fun d S q => by
      cases d with
      | bl b => cases b <;> simp_all [onB]
      | _ => simp_all [onB]
@[simp] theorem rk_if {t : ST} {sa sb : SE} {env : Env} {S : Store} {P : D → Store → Prop} : Rk (sIf t sa sb env S) P ↔ Rk (t env S) fun b S1 => (b = true → Rk (sa env S1) P) ∧ (b = false → Rk (sb env S1) P) := by
  unfold sIf; simp
@[simp] theorem sk_skip {env : Env} {S : Store} {P : SPt} : Sk (sSkip env S) P ↔ P.nx env S := Iff.rfl
@[simp] theorem sk_break {env : Env} {S : Store} {P : SPt} : Sk (sBreak env S) P ↔ P.bk env S := Iff.rfl
@[simp] theorem sk_cont {env : Env} {S : Store} {P : SPt} : Sk (sCont env S) P ↔ P.ct env S := Iff.rfl
@[simp] theorem sk_never {env : Env} {S : Store} {P : SPt} : Sk (sNever env S) P ↔ False := Iff.rfl
@[simp] theorem sk_drop {s : SE} {env : Env} {S : Store} {P : SPt} : Sk (sDrop s env S) P ↔ Rk (s env S) fun _ S1 => P.nx env S1 := by unfold sDrop; simp
@[simp] theorem sk_ret {s : SE} {env : Env} {S : Store} {P : SPt} : Sk (sRet s env S) P ↔ Rk (s env S) fun d S1 => P.rt d S1 := by unfold sRet; simp
@[simp] theorem sk_retN {env : Env} {S : Store} {P : SPt} : Sk (sRetN env S) P ↔ P.rt .non S := Iff.rfl
@[simp] theorem sk_ifS {c : ST} {s t : SS} {env : Env} {S : Store} {P : SPt} : Sk (sIfS c s t env S) P ↔ Rk (c env S) fun b S1 => (b = true → Sk (s env S1) P) ∧ (b = false → Sk (t env S1) P) := by
  unfold sIfS; simp
@[simp] theorem sk_set {i : Nat} {s : SE} {env : Env} {S : Store} {P : SPt} : Sk (sSet i s env S) P ↔ Rk (s env S) fun d S1 => P.nx (env.set i (some d)) S1 := by unfold sSet; simp
def on2 (ds : List D) (P : D → D → Prop) : Prop := match ds with
  | [d, e] => P d e
  | _ => False
@[simp] theorem on2_mk {d e : D} {P : D → D → Prop} : on2 [d, e] P ↔ P d e := Iff.rfl
def on3 (ds : List D) (P : D → D → D → Prop) : Prop := match ds with
  | [d, e, f] => P d e f
  | _ => False
@[simp] theorem on3_mk {d e f : D} {P : D → D → D → Prop} : on3 [d, e, f] P ↔ P d e f := Iff.rfl
def onRI (o i : D) (P : Nat → Int → Prop) : Prop := match o, i with
  | .ref n, .int k => P n k
  | _, _ => False
@[simp] theorem onRI_mk {n : Nat} {k : Int} {P : Nat → Int → Prop} : onRI (.ref n) (.int k) P ↔ P n k := Iff.rfl
@[simp] theorem sk_par {i j : Nat} {s : SA} {env : Env} {S : Store} {P : SPt} : Sk (sPar i j s env S) P ↔ Rk (s env S) fun ds S1 => on2 ds fun d e => P.nx ((env.set i (some d)).set j (some e)) S1 := by
  unfold sPar; simp only [sk_andS]
  constructor
  · intro h; exact h.imp fun ds S q => by
      split at q
      · exact q
      · exact q.elim
  · intro h; exact h.imp fun ds S q => by
      unfold on2 at q
      split at q
      · exact q
      · exact q.elim
@[simp] theorem sk_par3 {i j l : Nat} {s : SA} {env : Env} {S : Store} {P : SPt} : Sk (sPar3 i j l s env S) P ↔ Rk (s env S) fun ds S1 => on3 ds fun d e f => P.nx (((env.set i (some d)).set j (some e)).set l (some f)) S1 := by
  unfold sPar3; simp only [sk_andS]
  constructor
  · intro h; exact h.imp fun ds S q => by
      split at q
      · exact q
      · exact q.elim
  · intro h; exact h.imp fun ds S q => by
      unfold on3 at q
      split at q
      · exact q
      · exact q.elim
@[simp] theorem sk_asg {s : SE} {g : SG} {env : Env} {S : Store} {P : SPt} : Sk (sAsg s g env S) P ↔ Rk (s env S) fun d S1 => ∃ e, g d env S1 = some e ∧ P.nx e S1 := by
  unfold sAsg; simp only [sk_andS]
  constructor
  · intro h; exact h.imp fun d S q => by
      split at q
      · rename_i e he; exact ⟨e, he, q⟩
      · exact q.elim
  · intro h; exact h.imp fun d S ⟨e, he, q⟩ => by rw [he]; exact q
@[simp] theorem gN_some {i : Nat} {d : D} {env e : Env} {S : Store} : gN i d env S = some e ↔ env.set i (some d) = e := by unfold gN; simp
@[simp] theorem gN_def {i : Nat} {d : D} {env : Env} {S : Store} : gN i d env S = some (env.set i (some d)) := rfl
@[simp] theorem gsNil_def {env : Env} {S : Store} : gsNil [] env S = some env := rfl
@[simp] theorem gsCons_def {g : SG} {r : List D → Env → Store → Option Env} {d : D} {l : List D} {env : Env} {S : Store} : gsCons g r (d :: l) env S = (g d env S).bind fun e => r l e S := rfl
@[simp] theorem gT_def {n : Nat} {r : List D → Env → Store → Option Env} {l : List D} {env : Env} {S : Store} : gT n r (.tup l) env S = if l.length = n then r l env S else none := rfl
@[simp] theorem sk_setIx {se so si : SE} {env : Env} {S : Store} {P : SPt} : Sk (sSetIx se so si env S) P ↔ Rk (se env S) fun d S1 => Rk (so env S1) fun o S2 => Rk (si env S2) fun i S3 =>
    onRI o i fun n k => ∃ l, S3[n]? = some (.lst l) ∧ ∃ j, ixN l.length k = some j ∧ P.nx env (S3.set n (.lst (l.set j d))) := by
  unfold sSetIx; simp only [sk_andS]
  constructor
  · intro h; exact h.imp fun d S q => q.imp fun o S q => q.imp fun i S q => by
      cases o with
      | ref n =>
        cases i with
        | int k =>
          dsimp only at q
          split at q
          · rename_i l hl
            split at q
            · rename_i j hj
              exact ⟨l, hl, j, hj, q⟩
            · exact q.elim
          · exact q.elim
        | _ => exact q.elim
      | _ => exact q.elim
  · intro h; exact h.imp fun d S q => q.imp fun o S q => q.imp fun i S q => by
      unfold onRI at q
      split at q
      · obtain ⟨l, h3, j, h4, q9⟩ := q
        try dsimp only
        rw [h3]
        try dsimp only
        rw [h4]
        exact q9
      · exact q.elim
@[simp] theorem rk_fI {g : Int → Int → Int} {i j : Int} {S : Store} {P : D → Store → Prop} : Rk (fI g (.int i) (.int j) S) P ↔ P (.int (g i j)) S := rk_ok
@[simp] theorem rk_fIB {g : Int → Int → Bool} {i j : Int} {S : Store} {P : D → Store → Prop} : Rk (fIB g (.int i) (.int j) S) P ↔ P (.bl (g i j)) S := rk_ok
@[simp] theorem rk_fIC {C : Int → Int → Prop} {g : Int → Int → Int} {i j : Int} {S : Store} {P : D → Store → Prop} : Rk (fIC C g (.int i) (.int j) S) P ↔ C i j ∧ P (.int (g i j)) S := by
  unfold fIC
  by_cases h : C i j <;> simp [h]
@[simp] theorem rk_plusI {i j : Int} {S : Store} {P : D → Store → Prop} : Rk (fPlus (.int i) (.int j) S) P ↔ P (.int (i + j)) S := by
  unfold fPlus; simp
@[simp] theorem rk_plusT {x y : List D} {S : Store} {P : D → Store → Prop} : Rk (fPlus (.tup x) (.tup y) S) P ↔ x.length + y.length ≤ sizeLine ∧ P (.tup (x ++ y)) S := by
  unfold fPlus
  by_cases h : x.length + y.length ≤ sizeLine <;> simp [h]
@[simp] theorem rk_plusL {m n : Nat} {S : Store} {P : D → Store → Prop} : Rk (fPlus (.ref m) (.ref n) S) P ↔ ∃ x y, lstOf S m = some x ∧ lstOf S n = some y ∧ x.length + y.length ≤ sizeLine ∧ P (.ref S.length) (S ++ [.lst (x ++ y)]) := by
  unfold fPlus
  dsimp only
  split
  · rename_i x y h1 h2
    by_cases h : x.length + y.length ≤ sizeLine
    · rw [if_pos h, rk_ok]
      exact ⟨fun p => ⟨x, y, h1, h2, h, p⟩, fun ⟨x', y', e1, e2, _, p⟩ => by rw [h1] at e1; rw [h2] at e2; cases e1; cases e2; exact p⟩
    · rw [if_neg h, rk_bad]
      exact ⟨fun p => p.elim, fun ⟨x', y', e1, e2, z, p⟩ => by rw [h1] at e1; rw [h2] at e2; cases e1; cases e2; exact h z⟩
  · rename_i h
    rw [rk_bad]
    exact ⟨fun p => p.elim, fun ⟨x', y', e1, e2, z, p⟩ => h _ _ e1 e2⟩
@[simp] theorem rk_neg {i : Int} {S : Store} {P : D → Store → Prop} : Rk (fNeg (.int i) S) P ↔ P (.int (-i)) S := rk_ok
@[simp] theorem rk_fnot {b : Bool} {S : Store} {P : D → Store → Prop} : Rk (fNot (.bl b) S) P ↔ P (.bl (!b)) S := rk_ok
@[simp] theorem rk_isN {d : D} {S : Store} {P : D → Store → Prop} : Rk (fIsN d S) P ↔ P (.bl d.isNon) S := rk_ok
@[simp] theorem rk_notN {d : D} {S : Store} {P : D → Store → Prop} : Rk (fNotN d S) P ↔ P (.bl (!d.isNon)) S := rk_ok
@[simp] theorem rk_isB {a b : Bool} {S : Store} {P : D → Store → Prop} : Rk (fIsB (.bl a) (.bl b) S) P ↔ P (.bl (decide (a = b))) S := rk_ok
@[simp] theorem rk_notB {a b : Bool} {S : Store} {P : D → Store → Prop} : Rk (fNotB (.bl a) (.bl b) S) P ↔ P (.bl (!decide (a = b))) S := rk_ok
@[simp] theorem rk_ixT {l : List D} {i : Int} {S : Store} {P : D → Store → Prop} : Rk (fIx (.tup l) (.int i) S) P ↔ ∃ x, atI l i = some x ∧ P x S := by
  unfold fIx
  cases h : atI l i <;> simp [h]
@[simp] theorem rk_ixL {n : Nat} {i : Int} {S : Store} {P : D → Store → Prop} : Rk (fIx (.ref n) (.int i) S) P ↔ ∃ l x, lstOf S n = some l ∧ atI l i = some x ∧ P x S := by
  unfold fIx
  cases h : lstOf S n with
  | none => simp [h]
  | some l => cases h2 : atI l i <;> simp [h, h2]
@[simp] theorem rk_abs {i : Int} {S : Store} {P : D → Store → Prop} : Rk (fAbs [.int i] S) P ↔ P (.int (i.natAbs : Int)) S := rk_ok
@[simp] theorem rk_max2 {i j : Int} {S : Store} {P : D → Store → Prop} : Rk (fMax2 [.int i, .int j] S) P ↔ P (.int (max i j)) S := rk_ok
@[simp] theorem rk_min2 {i j : Int} {S : Store} {P : D → Store → Prop} : Rk (fMin2 [.int i, .int j] S) P ↔ P (.int (min i j)) S := rk_ok
@[simp] theorem rk_intI {i : Int} {S : Store} {P : D → Store → Prop} : Rk (fInt [.int i] S) P ↔ P (.int i) S := rk_ok
@[simp] theorem rk_intB {b : Bool} {S : Store} {P : D → Store → Prop} : Rk (fInt [.bl b] S) P ↔ P (.int (if b then 1 else 0)) S := rk_ok
@[simp] theorem rk_bits {i : Int} {S : Store} {P : D → Store → Prop} : Rk (fBits (.int i) S) P ↔ P (.int (Builtin.Int.intBits i : Nat)) S := rk_ok
@[simp] theorem rk_lenT {l : List D} {S : Store} {P : D → Store → Prop} : Rk (fLen [.tup l] S) P ↔ P (.int (l.length : Nat)) S := rk_ok
@[simp] theorem rk_lenL {n : Nat} {S : Store} {P : D → Store → Prop} : Rk (fLen [.ref n] S) P ↔ ∃ l, lstOf S n = some l ∧ P (.int (l.length : Nat)) S := by
  unfold fLen
  cases h : lstOf S n <;> simp [h]
@[simp] theorem rk_isi {c : Ty} {d : D} {S : Store} {P : D → Store → Prop} : Rk (fIsi c d S) P ↔ ∃ t, tyOf S d = some t ∧ P (.bl (t.isa c)) S := by
  unfold fIsi
  cases h : tyOf S d <;> simp [h]
@[simp] theorem rk_isi2 {c c' : Ty} {d : D} {S : Store} {P : D → Store → Prop} : Rk (fIsi2 c c' d S) P ↔ ∃ t, tyOf S d = some t ∧ P (.bl (t.isa c || t.isa c')) S := by
  unfold fIsi2
  cases h : tyOf S d <;> simp [h]
@[simp] theorem ty_non {S : Store} : tyOf S .non = some .non := rfl
@[simp] theorem ty_bl {S : Store} {b : Bool} : tyOf S (.bl b) = some .bl := rfl
@[simp] theorem ty_int {S : Store} {b : Int} : tyOf S (.int b) = some .int := rfl
@[simp] theorem ty_str {S : Store} {b : Str} : tyOf S (.str b) = some .str := rfl
@[simp] theorem ty_tup {S : Store} {b : List D} : tyOf S (.tup b) = some .tup := rfl
@[simp] theorem rk_eq {d e : D} {S : Store} {P : D → Store → Prop} : Rk (fEq d e S) P ↔ ∃ x y, toP S 60 d = some x ∧ toP S 60 e = some y ∧ P (.bl (PyData.eqv x y)) S := by
  unfold fEq
  cases h : toP S 60 d <;> cases h' : toP S 60 e <;> simp
@[simp] theorem rk_ne {d e : D} {S : Store} {P : D → Store → Prop} : Rk (fNe d e S) P ↔ ∃ x y, toP S 60 d = some x ∧ toP S 60 e = some y ∧ P (.bl (!PyData.eqv x y)) S := by
  unfold fNe
  cases h : toP S 60 d <;> cases h' : toP S 60 e <;> simp
@[simp] theorem toP_int {S : Store} {k : Nat} {i : Int} : toP S k (.int i) = some (.int i) := by cases k <;> rfl
@[simp] theorem toP_bl {S : Store} {k : Nat} {i : Bool} : toP S k (.bl i) = some (.bool i) := by cases k <;> rfl
@[simp] theorem toP_non {S : Store} {k : Nat} : toP S k .non = some .none := by cases k <;> rfl
@[simp] theorem toP_str {S : Store} {k : Nat} {z : Str} : toP S k (.str z) = if PyData.strOk z then some (.str z) else none := by cases k <;> rfl
@[simp] theorem toP_tup {S : Store} {k : Nat} {l : List D} : toP S (k + 1) (.tup l) = (allP (toP S k) l).map .tuple := rfl
@[simp] theorem toP_tup60 {S : Store} {l : List D} : toP S 60 (.tup l) = (allP (toP S 59) l).map .tuple := rfl
@[simp] theorem toP_tup59 {S : Store} {l : List D} : toP S 59 (.tup l) = (allP (toP S 58) l).map .tuple := rfl
@[simp] theorem toP_tup58 {S : Store} {l : List D} : toP S 58 (.tup l) = (allP (toP S 57) l).map .tuple := rfl
@[simp] theorem allP_nil {f : D → Option PyData} : allP f [] = some [] := rfl
@[simp] theorem allP_cons {f : D → Option PyData} {d : D} {l : List D} : allP f (d :: l) = match f d, allP f l with
  | some x, some r => some (x :: r)
  | _, _ => none := rfl
@[simp] theorem ev_int {i j : Int} : PyData.eqv (.int i) (.int j) = decide (i = j) := by unfold PyData.eqv; exact Bool.beq_eq_decide_eq _ _
@[simp] theorem ev_bl {i j : Bool} : PyData.eqv (.bool i) (.bool j) = decide (i = j) := by unfold PyData.eqv; exact Bool.beq_eq_decide_eq _ _
@[simp] theorem ev_str {i j : Str} : PyData.eqv (.str i) (.str j) = decide (i = j) := by unfold PyData.eqv; exact Bool.beq_eq_decide_eq _ _
@[simp] theorem ev_tup {i j : List PyData} : PyData.eqv (.tuple i) (.tuple j) = PyData.eqvAll i j := by rw [PyData.eqv]
@[simp] theorem ev_lst {i j : List PyData} : PyData.eqv (.list i) (.list j) = PyData.eqvAll i j := by rw [PyData.eqv]
@[simp] theorem ev_nn : PyData.eqv .none .none = true := by rw [PyData.eqv]
@[simp] theorem ev_nt {i : List PyData} : PyData.eqv .none (.tuple i) = false := by rw [PyData.eqv]
@[simp] theorem ev_tn {i : List PyData} : PyData.eqv (.tuple i) .none = false := by rw [PyData.eqv]
@[simp] theorem ev_all0 : PyData.eqvAll [] [] = true := by rw [PyData.eqvAll]
@[simp] theorem ev_all1 {x y : PyData} {xs ys : List PyData} : PyData.eqvAll (x :: xs) (y :: ys) = (PyData.eqv x y && PyData.eqvAll xs ys) := by rw [PyData.eqvAll]
@[simp] theorem ev_all2 {x : PyData} {xs : List PyData} : PyData.eqvAll (x :: xs) [] = false := by rw [PyData.eqvAll]
@[simp] theorem ev_all3 {x : PyData} {xs : List PyData} : PyData.eqvAll [] (x :: xs) = false := by rw [PyData.eqvAll]
@[simp] theorem rk_append {n : Nat} {y : D} {S : Store} {P : D → Store → Prop} : Rk (fAppend (.ref n) [y] S) P ↔ ∃ l, S[n]? = some (.lst l) ∧ l.length < sizeLine ∧ P .non (S.set n (.lst (l ++ [y]))) := by
  unfold fAppend
  dsimp only
  split
  · rename_i l hl
    by_cases h : l.length < sizeLine <;> simp [h, hl]
  · rename_i h
    constructor
    · intro ⟨_, _, e, _⟩; cases e
    · intro ⟨l, e, _⟩; exact absurd e (h l)
@[simp] theorem rk_methL {f : D → List D → Store → Res D} {so : SE} {sr : SA} {env : Env} {S : Store} {P : D → Store → Prop} : Rk (sMethL f so sr env S) P ↔ Rk (so env S) fun d S1 => isLst S1 d = true ∧ Rk (sr env S1) fun ds S2 => Rk (f d ds S2) P := by
  unfold sMethL; simp only [rk_bind, rk_ite, rk_bad]
  constructor
  · intro h; exact h.imp fun d S q => by
      by_cases c : isLst S d = true
      · exact ⟨c, q.1 c⟩
      · exact (q.2 c).elim
  · intro h; exact h.imp fun ds S q => ⟨fun _ => q.2, fun c => c q.1⟩
theorem lstOf_lst {S : Store} {n : Nat} {l : List D} (h : S[n]? = some (.lst l)) : lstOf S n = some l := by unfold lstOf; rw [h]
@[simp] theorem lstOf_new {S : Store} {l : List D} : lstOf (S ++ [.lst l]) S.length = some l := lstOf_lst (by simp)
@[simp] theorem rk_iterT {s : SE} {env : Env} {S : Store} {P : Wk → Store → Prop} : Rk (sIter s env S) P ↔ Rk (s env S) fun d S1 => Rk (fIter d S1) P := by unfold sIter; simp
@[simp] theorem rk_fIterT {l : List D} {S : Store} {P : Wk → Store → Prop} : Rk (fIter (.tup l) S) P ↔ P ⟨l, fun _ => True⟩ S := rk_ok
@[simp] theorem rk_fIterL {n : Nat} {S : Store} {P : Wk → Store → Prop} : Rk (fIter (.ref n) S) P ↔ ∃ l, lstOf S n = some l ∧ P ⟨l, fun S => lstOf S n = some l⟩ S := by
  unfold fIter
  cases h : lstOf S n <;> simp [h]
@[simp] theorem rk_rng {f : List D → Store → Res Wk} {s : SA} {env : Env} {S : Store} {P : Wk → Store → Prop} : Rk (sRng f s env S) P ↔ Rk (s env S) fun ds S1 => Rk (f ds S1) P := by unfold sRng; simp
@[simp] theorem rk_rng1 {j : Int} {S : Store} {P : Wk → Store → Prop} : Rk (fRng1 [.int j] S) P ↔ (-(2 ^ 62) ≤ j ∧ j < 2 ^ 62) ∧ P ⟨rangeD 0 j.toNat, fun _ => True⟩ S := by
  unfold fRng1
  dsimp only
  split
  · rename_i h; rw [rk_ok]; exact ⟨fun q => ⟨h, q⟩, fun q => q.2⟩
  · rename_i h; rw [rk_bad]; exact ⟨fun q => q.elim, fun q => h q.1⟩
theorem sk_for {si : SI} {g : SG} {b : SS} {env : Env} {S : Store} {P : SPt} : Sk (sFor si g b env S) P ↔ Rk (si env S) fun w S1 => Sk (forRun g b w.chk w.items env S1) P := by unfold sFor; simp
theorem sk_forRun {g : SG} {b : SS} {chk : Store → Prop} {P : SPt} (I : Nat → Env → Store → Prop) (items : List D) (hchk : ∀ i e S, I i e S → chk S)
    (turn : ∀ i d e S, items[i]? = some d → I i e S → ∃ e', g d e S = some e' ∧ Sk (b e' S) { nx := I (i + 1), rt := P.rt, bk := P.nx, ct := I (i + 1) })
    (hend : ∀ e S, I items.length e S → P.nx e S) (env : Env) (S : Store) (h0 : I 0 env S) : Sk (forRun g b chk items env S) P := by
  have key : ∀ (l : List D) (i : Nat) (e : Env) (S : Store), items.drop i = l → I i e S → i ≤ items.length → Sk (forRun g b chk l e S) P := by
    intro l
    induction l with
    | nil =>
      intro i e S hd hi hl
      unfold forRun
      rw [if_pos (hchk i e S hi)]
      have : items.length ≤ i := by simpa using hd
      have : i = items.length := by omega
      subst this
      exact hend e S hi
    | cons d l ih =>
      intro i e S hd hi hl
      unfold forRun
      rw [if_pos (hchk i e S hi)]
      have hg : items[i]? = some d := by
        have := congrArg (fun x => x[0]?) hd
        simpa using this
      have hd' : items.drop (i + 1) = l := by
        have := congrArg (List.drop 1) hd
        simpa using this
      have hl' : i + 1 ≤ items.length := (List.getElem?_eq_some_iff.mp hg).1
      obtain ⟨e', h1, h2⟩ := turn i d e S hg hi
      rw [h1]
      dsimp only
      cases hb : b e' S with
      | nx e2 S2 => rw [hb] at h2; exact ih (i + 1) e2 S2 hd' h2 hl'
      | ct e2 S2 => rw [hb] at h2; exact ih (i + 1) e2 S2 hd' h2 hl'
      | bk e2 S2 => rw [hb] at h2; exact h2
      | rt e2 S2 => rw [hb] at h2; exact h2
      | exc x e2 S2 => rw [hb] at h2; exact h2.elim
      | bad => rw [hb] at h2; exact h2.elim
  exact key items 0 env S rfl h0 (Nat.zero_le _)
theorem sk_while {c : ST} {b : SS} {P : SPt} (I : Env → Store → Prop) (μ : Env → Store → Nat)
    (turn : ∀ e S, I e S → Rk (c e S) fun k S1 => (k = true → Sk (b e S1) { nx := fun e2 S2 => I e2 S2 ∧ μ e2 S2 < μ e S, rt := P.rt, bk := P.nx, ct := fun e2 S2 => I e2 S2 ∧ μ e2 S2 < μ e S }) ∧ (k = false → P.nx e S1))
    (env : Env) (S : Store) (h0 : I env S) : Sk (sWhile c b env S) P := by
  have key : ∀ (n : Nat) (e : Env) (S : Store), μ e S = n → I e S → Sk (sWhile c b e S) P := by
    intro n
    induction n using Nat.strongRecOn with
    | ind n ih =>
      intro e S hn hi
      obtain ⟨k, S1, hc, h1, h2⟩ := turn e S hi
      rw [sWhile_eq, hc]
      cases k with
      | false => exact h2 rfl
      | true =>
        have h1 := h1 rfl
        dsimp only
        cases hb : b e S1 with
        | nx e2 S2 => rw [hb] at h1; exact ih _ (hn ▸ h1.2) e2 S2 rfl h1.1
        | ct e2 S2 => rw [hb] at h1; exact ih _ (hn ▸ h1.2) e2 S2 rfl h1.1
        | bk e2 S2 => rw [hb] at h1; exact h1
        | rt e2 S2 => rw [hb] at h1; exact h1
        | exc x e2 S2 => rw [hb] at h1; exact h1.elim
        | bad => rw [hb] at h1; exact h1.elim
  exact key _ env S rfl h0
theorem rk_comp {si : SI} {g : SG} {t : ST} {e : SE} {vs : List Nat} {env : Env} {S : Store} {P : D → Store → Prop} : Rk (sComp si g t e vs env S) P ↔ Rk (si env S) fun w S1 => Rk (compRun g t e w.chk S1.length (wipeD env vs) w.items (S1 ++ [.lst []])) fun _ S2 => P (.ref S1.length) S2 := by unfold sComp; simp
@[simp] theorem sk_forNil {g : SG} {b : SS} {chk : Store → Prop} {env : Env} {S : Store} {P : SPt} : Sk (forRun g b chk [] env S) P ↔ chk S ∧ P.nx env S := by
  unfold forRun
  by_cases h : chk S <;> simp [h]
@[simp] theorem sk_forCons {g : SG} {b : SS} {chk : Store → Prop} {d : D} {l : List D} {env : Env} {S : Store} {P : SPt} : Sk (forRun g b chk (d :: l) env S) P ↔ chk S ∧ ∃ e', g d env S = some e' ∧
    Sk (b e' S) { nx := fun e S1 => Sk (forRun g b chk l e S1) P, rt := P.rt, bk := P.nx, ct := fun e S1 => Sk (forRun g b chk l e S1) P } := by
  conv => lhs; unfold forRun
  by_cases h : chk S
  · simp only [h, if_true, true_and]
    cases hg : g d env S with
    | none => simp
    | some e =>
      simp only [Option.some.injEq, exists_eq_left']
      cases hb : b e S <;> simp
  · simp [h]
@[simp] theorem rk_compNil {g : SG} {t : ST} {e : SE} {chk : Store → Prop} {n0 : Nat} {env : Env} {S : Store} {P : Unit → Store → Prop} : Rk (compRun g t e chk n0 env [] S) P ↔ chk S ∧ P () S := by
  unfold compRun
  by_cases h : chk S <;> simp [h]
@[simp] theorem rk_compCons {g : SG} {t : ST} {e : SE} {chk : Store → Prop} {n0 : Nat} {env : Env} {d : D} {l : List D} {S : Store} {P : Unit → Store → Prop} : Rk (compRun g t e chk n0 env (d :: l) S) P ↔ chk S ∧ ∃ e', g d env S = some e' ∧
    Rk (t e' S) fun b S1 => (b = true → Rk (e e' S1) fun y S2 => ∃ acc, S2[n0]? = some (.lst acc) ∧ acc.length < sizeLine ∧ Rk (compRun g t e chk n0 env l (S2.set n0 (.lst (acc ++ [y])))) P) ∧ (b = false → Rk (compRun g t e chk n0 env l S1) P) := by
  conv => lhs; unfold compRun
  by_cases h : chk S
  · simp only [h, if_true, true_and]
    cases hg : g d env S with
    | none => simp
    | some e1 =>
      simp only [Option.some.injEq, exists_eq_left']
      cases ht : t e1 S with
      | exc c S1 => simp
      | bad => simp
      | ok b S1 =>
        cases b with
        | false => simp
        | true =>
          simp only [rk_ok, forall_const, Bool.true_eq_false, false_implies, and_true]
          cases he : e e1 S1 with
          | exc c S2 => simp
          | bad => simp
          | ok y S2 =>
            simp only [rk_ok]
            split
            · rename_i acc hacc
              by_cases hz : acc.length < sizeLine <;> simp [hz, hacc]
            · rename_i hno
              rw [rk_bad]
              exact ⟨fun h => h.elim, fun ⟨acc, h1, _⟩ => hno acc h1⟩
  · simp [h]
@[simp] theorem rk_yes {env : Env} {S : Store} {P : Bool → Store → Prop} : Rk (sYes env S) P ↔ P true S := rk_ok
theorem comp_plain0 {g : SG} {t : ST} {e : SE} {chk : Store → Prop} {env : Env} {items : List D} {S : Store} {P : Unit → Store → Prop} (f : D → Option D)
    (step : ∀ d ∈ items, ∀ acc : List D, ∃ e', g d env (S ++ [.lst acc]) = some e' ∧ Rk (t e' (S ++ [.lst acc])) fun b S2 => S2 = S ++ [.lst acc] ∧ (b = true → Rk (e e' (S ++ [.lst acc])) fun y S3 => S3 = S ++ [.lst acc] ∧ f d = some y) ∧ (b = false → f d = none))
    (hchk : ∀ acc, chk (S ++ [.lst acc])) (hlen : items.length ≤ sizeLine) (hP : P () (S ++ [.lst (items.filterMap f)])) : Rk (compRun g t e chk S.length env items (S ++ [.lst []])) P := by
  have key : ∀ (l : List D) (acc : List D), (∀ d ∈ l, d ∈ items) → acc.length + l.length ≤ sizeLine → P () (S ++ [.lst (acc ++ l.filterMap f)]) → Rk (compRun g t e chk S.length env l (S ++ [.lst acc])) P := by
    intro l
    induction l with
    | nil =>
      intro acc _ _ h
      rw [rk_compNil]
      exact ⟨hchk acc, by simpa using h⟩
    | cons d l ih =>
      intro acc hm hz h
      rw [rk_compCons]
      obtain ⟨e', h1, b, S2, h2, rfl, h3, h4⟩ := step d (hm d (by simp)) acc
      refine ⟨hchk acc, e', h1, b, _, h2, fun hb => ?_, fun hb => ?_⟩
      · obtain ⟨y, S3, q1, rfl, q2⟩ := h3 hb
        refine ⟨y, _, q1, acc, by simp, by simp at hz; omega, ?_⟩
        have : (S ++ [Cell.lst acc]).set S.length (.lst (acc ++ [y])) = S ++ [.lst (acc ++ [y])] := by
          rw [List.set_append_right _ _ (Nat.le_refl _)]; simp
        rw [this]
        refine ih _ (fun x hx => hm x (by simp [hx])) (by simp at hz ⊢; omega) ?_
        simpa [q2] using h
      · refine ih _ (fun x hx => hm x (by simp [hx])) (by simp at hz; omega) ?_
        simpa [h4 hb] using h
  exact key items [] (fun _ h => h) (by simpa using hlen) (by simpa using hP)
@[simp] theorem boolsD_nil : boolsD [] = some [] := rfl
@[simp] theorem boolsD_cons {b : Bool} {l : List D} : boolsD (.bl b :: l) = (boolsD l).map (b :: ·) := rfl
@[simp] theorem intsD_nil : intsD [] = some [] := rfl
@[simp] theorem intsD_cons {b : Int} {l : List D} : intsD (.int b :: l) = (intsD l).map (b :: ·) := rfl
theorem intsD_map {A : Type} {l : List A} {p : A → Int} : intsD (l.map fun x => D.int (p x)) = some (l.map p) := by
  induction l with
  | nil => rfl
  | cons a l ih => simp [intsD, ih]
@[simp] theorem rk_all {n : Nat} {S : Store} {P : D → Store → Prop} : Rk (fAll [.ref n] S) P ↔ ∃ l bs, lstOf S n = some l ∧ boolsD l = some bs ∧ P (.bl (bs.all id)) S := by
  unfold fAll lst1
  cases h : lstOf S n with
  | none => simp [h]
  | some l => cases h2 : boolsD l <;> simp [h, h2]
@[simp] theorem rk_any {n : Nat} {S : Store} {P : D → Store → Prop} : Rk (fAny [.ref n] S) P ↔ ∃ l bs, lstOf S n = some l ∧ boolsD l = some bs ∧ P (.bl (bs.any id)) S := by
  unfold fAny lst1
  cases h : lstOf S n with
  | none => simp [h]
  | some l => cases h2 : boolsD l <;> simp [h, h2]
@[simp] theorem rk_sum {n : Nat} {S : Store} {P : D → Store → Prop} : Rk (fSum [.ref n] S) P ↔ ∃ l bs, lstOf S n = some l ∧ intsD l = some bs ∧ P (.int bs.sum) S := by
  unfold fSum lst1
  cases h : lstOf S n with
  | none => simp [h]
  | some l => cases h2 : intsD l <;> simp [h, h2]
@[simp] theorem rk_tupleT {l : List D} {S : Store} {P : D → Store → Prop} : Rk (fTuple [.tup l] S) P ↔ P (.tup l) S := rk_ok
@[simp] theorem rk_tupleL {n : Nat} {S : Store} {P : D → Store → Prop} : Rk (fTuple [.ref n] S) P ↔ ∃ l, lstOf S n = some l ∧ P (.tup l) S := by
  unfold fTuple
  cases h : lstOf S n <;> simp [h]
@[simp] theorem rk_listT {l : List D} {S : Store} {P : D → Store → Prop} : Rk (fList [.tup l] S) P ↔ P (.ref S.length) (S ++ [.lst l]) := rk_ok
@[simp] theorem rk_listL {n : Nat} {S : Store} {P : D → Store → Prop} : Rk (fList [.ref n] S) P ↔ ∃ l, lstOf S n = some l ∧ P (.ref S.length) (S ++ [.lst l]) := by
  unfold fList
  cases h : lstOf S n <;> simp [h]
@[simp] theorem rk_zipL {n m : Nat} {S : Store} {P : Wk → Store → Prop} : Rk (fZip [.ref n, .ref m] S) P ↔ ∃ l k, lstOf S n = some l ∧ lstOf S m = some k ∧ P ⟨zipD l k, fun S => lstOf S n = some l ∧ lstOf S m = some k⟩ S := by
  unfold fZip
  cases h : lstOf S n <;> cases h2 : lstOf S m <;> simp [h, h2]
@[simp] theorem rk_zipT {l k : List D} {S : Store} {P : Wk → Store → Prop} : Rk (fZip [.tup l, .tup k] S) P ↔ P ⟨zipD l k, fun _ => True⟩ S := rk_ok
@[simp] theorem zipD_nil {k : List D} : zipD [] k = [] := rfl
@[simp] theorem zipD_cons {a b : D} {l k : List D} : zipD (a :: l) (b :: k) = .tup [a, b] :: zipD l k := rfl
@[simp] theorem rk_rng2 {i j : Int} {S : Store} {P : Wk → Store → Prop} : Rk (fRng2 [.int i, .int j] S) P ↔ (-(2 ^ 62) ≤ i ∧ i < 2 ^ 62 ∧ -(2 ^ 62) ≤ j ∧ j < 2 ^ 62) ∧ P ⟨rangeD i (j - i).toNat, fun _ => True⟩ S := by
  unfold fRng2
  dsimp only
  split
  · rename_i h; rw [rk_ok]; exact ⟨fun q => ⟨h, q⟩, fun q => q.2⟩
  · rename_i h; rw [rk_bad]; exact ⟨fun q => q.elim, fun q => h q.1⟩
@[simp] theorem wipeD_nil {env : Env} : wipeD env [] = env := rfl
@[simp] theorem wipeD_cons {env : Env} {v : Nat} {vs : List Nat} : wipeD env (v :: vs) = (wipeD env vs).set v none := rfl
@[simp] theorem rk_sl {s : SE} {lo hi : SO} {env : Env} {S : Store} {P : D → Store → Prop} : Rk (sSl s lo hi env S) P ↔ Rk (s env S) fun d S1 => Rk (lo env S1) fun l S2 => Rk (hi env S2) fun h S3 => Rk (fSl d l h S3) P := by unfold sSl; simp
@[simp] theorem rk_noPart {env : Env} {S : Store} {P : Option Int → Store → Prop} : Rk (sNoPart env S) P ↔ P none S := rk_ok
def onI (d : D) (P : Int → Prop) : Prop := match d with
  | .int i => P i
  | _ => False
@[simp] theorem onI_mk {i : Int} {P : Int → Prop} : onI (.int i) P ↔ P i := Iff.rfl
@[simp] theorem rk_part {s : SE} {env : Env} {S : Store} {P : Option Int → Store → Prop} : Rk (sPart s env S) P ↔ Rk (s env S) fun d S1 => onI d fun i => P (some i) S1 := by
  unfold sPart
  simp only [rk_bind]
  constructor
  · intro h; exact h.imp fun d S q => by cases d <;> simp_all [onI]
  · intro h; exact h.imp fun d S q => by cases d <;> simp_all [onI]
@[simp] theorem rk_slT {l : List D} {lo hi : Option Int} {S : Store} {P : D → Store → Prop} : Rk (fSl (.tup l) lo hi S) P ↔ P (.tup (cutL l lo hi)) S := rk_ok
@[simp] theorem rk_slL {n : Nat} {lo hi : Option Int} {S : Store} {P : D → Store → Prop} : Rk (fSl (.ref n) lo hi S) P ↔ ∃ l, lstOf S n = some l ∧ P (.ref S.length) (S ++ [.lst (cutL l lo hi)]) := by
  unfold fSl
  cases h : lstOf S n <;> simp [h]
@[simp] theorem gT_tup {n : Nat} {r : List D → Env → Store → Option Env} {l : List D} {env : Env} {S : Store} : gT n r (.tup l) env S = if l.length = n then r l env S else none := rfl
@[simp] theorem rk_revT {s : SE} {env : Env} {S : Store} {P : Wk → Store → Prop} : Rk (sRev s env S) P ↔ Rk (s env S) fun d S1 => Rk (fRev d S1) P := by unfold sRev; simp
@[simp] theorem rk_fRevT {l : List D} {S : Store} {P : Wk → Store → Prop} : Rk (fRev (.tup l) S) P ↔ P ⟨l.reverse, fun _ => True⟩ S := rk_ok
@[simp] theorem rk_fRevL {n : Nat} {S : Store} {P : Wk → Store → Prop} : Rk (fRev (.ref n) S) P ↔ ∃ l, lstOf S n = some l ∧ P ⟨l.reverse, fun S => lstOf S n = some l⟩ S := by
  unfold fRev
  cases h : lstOf S n <;> simp [h]
@[simp] theorem rk_revL {n : Nat} {S : Store} {P : D → Store → Prop} : Rk (fRevL (.ref n) S) P ↔ ∃ l, lstOf S n = some l ∧ P (.ref S.length) (S ++ [.lst l.reverse]) := by
  unfold fRevL
  cases h : lstOf S n <;> simp [h]
@[simp] theorem rk_zipTL {l : List D} {m : Nat} {S : Store} {P : Wk → Store → Prop} : Rk (fZip [.tup l, .ref m] S) P ↔ ∃ k, lstOf S m = some k ∧ P ⟨zipD l k, fun S => lstOf S m = some k⟩ S := by
  unfold fZip
  cases h : lstOf S m <;> simp [h]
@[simp] theorem rk_enumT {l : List D} {S : Store} {P : Wk → Store → Prop} : Rk (fEnum [.tup l] S) P ↔ P ⟨enumD l, fun _ => True⟩ S := rk_ok
@[simp] theorem rk_listRevT {l : List D} {S : Store} {P : D → Store → Prop} : Rk (fListRev (.tup l) S) P ↔ P (.ref S.length) (S ++ [.lst l.reverse]) := rk_ok
@[simp] theorem rk_listRevL {n : Nat} {S : Store} {P : D → Store → Prop} : Rk (fListRev (.ref n) S) P ↔ ∃ l, lstOf S n = some l ∧ P (.ref S.length) (S ++ [.lst l.reverse]) := by
  unfold fListRev
  cases h : lstOf S n <;> simp [h]
@[simp] theorem rk_callD {m : Mf} {dv : List Int} {s : SA} {env : Env} {S : Store} {P : D → Store → Prop} : Rk (sCallD m dv s env S) P ↔ Rk (s env S) fun ds S1 => Rk (m (ds ++ dv.map D.int) S1) P := rk_bind
@[simp] theorem rk_revRng {s : SE} {env : Env} {S : Store} {P : Wk → Store → Prop} : Rk (sRevRng s env S) P ↔ Rk (s env S) fun d S1 => Rk (fRevRng1 [d] S1) P := by unfold sRevRng; simp
@[simp] theorem rk_revRng1 {j : Int} {S : Store} {P : Wk → Store → Prop} : Rk (fRevRng1 [.int j] S) P ↔ (-(2 ^ 62) ≤ j ∧ j < 2 ^ 62) ∧ P ⟨(rangeD 0 j.toNat).reverse, fun _ => True⟩ S := by
  unfold fRevRng1
  dsimp only
  split
  · rename_i h; rw [rk_ok]; exact ⟨fun q => ⟨h, q⟩, fun q => q.2⟩
  · rename_i h; rw [rk_bad]; exact ⟨fun q => q.elim, fun q => h q.1⟩
end Rg
namespace Rg
open PySem L2
structure Tag {A : Sort _} (P : A) : Type where
  mk ::
def Rok {A : Type} (r : Res A) (P : A → Store → Prop) (_t : Tag P := .mk) : Prop := Rk r P
def Sok (r : ResS) (P : SPt) (_t : Tag P := .mk) : Prop := Sk r P
theorem Rok.imp {A : Type} {r : Res A} {P Q : A → Store → Prop} (h : Rok r P) (hi : ∀ a S, P a S → Q a S) : Rok r Q := Rk.imp h hi
theorem Rok.of {A : Type} {r : Res A} {a : A} {S : Store} {P : A → Store → Prop} (h : r = .ok a S) (p : P a S) : Rok r P := Rk.of h p
@[simp] theorem rok_ok {A : Type} {a : A} {S : Store} {P : A → Store → Prop} : Rok (.ok a S) P ↔ P a S := rk_ok
@[simp] theorem rok_bad {A : Type} {P : A → Store → Prop} : Rok (.bad : Res A) P ↔ False := rk_bad
@[simp] theorem rok_exc {A : Type} {c : Str} {S : Store} {P : A → Store → Prop} : Rok (.exc c S : Res A) P ↔ False := rk_exc
@[simp] theorem rok_bind {A B : Type} {r : Res A} {f : A → Store → Res B} {P : B → Store → Prop} : Rok (r.bind f) P ↔ Rok r fun a S => Rok (f a S) P := rk_bind
@[simp] theorem rok_ite {A : Type} {c : Prop} [Decidable c] {r s : Res A} {P : A → Store → Prop} : Rok (if c then r else s) P ↔ (c → Rok r P) ∧ (¬c → Rok s P) := rk_ite
@[simp] theorem sok_ite {c : Prop} [Decidable c] {r s : ResS} {P : SPt} : Sok (if c then r else s) P ↔ (c → Sok r P) ∧ (¬c → Sok s P) := sk_ite
@[simp] theorem sok_nx {e : Env} {S : Store} {P : SPt} : Sok (.nx e S) P ↔ P.nx e S := sk_nx
@[simp] theorem sok_rt {d : D} {S : Store} {P : SPt} : Sok (.rt d S) P ↔ P.rt d S := sk_rt
@[simp] theorem sok_bk {d : Env} {S : Store} {P : SPt} : Sok (.bk d S) P ↔ P.bk d S := sk_bk
@[simp] theorem sok_ct {d : Env} {S : Store} {P : SPt} : Sok (.ct d S) P ↔ P.ct d S := sk_ct
@[simp] theorem sok_bad {P : SPt} : Sok .bad P ↔ False := sk_bad
@[simp] theorem sok_exc {c : Str} {e : Env} {S : Store} {P : SPt} : Sok (.exc c e S) P ↔ False := sk_exc
theorem Sok.imp {r : ResS} {P Q : SPt} (h : Sok r P) (h1 : ∀ e S, P.nx e S → Q.nx e S) (h2 : ∀ e S, P.rt e S → Q.rt e S) (h3 : ∀ e S, P.bk e S → Q.bk e S) (h4 : ∀ e S, P.ct e S → Q.ct e S) : Sok r Q := Sk.imp h h1 h2 h3 h4
@[simp] theorem sok_andS {A : Type} {r : Res A} {env : Env} {f : A → Store → ResS} {P : SPt} : Sok (r.andS env f) P ↔ Rok r fun a S => Sok (f a S) P := sk_andS
@[simp] theorem sok_seq {s t : SS} {env : Env} {S : Store} {P : SPt} : Sok (sSeq s t env S) P ↔ Sok (s env S) { P with nx := fun e S1 => Sok (t e S1) P } := sk_seq
theorem rok_def {n np : Nat} {body : SS} {ds : List D} {S : Store} {P : D → Store → Prop} : Rok (mkDef n np body ds S) P ↔ ds.length = np ∧ Sok (body (ds.map some ++ List.replicate (n - ds.length) none) S) { nx := fun _ S1 => Rok (gc S .non S1) P, rt := fun d S1 => Rok (gc S d S1) P } := rk_def
@[simp] theorem rok_call {m : Mf} {s : SA} {env : Env} {S : Store} {P : D → Store → Prop} : Rok (sCall m s env S) P ↔ Rok (s env S) fun ds S1 => Rok (m ds S1) P := rk_call
@[simp] theorem rok_call0 {m : Mf} {env : Env} {S : Store} {P : D → Store → Prop} : Rok (sCall0 m env S) P ↔ Rok (m [] S) P := rk_call0
@[simp] theorem rok_s2 {f : D → D → Store → Res D} {sa sb : SE} {env : Env} {S : Store} {P : D → Store → Prop} : Rok (s2 f sa sb env S) P ↔ Rok (sa env S) fun d S1 => Rok (sb env S1) fun e S2 => Rok (f d e S2) P := rk_s2
@[simp] theorem rok_s1 {f : D → Store → Res D} {sa : SE} {env : Env} {S : Store} {P : D → Store → Prop} : Rok (s1 f sa env S) P ↔ Rok (sa env S) fun d S1 => Rok (f d S1) P := rk_s1
@[simp] theorem rok_C {d : D} {env : Env} {S : Store} {P : D → Store → Prop} : Rok (sC d env S) P ↔ P d S := rk_C
@[simp] theorem rok_var {i : Nat} {env : Env} {S : Store} {P : D → Store → Prop} : Rok (sVar i env S) P ↔ ∃ d, env[i]? = some (some d) ∧ P d S := rk_var
@[simp] theorem rok_nil {env : Env} {S : Store} {P : List D → Store → Prop} : Rok (sNil env S) P ↔ P [] S := rk_nil
@[simp] theorem rok_cons {s : SE} {r : SA} {env : Env} {S : Store} {P : List D → Store → Prop} : Rok (sCons s r env S) P ↔ Rok (s env S) fun d S1 => Rok (r env S1) fun ds S2 => P (d :: ds) S2 := rk_cons
@[simp] theorem rok_tup {s : SA} {env : Env} {S : Store} {P : D → Store → Prop} : Rok (sTup s env S) P ↔ Rok (s env S) fun ds S1 => ds.length ≤ sizeLine ∧ P (.tup ds) S1 := rk_tup
@[simp] theorem rok_lst {s : SA} {env : Env} {S : Store} {P : D → Store → Prop} : Rok (sLst s env S) P ↔ Rok (s env S) fun ds S1 => ds.length ≤ sizeLine ∧ P (.ref S1.length) (S1 ++ [.lst ds]) := rk_lst
@[simp] theorem rok_T {s : SE} {env : Env} {S : Store} {P : Bool → Store → Prop} : Rok (sT s env S) P ↔ Rok (s env S) fun d S1 => onB d fun b => P b S1 := rk_T
@[simp] theorem rok_not {s : ST} {env : Env} {S : Store} {P : Bool → Store → Prop} : Rok (sNot s env S) P ↔ Rok (s env S) fun b S1 => P (!b) S1 := rk_not
@[simp] theorem rok_and {s t : ST} {env : Env} {S : Store} {P : Bool → Store → Prop} : Rok (sAnd s t env S) P ↔ Rok (s env S) fun b S1 => (b = true → Rok (t env S1) P) ∧ (b = false → P false S1) := rk_and
@[simp] theorem rok_or {s t : ST} {env : Env} {S : Store} {P : Bool → Store → Prop} : Rok (sOr s t env S) P ↔ Rok (s env S) fun b S1 => (b = true → P true S1) ∧ (b = false → Rok (t env S1) P) := rk_or
@[simp] theorem rok_andV {s t : SE} {env : Env} {S : Store} {P : D → Store → Prop} : Rok (sAndV s t env S) P ↔ Rok (s env S) fun d S1 => onB d fun b => (b = true → Rok (t env S1) P) ∧ (b = false → P (.bl false) S1) := rk_andV
@[simp] theorem rok_orV {s t : SE} {env : Env} {S : Store} {P : D → Store → Prop} : Rok (sOrV s t env S) P ↔ Rok (s env S) fun d S1 => onB d fun b => (b = true → P (.bl true) S1) ∧ (b = false → Rok (t env S1) P) := rk_orV
@[simp] theorem rok_if {t : ST} {sa sb : SE} {env : Env} {S : Store} {P : D → Store → Prop} : Rok (sIf t sa sb env S) P ↔ Rok (t env S) fun b S1 => (b = true → Rok (sa env S1) P) ∧ (b = false → Rok (sb env S1) P) := rk_if
@[simp] theorem sok_skip {env : Env} {S : Store} {P : SPt} : Sok (sSkip env S) P ↔ P.nx env S := sk_skip
@[simp] theorem sok_break {env : Env} {S : Store} {P : SPt} : Sok (sBreak env S) P ↔ P.bk env S := sk_break
@[simp] theorem sok_cont {env : Env} {S : Store} {P : SPt} : Sok (sCont env S) P ↔ P.ct env S := sk_cont
@[simp] theorem sok_never {env : Env} {S : Store} {P : SPt} : Sok (sNever env S) P ↔ False := sk_never
@[simp] theorem sok_drop {s : SE} {env : Env} {S : Store} {P : SPt} : Sok (sDrop s env S) P ↔ Rok (s env S) fun _ S1 => P.nx env S1 := sk_drop
@[simp] theorem sok_ret {s : SE} {env : Env} {S : Store} {P : SPt} : Sok (sRet s env S) P ↔ Rok (s env S) fun d S1 => P.rt d S1 := sk_ret
@[simp] theorem sok_retN {env : Env} {S : Store} {P : SPt} : Sok (sRetN env S) P ↔ P.rt .non S := sk_retN
@[simp] theorem sok_ifS {c : ST} {s t : SS} {env : Env} {S : Store} {P : SPt} : Sok (sIfS c s t env S) P ↔ Rok (c env S) fun b S1 => (b = true → Sok (s env S1) P) ∧ (b = false → Sok (t env S1) P) := sk_ifS
@[simp] theorem sok_set {i : Nat} {s : SE} {env : Env} {S : Store} {P : SPt} : Sok (sSet i s env S) P ↔ Rok (s env S) fun d S1 => P.nx (env.set i (some d)) S1 := sk_set
@[simp] theorem sok_par {i j : Nat} {s : SA} {env : Env} {S : Store} {P : SPt} : Sok (sPar i j s env S) P ↔ Rok (s env S) fun ds S1 => on2 ds fun d e => P.nx ((env.set i (some d)).set j (some e)) S1 := sk_par
@[simp] theorem sok_par3 {i j l : Nat} {s : SA} {env : Env} {S : Store} {P : SPt} : Sok (sPar3 i j l s env S) P ↔ Rok (s env S) fun ds S1 => on3 ds fun d e f => P.nx (((env.set i (some d)).set j (some e)).set l (some f)) S1 := sk_par3
@[simp] theorem sok_asg {s : SE} {g : SG} {env : Env} {S : Store} {P : SPt} : Sok (sAsg s g env S) P ↔ Rok (s env S) fun d S1 => ∃ e, g d env S1 = some e ∧ P.nx e S1 := sk_asg
@[simp] theorem sok_setIx {se so si : SE} {env : Env} {S : Store} {P : SPt} : Sok (sSetIx se so si env S) P ↔ Rok (se env S) fun d S1 => Rok (so env S1) fun o S2 => Rok (si env S2) fun i S3 =>
    onRI o i fun n k => ∃ l, S3[n]? = some (.lst l) ∧ ∃ j, ixN l.length k = some j ∧ P.nx env (S3.set n (.lst (l.set j d))) := sk_setIx
@[simp] theorem rok_fI {g : Int → Int → Int} {i j : Int} {S : Store} {P : D → Store → Prop} : Rok (fI g (.int i) (.int j) S) P ↔ P (.int (g i j)) S := rk_fI
@[simp] theorem rok_fIB {g : Int → Int → Bool} {i j : Int} {S : Store} {P : D → Store → Prop} : Rok (fIB g (.int i) (.int j) S) P ↔ P (.bl (g i j)) S := rk_fIB
@[simp] theorem rok_fIC {C : Int → Int → Prop} {g : Int → Int → Int} {i j : Int} {S : Store} {P : D → Store → Prop} : Rok (fIC C g (.int i) (.int j) S) P ↔ C i j ∧ P (.int (g i j)) S := rk_fIC
@[simp] theorem rok_plusI {i j : Int} {S : Store} {P : D → Store → Prop} : Rok (fPlus (.int i) (.int j) S) P ↔ P (.int (i + j)) S := rk_plusI
@[simp] theorem rok_plusT {x y : List D} {S : Store} {P : D → Store → Prop} : Rok (fPlus (.tup x) (.tup y) S) P ↔ x.length + y.length ≤ sizeLine ∧ P (.tup (x ++ y)) S := rk_plusT
@[simp] theorem rok_plusL {m n : Nat} {S : Store} {P : D → Store → Prop} : Rok (fPlus (.ref m) (.ref n) S) P ↔ ∃ x y, lstOf S m = some x ∧ lstOf S n = some y ∧ x.length + y.length ≤ sizeLine ∧ P (.ref S.length) (S ++ [.lst (x ++ y)]) := rk_plusL
@[simp] theorem rok_neg {i : Int} {S : Store} {P : D → Store → Prop} : Rok (fNeg (.int i) S) P ↔ P (.int (-i)) S := rk_neg
@[simp] theorem rok_fnot {b : Bool} {S : Store} {P : D → Store → Prop} : Rok (fNot (.bl b) S) P ↔ P (.bl (!b)) S := rk_fnot
@[simp] theorem rok_isN {d : D} {S : Store} {P : D → Store → Prop} : Rok (fIsN d S) P ↔ P (.bl d.isNon) S := rk_isN
@[simp] theorem rok_notN {d : D} {S : Store} {P : D → Store → Prop} : Rok (fNotN d S) P ↔ P (.bl (!d.isNon)) S := rk_notN
@[simp] theorem rok_isB {a b : Bool} {S : Store} {P : D → Store → Prop} : Rok (fIsB (.bl a) (.bl b) S) P ↔ P (.bl (decide (a = b))) S := rk_isB
@[simp] theorem rok_notB {a b : Bool} {S : Store} {P : D → Store → Prop} : Rok (fNotB (.bl a) (.bl b) S) P ↔ P (.bl (!decide (a = b))) S := rk_notB
@[simp] theorem rok_ixT {l : List D} {i : Int} {S : Store} {P : D → Store → Prop} : Rok (fIx (.tup l) (.int i) S) P ↔ ∃ x, atI l i = some x ∧ P x S := rk_ixT
@[simp] theorem rok_ixL {n : Nat} {i : Int} {S : Store} {P : D → Store → Prop} : Rok (fIx (.ref n) (.int i) S) P ↔ ∃ l x, lstOf S n = some l ∧ atI l i = some x ∧ P x S := rk_ixL
@[simp] theorem rok_abs {i : Int} {S : Store} {P : D → Store → Prop} : Rok (fAbs [.int i] S) P ↔ P (.int (i.natAbs : Int)) S := rk_abs
@[simp] theorem rok_max2 {i j : Int} {S : Store} {P : D → Store → Prop} : Rok (fMax2 [.int i, .int j] S) P ↔ P (.int (max i j)) S := rk_max2
@[simp] theorem rok_min2 {i j : Int} {S : Store} {P : D → Store → Prop} : Rok (fMin2 [.int i, .int j] S) P ↔ P (.int (min i j)) S := rk_min2
@[simp] theorem rok_intI {i : Int} {S : Store} {P : D → Store → Prop} : Rok (fInt [.int i] S) P ↔ P (.int i) S := rk_intI
@[simp] theorem rok_intB {b : Bool} {S : Store} {P : D → Store → Prop} : Rok (fInt [.bl b] S) P ↔ P (.int (if b then 1 else 0)) S := rk_intB
@[simp] theorem rok_bits {i : Int} {S : Store} {P : D → Store → Prop} : Rok (fBits (.int i) S) P ↔ P (.int (Builtin.Int.intBits i : Nat)) S := rk_bits
@[simp] theorem rok_lenT {l : List D} {S : Store} {P : D → Store → Prop} : Rok (fLen [.tup l] S) P ↔ P (.int (l.length : Nat)) S := rk_lenT
@[simp] theorem rok_lenL {n : Nat} {S : Store} {P : D → Store → Prop} : Rok (fLen [.ref n] S) P ↔ ∃ l, lstOf S n = some l ∧ P (.int (l.length : Nat)) S := rk_lenL
@[simp] theorem rok_isi {c : Ty} {d : D} {S : Store} {P : D → Store → Prop} : Rok (fIsi c d S) P ↔ ∃ t, tyOf S d = some t ∧ P (.bl (t.isa c)) S := rk_isi
@[simp] theorem rok_isi2 {c c' : Ty} {d : D} {S : Store} {P : D → Store → Prop} : Rok (fIsi2 c c' d S) P ↔ ∃ t, tyOf S d = some t ∧ P (.bl (t.isa c || t.isa c')) S := rk_isi2
@[simp] theorem rok_eq {d e : D} {S : Store} {P : D → Store → Prop} : Rok (fEq d e S) P ↔ ∃ x y, toP S 60 d = some x ∧ toP S 60 e = some y ∧ P (.bl (PyData.eqv x y)) S := rk_eq
@[simp] theorem rok_ne {d e : D} {S : Store} {P : D → Store → Prop} : Rok (fNe d e S) P ↔ ∃ x y, toP S 60 d = some x ∧ toP S 60 e = some y ∧ P (.bl (!PyData.eqv x y)) S := rk_ne
@[simp] theorem rok_append {n : Nat} {y : D} {S : Store} {P : D → Store → Prop} : Rok (fAppend (.ref n) [y] S) P ↔ ∃ l, S[n]? = some (.lst l) ∧ l.length < sizeLine ∧ P .non (S.set n (.lst (l ++ [y]))) := rk_append
@[simp] theorem rok_methL {f : D → List D → Store → Res D} {so : SE} {sr : SA} {env : Env} {S : Store} {P : D → Store → Prop} : Rok (sMethL f so sr env S) P ↔ Rok (so env S) fun d S1 => isLst S1 d = true ∧ Rok (sr env S1) fun ds S2 => Rok (f d ds S2) P := rk_methL
@[simp] theorem rok_iterT {s : SE} {env : Env} {S : Store} {P : Wk → Store → Prop} : Rok (sIter s env S) P ↔ Rok (s env S) fun d S1 => Rok (fIter d S1) P := rk_iterT
@[simp] theorem rok_fIterT {l : List D} {S : Store} {P : Wk → Store → Prop} : Rok (fIter (.tup l) S) P ↔ P ⟨l, fun _ => True⟩ S := rk_fIterT
@[simp] theorem rok_fIterL {n : Nat} {S : Store} {P : Wk → Store → Prop} : Rok (fIter (.ref n) S) P ↔ ∃ l, lstOf S n = some l ∧ P ⟨l, fun S => lstOf S n = some l⟩ S := rk_fIterL
@[simp] theorem rok_rng {f : List D → Store → Res Wk} {s : SA} {env : Env} {S : Store} {P : Wk → Store → Prop} : Rok (sRng f s env S) P ↔ Rok (s env S) fun ds S1 => Rok (f ds S1) P := rk_rng
@[simp] theorem rok_rng1 {j : Int} {S : Store} {P : Wk → Store → Prop} : Rok (fRng1 [.int j] S) P ↔ (-(2 ^ 62) ≤ j ∧ j < 2 ^ 62) ∧ P ⟨rangeD 0 j.toNat, fun _ => True⟩ S := rk_rng1
theorem sok_for {si : SI} {g : SG} {b : SS} {env : Env} {S : Store} {P : SPt} : Sok (sFor si g b env S) P ↔ Rok (si env S) fun w S1 => Sok (forRun g b w.chk w.items env S1) P := sk_for
theorem sok_forRun {g : SG} {b : SS} {chk : Store → Prop} {P : SPt} (I : Nat → Env → Store → Prop) (items : List D) (hchk : ∀ i e S, I i e S → chk S)
    (turn : ∀ i d e S, items[i]? = some d → I i e S → ∃ e', g d e S = some e' ∧ Sok (b e' S) { nx := I (i + 1), rt := P.rt, bk := P.nx, ct := I (i + 1) })
    (hend : ∀ e S, I items.length e S → P.nx e S) (env : Env) (S : Store) (h0 : I 0 env S) : Sok (forRun g b chk items env S) P := sk_forRun I items hchk turn hend env S h0
theorem sok_while {c : ST} {b : SS} {P : SPt} (I : Env → Store → Prop) (μ : Env → Store → Nat)
    (turn : ∀ e S, I e S → Rok (c e S) fun k S1 => (k = true → Sok (b e S1) { nx := fun e2 S2 => I e2 S2 ∧ μ e2 S2 < μ e S, rt := P.rt, bk := P.nx, ct := fun e2 S2 => I e2 S2 ∧ μ e2 S2 < μ e S }) ∧ (k = false → P.nx e S1))
    (env : Env) (S : Store) (h0 : I env S) : Sok (sWhile c b env S) P := sk_while I μ turn env S h0
theorem rok_comp {si : SI} {g : SG} {t : ST} {e : SE} {vs : List Nat} {env : Env} {S : Store} {P : D → Store → Prop} : Rok (sComp si g t e vs env S) P ↔ Rok (si env S) fun w S1 => Rok (compRun g t e w.chk S1.length (wipeD env vs) w.items (S1 ++ [.lst []])) fun _ S2 => P (.ref S1.length) S2 := rk_comp
@[simp] theorem sok_forNil {g : SG} {b : SS} {chk : Store → Prop} {env : Env} {S : Store} {P : SPt} : Sok (forRun g b chk [] env S) P ↔ chk S ∧ P.nx env S := sk_forNil
@[simp] theorem sok_forCons {g : SG} {b : SS} {chk : Store → Prop} {d : D} {l : List D} {env : Env} {S : Store} {P : SPt} : Sok (forRun g b chk (d :: l) env S) P ↔ chk S ∧ ∃ e', g d env S = some e' ∧
    Sok (b e' S) { nx := fun e S1 => Sok (forRun g b chk l e S1) P, rt := P.rt, bk := P.nx, ct := fun e S1 => Sok (forRun g b chk l e S1) P } := sk_forCons
@[simp] theorem rok_compNil {g : SG} {t : ST} {e : SE} {chk : Store → Prop} {n0 : Nat} {env : Env} {S : Store} {P : Unit → Store → Prop} : Rok (compRun g t e chk n0 env [] S) P ↔ chk S ∧ P () S := rk_compNil
@[simp] theorem rok_compCons {g : SG} {t : ST} {e : SE} {chk : Store → Prop} {n0 : Nat} {env : Env} {d : D} {l : List D} {S : Store} {P : Unit → Store → Prop} : Rok (compRun g t e chk n0 env (d :: l) S) P ↔ chk S ∧ ∃ e', g d env S = some e' ∧
    Rok (t e' S) fun b S1 => (b = true → Rok (e e' S1) fun y S2 => ∃ acc, S2[n0]? = some (.lst acc) ∧ acc.length < sizeLine ∧ Rok (compRun g t e chk n0 env l (S2.set n0 (.lst (acc ++ [y])))) P) ∧ (b = false → Rok (compRun g t e chk n0 env l S1) P) := rk_compCons
@[simp] theorem rok_yes {env : Env} {S : Store} {P : Bool → Store → Prop} : Rok (sYes env S) P ↔ P true S := rk_yes
theorem comp_plain {g : SG} {t : ST} {e : SE} {chk : Store → Prop} {env : Env} {items : List D} {S : Store} {P : Unit → Store → Prop} (f : D → Option D)
    (step : ∀ d ∈ items, ∀ acc : List D, ∃ e', g d env (S ++ [.lst acc]) = some e' ∧ Rok (t e' (S ++ [.lst acc])) fun b S2 => S2 = S ++ [.lst acc] ∧ (b = true → Rok (e e' (S ++ [.lst acc])) fun y S3 => S3 = S ++ [.lst acc] ∧ f d = some y) ∧ (b = false → f d = none))
    (hchk : ∀ acc, chk (S ++ [.lst acc])) (hlen : items.length ≤ sizeLine) (hP : P () (S ++ [.lst (items.filterMap f)])) : Rok (compRun g t e chk S.length env items (S ++ [.lst []])) P := comp_plain0 f step hchk hlen hP
@[simp] theorem rok_all {n : Nat} {S : Store} {P : D → Store → Prop} : Rok (fAll [.ref n] S) P ↔ ∃ l bs, lstOf S n = some l ∧ boolsD l = some bs ∧ P (.bl (bs.all id)) S := rk_all
@[simp] theorem rok_any {n : Nat} {S : Store} {P : D → Store → Prop} : Rok (fAny [.ref n] S) P ↔ ∃ l bs, lstOf S n = some l ∧ boolsD l = some bs ∧ P (.bl (bs.any id)) S := rk_any
@[simp] theorem rok_sum {n : Nat} {S : Store} {P : D → Store → Prop} : Rok (fSum [.ref n] S) P ↔ ∃ l bs, lstOf S n = some l ∧ intsD l = some bs ∧ P (.int bs.sum) S := rk_sum
@[simp] theorem rok_tupleT {l : List D} {S : Store} {P : D → Store → Prop} : Rok (fTuple [.tup l] S) P ↔ P (.tup l) S := rk_tupleT
@[simp] theorem rok_tupleL {n : Nat} {S : Store} {P : D → Store → Prop} : Rok (fTuple [.ref n] S) P ↔ ∃ l, lstOf S n = some l ∧ P (.tup l) S := rk_tupleL
@[simp] theorem rok_listT {l : List D} {S : Store} {P : D → Store → Prop} : Rok (fList [.tup l] S) P ↔ P (.ref S.length) (S ++ [.lst l]) := rk_listT
@[simp] theorem rok_listL {n : Nat} {S : Store} {P : D → Store → Prop} : Rok (fList [.ref n] S) P ↔ ∃ l, lstOf S n = some l ∧ P (.ref S.length) (S ++ [.lst l]) := rk_listL
@[simp] theorem rok_zipL {n m : Nat} {S : Store} {P : Wk → Store → Prop} : Rok (fZip [.ref n, .ref m] S) P ↔ ∃ l k, lstOf S n = some l ∧ lstOf S m = some k ∧ P ⟨zipD l k, fun S => lstOf S n = some l ∧ lstOf S m = some k⟩ S := rk_zipL
@[simp] theorem rok_zipT {l k : List D} {S : Store} {P : Wk → Store → Prop} : Rok (fZip [.tup l, .tup k] S) P ↔ P ⟨zipD l k, fun _ => True⟩ S := rk_zipT
@[simp] theorem rok_rng2 {i j : Int} {S : Store} {P : Wk → Store → Prop} : Rok (fRng2 [.int i, .int j] S) P ↔ (-(2 ^ 62) ≤ i ∧ i < 2 ^ 62 ∧ -(2 ^ 62) ≤ j ∧ j < 2 ^ 62) ∧ P ⟨rangeD i (j - i).toNat, fun _ => True⟩ S := rk_rng2
@[simp] theorem rok_sl {s : SE} {lo hi : SO} {env : Env} {S : Store} {P : D → Store → Prop} : Rok (sSl s lo hi env S) P ↔ Rok (s env S) fun d S1 => Rok (lo env S1) fun l S2 => Rok (hi env S2) fun h S3 => Rok (fSl d l h S3) P := rk_sl
@[simp] theorem rok_noPart {env : Env} {S : Store} {P : Option Int → Store → Prop} : Rok (sNoPart env S) P ↔ P none S := rk_noPart
@[simp] theorem rok_part {s : SE} {env : Env} {S : Store} {P : Option Int → Store → Prop} : Rok (sPart s env S) P ↔ Rok (s env S) fun d S1 => onI d fun i => P (some i) S1 := rk_part
@[simp] theorem rok_slT {l : List D} {lo hi : Option Int} {S : Store} {P : D → Store → Prop} : Rok (fSl (.tup l) lo hi S) P ↔ P (.tup (cutL l lo hi)) S := rk_slT
@[simp] theorem rok_slL {n : Nat} {lo hi : Option Int} {S : Store} {P : D → Store → Prop} : Rok (fSl (.ref n) lo hi S) P ↔ ∃ l, lstOf S n = some l ∧ P (.ref S.length) (S ++ [.lst (cutL l lo hi)]) := rk_slL
@[simp] theorem rok_revT {s : SE} {env : Env} {S : Store} {P : Wk → Store → Prop} : Rok (sRev s env S) P ↔ Rok (s env S) fun d S1 => Rok (fRev d S1) P := rk_revT
@[simp] theorem rok_fRevT {l : List D} {S : Store} {P : Wk → Store → Prop} : Rok (fRev (.tup l) S) P ↔ P ⟨l.reverse, fun _ => True⟩ S := rk_fRevT
@[simp] theorem rok_fRevL {n : Nat} {S : Store} {P : Wk → Store → Prop} : Rok (fRev (.ref n) S) P ↔ ∃ l, lstOf S n = some l ∧ P ⟨l.reverse, fun S => lstOf S n = some l⟩ S := rk_fRevL
@[simp] theorem rok_revL {n : Nat} {S : Store} {P : D → Store → Prop} : Rok (fRevL (.ref n) S) P ↔ ∃ l, lstOf S n = some l ∧ P (.ref S.length) (S ++ [.lst l.reverse]) := rk_revL
@[simp] theorem rok_zipTL {l : List D} {m : Nat} {S : Store} {P : Wk → Store → Prop} : Rok (fZip [.tup l, .ref m] S) P ↔ ∃ k, lstOf S m = some k ∧ P ⟨zipD l k, fun S => lstOf S m = some k⟩ S := rk_zipTL
@[simp] theorem rok_enumT {l : List D} {S : Store} {P : Wk → Store → Prop} : Rok (fEnum [.tup l] S) P ↔ P ⟨enumD l, fun _ => True⟩ S := rk_enumT
@[simp] theorem rok_listRevT {l : List D} {S : Store} {P : D → Store → Prop} : Rok (fListRev (.tup l) S) P ↔ P (.ref S.length) (S ++ [.lst l.reverse]) := rk_listRevT
@[simp] theorem rok_listRevL {n : Nat} {S : Store} {P : D → Store → Prop} : Rok (fListRev (.ref n) S) P ↔ ∃ l, lstOf S n = some l ∧ P (.ref S.length) (S ++ [.lst l.reverse]) := rk_listRevL
@[simp] theorem rok_callD {m : Mf} {dv : List Int} {s : SA} {env : Env} {S : Store} {P : D → Store → Prop} : Rok (sCallD m dv s env S) P ↔ Rok (s env S) fun ds S1 => Rok (m (ds ++ dv.map D.int) S1) P := rk_callD
@[simp] theorem rok_revRng {s : SE} {env : Env} {S : Store} {P : Wk → Store → Prop} : Rok (sRevRng s env S) P ↔ Rok (s env S) fun d S1 => Rok (fRevRng1 [d] S1) P := rk_revRng
@[simp] theorem rok_revRng1 {j : Int} {S : Store} {P : Wk → Store → Prop} : Rok (fRevRng1 [.int j] S) P ↔ (-(2 ^ 62) ≤ j ∧ j < 2 ^ 62) ∧ P ⟨(rangeD 0 j.toNat).reverse, fun _ => True⟩ S := rk_revRng1
end Rg
namespace Rg
open PySem PySem.Spec PyProof.Rows L2
mutual
theorem key_is {X : Cx} {pins : List (Addr × Obj)} {σ : L2.St} {H : Hp} {s : Shared} {p : List Addr} (I : Inv X pins σ H s) : ∀ (d : D) (v : V) (u : Value) (k : NestedKey), RV X.K H p d v → RelV v u → keyD d = some k → NestedIs s.heap k u
  | .int i, v, u, k, r, ru, h => by
    rw [RV.int_iff] at r
    subst r
    obtain ⟨t, rfl⟩ := ru
    simp [keyD] at h
    subst h
    exact .int i t
  | .tup l, v, u, k, r, ru, h => by
    obtain ⟨a, xs, rfl, h1, h2⟩ := RV.tup_iff.mp r
    cases ru
    obtain ⟨its, rv, ⟨o, ho, hc, n, hd⟩, _⟩ := I.tuple h1
    simp only [keyD] at h
    cases e : keyD.keyDs l with
    | none => rw [e] at h; cases h
    | some ks =>
      rw [e] at h
      cases h
      exact .tup ho hc hd (keys_are I l xs its ks h2 rv e)
  | .non, _, _, _, _, _, h => by simp [keyD] at h
  | .bl _, _, _, _, _, _, h => by simp [keyD] at h
  | .str _, _, _, _, _, _, h => by simp [keyD] at h
  | .ref _, _, _, _, _, _, h => by simp [keyD] at h
theorem keys_are {X : Cx} {pins : List (Addr × Obj)} {σ : L2.St} {H : Hp} {s : Shared} {p : List Addr} (I : Inv X pins σ H s) : ∀ (l : List D) (vs : List V) (us : List Value) (ks : List NestedKey), RVs X.K H p l vs → Vals vs us → keyD.keyDs l = some ks → NestedAll s.heap ks us
  | [], vs, us, ks, r, ru, h => by
    rw [RVs.nil_iff] at r
    subst r
    cases ru
    simp [keyD.keyDs] at h
    subst h
    exact .nil
  | d :: l, vs, us, ks, r, ru, h => by
    obtain ⟨v, vs', rfl, r1, r2⟩ := RVs.cons_iff.mp r
    cases ru with
    | cons u1 u2 =>
      simp only [keyD.keyDs] at h
      cases e1 : keyD d with
      | none => rw [e1] at h; cases h
      | some k =>
        cases e2 : keyD.keyDs l with
        | none => rw [e1, e2] at h; cases h
        | some ks' =>
          rw [e1, e2] at h
          cases h
          exact .cons (key_is I d _ _ k r1 u1 e1) (keys_are I l _ _ ks' r2 u2 e2)
end
mutual
theorem key_hash : ∀ (d : D) (k : NestedKey), keyD d = some k → ∀ w w', k.hash w = k.hash w'
  | .int i, k, h, w, w' => by
    simp [keyD] at h
    subst h
    rfl
  | .tup l, k, h, w, w' => by
    simp only [keyD] at h
    cases e : keyD.keyDs l with
    | none => rw [e] at h; cases h
    | some ks =>
      rw [e] at h
      cases h
      show reduceHash (Builtin.Tuple.tupleHashOf (NestedKey.hashes w ks)) = reduceHash (Builtin.Tuple.tupleHashOf (NestedKey.hashes w' ks))
      rw [keys_hash l ks e w w']
  | .non, _, h, _, _ => by simp [keyD] at h
  | .bl _, _, h, _, _ => by simp [keyD] at h
  | .str _, _, h, _, _ => by simp [keyD] at h
  | .ref _, _, h, _, _ => by simp [keyD] at h
theorem keys_hash : ∀ (l : List D) (ks : List NestedKey), keyD.keyDs l = some ks → ∀ w w', NestedKey.hashes w ks = NestedKey.hashes w' ks
  | [], ks, h, w, w' => by
    simp [keyD.keyDs] at h
    subst h
    rfl
  | d :: l, ks, h, w, w' => by
    simp only [keyD.keyDs] at h
    cases e1 : keyD d with
    | none => rw [e1] at h; cases h
    | some k =>
      cases e2 : keyD.keyDs l with
      | none => rw [e1, e2] at h; cases h
      | some ks' =>
        rw [e1, e2] at h
        cases h
        show k.hash w :: NestedKey.hashes w ks' = k.hash w' :: NestedKey.hashes w' ks'
        rw [key_hash d k e1 w w', keys_hash l ks' e2 w w']
end
theorem hashN_eq {d : D} {k : NestedKey} (h : keyD d = some k) (w : World) : k.hash w = hashN k := by
  have hx : ∃ n, ∀ w, k.hash w = n := ⟨k.hash w, fun w' => key_hash d k h w' w⟩
  unfold hashN
  rw [dif_pos hx]
  exact hx.choose_spec w
section
variable {X : Cx} {pins : List (Addr × Obj)} {σ : L2.St} {H : Hp} {s : Shared} {p : List Addr} {a : Addr} {xs : List (NestedKey × Addr × Value)} {ks : List D}
theorem dn_of (I : Inv X pins σ H s) (h : H a = some (DNo a xs)) (r : RVs X.K H p ks (xs.map fun x => V.ref x.2.1)) (hk : ks.map keyD = xs.map fun x => some x.1) (hd : ∀ x ∈ xs, x.1.depth ≤ 8) :
    s.heap.DictOfH (nestedKind X.prog X.w) a xs ∧ xs.length ≤ sizeLine ∧ (a == sysModules) = false := by
  obtain ⟨⟨⟨o, es, ep, ho, hc, hda, he⟩, hn, hz, hs, hh⟩, _⟩ := I.hok a _ h
  refine ⟨⟨o, es, ep, ho, hc, hda, ?_, fun x hx => ⟨?_, hd x hx⟩, hn⟩, hz, hs⟩
  · rw [he]
    refine List.map_congr_left fun x hx => ?_
    show (⟨hashN x.1, .ref x.2.1, x.2.2⟩ : DictEntry) = ⟨x.1.hash X.w, .ref x.2.1, x.2.2⟩
    rw [hh x hx]
  · obtain ⟨i, hi⟩ := List.mem_iff_getElem?.mp hx
    have e1 : (ks.map keyD)[i]? = some (some x.1) := by rw [hk, List.getElem?_map, hi]; rfl
    rw [List.getElem?_map] at e1
    obtain ⟨d, hd1, hd2⟩ := Option.map_eq_some_iff.mp e1
    have e2 : (xs.map fun x => V.ref x.2.1)[i]? = some (.ref x.2.1) := by rw [List.getElem?_map, hi]; rfl
    obtain ⟨v, hv, rv⟩ := r.get hd1
    rw [e2] at hv
    cases hv
    exact key_is I d _ _ x.1 rv rfl hd2
theorem dn_new {h' : Heap} {H' : Hp} (hm : h'.DictOfH (nestedKind X.prog X.w) a xs) (hz : xs.length ≤ sizeLine) (hs : (a == sysModules) = false) (hh : ∀ x ∈ xs, ∀ w, x.1.hash w = hashN x.1) : ObjOk X.prog X.w H' h' a (DNo a xs) := by
  obtain ⟨o, es, ep, ho, hc, hda, he, _, hn⟩ := hm
  refine ⟨⟨⟨o, es, ep, ho, hc, hda, ?_⟩, hn, hz, hs, hh⟩, ⟨o, ho⟩, ?_⟩
  · rw [he]
    refine List.map_congr_left fun x hx => ?_
    show (⟨x.1.hash X.w, .ref x.2.1, x.2.2⟩ : DictEntry) = ⟨hashN x.1, .ref x.2.1, x.2.2⟩
    rw [hh x hx]
  · rintro h1 h2 ⟨⟨o, es, ep, q1, q2⟩, q3⟩ k
    exact ⟨⟨o, es, ep, k o q1, q2⟩, q3⟩
def okK (d : D) : Bool := match d with
  | .tup _ => match keyD d with
    | some k => decide (k.depth ≤ 8)
    | none => false
  | _ => false
theorem okK_ok {d : D} (h : okK d = true) : ∃ l k, d = .tup l ∧ keyD d = some k ∧ k.depth ≤ 8 := by
  unfold okK at h
  split at h
  · rename_i l
    split at h
    · rename_i k hk
      exact ⟨l, k, rfl, hk, by simpa using h⟩
    · cases h
  · cases h
structure DnAt (K : PySem.W.Frag) (H : Hp) (p : List Addr) (a : Addr) (ks : List D) (xs : List (NestedKey × Addr × Value)) : Prop where
  at_ : H a = some (DNo a xs)
  rv : RVs K H p ks (xs.map fun x => V.ref x.2.1)
  key : ks.map keyD = xs.map fun x => some x.1
  ok : ∀ d ∈ ks, okK d = true
theorem DnAt.dep {K : PySem.W.Frag} (h : DnAt K H p a ks xs) : ∀ x ∈ xs, x.1.depth ≤ 8 := fun x hx => by
  obtain ⟨i, hi⟩ := List.mem_iff_getElem?.mp hx
  have e1 : (ks.map keyD)[i]? = some (some x.1) := by rw [h.key, List.getElem?_map, hi]; rfl
  rw [List.getElem?_map] at e1
  obtain ⟨d, hd1, hd2⟩ := Option.map_eq_some_iff.mp e1
  obtain ⟨l, k, _, hk, hdep⟩ := okK_ok (h.ok d (List.mem_of_getElem? hd1))
  rw [hd2] at hk
  cases hk
  exact hdep
theorem DnAt.of (I : Inv X pins σ H s) (h : DnAt X.K H p a ks xs) : s.heap.DictOfH (nestedKind X.prog X.w) a xs ∧ xs.length ≤ sizeLine ∧ (a == sysModules) = false := dn_of I h.at_ h.rv h.key h.dep
theorem atKey_mem {k : NestedKey} : (atKey xs k).isSome = xs.any fun x => decide (x.1 = k) := by
  unfold atKey
  rw [Option.isSome_map, Bool.eq_iff_iff, List.find?_isSome]
  simp [List.any_eq_true]
def hasK (ks : List D) (d : D) : Bool := (ks.map keyD).any fun k => decide (k = keyD d)
theorem hasK_eq {k : NestedKey} {d : D} (hk : keyD d = some k) (h : ks.map keyD = xs.map fun x => some x.1) : hasK ks d = (atKey xs k).isSome := by
  unfold hasK
  rw [h, atKey_mem, hk, List.any_map]
  congr 1
  funext x
  simp [Function.comp]
end
section
variable {X : Cx} {G : Gx} {e a b c o : Expr} {pos : Pos} {sa sb so : SE} {st : ST} {es : List Expr} {sr : SA}
theorem stored_len {xs : List (NestedKey × Addr × Value)} {k : NestedKey} {b : Addr} {v : Value} : (storedH xs k b v).length ≤ xs.length + 1 := by
  unfold storedH
  split <;> simp
theorem stored_mem {xs : List (NestedKey × Addr × Value)} {k : NestedKey} {b : Addr} {v : Value} {x : NestedKey × Addr × Value} (h : x ∈ storedH xs k b v) : x.1 = k ∨ ∃ y ∈ xs, y.1 = x.1 := by
  unfold storedH at h
  split at h
  · obtain ⟨y, hy, rfl⟩ := List.mem_map.mp h
    refine .inr ⟨y, hy, ?_⟩
    unfold putAt
    split <;> rfl
  · rcases List.mem_append.mp h with h | h
    · exact .inr ⟨x, h, rfl⟩
    · rw [List.mem_singleton.mp h]
      exact .inl rfl
theorem RVs.snoc1 {K : PySem.W.Frag} {H : Hp} {p : List Addr} {l : List D} {xs : List V} {d : D} {v : V} (h : RVs K H p l xs) (r : RV K H p d v) : RVs K H p (l ++ [d]) (xs ++ [v]) := by
  induction l generalizing xs with
  | nil =>
    rw [RVs.nil_iff] at h
    subst h
    exact .cons r .nil
  | cons e l ih =>
    obtain ⟨x, xs', rfl, h1, h2⟩ := RVs.cons_iff.mp h
    exact .cons h1 (ih h2)
end
end Rg
namespace Rg
open PySem PySem.Spec PyProof.Rows L2
section
variable {X : Cx} {pins : List (Addr × Obj)} {σ : L2.St} {H : Hp} {s : Shared} {p : List Addr} {a : Addr} {xs : List (NestedKey × Addr × Value)} {ks : List D} {vs : List Int}
structure DmAt (K : PySem.W.Frag) (H : Hp) (p : List Addr) (a : Addr) (ks : List D) (vs : List Int) (xs : List (NestedKey × Addr × Value)) : Prop where
  at_ : Rd H a (DNo a xs)
  rv : RVs K H p ks (xs.map fun x => V.ref x.2.1)
  key : ks.map keyD = xs.map fun x => some x.1
  val : (xs.map fun x => valI x.2.2) = vs.map some
  ok : ∀ d ∈ ks, okK d = true
theorem deps {ks : List D} {xs : List (NestedKey × Addr × Value)} (hk : ks.map keyD = xs.map fun x => some x.1) (ok : ∀ d ∈ ks, okK d = true) : ∀ x ∈ xs, x.1.depth ≤ 8 := fun x hx => by
  obtain ⟨i, hi⟩ := List.mem_iff_getElem?.mp hx
  have e1 : (ks.map keyD)[i]? = some (some x.1) := by rw [hk, List.getElem?_map, hi]; rfl
  rw [List.getElem?_map] at e1
  obtain ⟨d, hd1, hd2⟩ := Option.map_eq_some_iff.mp e1
  obtain ⟨l, k, _, hk, hdep⟩ := okK_ok (ok d (List.mem_of_getElem? hd1))
  rw [hd2] at hk
  cases hk
  exact hdep
theorem dn_raw (I : Inv X pins σ H s) (h : Rd H a (DNo a xs)) :
    (∃ o es ep, s.heap.get? a = some o ∧ o.ExactDict ∧ o.data = .dict es ep ∧ es.toList = xs.map fun x => (⟨hashN x.1, .ref x.2.1, x.2.2⟩ : DictEntry)) ∧ (xs.map (·.1)).Nodup ∧ xs.length ≤ sizeLine ∧ (a == sysModules) = false ∧ ∀ x ∈ xs, ∀ w, x.1.hash w = hashN x.1 := (h.ok I.hok).1
theorem dn_ofR (I : Inv X pins σ H s) (h : Rd H a (DNo a xs)) (r : RVs X.K H p ks (xs.map fun x => V.ref x.2.1)) (hk : ks.map keyD = xs.map fun x => some x.1) (hd : ∀ x ∈ xs, x.1.depth ≤ 8) :
    s.heap.DictOfH (nestedKind X.prog X.w) a xs ∧ xs.length ≤ sizeLine ∧ (a == sysModules) = false := by
  obtain ⟨⟨o, es, ep, ho, hc, hda, he⟩, hn, hz, hs, hh⟩ := dn_raw I h
  refine ⟨⟨o, es, ep, ho, hc, hda, ?_, fun x hx => ⟨?_, hd x hx⟩, hn⟩, hz, hs⟩
  · rw [he]
    refine List.map_congr_left fun x hx => ?_
    show (⟨hashN x.1, .ref x.2.1, x.2.2⟩ : DictEntry) = ⟨x.1.hash X.w, .ref x.2.1, x.2.2⟩
    rw [hh x hx]
  · obtain ⟨i, hi⟩ := List.mem_iff_getElem?.mp hx
    have e1 : (ks.map keyD)[i]? = some (some x.1) := by rw [hk, List.getElem?_map, hi]; rfl
    rw [List.getElem?_map] at e1
    obtain ⟨d, hd1, hd2⟩ := Option.map_eq_some_iff.mp e1
    have e2 : (xs.map fun x => V.ref x.2.1)[i]? = some (.ref x.2.1) := by rw [List.getElem?_map, hi]; rfl
    obtain ⟨v, hv, rv⟩ := r.get hd1
    rw [e2] at hv
    cases hv
    exact key_is I d _ _ x.1 rv rfl hd2
theorem DmAt.of (I : Inv X pins σ H s) (h : DmAt X.K H p a ks vs xs) : s.heap.DictOfH (nestedKind X.prog X.w) a xs ∧ xs.length ≤ sizeLine ∧ (a == sysModules) = false := dn_ofR I h.at_ h.rv h.key (deps h.key h.ok)
theorem rc_dm {K : PySem.W.Frag} {H : Hp} (h : RC K H p a (.dm ks vs)) (ok : ∀ d ∈ ks, okK d = true) : ∃ xs, H a = some (DNo a xs) ∧ DmAt K H p a ks vs xs := by
  obtain ⟨xs, h1, h2, h3, h4⟩ := h
  exact ⟨xs, h1, .inl h1, h2, h3, h4, ok⟩
theorem rc_df {K : PySem.W.Frag} {H : Hp} (h : RC K H p a (.df ks vs)) (ok : ∀ d ∈ ks, okK d = true) : ∃ xs, DmAt K H p a ks vs xs := by
  obtain ⟨xs, ⟨od, h1⟩, h2, h3, h4⟩ := h
  exact ⟨xs, .inr ⟨od, h1⟩, h2, h3, h4, ok⟩
def getN : List D → List Int → D → Option Int
  | k :: ks, v :: vs, d => if keyD k = keyD d then some v else getN ks vs d
  | _, _, _ => none
theorem getN_eq {d : D} {k : NestedKey} {i : Int} (hk : keyD d = some k) : ∀ {ks : List D} {vs : List Int} {xs : List (NestedKey × Addr × Value)}, (ks.map keyD = xs.map fun x => some x.1) → (xs.map fun x => valI x.2.2) = vs.map some → getN ks vs d = some i →
    ∃ q, atKey xs k = some q ∧ valI q.2 = some i
  | [], _, _, _, _, h => by unfold getN at h; cases h
  | _ :: _, [], _, _, _, h => by unfold getN at h; cases h
  | k0 :: ks, v :: vs, [], h1, _, _ => by cases h1
  | k0 :: ks, v :: vs, x :: xs, h1, h2, h => by
    simp only [List.map_cons, List.cons.injEq] at h1 h2
    unfold getN at h
    unfold atKey
    rw [List.find?_cons]
    by_cases c : x.1 = k
    · have e : (x.1 == k) = true := by simpa using c
      rw [if_pos (by rw [h1.1, hk, c])] at h
      cases h
      simp only [c, decide_true, Option.map_some]
      exact ⟨x.2, rfl, h2.1⟩
    · rw [if_neg (by rw [h1.1, hk]; exact fun z => c (Option.some.inj z))] at h
      simp only [c, decide_false]
      have := getN_eq hk h1.2 h2.2 h
      unfold atKey at this
      exact this
end
section
variable {X : Cx} {G : Gx} {e a b c o tg : Expr} {pos : Pos} {sa sb so : SE} {st : ST} {es : List Expr} {sr : SA}
def rNinM (K : PySem.W.Frag) : R2 := fun x y H Q => ∃ (p : List Addr) (a : Addr) (ks : List D) (vs : List Int) (xs : List (NestedKey × Addr × Value)) (d : D), DmAt K H p a ks vs xs ∧ RV K H p d x ∧ okK d = true ∧ y = .ref a ∧ Q (.bl (!hasK ks d)) H
theorem op_ninM (hu : X.A.units + 65 < cLine) : OpR X (compareOp .NotIn) (rNinM X.K) := by
  intro pins s σ H x y v u Q I rx ry h
  obtain ⟨p, a, ks, vs, xs, d, hd, rd, ok, rfl, q⟩ := h
  obtain ⟨hm, hz, hs⟩ := hd.of I
  obtain ⟨l, k, rfl, hk, hdep⟩ := okK_ok ok
  obtain ⟨b, ys, rfl, _, _⟩ := RV.tup_iff.mp rd
  have hkey := key_is I _ _ _ k rd rx hk
  cases rx
  cases ry
  refine wpAny_notIn_heap (knd := nestedKind X.prog X.w) (k := k) (by show X.A.units + 1 + 8 < cLine; omega) ⟨hkey, hdep⟩ hs hm ?_
  rw [← hasK_eq hk hd.key]
  exact ⟨.bl _, H, I.tok _, rfl, q⟩
def fNinM : D → D → Store → Res D := fun d e S => match e with
  | .ref n => match S[n]? with
    | some (.dm ks _) => if okK d = true ∧ (∀ k ∈ ks, okK k = true) then .ok (.bl (!hasK ks d)) S else .bad
    | _ => .bad
  | _ => .bad
theorem rf_ninM {K : PySem.W.Frag} : RfO K (rNinM K) fNinM := by
  intro G σ H p S d e x y Q rst rx ry h
  unfold fNinM at h
  split at h
  · rename_i n
    split at h
    · rename_i ks vs hn
      split at h
      · rename_i hok
        obtain ⟨a, rfl, ea⟩ := RV.ref_iff.mp ry
        obtain ⟨xs, _, hd⟩ := rc_dm (rst.cell n _ a hn ea) hok.2
        exact ⟨p, a, ks, vs, xs, d, hd, rx, hok.1, rfl, h H p .refl rst _ (RV.bl_iff.mpr rfl)⟩
      · exact h.elim
    · exact h.elim
  · exact h.elim
theorem mt_ninM {k : Nat} (hr : Room (k + 1) X.A) (ha : ME X G a sa) (hb : ME X G b sb) (hm : behindInMarks .NotIn b = false := by rfl) : MT X G (.Compare a [.NotIn] [b] pos) (sT (s2 fNinM sa sb)) := mt_cmp (op_ninM (room65 hr)) rf_ninM ha hb hm
def rGetM (K : PySem.W.Frag) : R2 := fun x y H Q => ∃ (p : List Addr) (a : Addr) (ks : List D) (vs : List Int) (xs : List (NestedKey × Addr × Value)) (d : D) (i : Int), DmAt K H p a ks vs xs ∧ RV K H p d y ∧ okK d = true ∧ getN ks vs d = some i ∧ x = .ref a ∧ Q (.int i) H
theorem ix_dm (hu : X.A.units + 65 < cLine) : IxR X (rGetM X.K) := by
  intro value slice pins s σ H x y v u Q I rx ry h hs
  obtain ⟨p, a, ks, vs, xs, d, i, hd, rd, ok, hg, rfl, q⟩ := h
  obtain ⟨hm, hz, hsy⟩ := hd.of I
  obtain ⟨l, k, rfl, hk, hdep⟩ := okK_ok ok
  obtain ⟨b, ys, rfl, _, _⟩ := RV.tup_iff.mp rd
  have hkey := key_is I _ _ _ k rd ry hk
  obtain ⟨w, hw, hv⟩ := getN_eq hk hd.key hd.val hg
  cases rx
  cases ry
  have rv : RelV (.int i) w.2 := by
    unfold valI at hv
    split at hv
    · rename_i j t e
      cases hv
      exact ⟨t, e⟩
    · cases hv
  refine tail_any hm.typeIs slot_dict_getitem.lookup (wpAny_getItem_heap (knd := nestedKind X.prog X.w) (k := k) (by show X.A.units + 1 + 8 < cLine; omega) ⟨hkey, hdep⟩ hm hw ?_) hs
  exact ⟨.int i, H, I.tok _, rv, q⟩
def fGetM : D → D → Store → Res D := fun e d S => match e with
  | .ref n => match S[n]? with
    | some (.df ks vs) => if okK d = true ∧ (∀ k ∈ ks, okK k = true) then match getN ks vs d with
      | some i => .ok (.int i) S
      | none => .bad
      else .bad
    | _ => .bad
  | _ => .bad
theorem rf_getM {K : PySem.W.Frag} : RfO K (rGetM K) fGetM := by
  intro G σ H p S e d x y Q rst rx ry h
  unfold fGetM at h
  split at h
  · rename_i n
    split at h
    · rename_i ks vs hn
      split at h
      · rename_i hok
        split at h
        · rename_i i hi
          obtain ⟨a, rfl, ea⟩ := RV.ref_iff.mp rx
          obtain ⟨xs, hd⟩ := rc_df (rst.cell n _ a hn ea) hok.2
          exact ⟨p, a, ks, vs, xs, d, i, hd, ry, hok.1, hi, rfl, h H p .refl rst _ (RV.int_iff.mpr rfl)⟩
        · exact h.elim
      · exact h.elim
    · exact h.elim
  · exact h.elim
theorem me_getM {k : Nat} (hr : Room (k + 1) X.A) (ha : ME X G a sa) (hb : ME X G b sb) (hs : PlainIx b := by intro _ _; rfl) : ME X G (.Subscript a b pos) (s2 fGetM sa sb) := me_ix (ix_dm (room65 hr)) rf_getM ha hb hs
end
def Itn (a : Addr) (od : Obj) (xs : List (NestedKey × Addr × Value)) : It :=
  ⟨fun i H => H a = some (.frz od (DNo a xs)) ∧ i < xs.length, fun i H x H' => H' = H ∧ ∃ y, xs[i]? = some y ∧ x = .ref y.2.1, fun i H => H a = some (.frz od (DNo a xs)) ∧ xs.length ≤ i⟩
section
variable {X : Cx} {pins : List (Addr × Obj)} {σ : L2.St} {H : Hp} {s : Shared} {a : Addr} {xs : List (NestedKey × Addr × Value)} {od : Obj}
theorem dn_frz (I : Inv X pins σ H s) (h : H a = some (.frz od (DNo a xs))) : (a == sysModules) = false ∧ s.heap.get? a = some od ∧ od.ExactDict ∧ ∃ es ep, od.data = .dict es ep ∧ es.size = xs.length ∧ ∀ (i : Nat) y, xs[i]? = some y → es[i]? = some ⟨hashN y.1, .ref y.2.1, y.2.2⟩ := by
  obtain ⟨hg, hx⟩ := I.hok a _ h
  obtain ⟨⟨o, es, ep, ho, hc, hda, he⟩, _, _, hs, _⟩ := hx.1
  rw [hg] at ho
  cases ho
  refine ⟨hs, hg, hc, es, ep, hda, ?_, fun i y hy => ?_⟩
  · have := congrArg List.length he
    simpa using this
  · rw [← Array.getElem?_toList, he, List.getElem?_map, hy]
    rfl
theorem turn_dn {P : Program} {w : World} {K : PySem.W.Frag} {tg : Expr} {es : Array DictEntry} {ep : Nat} (it : Addr) (hod : od.data = .dict es ep) : Turn P w K tg (Itn a od xs) [it] it (fun i h => h.IsKeyIter it a i xs.length ep) where
  mem := by simp
  obj := fun i h st b hb => by
    have e : b = it := by simpa using hb
    subst e
    obtain ⟨oi, e, c, dd⟩ := st
    exact ⟨oi, e, fun v z => by rw [dd] at z; cases z⟩
  keep := fun i h h' st k => st.at fun oi e => k it (by simp) oi e
  item := by
    intro X hP hw hK hc i pins s σ H E I hf st hg
    subst hP hw hK
    obtain ⟨hd, hi⟩ := hg
    obtain ⟨f0, f1, f2, f3, f4, f5⟩ := hf it (by simp)
    obtain ⟨hs, hgd, hx, es', ep', hdt, hsz, ent⟩ := dn_frz I hd
    obtain ⟨rfl, rfl⟩ := dict_ep hod hdt
    obtain ⟨y, hy⟩ : ∃ y, xs[i]? = some y := ⟨xs[i], List.getElem?_eq_getElem hi⟩
    refine next_key_item st hgd hdt hsz (ent i y hy) fun h' st' sb => ?_
    have I1 : Inv X pins σ H { s with heap := h' } := I.turned (t' := s.toks) (fun b ob hb e => (sb.2 b hb).trans e) f0 f1 f3 f4 f5
    obtain ⟨oi, e, c, dd⟩ := id st'
    exact ⟨.ref y.2.1, rfl, go_of (s := { s with heap := h' }) e c dd (by decide) ⟨.ref y.2.1, H, I1, rfl, ⟨rfl, y, hy, rfl⟩, st', fun b hb => (hf b hb).1⟩⟩
  done := by
    intro X hP hw hK hc i pins s σ H E I hf st hg
    subst hP hw hK
    obtain ⟨hd, hi⟩ := hg
    obtain ⟨f0, f1, f2, f3, f4, f5⟩ := hf it (by simp)
    obtain ⟨hs, hgd, hx, es', ep', hdt, hsz, ent⟩ := dn_frz I hd
    obtain ⟨rfl, rfl⟩ := dict_ep hod hdt
    exact next_key_end (I.ok.hd hc) st hgd hdt hsz hi fun h' eb => ⟨rfl, I.turned (t' := s.toks) (fun b ob hb e => eb b ob hb e) f0 f1 f3 f4 f5⟩
  self := fun A i s Q E st h => wpAny_pyIter_keyiter st h
end
section
variable {X : Cx} {G : Gx} {e tg : Expr} {sa : SE}
def iDm (td : TE) : TI := fun σ H R => td σ H fun x H1 => ∃ a xs, x = .ref a ∧ H1 a = some (DNo a xs) ∧ ((∀ cls, DNo a xs ≠ exO a cls none) → ∀ od, R (Itn a od xs) (upd H1 a (.frz od (DNo a xs))))
theorem dn_nx {pins : List (Addr × Obj)} {σ : L2.St} {H : Hp} {s : Shared} {a : Addr} {xs : List (NestedKey × Addr × Value)} (I : Inv X pins σ H s) (h : H a = some (DNo a xs)) : ∀ cls, DNo a xs ≠ exO a cls none := fun cls z => by
  obtain ⟨⟨⟨oo, es, ep, ho, hc, hda, he⟩, hn, hz', hs', hh⟩, _⟩ := I.hok a _ h
  have e : (exO a cls none) = DNo a xs := z.symm
  unfold exO DNo at e
  have e2 := congrArg (fun z : HO => match z with | .ext φ => φ s.heap | _ => False) e
  have e3 : (∃ oe : Obj, s.heap.get? a = some oe ∧ Zc cls none oe ∧ ∃ vs, oe.data = .fields vs) := by
    refine (show _ = _ from e2).mpr ⟨⟨oo, es, ep, ho, hc, hda, he⟩, hn, hz', hs', hh⟩
  obtain ⟨oe, h1, _, vs, h2⟩ := e3
  rw [ho] at h1
  cases h1
  rw [hda] at h2
  cases h2
theorem pi_dm {td : TE} (he : PE X e td) : PI X tg e (iDm td) := by
  refine ⟨fun pins s σ H R I h => ?_⟩
  refine thn (he.run pins s σ H _ I h) fun u s1 ⟨x, H1, I1, rx, a, xs, ex, hd, q⟩ => ?_
  subst ex
  obtain rfl : u = Value.ref a := rx
  obtain ⟨od, I2⟩ := I1.lock hd True.intro
  obtain ⟨hs, hgd, hx, es, ep, hdt, hsz, ent⟩ := dn_frz I2 upd_same
  refine iter_keys hs hgd hx hdt (pi_one (tk := s1.toks) I2 _ (turn_dn _ hdt) ⟨_, Heap.get?_push_size _ rfl, rfl, ?_⟩ (q (dn_nx I1 hd) od))
  rw [hsz] <;> rfl
def sIterM (s : SE) : SI := fun env S => (s env S).bind fun d S1 => match d with
  | .ref n => match S1[n]? with
    | some (.dm ks vs) => if ∀ k ∈ ks, okK k = true then .ok ⟨ks, fun _ => True⟩ (S1.set n (.df ks vs)) else .bad
    | _ => .bad
  | _ => .bad
theorem lock_dm {K : PySem.W.Frag} {H : Hp} {p : List Addr} {S : Store} {n : Nat} {a : Addr} {ks : List D} {vs : List Int} (R : RSt K H p S) (hS : S[n]? = some (.dm ks vs)) (hp : p[n]? = some a) :
    ∃ xs, H a = some (DNo a xs) ∧ RVs K H p ks (xs.map fun x => V.ref x.2.1) ∧ ∀ od, (∀ cls, DNo a xs ≠ exO a cls none) → Ext K H (upd H a (.frz od (DNo a xs))) p p ∧ RSt K (upd H a (.frz od (DNo a xs))) p (S.set n (.df ks vs)) := by
  obtain ⟨xs, h1, h2, h3, h4⟩ := R.cell n _ a hS hp
  refine ⟨xs, h1, h2, fun od nx => ?_⟩
  have ne : ∀ b ob u, H b = some (.frz ob u) → b ≠ a := fun b ob u h z => by
    subst z
    rw [h1] at h
    unfold DNo at h
    cases h
  have E : Ext K H (upd H a (.frz od (DNo a xs))) p p := by
    refine ⟨fun _ _ h => h, fun b ys h => ?_, fun b ob u h => by rw [upd_ne (ne b ob u h)]; exact h⟩
    rcases h with (h | ⟨ob, h⟩) | h
    · have hb : b ≠ a := fun z => by
        subst z
        rw [h1] at h
        unfold DNo at h
        cases h
      exact .inl (.inl (by rw [upd_ne hb]; exact h))
    · exact .inl (.inr ⟨ob, by rw [upd_ne (ne b ob _ h)]; exact h⟩)
    · exact .inr h
  exact R.writeX (c := .df ks vs) hS rfl hp ⟨xs, ⟨od, upd_same⟩, RVs.mono E _ _ h2, h3, h4⟩ h1 (fun _ z => by unfold DNo at z; cases z) (fun _ _ z => by unfold DNo at z; cases z) (fun _ z => by unfold DNo at z; cases z) nx
theorem mi_dm (ha : ME X G e sa) : MI X G tg e (sIterM sa) := fun ok => pi_imp (pi_dm (ha ok)) fun σ H R h => by
  obtain ⟨p, env, S, rs, rst, g⟩ := h
  refine one rs rst g fun H1 p1 S1 d x _ rs1 r1 rx g1 => ?_
  split at g1
  · rename_i n
    split at g1
    · rename_i ks vs hn
      split at g1
      · rename_i hok
        obtain ⟨a, rfl, ea⟩ := RV.ref_iff.mp rx
        obtain ⟨xs, h1, h2, lk⟩ := lock_dm r1 hn ea
        refine ⟨a, xs, rfl, h1, fun nx od => ?_⟩
        obtain ⟨E, R'⟩ := lk od nx
        refine g1 _ _ E R' _ ⟨fun i H hi q => ?_, fun H q => ?_, fun i H x H' hi q y p S e R hc => ?_⟩
        · obtain ⟨p, S, e, R, hc⟩ := q
          exact ⟨e.frz _ _ _ upd_same, by have := h2.len; simp at this; rw [← this]; exact hi⟩
        · obtain ⟨p, S, e, R, hc⟩ := q
          exact ⟨e.frz _ _ _ upd_same, by have := h2.len; simp at this; rw [← this]; exact Nat.le_refl _⟩
        · obtain ⟨rfl, y, hy, rfl⟩ := y
          obtain ⟨d, hd, rd⟩ := (RVs.mono E _ _ h2).get' (i := i) (x := .ref y.2.1) (by rw [List.getElem?_map, hy]; rfl)
          exact ⟨d, hd, .refl, R, RV.mono e _ _ rd⟩
      · exact g1.elim
    · exact g1.elim
  · exact g1.elim
end
mutual
theorem reads_there {h : Heap} : ∀ {v : Value} {d : PyData} {as : List Addr}, Reads h v d as → ∀ a ∈ as, ∃ o, h.get? a = some o
  | _, _, _, .none => fun _ z => by cases z
  | _, _, _, .bool _ => fun _ z => by cases z
  | _, _, _, .int _ _ => fun _ z => by cases z
  | _, _, _, .str _ _ => fun _ z => by cases z
  | _, _, _, .list h1 h2 h3 h4 => fun b z => by
    rcases List.mem_cons.mp z with rfl | z
    · exact ⟨_, h1⟩
    · exact readsAll_there h4 b z
  | _, _, _, .tuple h1 h2 h3 h4 => fun b z => readsAll_there h4 b z
  | _, _, _, .dict h1 h2 h3 h4 h5 => fun b z => by
    rcases List.mem_append.mp z with z | z
    · rcases List.mem_cons.mp z with rfl | z
      · exact ⟨_, h1⟩
      · exact readsAll_there h4 b z
    · exact readsAll_there h5 b z
theorem readsAll_there {h : Heap} : ∀ {vs : List Value} {ds : List PyData} {as : List Addr}, ReadsAll h vs ds as → ∀ a ∈ as, ∃ o, h.get? a = some o
  | _, _, _, .nil => fun _ z => by cases z
  | _, _, _, .cons h1 h2 => fun b z => by
    rcases List.mem_append.mp z with z | z
    · exact reads_there h1 b z
    · exact readsAll_there h2 b z
end
section
open PySem.Calls PyProof.V PySem.W
variable {X : Cx} {G : Gx} {e tg : Expr} {sa : SE} {pos : Pos} {es : List Expr} {sr : SA}
theorem sorted_raw {prog : Program} {w : World} {A : Around} {E : Value → Shared → Prop} {s : Shared} {d : Addr} {o : Obj} {es : Array DictEntry} {ep : Nat} {β : Type} {bs : List β} {enc : β → PyData} {R : Value → β → Prop} {Q : Value → Shared → Prop} (hh : A.handled = none) (lo : (d == sysModules) = false) (ho : s.heap.get? d = some o) (hx : o.ExactDict) (hd : o.data = .dict es ep) (hn : es.size ≤ sizeLine)
    (hal : PySem.W.AllAlike (bs.map enc)) (hk : PySem.W.Sortable (bs.map enc)) (hu : ∀ b, b ∈ bs → A.units + 2 + (enc b).depth < cLine)
    (e : PySem.W.EachIs R (es.toList.map (·.key)) bs) (er : PySem.W.EachIs (fun v b => ∃ as, Reads s.heap v (enc b) as) (es.toList.map (·.key)) bs)
    (h : ∀ (D : Addr) (out : List Value) (c : Nat) (h' : Heap) (tk : Nat), s.heap.get? D = none → (∀ b o, s.heap.get? b = some o → h'.get? b = some o) → h'.get? D = some { cls := .type "list", data := .seq out.toArray c } → out.length = bs.length → PySem.W.EachIs R out (bs.mergeSort (PySem.W.dataLe false enc)) → Q (.ref D) { s with heap := h', toks := tk }) :
    wpAny (model prog w) A (call (.builtin "sorted") [.ref d]) Q E s := by
  refine call_function_entry kind_sorted plain_sorted entry_sorted (args_sorted1 _) ?_
  unfold Builtin.«sorted»
  refine wpAny_bind (m := checkCount "sorted" 1 1 _) (wpAny_pure ?_)
  refine wpAny_bind (PySem.W.kdu_collect (A := A.in1) (kdl_raw lo hx hd) hh ho hn fun h' tk acc hk' hacc => ?_)
  have hl : acc.toList.length = es.size := by rw [Array.length_toList]; exact hacc.1
  have hv : ∀ (j : Nat) (v : Value), acc.toList[j]? = some v → ∃ en : DictEntry, es[j]? = some en ∧ v = en.key := fun j v e => hacc.2 j v (by rw [← Array.getElem?_toList]; exact e)
  have ev : acc.toList = es.toList.map (·.key) := by
    apply List.ext_getElem?
    intro j
    rw [List.getElem?_map, Array.getElem?_toList (xs := es)]
    cases hj : acc.toList[j]? with
    | none =>
      have h1 := List.getElem?_eq_none_iff.mp hj
      rw [Array.getElem?_eq_none (by omega)]
      rfl
    | some v =>
      obtain ⟨en, h1, h2⟩ := hv j v hj
      rw [h1, h2]
      rfl
  refine wpAny_bind (wpAny_newList ?_ (by rw [hl]; exact hn))
  generalize hvs : acc.toList = vs at *
  subst ev
  have hnew : (h'.push { cls := .type "list", data := .seq (es.toList.map (·.key)).toArray }).get? h'.objs.size = some (PyProof.Rows.seqObj "list" (es.toList.map (·.key)).toArray 0) := Heap.get?_push_size _ rfl
  have keep : ∀ b o, s.heap.get? b = some o → (h'.push { cls := .type "list", data := .seq (es.toList.map (·.key)).toArray }).get? b = some o := fun b o q => Heap.get?_push_of_some _ (hk' b o q)
  have gone : s.heap.get? h'.objs.size = none := by
    cases q : s.heap.get? h'.objs.size with
    | none => rfl
    | some o1 => exact absurd (Heap.lt_size (hk' _ _ q)) (Nat.lt_irrefl _)
  have bl : bs.length ≤ sizeLine := by
    have q := e.length
    rw [List.length_map, Array.length_toList] at q
    omega
  refine wpAny_bind (wpAny_holding (PySem.W.list_sort_data (s := { s with heap := h'.push { cls := .type "list", data := .seq (es.toList.map (·.key)).toArray }, toks := tk }) hnew e ?_ hal hk bl ?_ fun out ho' eo => ?_))
  · refine er.mono fun v b ⟨as, r⟩ => ⟨as, PyProof.Rows.Reads.keeps keep r, fun z => ?_⟩
    obtain ⟨o1, q⟩ := reads_there r _ z
    rw [gone] at q
    cases q
  · intro b hb
    have q := hu b hb
    show A.units + 1 + 1 + _ < _
    omega
  · obtain ⟨c, hc⟩ := sortedHeap_at (vs := es.toList.map (·.key)) (out := out.toArray) hnew
    exact wpAny_pure ⟨_, rfl, h _ out c _ tk gone (fun b o1 q => (sortedHeap_old (fun z => by rw [z, gone] at q; cases q) (Heap.lt_size (keep b o1 q))).trans (keep b o1 q)) hc ho' eo⟩
end
theorem obj_there {P : Program} {w : World} {H : Hp} {h : Heap} {a : Addr} {o : HO} (x : ObjOk P w H h a o) : ∃ u, h.get? a = some u := by
  cases o with
  | lst _ => obtain ⟨_, _, _, _, q⟩ := x; exact ⟨_, q⟩
  | tup _ => obtain ⟨_, _, _, u, q, _⟩ := x; exact ⟨u, q⟩
  | dK _ => obtain ⟨_, _, _, _, u, _, _, q, _⟩ := x; exact ⟨u, q⟩
  | dT _ => obtain ⟨_, _, _, _, u, _, _, q, _⟩ := x; exact ⟨u, q⟩
  | set _ _ => obtain ⟨u, _, _, _, q, _⟩ := x; exact ⟨u, q⟩
  | ins _ _ _ => obtain ⟨_, _, _, q, _⟩ := x; exact ⟨_, q⟩
  | own _ => exact x
  | xd _ => obtain ⟨_, ⟨u, _, _, q, _⟩, _⟩ := x; exact ⟨u, q⟩
  | rng _ _ => obtain ⟨_, _, _, q⟩ := x; exact ⟨_, q⟩
  | frz ob _ => exact ⟨ob, x.1⟩
  | tbl _ => exact ⟨_, x⟩
  | met _ _ => exact ⟨_, x⟩
  | ext _ => exact x.2.1
theorem gone_none {X : Cx} {pins : List (Addr × Obj)} {σ : L2.St} {H : Hp} {s : Shared} {a : Addr} (I : Inv X pins σ H s) (h : s.heap.get? a = none) : H a = none := by
  cases q : H a with
  | none => rfl
  | some o =>
    obtain ⟨u, e⟩ := obj_there (I.hok a o q)
    rw [h] at e
    cases e
section
variable {X : Cx} {G : Gx} {e tg : Expr} {sa : SE} {pos : Pos} {es : List Expr} {sr : SA}
def rSortM (K : PySem.W.Frag) : List V → Hp → VK → Prop := fun us H Q => ∃ (p : List Addr) (a : Addr) (ks : List D) (vs : List Int) (xs : List (NestedKey × Addr × Value)) (bs : List (V × PyData)), us = [.ref a] ∧ DmAt K H p a ks vs xs ∧ (bs.map (·.1) = xs.map fun x => V.ref x.2.1) ∧ (∀ b ∈ bs, Dp K H b.1 b.2 ∧ b.2.depth ≤ 60) ∧ PySem.W.AllAlike (bs.map (·.2)) ∧ PySem.W.Sortable (bs.map (·.2)) ∧
  ∀ q, H q = none → Q (.ref q) (upd H q (.lst ((bs.mergeSort (PySem.W.dataLe false (·.2))).map (·.1))))
theorem vals_refs : ∀ xs : List (NestedKey × Addr × Value), Vals (xs.map fun x => V.ref x.2.1) (xs.map fun x => Value.ref x.2.1)
  | [] => .nil
  | x :: xs => .cons rfl (vals_refs xs)
theorem cr_sortM (hu : X.A.units + 65 < cLine) (hc : X.calm = true) : CallR X (.builtin "sorted") (rSortM X.K) := by
  intro pins s σ H us ws Q I r h
  obtain ⟨p, a, ks, vs, xs, bs, rfl, hd, hb, hdp, hal, hs, q⟩ := h
  obtain ⟨u, rfl, rx⟩ := vals1 r
  obtain rfl : u = .ref a := rx
  obtain ⟨⟨o, es, ep, ho, hx, hda, he⟩, hn, hz, hsy, hh⟩ := dn_raw I hd.at_
  have lx : bs.length = xs.length := by have := congrArg List.length hb; simpa using this
  have le : es.size = xs.length := by have := congrArg List.length he; simpa using this
  have ek : es.toList.map (·.key) = xs.map fun x => Value.ref x.2.1 := by
    rw [he, List.map_map]
    rfl
  have each : PySem.W.EachIs (fun u (b : V × PyData) => RelV b.1 u) (es.toList.map (·.key)) bs := by
    rw [ek]
    refine each_of_vals (R := fun _ _ => True) ?_
    rw [hb]
    exact vals_refs xs
  refine sorted_raw (enc := fun b : V × PyData => b.2) (I.ok.hd hc) hsy ho hx hda (by omega) hal hs (fun b hb2 => ?_) each ?_ fun Dd out c h' tk gone keep new ol eo => ?_
  · have h3 : b.2.depth ≤ 60 := (hdp b hb2).2
    show X.A.units + 2 + b.2.depth < cLine
    omega
  · refine (PySem.W.each_mem each).mono fun u b ⟨h1, h2⟩ => ?_
    exact Dp.reads I _ _ _ (hdp b h2).1 h1
  · have hn := gone_none I gone
    refine ⟨.ref Dd, upd H Dd (.lst ((bs.mergeSort (PySem.W.dataLe false (·.2))).map (·.1))), I.laidN (t' := tk) keep gone hn ⟨?_, out, c, vals_of_each eo, new⟩, rfl, q _ hn⟩
    rw [List.length_map, List.length_mergeSort]
    omega
open Classical in
noncomputable def fSortM : Mf := fun ds S => match ds with
  | [.ref n] => match S[n]? with
    | some (.df ks _) => if ∀ k ∈ ks, okK k = true then match datas S ks with
      | some bs => if PySem.W.AllAlike (bs.map (·.2)) ∧ PySem.W.Sortable (bs.map (·.2)) then .ok (.ref S.length) (S ++ [.lst ((bs.mergeSort (PySem.W.dataLe false (·.2))).map (·.1))]) else .bad
      | none => .bad
      else .bad
    | _ => .bad
  | _ => .bad
theorem rc_sortM {K : PySem.W.Frag} : RfC K (rSortM K) fSortM := by
  intro G σ H p S ds us Q rst rx h
  unfold fSortM at h
  split at h
  · rename_i n
    obtain ⟨x, rfl, r⟩ := rx.one
    obtain ⟨a, rfl, ea⟩ := RV.ref_iff.mp r
    split at h
    · rename_i ks vs hn
      split at h
      · rename_i hok
        split at h
        · rename_i bs hb
          split at h
          · rename_i hc
            obtain ⟨xs, hd⟩ := rc_df (rst.cell n _ a hn ea) hok
            unfold datas at hb
            split at hb
            · rename_i ps hp
              cases hb
              obtain ⟨zs, e1, e2, e3, e4⟩ := three_of rst hp hd.rv
              have lz : ks.zip ps = zs.map fun z => (z.1, z.2.2) := by
                rw [← e1, ← e3]
                clear e1 e2 e3 e4 hp h hc
                induction zs with
                | nil => rfl
                | cons z zs ih => simp [ih]
              have m1 : ((zs.map fun z => (z.2.1, z.2.2)).mergeSort (PySem.W.dataLe false (·.2))).map (·.1) = (zs.mergeSort (PySem.W.dataLe false (·.2.2))).map (·.2.1) := by
                rw [← List.map_mergeSort (r := PySem.W.dataLe false fun z : D × V × PyData => z.2.2) (s := PySem.W.dataLe false (·.2)) (f := fun z : D × V × PyData => (z.2.1, z.2.2)) (fun _ _ _ _ => rfl), List.map_map]
                rfl
              have m2 : ((ks.zip ps).mergeSort (PySem.W.dataLe false (·.2))).map (·.1) = (zs.mergeSort (PySem.W.dataLe false (·.2.2))).map (·.1) := by
                rw [lz, ← List.map_mergeSort (r := PySem.W.dataLe false fun z : D × V × PyData => z.2.2) (s := PySem.W.dataLe false (·.2)) (f := fun z : D × V × PyData => (z.1, z.2.2)) (fun _ _ _ _ => rfl), List.map_map]
                rfl
              have m3 : (zs.map fun z => (z.2.1, z.2.2)).map (·.2) = (ks.zip ps).map (·.2) := by rw [lz, List.map_map, List.map_map]; rfl
              refine ⟨p, a, ks, vs, xs, zs.map fun z => (z.2.1, z.2.2), rfl, hd, by rw [List.map_map]; exact e2, fun b hb => ?_, by rw [m3]; exact hc.1, by rw [m3]; exact hc.2, fun q hq => ?_⟩
              · obtain ⟨z, hz, rfl⟩ := List.mem_map.mp hb
                exact (e4 z hz).2
              · rw [m1]
                rw [m2] at h
                obtain ⟨E, R, rr⟩ := rst.newL hq (rvs_map (zs := zs.mergeSort (PySem.W.dataLe false (·.2.2))) fun z hz => (e4 z (List.mem_mergeSort.mp hz)).1)
                exact h _ _ E R _ rr
            · cases hb
          · exact h.elim
        · exact h.elim
      · exact h.elim
    · exact h.elim
  · exact h.elim
theorem me_sortM {k : Nat} {p : Pos} (hr : Room (k + 1) X.A) (hc : X.calm = true) (hm : X.mg "sorted" = none) (ha : MA X G (e :: es) sr) (hg : Gl X "sorted" := by rfl) (he : starEach (e :: es) X.env = (false, eval e X.env) :: starEach es X.env := by rfl) (hpl : (backTo pos (starEach es X.env)).any (·.1) = false := by rfl) :
    ME X G (.Call (.Name "sorted" p) (e :: es) [] pos) (sCall fSortM sr) := me_callB (cr_sortM (room65 hr) hc) rc_sortM hm (by decide +kernel) ha hg (by decide) (by decide) he hpl
end
section
variable {X : Cx} {G : Gx} {e o tg : Expr} {sa so : SE} {pos : Pos} {es : List Expr} {sr : SA}
def rSetM (K : PySem.W.Frag) : TSet := fun o i v H Q => ∃ (p : List Addr) (a b : Addr) (ks : List D) (vs : List Int) (xs : List (NestedKey × Addr × Value)) (d : D) (k : NestedKey) (z : Int), o = .ref a ∧ i = .ref b ∧ v = .int z ∧ H a = some (DNo a xs) ∧ DmAt K H p a ks vs xs ∧ RV K H p d i ∧ okK d = true ∧ keyD d = some k ∧ ks.length < sizeLine ∧
  ((∀ cls, DNo a xs ≠ exO a cls none) → ∀ t, Q (upd H a (DNo a (storedH xs k b (.int z t)))))
theorem set_dm (hu : X.A.units + 65 < cLine) : PSet X (rSetM X.K) := by
  intro pins s σ H o i v ov iv u Q I ro ri rv h
  obtain ⟨p, a, b, ks, vs, xs, d, k, z, rfl, rfl, rfl, hat, hd, rd, ok, hk, hlt, q⟩ := h
  obtain ⟨hm, hz, hs⟩ := hd.of I
  obtain ⟨l, k', rfl, hk', hdep⟩ := okK_ok ok
  rw [hk] at hk'
  cases hk'
  have hkey := key_is I _ _ _ k rd ri hk
  have hl : ks.length = xs.length := by have := congrArg List.length hd.key; simpa using this
  cases ro
  cases ri
  obtain ⟨t, rfl⟩ := rv
  obtain ⟨_, _, _, _, hh⟩ := dn_raw I hd.at_
  refine wpAny_setItem_heap (knd := nestedKind X.prog X.w) (k := k) (hsz := hz) (by show X.A.units + 1 + 8 < cLine; omega) ⟨hkey, hdep⟩ hm fun h' hm' hsb => ?_
  have hx : ∃ q, h'.get? a = some q := let ⟨q, _, _, hq, _⟩ := hm'; ⟨q, hq⟩
  refine ⟨_, d_write I (by rw [hat]; exact True.intro) hsb hx (dn_new (X := X) hm' ?_ hs ?_), q (dn_nx I hat) t⟩
  · have := stored_len (xs := xs) (k := k) (b := b) (v := .int z t)
    omega
  · intro x hxm w
    rcases stored_mem hxm with e | ⟨y, hy, e⟩
    · rw [e]; exact hashN_eq hk w
    · rw [← e]; exact hh y hy w
theorem put_dm {K : PySem.W.Frag} {H : Hp} {p : List Addr} {S : Store} {n : Nat} {a b : Addr} {ks : List D} {vs : List Int} {xs : List (NestedKey × Addr × Value)} {l : List D} {k : NestedKey} {z : Int} {t : Tok} (R : RSt K H p S) (hS : S[n]? = some (.dm ks vs)) (hp : p[n]? = some a) (h1 : H a = some (DNo a xs)) (hd : DmAt K H p a ks vs xs)
    (hk : keyD (.tup l) = some k) (hn : hasK ks (.tup l) = false) (ri : RV K H p (.tup l) (.ref b)) (nx : ∀ cls, DNo a xs ≠ exO a cls none) :
    Ext K H (upd H a (DNo a (storedH xs k b (.int z t)))) p p ∧ RSt K (upd H a (DNo a (storedH xs k b (.int z t)))) p (S.set n (.dm (ks ++ [.tup l]) (vs ++ [z]))) := by
  have e : storedH xs k b (.int z t) = xs ++ [(k, b, .int z t)] := by
    unfold storedH
    rw [if_neg (by rw [← hasK_eq hk hd.key, hn]; simp)]
  have ne : ∀ c u, H c = some u → (∀ φ, u ≠ .ext φ) → c ≠ a := fun c u h w z => by
    subst z
    rw [h1] at h
    unfold DNo at h
    cases h
    exact w _ rfl
  have E : Ext K H (upd H a (DNo a (storedH xs k b (.int z t)))) p p := by
    refine ⟨fun _ _ h => h, fun c ys h => ?_, fun c ob u h => by rw [upd_ne (ne c _ h fun _ z => by cases z)]; exact h⟩
    rcases h with (h | ⟨ob, h⟩) | h
    · exact .inl (.inl (by rw [upd_ne (ne c _ h fun _ z => by cases z)]; exact h))
    · exact .inl (.inr ⟨ob, by rw [upd_ne (ne c _ h fun _ z => by cases z)]; exact h⟩)
    · exact .inr h
  refine R.writeX (c := .dm (ks ++ [.tup l]) (vs ++ [z])) hS rfl hp ⟨_, upd_same, ?_, ?_, ?_⟩ h1 (fun _ z => by unfold DNo at z; cases z) (fun _ _ z => by unfold DNo at z; cases z) (fun _ z => by unfold DNo at z; cases z) nx
  · have m : ((storedH xs k b (.int z t)).map fun x => V.ref x.2.1) = (xs.map fun x => V.ref x.2.1) ++ [V.ref b] := by rw [e, List.map_append]; rfl
    rw [m]
    exact (RVs.mono E _ _ hd.rv).snoc1 (RV.mono E _ _ ri)
  · rw [e, List.map_append, List.map_append, hd.key, List.map_cons, hk]
    rfl
  · rw [e, List.map_append, List.map_append, hd.val]
    rfl
def sSetM (se so si : SE) : SS := fun env S => (se env S).andS env fun d S1 => (so env S1).andS env fun o S2 => (si env S2).andS env fun i S3 => match d, o with
  | .int z, .ref n => match S3[n]? with
    | some (.dm ks vs) => if okK i = true ∧ (∀ k ∈ ks, okK k = true) ∧ ks.length < sizeLine ∧ hasK ks i = false then .nx env (S3.set n (.dm (ks ++ [i]) (vs ++ [z]))) else .bad
    | _ => .bad
  | _, _ => .bad
theorem ms_setM {k : Nat} {i : Expr} {si : SE} {tpos : Pos} (hr : Room (k + 1) X.A) (he : ME X G e sa) (ho : ME X G o so) (hi : ME X G i si) (hp : ∀ v, assign (.Subscript o i tpos) X.env v = (do
      let ov ← holding [v] (eval o X.env)
      let iv ← holding [v, ov] (eval i X.env)
      standAt tpos
      holding [v, ov, iv] (setItem ov iv v)
      release [v, ov, iv] []) := by intro _; rfl) (hs : swapsWithSole [.Subscript o i tpos] e pos.line X.env = pure false := by rfl) (hw : swappedStores [.Subscript o i tpos] e X.env = pure none := by rfl)
    (h1 : (assignEach [.Subscript o i tpos] X.env).map (·.2) = [assign (.Subscript o i tpos) X.env] := by rfl) : MS X G (.Assign [.Subscript o i tpos] e pos) (sSetM sa so si) := fun ok => ps_imp (ps_asg (he ok) (pg_sub (ho ok) (hi ok) (set_dm (room65 hr)) hp) hs hw h1) fun E σ H h => by
  obtain ⟨p, env, S, rs, rst, g⟩ := h
  refine ⟨p, env, S, rs, rst, (g.and rs).imp fun d S1 H1 p1 e1 r1 g1 v rv => ?_⟩
  obtain ⟨q1, q2, q3⟩ := g1
  refine ⟨p1, env, S1, q1, q2, (q3.and q1).imp fun od S2 H2 p2 e2 r2 g2 ov rov => ?_⟩
  obtain ⟨q4, q5, q6⟩ := g2
  refine ⟨p2, env, S2, q4, q5, (q6.and q4).imp fun id S3 H3 p3 e3 r3 g3 iv riv => ?_⟩
  obtain ⟨q7, q8, q9⟩ := g3
  split at q9
  · rename_i z n
    split at q9
    · rename_i ks vs hl
      split at q9
      · rename_i hok
        obtain ⟨a, rfl, ea⟩ := RV.ref_iff.mp (RV.mono e3 _ _ rov)
        rw [RV.int_iff] at rv
        obtain ⟨xs, x1, hd⟩ := rc_dm (q8.cell n _ a hl ea) hok.2.1
        obtain ⟨l, k, rfl, hk, hdep⟩ := okK_ok hok.1
        obtain ⟨b, ys, rfl, hy1, hy2⟩ := RV.tup_iff.mp riv
        refine ⟨p3, a, b, ks, vs, xs, .tup l, k, z, rfl, rfl, rv, x1, hd, riv, hok.1, hk, hok.2.2.1, fun nx t => ?_⟩
        obtain ⟨E', R'⟩ := put_dm (z := z) (t := t) q8 hl ea x1 hd hk hok.2.2.2 riv nx
        exact q9 σ _ p3 E' (q7.mono E') R'
      · exact q9.elim
    · exact q9.elim
  · exact q9.elim
end
section
variable {X : Cx} {G : Gx} {ke ve : Expr} {sk sv : SE} {pos : Pos}
def tDisp1 (K : PySem.W.Frag) (tk tv : TE) : TE := fun σ H Q => ∀ a, H a = none → tk σ (upd H a (DNo a [])) fun x H1 => tv σ H1 fun y H2 => H2 a = some (DNo a []) ∧
  ∃ (p : List Addr) (d : D) (k : NestedKey) (b : Addr) (z : Int), x = .ref b ∧ RV K H2 p d x ∧ okK d = true ∧ keyD d = some k ∧ y = .int z ∧ ((∀ cls, DNo a [] ≠ exO a cls none) → ∀ t, Q (.ref a) (upd H2 a (DNo a (storedH [] k b (.int z t)))))
theorem pe_disp1 {tk tv : TE} (hu : X.A.units + 65 < cLine) (hk : PE X ke tk) (hv : PE X ve tv) : PE X (.Dict [some ke] [ve] pos) (tDisp1 X.K tk tv) := by
  refine ⟨fun pins s σ H Q I h => ?_⟩
  have hn := I.hok.fresh (Nat.le_refl s.heap.objs.size)
  have I1 := I.laid (a := s.heap.objs.size) (o := DNo s.heap.objs.size []) (h' := s.heap.push { cls := .type "dict", data := .dict #[] }) (t' := s.toks) (fun _ _ q => Heap.get?_push_of_some _ q) (Nat.le_refl _)
    (dn_new (X := X) (Heap.DictOfH.new s.heap) (Nat.zero_le _) (beq_eq_false_iff_ne.mpr (Ne.symm (Nat.ne_of_lt I.big))) (fun _ h => by cases h))
  have lh : ∀ e : Expr, pairTrees [some ke] [ve] X.env pos ≠ [] := fun _ z => by cases z
  rw [arm_eval_Dict, zip_pairTrees [some ke] [ve] X.env pos rfl rfl, dictDisplay_pairs (pairTrees [some ke] [ve] X.env pos) (lh ke) (by show 1 < 17; omega)]
  refine wpAny_bind (wpAny_standAt (wpAny_bind (wpAny_subDictH (knd := nestedKind X.prog X.w) (Q := fun d s' => wpAny (model X.prog X.w) X.A (pure (Value.ref d)) (EP X pins σ Q) X.xe s') (by show X.A.units + 8 < cLine; omega) (by show 1 ≤ 15; omega) ?_)))
  refine pairTrees_cons_walk (thn (hk.run pins _ σ _ _ I1 (h _ hn)) fun u s1 ⟨x, H1, I2, rx, q1⟩ => thn (hv.run pins s1 σ H1 _ I2 q1) fun u2 s2 ⟨y, H2, I3, ry, hat, p, d, k, b, z, ex, rd, ok, hkd, ey, q2⟩ => pairTrees_nil_walk ?_)
  subst ex ey
  obtain ⟨l, k', rfl, hk', hdep⟩ := okK_ok ok
  rw [hkd] at hk'
  cases hk'
  have hkey := key_is I3 _ _ _ k rd rx hkd
  cases rx
  obtain ⟨t, rfl⟩ := ry
  obtain ⟨hm, hz, hs⟩ := dn_ofR (ks := []) (p := p) I3 (.inl hat) RVs.nil rfl (fun _ h => by cases h)
  obtain ⟨_, _, _, _, hh⟩ := dn_raw I3 (.inl hat)
  refine ⟨[(k, b, .int z t)], ⟨rfl, rfl, ⟨hkey, hdep⟩, trivial⟩, hm, fun h' tk hm' hsb => ?_⟩
  have hx : ∃ q, h'.get? s.heap.objs.size = some q := let ⟨q, _, _, hq, _⟩ := hm'; ⟨q, hq⟩
  have e1 : storedAllH [] [(k, b, Value.int z t)] = storedH [] k b (.int z t) := rfl
  rw [e1] at hm'
  refine wpAny_pure ⟨.ref s.heap.objs.size, _, d_write (t' := tk) I3 (by rw [hat]; exact True.intro) hsb hx (dn_new (X := X) hm' ?_ hs ?_), rfl, q2 (dn_nx I3 hat) t⟩
  · have := stored_len (xs := []) (k := k) (b := b) (v := .int z t)
    have z0 : ([] : List (NestedKey × Addr × Value)).length = 0 := rfl
    have : 1 ≤ sizeLine := by rw [sizeLine_eq]; omega
    omega
  · intro x hxm w
    rcases stored_mem hxm with e | ⟨y, hy, e⟩
    · rw [e]; exact hashN_eq hkd w
    · cases hy
def sDisp1 (sk sv : SE) : SE := fun env S => (sk env (S ++ [.dm [] []])).bind fun d S1 => (sv env S1).bind fun v S2 => match v with
  | .int z => match S2[S.length]? with
    | some (.dm [] []) => if okK d = true then .ok (.ref S.length) (S2.set S.length (.dm [d] [z])) else .bad
    | _ => .bad
  | _ => .bad
theorem me_disp1 {k : Nat} (hr : Room (k + 1) X.A) (hk : ME X G ke sk) (hv : ME X G ve sv) : ME X G (.Dict [some ke] [ve] pos) (sDisp1 sk sv) := fun ok => pe_imp (pe_disp1 (room65 hr) (hk ok) (hv ok)) fun σ H Q h => by
  obtain ⟨p, env, S, rs, rst, g⟩ := h
  intro a hn
  obtain ⟨E, R, ea⟩ := rst.push (o := DNo a []) (c := .dm [] []) hn ⟨[], upd_same, .nil, rfl, rfl⟩
  refine one (rs.mono E) R (g.at E) fun H1 p1 S1 d x E1 rs1 r1 rx g1 => ?_
  refine one rs1 r1 g1 fun H2 p2 S2 v y E2 rs2 r2 ry g2 => ?_
  split at g2
  · rename_i z
    split at g2
    · rename_i hl
      split at g2
      · rename_i hok
        have ea2 := E2.pre _ _ (E1.pre _ _ ea)
        obtain ⟨xs, x1, hd⟩ := rc_dm (r2.cell _ _ a hl ea2) (fun _ h => by cases h)
        have : xs = [] := by
          have := hd.key
          cases xs with
          | nil => rfl
          | cons _ _ => cases this
        subst this
        have rx2 := RV.mono E2 _ _ rx
        obtain ⟨l, k, rfl, hkd, hdep⟩ := okK_ok hok
        obtain ⟨b, ys, rfl, hy1, hy2⟩ := RV.tup_iff.mp rx2
        refine ⟨x1, p2, .tup l, k, b, z, rfl, rx2, hok, hkd, RV.int_iff.mp ry, fun nx t => ?_⟩
        obtain ⟨E', R'⟩ := put_dm (z := z) (t := t) r2 hl ea2 x1 hd hkd rfl rx2 nx
        exact g2 _ _ E' R' _ (RV.ref_iff.mpr ⟨a, rfl, ea2⟩)
      · exact g2.elim
    · exact g2.elim
  · exact g2.elim
end
end Rg
namespace Rg
open PySem L2
noncomputable def m_l_short : Mf := mkDef 8 1 (sSeq (sSet 1 (sDisp1 (sTup (sCons (sC (.int (1))) (sCons (sC (.int (0))) (sCons (sC (.int (0))) (sCons (sC (.int (1))) (sNil)))))) (sC (.int (0))))) (sSeq (sSet 2 (sLst (sCons (sTup (sCons (sC (.int (1))) (sCons (sC (.int (0))) (sCons (sC (.int (0))) (sCons (sC (.int (1))) (sNil)))))) (sNil)))) (sSeq (sFor (sRng fRng2 (sCons (sC (.int (1))) (sCons (s2 fPlus (sVar 0) (sC (.int (1)))) (sNil)))) (gN 3) (sSeq (sSet 4 (sLst (sNil))) (sSeq (sFor (sIter (sVar 2)) (gN 5) (sFor (sIter (sLst (sCons (sTup (sCons (sC (.int (1))) (sCons (sC (.int (1))) (sCons (sC (.int (0))) (sCons (sC (.int (1))) (sNil)))))) (sCons (sTup (sCons (sC (.int (1))) (sCons (sC (.int (0))) (sCons (s1 fNeg (sC (.int (1)))) (sCons (sC (.int (1))) (sNil)))))) (sNil))))) (gN 6) (sSeq (sSet 7 (sCall m_l_behind_2 (sCons (sVar 5) (sCons (sVar 6) (sNil))))) (sIfS (sT (s2 fNinM (sVar 7) (sVar 1))) (sSeq (sSetM (sVar 3) (sVar 1) (sVar 7)) (sDrop (sMethL fAppend (sVar 4) (sCons (sVar 7) (sNil))))) (sSkip))))) (sSet 2 (sVar 4))))) (sRet (sVar 1)))))
noncomputable def m_law_k52 : Mf := mkDef 10 1 (sSeq (sSet 1 (sCall m_l_short (sCons (s2 fPlus (sC (.int (7))) (s2 fMod (sCall fLen (sCons (sVar 0) (sNil))) (sC (.int (2))))) (sNil)))) (sSeq (sFor (sIterM (sVar 1)) (gN 2) (sIfS (sT (s2 fNe (s2 fIx (sCall m_fewest (sCons (sCall m_l_told (sCons (sVar 2) (sNil))) (sNil))) (sC (.int (0)))) (s2 fGetM (sVar 1) (sVar 2)))) (sRet (sC (.bl false))) (sSkip))) (sSeq (sSet 3 (sCall fSortM (sCons (sVar 1) (sNil)))) (sSeq (sFor (sIter (s2 fPlus (sLst (sCons (sC (.int (0))) (sNil))) (sVar 0))) (gN 4) (sSeq (sSet 5 (sCall m_l_pool (sCons (sVar 4) (sNil)))) (sSeq (sSet 2 (s2 fIx (sVar 3) (sCall m_l_next (sCons (sVar 5) (sCons (sCall fLen (sCons (sVar 3) (sNil))) (sNil)))))) (sSeq (sSet 6 (sCall m_l_runs (sCons (sVar 5) (sCons (sC (.int (4))) (sNil))))) (sSeq (sSet 7 (sCall m_l_led_4 (sCons (sVar 6) (sCons (sC (.int (1))) (sNil))))) (sSeq (sSet 8 (s2 fIx (sCall m_fewest (sCons (sCall m_l_told (sCons (sCall m_l_behind_2 (sCons (sVar 7) (sCons (sVar 2) (sNil)))) (sNil))) (sNil))) (sC (.int (0))))) (sSeq (sIfS (sT (s2 fGt (sVar 8) (s2 fPlus (s2 fIx (sCall m_fewest (sCons (sCall m_l_told (sCons (sVar 7) (sNil))) (sNil))) (sC (.int (0)))) (s2 fGetM (sVar 1) (sVar 2))))) (sRet (sC (.bl false))) (sSkip)) (sSeq (sSet 9 (sCall m_l_behind_2 (sCons (sCall m_l_behind_2 (sCons (sVar 7) (sCons (sVar 2) (sNil)))) (sCons (sTup (sCons (s2 fIx (sVar 2) (sC (.int (3)))) (sCons (s2 fSub (sC (.int (0))) (s2 fIx (sVar 2) (sC (.int (1))))) (sCons (s2 fSub (sC (.int (0))) (s2 fIx (sVar 2) (sC (.int (2))))) (sCons (s2 fIx (sVar 2) (sC (.int (0)))) (sNil)))))) (sNil))))) (sIfS (sOr (sT (s2 fNe (sVar 9) (sVar 7))) (sT (s2 fGt (s2 fIx (sCall m_fewest (sCons (sCall m_l_told (sCons (sVar 7) (sNil))) (sNil))) (sC (.int (0)))) (s2 fPlus (sVar 8) (s2 fMul (sC (.int (12))) (s2 fGetM (sVar 1) (sVar 2))))))) (sRet (sC (.bl false))) (sSkip)))))))))) (sRet (sC (.bl true)))))))
end Rg
namespace Rg
open PySem L2
end Rg
section
set_option exponentiation.threshold 10000
namespace Rg
structure M4 where
  a : Int
  b : Int
  c : Int
  d : Int
deriving DecidableEq
theorem M4.ext' {m n : M4} (h1 : m.a = n.a) (h2 : m.b = n.b) (h3 : m.c = n.c) (h4 : m.d = n.d) : m = n := by cases m; cases n; simp_all
structure Run where
  gap : Bool
  n : Int
deriving DecidableEq
namespace M4
def one : M4 := ⟨1, 0, 0, 1⟩
def mul (m k : M4) : M4 := ⟨m.a * k.a + m.b * k.c, m.a * k.b + m.b * k.d, m.c * k.a + m.d * k.c, m.c * k.b + m.d * k.d⟩
def det (m : M4) : Int := m.a * m.d - m.b * m.c
theorem mul_assoc {m k l : M4} : (m.mul k).mul l = m.mul (k.mul l) := by apply M4.ext' <;> simp only [mul] <;> grind
theorem one_mul {m : M4} : one.mul m = m := by apply M4.ext' <;> simp only [mul, one] <;> grind
theorem mul_one {m : M4} : m.mul one = m := by apply M4.ext' <;> simp only [mul, one] <;> grind
theorem det_mul {m k : M4} : (m.mul k).det = m.det * k.det := by simp only [mul, det]; grind
end M4
def Run.mat (s : Int) (r : Run) : M4 := if r.gap then ⟨1, r.n, 0, 1⟩ else ⟨1, 0, 0 - r.n * s, 1⟩
theorem mat_det {s : Int} {r : Run} : (r.mat s).det = 1 := by unfold Run.mat M4.det; split <;> simp
theorem snoc_ind' {A : Type} {P : List A → Prop} (h0 : P []) (h1 : ∀ l a, P l → P (l ++ [a])) : ∀ l, P l := by
  intro l
  generalize hn : l.length = n
  induction n generalizing l with
  | zero => rw [List.length_eq_zero_iff.mp hn]; exact h0
  | succ n ih =>
    rcases List.eq_nil_or_concat l with rfl | ⟨k, a, rfl⟩
    · simp at hn
    · rw [List.concat_eq_append] at *
      exact h1 k a (ih k (by simpa using hn))
def ledM (s : Int) (R : List Run) : M4 := R.foldl (fun m r => (r.mat s).mul m) M4.one
theorem ledM_snoc {s : Int} {R : List Run} {r : Run} : ledM s (R ++ [r]) = (r.mat s).mul (ledM s R) := by simp [ledM]
theorem ledM_det {s : Int} {R : List Run} : (ledM s R).det = 1 := by
  refine snoc_ind' (P := fun R => (ledM s R).det = 1) ?_ ?_ R
  · rfl
  · intro R r ih
    rw [ledM_snoc, M4.det_mul, mat_det, ih]; rfl
def mt (x y p q : Int) : Int := if 0 < p then (if 0 < q then min (x / p) (y / q) else x / p) else y / q
inductive Sp : M4 → List Run → Prop
  | one : Sp M4.one []
  | gap {m : M4} {R : List Run} : m ≠ M4.one → m.c ≤ m.a → m.d ≤ m.b → Sp ⟨m.a - mt m.a m.b m.c m.d * m.c, m.b - mt m.a m.b m.c m.d * m.d, m.c, m.d⟩ R → Sp m (R ++ [⟨true, mt m.a m.b m.c m.d⟩])
  | gla {m : M4} {R : List Run} : m ≠ M4.one → ¬ (m.c ≤ m.a ∧ m.d ≤ m.b) → Sp ⟨m.a, m.b, m.c - mt m.c m.d m.a m.b * m.a, m.d - mt m.c m.d m.a m.b * m.b⟩ R → Sp m (R ++ [⟨false, mt m.c m.d m.a m.b⟩])
def alt : List Run → Prop
  | r :: q :: l => r.gap ≠ q.gap ∧ alt (q :: l)
  | _ => True
structure Row (R : List Run) : Prop where
  alt : alt R
  pos : ∀ r ∈ R, 1 ≤ r.n
structure M4.nn (m : M4) : Prop where
  a : 0 ≤ m.a
  b : 0 ≤ m.b
  c : 0 ≤ m.c
  d : 0 ≤ m.d
theorem mul_gla {n : Int} {m : M4} : ((⟨false, n⟩ : Run).mat (-1)).mul m = ⟨m.a, m.b, m.c + n * m.a, m.d + n * m.b⟩ := by
  apply M4.ext' <;> simp [Run.mat, M4.mul] <;> grind
def sumN (R : List Run) : Int := (R.map (·.n)).sum
theorem sumN_snoc {R : List Run} {r : Run} : sumN (R ++ [r]) = sumN R + r.n := by simp [sumN]
theorem prod_rev {s : Int} : ∀ R : List Run, R.reverse.foldl (fun m r => m.mul (r.mat s)) M4.one = ledM s R := by
  have key : ∀ (L : List Run) (x : M4), L.foldl (fun m r => m.mul (r.mat s)) x = x.mul (L.foldl (fun m r => m.mul (r.mat s)) M4.one) := by
    intro L
    induction L with
    | nil => intro x; exact M4.mul_one.symm
    | cons r L ih =>
      intro x
      rw [List.foldl_cons, List.foldl_cons, ih, ih (M4.one.mul _), M4.one_mul, M4.mul_assoc]
  refine snoc_ind' rfl fun R r ih => ?_
  rw [List.reverse_append, List.reverse_singleton, List.singleton_append, List.foldl_cons, key, M4.one_mul, ih, ledM_snoc]
end Rg
end
namespace Rg
open PySem L2
theorem Rok.eq {A : Type} {r : Res A} {a : A} {S : Store} (h : Rok r fun x S' => x = a ∧ S' = S) : r = .ok a S := by
  obtain ⟨x, S', e, rfl, rfl⟩ := h
  exact e
def eQ (q : Rat) : D := .tup [.int q.num, .int q.den]
@[simp] theorem atI0 {α : Type} {x : α} {l : List α} : atI (x :: l) 0 = some x := by
  have := atI_nat (xs := x :: l) (j := 0) (v := x) rfl
  exact this
@[simp] theorem atI1 {α : Type} {x y : α} {l : List α} : atI (x :: y :: l) 1 = some y := by
  have := atI_nat (xs := x :: y :: l) (j := 1) (v := y) rfl
  exact this
@[simp] theorem atI2 {α : Type} {x y z : α} {l : List α} : atI (x :: y :: z :: l) 2 = some z := by
  have := atI_nat (xs := x :: y :: z :: l) (j := 2) (v := z) rfl
  exact this
@[simp] theorem atI3 {α : Type} {x y z w : α} {l : List α} : atI (x :: y :: z :: w :: l) 3 = some w := by
  have := atI_nat (xs := x :: y :: z :: w :: l) (j := 3) (v := w) rfl
  exact this
@[simp] theorem szL (n : Nat) : (n ≤ sizeLine) ↔ n ≤ 16777216 := by rw [sizeLine_eq]
@[simp] theorem szL' (n : Nat) : (n < sizeLine) ↔ n < 16777216 := by rw [sizeLine_eq]
theorem CM_l {i j : Int} (h : i.natAbs < 2 ^ 64) : CM i j := .inl (.inl ⟨by omega, by omega⟩)
theorem CM_r {i j : Int} (h : j.natAbs < 2 ^ 64) : CM i j := .inl (.inr ⟨by omega, by omega⟩)
theorem CM_w {i j : Int} {a b : Nat} (ha : i.natAbs < 2 ^ a) (hb : j.natAbs < 2 ^ b) (h : a + b ≤ 999998) : CM i j :=
  .inr (wide_mul (a := a + 1) (b := b + 1) (Nat.lt_of_lt_of_le ha (Nat.pow_le_pow_right (by decide) (by omega))) (Nat.lt_of_lt_of_le hb (Nat.pow_le_pow_right (by decide) (by omega))) (by omega) (by omega) (by omega))
theorem CDv_w {i j : Int} {b : Nat} (h : j ≠ 0) (hb : j.natAbs < 2 ^ b) (h9 : b ≤ 8999) : CDv i j := by
  have x := PySem.Flt.log2_lt_of (show 0 < b + 1 by omega) (Nat.lt_of_lt_of_le hb (Nat.pow_le_pow_right (show 0 < 2 by decide) (show b ≤ b + 1 by omega)))
  exact ⟨h, by omega⟩
@[simp] theorem fdiv_lit {i : Int} {n : Nat} [NeZero n] : i.fdiv (no_index (OfNat.ofNat n)) = i / (OfNat.ofNat n) := Int.fdiv_eq_ediv_of_nonneg i (by
  show (0 : Int) ≤ ((n : Nat) : Int)
  exact Int.natCast_nonneg n)
theorem CPow_s {i j : Int} (h0 : 0 ≤ j) (h1 : j ≤ 1000000) (h : i.natAbs < 2 ^ 64) : CPow i j := ⟨h0, h1, h⟩
@[simp] theorem fr_int {N : Nat} {i : Int} : (D.int i).fresh N = none := by rw [D.fresh] <;> (intros; contradiction)
@[simp] theorem fr_bl {N : Nat} {i : Bool} : (D.bl i).fresh N = none := by rw [D.fresh] <;> (intros; contradiction)
@[simp] theorem fr_str {N : Nat} {i : Str} : (D.str i).fresh N = none := by rw [D.fresh] <;> (intros; contradiction)
@[simp] theorem fr_non {N : Nat} : (D.non).fresh N = none := by rw [D.fresh] <;> (intros; contradiction)
@[simp] theorem fr_tup {N : Nat} {l : List D} : (D.tup l).fresh N = freshs N l := by rw [D.fresh]
@[simp] theorem fr_nil {N : Nat} : freshs N [] = none := by rw [freshs]
@[simp] theorem fr_cons {N : Nat} {d : D} {l : List D} : freshs N (d :: l) = (d.fresh N).or (freshs N l) := by rw [freshs]
@[simp] theorem fr_ref {N n : Nat} : (D.ref n).fresh N = if n < N then none else some n := by rw [D.fresh]
@[simp] theorem on_int {N n : Nat} {i : Int} : (D.int i).only N n = true := by rw [D.only] <;> (intros; contradiction)
@[simp] theorem on_bl {N n : Nat} {i : Bool} : (D.bl i).only N n = true := by rw [D.only] <;> (intros; contradiction)
@[simp] theorem on_str {N n : Nat} {i : Str} : (D.str i).only N n = true := by rw [D.only] <;> (intros; contradiction)
@[simp] theorem on_non {N n : Nat} : (D.non).only N n = true := by rw [D.only] <;> (intros; contradiction)
@[simp] theorem on_tup {N n : Nat} {l : List D} : (D.tup l).only N n = onlys N n l := by rw [D.only]
@[simp] theorem on_nil {N n : Nat} : onlys N n [] = true := by rw [onlys]
@[simp] theorem on_cons {N n : Nat} {d : D} {l : List D} : onlys N n (d :: l) = (d.only N n && onlys N n l) := by rw [onlys]
@[simp] theorem on_ref {N n m : Nat} : (D.ref m).only N n = (decide (m < N) || decide (m = n)) := by rw [D.only]
@[simp] theorem un_int {N : Nat} {i : Int} : (D.int i).under N = true := by rw [D.under] <;> (intros; contradiction)
@[simp] theorem un_bl {N : Nat} {i : Bool} : (D.bl i).under N = true := by rw [D.under] <;> (intros; contradiction)
@[simp] theorem un_str {N : Nat} {i : Str} : (D.str i).under N = true := by rw [D.under] <;> (intros; contradiction)
@[simp] theorem un_non {N : Nat} : (D.non).under N = true := by rw [D.under] <;> (intros; contradiction)
@[simp] theorem un_tup {N : Nat} {l : List D} : (D.tup l).under N = unders N l := by rw [D.under]
@[simp] theorem un_nil {N : Nat} : unders N [] = true := by rw [unders]
@[simp] theorem un_cons {N : Nat} {d : D} {l : List D} : unders N (d :: l) = (d.under N && unders N l) := by rw [unders]
@[simp] theorem un_ref {N n : Nat} : (D.ref n).under N = decide (n < N) := by rw [D.under]
@[simp] theorem sb_int {N : Nat} {i : Int} : (D.int i).subst N = .int i := by rw [D.subst] <;> (intros; contradiction)
@[simp] theorem sb_bl {N : Nat} {i : Bool} : (D.bl i).subst N = .bl i := by rw [D.subst] <;> (intros; contradiction)
@[simp] theorem sb_str {N : Nat} {i : Str} : (D.str i).subst N = .str i := by rw [D.subst] <;> (intros; contradiction)
@[simp] theorem sb_non {N : Nat} : (D.non).subst N = .non := by rw [D.subst] <;> (intros; contradiction)
@[simp] theorem sb_tup {N : Nat} {l : List D} : (D.tup l).subst N = .tup (substs N l) := by rw [D.subst]
@[simp] theorem sb_nil {N : Nat} : substs N [] = [] := by rw [substs]
@[simp] theorem sb_cons {N : Nat} {d : D} {l : List D} : substs N (d :: l) = d.subst N :: substs N l := by rw [substs]
@[simp] theorem sb_ref {N n : Nat} : (D.ref n).subst N = .ref (if n < N then n else N) := by rw [D.subst]
theorem un_all {N : Nat} {l : List D} (h : ∀ d ∈ l, d.under N = true) : unders N l = true := by
  induction l with
  | nil => rfl
  | cons d l ih => rw [un_cons, h d (by simp), ih fun e he => h e (by simp [he])]; rfl
theorem un_map {A : Type} {N : Nat} {l : List A} {f : A → D} (h : ∀ a ∈ l, (f a).under N = true) : unders N (l.map f) = true := un_all fun d hd => by
  obtain ⟨a, ha, rfl⟩ := List.mem_map.mp hd
  exact h a ha
@[simp] theorem rok_gcs {S : Store} {d : D} {P : D → Store → Prop} (h : d.fresh S.length = none) : Rok (gc S d S) P ↔ P d S := by rw [gc_self h, rok_ok]
@[simp] theorem rok_gca {S C : Store} {d : D} {P : D → Store → Prop} (h : d.fresh S.length = none) : Rok (gc S d (S ++ C)) P ↔ P d S := by rw [gc_app h, rok_ok]
@[simp] theorem rok_gcn {S : Store} {l : List D} {P : D → Store → Prop} (h : unders S.length l = true) : Rok (gc S (.ref S.length) (S ++ [.lst l])) P ↔ P (.ref S.length) (S ++ [.lst l]) := by
  rw [gc_new (n := S.length) (by simp) (by simp) (by simp) h, rok_ok]
  simp
@[simp] theorem eQ_fr {N : Nat} {q : Rat} : (eQ q).fresh N = none := by unfold eQ; simp
@[simp] theorem eQ_un {N : Nat} {q : Rat} : (eQ q).under N = true := by unfold eQ; simp
@[simp] theorem eQ_on {N n : Nat} {q : Rat} : (eQ q).only N n = true := by unfold eQ; simp
@[simp] theorem eQ_sb {N : Nat} {q : Rat} : (eQ q).subst N = eQ q := by unfold eQ; simp
@[simp] theorem eQ_ty {S : Store} {q : Rat} : tyOf S (eQ q) = some .tup := rfl
@[simp] theorem eQ_i0 {S : Store} {q : Rat} {P : D → Store → Prop} : Rok (fIx (eQ q) (.int 0) S) P ↔ P (.int q.num) S := by unfold eQ; simp
@[simp] theorem eQ_i1 {S : Store} {q : Rat} {P : D → Store → Prop} : Rok (fIx (eQ q) (.int 1) S) P ↔ P (.int q.den) S := by unfold eQ; simp
@[simp] theorem eQ_len {S : Store} {q : Rat} {P : D → Store → Prop} : Rok (fLen [eQ q] S) P ↔ P (.int 2) S := by unfold eQ; simp
@[simp] theorem eQ_isNon {q : Rat} : (eQ q).isNon = false := rfl
def pQ (q : Rat) : PyData := .tuple [.int q.num, .int q.den]
@[simp] theorem toP_eQ {S : Store} {k : Nat} {q : Rat} : toP S (k + 1) (eQ q) = some (pQ q) := by unfold eQ pQ; simp
@[simp] theorem toP_eQ60 {S : Store} {q : Rat} : toP S 60 (eQ q) = some (pQ q) := toP_eQ
@[simp] theorem toP_eQ59 {S : Store} {q : Rat} : toP S 59 (eQ q) = some (pQ q) := toP_eQ
@[simp] theorem toP_eQ58 {S : Store} {q : Rat} : toP S 58 (eQ q) = some (pQ q) := toP_eQ
@[simp] theorem toP_eQ57 {S : Store} {q : Rat} : toP S 57 (eQ q) = some (pQ q) := toP_eQ
@[simp] theorem ev_Q {p q : Rat} : PyData.eqv (pQ p) (pQ q) = decide (p = q) := by
  unfold pQ
  rw [Bool.eq_iff_iff]
  simp
  constructor
  · rintro ⟨h1, h2⟩
    exact Rat.ext h1 (by omega)
  · rintro rfl; exact ⟨rfl, rfl⟩
@[simp] theorem ev_nQ {p : Rat} : PyData.eqv .none (pQ p) = false := by unfold pQ; simp
@[simp] theorem ev_Qn {p : Rat} : PyData.eqv (pQ p) .none = false := by unfold pQ; simp
@[simp] theorem tup_1 {i : Int} : D.tup [.int i, .int 1] = eQ (i : Rat) := rfl
@[simp] theorem tup_q {q : Rat} : D.tup [.int q.num, .int (q.den : Nat)] = eQ q := rfl
@[simp] theorem lit_0 : D.tup [.int 0, .int 1] = eQ 0 := rfl
@[simp] theorem lit_1 : D.tup [.int 1, .int 1] = eQ 1 := rfl
@[simp] theorem isNon_non : D.non.isNon = true := rfl
@[simp] theorem isNon_int {i : Int} : (D.int i).isNon = false := rfl
@[simp] theorem isNon_bl {i : Bool} : (D.bl i).isNon = false := rfl
@[simp] theorem isNon_str {i : Str} : (D.str i).isNon = false := rfl
@[simp] theorem isNon_tup {i : List D} : (D.tup i).isNon = false := rfl
@[simp] theorem isNon_ref {i : Nat} : (D.ref i).isNon = false := rfl
@[simp] theorem py_q {q : Rat} : PyData.tuple [.int q.num, .int (q.den : Nat)] = pQ q := rfl
@[simp] theorem py_1 {i : Int} : PyData.tuple [.int i, .int 1] = pQ (i : Rat) := rfl
@[simp] theorem py_0 : PyData.tuple [.int 0, .int 1] = pQ 0 := rfl
@[simp] theorem py_11 : PyData.tuple [.int 1, .int 1] = pQ 1 := rfl
end Rg
namespace Rg
open PySem L2
end Rg
section
set_option exponentiation.threshold 10000
namespace Rg
open PySem L2
class Sz (q : Rat) (k : outParam Nat) : Prop where
  num : q.num.natAbs < 2 ^ k
  den : q.den < 2 ^ k
theorem Sz.pos {q : Rat} {k : Nat} (h : Sz q k) : 1 ≤ k := by
  cases k with
  | zero =>
    have h1 := h.den
    have h2 := q.den_pos
    simp at h1
    omega
  | succ k => omega
theorem pow_le {a b : Nat} (h : a ≤ b) : 2 ^ a ≤ 2 ^ b := Nat.pow_le_pow_right (by decide) h
theorem Sz.mono {q : Rat} {k m : Nat} (h : Sz q k) (hk : k ≤ m) : Sz q m := ⟨Nat.lt_of_lt_of_le h.num (pow_le hk), Nat.lt_of_lt_of_le h.den (pow_le hk)⟩
instance : Sz 0 1 := ⟨by decide, by decide⟩
instance : Sz 1 1 := ⟨by decide, by decide⟩
instance : Sz 2 2 := ⟨by decide, by decide⟩
instance : Sz 4 3 := ⟨by decide, by decide⟩
theorem mul_lt2 {x y i j : Nat} (h : x < 2 ^ i) (h' : y < 2 ^ j) : x * y < 2 ^ (i + j) := by
  rw [Nat.pow_add]
  exact Nat.mul_lt_mul'' h h'
theorem natAbs_ediv_le {x : Int} {n : Nat} : (x / (n : Int)).natAbs ≤ x.natAbs := by
  by_cases h : n = 0
  · subst h; simp
  · have := Int.natAbs_ediv_le_natAbs x n
    exact this
theorem sz_add {p q : Rat} {i j : Nat} (hp : Sz p i) (hq : Sz q j) : Sz (p + q) (i + j + 1) := by
  constructor
  · rw [Rat.num_add]
    refine Nat.lt_of_le_of_lt natAbs_ediv_le ?_
    have h1 : (p.num * (q.den : Int)).natAbs < 2 ^ (i + j) := by rw [Int.natAbs_mul]; exact mul_lt2 hp.num hq.den
    have h2 : (q.num * (p.den : Int)).natAbs < 2 ^ (i + j) := by rw [Int.natAbs_mul, Nat.add_comm]; exact mul_lt2 hq.num hp.den
    rw [Nat.pow_succ]
    omega
  · rw [Rat.den_add]
    refine Nat.lt_of_le_of_lt (Nat.div_le_self _ _) (Nat.lt_of_lt_of_le (mul_lt2 hp.den hq.den) (pow_le (by omega)))
instance {p q : Rat} {i j : Nat} [hp : Sz p i] [hq : Sz q j] : Sz (p + q) (i + j + 1) := sz_add hp hq
theorem sz_neg {p : Rat} {i : Nat} (hp : Sz p i) : Sz (-p) i := ⟨by rw [Rat.neg_num, Int.natAbs_neg]; exact hp.num, by rw [Rat.neg_den]; exact hp.den⟩
instance {p : Rat} {i : Nat} [hp : Sz p i] : Sz (-p) i := sz_neg hp
theorem sz_sub {p q : Rat} {i j : Nat} (hp : Sz p i) (hq : Sz q j) : Sz (p - q) (i + j + 1) := by rw [Rat.sub_eq_add_neg]; exact sz_add hp (sz_neg hq)
instance {p q : Rat} {i j : Nat} [hp : Sz p i] [hq : Sz q j] : Sz (p - q) (i + j + 1) := sz_sub hp hq
theorem sz_mul {p q : Rat} {i j : Nat} (hp : Sz p i) (hq : Sz q j) : Sz (p * q) (i + j) := by
  constructor
  · rw [Rat.num_mul]
    refine Nat.lt_of_le_of_lt natAbs_ediv_le ?_
    rw [Int.natAbs_mul]; exact mul_lt2 hp.num hq.num
  · rw [Rat.den_mul]
    exact Nat.lt_of_le_of_lt (Nat.div_le_self _ _) (mul_lt2 hp.den hq.den)
instance {p q : Rat} {i j : Nat} [hp : Sz p i] [hq : Sz q j] : Sz (p * q) (i + j) := sz_mul hp hq
theorem sz_inv {q : Rat} {j : Nat} (hq : Sz q j) : Sz q⁻¹ j := by
  constructor
  · rw [Rat.num_inv, Int.natAbs_mul]
    have h1 := hq.den
    rcases Int.lt_trichotomy q.num 0 with h | h | h
    · rw [Int.sign_eq_neg_one_of_neg h]; simpa using h1
    · rw [h]; simp; exact Nat.pow_pos (by decide)
    · rw [Int.sign_eq_one_of_pos h]; simpa using h1
  · rw [Rat.den_inv]
    split
    · exact Nat.lt_of_lt_of_le (by decide : 1 < 2 ^ 1) (pow_le hq.pos)
    · exact hq.num
instance {q : Rat} {j : Nat} [hq : Sz q j] : Sz q⁻¹ j := sz_inv hq
theorem sz_div {p q : Rat} {i j : Nat} (hp : Sz p i) (hq : Sz q j) : Sz (p / q) (i + j) := by rw [Rat.div_def]; exact sz_mul hp (sz_inv hq)
instance {p q : Rat} {i j : Nat} [hp : Sz p i] [hq : Sz q j] : Sz (p / q) (i + j) := sz_div hp hq
theorem sz_abs {p : Rat} {i : Nat} (hp : Sz p i) : Sz p.abs i := by
  unfold Rat.abs
  split
  · exact hp
  · exact sz_neg hp
instance {p : Rat} {i : Nat} [hp : Sz p i] : Sz p.abs i := sz_abs hp
end Rg
end
section
set_option exponentiation.threshold 10000
namespace Rg
open PySem L2
abbrev pl (a b c : Int) : Cell := .lst [.int a, .int b, .int c]
class Pool (S : Store) (n : Nat) : Prop where
  ex : ∃ a b c : Int, S[n]? = some (pl a b c)
theorem Pool.lt {S : Store} {n : Nat} (h : Pool S n) : n < S.length := by
  obtain ⟨a, b, c, h⟩ := h
  exact (List.getElem?_eq_some_iff.mp h).1
instance {S : Store} {n : Nat} {a b c : Int} [h : Pool S n] : Pool (S.set n (pl a b c)) n := ⟨a, b, c, List.getElem?_set_self h.lt⟩
instance {S C : Store} {n : Nat} [h : Pool S n] : Pool (S ++ C) n := by
  obtain ⟨a, b, c, e⟩ := h.ex
  exact ⟨a, b, c, by rw [List.getElem?_append_left h.lt]; exact e⟩
instance {S C : Store} {a b c : Int} : Pool (S ++ pl a b c :: C) S.length := ⟨a, b, c, by simp⟩
@[simp] theorem ixN30 : ixN 3 0 = some 0 := rfl
@[simp] theorem ixN32 : ixN 3 2 = some 2 := rfl
@[simp] theorem lstOf_set {S : Store} {n : Nat} {l : List D} (h : n < S.length) : lstOf (S.set n (.lst l)) n = some l := lstOf_lst (List.getElem?_set_self h)
theorem lstOf_set_ne {S : Store} {n m : Nat} {c : Cell} (h : n ≠ m) : lstOf (S.set n c) m = lstOf S m := by
  unfold lstOf
  rw [List.getElem?_set_ne h]
theorem kept_pool {S : Store} {n : Nat} {a b c : Int} {C : Store} (hn : n < S.length) : Kept S (S.set n (pl a b c) ++ C) := by
  refine ⟨by simp, fun m hm => ?_⟩
  by_cases e : n = m
  · subst e
    refine .inr ⟨pl a b c, ?_, by simp [Cell.under]⟩
    rw [List.getElem?_append_left (by simpa), List.getElem?_set_self hn]
  · refine .inl ?_
    rw [List.getElem?_append_left (by simpa), List.getElem?_set_ne e]
theorem gc_pool {S : Store} {n : Nat} {a b c : Int} {C : Store} {d : D} (hn : n < S.length) (h : d.fresh S.length = none) : gc S d (S.set n (pl a b c) ++ C) = .ok d (S.set n (pl a b c)) := by
  rw [gc_under (kept_pool hn) h, List.take_left' (by simp)]
@[simp] theorem rok_gcp {S : Store} {n : Nat} {a b c : Int} {d : D} {P : D → Store → Prop} (hn : n < S.length) (h : d.fresh S.length = none) : Rok (gc S d (S.set n (pl a b c))) P ↔ P d (S.set n (pl a b c)) := by
  have := gc_pool (C := []) (a := a) (b := b) (c := c) hn h
  rw [List.append_nil] at this
  rw [this, rok_ok]
@[simp] theorem rok_gcpa {S : Store} {n : Nat} {a b c : Int} {C : Store} {d : D} {P : D → Store → Prop} (hn : n < S.length) (h : d.fresh S.length = none) : Rok (gc S d (S.set n (pl a b c) ++ C)) P ↔ P d (S.set n (pl a b c)) := by
  rw [gc_pool hn h, rok_ok]
theorem gc_poolN {S : Store} {n k : Nat} {a b c : Int} {C : Store} {d : D} {l : List D} (hn : n < S.length) (h : d.fresh S.length = some k) (ho : d.only S.length k = true) (hl : (S.set n (pl a b c) ++ C)[k]? = some (.lst l)) (u : unders S.length l = true) :
    gc S d (S.set n (pl a b c) ++ C) = .ok (d.subst S.length) (S.set n (pl a b c) ++ [.lst l]) := by
  unfold gc
  rw [if_pos (kept_pool hn), h]
  dsimp only
  rw [if_pos ho, hl]
  dsimp only
  rw [if_pos u, List.take_left' (by simp)]
@[simp] theorem lstOf_left {A C : Store} {k : Nat} (h : k < A.length) : lstOf (A ++ C) k = lstOf A k := by
  unfold lstOf
  rw [List.getElem?_append_left h]
@[simp] theorem get_right {A C : Store} {k : Nat} (h : A.length ≤ k) : (A ++ C)[k]? = C[k - A.length]? := List.getElem?_append_right h
@[simp] theorem set_right {A C : Store} {k : Nat} {d : Cell} (h : A.length ≤ k) : (A ++ C).set k d = A ++ C.set (k - A.length) d := List.set_append_right _ _ h
@[simp] theorem isLst_ref {S : Store} {n : Nat} : isLst S (.ref n) = (lstOf S n).isSome := rfl
@[simp] theorem rok_mulL {m : Nat} {k : Int} {S : Store} {P : D → Store → Prop} : Rok (fMulL (.ref m) (.int k) S) P ↔ ∃ x, S[m]? = some (.lst x) ∧ (-(2 ^ 63) ≤ k ∧ k < 2 ^ 63 ∧ x.length * k.toNat ≤ sizeLine) ∧ P (.ref S.length) (S ++ [.lst (List.replicate k.toNat x).flatten]) := by
  unfold fMulL
  dsimp only
  split
  · rename_i x hx
    split
    · rename_i h; rw [rok_ok]; exact ⟨fun q => ⟨x, hx, h, q⟩, fun ⟨y, hy, _, q⟩ => by rw [hx] at hy; cases hy; exact q⟩
    · rename_i h; rw [rok_bad]; exact ⟨fun q => q.elim, fun ⟨y, hy, z, q⟩ => by rw [hx] at hy; cases hy; exact h z⟩
  · rename_i h
    rw [rok_bad]
    exact ⟨fun q => q.elim, fun ⟨y, hy, _, _⟩ => h _ hy⟩
theorem lstOf_lt {S : Store} {m : Nat} {l : List D} (h : lstOf S m = some l) : m < S.length := by
  unfold lstOf at h
  rcases Nat.lt_or_ge m S.length with q | q
  · exact q
  · rw [List.getElem?_eq_none q] at h; cases h
theorem lstOf_app {S C : Store} {m : Nat} {l : List D} (h : lstOf S m = some l) : lstOf (S ++ C) m = some l := by rw [lstOf_left (lstOf_lt h)]; exact h
@[simp] theorem lstOf_right {A C : Store} {k : Nat} (h : A.length ≤ k) : lstOf (A ++ C) k = lstOf C (k - A.length) := by
  unfold lstOf
  rw [List.getElem?_append_right h]
@[simp] theorem lstOf_zero {C : Store} {l : List D} : lstOf (.lst l :: C) 0 = some l := rfl
@[simp] theorem lstOf_zerof {C : Store} {l : List D} : lstOf (.fro l :: C) 0 = some l := rfl
@[simp] theorem lstOf_succ {C : Store} {c : Cell} {k : Nat} : lstOf (c :: C) (k + 1) = lstOf C k := by
  unfold lstOf
  rw [List.getElem?_cons_succ]
@[simp] theorem lstOf_one {C : Store} {c : Cell} : lstOf (c :: C) 1 = lstOf C 0 := rfl
@[simp] theorem lstOf_two {C : Store} {c d : Cell} : lstOf (c :: d :: C) 2 = lstOf C 0 := rfl
@[simp] theorem lstOf_setn {S : Store} {n m : Nat} {c : Cell} (h : m ≠ n) : lstOf (S.set n c) m = lstOf S m := lstOf_set_ne (Ne.symm h)
@[simp] theorem set_left {A C : Store} {k : Nat} {c : Cell} (h : k < A.length) : (A ++ C).set k c = A.set k c ++ C := by
  rw [List.set_append_left _ _ h]
theorem next_then {S : Store} {n : Nat} {base : Int} {P : D → Store → Prop} (hp : Pool S n) (hb : 0 < base) (hz : base.natAbs < 2 ^ 8999) (h : ∀ v a b c : Int, 0 ≤ v → v < base → P (.int v) (S.set n (pl a b c))) : Rok (m_l_next [.ref n, .int base] S) P := by
  obtain ⟨a, b, c, e⟩ := hp.ex
  have hn : n < S.length := hp.lt
  have el := lstOf_lst e
  have e' := (List.getElem?_eq_some_iff.mp e).2
  unfold m_l_next
  simp [rok_def, el, e', hn]
  constructor
  · intro ha
    exact ⟨hb, CDv_w (by omega) hz (by decide), h _ _ _ _ (Int.emod_nonneg _ (by omega)) (Int.emod_lt_of_pos _ hb)⟩
  · intro ha
    simp [hn, CMo]
    refine ⟨CM_l (by decide), CM_l ?_, CM_l ?_, CDv_w (b := 4) (by decide) (by decide) (by decide), hb, h _ _ _ _ (Int.emod_nonneg _ (by omega)) (Int.emod_lt_of_pos _ hb)⟩
    · have h1 := Int.emod_nonneg (b + 7919 * (c + 1)) (b := 1000000007) (by decide)
      have h2 := Int.emod_lt_of_pos (b + 7919 * (c + 1)) (b := 1000000007) (by decide)
      omega
    · have h1 := Int.emod_nonneg (((b + 7919 * (c + 1)) % 1000000007 + 11) * ((b + 7919 * (c + 1)) % 1000000007 + 48271)) (b := 998244353) (by decide)
      have h2 := Int.emod_lt_of_pos (((b + 7919 * (c + 1)) % 1000000007 + 11) * ((b + 7919 * (c + 1)) % 1000000007 + 48271)) (b := 998244353) (by decide)
      omega
theorem ix_all {l : List D} {i : Int} {P : D → Prop} (h0 : 0 ≤ i) (h1 : i < l.length) (h : ∀ x ∈ l, P x) : ∃ x, atI l i = some x ∧ P x := by
  have hi : i.toNat < l.length := by omega
  have := atI_nat (xs := l) (j := i.toNat) (v := l[i.toNat]) (by simp [hi])
  refine ⟨l[i.toNat], ?_, h _ (List.getElem_mem _)⟩
  rw [← this, Int.toNat_of_nonneg h0]
theorem sz_di {t b : Int} {k : Nat} (hb : b ≠ 0) (h1 : t.natAbs < 2 ^ k) (h2 : b.natAbs < 2 ^ k) : Sz (Rat.divInt t b) k := by
  constructor
  · rw [Rat.num_divInt, Int.gcd_comm]
    refine Nat.lt_of_le_of_lt natAbs_ediv_le ?_
    rw [Int.natAbs_mul]
    have : b.sign.natAbs ≤ 1 := by
      rw [Int.natAbs_sign]
      split <;> omega
    exact Nat.lt_of_le_of_lt (Nat.le_trans (Nat.mul_le_mul_right _ this) (by omega)) h1
  · rw [Rat.den_divInt, if_neg hb]
    exact Nat.lt_of_le_of_lt (Nat.div_le_self _ _) h2
theorem pool_eq {S : Store} {x : Int} : ∃ a b : Int, m_l_pool [.int x] S = .ok (.ref S.length) (S ++ [pl a b 0]) := by
  have key : Rok (m_l_pool [.int x] S) fun d S' => d = .ref S.length ∧ ∃ a b, S' = S ++ [pl a b 0] := by
    unfold m_l_pool
    simp [rok_def, CMo]
    exact CPow_s (by decide) (by decide) (by decide)
  obtain ⟨d, S', e, rfl, a, b, rfl⟩ := key
  exact ⟨a, b, e⟩
theorem pool_then {S : Store} {x : Int} {P : D → Store → Prop} (h : ∀ a b c : Int, P (.ref S.length) (S ++ [pl a b c])) : Rok (m_l_pool [.int x] S) P := by
  obtain ⟨a, b, e⟩ := pool_eq (S := S) (x := x)
  rw [e, rok_ok]
  exact h a b 0
@[simp] theorem set_last {S : Store} {c d : Cell} {C : Store} : (S ++ c :: C).set S.length d = S ++ d :: C := by
  rw [List.set_append_right _ _ (Nat.le_refl _)]
  simp
theorem law_gen {np slot : Nat} {pre body rest : SS} {si : SI} {ns : List Int} {m : Mf} (EI : Env → Prop) (hm : m = mkDef np 1 (sSeq pre (sSeq (sFor si (gN slot) body) rest)))
    (hpre : Sok (pre (some (.ref 0) :: List.replicate (np - 1) none) [.fro (ns.map Rg.D.int)]) { nx := fun e S' => EI e ∧ S' = [.fro (ns.map Rg.D.int)], rt := fun _ _ => False })
    (hit : ∀ e, EI e → Rok (si e [.fro (ns.map Rg.D.int)]) fun w S' => (∃ xs : List Int, w.items = xs.map Rg.D.int) ∧ (∃ C, S' = [.fro (ns.map Rg.D.int)] ++ C) ∧ ∀ C, w.chk (S' ++ C))
    (turn : ∀ (x : Int) (e : Env) (S : Store), EI e → Sok (body (e.set slot (some (.int x))) S) { nx := fun e' S' => EI e' ∧ ∃ C, S' = S ++ C, rt := fun _ _ => False, ct := fun e' S' => EI e' ∧ ∃ C, S' = S ++ C })
    (hrest : ∀ (e : Env) (S : Store), EI e → Sok (rest e S) { nx := fun _ _ => False, rt := fun d S' => d = .bl true ∧ ∃ C, S' = S ++ C }) :
    ∃ S', m [.ref 0] [.fro (ns.map Rg.D.int)] = .ok (.bl true) S' := by
  have key : Rok (m [.ref 0] [.fro (ns.map Rg.D.int)]) fun d _ => d = .bl true := by
    rw [hm, rok_def]
    refine ⟨rfl, ?_⟩
    rw [sok_seq]
    refine Sok.imp hpre ?_ (fun _ _ h => h.elim) (fun _ _ h => h.elim) (fun _ _ h => h.elim)
    rintro e _ ⟨he, rfl⟩
    dsimp only
    rw [sok_seq, sok_for]
    refine (hit e he).imp ?_
    rintro ⟨items, chk⟩ S1 ⟨⟨xs, hx⟩, ⟨C0, rfl⟩, hchk⟩
    dsimp only at hx hchk ⊢
    subst hx
    refine sok_forRun (fun _ e S' => EI e ∧ ∃ C, S' = [Cell.fro (ns.map Rg.D.int)] ++ C0 ++ C) _ (fun i e S' h => ?_) ?_ ?_ _ _ ⟨he, [], by simp⟩
    · obtain ⟨_, C, rfl⟩ := h
      exact hchk C
    · rintro i d e S' hi ⟨he, C, rfl⟩
      obtain ⟨x, _, rfl⟩ := List.mem_map.mp (List.mem_of_getElem? hi)
      simp only [gN_some]
      refine ⟨_, rfl, ?_⟩
      refine (turn x e _ he).imp ?_ ?_ ?_ ?_
      · rintro e S2 ⟨h1, C2, rfl⟩
        exact ⟨h1, C ++ C2, by simp⟩
      · exact fun _ _ h => h.elim
      · exact fun _ _ h => h.elim
      · rintro e S2 ⟨h1, C2, rfl⟩
        exact ⟨h1, C ++ C2, by simp⟩
    · rintro e S' ⟨he, C, rfl⟩
      refine (hrest e _ he).imp (fun _ _ h => h.elim) ?_ (fun _ _ h => h.elim) (fun _ _ h => h.elim)
      rintro d S2 ⟨rfl, C2, rfl⟩
      have := gc_app (S := [Cell.fro (ns.map Rg.D.int)]) (C := C0 ++ C ++ C2) (d := .bl true) (by simp)
      simp at this ⊢
      rw [this]
      simp
  obtain ⟨d, S', e, rfl⟩ := key
  exact ⟨S', e⟩
theorem comp_thenG {A : Type} {si : SI} {g : SG} {t : ST} {e : SE} {vs : List Nat} {env : Env} {S0 : Store} {P : D → Store → Prop} (S : Store) (l : List A) (enc : A → D) (p : A → Bool) (F : A → D)
    (hsi : Rok (si env S0) fun w S1 => S1 = S ∧ w.items = l.map enc ∧ ∀ acc : List D, w.chk (S ++ [.lst acc])) (hlen : l.length ≤ sizeLine)
    (step : ∀ x ∈ l, ∀ acc : List D, ∃ e', g (enc x) (wipeD env vs) (S ++ [.lst acc]) = some e' ∧ Rok (t e' (S ++ [.lst acc])) fun b S2 => S2 = S ++ [.lst acc] ∧ b = p x ∧ (b = true → Rok (e e' (S ++ [.lst acc])) fun y S3 => S3 = S ++ [.lst acc] ∧ y = F x))
    (hP : P (.ref S.length) (S ++ [.lst ((l.filter p).map F)])) : Rok (sComp si g t e vs env S0) P := by
  rw [rok_comp]
  refine hsi.imp ?_
  rintro ⟨items, chk⟩ S1 ⟨rfl, hit, hchk⟩
  dsimp only at hit hchk ⊢
  subst hit
  have key : ∀ (l' : List A) (acc : List D), (∀ x ∈ l', x ∈ l) → acc.length + l'.length ≤ sizeLine → P (.ref S1.length) (S1 ++ [.lst (acc ++ (l'.filter p).map F)]) → Rok (compRun g t e chk S1.length (wipeD env vs) (l'.map enc) (S1 ++ [.lst acc])) fun _ S2 => P (.ref S1.length) S2 := by
    intro l'
    induction l' with
    | nil =>
      intro acc _ _ h
      rw [List.map_nil, rok_compNil]
      exact ⟨hchk acc, by simpa using h⟩
    | cons d l' ih =>
      intro acc hm hz h
      rw [List.map_cons, rok_compCons]
      obtain ⟨e', h1, b, S2, h2, rfl, rfl, h3⟩ := step d (hm d (by simp)) acc
      refine ⟨hchk acc, e', h1, _, _, h2, fun hb => ?_, fun hb => ?_⟩
      · obtain ⟨y, S3, q1, rfl, rfl⟩ := h3 hb
        refine ⟨_, _, q1, acc, by simp, by simp only [List.length_cons] at hz; omega, ?_⟩
        have : (S1 ++ [Cell.lst acc]).set S1.length (.lst (acc ++ [F d])) = S1 ++ [.lst (acc ++ [F d])] := by
          rw [List.set_append_right _ _ (Nat.le_refl _)]; simp
        rw [this]
        refine ih _ (fun x hx => hm x (by simp [hx])) (by simp only [List.length_cons, List.length_append, List.length_nil] at hz ⊢; omega) ?_
        simpa [hb] using h
      · refine ih _ (fun x hx => hm x (by simp [hx])) (by simp only [List.length_cons] at hz; omega) ?_
        simpa [hb] using h
  exact key l [] (fun _ h => h) (by simpa using hlen) (by simpa using hP)
theorem comp_then {A : Type} {si : SI} {g : SG} {t : ST} {e : SE} {vs : List Nat} {env : Env} {S : Store} {P : D → Store → Prop} (l : List A) (enc : A → D) (p : A → Bool) (F : A → D)
    (hsi : Rok (si env S) fun w S1 => S1 = S ∧ w.items = l.map enc ∧ ∀ acc : List D, w.chk (S ++ [.lst acc])) (hlen : l.length ≤ sizeLine)
    (step : ∀ x ∈ l, ∀ acc : List D, ∃ e', g (enc x) (wipeD env vs) (S ++ [.lst acc]) = some e' ∧ Rok (t e' (S ++ [.lst acc])) fun b S2 => S2 = S ++ [.lst acc] ∧ b = p x ∧ (b = true → Rok (e e' (S ++ [.lst acc])) fun y S3 => S3 = S ++ [.lst acc] ∧ y = F x))
    (hP : P (.ref S.length) (S ++ [.lst ((l.filter p).map F)])) : Rok (sComp si g t e vs env S) P := comp_thenG S l enc p F hsi hlen step hP
theorem comp_map_then {A : Type} {si : SI} {g : SG} {e : SE} {vs : List Nat} {env : Env} {S : Store} {P : D → Store → Prop} (l : List A) (enc : A → D) (F : A → D)
    (hsi : Rok (si env S) fun w S1 => S1 = S ∧ w.items = l.map enc ∧ ∀ acc : List D, w.chk (S ++ [.lst acc])) (hlen : l.length ≤ sizeLine)
    (step : ∀ x ∈ l, ∀ acc : List D, ∃ e', g (enc x) (wipeD env vs) (S ++ [.lst acc]) = some e' ∧ Rok (e e' (S ++ [.lst acc])) fun y S3 => S3 = S ++ [.lst acc] ∧ y = F x)
    (hP : P (.ref S.length) (S ++ [.lst (l.map F)])) : Rok (sComp si g sYes e vs env S) P := by
  refine comp_then l enc (fun _ => true) F hsi hlen (fun x hx acc => ?_) ?_
  · obtain ⟨e', h1, h2⟩ := step x hx acc
    refine ⟨e', h1, ?_⟩
    rw [rok_yes]
    exact ⟨rfl, rfl, fun _ => h2⟩
  · rw [List.filter_eq_self.mpr (fun _ _ => rfl)]
    exact hP
theorem law_gen0 {np slot : Nat} {body rest : SS} {si : SI} {ns : List Int} {m : Mf} (EI : Env → Prop) (hm : m = mkDef np 1 (sSeq (sFor si (gN slot) body) rest)) (h0 : EI (some (.ref 0) :: List.replicate (np - 1) none))
    (hit : ∀ e, EI e → Rok (si e [.fro (ns.map Rg.D.int)]) fun w S' => (∃ xs : List Int, w.items = xs.map Rg.D.int) ∧ (∃ C, S' = [.fro (ns.map Rg.D.int)] ++ C) ∧ ∀ C, w.chk (S' ++ C))
    (turn : ∀ (x : Int) (e : Env) (S : Store), EI e → Sok (body (e.set slot (some (.int x))) S) { nx := fun e' S' => EI e' ∧ ∃ C, S' = S ++ C, rt := fun _ _ => False, ct := fun e' S' => EI e' ∧ ∃ C, S' = S ++ C })
    (hrest : ∀ (e : Env) (S : Store), EI e → Sok (rest e S) { nx := fun _ _ => False, rt := fun d S' => d = .bl true ∧ ∃ C, S' = S ++ C }) :
    ∃ S', m [.ref 0] [.fro (ns.map Rg.D.int)] = .ok (.bl true) S' :=
  law_gen (pre := sSkip) EI (hm.trans (congrArg (mkDef np 1) rfl)) (sok_skip.mpr ⟨h0, rfl⟩) hit turn hrest
end Rg
end
section
set_option exponentiation.threshold 10000
namespace Rg
open PySem L2
def p2 (j : Nat) : Int := ((2 ^ j : Nat) : Int)
@[simp] theorem rangeD_length (lo : Int) (n : Nat) : (rangeD lo n).length = n := rangeD_len lo n
end Rg
end
section
set_option exponentiation.threshold 10000
namespace Rg
open PySem L2
structure Ry where
  y : Rat
  u : Rat
deriving DecidableEq
structure T4 where
  a : Rat
  b : Rat
  c : Rat
  d : Rat
deriving DecidableEq
theorem Ry.ext' {r s : Ry} (h1 : r.y = s.y) (h2 : r.u = s.u) : r = s := by cases r; cases s; simp_all
theorem T4.ext' {r s : T4} (h1 : r.a = s.a) (h2 : r.b = s.b) (h3 : r.c = s.c) (h4 : r.d = s.d) : r = s := by cases r; cases s; simp_all
def eR (r : Ry) : D := .tup [eQ r.y, eQ r.u]
def eT (t : T4) : D := .tup [eQ t.a, eQ t.b, eQ t.c, eQ t.d]
def pR (r : Ry) : PyData := .tuple [pQ r.y, pQ r.u]
def pT (t : T4) : PyData := .tuple [pQ t.a, pQ t.b, pQ t.c, pQ t.d]
section
variable {S : Store} {N n k : Nat} {r s : Ry} {t v : T4} {P : D → Store → Prop} {p q x w : Rat}
@[simp] theorem eR_mk : D.tup [eQ p, eQ q] = eR ⟨p, q⟩ := rfl
@[simp] theorem eT_mk : D.tup [eQ p, eQ q, eQ x, eQ w] = eT ⟨p, q, x, w⟩ := rfl
@[simp] theorem eR_eta : eR ⟨r.y, r.u⟩ = eR r := rfl
@[simp] theorem pR_mk : PyData.tuple [pQ p, pQ q] = pR ⟨p, q⟩ := rfl
@[simp] theorem pT_mk : PyData.tuple [pQ p, pQ q, pQ x, pQ w] = pT ⟨p, q, x, w⟩ := rfl
@[simp] theorem eR_fr : (eR r).fresh N = none := by unfold eR; rw [fr_tup]; simp only [fr_cons, fr_nil, eQ_fr]; rfl
@[simp] theorem eR_un : (eR r).under N = true := by unfold eR; rw [un_tup]; simp only [un_cons, un_nil, eQ_un]; rfl
@[simp] theorem eR_on : (eR r).only N n = true := by unfold eR; rw [on_tup]; simp only [on_cons, on_nil, eQ_on]; rfl
@[simp] theorem eR_sb : (eR r).subst N = eR r := by unfold eR; rw [sb_tup]; simp only [sb_cons, sb_nil, eQ_sb]
@[simp] theorem eT_fr : (eT t).fresh N = none := by unfold eT; rw [fr_tup]; simp only [fr_cons, fr_nil, eQ_fr]; rfl
@[simp] theorem eT_un : (eT t).under N = true := by unfold eT; rw [un_tup]; simp only [un_cons, un_nil, eQ_un]; rfl
@[simp] theorem eT_on : (eT t).only N n = true := by unfold eT; rw [on_tup]; simp only [on_cons, on_nil, eQ_on]; rfl
@[simp] theorem eT_sb : (eT t).subst N = eT t := by unfold eT; rw [sb_tup]; simp only [sb_cons, sb_nil, eQ_sb]
@[simp] theorem eR_ty : tyOf S (eR r) = some .tup := rfl
@[simp] theorem eT_ty : tyOf S (eT t) = some .tup := rfl
@[simp] theorem eR_non : (eR r).isNon = false := rfl
@[simp] theorem eT_non : (eT t).isNon = false := rfl
@[simp] theorem eR_i0 : Rok (fIx (eR r) (.int 0) S) P ↔ P (eQ r.y) S := by unfold eR; rw [rok_ixT]; simp
@[simp] theorem eR_i1 : Rok (fIx (eR r) (.int 1) S) P ↔ P (eQ r.u) S := by unfold eR; rw [rok_ixT]; simp
@[simp] theorem eT_i0 : Rok (fIx (eT t) (.int 0) S) P ↔ P (eQ t.a) S := by unfold eT; rw [rok_ixT]; simp
@[simp] theorem eT_i1 : Rok (fIx (eT t) (.int 1) S) P ↔ P (eQ t.b) S := by unfold eT; rw [rok_ixT]; simp
@[simp] theorem eT_i2 : Rok (fIx (eT t) (.int 2) S) P ↔ P (eQ t.c) S := by unfold eT; rw [rok_ixT]; simp
@[simp] theorem eT_i3 : Rok (fIx (eT t) (.int 3) S) P ↔ P (eQ t.d) S := by unfold eT; rw [rok_ixT]; simp
@[simp] theorem eR_len : Rok (fLen [eR r] S) P ↔ P (.int 2) S := by unfold eR; rw [rok_lenT]; rfl
@[simp] theorem eT_len : Rok (fLen [eT t] S) P ↔ P (.int 4) S := by unfold eT; rw [rok_lenT]; rfl
@[simp] theorem toP_eR : toP S (k + 2) (eR r) = some (pR r) := by unfold eR pR; rw [toP_tup]; simp only [allP_cons, allP_nil, toP_eQ]; rfl
@[simp] theorem toP_eR60 : toP S 60 (eR r) = some (pR r) := toP_eR
@[simp] theorem toP_eR59 : toP S 59 (eR r) = some (pR r) := toP_eR
@[simp] theorem toP_eR58 : toP S 58 (eR r) = some (pR r) := toP_eR
@[simp] theorem toP_eT : toP S (k + 2) (eT t) = some (pT t) := by unfold eT pT; rw [toP_tup]; simp only [allP_cons, allP_nil, toP_eQ]; rfl
@[simp] theorem toP_eT60 : toP S 60 (eT t) = some (pT t) := toP_eT
@[simp] theorem toP_eT59 : toP S 59 (eT t) = some (pT t) := toP_eT
@[simp] theorem toP_eT58 : toP S 58 (eT t) = some (pT t) := toP_eT
@[simp] theorem ev_R : PyData.eqv (pR r) (pR s) = decide (r = s) := by
  unfold pR
  rw [ev_tup, ev_all1, ev_all1, ev_all0, ev_Q, ev_Q, Bool.eq_iff_iff]
  simp
  exact ⟨fun ⟨a, b⟩ => Ry.ext' a b, fun h => by subst h; exact ⟨rfl, rfl⟩⟩
@[simp] theorem ev_T : PyData.eqv (pT t) (pT v) = decide (t = v) := by
  unfold pT
  rw [ev_tup, ev_all1, ev_all1, ev_all1, ev_all1, ev_all0, ev_Q, ev_Q, ev_Q, ev_Q, Bool.eq_iff_iff]
  simp
  exact ⟨fun ⟨a, b, c, d⟩ => T4.ext' a b c d, fun h => by subst h; exact ⟨rfl, rfl, rfl, rfl⟩⟩
@[simp] theorem gT_eQ {f : List D → Env → Store → Option Env} {env : Env} : gT 2 f (eQ p) env S = f [.int p.num, .int (p.den : Nat)] env S := rfl
@[simp] theorem gT_eR {f : List D → Env → Store → Option Env} {env : Env} : gT 2 f (eR r) env S = f [eQ r.y, eQ r.u] env S := rfl
@[simp] theorem gT_eT {f : List D → Env → Store → Option Env} {env : Env} : gT 4 f (eT t) env S = f [eQ t.a, eQ t.b, eQ t.c, eQ t.d] env S := rfl
@[simp] theorem iter_eR {P : Wk → Store → Prop} : Rok (fIter (eR r) S) P ↔ P ⟨[eQ r.y, eQ r.u], fun _ => True⟩ S := by unfold eR; exact rok_fIterT
@[simp] theorem iter_eT {P : Wk → Store → Prop} : Rok (fIter (eT t) S) P ↔ P ⟨[eQ t.a, eQ t.b, eQ t.c, eQ t.d], fun _ => True⟩ S := by unfold eT; exact rok_fIterT
@[simp] theorem zip_eR {P : Wk → Store → Prop} : Rok (fZip [eR r, eR s] S) P ↔ P ⟨[.tup [eQ r.y, eQ s.y], .tup [eQ r.u, eQ s.u]], fun _ => True⟩ S := by unfold eR; rw [rok_zipT]; rfl
@[simp] theorem zip_eT {P : Wk → Store → Prop} : Rok (fZip [eT t, eT v] S) P ↔ P ⟨[.tup [eQ t.a, eQ v.a], .tup [eQ t.b, eQ v.b], .tup [eQ t.c, eQ v.c], .tup [eQ t.d, eQ v.d]], fun _ => True⟩ S := by unfold eT; rw [rok_zipT]; rfl
end
namespace T4
def one : T4 := ⟨1, 0, 0, 1⟩
def led (t : T4) (r : Ry) : Ry := ⟨t.a * r.y + t.b * r.u, t.c * r.y + t.d * r.u⟩
def thn (s t : T4) : T4 := ⟨t.a * s.a + t.b * s.c, t.a * s.b + t.b * s.d, t.c * s.a + t.d * s.c, t.c * s.b + t.d * s.d⟩
def undone (t : T4) : T4 := ⟨t.d, -t.b, -t.c, t.a⟩
def turned (t : T4) : T4 := ⟨t.d, t.b, t.c, t.a⟩
def neg (t : T4) : T4 := ⟨-t.a, -t.b, -t.c, -t.d⟩
def det (t : T4) : Rat := t.a * t.d - t.b * t.c
end T4
def Ry.cross (r s : Ry) : Rat := r.y * s.u - r.u * s.y
theorem rat_mul_den (q : Rat) : q * (q.den : Rat) = (q.num : Rat) := by
  have h : (q.den : Rat) ≠ 0 := by
    have := q.den_nz
    simpa using this
  have e := Rat.num_divInt_den q
  rw [Rat.divInt_eq_div, Rat.intCast_natCast] at e
  have e2 := Rat.div_mul_cancel (a := (q.num : Rat)) h
  rw [e] at e2
  exact e2
def Ov (D : Nat) (k : Nat) (q : Rat) : Prop := ∃ x : Int, x.natAbs < 2 ^ k ∧ q * (D : Rat) = (x : Rat)
theorem Ov.sz {D k : Nat} {q : Rat} (h0 : 0 < D) (hD : D < 2 ^ k) (h : Ov D k q) : Sz q k := by
  obtain ⟨x, hx, e⟩ := h
  have hne : ((D : Int) : Rat) ≠ 0 := by simp; omega
  have : q = Rat.divInt x (D : Int) := by
    rw [Rat.divInt_eq_div, ← e]
    have := Rat.mul_div_cancel (a := q) hne
    exact this.symm
  rw [this]
  exact sz_di (by omega) hx (by simpa using hD)
theorem Sz.ov {q : Rat} {k : Nat} (h : Sz q k) : Ov q.den k q := ⟨q.num, h.num, rat_mul_den q⟩
theorem Ov.mul {D E k m : Nat} {p q : Rat} (hp : Ov D k p) (hq : Ov E m q) : Ov (D * E) (k + m) (p * q) := by
  obtain ⟨x, hx, e⟩ := hp
  obtain ⟨y, hy, f⟩ := hq
  refine ⟨x * y, by rw [Int.natAbs_mul]; exact mul_lt2 hx hy, ?_⟩
  rw [Rat.natCast_mul, Rat.intCast_mul, ← e, ← f]
  grind
theorem Ov.add {D k m : Nat} {p q : Rat} (hp : Ov D k p) (hq : Ov D m q) (hk : k ≤ m) : Ov D (m + 1) (p + q) := by
  obtain ⟨x, hx, e⟩ := hp
  obtain ⟨y, hy, f⟩ := hq
  refine ⟨x + y, ?_, ?_⟩
  · have := pow_le hk
    rw [Nat.pow_succ]
    omega
  · rw [Rat.intCast_add, ← e, ← f]
    grind
theorem Ov.neg {D k : Nat} {p : Rat} (hp : Ov D k p) : Ov D k (-p) := by
  obtain ⟨x, hx, e⟩ := hp
  refine ⟨-x, by omega, ?_⟩
  rw [Rat.intCast_neg, ← e]
  grind
theorem Ov.mono {D k m : Nat} {p : Rat} (hp : Ov D k p) (h : k ≤ m) : Ov D m p := by
  obtain ⟨x, hx, e⟩ := hp
  exact ⟨x, Nat.lt_of_lt_of_le hx (pow_le h), e⟩
theorem Ov.zero {D k : Nat} : Ov D k 0 := ⟨0, by simp; exact Nat.pow_pos (by decide), by simp⟩
theorem Ov.one {D k : Nat} (h : D < 2 ^ k) : Ov D k 1 := ⟨D, by simpa using h, by rw [Rat.one_mul, Rat.intCast_natCast]⟩
theorem Ov.up {D E k m : Nat} {p : Rat} (hp : Ov D k p) (hE : E < 2 ^ m) : Ov (D * E) (k + m) p := by
  have := hp.mul (Ov.one hE)
  rwa [Rat.mul_one] at this
class SzT (t : T4) (k : outParam Nat) : Prop where
  ex : ∃ D : Nat, 0 < D ∧ D < 2 ^ k ∧ Ov D k t.a ∧ Ov D k t.b ∧ Ov D k t.c ∧ Ov D k t.d
class SzR (r : Ry) (k : outParam Nat) : Prop where
  ex : ∃ D : Nat, 0 < D ∧ D < 2 ^ k ∧ Ov D k r.y ∧ Ov D k r.u
theorem SzT.mono {t : T4} {k m : Nat} (h : SzT t k) (hk : k ≤ m) : SzT t m := by
  obtain ⟨D, h0, h1, a, b, c, d⟩ := h.ex
  exact ⟨D, h0, Nat.lt_of_lt_of_le h1 (pow_le hk), a.mono hk, b.mono hk, c.mono hk, d.mono hk⟩
theorem SzR.mono {t : Ry} {k m : Nat} (h : SzR t k) (hk : k ≤ m) : SzR t m := by
  obtain ⟨D, h0, h1, a, b⟩ := h.ex
  exact ⟨D, h0, Nat.lt_of_lt_of_le h1 (pow_le hk), a.mono hk, b.mono hk⟩
section
variable {t v : T4} {r s : Ry} {i j k : Nat} {p q : Rat}
instance [h : SzT t k] : Sz t.a k := by obtain ⟨D, h0, h1, a, b, c, d⟩ := h.ex; exact a.sz h0 h1
instance [h : SzT t k] : Sz t.b k := by obtain ⟨D, h0, h1, a, b, c, d⟩ := h.ex; exact b.sz h0 h1
instance [h : SzT t k] : Sz t.c k := by obtain ⟨D, h0, h1, a, b, c, d⟩ := h.ex; exact c.sz h0 h1
instance [h : SzT t k] : Sz t.d k := by obtain ⟨D, h0, h1, a, b, c, d⟩ := h.ex; exact d.sz h0 h1
instance [h : SzR r k] : Sz r.y k := by obtain ⟨D, h0, h1, a, b⟩ := h.ex; exact a.sz h0 h1
instance [h : SzR r k] : Sz r.u k := by obtain ⟨D, h0, h1, a, b⟩ := h.ex; exact b.sz h0 h1
instance [hp : Sz p i] [hq : Sz q j] : SzR ⟨p, q⟩ (i + j) := by
  refine ⟨p.den * q.den, Nat.mul_pos p.den_pos q.den_pos, mul_lt2 hp.den hq.den, hp.ov.up hq.den, ?_⟩
  have := hq.ov.up hp.den
  rwa [Nat.mul_comm, Nat.add_comm] at this
theorem two_lt {x y : Nat} {i j : Nat} (h : x < 2 ^ i) (h' : y < 2 ^ j) : x * y < 2 ^ (i + j + 1) := Nat.lt_of_lt_of_le (mul_lt2 h h') (pow_le (by omega))
instance [h : SzT t i] [g : SzT v j] : SzT (t.thn v) (i + j + 1) := by
  obtain ⟨D, h0, h1, a, b, c, d⟩ := h.ex
  obtain ⟨E, g0, g1, a', b', c', d'⟩ := g.ex
  refine ⟨E * D, Nat.mul_pos g0 h0, by rw [Nat.add_comm i j]; exact two_lt g1 h1, ?_, ?_, ?_, ?_⟩ <;> (rw [Nat.add_comm i j])
  · exact (a'.mul a).add (b'.mul c) (Nat.le_refl _)
  · exact (a'.mul b).add (b'.mul d) (Nat.le_refl _)
  · exact (c'.mul a).add (d'.mul c) (Nat.le_refl _)
  · exact (c'.mul b).add (d'.mul d) (Nat.le_refl _)
instance [h : SzT t i] [g : SzR r j] : SzR (t.led r) (i + j + 1) := by
  obtain ⟨D, h0, h1, a, b, c, d⟩ := h.ex
  obtain ⟨E, g0, g1, y, u⟩ := g.ex
  exact ⟨D * E, Nat.mul_pos h0 g0, two_lt h1 g1, (a.mul y).add (b.mul u) (Nat.le_refl _), (c.mul y).add (d.mul u) (Nat.le_refl _)⟩
instance [h : SzT t i] : SzT t.turned i := by
  obtain ⟨D, h0, h1, a, b, c, d⟩ := h.ex
  exact ⟨D, h0, h1, d, b, c, a⟩
instance [h : SzT t i] : SzT t.undone i := by
  obtain ⟨D, h0, h1, a, b, c, d⟩ := h.ex
  exact ⟨D, h0, h1, d, b.neg, c.neg, a⟩
instance [h : SzT t i] : SzT t.neg i := by
  obtain ⟨D, h0, h1, a, b, c, d⟩ := h.ex
  exact ⟨D, h0, h1, a.neg, b.neg, c.neg, d.neg⟩
instance : SzT T4.one 1 := ⟨1, by decide, by decide, Ov.one (by decide), Ov.zero, Ov.zero, Ov.one (by decide)⟩
instance [h : SzR r i] [g : SzR s j] : Sz (r.cross s) (i + j + 1) := by
  obtain ⟨D, h0, h1, y, u⟩ := h.ex
  obtain ⟨E, g0, g1, z, w⟩ := g.ex
  refine Ov.sz (D := D * E) (Nat.mul_pos h0 g0) (two_lt h1 g1) ?_
  unfold Ry.cross
  rw [Rat.sub_eq_add_neg]
  exact (y.mul w).add (u.mul z).neg (Nat.le_refl _)
theorem szT_gap (h : Sz q k) : SzT ⟨1, q, 0, 1⟩ k := ⟨q.den, q.den_pos, h.den, Ov.one h.den, h.ov, Ov.zero, Ov.one h.den⟩
theorem szT_glass (h : Sz q k) : SzT ⟨1, 0, q, 1⟩ k := ⟨q.den, q.den_pos, h.den, Ov.one h.den, Ov.zero, h.ov, Ov.one h.den⟩
instance [h : Sz q k] : SzT ⟨1, q, 0, 1⟩ k := szT_gap h
instance [h : Sz q k] : SzT ⟨1, 0, q, 1⟩ k := szT_glass h
instance [hp : Sz p i] [hq : Sz q j] : SzT ⟨p, 0, 0, q⟩ (i + j) := by
  refine ⟨p.den * q.den, Nat.mul_pos p.den_pos q.den_pos, mul_lt2 hp.den hq.den, hp.ov.up hq.den, Ov.zero, Ov.zero, ?_⟩
  have := hq.ov.up hp.den
  rwa [Nat.mul_comm, Nat.add_comm] at this
end
section
variable {s t v : T4} {r q : Ry}
def Ry.mir (r : Ry) : Ry := ⟨r.y, -r.u⟩
instance {r : Ry} {k : Nat} [h : SzR r k] : SzR r.mir k := by
  obtain ⟨D, h0, h1, a, b⟩ := h.ex
  exact ⟨D, h0, h1, a, b.neg⟩
end
section
variable {p q x w : Rat} {i j k l : Nat}
instance (priority := low) szT_any [hp : Sz p i] [hq : Sz q j] [hx : Sz x k] [hw : Sz w l] : SzT ⟨p, q, x, w⟩ (i + j + k + l) := by
  refine ⟨p.den * q.den * x.den * w.den, Nat.mul_pos (Nat.mul_pos (Nat.mul_pos p.den_pos q.den_pos) x.den_pos) w.den_pos, mul_lt2 (mul_lt2 (mul_lt2 hp.den hq.den) hx.den) hw.den, ?_, ?_, ?_, ?_⟩
  · exact ((hp.ov.up hq.den).up hx.den).up hw.den
  · have := hq.ov.up hp.den
    rw [Nat.mul_comm, Nat.add_comm] at this
    exact (this.up hx.den).up hw.den
  · have := hx.ov.up (mul_lt2 hp.den hq.den)
    rw [Nat.mul_comm, Nat.add_comm] at this
    exact this.up hw.den
  · have := hw.ov.up (mul_lt2 (mul_lt2 hp.den hq.den) hx.den)
    rw [Nat.mul_comm, Nat.add_comm] at this
    exact this
end
section
variable {S : Store} {r s : Ry} {P : D → Store → Prop}
@[simp] theorem plus_RR : Rok (fPlus (eR r) (eR s) S) P ↔ P (eT ⟨r.y, r.u, s.y, s.u⟩) S := by
  unfold eR
  rw [rok_plusT]
  simp
@[simp] theorem toP_ref60 {n : Nat} : toP S 60 (.ref n) = (lstOf S n).bind fun l => (allP (toP S 59) l).map PyData.list := by
  show (match lstOf S n with
    | some l => (allP (toP S 59) l).map PyData.list
    | none => none) = _
  cases lstOf S n <;> rfl
@[simp] theorem toP_ref59 {n : Nat} : toP S 59 (.ref n) = (lstOf S n).bind fun l => (allP (toP S 58) l).map PyData.list := by
  show (match lstOf S n with
    | some l => (allP (toP S 58) l).map PyData.list
    | none => none) = _
  cases lstOf S n <;> rfl
end
end Rg
end
section
set_option exponentiation.threshold 10000
namespace Rg
open PySem L2
theorem divInt_pos {x y : Int} (hx : 0 < x) (hy : 0 < y) : 0 < Rat.divInt x y := by
  rw [Rat.divInt_eq_div, Rat.div_def]
  exact Rat.mul_pos (Rat.intCast_pos.mpr hx) (Rat.inv_pos.mpr (Rat.intCast_pos.mpr hy))
def tpow (t : T4) : Nat → T4
  | 0 => T4.one
  | n + 1 => (tpow t n).thn t
instance {t : T4} {k n : Nat} [h : SzT t k] : SzT (tpow t n) (1 + n * (k + 1)) := by
  induction n with
  | zero => exact SzT.mono (inferInstance : SzT T4.one 1) (by omega)
  | succ n ih =>
    have : SzT ((tpow t n).thn t) (1 + n * (k + 1) + k + 1) := inferInstance
    exact this.mono (by rw [Nat.add_mul]; omega)
end Rg
end
section
set_option exponentiation.threshold 10000
namespace Rg
open PySem L2
inductive Pt where
  | gap (g : Rat) | glass (p : Rat) | stop (r : Rat)
deriving DecidableEq
namespace Pt
def word : Pt → Str
  | gap _ => "gap" | glass _ => "glass" | stop _ => "stop"
def num : Pt → Rat
  | gap g => g | glass p => p | stop r => r
def tab : Pt → T4
  | gap g => ⟨1, g, 0, 1⟩ | glass p => ⟨1, 0, -p, 1⟩ | stop _ => T4.one
def ok : Pt → Prop
  | gap g => 0 ≤ g | glass _ => True | stop r => 0 < r
end Pt
def eP (p : Pt) : D := .tup [.str p.word, eQ p.num]
def pP (p : Pt) : PyData := .tuple [.str p.word, pQ p.num]
@[simp] theorem ok_gap : PyData.strOk ("gap" : Str) = true := by decide +kernel
@[simp] theorem ok_glass : PyData.strOk ("glass" : Str) = true := by decide +kernel
@[simp] theorem ok_stop : PyData.strOk ("stop" : Str) = true := by decide +kernel
@[simp] theorem ne1 : (("gap" : Str) = "glass") = False := by simp only [eq_iff_iff, iff_false]; decide +kernel
@[simp] theorem ne2 : (("gap" : Str) = "stop") = False := by simp only [eq_iff_iff, iff_false]; decide +kernel
@[simp] theorem ne3 : (("glass" : Str) = "gap") = False := by simp only [eq_iff_iff, iff_false]; decide +kernel
@[simp] theorem ne4 : (("glass" : Str) = "stop") = False := by simp only [eq_iff_iff, iff_false]; decide +kernel
@[simp] theorem ne5 : (("stop" : Str) = "gap") = False := by simp only [eq_iff_iff, iff_false]; decide +kernel
@[simp] theorem ne6 : (("stop" : Str) = "glass") = False := by simp only [eq_iff_iff, iff_false]; decide +kernel
theorem word_ok (p : Pt) : PyData.strOk p.word = true := by
  cases p
  · exact ok_gap
  · exact ok_glass
  · exact ok_stop
theorem word_num {p q : Pt} (h : p.word = q.word) (h' : p.num = q.num) : p = q := by
  cases p <;> cases q <;> simp [Pt.word, Pt.num] at h h' ⊢ <;> exact h'
section
variable {S : Store} {N n k : Nat} {p q : Pt} {P : D → Store → Prop} {r : Rat}
@[simp] theorem eP_fr : (eP p).fresh N = none := by unfold eP; rw [fr_tup]; simp only [fr_cons, fr_nil, eQ_fr, fr_str]; rfl
@[simp] theorem eP_un : (eP p).under N = true := by unfold eP; rw [un_tup]; simp only [un_cons, un_nil, eQ_un, un_str]; rfl
@[simp] theorem eP_on : (eP p).only N n = true := by unfold eP; rw [on_tup]; simp only [on_cons, on_nil, eQ_on, on_str]; rfl
@[simp] theorem eP_sb : (eP p).subst N = eP p := by unfold eP; rw [sb_tup]; simp only [sb_cons, sb_nil, eQ_sb, sb_str]
@[simp] theorem eP_ty : tyOf S (eP p) = some .tup := rfl
@[simp] theorem eP_isNon : (eP p).isNon = false := rfl
@[simp] theorem eP_i0 : Rok (fIx (eP p) (.int 0) S) P ↔ P (.str p.word) S := by unfold eP; rw [rok_ixT]; simp
@[simp] theorem eP_i1 : Rok (fIx (eP p) (.int 1) S) P ↔ P (eQ p.num) S := by unfold eP; rw [rok_ixT]; simp
@[simp] theorem eP_len : Rok (fLen [eP p] S) P ↔ P (.int 2) S := by unfold eP; rw [rok_lenT]; rfl
@[simp] theorem eP_gap : D.tup [.str ("gap" : Str), eQ r] = eP (.gap r) := rfl
@[simp] theorem eP_glass : D.tup [.str ("glass" : Str), eQ r] = eP (.glass r) := rfl
@[simp] theorem eP_stop : D.tup [.str ("stop" : Str), eQ r] = eP (.stop r) := rfl
@[simp] theorem gT_eP {f : List D → Env → Store → Option Env} {env : Env} : gT 2 f (eP p) env S = f [.str p.word, eQ p.num] env S := rfl
theorem toP_eP : toP S (k + 2) (eP p) = some (pP p) := by
  unfold eP pP
  rw [toP_tup]
  simp only [allP_cons, allP_nil, toP_eQ, toP_str, word_ok, if_true]
  rfl
@[simp] theorem toP_eP60 : toP S 60 (eP p) = some (pP p) := toP_eP
@[simp] theorem toP_eP59 : toP S 59 (eP p) = some (pP p) := toP_eP
@[simp] theorem ev_P : PyData.eqv (pP p) (pP q) = decide (p = q) := by
  unfold pP
  rw [ev_tup, ev_all1, ev_all1, ev_all0, ev_str, ev_Q, Bool.eq_iff_iff]
  simp
  exact ⟨fun ⟨a, b⟩ => word_num a b, fun h => by subst h; exact ⟨rfl, rfl⟩⟩
end
theorem allP_map {A : Type} {f : D → Option PyData} {l : List A} {enc : A → D} {pen : A → PyData} (h : ∀ a ∈ l, f (enc a) = some (pen a)) : allP f (l.map enc) = some (l.map pen) := by
  induction l with
  | nil => rfl
  | cons a l ih =>
    rw [List.map_cons, allP_cons, h a (by simp), ih fun x hx => h x (by simp [hx])]
    rfl
theorem ev_map {A : Type} [DecidableEq A] {pen : A → PyData} (hp : ∀ a b, PyData.eqv (pen a) (pen b) = decide (a = b)) : ∀ {l m : List A}, PyData.eqvAll (l.map pen) (m.map pen) = decide (l = m)
  | [], [] => by simp
  | [], b :: m => by simp
  | a :: l, [] => by simp
  | a :: l, b :: m => by
    rw [List.map_cons, List.map_cons, ev_all1, hp, ev_map hp, Bool.eq_iff_iff]
    simp
section
variable {S : Store} {b c : List Pt} {r s : List Ry}
@[simp] theorem allP_bench : allP (toP S 59) (b.map eP) = some (b.map pP) := allP_map fun _ _ => toP_eP59
@[simp] theorem ev_bench : PyData.eqvAll (b.map pP) (c.map pP) = decide (b = c) := ev_map fun _ _ => ev_P
@[simp] theorem allP_rays : allP (toP S 59) (r.map eR) = some (r.map pR) := allP_map fun _ _ => toP_eR59
@[simp] theorem ev_rays : PyData.eqvAll (r.map pR) (s.map pR) = decide (r = s) := ev_map fun _ _ => ev_R
@[simp] theorem allP_rats {l : List Rat} : allP (toP S 59) (l.map eQ) = some (l.map pQ) := allP_map fun _ _ => toP_eQ59
@[simp] theorem ev_rats {l m : List Rat} : PyData.eqvAll (l.map pQ) (m.map pQ) = decide (l = m) := ev_map fun _ _ => ev_Q
@[simp] theorem un_rats {N : Nat} {l : List Rat} : unders N (l.map eQ) = true := un_map fun _ _ => eQ_un
@[simp] theorem allP_rep {k : Nat} {q : Rat} : allP (toP S 59) (List.replicate k (eQ q)) = some (List.replicate k (pQ q)) := by
  have := allP_rats (S := S) (l := List.replicate k q)
  rwa [List.map_replicate, List.map_replicate] at this
@[simp] theorem ev_rep {k : Nat} {q : Rat} : PyData.eqvAll (List.replicate k (pQ q)) (List.replicate k (pQ q)) = true := by
  have := ev_rats (l := List.replicate k q) (m := List.replicate k q)
  rw [List.map_replicate] at this
  rw [this]; simp
@[simp] theorem un_bench {N : Nat} : unders N (b.map eP) = true := un_map fun _ _ => eP_un
@[simp] theorem un_rays {N : Nat} : unders N (r.map eR) = true := un_map fun _ _ => eR_un
end
def tabOf (b : List Pt) : T4 := b.foldl (fun t p => t.thn p.tab) T4.one
structure Bk (b : List Pt) (k : Nat) : Prop where
  len : b.length ≤ 13
  sz : ∀ p ∈ b, Sz p.num k
  ok : ∀ p ∈ b, p.ok
end Rg
end
section
set_option exponentiation.threshold 10000
namespace Rg
open PySem L2
@[simp] theorem rok_countB {n : Nat} {k : Bool} {S : Store} {P : D → Store → Prop} : Rok (fCountB (.ref n) [.bl k] S) P ↔ ∃ l bs, lstOf S n = some l ∧ boolsD l = some bs ∧ P (.int (bs.count k : Nat)) S := by
  unfold fCountB
  cases h : lstOf S n with
  | none => simp [h]
  | some l => cases h2 : boolsD l <;> simp [h, h2]
@[simp] theorem rok_dct {env : Env} {S : Store} {P : D → Store → Prop} : Rok (sDct env S) P ↔ P (.ref S.length) (S ++ [.dct]) := by
  unfold sDct; simp
end Rg
end
section
set_option exponentiation.threshold 10000
namespace Rg
open PySem L2
@[simp] theorem rok_pop {n : Nat} {S : Store} {P : D → Store → Prop} : Rok (fPop (.ref n) [] S) P ↔ ∃ l y, S[n]? = some (.lst l) ∧ l[l.length - 1]? = some y ∧ P y (S.set n (.lst l.dropLast)) := by
  unfold fPop
  cases h : S[n]? with
  | none => simp [h]
  | some c =>
    cases c with
    | lst l => cases h2 : l[l.length - 1]? <;> simp [h, h2]
    | _ => simp [h]
@[simp] theorem rok_in {neg : Bool} {d e : D} {S : Store} {P : D → Store → Prop} : Rok (fIn neg d e S) P ↔ ∃ x ds, toP S 60 d = some x ∧ toP S 60 e = some (.list ds) ∧ P (.bl (if neg then !ds.any (fun z => PyData.eqv z x) else ds.any fun z => PyData.eqv z x)) S := by
  unfold fIn
  cases h : toP S 60 d with
  | none => simp
  | some x =>
    cases h2 : toP S 60 e with
    | none => simp
    | some y => cases y <;> simp
theorem rok_gcr {S C : Store} {k : Nat} {l : List D} {P : D → Store → Prop} (hk : C[k]? = some (.lst l)) (hu : unders S.length l = true) : Rok (gc S (.ref (S.length + k)) (S ++ C)) P ↔ P (.ref S.length) (S ++ [.lst l]) := by
  rw [gc_new (n := S.length + k) (l := l) (C := C) (by simp) (by simp) (by rw [List.getElem?_append_right (by omega)]; simpa using hk) hu, rok_ok]
  simp only [sb_ref]
  rw [if_neg (by omega)]
end Rg
end
section
set_option exponentiation.threshold 10000
namespace Rg
open PySem L2
namespace Pt
end Pt
def adj : List Pt → Prop
  | p :: q :: l => p.word ≠ q.word ∧ adj (q :: l)
  | _ => True
structure Bare (f : List Pt) : Prop where
  adj : adj f
  nz : ∀ p ∈ f, p.num ≠ 0
  ns : ∀ p ∈ f, p.word ≠ "stop"
  gp : ∀ p ∈ f, p.word = "gap" → 0 ≤ p.num
end Rg
end
section
set_option exponentiation.threshold 10000
namespace Rg
open PySem L2
end Rg
end
section
set_option exponentiation.threshold 10000
namespace Rg
open PySem L2
def nzP (b : List Pt) : List Pt := b.filter fun p => decide (p.num ≠ 0)
section
variable {S : Store} {t : T4} {n k : Nat} {b : List Pt}
def oneGap (t : T4) : List Pt := [.glass ((1 - t.a) / t.b), .gap t.b, .glass ((1 - t.d) / t.b)]
end
end Rg
end
section
set_option exponentiation.threshold 10000
namespace Rg
open PySem L2
structure FewG (t : T4) (l : List Pt) (n : Nat) : Prop where
  tab : tabOf l = t
  ns : ∀ p ∈ l, p.word ≠ ("stop" : Str)
  gp : ∀ p ∈ l, p.word = ("gap" : Str) → 0 ≤ p.num
  adj : adj (nzP l)
  many : ((nzP l).filter fun p => decide (p.word = ("gap" : Str))).length = n
  len : l.length ≤ 6
theorem few_one {t : T4} (h : t.det = 1) (hb : 0 < t.b) : FewG t (oneGap t) 1 := by
  have h0 : t.b ≠ 0 := by grind
  unfold T4.det at h
  refine ⟨?_, ?_, ?_, ?_, ?_, by simp [oneGap]⟩
  · apply T4.ext' <;> (simp only [oneGap, tabOf, List.foldl, T4.thn, Pt.tab, T4.one]; grind)
  · simp [oneGap, Pt.word]
  · simp [oneGap, Pt.word, Pt.num]; grind
  · unfold oneGap
    generalize (1 - t.a) / t.b = x
    generalize (1 - t.d) / t.b = y
    by_cases h1 : x = 0 <;> by_cases h2 : y = 0 <;> simp [nzP, Pt.num, h0, h1, h2, adj, Pt.word]
  · unfold oneGap
    generalize (1 - t.a) / t.b = x
    generalize (1 - t.d) / t.b = y
    by_cases h1 : x = 0 <;> by_cases h2 : y = 0 <;> simp [nzP, Pt.num, h0, h1, h2, Pt.word]
end Rg
end
section
set_option exponentiation.threshold 10000
namespace Rg
open PySem L2
structure Ent (t : T4) (m : Nat) : Prop where
  a : Sz t.a m
  b : Sz t.b m
  c : Sz t.c m
  d : Sz t.d m
end Rg
end
section
set_option exponentiation.threshold 10000
namespace Rg
open PySem L2
end Rg
end
section
set_option exponentiation.threshold 10000
namespace Rg
open PySem L2
structure FewS (t : T4) (l : List Pt) (n : Nat) : Prop where
  tab : tabOf l = t
  ns : ∀ p ∈ l, p.word ≠ ("stop" : Str)
  gp : ∀ p ∈ l, p.word = ("gap" : Str) → 0 ≤ p.num
  adj : adj (nzP l)
  many : ((nzP l).filter fun p => decide (p.word = ("glass" : Str))).length = n
  len : l.length ≤ 7
  nlen : (nzP l).length ≤ 6
end Rg
end
section
set_option exponentiation.threshold 10000
namespace Rg
open PySem L2
@[simp] theorem rok_minL {n : Nat} {S : Store} {P : D → Store → Prop} : Rok (fMinL [.ref n] S) P ↔ ∃ l r, lstOf S n = some l ∧ intsD l = some r ∧ r ≠ [] ∧ P (.int (minL r)) S := by
  unfold fMinL lst1
  cases h : lstOf S n with
  | none => simp [h]
  | some l =>
    cases h2 : intsD l with
    | none => simp [h, h2]
    | some r => cases r <;> simp [h, h2]
end Rg
end
section
set_option exponentiation.threshold 10000
namespace Rg
open PySem L2
end Rg
end
section
set_option exponentiation.threshold 10000
namespace Rg
open PySem L2
@[simp] theorem atI_last {α : Type} {l : List α} {x : α} : atI (l ++ [x]) (-1) = some x := by
  have h : atI (l ++ [x]) (-1) = (l ++ [x])[l.length]? := by
    unfold atI
    have : ixN (l ++ [x]).length (-1) = some l.length := by
      unfold ixN
      simp
      omega
    rw [this]
    rfl
  rw [h]
  simp
end Rg
end
section
set_option exponentiation.threshold 10000
namespace Rg
open PySem L2
def hit (b : List Pt) (r : Ry) (i : Nat) : Bool := match b[i]? with
  | some (.stop q) => decide (q < ((tabOf (b.take i)).led r).y.abs)
  | _ => false
theorem enum_get {l : List D} {i : Nat} {d : D} (h : (enumD l)[i]? = some d) : ∃ x, l[i]? = some x ∧ d = .tup [.int (i : Nat), x] := by
  unfold enumD at h
  rw [List.getElem?_map] at h
  obtain ⟨j, hj, rfl⟩ := Option.map_eq_some_iff.mp h
  have h1 := (List.getElem?_eq_some_iff.mp hj).1
  rw [List.length_range] at h1
  rw [List.getElem?_range h1] at hj
  cases hj
  refine ⟨l[i], List.getElem?_eq_getElem h1, ?_⟩
  rw [List.getD_eq_getElem?_getD, List.getElem?_eq_getElem h1]
  rfl
@[simp] theorem enum_len {l : List D} : (enumD l).length = l.length := by unfold enumD; simp
@[simp] theorem rok_enum {n : Nat} {S : Store} {P : Wk → Store → Prop} : Rok (fEnum [.ref n] S) P ↔ ∃ l, lstOf S n = some l ∧ P ⟨enumD l, fun S => lstOf S n = some l⟩ S := by
  unfold fEnum
  cases h : lstOf S n with
  | none => simp [h]
  | some l => simp [h]
@[simp] theorem atI_natm {l : List Pt} {i : Nat} {p : Pt} (h : l[i]? = some p) : atI (l.map eP) (i : Nat) = some (eP p) := atI_nat (by rw [List.getElem?_map, h]; rfl)
end Rg
end
section
set_option exponentiation.threshold 10000
namespace Rg
open PySem L2
theorem cut_to {l : List D} {k : Nat} (h : k ≤ l.length) : cutL l none (some (k : Nat)) = l.take k := by
  unfold cutL
  have h1 : HT.sIx l.length 0 none = 0 := rfl
  have h2 : HT.sIx l.length l.length (some (k : Int)) = k := by
    show (if (k : Int) < 0 then ((k : Int) + ((l.length : Nat) : Int)).toNat else min (k : Int).toNat l.length) = k
    rw [if_neg (by omega)]
    omega
  rw [h1, h2]; simp
theorem cut_from {l : List D} {k : Nat} (h : k ≤ l.length) : cutL l (some (k : Nat)) none = l.drop k := by
  unfold cutL
  have h1 : HT.sIx l.length l.length none = l.length := rfl
  have h2 : HT.sIx l.length 0 (some (k : Int)) = k := by
    show (if (k : Int) < 0 then ((k : Int) + ((l.length : Nat) : Int)).toNat else min (k : Int).toNat l.length) = k
    rw [if_neg (by omega)]
    omega
  rw [h1, h2, List.take_of_length_le (by simp)]
@[simp] theorem ixN_nat {n k : Nat} (h : k < n) : ixN n (k : Nat) = some k := by
  unfold ixN
  simp [h]
def Pt.wth : Pt → Rat → Pt
  | .gap _, q => .gap q | .glass _, q => .glass q | .stop _, q => .stop q
@[simp] theorem wth_tup {p : Pt} {q : Rat} : D.tup [.str p.word, eQ q] = eP (p.wth q) := by cases p <;> rfl
end Rg
end
section
set_option exponentiation.threshold 10000
namespace Rg
open PySem L2
def between (h t : Ry) : Prop := h.y.num * t.y.num < 0 ∨ (t.y - h.y ≠ 0 ∧ (h.y = 0 ∨ t.y = 0))
instance {h t : Ry} : Decidable (between h t) := by unfold between; infer_instance
def Ry.nz (r : Ry) : Prop := r.y ≠ 0 ∨ r.u ≠ 0
end Rg
end
section
set_option exponentiation.threshold 10000
namespace Rg
open PySem L2
end Rg
end
section
set_option exponentiation.threshold 10000
namespace Rg
open PySem L2
@[simp] theorem rok_min4 {i j k l : Int} {S : Store} {P : D → Store → Prop} : Rok (fMin4 [.int i, .int j, .int k, .int l] S) P ↔ P (.int (min (min (min i j) k) l)) S := rok_ok
@[simp] theorem rok_minA {i j k l : Int} {S : Store} {P : D → Store → Prop} : Rok (fMinA [.tup [.int i, .int j, .int k, .int l]] S) P ↔ P (.int (min (min (min i j) k) l)) S := rok_ok
@[simp] theorem rok_reverse {n : Nat} {S : Store} {P : D → Store → Prop} : Rok (fReverse (.ref n) [] S) P ↔ ∃ l, S[n]? = some (.lst l) ∧ P .non (S.set n (.lst l.reverse)) := by
  unfold fReverse
  cases h : S[n]? with
  | none => simp [h]
  | some c => cases c <;> simp [h]
def wordR (g : Bool) : Str := if g then "gap" else "glass"
def eRun (r : Run) : D := .tup [.str (wordR r.gap), .int r.n]
def eM (m : M4) : D := .tup [.int m.a, .int m.b, .int m.c, .int m.d]
def eMt (m : M4) : D := .tup [.tup [.int m.a, .int 1], .tup [.int m.b, .int 1], .tup [.int m.c, .int 1], .tup [.int m.d, .int 1]]
@[simp] theorem eM_fresh {m : M4} {k : Nat} : (eM m).fresh k = none := by simp [eM]
@[simp] theorem eMt_fresh {m : M4} {k : Nat} : (eMt m).fresh k = none := by simp [eMt]
@[simp] theorem eM_sb {m : M4} {k : Nat} : (eM m).subst k = eM m := by simp [eM]
structure Bd (m : M4) (k : Nat) : Prop where
  a : m.a.natAbs < 2 ^ k
  b : m.b.natAbs < 2 ^ k
  c : m.c.natAbs < 2 ^ k
  d : m.d.natAbs < 2 ^ k
section
variable {S : Store} {m : M4} {n k : Nat} {R : List Run}
theorem told_eq : m_l_told [eM m] S = .ok (eMt m) S := by
  refine Rok.eq ?_
  unfold m_l_told eM eMt
  simp [rok_def]
  refine comp_map_then [m.a, m.b, m.c, m.d] D.int (fun x => .tup [.int x, .int 1]) (by simp) (by simp) (fun x hx acc => by simp) ?_
  simp
theorem whole_eq : m_whole_entries [eMt m] S = .ok (eM m) S := by
  refine Rok.eq ?_
  unfold m_whole_entries eM eMt
  simp [rok_def, sok_for]
  refine comp_map_then [m.a, m.b, m.c, m.d] (fun x => .tup [.int x, .int 1]) D.int (by simp) (by simp) (fun x hx acc => by simp) ?_
  simp
theorem refuse_eq {c : Int} (h : c ≤ 4000) : m_refuse_many [.int c] S = .ok .non S := by
  refine Rok.eq ?_
  unfold m_refuse_many
  simp [rok_def, h]
theorem un_runs {k : Nat} {R : List Run} : unders k (R.map eRun) = true := un_map fun _ _ => by simp [eRun]
theorem sumN_app {R L : List Run} : sumN (R ++ L) = sumN R + sumN L := by simp [sumN]
theorem Bd.mul {s : Int} (hs : s = 1 ∨ s = -1) {r : Run} (hb : Bd m k) (h0 : 0 ≤ r.n) (h1 : r.n < 128) : Bd ((r.mat s).mul m) (k + 8) := by
  have e : (2 : Nat) ^ (k + 8) = 256 * 2 ^ k := by rw [Nat.pow_add]; omega
  have key : ∀ x y : Int, x.natAbs < 2 ^ k → y.natAbs < 2 ^ k → (x + r.n * y).natAbs < 2 ^ (k + 8) ∧ (x - r.n * y).natAbs < 2 ^ (k + 8) := fun x y hx hy => by
    have : (r.n * y).natAbs ≤ 128 * 2 ^ k := by
      rw [Int.natAbs_mul]
      exact Nat.mul_le_mul (by omega) (Nat.le_of_lt hy)
    generalize r.n * y = z at *
    rw [e]
    omega
  obtain ⟨g, n⟩ := r
  obtain ⟨a, b, c, d⟩ := hb
  have up : ∀ x : Int, x.natAbs < 2 ^ k → x.natAbs < 2 ^ (k + 8) := fun x hx => Nat.lt_of_lt_of_le hx (pow_le (by omega))
  have eg : ∀ s, ((⟨true, n⟩ : Run).mat s).mul m = ⟨m.a + n * m.c, m.b + n * m.d, m.c, m.d⟩ := fun s => by
    apply M4.ext' <;> simp [Run.mat, M4.mul]
  have e1 : ((⟨false, n⟩ : Run).mat 1).mul m = ⟨m.a, m.b, m.c - n * m.a, m.d - n * m.b⟩ := by
    apply M4.ext' <;> simp [Run.mat, M4.mul] <;> grind
  dsimp only at *
  cases g with
  | true =>
    rw [eg]
    exact ⟨(key _ _ a c).1, (key _ _ b d).1, up _ c, up _ d⟩
  | false =>
    rcases hs with rfl | rfl
    · rw [e1]
      exact ⟨up _ a, up _ b, (key _ _ c a).2, (key _ _ d b).2⟩
    · rw [mul_gla]
      exact ⟨up _ a, up _ b, (key _ _ c a).1, (key _ _ d b).1⟩
theorem Bd.mono {j : Nat} (h : Bd m k) (hj : k ≤ j) : Bd m j := by
  have := pow_le hj
  exact ⟨Nat.lt_of_lt_of_le h.a this, Nat.lt_of_lt_of_le h.b this, Nat.lt_of_lt_of_le h.c this, Nat.lt_of_lt_of_le h.d this⟩
theorem led_bd {s : Int} (hs : s = 1 ∨ s = -1) : ∀ R : List Run, (∀ r ∈ R, 0 ≤ r.n ∧ r.n < 128) → Bd (ledM s R) (1 + 8 * R.length) := by
  refine snoc_ind' ?_ ?_
  · intro _
    show Bd M4.one 1
    exact ⟨by decide, by decide, by decide, by decide⟩
  · intro R r ih h
    have := ih fun q hq => h q (by simp [hq])
    rw [ledM_snoc]
    refine ((this.mul hs (h r (by simp)).1 (h r (by simp)).2)).mono ?_
    simp
    omega
theorem ledM_take {s : Int} {i : Nat} {r : Run} (h : R[i]? = some r) : ledM s (R.take (i + 1)) = (r.mat s).mul (ledM s (R.take i)) := by
  have : R.take (i + 1) = R.take i ++ [r] := by rw [List.take_succ, h]; rfl
  rw [this, ledM_snoc]
theorem led4_eq {s : Int} (hs : s = 1 ∨ s = -1) (hn : lstOf S n = some (R.map eRun)) (hR : ∀ r ∈ R, 0 ≤ r.n ∧ r.n < 2 ^ 50) : m_l_led_4 [.ref n, .int s] S = .ok (eM (ledM s R)) S := by
  refine Rok.eq ?_
  unfold m_l_led_4
  simp [rok_def, sok_for, hn]
  refine sok_forRun (fun i e S' => S' = S ∧ ∃ o6 o7 o8, e = [some (.ref n), some (.int s), some (.int (ledM s (R.take i)).a), some (.int (ledM s (R.take i)).b), some (.int (ledM s (R.take i)).c), some (.int (ledM s (R.take i)).d), o6, o7, o8]) _ (fun i e S' h => ?_) ?_ ?_ _ _ ⟨rfl, none, none, none, rfl⟩
  · obtain ⟨rfl, _⟩ := h; exact hn
  · rintro i d e S' hi ⟨rfl, o6, o7, o8, rfl⟩
    rw [List.getElem?_map] at hi
    obtain ⟨r, hr, rfl⟩ := Option.map_eq_some_iff.mp hi
    obtain ⟨n0, n1⟩ := hR r (List.mem_of_getElem? hr)
    rw [ledM_take hr]
    generalize ledM s (R.take i) = m
    obtain ⟨g, n⟩ := r
    dsimp only at n0 n1
    have c1 : ∀ x, CM n x := fun x => CM_l (by omega)
    have c2 : CM s n := CM_r (by omega)
    have c3 : ∀ x, CM (s * n) x := fun x => CM_l (by rcases hs with rfl | rfl <;> omega)
    unfold eRun wordR
    cases g
    · simp [Run.mat, M4.mul, c2, c3]
      refine ⟨by grind, by grind⟩
    · simp [Run.mat, M4.mul, c1]
  · rintro e S' ⟨rfl, o6, o7, o8, rfl⟩
    simp [eM]
def foldM (s : Int) (R : List Run) : M4 := R.foldl (fun m r => m.mul (r.mat s)) M4.one
theorem fold_take {s : Int} {i : Nat} {r : Run} (h : R[i]? = some r) : foldM s (R.take (i + 1)) = (foldM s (R.take i)).mul (r.mat s) := by
  have : R.take (i + 1) = R.take i ++ [r] := by rw [List.take_succ, h]; rfl
  rw [this]
  simp [foldM]
theorem product_eq {m k : M4} (h : ∀ x y : Int, x ∈ [m.a, m.b, m.c, m.d] → y ∈ [k.a, k.b, k.c, k.d] → CM x y) : m_product [eM m, eM k] S = .ok (eM (m.mul k)) S := by
  have c := fun x y (hx : x ∈ [m.a, m.b, m.c, m.d]) (hy : y ∈ [k.a, k.b, k.c, k.d]) => h x y hx hy
  refine Rok.eq ?_
  unfold m_product eM
  simp [rok_def, M4.mul, c m.a k.a (by simp) (by simp), c m.b k.c (by simp) (by simp), c m.a k.b (by simp) (by simp), c m.b k.d (by simp) (by simp), c m.c k.a (by simp) (by simp), c m.d k.c (by simp) (by simp), c m.c k.b (by simp) (by simp), c m.d k.d (by simp) (by simp)]
theorem run_entries_eq {s : Int} {r : Run} (hs : s = 1 ∨ s = -1) : m_run_entries [.str (wordR r.gap), .int r.n, .int s] S = .ok (eM (r.mat s)) S := by
  have c1 : CM r.n s := CM_r (by rcases hs with rfl | rfl <;> decide)
  refine Rok.eq ?_
  unfold m_run_entries eM Run.mat wordR
  cases h : r.gap
  · simp [rok_def, c1]
  · simp [rok_def]
theorem product_of_eq {s : Int} (hs : s = 1 ∨ s = -1) (hn : lstOf S n = some (R.map eRun)) (hR : ∀ r ∈ R, 0 ≤ r.n ∧ r.n < 128) : m_product_of [.ref n, .int s] S = .ok (eM (foldM s R)) S := by
  have l1 : D.tup [.int 1, .int 0, .int 0, .int 1] = eM M4.one := rfl
  refine Rok.eq ?_
  unfold m_product_of
  simp [rok_def, sok_for, hn, l1]
  refine sok_forRun (fun i e S' => S' = S ∧ ∃ o3 o4, e = [some (.ref n), some (.int s), some (eM (foldM s (R.take i))), o3, o4]) _ (fun i e S' h => ?_) ?_ ?_ _ _ ⟨rfl, none, none, rfl⟩
  · obtain ⟨rfl, _⟩ := h; exact hn
  · rintro i d e S' hi ⟨rfl, o3, o4, rfl⟩
    rw [List.getElem?_map] at hi
    obtain ⟨r, hr, rfl⟩ := Option.map_eq_some_iff.mp hi
    obtain ⟨n0, n1⟩ := hR r (List.mem_of_getElem? hr)
    rw [fold_take hr]
    have hp := fun m => product_eq (S := S') (m := m) (k := r.mat s) fun x y _ hy => CM_r (by
      unfold Run.mat at hy
      split at hy
      · simp at hy
        rcases hy with rfl | rfl | rfl | rfl <;> omega
      · simp at hy
        rcases hs with rfl | rfl <;> rcases hy with rfl | rfl | rfl | rfl <;> omega)
    unfold eRun
    simp [run_entries_eq hs, hp]
  · rintro e S' ⟨rfl, o3, o4, rfl⟩
    simp
theorem run_table_eq {s : Int} (hs : s = 1 ∨ s = -1) (hl : R.length ≤ 1000) (hR : ∀ r ∈ R, 0 ≤ r.n ∧ r.n < 128) : m_run_table [.tup (R.map eRun), .int s] S = .ok (eMt (ledM s R)) S := by
  refine Rok.eq ?_
  unfold m_run_table
  simp [rok_def]
  rw [product_of_eq hs (R := R.reverse) (by simp) (fun r hr => hR r (by simpa using hr))]
  have e : foldM s R.reverse = ledM s R := prod_rev R
  rw [e]
  generalize ledM s R = m
  simp
  unfold eM eMt
  refine comp_map_then [m.a, m.b, m.c, m.d] D.int (fun x => .tup [.int x, .int 1]) (by simp) (by simp) (fun x hx acc => by simp) ?_
  simp
end
end Rg
end
section
set_option exponentiation.threshold 10000
namespace Rg
open PySem L2
def Shr (q : Rat) (A B : Int) : Prop := ∃ a b : Int, q = Rat.divInt a b ∧ 0 < a ∧ a ≤ A ∧ 0 < b ∧ b ≤ B
theorem Shr.pos {q : Rat} {A B : Int} (h : Shr q A B) : 0 < q := by
  obtain ⟨a, b, rfl, h1, _, h2, _⟩ := h
  exact divInt_pos h1 h2
theorem Shr.sz {q : Rat} {A B : Int} {k : Nat} (h : Shr q A B) (hA : A < 2 ^ k) (hB : B < 2 ^ k) : Sz q k := by
  obtain ⟨a, b, rfl, h1, h2, h3, h4⟩ := h
  have e : ((2 ^ k : Nat) : Int) = 2 ^ k := by push_cast; rfl
  refine sz_di (by omega) ?_ ?_
  · have : a < ((2 ^ k : Nat) : Int) := by rw [e]; omega
    omega
  · have : b < ((2 ^ k : Nat) : Int) := by rw [e]; omega
    omega
theorem Shr.piece {q : Rat} {A B v : Int} (h : Shr q A B) (v0 : 0 ≤ v) (v1 : v < 2) : Shr (q / ((2 + v : Int) : Rat)) A (B * 3) := by
  obtain ⟨a, b, rfl, h1, h2, h3, h4⟩ := h
  refine ⟨a, b * (2 + v), ?_, h1, h2, Int.mul_pos h3 (by omega), ?_⟩
  · rw [Rat.divInt_eq_div, Rat.divInt_eq_div, Rat.div_def, Rat.div_def, Rat.div_def, Rat.intCast_mul, Rat.inv_mul_rev, Rat.mul_assoc]
    congr 1
    exact Rat.mul_comm ..
  · have : b * (2 + v) ≤ b * 3 := Int.mul_le_mul_of_nonneg_left (by omega) (by omega)
    omega
theorem Shr.rest {q : Rat} {A B v : Int} (h : Shr q A B) (v0 : 0 ≤ v) (v1 : v < 2) : Shr (q - q / ((2 + v : Int) : Rat)) (A * 2) (B * 3) := by
  obtain ⟨a, b, rfl, h1, h2, h3, h4⟩ := h
  have hv : ((2 + v : Int) : Rat) ≠ 0 := by
    intro e
    have : (2 + v) = 0 := by exact_mod_cast e
    omega
  have hb : (b : Rat) ≠ 0 := by
    intro e
    have : b = 0 := by exact_mod_cast e
    omega
  refine ⟨a * (1 + v), b * (2 + v), ?_, Int.mul_pos h1 (by omega), ?_, Int.mul_pos h3 (by omega), ?_⟩
  · rw [Rat.divInt_eq_div, Rat.divInt_eq_div, Rat.intCast_mul, Rat.intCast_mul]
    have e1 : ((1 + v : Int) : Rat) = ((2 + v : Int) : Rat) - 1 := by
      push_cast
      grind
    rw [e1]
    generalize ((2 + v : Int) : Rat) = w at hv
    generalize (a : Rat) = x
    generalize (b : Rat) = y at hb
    grind
  · have : a * (1 + v) ≤ a * 2 := Int.mul_le_mul_of_nonneg_left (by omega) (by omega)
    omega
  · have : b * (2 + v) ≤ b * 3 := Int.mul_le_mul_of_nonneg_left (by omega) (by omega)
    omega
end Rg
end
section
set_option exponentiation.threshold 10000
namespace Rg
open PySem L2
theorem okw {w : Bool} : PyData.strOk (wordR w) = true := by
  cases w
  · exact ok_glass
  · exact ok_gap
theorem alt_put : ∀ {R : List Run} {r : Run}, alt R → (∀ q, R.getLast? = some q → q.gap ≠ r.gap) → alt (R ++ [r])
  | [], r, _, _ => trivial
  | [a], r, _, h => ⟨h a rfl, trivial⟩
  | a :: b :: R, r, h, g => ⟨h.1, alt_put (R := b :: R) h.2 fun q hq => g q (by simpa [List.getLast?_cons] using hq)⟩
section
variable {S : Store} {n m : Nat} {R L : List Run}
theorem runs_then {limit : Int} {P : D → Store → Prop} (hp : Pool S n) (h0 : 0 ≤ limit) (h1 : limit ≤ 12) (h : ∀ (R : List Run) (x y z : Int), Row R → (R.length : Int) ≤ limit → (∀ r ∈ R, r.n ≤ 60) → P (.ref S.length) (S.set n (pl x y z) ++ [.lst (R.map eRun)])) : Rok (m_l_runs [.ref n, .int limit] S) P := by
  have hn : n < S.length := hp.lt
  have hn' : ¬ S.length = n := by omega
  unfold m_l_runs
  simp [rok_def, sok_for]
  refine next_then (n := n) inferInstance (by decide) (by decide) fun v x y z v0 v1 => ?_
  simp [hn]
  refine ix_all (l := [.str "gap", .str "glass"]) v0 (by simpa using v1) fun d hd => ?_
  obtain ⟨g0, rfl⟩ : ∃ g, d = .str (wordR g) := by
    simp at hd
    rcases hd with rfl | rfl
    · exact ⟨true, rfl⟩
    · exact ⟨false, rfl⟩
  simp [sok_for]
  refine next_then (n := n) inferInstance (by omega) (Nat.lt_of_lt_of_le (show (limit + 1).natAbs < 2 ^ 10 by omega) (pow_le (by decide))) fun k x y z k0 k1 => ?_
  simp [hn]
  refine ⟨by omega, ?_⟩
  refine sok_forRun (fun i e S' => ∃ (R : List Run) (w : Bool) (x y z : Int) (A : Cell) (C : Store) (o4 o5 o6 : Option D), S' = S.set n (pl x y z) ++ A :: .lst (R.map eRun) :: C ∧ e = [some (.ref n), some (.int limit), some (.str (wordR w)), some (.ref (S.length + 1)), o4, o5, o6] ∧ R.length = i ∧ alt R ∧ (∀ q, R.getLast? = some q → q.gap = !w) ∧ ∀ r ∈ R, 1 ≤ r.n ∧ r.n ≤ 60) _ (fun i e S' h => trivial) ?_ ?_ _ _ ⟨[], g0, x, y, z, _, [], none, none, none, rfl, rfl, rfl, trivial, by simp, by simp⟩
  · rintro i d e S' hi ⟨R, w, x, y, z, A, C, o4, o5, o6, rfl, rfl, hl, halt, hlast, hR⟩
    have hi2 : i < k.toNat := by
      have := (List.getElem?_eq_some_iff.mp hi).1
      simpa using this
    simp [hn, hn']
    refine next_then (n := n) inferInstance (by decide) (by decide) fun p x y z p0 p1 => ?_
    simp [hn, hn']
    refine next_then (n := n) inferInstance (by decide) (by decide) fun q x y z q0 q1 => ?_
    simp [hn, hn']
    refine next_then (n := n) inferInstance (by decide) (by decide) fun u x y z u0 u1 => ?_
    simp [hn, hn']
    refine ix_all (l := [.int 1, .int 1, .int 1, .int 2, .int 2, .int 3, .int (1 + p), .int (1 + q)]) u0 (by simpa using u1) fun d hd => ?_
    obtain ⟨c, rfl, c0, c1⟩ : ∃ c : Int, d = .int c ∧ 1 ≤ c ∧ c ≤ 60 := by
      simp at hd
      rcases hd with rfl | rfl | rfl | rfl | rfl <;> exact ⟨_, rfl, by omega, by omega⟩
    have hA : alt (R ++ [⟨w, c⟩]) := alt_put halt fun q hq => by rw [hlast q hq]; cases w <;> simp
    have hB : ∀ r ∈ R ++ [⟨w, c⟩], 1 ≤ r.n ∧ r.n ≤ 60 := fun r hr => by
      rcases List.mem_append.mp hr with hr | hr
      · exact hR r hr
      · rw [List.mem_singleton.mp hr]; exact ⟨c0, c1⟩
    have hL : (R ++ [(⟨w, c⟩ : Run)]).length = i + 1 := by simp [hl]
    have hG : ∀ q, (R ++ [(⟨w, c⟩ : Run)]).getLast? = some q → q.gap = w := fun q hq => by simp at hq; rw [← hq]
    refine ⟨by omega, _, ⟨okw, rfl⟩, .str (wordR (!w)), ?_, R ++ [⟨w, c⟩], ⟨x, y, z, A, _, by simp [eRun]; rfl⟩, ?_⟩
    · cases w <;> rfl
    · cases w
      · exact .inr ⟨rfl, hL, hA, hG, hB⟩
      · exact .inl ⟨rfl, hL, hA, hG, hB⟩
  · rintro e S' ⟨R, w, x, y, z, A, C, o4, o5, o6, rfl, rfl, hl, halt, hlast, hR⟩
    simp
    rw [gc_poolN (k := S.length + 1) (l := R.map eRun) hn (by simp) (by simp) (by rw [List.getElem?_append_right (by simp)]; simp) un_runs, rok_ok]
    simp only [sb_ref]
    rw [if_neg (by omega)]
    refine h R x y z ⟨halt, fun r hr => (hR r hr).1⟩ ?_ fun r hr => (hR r hr).2
    simp at hl
    omega
def joinR (R L : List Run) : List Run := match R.getLast?, L with
  | some r, q :: L => if r.gap = q.gap then R.dropLast ++ [⟨r.gap, r.n + q.n⟩] ++ L else R ++ q :: L
  | _, _ => R ++ L
theorem alt_app : ∀ {R L : List Run}, alt R → alt L → (∀ r q, R.getLast? = some r → L.head? = some q → r.gap ≠ q.gap) → alt (R ++ L)
  | [], L, _, h, _ => h
  | [a], [], _, _, _ => trivial
  | [a], q :: L, _, h, g => ⟨g a q rfl rfl, h⟩
  | a :: b :: R, L, h, h2, g => ⟨h.1, alt_app (R := b :: R) h.2 h2 fun r q hr hq => g r q (by simpa [List.getLast?_cons] using hr) hq⟩
theorem alt_tail {r : Run} {R : List Run} (h : alt (r :: R)) : alt R := by
  cases R with
  | nil => trivial
  | cons q R => exact h.2
theorem alt_init : ∀ {R : List Run} {r : Run}, alt (R ++ [r]) → alt R
  | [], r, _ => trivial
  | [a], r, _ => trivial
  | a :: b :: R, r, h => ⟨h.1, alt_init (R := b :: R) h.2⟩
theorem alt_last : ∀ {R : List Run} {r : Run}, alt (R ++ [r]) → ∀ q, R.getLast? = some q → q.gap ≠ r.gap
  | [], r, _, q, hq => by simp at hq
  | [a], r, h, q, hq => by simp at hq; subst hq; exact h.1
  | a :: b :: R, r, h, q, hq => alt_last (R := b :: R) h.2 q (by simpa [List.getLast?_cons] using hq)
theorem alt_head {r : Run} {R : List Run} (h : alt (r :: R)) : ∀ q, R.head? = some q → r.gap ≠ q.gap := by
  cases R with
  | nil => intro q hq; simp at hq
  | cons b R => intro q hq; simp at hq; subst hq; exact h.1
theorem row_join (h1 : Row R) (h2 : Row L) : Row (joinR R L) := by
  unfold joinR
  split
  · rename_i r q L' hr
    obtain ⟨R', rfl⟩ := List.getLast?_eq_some_iff.mp hr
    split
    · rename_i e
      have a1 := alt_init h1.alt
      have a2 := alt_last h1.alt
      have a3 := alt_tail h2.alt
      have a4 := alt_head h2.alt
      have p1 := h1.pos r (by simp)
      have p2 := h2.pos q (by simp)
      rw [List.dropLast_concat]
      constructor
      · refine alt_app (alt_put a1 fun x hx => a2 x hx) a3 fun x y hx hy => ?_
        simp at hx
        rw [← hx, e]
        exact a4 y hy
      · intro x hx
        simp at hx
        rcases hx with hx | rfl | hx
        · exact h1.pos x (by simp [hx])
        · dsimp only; omega
        · exact h2.pos x (by simp [hx])
    · rename_i e
      constructor
      · refine alt_app h1.alt h2.alt fun x y hx hy => ?_
        simp at hx hy
        rw [← hx, ← hy]; exact e
      · intro x hx
        rcases List.mem_append.mp hx with hx | hx
        · exact h1.pos x hx
        · exact h2.pos x hx
  · rename_i hno
    constructor
    · refine alt_app h1.alt h2.alt fun x y hx hy => ?_
      obtain ⟨L2, e⟩ := List.head?_eq_some_iff.mp hy
      exact absurd e (fun e => hno x y L2 hx e)
    · intro x hx
      rcases List.mem_append.mp hx with hx | hx
      · exact h1.pos x hx
      · exact h2.pos x hx
theorem join_len : (joinR R L).length ≤ R.length + L.length := by
  unfold joinR
  split
  · rename_i r q L' hr
    have h0 : 0 < R.length := by
      rcases R with _ | ⟨a, R⟩
      · simp at hr
      · simp
    split
    · simp
    · simp
  · simp
def pRun (r : Run) : PyData := .tuple [.str (wordR r.gap), .int r.n]
@[simp] theorem toP_run {r : Run} {T : Store} {k : Nat} : toP T (k + 2) (eRun r) = some (pRun r) := by
  have := okw (w := r.gap)
  simp [eRun, pRun, toP, this]
@[simp] theorem allP_runs {T : Store} {R : List Run} : allP (toP T 59) (R.map eRun) = some (R.map pRun) := allP_map fun q _ => toP_run
theorem wordR_inj {a b : Bool} : wordR a = wordR b ↔ a = b := by
  cases a <;> cases b <;> simp [wordR] <;> decide +kernel
@[simp] theorem ev_run {r q : Run} : PyData.eqv (pRun r) (pRun q) = decide (r = q) := by
  have e : decide (r = q) = decide (r.gap = q.gap ∧ r.n = q.n) := by
    rw [decide_eq_decide]
    cases r; cases q; simp
  rw [e]
  by_cases h1 : r.gap = q.gap <;> by_cases h2 : r.n = q.n <;> simp [pRun, h1, h2, wordR_inj]
@[simp] theorem ev_runs {R L : List Run} : PyData.eqvAll (R.map pRun) (L.map pRun) = decide (R = L) := ev_map fun a b => ev_run
end
end Rg
end
namespace Rg
open M4
def jQ : M4 := ⟨0, 1, -1, 0⟩
def qp : Nat → M4
  | 0 => M4.one
  | n + 1 => jQ.mul (qp n)
theorem qp_add : ∀ {i j : Nat}, qp (i + j) = (qp i).mul (qp j)
  | 0, j => by simp only [Nat.zero_add]; exact M4.one_mul.symm
  | i + 1, j => by
    rw [show i + 1 + j = (i + j) + 1 by omega]
    show jQ.mul (qp (i + j)) = (jQ.mul (qp i)).mul (qp j)
    rw [qp_add, mul_assoc]
theorem qp_four : qp 4 = M4.one := by decide
theorem qp_mul4 : ∀ {k : Nat}, qp (4 * k) = M4.one
  | 0 => rfl
  | k + 1 => by rw [show 4 * (k + 1) = 4 + 4 * k by omega, qp_add, qp_mul4, qp_four, mul_one]
theorem qp_mod {i : Nat} : qp i = qp (i % 4) := by
  conv => lhs; rw [show i = i % 4 + 4 * (i / 4) by omega]
  rw [qp_add, qp_mul4, mul_one]
theorem mod_cases {i : Nat} : qp i = M4.one ∧ i % 4 = 0 ∨ qp i = jQ ∧ i % 4 = 1 ∨ qp i = ⟨-1, 0, 0, -1⟩ ∧ i % 4 = 2 ∨ qp i = ⟨0, -1, 1, 0⟩ ∧ i % 4 = 3 := by
  rw [qp_mod]
  have h : i % 4 < 4 := Nat.mod_lt _ (by decide)
  generalize i % 4 = k at *
  match k, h with
  | 0, _ => exact .inl ⟨rfl, rfl⟩
  | 1, _ => exact .inr (.inl ⟨by decide, rfl⟩)
  | 2, _ => exact .inr (.inr (.inl ⟨by decide, rfl⟩))
  | 3, _ => exact .inr (.inr (.inr ⟨by decide, rfl⟩))
def st (x : Int) (m : M4) : M4 := ⟨x * m.a - m.c, x * m.b - m.d, m.a, m.b⟩
def uu : List Int → M4
  | [] => jQ
  | x :: l => st x (uu l)
inductive Tail : List Int → Prop
  | one {x : Int} : 1 ≤ x → Tail [x]
  | cons {x : Int} {l : List Int} : 2 ≤ x → Tail l → Tail (x :: l)
inductive Gd : List Int → Prop
  | nil : Gd []
  | one {x : Int} : 1 ≤ x → Gd [x]
  | cons {x : Int} {l : List Int} : 1 ≤ x → Tail l → Gd (x :: l)
theorem tail_sign {l : List Int} (h : Tail l) : (uu l).c < (uu l).a ∧ 0 ≤ (uu l).c ∧ (uu l).d ≤ (uu l).b ∧ 0 < (uu l).d := by
  induction h with
  | one hx => simp [uu, st, jQ]; omega
  | cons hx _ ih =>
    obtain ⟨h1, h2, h3, h4⟩ := ih
    simp only [uu, st]
    rename_i x l _
    have e1 : 2 * (uu l).a ≤ x * (uu l).a := Int.mul_le_mul_of_nonneg_right hx (by omega)
    have e2 : 2 * (uu l).b ≤ x * (uu l).b := Int.mul_le_mul_of_nonneg_right hx (by omega)
    omega
theorem good_sign {l : List Int} (h : Gd l) (hn : l ≠ []) : 0 < (uu l).a ∧ 0 ≤ (uu l).b ∧ 0 ≤ (uu l).c ∧ 0 < (uu l).d ∧ (0 < (uu l).b ∨ 0 < (uu l).c) := by
  cases h with
  | nil => exact absurd rfl hn
  | one hx => simp [uu, st, jQ]; omega
  | cons hx ht =>
    obtain ⟨h1, h2, h3, h4⟩ := tail_sign ht
    simp only [uu, st]
    rename_i x l
    have e1 : 1 * (uu l).a ≤ x * (uu l).a := Int.mul_le_mul_of_nonneg_right hx (by omega)
    have e2 : 1 * (uu l).b ≤ x * (uu l).b := Int.mul_le_mul_of_nonneg_right hx (by omega)
    omega
theorem st_inj {x y : Int} {m k : M4} (e : st x m = st y k) (h1 : 0 ≤ m.c) (h2 : m.c < m.a) (h3 : 0 ≤ k.c) (h4 : k.c < k.a) : x = y ∧ m = k := by
  simp only [st, M4.mk.injEq] at e
  obtain ⟨e1, e2, e3, e4⟩ := e
  rw [← e3] at e1 h4
  have hxy : x = y := by
    have : (x - y) * m.a = m.c - k.c := by rw [Int.sub_mul]; omega
    refine Classical.byContradiction fun hne => ?_
    rcases Int.lt_or_gt_of_ne hne with h | h
    · have : (x - y) * m.a ≤ (-1) * m.a := Int.mul_le_mul_of_nonneg_right (by omega) (by omega)
      omega
    · have : 1 * m.a ≤ (x - y) * m.a := Int.mul_le_mul_of_nonneg_right (by omega) (by omega)
      omega
  subst hxy
  refine ⟨rfl, M4.ext' e3 e4 (by omega) (by rw [← e4] at e2; omega)⟩
theorem tail_inj : ∀ {l k : List Int}, Tail l → Tail k → uu l = uu k → l = k := by
  intro l k h
  induction h generalizing k with
  | one hx =>
    intro hk e
    cases hk with
    | one hy => simp [uu, st, jQ] at e; simp [e]
    | cons hy ht =>
      have := tail_sign ht
      have e3 : (uu _).c = (uu _).c := congrArg M4.c e
      simp [uu, st, jQ] at e3
      omega
  | cons hx ht ih =>
    intro hk e
    cases hk with
    | one hy =>
      have := tail_sign ht
      have e3 : (uu _).c = (uu _).c := congrArg M4.c e
      simp [uu, st, jQ] at e3
      omega
    | cons hy ht2 =>
      have s1 := tail_sign ht
      have s2 := tail_sign ht2
      obtain ⟨e1, e2⟩ := st_inj (show st _ (uu _) = st _ (uu _) from e) s1.2.1 s1.1 s2.2.1 s2.1
      rw [e1, ih ht2 e2]
theorem good_inj {l k : List Int} (h : Gd l) (hk : Gd k) (hn : l ≠ []) (hm : k ≠ []) (e : uu l = uu k) : l = k := by
  cases h with
  | nil => exact absurd rfl hn
  | one hx =>
    cases hk with
    | nil => exact absurd rfl hm
    | one hy => simp [uu, st, jQ] at e; simp [e]
    | cons hy ht =>
      have := tail_sign ht
      have e3 : (uu _).c = (uu _).c := congrArg M4.c e
      simp [uu, st, jQ] at e3
      omega
  | cons hx ht =>
    cases hk with
    | nil => exact absurd rfl hm
    | one hy =>
      have := tail_sign ht
      have e3 : (uu _).c = (uu _).c := congrArg M4.c e
      simp [uu, st, jQ] at e3
      omega
    | cons hy ht2 =>
      have s1 := tail_sign ht
      have s2 := tail_sign ht2
      obtain ⟨e1, e2⟩ := st_inj (show st _ (uu _) = st _ (uu _) from e) s1.2.1 s1.1 s2.2.1 s2.1
      rw [e1, tail_inj ht ht2 e2]
def qq (i j : Nat) (m : M4) : M4 := (qp i).mul (m.mul (qp j))
theorem qq_qq {i j k l : Nat} {m : M4} : qq i j (qq k l m) = qq (i + k) (l + j) m := by
  unfold qq
  rw [qp_add, qp_add]
  simp only [mul_assoc]
theorem qq_back {i j : Nat} {m k : M4} (h : qq i j m = k) : m = qq (3 * i) (3 * j) k := by
  rw [← h, qq_qq, qq]
  rw [show 3 * i + i = 4 * i by omega, show j + 3 * j = 4 * j by omega, qp_mul4, qp_mul4, one_mul, mul_one]
theorem qp_inj {i j : Nat} (h : qp i = qp j) : i % 4 = j % 4 := by
  rcases mod_cases (i := i) with ⟨h1, h2⟩ | ⟨h1, h2⟩ | ⟨h1, h2⟩ | ⟨h1, h2⟩ <;> rcases mod_cases (i := j) with ⟨h3, h4⟩ | ⟨h3, h4⟩ | ⟨h3, h4⟩ | ⟨h3, h4⟩ <;>
    first | omega | (rw [h1, h3] at h; exact absurd h (by decide))
theorem qq_nil {i j : Nat} : qq i j (uu []) = qp (i + 1 + j) := by
  show (qp i).mul (jQ.mul (qp j)) = _
  rw [qp_add, qp_add, mul_assoc]
  rfl
theorem nil_ne {l : List Int} {k : Nat} (h : Gd l) (hn : l ≠ []) (e : qp k = uu l) : False := by
  obtain ⟨h1, h2, h3, h4, h5⟩ := good_sign h hn
  rw [← e] at h1 h2 h3 h4 h5
  rcases mod_cases (i := k) with ⟨z, _⟩ | ⟨z, _⟩ | ⟨z, _⟩ | ⟨z, _⟩ <;> rw [z] at h1 h2 h3 h4 h5 <;> simp [jQ, M4.one] at h1 h2 h3 h4 h5
theorem uniq0 {l k : List Int} {i j : Nat} (h : Gd l) (hk : Gd k) (hn : l ≠ []) (hm : k ≠ []) (e : qq i j (uu l) = uu k) : l = k ∧ (i + j) % 4 = 0 := by
  have s1 := good_sign h hn
  have s2 := good_sign hk hm
  have inj := good_inj h hk hn hm
  generalize uu l = m at *
  generalize uu k = n at *
  obtain ⟨a, b, c, d⟩ := m
  obtain ⟨a', b', c', d'⟩ := n
  dsimp only at s1 s2
  unfold qq at e
  rcases mod_cases (i := i) with ⟨h1, h2⟩ | ⟨h1, h2⟩ | ⟨h1, h2⟩ | ⟨h1, h2⟩ <;> rcases mod_cases (i := j) with ⟨h3, h4⟩ | ⟨h3, h4⟩ | ⟨h3, h4⟩ | ⟨h3, h4⟩ <;>
    (rw [h1, h3] at e; simp [M4.mul, jQ, M4.one] at e) <;>
    first
      | (exfalso; omega)
      | exact ⟨inj (by simp; omega), by omega⟩
theorem uniq {l k : List Int} {i j p q : Nat} (h : Gd l) (hk : Gd k) (e : qq i j (uu l) = qq p q (uu k)) : l = k ∧ (i + j) % 4 = (p + q) % 4 := by
  by_cases hn : l = []
  · by_cases hm : k = []
    · subst hn hm
      rw [qq_nil, qq_nil] at e
      have := qp_inj e
      exact ⟨rfl, by omega⟩
    · subst hn
      rw [qq_nil] at e
      have := qq_back e.symm
      refine (nil_ne hk hm (k := 3 * p + (i + 1 + j) + 3 * q) ?_).elim
      rw [this, qp_add, qp_add, mul_assoc]
      rfl
  · by_cases hm : k = []
    · subst hm
      rw [qq_nil] at e
      have := qq_back e
      refine (nil_ne h hn (k := 3 * i + (p + 1 + q) + 3 * j) ?_).elim
      rw [this, qp_add, qp_add, mul_assoc]
      rfl
    · have := qq_back e.symm
      rw [qq_qq] at this
      obtain ⟨h1, h2⟩ := uniq0 h hk hn hm this.symm
      exact ⟨h1, by omega⟩
end Rg
namespace Rg
open M4
def lt (w : Bool) (n : Int) : M4 := (⟨w, n⟩ : Rg.Run).mat 1
def byT : Bool → List Int → List Rg.Run
  | _, [] => []
  | w, b :: l => ⟨w, b⟩ :: byT (!w) l
def prodR (R : List Rg.Run) : M4 := R.foldr (fun r m => (r.mat 1).mul m) M4.one
def ff (w : Bool) (l : List Int) : M4 := prodR (byT w l)
theorem ff_nil {w : Bool} : ff w [] = M4.one := by cases w <;> rfl
theorem ff_cons {w : Bool} {b : Int} {l : List Int} : ff w (b :: l) = (lt w b).mul (ff (!w) l) := rfl
theorem Q_lt {w : Bool} {n : Int} : jQ.mul (lt w n) = (lt (!w) n).mul jQ := by
  cases w <;> apply M4.ext' <;> simp [M4.mul, jQ, lt, Run.mat]
theorem qp_one : qp 1 = jQ := rfl
theorem qp_two {m : M4} : (qp 2).mul m = m.mul (qp 2) := by
  rw [show qp 2 = ⟨-1, 0, 0, -1⟩ by decide]
  apply M4.ext' <;> simp [M4.mul]
theorem ff_not : ∀ {l : List Int} {w : Bool}, ff (!w) l = qq 1 3 (ff w l)
  | [], w => by rw [ff_nil, ff_nil]; decide
  | b :: l, w => by
    rw [ff_cons, ff_cons, ff_not (l := l) (w := !w)]
    unfold qq
    rw [show qp 1 = jQ from by decide, ← mul_assoc, ← mul_assoc, ← Q_lt]
    simp only [mul_assoc]
theorem st_eq {x : Int} {m : M4} : st x m = (lt true x).mul ((qp 3).mul m) := by
  rw [show qp 3 = ⟨0, -1, 1, 0⟩ by decide]
  apply M4.ext' <;> simp [M4.mul, lt, Run.mat, st] <;> omega
theorem ff_true : ∀ {l : List Int}, ff true l = qq 0 (l.length + 3) (uu l)
  | [] => by rw [ff_nil, qq_nil]; decide
  | b :: l => by
    rw [ff_cons, ff_not (w := true), ff_true (l := l)]
    show _ = qq 0 (l.length + 1 + 3) (st b (uu l))
    rw [st_eq, qq_qq]
    unfold qq
    rw [show l.length + 3 + 3 = l.length + 4 + 2 by omega, qp_add (i := l.length + 4), show qp 0 = M4.one from rfl, one_mul, show qp 3 = (qp 2).mul (qp 1) by decide]
    simp only [mul_assoc, Nat.add_zero]
    rw [qp_two]
    simp only [mul_assoc]
theorem ff_false {l : List Int} : ff false l = qq 1 (l.length + 6) (uu l) := by
  rw [show false = !true from rfl, ff_not, ff_true, qq_qq]
theorem ff_qq {w : Bool} {l : List Int} : ∃ i j, ff w l = qq i j (uu l) ∧ (i + j) % 4 = (l.length + 3) % 4 := by
  cases w
  · exact ⟨_, _, ff_false, by omega⟩
  · exact ⟨_, _, ff_true, by omega⟩
theorem nf_uniq {k p : Nat} {w v : Bool} {l r : List Int} (hl : Gd l) (hr : Gd r) (e : (qp k).mul (ff w l) = (qp p).mul (ff v r)) : l = r ∧ k % 4 = p % 4 := by
  obtain ⟨i, j, e1, h1⟩ := ff_qq (w := w) (l := l)
  obtain ⟨i2, j2, e2, h2⟩ := ff_qq (w := v) (l := r)
  have q0 : ∀ (k : Nat) (m : M4), (qp k).mul m = qq k 0 m := fun k m => by unfold qq; rw [show qp 0 = M4.one from rfl, mul_one]
  rw [e1, e2, q0, q0, qq_qq, qq_qq] at e
  obtain ⟨h3, h4⟩ := uniq hl hr e
  subst h3
  exact ⟨rfl, by omega⟩
def prodW (W : List Bool) : M4 := W.foldr (fun w m => (lt w 1).mul m) M4.one
theorem lt_qp : ∀ {k : Nat} {w : Bool} {n : Int}, ∃ v, (lt w n).mul (qp k) = (qp k).mul (lt v n)
  | 0, w, n => ⟨w, by rw [show qp 0 = M4.one from rfl, mul_one, one_mul]⟩
  | k + 1, w, n => by
    obtain ⟨v, hv⟩ := lt_qp (k := k) (w := !w) (n := n)
    refine ⟨v, ?_⟩
    show (lt w n).mul (jQ.mul (qp k)) = (jQ.mul (qp k)).mul (lt v n)
    rw [mul_assoc, ← hv, ← mul_assoc, ← mul_assoc, Q_lt, Bool.not_not]
theorem lt_add {w : Bool} {a b : Int} : (lt w a).mul (lt w b) = lt w (a + b) := by
  cases w <;> apply M4.ext' <;> simp [M4.mul, lt, Run.mat] <;> omega
theorem lt_zero {w : Bool} : lt w 0 = M4.one := by cases w <;> decide
theorem tlt {w : Bool} {c : Int} : (lt w 1).mul ((lt (!w) 1).mul (lt w c)) = jQ.mul (lt w (c - 1)) := by
  cases w <;> apply M4.ext' <;> simp [M4.mul, lt, Run.mat, jQ] <;> omega
theorem put_letter {x w : Bool} {l : List Int} (h : Gd l) : ∃ k v r, Gd r ∧ (lt x 1).mul (ff w l) = (qp k).mul (ff v r) ∧ 3 * (k : Int) + r.sum = 1 + l.sum := by
  match l, h with
  | [], _ => exact ⟨0, x, [1], .one (by decide), by rw [ff_cons, ff_nil, ff_nil]; show _ = M4.one.mul _; rw [one_mul], by simp⟩
  | b :: l, h =>
    by_cases hw : w = x
    · subst hw
      refine ⟨0, w, (b + 1) :: l, ?_, ?_, by simp; omega⟩
      · cases h with
        | one hb => exact .one (by omega)
        | cons hb ht => exact .cons (by omega) ht
      · rw [ff_cons, ff_cons, ← mul_assoc, lt_add, show qp 0 = M4.one from rfl, one_mul, Int.add_comm]
    · have hw : w = !x := by cases w <;> cases x <;> simp_all
      subst hw
      by_cases h2 : 2 ≤ b ∨ l = []
      · refine ⟨0, x, 1 :: b :: l, ?_, ?_, by simp⟩
        · cases h with
          | one hb => exact .cons (by decide) (.one hb)
          | cons hb ht =>
            rcases h2 with h2 | h2
            · exact .cons (by decide) (.cons h2 ht)
            · subst h2; cases ht
        · rw [ff_cons (b := 1), show qp 0 = M4.one from rfl, one_mul]
      · match l, h with
        | [], h => simp at h2
        | c :: l, h =>
          have hb : b = 1 := by
            cases h with
            | cons hb ht => simp at h2; omega
          subst hb
          have e : (lt x 1).mul (ff (!x) (1 :: c :: l)) = (qp 1).mul ((lt x (c - 1)).mul (ff (!x) l)) := by
            rw [ff_cons, ff_cons, Bool.not_not, ← mul_assoc, ← mul_assoc, mul_assoc (m := lt x 1), tlt, show qp 1 = jQ from by decide, mul_assoc]
          rw [e]
          cases h with
          | cons hb ht =>
            cases ht with
            | one hc =>
              by_cases h1 : c = 1
              · subst h1
                refine ⟨1, x, [], .nil, ?_, by simp⟩
                rw [show (1 : Int) - 1 = 0 from rfl, lt_zero, ff_nil, ff_nil, one_mul]
              · exact ⟨1, x, [c - 1], .one (by omega), by rw [ff_cons], by simp; omega⟩
            | cons hc ht2 => exact ⟨1, x, (c - 1) :: l, .cons (by omega) ht2, by rw [ff_cons], by simp; omega⟩
theorem word_nf : ∀ W : List Bool, ∃ k w l, Gd l ∧ prodW W = (qp k).mul (ff w l) ∧ 3 * (k : Int) + l.sum = W.length
  | [] => ⟨0, true, [], .nil, by rw [ff_nil]; rfl, by simp⟩
  | x :: W => by
    obtain ⟨k, w, l, h1, h2, h3⟩ := word_nf W
    obtain ⟨v, hv⟩ := lt_qp (k := k) (w := x) (n := 1)
    obtain ⟨p, u, r, g1, g2, g3⟩ := put_letter (x := v) (w := w) h1
    refine ⟨k + p, u, r, g1, ?_, by simp; omega⟩
    show (lt x 1).mul (prodW W) = _
    rw [h2, ← mul_assoc, hv, mul_assoc, g2, ← mul_assoc, qp_add]
def SWd (m : M4) (n : Nat) : Prop := ∃ k W, m = (qp k).mul (prodW W) ∧ W.length ≤ n
theorem SWd.one : SWd M4.one 0 := ⟨0, [], by decide, by simp⟩
theorem SWd.mono {m : M4} {n p : Nat} (h : SWd m n) (hp : n ≤ p) : SWd m p := by
  obtain ⟨k, W, h1, h2⟩ := h
  exact ⟨k, W, h1, by omega⟩
theorem SWd.letter {m : M4} {n : Nat} (h : SWd m n) {x : Bool} : SWd ((lt x 1).mul m) (n + 1) := by
  obtain ⟨k, W, h1, h2⟩ := h
  obtain ⟨v, hv⟩ := lt_qp (k := k) (w := x) (n := 1)
  exact ⟨k, v :: W, by rw [h1, ← mul_assoc, hv, mul_assoc]; rfl, by simp; omega⟩
theorem SWd.q {m : M4} {n : Nat} (h : SWd m n) {j : Nat} : SWd ((qp j).mul m) n := by
  obtain ⟨k, W, h1, h2⟩ := h
  exact ⟨j + k, W, by rw [h1, ← mul_assoc, qp_add], h2⟩
theorem SWd.word : ∀ W : List Bool, SWd (prodW W) W.length := fun W => ⟨0, W, by show _ = M4.one.mul _; rw [one_mul], by omega⟩
theorem back_letter {x : Bool} : lt x (-1) = (qp 3).mul ((lt x 1).mul (lt (!x) 1)) := by
  cases x <;> decide
theorem SWd.back {m : M4} {n : Nat} (h : SWd m n) {x : Bool} : SWd ((lt x (-1)).mul m) (n + 2) := by
  rw [back_letter, mul_assoc, mul_assoc]
  exact h.letter.letter.q
theorem SWd.nf {m : M4} {n : Nat} (h : SWd m n) : ∃ k w l, Gd l ∧ m = (qp k).mul (ff w l) ∧ l.sum ≤ n := by
  obtain ⟨k, W, h1, h2⟩ := h
  obtain ⟨p, w, l, g1, g2, g3⟩ := word_nf W
  exact ⟨k + p, w, l, g1, by rw [h1, g2, ← mul_assoc, qp_add], by omega⟩
theorem prodW_app {W V : List Bool} : prodW (W ++ V) = (prodW W).mul (prodW V) := by
  induction W with
  | nil => show _ = M4.one.mul _; rw [one_mul]; rfl
  | cons x W ih => show (lt x 1).mul (prodW (W ++ V)) = ((lt x 1).mul (prodW W)).mul (prodW V); rw [ih, mul_assoc]
def inv (m : M4) : M4 := ⟨m.d, -m.b, -m.c, m.a⟩
theorem inv_mul {m k : M4} : inv (m.mul k) = (inv k).mul (inv m) := by
  apply M4.ext' <;> simp [inv, M4.mul] <;> grind
theorem inv_lt {x : Bool} {n : Int} : inv (lt x n) = lt x (-n) := by cases x <;> simp [inv, lt, Run.mat]
theorem SWd.inv (W : List Bool) : SWd (Rg.inv (prodW W)) (2 * W.length) := by
  refine snoc_ind' (P := fun W => SWd (Rg.inv (prodW W)) (2 * W.length)) ?_ ?_ W
  · exact ⟨0, [], by decide, by simp⟩
  · intro l a ih
    rw [prodW_app, inv_mul]
    have : Rg.inv (prodW [a]) = lt a (-1) := by
      show Rg.inv ((lt a 1).mul M4.one) = _
      rw [mul_one, inv_lt]
    rw [this]
    have := ih.back (x := a)
    simpa [Nat.mul_add] using this
end Rg
namespace Rg
open M4
def xt (m : M4) : Int := 0 - (0 - m.a * m.c) / (m.c * m.c)
def nxt (m : M4) : M4 := ⟨0 - m.c, 0 - m.d, m.a - xt m * m.c, m.b - xt m * m.d⟩
inductive Tn : M4 → List Int → Prop
  | last {m : M4} : m.c = 0 → Tn m [m.a * m.b]
  | more {m : M4} {l : List Int} : m.c ≠ 0 → Tn (nxt m) l → Tn m (xt m :: l)
theorem sq_pos {c : Int} (h : c ≠ 0) : 0 < c * c := by
  rcases Int.lt_or_gt_of_ne h with h | h
  · exact Int.mul_pos_of_neg_of_neg h h
  · exact Int.mul_pos h h
theorem nxt_c {m : M4} (h : m.c ≠ 0) : m.c * (nxt m).c ≤ 0 ∧ - (m.c * m.c) < m.c * (nxt m).c := by
  have hp := sq_pos h
  have e := Int.mul_ediv_add_emod (0 - m.a * m.c) (m.c * m.c)
  have e1 := Int.emod_nonneg (0 - m.a * m.c) (Int.ne_of_gt hp)
  have e2 := Int.emod_lt_of_pos (0 - m.a * m.c) hp
  unfold nxt xt
  dsimp only
  generalize (0 - m.a * m.c) / (m.c * m.c) = t at *
  generalize (0 - m.a * m.c) % (m.c * m.c) = r at *
  have : m.c * (m.a - (0 - t) * m.c) = m.a * m.c + m.c * m.c * t := by grind
  rw [this]
  omega
theorem abs_lt3 {c d : Int} (h : c ≠ 0) (h1 : c * d ≤ 0) (h2 : -(c * c) < c * d) : d.natAbs < c.natAbs := by
  have e : c.natAbs * d.natAbs < c.natAbs * c.natAbs := by
    have e1 : ((c.natAbs * d.natAbs : Nat) : Int) = -(c * d) := by
      rw [← Int.natAbs_mul]
      omega
    have e2 : ((c.natAbs * c.natAbs : Nat) : Int) = c * c := by
      rw [← Int.natAbs_mul]
      have := sq_pos h
      omega
    omega
  exact Nat.lt_of_mul_lt_mul_left e
theorem nxt_lt {m : M4} (h : m.c ≠ 0) : (nxt m).c.natAbs < m.c.natAbs := by
  obtain ⟨h1, h2⟩ := nxt_c h
  exact abs_lt3 h h1 h2
theorem tn_ex : ∀ (k : Nat) (m : M4), m.c.natAbs ≤ k → ∃ l, Tn m l
  | 0, m, h => ⟨_, .last (by omega)⟩
  | k + 1, m, h => by
    by_cases hc : m.c = 0
    · exact ⟨_, .last hc⟩
    · obtain ⟨l, hl⟩ := tn_ex k (nxt m) (by have := nxt_lt hc; omega)
      exact ⟨_, .more hc hl⟩
theorem nxt_det {m : M4} : (nxt m).det = m.det := by
  unfold nxt M4.det
  generalize xt m = x
  grind
theorem nxt_st {m : M4} : m = (qp 2).mul (st (xt m) (nxt m)) := by
  unfold nxt st
  rw [show qp 2 = ⟨-1, 0, 0, -1⟩ by decide]
  generalize xt m = x
  apply M4.ext' <;> simp [M4.mul] <;> grind
theorem xt_two {m : M4} (h : m.c ≠ 0) (hc : (nxt m).c ≠ 0) : 2 ≤ xt (nxt m) := by
  obtain ⟨h1, h2⟩ := nxt_c h
  have ha : (nxt m).a = - m.c := by unfold nxt; dsimp only; omega
  generalize nxt m = k at *
  have hp := sq_pos hc
  have hl := abs_lt3 h h1 h2
  unfold xt
  have : (0 - k.a * k.c) / (k.c * k.c) < -1 := by
    apply Int.ediv_lt_of_lt_mul hp
    rw [ha]
    have e : k.c.natAbs * k.c.natAbs < m.c.natAbs * k.c.natAbs := Nat.mul_lt_mul_of_pos_right hl (by omega)
    have e1 : ((m.c.natAbs * k.c.natAbs : Nat) : Int) = -(m.c * k.c) := by
      rw [← Int.natAbs_mul]
      omega
    have e2 : ((k.c.natAbs * k.c.natAbs : Nat) : Int) = k.c * k.c := by
      rw [← Int.natAbs_mul]
      omega
    have e3 : 0 - -m.c * k.c = m.c * k.c := by grind
    omega
  omega
def Mid (l : List Int) : Prop := ∃ I z, l = I ++ [z] ∧ ∀ x ∈ I, 2 ≤ x
theorem Mid.cons {x : Int} {l : List Int} (hx : 2 ≤ x) (h : Mid l) : Mid (x :: l) := by
  obtain ⟨I, z, rfl, hI⟩ := h
  refine ⟨x :: I, z, rfl, fun y hy => ?_⟩
  rcases List.mem_cons.mp hy with rfl | hy
  · exact hx
  · exact hI y hy
theorem tn_mid {m : M4} {l : List Int} (h : Tn m l) : (m.c ≠ 0 → 2 ≤ xt m) → Mid l := by
  induction h with
  | last h => exact fun _ => ⟨[], _, rfl, by simp⟩
  | more hc _ ih =>
    intro hx
    refine Mid.cons (hx hc) (ih fun h2 => xt_two hc h2)
theorem qp_even : ∀ {i : Nat} {m : M4}, (qp (2 * i)).mul m = m.mul (qp (2 * i))
  | 0, m => by rw [show qp (2 * 0) = M4.one from rfl, one_mul, mul_one]
  | i + 1, m => by
    rw [show 2 * (i + 1) = 2 + 2 * i by omega, qp_add, mul_assoc, qp_even (i := i), ← mul_assoc, qp_two]
    simp only [mul_assoc]
theorem st_even {x : Int} {i : Nat} {m : M4} : st x ((qp (2 * i)).mul m) = (qp (2 * i)).mul (st x m) := by
  rw [st_eq, st_eq, qp_even, qp_even]
  simp only [mul_assoc]
theorem mul_one_cases {a d : Int} (h : a * d = 1) : a = 1 ∧ d = 1 ∨ a = -1 ∧ d = -1 := by
  have h1 : a.natAbs * d.natAbs = 1 := by rw [← Int.natAbs_mul, h]; rfl
  have h2 := Nat.eq_one_of_mul_eq_one_right h1
  rcases (by omega : a = 1 ∨ a = -1) with rfl | rfl <;> omega
theorem tn_ok {m : M4} {l : List Int} (h : Tn m l) : m.det = 1 → (∃ i, m = (qp (2 * i)).mul (uu l)) := by
  induction h with
  | last h =>
    rename_i m
    intro hd
    obtain ⟨a, b, c, d⟩ := m
    dsimp only at h
    subst h
    have had : a * d = 1 := by simpa [M4.det] using hd
    rcases mul_one_cases had with ⟨rfl, rfl⟩ | ⟨rfl, rfl⟩
    · refine ⟨0, ?_⟩
      apply M4.ext' <;> simp [qp, M4.mul, M4.one, uu, st, jQ]
    · refine ⟨1, ?_⟩
      rw [show qp (2 * 1) = ⟨-1, 0, 0, -1⟩ by decide]
      apply M4.ext' <;> simp [M4.mul, M4.one, uu, st, jQ]
  | more hc ht ih =>
    rename_i m l
    intro hd
    obtain ⟨i, hi⟩ := ih (by rw [nxt_det]; exact hd)
    refine ⟨1 + i, ?_⟩
    have e := nxt_st (m := m)
    rw [hi, st_even, ← mul_assoc, ← qp_add] at e
    rw [show 2 * (1 + i) = 2 + 2 * i by omega]
    exact e
theorem tn_mid' {m : M4} {l : List Int} (h : Tn m l) : ∃ x r, l = x :: r ∧ (r = [] ∨ Mid r) := by
  cases h with
  | last h => exact ⟨_, _, rfl, .inl rfl⟩
  | more hc ht => exact ⟨_, _, rfl, .inr (tn_mid ht (xt_two hc))⟩
def mend : List Int → List Int
  | [] => []
  | x :: l => if 0 < x then x :: l else if x = 0 then l else match l with
    | [] => []
    | y :: r => 1 :: (List.replicate (-x - 1).toNat 2 ++ (y + 1) :: r)
theorem mend_pos {x : Int} {l : List Int} (h : 0 < x) : mend (x :: l) = x :: l := by
  simp [mend, h]
theorem mend_zero {l : List Int} : mend (0 :: l) = l := by
  simp [mend]
theorem mend_neg {x y : Int} {l : List Int} (h : x < 0) : mend (x :: y :: l) = 1 :: (List.replicate (-x - 1).toNat 2 ++ (y + 1) :: l) := by
  have h1 : ¬ 0 < x := by omega
  have h2 : x ≠ 0 := by omega
  simp only [mend, if_neg h1, if_neg h2]
theorem uu_two {y : Int} {l : List Int} : ∀ {j : Nat}, uu (List.replicate j 2 ++ (y + 1) :: l) = ⟨(j + 1) * (uu (y :: l)).a + (uu (y :: l)).c, (j + 1) * (uu (y :: l)).b + (uu (y :: l)).d, j * (uu (y :: l)).a + (uu (y :: l)).c, j * (uu (y :: l)).b + (uu (y :: l)).d⟩
  | 0 => by
    show st (y + 1) (uu l) = _
    apply M4.ext' <;> simp [uu, st] <;> grind
  | j + 1 => by
    show st 2 (uu (List.replicate j 2 ++ (y + 1) :: l)) = _
    rw [uu_two (j := j)]
    generalize uu (y :: l) = m
    apply M4.ext' <;> simp [st] <;> grind
theorem uu_mend {x y : Int} {l : List Int} (hx : x < 0) : uu (x :: y :: l) = (qp 3).mul (uu (mend (x :: y :: l))) := by
  rw [mend_neg hx]
  show st x (uu (y :: l)) = (qp 3).mul (st 1 (uu (List.replicate (-x - 1).toNat 2 ++ (y + 1) :: l)))
  rw [uu_two, show qp 3 = ⟨0, -1, 1, 0⟩ by decide]
  have hj : (((-x - 1).toNat : Nat) : Int) = -x - 1 := by omega
  rw [hj]
  generalize uu (y :: l) = m
  apply M4.ext' <;> simp [M4.mul, st] <;> grind
theorem mend_rel {x : Int} {l : List Int} (h : x < 0 → l ≠ []) : ∃ e, uu (x :: l) = (qp e).mul (uu (mend (x :: l))) := by
  by_cases h1 : 0 < x
  · refine ⟨0, ?_⟩
    rw [mend_pos h1]
    exact one_mul.symm
  · by_cases h2 : x = 0
    · subst h2
      refine ⟨3, ?_⟩
      rw [mend_zero, show qp 3 = ⟨0, -1, 1, 0⟩ by decide]
      apply M4.ext' <;> simp [uu, st, M4.mul]
    · match l, h (by omega) with
      | y :: r, _ => exact ⟨3, uu_mend (by omega)⟩
def rho (m : M4) : M4 := ⟨m.d, m.b, m.c, m.a⟩
theorem rho_mul {m k : M4} : rho (m.mul k) = (rho k).mul (rho m) := by
  apply M4.ext' <;> simp [rho, M4.mul] <;> grind
theorem rho_qp : ∀ {e : Nat}, rho (qp e) = qp e
  | 0 => rfl
  | e + 1 => by
    show rho (jQ.mul (qp e)) = _
    rw [rho_mul, rho_qp, show rho jQ = jQ from rfl, ← qp_one, ← qp_add]
theorem uu_snoc {x : Int} : ∀ {l : List Int}, uu (l ++ [x]) = (uu l).mul ((qp 3).mul (lt true x))
  | [] => by
    show st x jQ = jQ.mul _
    rw [show qp 3 = ⟨0, -1, 1, 0⟩ by decide]
    apply M4.ext' <;> simp [M4.mul, lt, Run.mat, st, jQ]
  | y :: l => by
    show st y (uu (l ++ [x])) = (st y (uu l)).mul _
    rw [uu_snoc, st_eq, st_eq]
    simp only [mul_assoc]
theorem uu_rev : ∀ {l : List Int}, uu l.reverse = rho (uu l)
  | [] => rfl
  | x :: l => by
    rw [List.reverse_cons, uu_snoc, uu_rev]
    show _ = rho (st x (uu l))
    rw [st_eq, rho_mul, rho_mul, rho_qp]
    have : rho (lt true x) = lt true x := by simp [rho, lt, Run.mat]
    rw [this, mul_assoc]
def b1 (X : List Int) : List Int := if X.length = 1 ∧ X.headD 0 < 0 then X ++ [0] else X
def b2 (X : List Int) : List Int := if 1 < X.length then mend X else X
def b3 (X : List Int) : List Int := if X.length = 1 ∧ X.headD 0 < 0 then mend (X ++ [0]) else X
def b5 (X : List Int) : List Int := if 1 < X.length ∨ X = [0] then mend X else X
def blk (X : List Int) : List Int := (b5 (b3 (b2 (b1 X))).reverse).reverse
theorem tail_of {z : Int} (hz : 1 ≤ z) : ∀ {I : List Int}, (∀ x ∈ I, 2 ≤ x) → Tail (I ++ [z])
  | [], _ => .one hz
  | x :: I, h => .cons (h x (by simp)) (tail_of hz fun y hy => h y (by simp [hy]))
end Rg
namespace Rg
open M4
def mok (s : Int) (l : List Int) : Prop := ∀ x r, l = x :: r → x < 0 → r ≠ [] ∧ -2 * x - 1 ≤ s
def fin (Y : List Int) : List Int := (b5 Y.reverse).reverse
theorem sum_app {l r : List Int} : (l ++ r).sum = l.sum + r.sum := by simp
theorem sum_rep {j : Nat} : (List.replicate j (2 : Int)).sum = 2 * j := by
  induction j with
  | zero => rfl
  | succ j ih => rw [List.replicate_succ, List.sum_cons, ih]; omega
theorem rep_two {j : Nat} : ∀ x ∈ List.replicate j (2 : Int), 2 ≤ x := fun x hx => by
  rw [List.eq_of_mem_replicate hx]
  decide
theorem two_sum : ∀ {I : List Int}, (∀ x ∈ I, 2 ≤ x) → 0 ≤ I.sum
  | [], _ => by simp
  | x :: I, h => by
    have := h x (by simp)
    have := two_sum (I := I) fun y hy => h y (by simp [hy])
    simp
    omega
theorem rho_rho {m : M4} : rho (rho m) = m := rfl
theorem fin_ok {y z : Int} {I : List Int} (hy : 1 ≤ y) (hI : ∀ x ∈ I, 2 ≤ x) :
    Gd (fin (y :: (I ++ [z]))) ∧ (∃ i j, uu (y :: (I ++ [z])) = qq i j (uu (fin (y :: (I ++ [z]))))) ∧ y + I.sum ≤ (fin (y :: (I ++ [z]))).sum ∧ mok (fin (y :: (I ++ [z]))).sum (y :: (I ++ [z])).reverse := by
  have er : (y :: (I ++ [z])).reverse = z :: (y :: I).reverse := by simp
  have ef : fin (y :: (I ++ [z])) = (mend (z :: (y :: I).reverse)).reverse := by
    unfold fin b5
    rw [er, if_pos (.inl (by simp))]
  have rel : ∃ i j, uu (y :: (I ++ [z])) = qq i j (uu (fin (y :: (I ++ [z])))) := by
    obtain ⟨e, he⟩ := mend_rel (x := z) (l := (y :: I).reverse) (fun _ => by simp)
    refine ⟨0, e, ?_⟩
    rw [ef, uu_rev]
    have : uu (y :: (I ++ [z])) = rho (uu (z :: (y :: I).reverse)) := by
      rw [← er, uu_rev, rho_rho]
    rw [this, he, rho_mul, rho_qp]
    unfold qq
    exact M4.one_mul.symm
  refine ⟨?_, rel, ?_⟩ <;> rw [ef]
  · by_cases h1 : 0 < z
    · rw [mend_pos h1, ← er, List.reverse_reverse]
      exact .cons hy (tail_of (by omega) hI)
    · by_cases h2 : z = 0
      · subst h2
        rw [mend_zero, List.reverse_reverse]
        by_cases hn : I = []
        · subst hn
          exact .one hy
        · rw [← List.dropLast_concat_getLast hn] at hI ⊢
          exact .cons hy (tail_of (by have := hI (I.getLast hn) (by simp); omega) fun x hx => hI x (by simp [hx]))
      · by_cases hn : I = []
        · subst hn
          rw [show [y].reverse = [y] from rfl, mend_neg (by omega)]
          simp
          exact .cons (by omega) (tail_of (by decide) rep_two)
        · rw [← List.dropLast_concat_getLast hn] at hI ⊢
          generalize I.dropLast = J at *
          generalize I.getLast hn = u at *
          have hu := hI u (by simp)
          have : (y :: (J ++ [u])).reverse = u :: (y :: J).reverse := by simp
          rw [this, mend_neg (by omega)]
          have : (1 :: (List.replicate (-z - 1).toNat 2 ++ (u + 1) :: (y :: J).reverse)).reverse = y :: ((J ++ (u + 1) :: List.replicate (-z - 1).toNat 2) ++ [1]) := by simp
          rw [this]
          refine .cons hy (tail_of (by decide) fun x hx => ?_)
          rw [List.mem_append, List.mem_cons] at hx
          rcases hx with hx | rfl | hx
          · exact hI x (by simp [hx])
          · omega
          · exact rep_two x hx
  · have pos := two_sum hI
    by_cases h1 : 0 < z
    · rw [mend_pos h1, ← er, List.reverse_reverse]
      refine ⟨by simp; omega, fun x r hx hn => ?_⟩
      rw [er, List.cons.injEq] at hx
      omega
    · by_cases h2 : z = 0
      · subst h2
        rw [mend_zero, List.reverse_reverse]
        refine ⟨by simp, fun x r hx hn => ?_⟩
        rw [er, List.cons.injEq] at hx
        omega
      · have hs : (mend (z :: (y :: I).reverse)).reverse.sum = 1 + 2 * (-z - 1) + (y + I.sum) + 1 := by
          have : (y :: I).reverse ≠ [] := by simp
          have hsum : (y :: I).reverse.sum = y + I.sum := by simp; omega
          rw [← hsum]
          match (y :: I).reverse, this with
          | u :: l, _ =>
            rw [mend_neg (by omega), List.sum_reverse, List.sum_cons, sum_app, sum_rep, List.sum_cons, List.sum_cons]
            omega
        rw [hs]
        refine ⟨by omega, fun x r hx hn => ?_⟩
        rw [er, List.cons.injEq] at hx
        obtain ⟨rfl, rfl⟩ := hx
        exact ⟨by simp, by omega⟩
theorem fin_one {y : Int} (hy : 0 ≤ y) : fin [y] = if y = 0 then [] else [y] := by
  unfold fin b5
  by_cases h : y = 0
  · subst h
    simp [mend_zero]
  · simp [h]
theorem one_ok {y : Int} (hy : 0 ≤ y) : Gd (fin [y]) ∧ (∃ i j, uu [y] = qq i j (uu (fin [y]))) ∧ 0 ≤ (fin [y]).sum ∧ mok (fin [y]).sum [y].reverse := by
  rw [fin_one hy]
  have mk : ∀ s, mok s [y].reverse := fun s x r hx hn => by
    simp at hx
    omega
  by_cases h : y = 0
  · subst h
    exact ⟨.nil, ⟨3, 0, by decide⟩, by simp, mk _⟩
  · rw [if_neg h]
    refine ⟨.one (by omega), ⟨0, 0, ?_⟩, by simpa using hy, mk _⟩
    unfold qq
    rw [show qp 0 = M4.one from rfl, M4.mul_one, M4.one_mul]
structure BlkOk (X : List Int) : Prop where
  gd : Gd (blk X)
  rel : ∃ i j, uu X = qq i j (uu (blk X))
  inn : ∀ x I z, X = x :: (I ++ [z]) → I.sum ≤ (blk X).sum
  m1 : 1 < (b1 X).length → mok (blk X).sum (b1 X)
  m2 : (b2 (b1 X)).length = 1 ∧ (b2 (b1 X)).headD 0 < 0 → mok (blk X).sum (b2 (b1 X) ++ [0])
  m3 : mok (blk X).sum (b3 (b2 (b1 X))).reverse
theorem snoc_zero {l : List Int} : uu l = qq 0 1 (uu (l ++ [0])) := by
  rw [uu_snoc, lt_zero, M4.mul_one]
  unfold qq
  rw [show qp 0 = M4.one from rfl, M4.one_mul, M4.mul_assoc, show (qp 3).mul (qp 1) = M4.one by decide, M4.mul_one]
theorem neg_one_ok {x : Int} (hx : x < 0) : mend [x, 0] = 1 :: (List.replicate (-x - 1).toNat 2 ++ [1]) := mend_neg hx
theorem neg_len {x : Int} (hx : x < 0) : (mend [x, 0]).length ≠ 1 := by
  rw [neg_one_ok hx]
  simp
theorem neg_fin {x : Int} (hx : x < 0) : Gd (fin (mend [x, 0])) ∧ (∃ i j, uu [x] = qq i j (uu (fin (mend [x, 0])))) ∧ -2 * x - 1 ≤ (fin (mend [x, 0])).sum ∧ mok (fin (mend [x, 0])).sum (mend [x, 0]).reverse := by
  obtain ⟨e, he⟩ := mend_rel (x := x) (l := [0]) (fun _ => by simp)
  rw [neg_one_ok hx] at he ⊢
  obtain ⟨g1, ⟨i, j, g2⟩, g3, g4⟩ := fin_ok (y := 1) (z := 1) (I := List.replicate (-x - 1).toNat 2) (by decide) rep_two
  refine ⟨g1, ⟨0 + (e + i), j + 1, ?_⟩, ?_, g4⟩
  · rw [snoc_zero, show [x] ++ [0] = [x, 0] from rfl, he, g2]
    have : ∀ (k : Nat) (m : M4), (qp k).mul m = qq k 0 m := fun k m => by unfold qq; rw [show qp 0 = M4.one from rfl, M4.mul_one]
    rw [this, qq_qq, qq_qq, Nat.add_assoc, Nat.zero_add]
  · rw [sum_rep] at g3
    omega
theorem blk_ok {x : Int} {r : List Int} (h : r = [] ∨ Mid r) : BlkOk (x :: r) := by
  have q0 : ∀ (k : Nat) (m : M4), (qp k).mul m = qq k 0 m := fun k m => by unfold qq; rw [show qp 0 = M4.one from rfl, M4.mul_one]
  rcases h with rfl | ⟨I, z, rfl, hI⟩
  · by_cases hx : x < 0
    · have e1 : b1 [x] = [x, 0] := by simp [b1, hx]
      have e2 : b2 [x, 0] = mend [x, 0] := by simp [b2]
      have e3 : b3 (mend [x, 0]) = mend [x, 0] := by unfold b3; rw [if_neg fun h => neg_len hx h.1]
      have eb : blk [x] = fin (mend [x, 0]) := by unfold blk fin; rw [e1, e2, e3]
      obtain ⟨g1, g2, g3, g4⟩ := neg_fin hx
      refine ⟨by rw [eb]; exact g1, by rw [eb]; exact g2, fun x' I' z' hh => ?_, fun _ => ?_, fun hh => ?_, ?_⟩
      · simp at hh
      · rw [e1, eb]
        intro x' r' hh _
        simp at hh
        obtain ⟨rfl, rfl⟩ := hh
        exact ⟨by simp, g3⟩
      · rw [e1, e2] at hh
        exact absurd hh.1 (neg_len hx)
      · rw [e1, e2, e3, eb]
        exact g4
    · have e1 : b1 [x] = [x] := by simp [b1, hx]
      have e2 : b2 [x] = [x] := by simp [b2]
      have e3 : b3 [x] = [x] := by simp [b3, hx]
      have eb : blk [x] = fin [x] := by unfold blk fin; rw [e1, e2, e3]
      obtain ⟨g1, g2, g3, g4⟩ := one_ok (y := x) (by omega)
      refine ⟨by rw [eb]; exact g1, by rw [eb]; exact g2, fun x' I' z' hh => ?_, fun hh => ?_, fun hh => ?_, ?_⟩
      · simp at hh
      · rw [e1] at hh
        simp at hh
      · rw [e1, e2] at hh
        simp at hh
        omega
      · rw [e1, e2, e3, eb]
        exact g4
  · have e1 : b1 (x :: (I ++ [z])) = x :: (I ++ [z]) := by unfold b1; rw [if_neg (by simp)]
    have e2 : b2 (x :: (I ++ [z])) = mend (x :: (I ++ [z])) := by unfold b2; rw [if_pos (by simp)]
    -- what is left to mend
    have key : ∀ Y : List Int, mend (x :: (I ++ [z])) = Y → b3 Y = Y → (∀ e, uu (x :: (I ++ [z])) = (qp e).mul (uu Y) → True) → Gd (fin Y) → (∃ i j, uu Y = qq i j (uu (fin Y))) → I.sum ≤ (fin Y).sum → (x < 0 → -2 * x - 1 ≤ (fin Y).sum) → mok (fin Y).sum Y.reverse → ¬ (Y.length = 1 ∧ Y.headD 0 < 0) → BlkOk (x :: (I ++ [z])) := by
      intro Y hY e3 _ g1 g2 g3 g4 g5 g6
      have eb : blk (x :: (I ++ [z])) = fin Y := by unfold blk fin; rw [e1, e2, hY, e3]
      refine ⟨by rw [eb]; exact g1, ?_, fun x' I' z' hh => ?_, fun _ => ?_, fun hh => ?_, ?_⟩
      · obtain ⟨e, he⟩ := mend_rel (x := x) (l := I ++ [z]) (fun _ => by simp)
        obtain ⟨i, j, g2⟩ := g2
        rw [hY, g2, q0, qq_qq] at he
        rw [eb]
        exact ⟨_, _, he⟩
      · rw [List.cons.injEq] at hh
        obtain ⟨_, hh⟩ := hh
        obtain ⟨rfl, _⟩ := List.append_inj' hh rfl
        rw [eb]
        exact g3
      · rw [e1, eb]
        intro x' r' hh hn
        rw [List.cons.injEq] at hh
        obtain ⟨rfl, rfl⟩ := hh
        exact ⟨by simp, g4 hn⟩
      · rw [e1, e2, hY] at hh
        exact absurd hh g6
      · rw [e1, e2, hY, e3, eb]
        exact g5
    have long : ∀ (y w : Int) (J : List Int), b3 (y :: (J ++ [w])) = y :: (J ++ [w]) := fun y w J => by unfold b3; rw [if_neg (by simp)]
    by_cases h1 : 0 < x
    · obtain ⟨g1, g2, g3, g4⟩ := fin_ok (y := x) (z := z) (by omega) hI
      exact key _ (mend_pos h1) (long _ _ _) (fun _ _ => trivial) g1 g2 (by omega) (fun h => by omega) g4 (by simp)
    · by_cases h2 : x = 0
      · subst h2
        match I, hI with
        | [], _ =>
          by_cases hz : z < 0
          · have e3 : b3 [z] = mend [z, 0] := by unfold b3; rw [if_pos ⟨rfl, hz⟩]; rfl
            have em : mend (0 :: ([] ++ [z])) = [z] := mend_zero
            have eb : blk (0 :: ([] ++ [z])) = fin (mend [z, 0]) := by unfold blk fin; rw [e1, e2, em, e3]
            obtain ⟨g1, ⟨i, j, g2⟩, g3, g4⟩ := neg_fin hz
            refine ⟨by rw [eb]; exact g1, ?_, fun x' I' z' hh => ?_, fun _ => ?_, fun hh => ?_, ?_⟩
            · obtain ⟨e, he⟩ := mend_rel (x := 0) (l := [z]) (fun _ => by simp)
              rw [mend_zero, g2, q0, qq_qq] at he
              rw [eb]
              exact ⟨_, _, he⟩
            · rw [List.cons.injEq] at hh
              obtain ⟨_, hh⟩ := hh
              obtain ⟨rfl, _⟩ := List.append_inj' hh rfl
              rw [eb]
              simp
              omega
            · rw [e1]
              intro x' r' hh hn
              rw [List.cons.injEq] at hh
              omega
            · rw [e1, e2, em, eb]
              intro x' r' hh hn
              simp at hh
              obtain ⟨rfl, rfl⟩ := hh
              exact ⟨by simp, g3⟩
            · rw [e1, e2, em, e3, eb]
              exact g4
          · obtain ⟨g1, g2, g3, g4⟩ := one_ok (y := z) (by omega)
            exact key [z] mend_zero (by simp [b3, hz]) (fun _ _ => trivial) g1 g2 (by simpa using g3) (fun h => by omega) g4 (by simp; omega)
        | i :: J, hI =>
          have hi := hI i (by simp)
          obtain ⟨g1, g2, g3, g4⟩ := fin_ok (y := i) (z := z) (I := J) (by omega) (fun y hy => hI y (by simp [hy]))
          exact key (i :: (J ++ [z])) mend_zero (long _ _ _) (fun _ _ => trivial) g1 g2 (by simpa using g3) (fun h => by omega) g4 (by simp)
      · have hx : x < 0 := by omega
        have hj : (((-x - 1).toNat : Nat) : Int) = -x - 1 := by omega
        match I, hI with
        | [], _ =>
          obtain ⟨g1, g2, g3, g4⟩ := fin_ok (y := 1) (z := z + 1) (I := List.replicate (-x - 1).toNat 2) (by decide) rep_two
          rw [sum_rep] at g3
          exact key _ (mend_neg hx) (long _ _ _) (fun _ _ => trivial) g1 g2 (by rw [List.sum_nil]; omega) (fun h => by omega) g4 (by simp)
        | i :: J, hI =>
          have hi := hI i (by simp)
          have em : mend (x :: (i :: J ++ [z])) = 1 :: ((List.replicate (-x - 1).toNat 2 ++ (i + 1) :: J) ++ [z]) := by
            rw [List.cons_append, mend_neg hx]
            simp
          obtain ⟨g1, g2, g3, g4⟩ := fin_ok (y := 1) (z := z) (I := List.replicate (-x - 1).toNat 2 ++ (i + 1) :: J) (by decide) (fun y hy => by
            rw [List.mem_append, List.mem_cons] at hy
            rcases hy with hy | rfl | hy
            · exact rep_two y hy
            · omega
            · exact hI y (by simp [hy]))
          have pos := two_sum (I := J) fun y hy => hI y (by simp [hy])
          rw [sum_app, sum_rep, List.sum_cons] at g3
          exact key _ em (long _ _ _) (fun _ _ => trivial) g1 g2 (by rw [List.sum_cons]; omega) (fun h => by omega) g4 (by simp)
end Rg
namespace Rg
open M4
theorem blk_nf {m : M4} {k : Nat} {w : Bool} {B X : List Int} (hB : Gd B) (hm : m = (qp k).mul (ff w B)) (hd : m.det = 1) (hX : Tn m X) : BlkOk X ∧ blk X = B := by
  obtain ⟨i, hi⟩ := tn_ok hX hd
  obtain ⟨x, r, rfl, hr⟩ := tn_mid' hX
  have ok := blk_ok (x := x) hr
  refine ⟨ok, ?_⟩
  obtain ⟨p, q, hpq⟩ := ok.rel
  obtain ⟨s, t, e1, _⟩ := ff_qq (w := w) (l := B)
  have q0 : ∀ (k : Nat) (m : M4), (qp k).mul m = qq k 0 m := fun k m => by unfold qq; rw [show qp 0 = M4.one from rfl, M4.mul_one]
  rw [hpq, q0, qq_qq] at hi
  rw [e1, q0, qq_qq] at hm
  exact (uniq ok.gd hB (hi.symm.trans hm)).1
theorem nxt_d {m : M4} (h : m.c ≠ 0) (hd : m.det = 1) : (nxt m).d.natAbs ≤ max m.d.natAbs 1 := by
  have h1 := nxt_lt h
  have h2 := (nxt_det (m := m)).trans hd
  have ha : (nxt m).a = - m.c := by unfold nxt; dsimp only; omega
  have hb : (nxt m).b = - m.d := by unfold nxt; dsimp only; omega
  unfold M4.det at h2
  rw [ha, hb] at h2
  generalize (nxt m).d = e at *
  generalize (nxt m).c = f at *
  generalize m.c = c at *
  generalize m.d = d at *
  have e1 : c * e = d * f - 1 := by grind
  have e2 : c.natAbs * e.natAbs ≤ d.natAbs * f.natAbs + 1 := by
    rw [← Int.natAbs_mul, ← Int.natAbs_mul, e1]
    omega
  refine Classical.byContradiction fun hn => ?_
  have e3 : c.natAbs * (d.natAbs + 1) ≤ c.natAbs * e.natAbs := Nat.mul_le_mul_left _ (by omega)
  have e4 : d.natAbs * (f.natAbs + 1) ≤ d.natAbs * c.natAbs := Nat.mul_le_mul_left _ (by omega)
  rw [Nat.mul_add] at e3 e4
  rw [Nat.mul_comm d.natAbs c.natAbs] at e4
  have hc1 : c.natAbs = 1 := by omega
  have hf : f.natAbs = 0 := by omega
  rw [hc1, hf] at e2
  omega
theorem Bd.nxt {m : M4} {k : Nat} (hk : 1 ≤ k) (hb : Bd m k) (h : m.c ≠ 0) (hd : m.det = 1) : Bd (Rg.nxt m) k := by
  have h1 := nxt_lt h
  have h2 := nxt_d h hd
  have p := Nat.lt_of_lt_of_le (show 1 < 2 ^ 1 by decide) (pow_le hk)
  refine ⟨?_, ?_, Nat.lt_trans h1 hb.c, ?_⟩
  · have : (Rg.nxt m).a.natAbs = m.c.natAbs := by unfold Rg.nxt; dsimp only; omega
    rw [this]; exact hb.c
  · have : (Rg.nxt m).b.natAbs = m.d.natAbs := by unfold Rg.nxt; dsimp only; omega
    rw [this]; exact hb.d
  · have := hb.d
    omega
theorem prodR_app : ∀ {R L : List Rg.Run}, prodR (R ++ L) = (prodR R).mul (prodR L)
  | [], L => by show _ = M4.one.mul _; rw [M4.one_mul]; rfl
  | r :: R, L => by
    show (r.mat 1).mul (prodR (R ++ L)) = ((r.mat 1).mul (prodR R)).mul (prodR L)
    rw [prodR_app, M4.mul_assoc]
theorem foldM_prod {R : List Rg.Run} : foldM 1 R = prodR R := by
  have key : ∀ (R : List Rg.Run) (m : M4), R.foldl (fun m r => m.mul (r.mat 1)) m = m.mul (prodR R) := by
    intro R
    induction R with
    | nil => intro m; exact M4.mul_one.symm
    | cons r R ih =>
      intro m
      show R.foldl _ (m.mul (r.mat 1)) = m.mul ((r.mat 1).mul (prodR R))
      rw [ih, M4.mul_assoc]
  unfold foldM
  rw [key, M4.one_mul]
theorem led_rev {R : List Rg.Run} : ledM 1 R.reverse = prodR R := by
  rw [← prod_rev, List.reverse_reverse, ← foldM_prod]
  rfl
def qtr : List Rg.Run := [⟨true, 1⟩, ⟨false, 1⟩, ⟨true, 1⟩]
def rns (q : Nat) (w : Bool) (B : List Int) : List Rg.Run := (List.replicate q qtr).flatten ++ byT w B
theorem prod_qtr : ∀ {q : Nat}, prodR (List.replicate q qtr).flatten = qp q
  | 0 => rfl
  | q + 1 => by
    rw [List.replicate_succ, List.flatten_cons, prodR_app, prod_qtr]
    have : prodR qtr = jQ := by decide
    rw [this]
    rfl
theorem prod_rns {q : Nat} {w : Bool} {B : List Int} : prodR (rns q w B) = (qp q).mul (ff w B) := by
  unfold rns
  rw [prodR_app, prod_qtr]
  rfl
theorem tail_pos {l : List Int} (h : Tail l) : ∀ b ∈ l, 1 ≤ b := by
  induction h with
  | one hx => simpa using hx
  | cons hx _ ih =>
    intro b hb
    rcases List.mem_cons.mp hb with rfl | hb
    · omega
    · exact ih b hb
theorem good_pos {l : List Int} (h : Gd l) : ∀ b ∈ l, 1 ≤ b := by
  cases h with
  | nil => simp
  | one hx => simpa using hx
  | cons hx ht =>
    intro b hb
    rcases List.mem_cons.mp hb with rfl | hb
    · omega
    · exact tail_pos ht b hb
theorem byT_pos : ∀ {B : List Int} {w : Bool}, (∀ b ∈ B, 1 ≤ b) → ∀ r ∈ byT w B, 1 ≤ r.n ∧ r.n ≤ B.sum
  | [], w, _, r, hr => by simp [byT] at hr
  | b :: B, w, h, r, hr => by
    have h1 := h b (by simp)
    have h2 : 0 ≤ B.sum := by
      have : ∀ B : List Int, (∀ b ∈ B, 1 ≤ b) → 0 ≤ B.sum := fun B => by
        induction B with
        | nil => simp
        | cons c B ih =>
          intro h
          have := ih fun x hx => h x (by simp [hx])
          have := h c (by simp)
          simp
          omega
      exact this B fun x hx => h x (by simp [hx])
    rcases List.mem_cons.mp hr with rfl | hr
    · simp; omega
    · have := byT_pos (fun x hx => h x (by simp [hx])) r hr
      simp
      omega
theorem byT_sum : ∀ {B : List Int} {w : Bool}, sumN (byT w B) = B.sum
  | [], w => rfl
  | b :: B, w => by
    show b + sumN (byT (!w) B) = _
    rw [byT_sum, List.sum_cons]
theorem byT_len : ∀ {B : List Int} {w : Bool}, (byT w B).length = B.length
  | [], w => rfl
  | b :: B, w => by
    show (byT (!w) B).length + 1 = B.length + 1
    rw [byT_len]
theorem len_sum : ∀ {B : List Int}, (∀ b ∈ B, 1 ≤ b) → (B.length : Int) ≤ B.sum
  | [], _ => by simp
  | b :: B, h => by
    have := h b (by simp)
    have := len_sum (B := B) fun x hx => h x (by simp [hx])
    simp
    omega
theorem qtr_sum : ∀ {q : Nat}, sumN (List.replicate q qtr).flatten = 3 * q
  | 0 => rfl
  | q + 1 => by
    rw [List.replicate_succ, List.flatten_cons, sumN_app, qtr_sum]
    have : sumN qtr = 3 := by decide
    rw [this]
    omega
theorem rns_sum {q : Nat} {w : Bool} {B : List Int} : sumN (rns q w B) = 3 * q + B.sum := by
  unfold rns
  rw [sumN_app, qtr_sum, byT_sum]
theorem rns_pos {q : Nat} {w : Bool} {B : List Int} (h : ∀ b ∈ B, 1 ≤ b) : ∀ r ∈ rns q w B, 1 ≤ r.n ∧ r.n ≤ max 1 B.sum := by
  intro r hr
  unfold rns at hr
  rcases List.mem_append.mp hr with hr | hr
  · rw [List.mem_flatten] at hr
    obtain ⟨l, hl, hr⟩ := hr
    rw [List.eq_of_mem_replicate hl] at hr
    simp [qtr] at hr
    rcases hr with rfl | rfl | rfl <;> exact ⟨by simp, by simp; omega⟩
  · have := byT_pos h r hr
    omega
def jn (R : List Rg.Run) : List Rg.Run := R.foldl (fun acc r => joinR acc [r]) []
theorem jn_snoc {R : List Rg.Run} {r : Rg.Run} : jn (R ++ [r]) = joinR (jn R) [r] := by simp [jn]
theorem joinR_one {R : List Rg.Run} {r : Rg.Run} : ledM 1 (joinR R [r]) = (r.mat 1).mul (ledM 1 R) ∧ sumN (joinR R [r]) = sumN R + r.n := by
  rcases List.eq_nil_or_concat R with rfl | ⟨L, q, rfl⟩
  · exact ⟨ledM_snoc (R := []), sumN_snoc (R := [])⟩
  · rw [List.concat_eq_append]
    by_cases h : q.gap = r.gap
    · have : joinR (L ++ [q]) [r] = L ++ [⟨q.gap, q.n + r.n⟩] := by simp [joinR, h]
      rw [this, ledM_snoc, ledM_snoc, sumN_snoc, sumN_snoc, ← M4.mul_assoc]
      refine ⟨?_, by dsimp only; omega⟩
      congr 1
      obtain ⟨g, a⟩ := q
      obtain ⟨g', b⟩ := r
      dsimp only at h ⊢
      subst h
      have := lt_add (w := g) (a := b) (b := a)
      unfold lt at this
      rw [this, Int.add_comm]
    · have : joinR (L ++ [q]) [r] = (L ++ [q]) ++ [r] := by simp [joinR, h]
      rw [this]
      exact ⟨ledM_snoc, sumN_snoc⟩
theorem jn_ok {R : List Rg.Run} (h : ∀ r ∈ R, 1 ≤ r.n) : Row (jn R) ∧ ledM 1 (jn R) = ledM 1 R ∧ sumN (jn R) = sumN R := by
  refine snoc_ind' (P := fun R => (∀ r ∈ R, 1 ≤ r.n) → Row (jn R) ∧ ledM 1 (jn R) = ledM 1 R ∧ sumN (jn R) = sumN R) ?_ ?_ R h
  · intro _
    exact ⟨⟨trivial, by simp [jn]⟩, rfl, rfl⟩
  · intro l a ih h
    obtain ⟨h1, h2, h3⟩ := ih fun r hr => h r (by simp [hr])
    rw [jn_snoc]
    obtain ⟨g1, g2⟩ := joinR_one (R := jn l) (r := a)
    refine ⟨row_join h1 ⟨trivial, fun r hr => ?_⟩, by rw [g1, h2, ledM_snoc], by rw [g2, h3, sumN_snoc]⟩
    rw [List.mem_singleton.mp hr]
    exact h a (by simp)
structure Few (m : M4) (c : Nat) (J : List Rg.Run) : Prop where
  row : Row J
  led : ledM 1 J = m
  sum : sumN J = c
  least : ∀ W, prodW W = m → c ≤ W.length ∧ (W.length - c) % 12 = 0
theorem few_of {m : M4} {q : Nat} {w : Bool} {B : List Int} (hB : Gd B) (hq : q < 4) (hm : (qp q).mul (ff w B) = m) : Few m (3 * q + B.sum.toNat) (jn (rns q w B).reverse) := by
  have pos := good_pos hB
  have hs : 0 ≤ B.sum := by have := len_sum pos; omega
  obtain ⟨h1, h2, h3⟩ := jn_ok (R := (rns q w B).reverse) fun r hr => (rns_pos pos r (by simpa using hr)).1
  refine ⟨h1, by rw [h2, led_rev, prod_rns, hm], ?_, fun W hW => ?_⟩
  · have : sumN (rns q w B).reverse = sumN (rns q w B) := by unfold sumN; rw [List.map_reverse, List.sum_reverse]
    rw [h3, this, rns_sum]
    omega
  · obtain ⟨k, v, l, g1, g2, g3⟩ := word_nf W
    rw [hW, ← hm] at g2
    obtain ⟨rfl, g4⟩ := nf_uniq hB g1 g2
    omega
theorem word_of : ∀ {R : List Rg.Run}, (∀ r ∈ R, 0 ≤ r.n) → ∃ W, prodW W = ledM 1 R ∧ (W.length : Int) = sumN R := by
  refine fun {R} => snoc_ind' (P := fun R => (∀ r ∈ R, 0 ≤ r.n) → ∃ W, prodW W = ledM 1 R ∧ (W.length : Int) = sumN R) ?_ ?_ R
  · intro _
    exact ⟨[], rfl, rfl⟩
  · intro l a ih h
    obtain ⟨W, h1, h2⟩ := ih fun r hr => h r (by simp [hr])
    have ha := h a (by simp)
    have key : ∀ (n : Nat) (g : Bool), prodW (List.replicate n g) = lt g n := fun n g => by
      induction n with
      | zero => exact lt_zero.symm
      | succ n ih =>
        rw [List.replicate_succ]
        show (lt g 1).mul (prodW (List.replicate n g)) = _
        rw [ih, lt_add]
        congr 1
        omega
    refine ⟨List.replicate a.n.toNat a.gap ++ W, ?_, ?_⟩
    · rw [prodW_app, key, h1, ledM_snoc, show ((a.n.toNat : Nat) : Int) = a.n by omega]
      rfl
    · rw [sumN_snoc]
      simp
      omega
end Rg
section
set_option exponentiation.threshold 10000
set_option maxHeartbeats 2000000
namespace Rg
open PySem L2
section
variable {S T : Store} {m : M4} {n k : Nat} {X Y : List Int}
theorem un_ints {l : List Int} {k : Nat} : unders k (l.map D.int) = true := un_map fun _ _ => by simp
theorem pre_sum {p x : Int} {P R I : List Int} {z : Int} (hI : ∀ x ∈ I, 2 ≤ x) (hR : R ≠ []) (e : P ++ x :: R = I ++ [z]) : P.sum + x ≤ I.sum := by
  obtain ⟨R', u, rfl⟩ : ∃ R' u, R = R' ++ [u] := ⟨_, _, (List.dropLast_concat_getLast hR).symm⟩
  have e2 : (P ++ x :: R') ++ [u] = I ++ [z] := by simpa using e
  obtain ⟨e3, _⟩ := List.append_inj' e2 rfl
  have : 0 ≤ R'.sum := two_sum fun y hy => hI y (by rw [← e3]; simp [hy])
  rw [← e3]
  simp
  omega
theorem tn_ne {l : List Int} (h : Tn m l) : l ≠ [] := by cases h <;> simp
theorem two_len {I : List Int} (hI : ∀ x ∈ I, 2 ≤ x) : (I.length : Int) ≤ I.sum := len_sum fun x hx => by have := hI x hx; omega
theorem turns_eq (hX : Tn m X) (hd : m.det = 1) (hk : 1 ≤ k) (hk2 : k ≤ 4000) (hb : Bd m k) (hi : ∀ x I z, X = x :: (I ++ [z]) → I.sum ≤ 4000) : m_turns_of [eM m] S = .ok (.ref S.length) (S ++ [.lst (X.map D.int)]) := by
  obtain ⟨x0, r0, hX0, hr0⟩ := tn_mid' hX
  have hlen : X.length ≤ 4002 := by
    rcases hr0 with rfl | ⟨I, z, rfl, hI⟩
    · rw [hX0]; simp
    · have := two_len hI
      have := hi _ _ _ hX0
      rw [hX0]
      simp
      omega
  refine Rok.eq ?_
  unfold m_turns_of
  simp [rok_def]
  unfold eM
  simp
  refine sok_while (fun e S' => ∃ P R m' o7, X = P ++ R ∧ Tn m' R ∧ m'.det = 1 ∧ Bd m' k ∧ S' = S ++ [.lst (P.map D.int)] ∧ e = [some (eM m), some (.int m'.a), some (.int m'.b), some (.int m'.c), some (.int m'.d), some (.ref S.length), some (.int (P.drop 1).sum), o7])
    (fun e S' => X.length - (match S'[S.length]? with | some (.lst l) => l.length | _ => 0)) ?_ _ _ ⟨[], X, m, none, rfl, hX, hd, hb, by simp, by simp [eM]⟩
  rintro e S' ⟨P, R, m', o7, hPR, hR, hd', hb', rfl, rfl⟩
  have hPl : P.length < X.length := by
    have := List.length_pos_iff.mpr (tn_ne hR)
    rw [hPR]
    simp
    omega
  cases hR with
  | last hc =>
    simp [hc]
    have cab : CM m'.a m'.b := CM_w hb'.a hb'.b (by omega)
    refine ⟨cab, by omega, ?_⟩
    have e : P.map D.int ++ [.int (m'.a * m'.b)] = X.map D.int := by rw [hPR]; simp
    rw [e]
    rw [rok_gcn un_ints]
    simp
  | @more m' R' hc ht =>
    have hx : -((-(m'.a * m'.c)).fdiv (m'.c * m'.c)) = xt m' := by
      rw [Int.fdiv_eq_ediv_of_nonneg _ (Int.le_of_lt (sq_pos hc))]
      unfold xt
      simp
    have hb2 := hb'.nxt hk hc hd'
    have hd2 := (nxt_det (m := m')).trans hd'
    have cxc : CM (xt m') m'.c ∧ CM (xt m') m'.d := by
      have h1 := hb2.c
      have h2 := hb'.a
      have e : (nxt m').c = m'.a - xt m' * m'.c := rfl
      rw [e] at h1
      have h3 : (xt m' * m'.c).natAbs < 2 ^ (k + 1) := by
        rw [Nat.pow_succ]
        omega
      rw [Int.natAbs_mul] at h3
      have h4 : (xt m').natAbs * 1 ≤ (xt m').natAbs * m'.c.natAbs := Nat.mul_le_mul_left _ (by omega)
      have h5 : (xt m').natAbs < 2 ^ (k + 1) := by omega
      exact ⟨CM_w h5 hb'.c (by omega), CM_w h5 hb'.d (by omega)⟩
    have cac : CM m'.a m'.c := CM_w hb'.a hb'.c (by omega)
    have ccc : CM m'.c m'.c := CM_w hb'.c hb'.c (by omega)
    have cdv : ∀ y, CDv y (m'.c * m'.c) := fun y => CDv_w (b := k + k) (by have := sq_pos hc; omega) (by rw [Int.natAbs_mul, Nat.pow_add]; exact Nat.mul_lt_mul'' hb'.c hb'.c) (by omega)
    have hin : P ≠ [] → (P.drop 1).sum + xt m' ≤ 4000 := fun hP => by
      obtain ⟨p, P', rfl⟩ := List.exists_cons_of_ne_nil hP
      rw [hX0] at hPR
      simp at hPR
      obtain ⟨rfl, hPR⟩ := hPR
      rcases hr0 with rfl | ⟨I, z, hr, hI⟩
      · simp at hPR
      · have := pre_sum (p := 0) hI (tn_ne ht) (hPR.symm.trans hr)
        have := hi _ _ _ (by rw [hX0, hr])
        simp
        omega
    have nx : (⟨-m'.c, -m'.d, m'.a - xt m' * m'.c, m'.b - xt m' * m'.d⟩ : M4) = nxt m' := by unfold nxt; simp
    simp [hc, cac, ccc, cdv, hx, cxc]
    have hl2 : X.length - (P.length + 1) < X.length - P.length := by omega
    refine ⟨fun hP => ?_, fun hP => ⟨by omega, ⟨P ++ [xt m'], R', by rw [hPR]; simp, nxt m', ht, hd2, hb2, by simp, by simp [nxt], by simp [nxt], by simp [nxt], by simp [nxt], by subst hP; simp⟩, hl2⟩⟩
    have hP' : P ≠ [] := by intro z; subst z; simp at hP
    have hin' := hin hP'
    simp at hin'
    rw [refuse_eq hin']
    simp [cxc]
    refine ⟨by omega, ⟨P ++ [xt m'], R', by rw [hPR]; simp, nxt m', ht, hd2, hb2, by simp, by simp [nxt], by simp [nxt], by simp [nxt], by simp [nxt], ?_⟩, hl2⟩
    obtain ⟨p, P', rfl⟩ := List.exists_cons_of_ne_nil hP'
    simp
theorem mended_then {P : D → Store → Prop} (hn : lstOf S n = some (Y.map D.int)) (hl : Y ≠ []) (hm : mok 4000 Y) (hlen : Y.length ≤ 10000)
    (hP : ∀ n' C, lstOf (S ++ C) n' = some ((mend Y).map D.int) → P (.ref n') (S ++ C)) : Rok (m_mended_ahead [.ref n] S) P := by
  obtain ⟨x, r, rfl⟩ := List.exists_cons_of_ne_nil hl
  have hn' := lstOf_lt hn
  unfold m_mended_ahead
  have i0 : atI (D.int x :: r.map D.int) 0 = some (.int x) := atI_nat (j := 0) (by simp)
  simp only [List.map_cons] at hn
  simp [rok_def, hn, hn', i0]
  have c1 : cutL (D.int x :: r.map D.int) (some 1) none = r.map D.int := cut_from (k := 1) (by simp)
  refine ⟨fun h => ?_, fun h => ⟨fun h0 => ?_, fun h0 => ⟨CM_l (by decide), ?_⟩⟩⟩
  · have := hP n [] (by rw [List.append_nil, mend_pos h]; simpa using hn)
    simpa using this
  · subst h0
    rw [c1, rok_gcn un_ints]
    exact hP _ _ (by rw [mend_zero]; simp)
  · obtain ⟨hr, h4⟩ := hm x r rfl (by omega)
    obtain ⟨y, r, rfl⟩ := List.exists_cons_of_ne_nil hr
    have c2 : cutL (D.int x :: D.int y :: r.map D.int) (some 2) none = r.map D.int := cut_from (k := 2) (by simp)
    have i1 : atI (D.int x :: D.int y :: r.map D.int) 1 = some (.int y) := atI_nat (j := 1) (by simp)
    simp only [List.map_cons] at hn
    rw [refuse_eq (by omega)]
    have e : ∀ j : Nat, (List.replicate j [D.int 2]).flatten = List.replicate j (D.int 2) := fun j => by
      induction j with
      | zero => rfl
      | succ j ih => rw [List.replicate_succ, List.replicate_succ, List.flatten_cons, ih]; rfl
    simp at hlen
    have gx : ∀ (l : List Int) (j : Nat) (C : Store), C[j]? = some (.lst (l.map D.int)) → l = mend (x :: y :: r) → Rok (gc S (.ref (S.length + j)) (S ++ C)) P := fun l j C hc e => by
      rw [rok_gcr hc un_ints]
      exact hP _ _ (by rw [e]; simp)
    simp [hn, hn', i1, c2]
    refine ⟨⟨by omega, by omega, by omega⟩, by omega, by omega, by omega, ?_⟩
    refine gx (1 :: (List.replicate (-x - 1).toNat 2 ++ (y + 1) :: r)) 7 _ ?_ (mend_neg (by omega)).symm
    have : (-x - 1).toNat = (-x).toNat - 1 := by omega
    rw [this]
    simp
noncomputable def tB5 : SS := (sSeq (sSet 1 (s1 fRevL (sVar 1))) (sSeq (sIfS (sOr (sT (s2 fGt (sCall fLen (sCons (sVar 1) (sNil))) (sC (.int (1))))) (sT (s2 fEq (sVar 1) (sLst (sCons (sC (.int (0))) (sNil)))))) (sSet 1 (sCall m_mended_ahead (sCons (sVar 1) (sNil)))) (sSkip)) (sRet (s1 fRevL (sVar 1)))))
noncomputable def tB3 : SS := (sSeq (sIfS (sAnd (sT (s2 fEq (sCall fLen (sCons (sVar 1) (sNil))) (sC (.int (1))))) (sT (s2 fLt (s2 fIx (sVar 1) (sC (.int (0)))) (sC (.int (0)))))) (sSet 1 (sCall m_mended_ahead (sCons (s2 fPlus (sVar 1) (sLst (sCons (sC (.int (0))) (sNil)))) (sNil)))) (sSkip)) (sSeq (sSet 1 (s1 fRevL (sVar 1))) (sSeq (sIfS (sOr (sT (s2 fGt (sCall fLen (sCons (sVar 1) (sNil))) (sC (.int (1))))) (sT (s2 fEq (sVar 1) (sLst (sCons (sC (.int (0))) (sNil)))))) (sSet 1 (sCall m_mended_ahead (sCons (sVar 1) (sNil)))) (sSkip)) (sRet (s1 fRevL (sVar 1))))))
noncomputable def tB2 : SS := (sSeq (sIfS (sT (s2 fGt (sCall fLen (sCons (sVar 1) (sNil))) (sC (.int (1))))) (sSet 1 (sCall m_mended_ahead (sCons (sVar 1) (sNil)))) (sSkip)) (sSeq (sIfS (sAnd (sT (s2 fEq (sCall fLen (sCons (sVar 1) (sNil))) (sC (.int (1))))) (sT (s2 fLt (s2 fIx (sVar 1) (sC (.int (0)))) (sC (.int (0)))))) (sSet 1 (sCall m_mended_ahead (sCons (s2 fPlus (sVar 1) (sLst (sCons (sC (.int (0))) (sNil)))) (sNil)))) (sSkip)) (sSeq (sSet 1 (s1 fRevL (sVar 1))) (sSeq (sIfS (sOr (sT (s2 fGt (sCall fLen (sCons (sVar 1) (sNil))) (sC (.int (1))))) (sT (s2 fEq (sVar 1) (sLst (sCons (sC (.int (0))) (sNil)))))) (sSet 1 (sCall m_mended_ahead (sCons (sVar 1) (sNil)))) (sSkip)) (sRet (s1 fRevL (sVar 1)))))))
theorem tB5_ok {g : SPt} {o0 : Option D} (hn : lstOf T n = some (Y.map D.int)) (hl : Y ≠ []) (hm : mok 4000 Y.reverse) (hlen : Y.length ≤ 10000)
    (h : ∀ (j : Nat) (C : Store), C[j]? = some (.lst ((b5 Y.reverse).reverse.map D.int)) → g.rt (.ref (T.length + j)) (T ++ C)) : Sok (tB5 [o0, some (.ref n)] T) g := by
  have hn' := lstOf_lt hn
  have hr : (Y.map D.int).reverse = Y.reverse.map D.int := by rw [List.map_reverse]
  unfold tB5
  simp [hn]
  have fin : ∀ n' C, (b5 Y.reverse = mend Y.reverse) → lstOf (T ++ C) n' = some ((mend Y.reverse).map D.int) → Sok (sRet (s1 fRevL (sVar 1)) [o0, some (.ref n')] (T ++ C)) g := fun n' C e hh => by
    simp [hh]
    have := h C.length (C ++ [.lst ((mend Y.reverse).map D.int).reverse]) (by simp [e])
    simpa using this
  have hne : Y.reverse ≠ [] := by simpa using hl
  refine ⟨fun h1 => ?_, fun h1 => ?_⟩
  · have e : b5 Y.reverse = mend Y.reverse := by unfold b5; rw [if_pos (.inl (by simp; omega))]
    refine mended_then (Y := Y.reverse) (by simp) hne hm (by simpa using hlen) fun n' C hh => ?_
    rw [List.append_assoc] at hh ⊢
    exact fin _ _ e hh
  · obtain ⟨y, rfl⟩ : ∃ y, Y = [y] := by
      match Y, hl, h1 with
      | [y], _, _ => exact ⟨y, rfl⟩
      | _ :: _ :: _, _, h1 => simp at h1; omega
    refine ⟨_, ⟨_, rfl, rfl⟩, fun hy => ?_, fun hy => ?_⟩
    · have e : b5 [y].reverse = mend [y].reverse := by
        unfold b5
        simp at hy
        rw [if_pos (.inr (by simpa using hy))]
      refine mended_then (Y := [y].reverse) (by simp) hne hm (by simp) fun n' C hh => ?_
      rw [List.append_assoc] at hh ⊢
      exact fin _ _ e hh
    · have e : b5 [y].reverse = [y] := by
        unfold b5
        simp at hy
        simp [hy]
      have := h 2 [Cell.lst [.int y], .lst [.int 0], .lst [.int y]] (by rw [e]; rfl)
      simpa using this
theorem tB3_ok {g : SPt} {o0 : Option D} (hn : lstOf T n = some (Y.map D.int)) (hl : Y ≠ []) (hm : Y.length = 1 ∧ Y.headD 0 < 0 → mok 4000 (Y ++ [0])) (hm2 : mok 4000 (b3 Y).reverse) (hlen : (b3 Y).length ≤ 10000) (hlen2 : Y.length ≤ 10000) (hb : b3 Y ≠ [])
    (h : ∀ (j : Nat) (C : Store), C[j]? = some (.lst ((b5 (b3 Y).reverse).reverse.map D.int)) → g.rt (.ref (T.length + j)) (T ++ C)) : Sok (tB3 [o0, some (.ref n)] T) g := by
  have hn' := lstOf_lt hn
  obtain ⟨A, hA⟩ : ∃ A, A = tB5 := ⟨_, rfl⟩
  have hA2 := hA
  unfold tB5 at hA2
  unfold tB3
  rw [← hA2]
  have go : ∀ n' C, lstOf (T ++ C) n' = some ((b3 Y).map D.int) → Sok (A [o0, some (.ref n')] (T ++ C)) g := fun n' C hh => by
    rw [hA]
    refine tB5_ok hh hb hm2 hlen fun j D hj => ?_
    have := h (C.length + j) (C ++ D) (by rw [List.getElem?_append_right (by omega)]; simpa using hj)
    simpa [Nat.add_assoc] using this
  clear hA hA2
  obtain ⟨y, r, rfl⟩ := List.exists_cons_of_ne_nil hl
  have i0 : atI (D.int y :: r.map D.int) 0 = some (.int y) := atI_nat (j := 0) (by simp)
  simp only [List.map_cons] at hn
  simp [hn, i0, hn']
  have same : ¬ ((y :: r).length = 1 ∧ (y :: r).headD 0 < 0) → Sok (A [o0, some (.ref n)] T) g := fun hh => by
    have := go n [] (by rw [List.append_nil, hn]; unfold b3; rw [if_neg hh]; rfl)
    simpa using this
  refine ⟨fun h1 => ⟨fun h2 => ⟨by simp at hlen2; omega, ?_⟩, fun h2 => same (fun z => by have := z.2; simp only [List.headD_cons] at this; omega)⟩, fun h1 => same (fun z => by have := z.1; rw [List.length_cons] at this; omega)⟩
  have hr : r = [] := by
    have : r.length = 0 := by omega
    simpa using this
  subst hr
  refine mended_then (Y := [y, 0]) (by simp) (by simp) (hm ⟨rfl, h2⟩) (by simp) fun n' C hh => ?_
  rw [List.append_assoc] at hh ⊢
  refine go n' _ ?_
  rw [hh]
  unfold b3
  rw [if_pos ⟨rfl, h2⟩]
  rfl
theorem tB2_ok {g : SPt} {o0 : Option D} (hn : lstOf T n = some (Y.map D.int)) (hl : Y ≠ []) (hm : 1 < Y.length → mok 4000 Y) (hm1 : (b2 Y).length = 1 ∧ (b2 Y).headD 0 < 0 → mok 4000 (b2 Y ++ [0])) (hm2 : mok 4000 (b3 (b2 Y)).reverse)
    (hlen0 : Y.length ≤ 10000) (hlen1 : (b2 Y).length ≤ 10000) (hlen2 : (b3 (b2 Y)).length ≤ 10000) (hb1 : b2 Y ≠ []) (hb2 : b3 (b2 Y) ≠ [])
    (h : ∀ (j : Nat) (C : Store), C[j]? = some (.lst ((b5 (b3 (b2 Y)).reverse).reverse.map D.int)) → g.rt (.ref (T.length + j)) (T ++ C)) : Sok (tB2 [o0, some (.ref n)] T) g := by
  have hn' := lstOf_lt hn
  obtain ⟨A, hA⟩ : ∃ A, A = tB3 := ⟨_, rfl⟩
  have hA2 := hA
  unfold tB3 at hA2
  unfold tB2
  rw [← hA2]
  have go : ∀ n' C, lstOf (T ++ C) n' = some ((b2 Y).map D.int) → Sok (A [o0, some (.ref n')] (T ++ C)) g := fun n' C hh => by
    rw [hA]
    refine tB3_ok hh hb1 hm1 hm2 hlen2 hlen1 hb2 fun j D hj => ?_
    have := h (C.length + j) (C ++ D) (by rw [List.getElem?_append_right (by omega)]; simpa using hj)
    simpa [Nat.add_assoc] using this
  clear hA hA2
  simp [hn]
  refine ⟨fun h1 => ?_, fun h1 => ?_⟩
  · refine mended_then hn hl (hm (by omega)) hlen0 fun n' C hh => ?_
    refine go n' _ ?_
    rw [hh]
    unfold b2
    rw [if_pos (by omega)]
  · have := go n [] (by rw [List.append_nil, hn]; unfold b2; rw [if_neg (by omega)])
    simpa using this
theorem mend_len {x : Int} {l : List Int} : (mend (x :: l)).length ≤ l.length + 1 + (-x).toNat := by
  by_cases h1 : 0 < x
  · rw [mend_pos h1]; simp
  · by_cases h2 : x = 0
    · subst h2; rw [mend_zero]; omega
    · match l with
      | [] => simp [mend, h1, h2]
      | y :: r => rw [mend_neg (by omega)]; simp; omega
theorem mend_nn {Y : List Int} (h : 1 < Y.length) : mend Y ≠ [] := by
  match Y, h with
  | x :: y :: l, _ =>
    by_cases h1 : 0 < x
    · rw [mend_pos h1]; simp
    · by_cases h2 : x = 0
      · subst h2; rw [mend_zero]; simp
      · rw [mend_neg (by omega)]; simp
theorem turns_len (hX : Tn m X) (hi : ∀ x I z, X = x :: (I ++ [z]) → I.sum ≤ 4000) : X.length ≤ 4002 := by
  obtain ⟨x0, r0, hX0, hr0⟩ := tn_mid' hX
  rcases hr0 with rfl | ⟨I, z, rfl, hI⟩
  · rw [hX0]; simp
  · have := two_len hI
    have := hi _ _ _ hX0
    rw [hX0]
    simp
    omega
theorem mok_len {Y : List Int} (h : mok 4000 Y) (hl : Y.length ≤ 4003) : (mend Y).length ≤ 7000 := by
  match Y with
  | [] => simp [mend]
  | x :: l =>
    have := mend_len (x := x) (l := l)
    simp at hl
    by_cases hx : x < 0
    · have := (h x l rfl hx).2
      omega
    · omega
theorem blocks_eq (hX : Tn m X) (ok : BlkOk X) (hd : m.det = 1) (hk : 1 ≤ k) (hk2 : k ≤ 4000) (hb : Bd m k) (hs : (blk X).sum ≤ 4000) : m_blocks_of [eM m] S = .ok (.ref S.length) (S ++ [.lst ((blk X).map D.int)]) := by
  have up : ∀ l, mok (blk X).sum l → mok 4000 l := fun l h x r e hx => by
    have := h x r e hx
    exact ⟨this.1, by omega⟩
  have t1 := fun T => turns_eq (S := T) hX hd hk hk2 hb (fun x I z e => by have := ok.inn x I z e; omega)
  refine Rok.eq ?_
  unfold m_blocks_of
  simp [rok_def]
  obtain ⟨A, hA⟩ : ∃ A, A = tB2 := ⟨_, rfl⟩
  have hA2 := hA
  unfold tB2 at hA2
  rw [← hA2]
  clear hA2
  have hi : ∀ x I z, X = x :: (I ++ [z]) → I.sum ≤ 4000 := fun x I z e => by have := ok.inn x I z e; omega
  have lX := turns_len hX hi
  have n0 := tn_ne hX
  have l1 : (b1 X).length ≤ 4003 := by unfold b1; split <;> (try simp) <;> omega
  have n1 : b1 X ≠ [] := by unfold b1; split <;> simp [n0]
  have m1 : 1 < (b1 X).length → mok 4000 (b1 X) := fun h => up _ (ok.m1 h)
  have m2 : (b2 (b1 X)).length = 1 ∧ (b2 (b1 X)).headD 0 < 0 → mok 4000 (b2 (b1 X) ++ [0]) := fun h => up _ (ok.m2 h)
  have m3 := up _ ok.m3
  have eb : (b5 (b3 (b2 (b1 X))).reverse).reverse = blk X := rfl
  have eY : ∀ Y, Y = b1 X → b1 X = Y := fun _ h => h.symm
  have go : ∀ n' C, lstOf (S ++ C) n' = some ((b1 X).map D.int) → Sok (A [some (eM m), some (.ref n')] (S ++ C)) { nx := fun x S1 => Rok (gc S D.non S1) fun x S' => x = D.ref (List.length S) ∧ S' = S ++ [Cell.lst (List.map D.int (blk X))], rt := fun d S1 => Rok (gc S d S1) fun x S' => x = D.ref (List.length S) ∧ S' = S ++ [Cell.lst (List.map D.int (blk X))] } := fun n' C hh => by
    have l2 : (b2 (b1 X)).length ≤ 7000 := by
      unfold b2
      split
      · rename_i h; exact mok_len (m1 h) l1
      · omega
    have n2 : b2 (b1 X) ≠ [] := by
      unfold b2
      split
      · rename_i h; exact mend_nn h
      · exact n1
    have l3 : (b3 (b2 (b1 X))).length ≤ 7000 := by
      unfold b3
      split
      · rename_i h
        exact mok_len (m2 h) (by have := h.1; simp; omega)
      · exact l2
    have n3 : b3 (b2 (b1 X)) ≠ [] := by
      unfold b3
      split
      · rename_i h
        exact mend_nn (by have := h.1; simp; omega)
      · exact n2
    rw [hA]
    refine tB2_ok hh n1 m1 m2 m3 (by omega) (by omega) (by omega) n2 n3 fun j C' hj => ?_
    dsimp only
    rw [List.append_assoc, List.length_append, Nat.add_assoc]
    rw [eb] at hj
    rw [rok_gcr (l := (blk X).map D.int) (by rw [List.getElem?_append_right (by omega)]; simpa using hj) un_ints]
    exact ⟨rfl, rfl⟩
  clear hA
  obtain ⟨x, r, hx⟩ := List.exists_cons_of_ne_nil n0
  have i0 : atI (X.map D.int) 0 = some (.int x) := by rw [hx]; exact atI_nat (j := 0) (by simp)
  have same : ¬ (X.length = 1 ∧ X.headD 0 < 0) → Sok (A [some (eM m), some (.ref S.length)] (S ++ [.lst (X.map D.int)])) { nx := fun x S1 => Rok (gc S D.non S1) fun x S' => x = D.ref (List.length S) ∧ S' = S ++ [Cell.lst (List.map D.int (blk X))], rt := fun d S1 => Rok (gc S d S1) fun x S' => x = D.ref (List.length S) ∧ S' = S ++ [Cell.lst (List.map D.int (blk X))] } := fun hh => by
    refine go _ _ ?_
    unfold b1
    rw [if_neg hh]
    simp
  rw [t1]
  simp [i0]
  refine ⟨fun h1 => ⟨fun h2 => ⟨by omega, ?_⟩, fun h2 => same (fun z => by have := z.2; rw [hx] at this; exact absurd (show x < 0 from this) (by omega))⟩, fun h1 => same (by omega)⟩
  refine go _ _ ?_
  unfold b1
  rw [if_pos ⟨by omega, by rw [hx]; exact h2⟩]
  simp
end
end Rg
end
section
set_option exponentiation.threshold 10000
set_option maxHeartbeats 2000000
namespace Rg
open PySem L2
section
variable {S T : Store} {m : M4} {n k : Nat} {B : List Int} {R : List Run}
theorem by_turns_eq {w : Bool} (hn : lstOf S n = some (B.map D.int)) (hl : B.length ≤ 5000) : m_by_turns [.ref n, .str (wordR w)] S = .ok (.ref S.length) (S ++ [.lst ((byT w B).map eRun)]) := by
  have hn' := lstOf_lt hn
  refine Rok.eq ?_
  unfold m_by_turns
  simp [rok_def, sok_for, hn, hn']
  refine sok_forRun (fun i e S' => ∃ (L : List Run) (v : Bool) (C : Store) (o : Option D), byT w B = L ++ byT v (B.drop i) ∧ L.length = i ∧ S' = S ++ .lst (L.map eRun) :: C ∧ e = [some (.ref n), some (.str (wordR v)), some (.ref S.length), o]) _ (fun i e S' h => ?_) ?_ ?_ _ _ ⟨[], w, [], none, rfl, rfl, by simp, rfl⟩
  · obtain ⟨L, v, C, o, _, _, rfl, _⟩ := h
    exact lstOf_app hn
  · rintro i d e S' hi ⟨L, v, C, o, h1, h2, rfl, rfl⟩
    rw [List.getElem?_map] at hi
    obtain ⟨b, hb, rfl⟩ := Option.map_eq_some_iff.mp hi
    have hi2 := (List.getElem?_eq_some_iff.mp hb).1
    have ed : B.drop i = b :: B.drop (i + 1) := by
      rw [List.drop_eq_getElem_cons hi2]
      congr 1
      exact (List.getElem?_eq_some_iff.mp hb).2
    rw [ed] at h1
    simp
    have h3 : byT w B = L ++ [(⟨v, b⟩ : Run)] ++ byT (!v) (B.drop (i + 1)) := by rw [h1]; simp [byT]
    have h4 : (L ++ [(⟨v, b⟩ : Run)]).length = i + 1 := by simp [h2]
    have h5 : List.map eRun L ++ [D.tup [D.str (wordR v), D.int b]] = List.map eRun (L ++ [⟨v, b⟩]) := by simp [eRun]
    refine ⟨by omega, _, ⟨okw, rfl⟩, .str (wordR (!v)), ?_, L ++ [⟨v, b⟩], ?_⟩
    · cases v <;> rfl
    · cases v
      · exact .inr ⟨h3, h4, h5, rfl⟩
      · exact .inl ⟨h3, h4, h5, rfl⟩
  · rintro e S' ⟨L, v, C, o, h1, h2, rfl, rfl⟩
    have : byT w B = L := by rw [h1]; simp [byT]
    rw [this]
    simp
    have := rok_gcr (S := S) (C := .lst (L.map eRun) :: C) (k := 0) (l := L.map eRun) (P := fun x S' => x = D.ref S.length ∧ S' = S ++ [.lst (L.map eRun)]) rfl un_runs
    exact this.mpr ⟨rfl, rfl⟩
theorem joinR_cases {L : List Run} {r : Run} : (L ≠ [] ∧ (∃ q, L.getLast? = some q ∧ q.gap = r.gap ∧ joinR L [r] = L.dropLast ++ [⟨r.gap, r.n + q.n⟩])) ∨ ((∀ q, L.getLast? = some q → q.gap ≠ r.gap) ∧ joinR L [r] = L ++ [r]) := by
  rcases List.eq_nil_or_concat L with rfl | ⟨L, q, rfl⟩
  · exact .inr ⟨by simp, rfl⟩
  · rw [List.concat_eq_append]
    by_cases h : q.gap = r.gap
    · exact .inl ⟨by simp, q, by simp, h, by simp [joinR, h]; omega⟩
    · exact .inr ⟨by simpa using h, by simp [joinR, h]⟩
theorem jn_len : ∀ {R : List Run}, (jn R).length ≤ R.length := by
  refine fun {R} => snoc_ind' (P := fun R => (jn R).length ≤ R.length) (by simp [jn]) ?_ R
  intro l a ih
  rw [jn_snoc]
  have := join_len (R := jn l) (L := [a])
  simp at *
  omega
theorem jn_take {i : Nat} {r : Run} (h : R[i]? = some r) : jn (R.take (i + 1)) = joinR (jn (R.take i)) [r] := by
  have : R.take (i + 1) = R.take i ++ [r] := by rw [List.take_succ, h]; rfl
  rw [this, jn_snoc]
theorem joined2_eq (hn : lstOf S n = some (R.map eRun)) (hl : R.length ≤ 6000) : m_joined [.ref n] S = .ok (.ref S.length) (S ++ [.lst ((jn R).map eRun)]) := by
  have hn' := lstOf_lt hn
  refine Rok.eq ?_
  unfold m_joined
  simp [rok_def, sok_for, hn, hn']
  refine sok_forRun (fun i e S' => ∃ (o2 o3 : Option D), S' = S ++ [.lst ((jn (R.take i)).map eRun)] ∧ e = [some (.ref n), some (.ref S.length), o2, o3]) _ (fun i e S' h => ?_) ?_ ?_ _ _ ⟨none, none, by simp [jn], rfl⟩
  · obtain ⟨o2, o3, rfl, _⟩ := h
    exact lstOf_app hn
  · rintro i d e S' hi ⟨o2, o3, rfl, rfl⟩
    rw [List.getElem?_map] at hi
    obtain ⟨r, hr, rfl⟩ := Option.map_eq_some_iff.mp hi
    have hll : (jn (R.take i)).length ≤ 6000 := by
      have := jn_len (R := R.take i)
      simp at this
      omega
    rw [jn_take hr]
    rcases joinR_cases (L := jn (R.take i)) (r := r) with ⟨h1, q, h2, h3, h4⟩ | ⟨h2, h4⟩
    · rw [h4]
      obtain ⟨L, q', e⟩ : ∃ L q', jn (R.take i) = L ++ [q'] := ⟨_, _, (List.dropLast_concat_getLast h1).symm⟩
      rw [e] at h2 hll ⊢
      simp at h2
      subst h2
      have ix : atI (L.map eRun ++ [eRun q']) ((L.length : Nat) : Int) = some (eRun q') := atI_nat (by simp)
      have i0 : ∀ (r : Run) {T : Store} {P : D → Store → Prop}, Rok (fIx (eRun r) (.int 0) T) P ↔ P (.str (wordR r.gap)) T := fun r => by intros; unfold eRun; rw [rok_ixT]; simp
      have i1 : ∀ (r : Run) {T : Store} {P : D → Store → Prop}, Rok (fIx (eRun r) (.int 1) T) P ↔ P (.int r.n) T := fun r => by intros; unfold eRun; rw [rok_ixT]; simp
      have er : eRun r = D.tup [.str (wordR r.gap), .int r.n] := rfl
      simp at hll
      simp [er, ix, i0, i1, okw, h3]
      exact ⟨by omega, rfl⟩
    · rw [h4]
      have er : eRun r = D.tup [.str (wordR r.gap), .int r.n] := rfl
      by_cases hz : jn (R.take i) = []
      · rw [hz]
        simp [er]
      · obtain ⟨L, q', e⟩ : ∃ L q', jn (R.take i) = L ++ [q'] := ⟨_, _, (List.dropLast_concat_getLast hz).symm⟩
        rw [e] at h2 hll ⊢
        have h3 : ¬ wordR q'.gap = wordR r.gap := fun z => h2 q' (by simp) (wordR_inj.mp z)
        have ix : atI (L.map eRun ++ [eRun q']) ((L.length : Nat) : Int) = some (eRun q') := atI_nat (by simp)
        have i0 : ∀ (r : Run) {T : Store} {P : D → Store → Prop}, Rok (fIx (eRun r) (.int 0) T) P ↔ P (.str (wordR r.gap)) T := fun r => by intros; unfold eRun; rw [rok_ixT]; simp
        simp at hll
        simp [er, ix, i0, okw, h3]
        omega
  · rintro e S' ⟨o2, o3, rfl, rfl⟩
    simp
    rw [rok_gcn un_runs]
    exact ⟨rfl, rfl⟩
theorem product_of2_eq (hn : lstOf S n = some (R.map eRun)) (hR : ∀ r ∈ R, 0 ≤ r.n ∧ r.n < 2 ^ 50) : m_product_of [.ref n, .int 1] S = .ok (eM (prodR R)) S := by
  have l1 : D.tup [.int 1, .int 0, .int 0, .int 1] = eM M4.one := rfl
  refine Rok.eq ?_
  unfold m_product_of
  simp [rok_def, sok_for, hn, l1]
  refine sok_forRun (fun i e S' => S' = S ∧ ∃ o3 o4, e = [some (.ref n), some (.int 1), some (eM (foldM 1 (R.take i))), o3, o4]) _ (fun i e S' h => ?_) ?_ ?_ _ _ ⟨rfl, none, none, rfl⟩
  · obtain ⟨rfl, _⟩ := h; exact hn
  · rintro i d e S' hi ⟨rfl, o3, o4, rfl⟩
    rw [List.getElem?_map] at hi
    obtain ⟨r, hr, rfl⟩ := Option.map_eq_some_iff.mp hi
    obtain ⟨n0, n1⟩ := hR r (List.mem_of_getElem? hr)
    rw [fold_take hr]
    have hp := fun m => product_eq (S := S') (m := m) (k := r.mat 1) fun x y _ hy => CM_r (by
      unfold Run.mat at hy
      split at hy
      · simp at hy
        rcases hy with rfl | rfl | rfl | rfl <;> omega
      · simp at hy
        rcases hy with rfl | rfl | rfl | rfl <;> omega)
    unfold eRun
    simp [run_entries_eq, hp]
  · rintro e S' ⟨rfl, o3, o4, rfl⟩
    simp [foldM_prod]
end
end Rg
end
section
set_option exponentiation.threshold 10000
set_option maxHeartbeats 2000000
namespace Rg
open PySem L2
section
variable {S T : Store} {m : M4} {n k j : Nat} {B : List Int} {R : List Run}
def pM (m : M4) : PyData := .tuple [.int m.a, .int m.b, .int m.c, .int m.d]
@[simp] theorem toP_M {m : M4} {T : Store} {k : Nat} : toP T (k + 2) (eM m) = some (pM m) := by
  unfold eM pM
  simp
@[simp] theorem ev_M {a b : M4} : PyData.eqv (pM a) (pM b) = decide (a = b) := by
  obtain ⟨a1, a2, a3, a4⟩ := a
  obtain ⟨b1, b2, b3, b4⟩ := b
  unfold pM
  simp
theorem ints_map : ∀ l : List Int, intsD (l.map D.int) = some l
  | [] => rfl
  | x :: l => by
    have := ints_map l
    simp [intsD, this]
noncomputable def fBody : SS := (sSeq (sSet 6 (s2 fPlus (s2 fMulL (sVar 3) (sVar 4)) (sCall m_by_turns (sCons (sVar 2) (sCons (sVar 5) (sNil)))))) (sIfS (sT (s2 fEq (sCall m_product_of (sCons (sVar 6) (sCons (sC (.int (1))) (sNil)))) (sVar 1))) (sSeq (sSet 7 (s2 fPlus (s2 fMul (sC (.int (3))) (sVar 4)) (sCall fSum (sCons (sVar 2) (sNil))))) (sSeq (sDrop (sCall m_refuse_many (sCons (sVar 7) (sNil)))) (sRet (sTup (sCons (sVar 7) (sCons (sCall m_joined (sCons (s1 fRevL (sVar 6)) (sNil))) (sNil))))))) (sSkip)))
theorem fBody_ok {g : SPt} {q : Nat} {w : Bool} {C : Store} {o6 o7 : Option D} (hB : ∀ b ∈ B, 1 ≤ b) (hs : B.sum ≤ 3900) (hq : q < 4) 
    (hno : (qp q).mul (ff w B) ≠ m → ∀ (C' : Store) (o5 o6 o7 : Option D), g.nx [some (eMt m), some (eM m), some (.ref S.length), some (.ref (S.length + 1)), some (.int q), o5, o6, o7] (S ++ .lst (B.map D.int) :: .lst [.tup [.str "gap", .int 1], .tup [.str "glass", .int 1], .tup [.str "gap", .int 1]] :: (C ++ C')))
    (hyes : (qp q).mul (ff w B) = m → ∀ (n : Nat) (C : Store), C[n]? = some (.lst ((jn (rns q w B).reverse).map eRun)) → g.rt (.tup [.int (3 * q + B.sum), .ref (S.length + n)]) (S ++ C)) :
    Sok (fBody [some (eMt m), some (eM m), some (.ref S.length), some (.ref (S.length + 1)), some (.int q), some (.str (wordR w)), o6, o7] (S ++ .lst (B.map D.int) :: .lst [.tup [.str "gap", .int 1], .tup [.str "glass", .int 1], .tup [.str "gap", .int 1]] :: C)) g := by
  unfold fBody
  have e1 : ∀ q : Nat, (List.replicate q [D.tup [.str "gap", .int 1], .tup [.str "glass", .int 1], .tup [.str "gap", .int 1]]).flatten = ((List.replicate q qtr).flatten).map eRun := fun q => by
    induction q with
    | zero => rfl
    | succ q ih => rw [List.replicate_succ, List.replicate_succ, List.flatten_cons, List.flatten_cons, List.map_append, ih]; rfl
  have hbl := len_sum hB
  have bt := fun T (h : lstOf T S.length = some (B.map D.int)) => by_turns_eq (w := w) h (by omega)
  have e2 : (List.replicate q (List.map eRun qtr)).flatten ++ List.map eRun (byT w B) = (rns q w B).map eRun := by unfold rns; simp
  have pos := rns_pos (q := q) (w := w) hB
  have pr := fun T n (h : lstOf T n = some ((rns q w B).map eRun)) => product_of2_eq (S := T) (R := rns q w B) h fun r hr => by have := pos r hr; omega
  have rl : (rns q w B).length ≤ 6000 := by
    unfold rns
    simp [byT_len, show qtr.length = 3 from rfl]
    omega
  have jo := fun T n (h : lstOf T n = some ((rns q w B).reverse.map eRun)) => joined2_eq (S := T) h (by simpa using rl)
  simp [e1]
  refine ⟨by omega, ?_⟩
  rw [bt _ (by simp)]
  simp [e2]
  refine ⟨by simp [byT_len, show qtr.length = 3 from rfl]; omega, ?_⟩
  rw [pr _ _ (by simp), prod_rns]
  simp [ints_map]
  refine ⟨fun h => ?_, fun h => hno h _ _ _ _⟩
  refine ⟨CM_l (by decide), ?_⟩
  rw [refuse_eq (by omega)]
  simp
  rw [jo _ _ (by simp)]
  simp
  exact hyes h (C.length + 4 + 1 + 1) _ (by simp)
theorem fewest_eq (hB : Gd B) (hm : m = (qp k).mul (ff true B) ∨ m = (qp k).mul (ff false B)) (hd : m.det = 1) (hb : Bd m j) (hj : 1 ≤ j) (hj2 : j ≤ 4000) (hs : B.sum ≤ 3900) :
    ∃ c J, Few m c J ∧ (c : Int) ≤ 9 + B.sum ∧ ∀ S, m_fewest [eMt m] S = .ok (.tup [.int c, .ref S.length]) (S ++ [.lst (J.map eRun)]) := by
  obtain ⟨X, hX⟩ := tn_ex _ m (Nat.le_refl _)
  obtain ⟨w0, hw0⟩ : ∃ w, m = (qp k).mul (ff w B) := by rcases hm with h | h <;> exact ⟨_, h⟩
  obtain ⟨ok, hbl⟩ := blk_nf hB hw0 hd hX
  have pos := good_pos hB
  have sp : 0 ≤ B.sum := by have := len_sum pos; omega
  have hq : k % 4 < 4 := Nat.mod_lt _ (by decide)
  -- the word that is found
  obtain ⟨w, hw, hfirst⟩ : ∃ w, (qp (k % 4)).mul (ff w B) = m ∧ (w = false → (qp (k % 4)).mul (ff true B) ≠ m) := by
    by_cases h : (qp (k % 4)).mul (ff true B) = m
    · exact ⟨true, h, fun z => by cases z⟩
    · refine ⟨false, ?_, fun _ => h⟩
      rw [← qp_mod] at h ⊢
      cases w0
      · exact hw0.symm
      · exact absurd hw0.symm h
  have other : ∀ q v, q < 4 → q ≠ k % 4 → (qp q).mul (ff v B) ≠ m := fun q v h1 h2 h3 => by
    have := (nf_uniq hB hB (h3.trans hw.symm)).2
    omega
  refine ⟨3 * (k % 4) + B.sum.toNat, _, few_of hB hq hw, by omega, fun S => ?_⟩
  have be := fun T => blocks_eq (S := T) (k := j) hX ok hd hj hj2 hb (by rw [hbl]; omega)
  rw [hbl] at be
  refine Rok.eq ?_
  unfold m_fewest
  obtain ⟨A, hA⟩ : ∃ A, A = fBody := ⟨_, rfl⟩
  have hA2 := hA
  unfold fBody at hA2
  rw [← hA2]
  clear hA2
  simp [rok_def, whole_eq, be, ints_map]
  rw [refuse_eq (by omega)]
  simp [sok_for]
  have ret : ∀ (n : Nat) (C : Store), C[n]? = some (.lst ((jn (rns (k % 4) w B).reverse).map eRun)) → Rok (gc S (.tup [.int (3 * (k % 4 : Nat) + B.sum), .ref (S.length + n)]) (S ++ C)) fun x S' => x = D.tup [D.int (3 * (↑k % 4) + ↑B.sum.toNat), D.ref (List.length S)] ∧ S' = S ++ [Cell.lst (List.map eRun (jn (rns (k % 4) w B).reverse))] := fun n C hC => by
    rw [gc_new (n := S.length + n) (l := (jn (rns (k % 4) w B).reverse).map eRun) (by simp [D.fresh, freshs]) (by simp [D.only, onlys]) (by rw [List.getElem?_append_right (by omega)]; simpa using hC) un_runs, rok_ok]
    simp [D.subst, substs]
    omega
  refine sok_forRun (fun i e S' => i ≤ k % 4 ∧ ∃ (o4 o5 o6 o7 : Option D) (C : Store), e = [some (eMt m), some (eM m), some (.ref S.length), some (.ref (S.length + 1)), o4, o5, o6, o7] ∧ S' = S ++ .lst (B.map D.int) :: .lst [.tup [.str "gap", .int 1], .tup [.str "glass", .int 1], .tup [.str "gap", .int 1]] :: C) _ (fun i e S' h => trivial) ?_ ?_ _ _ ⟨by omega, none, none, none, none, [], rfl, rfl⟩
  · rintro i d e S' hi ⟨hik, o4, o5, o6, o7, C, rfl, rfl⟩
    have hi4 : i < 4 := by omega
    have hd : d = .int i := by
      unfold rangeD at hi
      rw [List.getElem?_map] at hi
      obtain ⟨x, hx, rfl⟩ := Option.map_eq_some_iff.mp hi
      have := List.getElem?_eq_some_iff.mp hx
      obtain ⟨_, h2⟩ := this
      simp at h2
      rw [← h2]
      simp
    subst hd
    simp [sok_for]
    have nomatch' : i < k % 4 ∨ i = k % 4 := by omega
    rw [hA]
    refine fBody_ok (w := true) pos hs hi4 (fun hne C' o5 o6 o7 => ?_) (fun heq n C hC => ?_)
    · simp
      refine fBody_ok (w := false) pos hs hi4 (fun hne2 C' o5 o6 o7 => ?_) (fun heq n C hC => ?_)
      · simp
        rcases nomatch' with h | h
        · omega
        · subst h
          cases w
          · exact absurd hw hne2
          · exact absurd hw hne
      · have e : i = k % 4 := Classical.byContradiction fun z => other i false hi4 z heq
        subst e
        have ew : w = false := by
          cases w
          · rfl
          · exact absurd hw hne
        subst ew
        exact ret n C hC
    · have e : i = k % 4 := Classical.byContradiction fun z => other i true hi4 z heq
      subst e
      have ew : w = true := by
        cases w
        · exact absurd heq (hfirst rfl)
        · rfl
      subst ew
      exact ret n C hC
  · rintro e S' ⟨h, _⟩
    simp at h
    omega
end
end Rg
end
section
set_option exponentiation.threshold 10000
namespace K50
open PySem L2 Rg
theorem it1 {ns : List Int} (hl : ns.length ≤ 63) {e : Rg.Env} (h0 : e[0]? = some (some (.ref 0))) : Rok (sIter (s2 fPlus (sLst (sCons (sC (.int (0))) (sNil))) (sVar 0)) e [.fro (ns.map Rg.D.int)]) fun w S' => (∃ xs : List Int, w.items = xs.map Rg.D.int) ∧ (∃ C, S' = [.fro (ns.map Rg.D.int)] ++ C) ∧ ∀ C, w.chk (S' ++ C) := by
  simp [h0]
  exact ⟨by omega, 0 :: ns, by simp⟩
theorem fewest_of {m : M4} {n j : Nat} (h : SWd m n) (hn : n ≤ 3900) (hd : m.det = 1) (hb : Bd m j) (hj : 1 ≤ j) (hj2 : j ≤ 4000) :
    ∃ c J, Few m c J ∧ c ≤ 9 + n ∧ ∀ S, m_fewest [eMt m] S = .ok (.tup [.int c, .ref S.length]) (S ++ [.lst (J.map eRun)]) := by
  obtain ⟨k, w, l, h1, h2, h3⟩ := h.nf
  obtain ⟨c, J, g1, g2, g3⟩ := fewest_eq (k := k) (B := l) h1 (by cases w; exact .inr h2; exact .inl h2) hd hb hj hj2 (by omega)
  exact ⟨c, J, g1, by omega, g3⟩
theorem sumN_ge {J : List Rg.Run} (h : ∀ r ∈ J, 1 ≤ r.n) : (J.length : Int) ≤ sumN J ∧ ∀ r ∈ J, r.n ≤ sumN J := by
  induction J with
  | nil => simp [sumN]
  | cons a J ih =>
    obtain ⟨h1, h2⟩ := ih fun r hr => h r (by simp [hr])
    have ha := h a (by simp)
    have e : sumN (a :: J) = a.n + sumN J := by simp [sumN]
    refine ⟨by rw [e]; simp; omega, fun r hr => ?_⟩
    rw [e]
    rcases List.mem_cons.mp hr with rfl | hr
    · omega
    · have := h2 r hr
      omega
theorem alt_get : ∀ {J : List Rg.Run} {i : Nat} {q r : Rg.Run}, alt J → J[i]? = some q → J[i + 1]? = some r → q.gap ≠ r.gap
  | [], _, _, _, _, h, _ => by simp at h
  | [a], i, q, r, _, _, h => by simp at h
  | a :: b :: l, 0, q, r, h, h1, h2 => by simp at h1 h2; subst h1 h2; exact h.1
  | a :: b :: l, i + 1, q, r, h, h1, h2 => alt_get (J := b :: l) (i := i) h.2 (by simpa using h1) (by simpa using h2)
theorem formed_eq {J : List Rg.Run} {S : Store} {n : Nat} (h : Row J) (hl : J.length ≤ 5000) (hr : lstOf S n = some (J.map eRun)) : m_l_formed [.ref n] S = .ok (.bl true) S := by
  have hn' := lstOf_lt hr
  refine Rok.eq ?_
  unfold m_l_formed
  simp [rok_def, sok_for, hr, hn']
  refine sok_forRun (fun i e S' => ∃ (C : Store) (o1 o2 : Option Rg.D), S' = S ++ C ∧ e = [some (.ref n), o1, o2]) _ (fun i e S' h => ?_) ?_ ?_ _ _ ⟨[], none, none, by simp, rfl⟩
  · obtain ⟨C, o1, o2, rfl, _⟩ := h
    exact lstOf_app hr
  · rintro i d e S' hi ⟨C, o1, o2, rfl, rfl⟩
    obtain ⟨x, hx, rfl⟩ := enum_get hi
    rw [List.getElem?_map] at hx
    obtain ⟨r, hx2, rfl⟩ := Option.map_eq_some_iff.mp hx
    have hp := h.pos r (List.mem_of_getElem? hx2)
    have i0 : ∀ (r : Rg.Run) {T : Store} {P : Rg.D → Store → Prop}, Rok (fIx (eRun r) (.int 0) T) P ↔ P (.str (wordR r.gap)) T := fun r => by intros; unfold eRun; rw [rok_ixT]; simp
    have i1 : ∀ (r : Rg.Run) {T : Store} {P : Rg.D → Store → Prop}, Rok (fIx (eRun r) (.int 1) T) P ↔ P (.int r.n) T := fun r => by intros; unfold eRun; rw [rok_ixT]; simp
    have er : eRun r = Rg.D.tup [.str (wordR r.gap), .int r.n] := rfl
    have a1 : Ty.tup.isa Ty.tup = true := rfl
    have a2 : Ty.int.isa Ty.bl = false := rfl
    have a3 : Ty.int.isa Ty.int = true := rfl
    have hw : (Str.ofString "gap" = wordR r.gap ∨ Str.ofString "glass" = wordR r.gap) := by
      cases r.gap
      · exact .inr rfl
      · exact .inl rfl
    match i, hi, hx2 with
    | 0, _, _ => simp [er, tyOf, a1, a2, a3, i0, i1, hr, hn', okw, hw, hp]
    | k + 1, _, hx2 =>
      obtain ⟨q, hq⟩ : ∃ q, J[k]? = some q := by
        have := (List.getElem?_eq_some_iff.mp hx2).1
        exact ⟨J[k], List.getElem?_eq_getElem (by omega)⟩
      have hne := alt_get h.alt hq hx2
      have hne2 : ¬ wordR q.gap = wordR r.gap := fun z => hne (wordR_inj.mp z)
      have ix : atI (J.map eRun) ((k : Nat) : Int) = some (eRun q) := atI_nat (by simp [hq])
      simp [er, tyOf, a1, a2, a3, i0, i1, hr, hn', okw, hw, hp, ix, hne2]
  · rintro e S' ⟨C, o1, o2, rfl, rfl⟩
    have ty : tyOf (S ++ C) (.ref n) = some .lst := by
      have := lstOf_app (C := C) hr
      unfold lstOf at this
      unfold tyOf
      split at this <;> simp_all
    have a1 : Ty.lst.isa Ty.lst = true := rfl
    simp [ty, a1]
theorem run_table2_eq {J : List Rg.Run} {S : Store} {n : Nat} (hr : lstOf S n = some (J.map eRun)) (hR : ∀ r ∈ J, 0 ≤ r.n ∧ r.n < 2 ^ 50) : m_run_table [.ref n, .int 1] S = .ok (eMt (ledM 1 J)) S := by
  refine Rok.eq ?_
  unfold m_run_table
  simp [rok_def, hr]
  rw [product_of2_eq (R := J.reverse) (by simp) (fun r hr => hR r (by simpa using hr))]
  have e : prodR J.reverse = ledM 1 J := by rw [← led_rev, List.reverse_reverse]
  rw [e]
  generalize ledM 1 J = m
  simp
  unfold eM eMt
  refine comp_map_then [m.a, m.b, m.c, m.d] Rg.D.int (fun x => .tup [.int x, .int 1]) (by simp) (by simp) (fun x hx acc => by simp) ?_
  simp
theorem right_eq {m : M4} {c : Nat} {J : List Rg.Run} {S : Store} (hf : Few m c J) (hc : c ≤ 4000) (he : ∀ S, m_fewest [eMt m] S = .ok (.tup [.int c, .ref S.length]) (S ++ [.lst (J.map eRun)])) : m_l_right_6 [eM m] S = .ok (.bl true) S := by
  have hs := hf.sum
  obtain ⟨g1, g2⟩ := sumN_ge hf.row.pos
  have hl : J.length ≤ 4000 := by omega
  have bd : ∀ r ∈ J, 0 ≤ r.n ∧ r.n < 2 ^ 50 := fun r hr => by have := g2 r hr; have := hf.row.pos r hr; omega
  have led := fun T n (h : lstOf T n = some (J.map eRun)) => led4_eq (S := T) (s := 1) (.inl rfl) h bd
  have rtb := fun T n (h : lstOf T n = some (J.map eRun)) => run_table2_eq (S := T) h bd
  have fm := fun T n (h : lstOf T n = some (J.map eRun)) => formed_eq (S := T) hf.row (by omega) h
  rw [hf.led] at led rtb
  have i1 : ∀ (r : Rg.Run) {T : Store} {P : Rg.D → Store → Prop}, Rok (fIx (eRun r) (.int 1) T) P ↔ P (.int r.n) T := fun r => by intros; unfold eRun; rw [rok_ixT]; simp
  have a1 : Ty.tup.isa Ty.tup = true := rfl
  have a2 : Ty.int.isa Ty.bl = false := rfl
  refine Rok.eq ?_
  unfold m_l_right_6
  simp [rok_def, told_eq, he, tyOf, a1, a2]
  rw [fm _ _ (by simp)]
  simp [tyOf, a1, a2]
  have es : (J.map fun r => r.n).sum = c := hs
  refine comp_map_then J eRun (fun r => .int r.n) (by simp) (by simp; omega) (fun r _ acc => by simp [i1]) ?_
  simp [intsD_map, es]
  rw [led _ _ (by simp)]
  simp
  rw [rtb _ _ (by simp)]
  have teq : ∀ T k, toP T (k + 3) (eMt m) = some (.tuple [.tuple [.int m.a, .int 1], .tuple [.int m.b, .int 1], .tuple [.int m.c, .int 1], .tuple [.int m.d, .int 1]]) := fun T k => by unfold eMt; simp
  simp [teq]
  refine ⟨by omega, ?_⟩
  have a58 : ∀ T, allP (toP T 58) (J.map eRun) = some (J.map pRun) := fun T => by
    clear hf he hl bd led rtb fm g1 g2 hs es
    induction J with
    | nil => rfl
    | cons r J ih => simp [allP, ih]
  simp [he, a58]
theorem sum_le {R : List Rg.Run} {k : Int} (h : ∀ r ∈ R, r.n ≤ k) (hk : 0 ≤ k) : sumN R ≤ k * (R.length : Int) := by
  induction R with
  | nil => simp [sumN]
  | cons a R ih =>
    have := ih fun r hr => h r (by simp [hr])
    have ha := h a (by simp)
    have e : sumN (a :: R) = a.n + sumN R := by simp [sumN]
    rw [e, List.length_cons]
    have : k * ((R.length + 1 : Nat) : Int) = k * (R.length : Int) + k := by rw [Int.natCast_add, Int.mul_add]; simp
    omega
theorem law_true (ns : List Int) (hl : ns.length ≤ 63) (hb : ∀ z ∈ ns, Builtin.Int.intBits z ≤ 1048576) : ∃ S', m_law_k50 [.ref 0] [.fro (ns.map Rg.D.int)] = .ok (.bl true) S' := by
  refine law_gen0 (slot := 1) (fun e => e.length = 11 ∧ e[0]? = some (some (.ref 0))) rfl ⟨rfl, rfl⟩ (fun e he => it1 hl he.2) ?_ ?_
  · rintro x e S ⟨he, h0⟩
    obtain ⟨o0, o1, o2, o3, o4, o5, o6, o7, o8, o9, o10, rfl⟩ : ∃ a b c d e' f g h i j k, e = [a, b, c, d, e', f, g, h, i, j, k] := by
      match e, he with
      | [a, b, c, d, e, f, g, h, i, j, k], _ => exact ⟨_, _, _, _, _, _, _, _, _, _, _, rfl⟩
    simp at h0
    subst h0
    simp
    refine pool_then fun a b c => ?_
    simp
    refine runs_then (n := S.length) inferInstance (by decide) (by decide) fun R x y z hR lR nR => ?_
    simp
    have h12 : R.length ≤ 12 := by omega
    have bd : ∀ r ∈ R, 0 ≤ r.n ∧ r.n < 128 := fun r hr => ⟨by have := hR.pos r hr; omega, by have := nR r hr; omega⟩
    rw [led4_eq (R := R) (.inl rfl) (by simp) (fun r hr => by have := bd r hr; omega)]
    simp
    have hdet := ledM_det (s := 1) (R := R)
    have hbd := (led_bd (s := 1) (.inl rfl) R bd).mono (j := 100) (by omega)
    have hs := sum_le nR (by decide)
    obtain ⟨W, hW, lW⟩ := word_of (R := R) fun r hr => (bd r hr).1
    have rt := fun T => run_table_eq (S := T) (s := 1) (R := R) (.inl rfl) (by omega) bd
    have hrev : Rg.Row R := hR
    generalize ledM 1 R = m at *
    have bn : Bd (⟨-m.a, -m.b, -m.c, -m.d⟩ : M4) 100 := ⟨by simpa using hbd.a, by simpa using hbd.b, by simpa using hbd.c, by simpa using hbd.d⟩
    have bi : Bd (⟨m.d, -m.b, -m.c, m.a⟩ : M4) 100 := ⟨by simpa using hbd.d, by simpa using hbd.b, by simpa using hbd.c, by simpa using hbd.a⟩
    have s1 : SWd m 720 := by rw [← hW]; exact (SWd.word W).mono (by omega)
    have s2 : SWd (⟨-m.a, -m.b, -m.c, -m.d⟩ : M4) 720 := by
      have := s1.q (j := 2)
      rw [show qp 2 = ⟨-1, 0, 0, -1⟩ by decide] at this
      have e : (⟨-1, 0, 0, -1⟩ : M4).mul m = ⟨-m.a, -m.b, -m.c, -m.d⟩ := by apply M4.ext' <;> simp [M4.mul]
      rw [e] at this
      exact this
    have s3 : SWd (⟨m.d, -m.b, -m.c, m.a⟩ : M4) 1440 := by
      have := SWd.inv W
      rw [hW] at this
      exact this.mono (by omega)
    have d2 : (⟨-m.a, -m.b, -m.c, -m.d⟩ : M4).det = 1 := by unfold M4.det at *; dsimp only; grind
    have d3 : (⟨m.d, -m.b, -m.c, m.a⟩ : M4).det = 1 := by unfold M4.det at *; dsimp only; grind
    obtain ⟨c1, J1, f1, l1, e1⟩ := fewest_of s1 (by decide) hdet hbd (by decide) (by decide)
    obtain ⟨c2, J2, f2, l2, e2⟩ := fewest_of s2 (by decide) d2 bn (by decide) (by decide)
    obtain ⟨c3, J3, f3, l3, e3⟩ := fewest_of s3 (by decide) d3 bi (by decide) (by decide)
    have r1 := fun T => right_eq (S := T) f1 (by omega) e1
    have r2 := fun T => right_eq (S := T) f2 (by omega) e2
    have r3 := fun T => right_eq (S := T) f3 (by omega) e3
    have hc := (f1.least W hW).1
    have mk : ∀ a b c d : Int, Rg.D.tup [.int a, .int b, .int c, .int d] = eM ⟨a, b, c, d⟩ := fun a b c d => rfl
    have gt : ∀ (f : List Rg.D → Rg.Env → Store → Option Rg.Env) (e : Rg.Env) (T : Store) (m : M4), gT 4 f (eM m) e T = f [.int m.a, .int m.b, .int m.c, .int m.d] e T := fun f e T m => rfl
    have em : (⟨m.a, m.b, m.c, m.d⟩ : M4) = m := rfl
    have teq : ∀ T k, toP T (k + 3) (eMt m) = some (.tuple [.tuple [.int m.a, .int 1], .tuple [.int m.b, .int 1], .tuple [.int m.c, .int 1], .tuple [.int m.d, .int 1]]) := fun T k => by unfold eMt; simp
    simp [gt, rt, mk, em, told_eq, teq]
    have i1 : ∀ (r : Rg.Run) {T : Store} {P : Rg.D → Store → Prop}, Rok (fIx (eRun r) (.int 1) T) P ↔ P (.int r.n) T := fun r => by intros; unfold eRun; rw [rok_ixT]; simp
    have es : (R.map fun r => r.n).sum = sumN R := rfl
    have hc2 : (c1 : Int) ≤ sumN R := by omega
    simp [e1]
    refine comp_map_then R eRun (fun r => .int r.n) (by simp) (by simp; omega) (fun r _ acc => by simp [i1]) ?_
    simp [intsD_map, es, hc2, mk, em]
    refine ⟨fun h => ?_, fun h => ?_⟩
    · simp [sok_for, mk, em, r1, r2, r3]
    · simp [sok_for, mk, em, r1, r2, r3]
  · rintro e S ⟨he, h0⟩
    simp
end K50
end
section
set_option exponentiation.threshold 10000
namespace K51
open PySem L2 Rg K50
@[simp] theorem rok_extend1 {n m : Nat} {S : Store} {P : Rg.D → Store → Prop} : Rok (fExtend (.ref n) [.ref m] S) P ↔ ∃ l z, S[n]? = some (.lst l) ∧ S[m]? = some (.lst z) ∧ l.length + z.length ≤ sizeLine ∧ P .non (S.set n (.lst (l ++ z))) := by
  unfold fExtend
  cases h : S[n]? with
  | none => simp [h]
  | some c =>
    cases h2 : S[m]? with
    | none => cases c <;> simp [h, h2]
    | some c2 =>
      cases c <;> cases c2 <;> simp [h, h2]
      exact ⟨fun ⟨a, b⟩ => ⟨b, a b⟩, fun ⟨a, b⟩ => ⟨fun _ => b, a⟩⟩
@[simp] theorem rok_chain {f g : Rg.D → Rg.D → Store → Rg.Res Rg.D} {sa sb sc : Rg.SE} {env : Rg.Env} {S : Store} {P : Rg.D → Store → Prop} : Rok (sChain f g sa sb sc env S) P ↔ Rok (sa env S) fun d S1 => Rok (sb env S1) fun e S2 => Rok (f d e S2) fun r S3 => onB r fun b => (b = true → Rok (sc env S3) fun u S4 => Rok (g e u S4) P) ∧ (b = false → P (.bl false) S3) := by
  have key : ∀ (e r : Rg.D) (S3 : Store), Rok (match r with
    | .bl true => (sc env S3).bind fun u S4 => g e u S4
    | .bl false => .ok (.bl false) S3
    | _ => .bad) P ↔ onB r fun b => (b = true → Rok (sc env S3) fun u S4 => Rok (g e u S4) P) ∧ (b = false → P (.bl false) S3) := fun e r S3 => by
    cases r with
    | bl b => cases b <;> simp [onB]
    | _ => simp [onB]
  unfold sChain
  cases h1 : sa env S with
  | ok d S1 =>
    cases h2 : sb env S1 with
    | ok e S2 =>
      cases h3 : f d e S2 with
      | ok r S3 => simp only [Res.bind, h1, h2, h3, rok_ok]; exact key e r S3
      | _ => simp [Res.bind, h1, h2, h3]
    | _ => simp [Res.bind, h1, h2]
  | _ => simp [Res.bind, h1]
def uV (V : List Bool) : List Rg.Run := V.map fun b => ⟨b, 1⟩
def eW (b : Bool) : Rg.D := .str (wordR b)
theorem uV_len {V : List Bool} : sumN (uV V) = V.length := by
  induction V with
  | nil => rfl
  | cons a V ih =>
    have : sumN (uV (a :: V)) = 1 + sumN (uV V) := by simp [uV, sumN]
    rw [this, ih, List.length_cons]
    omega
theorem uV_n {V : List Bool} : ∀ r ∈ uV V, r.n = 1 := fun r hr => by
  unfold uV at hr
  obtain ⟨b, _, rfl⟩ := List.mem_map.mp hr
  rfl
theorem led_app {s : Int} {A B : List Rg.Run} : ledM s (A ++ B) = (ledM s B).mul (ledM s A) := by
  refine snoc_ind' (P := fun B => ledM s (A ++ B) = (ledM s B).mul (ledM s A)) ?_ ?_ B
  · rw [List.append_nil]
    exact M4.one_mul.symm
  · intro l a ih
    rw [← List.append_assoc, ledM_snoc, ledM_snoc, ih, M4.mul_assoc]
theorem few_word {m : M4} {c : Nat} {J : List Rg.Run} (h : Few m c J) : ∃ W, prodW W = m ∧ W.length = c := by
  obtain ⟨W, h1, h2⟩ := word_of (R := J) fun r hr => by have := h.row.pos r hr; omega
  exact ⟨W, by rw [h1, h.led], by have := h.sum; omega⟩
theorem uV_word {V : List Bool} : ∃ W, prodW W = ledM 1 (uV V) ∧ W.length = V.length := by
  obtain ⟨W, h1, h2⟩ := word_of (R := uV V) fun r hr => by rw [uV_n r hr]; decide
  exact ⟨W, h1, by rw [uV_len] at h2; omega⟩
theorem piece {A B D : List Bool} {m : M4} {c k : Nat} {J I : List Rg.Run} (h : Few m c J) (e : ledM 1 (uV (A ++ B ++ D)) = m) (hl : (A ++ B ++ D).length = c) (hk : Few (ledM 1 (uV B)) k I) : k = B.length := by
  obtain ⟨W, h1, h2⟩ := few_word hk
  obtain ⟨WA, a1, a2⟩ := uV_word (V := A)
  obtain ⟨WB, b1, b2⟩ := uV_word (V := B)
  obtain ⟨WD, d1, d2⟩ := uV_word (V := D)
  have l1 := (hk.least WB b1).1
  have e2 : prodW (WD ++ W ++ WA) = m := by
    rw [prodW_app, prodW_app, d1, h1, a1, ← e]
    unfold uV
    rw [List.map_append, List.map_append, led_app, led_app, M4.mul_assoc]
  have l2 := (h.least _ e2).1
  simp at l2 hl
  omega
def lets (J : List Rg.Run) : List Bool := J.flatMap fun r => List.replicate r.n.toNat r.gap
theorem lets_snoc {J : List Rg.Run} {r : Rg.Run} : lets (J ++ [r]) = lets J ++ List.replicate r.n.toNat r.gap := by simp [lets]
theorem lets_ok {J : List Rg.Run} (h : ∀ r ∈ J, 0 ≤ r.n) : ledM 1 (uV (lets J)) = ledM 1 J ∧ ((lets J).length : Int) = sumN J := by
  refine snoc_ind' (P := fun J => (∀ r ∈ J, 0 ≤ r.n) → ledM 1 (uV (lets J)) = ledM 1 J ∧ ((lets J).length : Int) = sumN J) ?_ ?_ J h
  · intro _
    exact ⟨rfl, rfl⟩
  · intro l a ih h
    obtain ⟨h1, h2⟩ := ih fun r hr => h r (by simp [hr])
    have ha := h a (by simp)
    have key : ∀ (n : Nat) (g : Bool), ledM 1 (uV (List.replicate n g)) = lt g n := fun n g => by
      induction n with
      | zero => exact lt_zero.symm
      | succ n ih =>
        have : uV (List.replicate (n + 1) g) = [⟨g, 1⟩] ++ uV (List.replicate n g) := rfl
        rw [this, led_app, ih]
        have : ledM 1 [(⟨g, 1⟩ : Rg.Run)] = lt g 1 := M4.mul_one
        rw [this, lt_add]
        congr 1
    rw [lets_snoc]
    have e : uV (lets l ++ List.replicate a.n.toNat a.gap) = uV (lets l) ++ uV (List.replicate a.n.toNat a.gap) := by simp [uV]
    rw [e, led_app, key, h1, ledM_snoc, show ((a.n.toNat : Nat) : Int) = a.n by omega]
    refine ⟨rfl, ?_⟩
    rw [sumN_snoc]
    simp
    omega
theorem swd_uV {V : List Bool} : SWd (ledM 1 (uV V)) V.length := by
  obtain ⟨W, h1, h2⟩ := uV_word (V := V)
  rw [← h1, ← h2]
  exact SWd.word W
theorem swd_after {m : M4} {n : Nat} (h : SWd m n) {x : Bool} : SWd (m.mul (lt x 1)) (n + 1) := by
  obtain ⟨k, W, h1, h2⟩ := h
  refine ⟨k, W ++ [x], ?_, by simp; omega⟩
  have : prodW [x] = lt x 1 := M4.mul_one
  rw [h1, prodW_app, this, M4.mul_assoc]
theorem swd_pow {m : M4} {n : Nat} (h : SWd m n) {x : Bool} : ∀ (k : Nat) (s : Int), s.natAbs = k → SWd ((lt x s).mul m) (n + 2 * k)
  | 0, s, hs => by
    have : s = 0 := by omega
    subst this
    rw [lt_zero, M4.one_mul]
    exact h
  | k + 1, s, hs => by
    by_cases h0 : 0 < s
    · have := (swd_pow h (x := x) k (s - 1) (by omega)).letter (x := x)
      rw [← M4.mul_assoc, lt_add, show 1 + (s - 1) = s by omega] at this
      exact this.mono (by omega)
    · have := (swd_pow h (x := x) k (s + 1) (by omega)).back (x := x)
      rw [← M4.mul_assoc, lt_add, show -1 + (s + 1) = s by omega] at this
      exact this.mono (by omega)
theorem lt_mul {x : Bool} {s : Int} {m : M4} : (lt x s).mul m = if x then ⟨m.a + s * m.c, m.b + s * m.d, m.c, m.d⟩ else ⟨m.a, m.b, m.c - s * m.a, m.d - s * m.b⟩ := by
  cases x <;> apply M4.ext' <;> simp [M4.mul, lt, Run.mat] <;> grind
theorem bd_small {m : M4} {k : Nat} (hb : Bd m k) {x : Bool} {s : Int} (hs : s.natAbs ≤ 6) : Bd ((lt x s).mul m) (k + 3) := by
  have e : (2 : Nat) ^ (k + 3) = 8 * 2 ^ k := by rw [Nat.pow_add]; omega
  obtain ⟨a, b, c, d⟩ := hb
  have key : ∀ x y : Int, x.natAbs < 2 ^ k → y.natAbs < 2 ^ k → (x + s * y).natAbs < 2 ^ (k + 3) ∧ (x - s * y).natAbs < 2 ^ (k + 3) := fun x y hx hy => by
    have : (s * y).natAbs ≤ 6 * 2 ^ k := by
      rw [Int.natAbs_mul]
      exact Nat.mul_le_mul hs (Nat.le_of_lt hy)
    generalize s * y = z at *
    rw [e]
    omega
  have up : ∀ x : Int, x.natAbs < 2 ^ k → x.natAbs < 2 ^ (k + 3) := fun x hx => Nat.lt_of_lt_of_le hx (pow_le (by omega))
  rw [lt_mul]
  cases x
  · exact ⟨up _ a, up _ b, (key _ _ c a).2, (key _ _ d b).2⟩
  · exact ⟨(key _ _ a c).1, (key _ _ b d).1, up _ c, up _ d⟩
theorem lt_det {x : Bool} {s : Int} {m : M4} (h : m.det = 1) : ((lt x s).mul m).det = 1 := by
  rw [M4.det_mul, h]
  have : (lt x s).det = 1 := mat_det
  rw [this]
  rfl
section
variable {S T : Store} {n p : Nat} {V : List Bool} {J : List Rg.Run}
theorem drawn_then {P : Rg.D → Store → Prop} (hp : Pool S n) (h : ∀ (m : M4) (x y z : Int), SWd m 60 → m.det = 1 → Bd m 30 → P (eM m) (S.set n (pl x y z))) : Rok (m_l_drawn [.ref n] S) P := by
  have hn : n < S.length := hp.lt
  unfold m_l_drawn
  simp [rok_def, sok_for]
  refine next_then (n := n) inferInstance (by decide) (by decide) fun k x y z k0 k1 => ?_
  simp [hn]
  refine ⟨by omega, ?_⟩
  refine sok_forRun (fun i e S' => ∃ (m : M4) (x y z : Int) (o5 o6 : Option Rg.D), S' = S.set n (pl x y z) ∧ e = [some (.ref n), some (.int m.a), some (.int m.b), some (.int m.c), some (.int m.d), o5, o6] ∧ SWd m (12 * i) ∧ m.det = 1 ∧ Bd m (1 + 3 * i)) _ (fun i e S' h => trivial) ?_ ?_ _ _ ⟨M4.one, x, y, z, none, none, rfl, rfl, SWd.one, by decide, ⟨by decide, by decide, by decide, by decide⟩⟩
  · rintro i d e S' hi ⟨m, x, y, z, o5, o6, rfl, rfl, h1, h2, h3⟩
    have hd : d = .int i := by
      unfold rangeD at hi
      rw [List.getElem?_map] at hi
      obtain ⟨x, hx, rfl⟩ := Option.map_eq_some_iff.mp hi
      obtain ⟨_, h2⟩ := List.getElem?_eq_some_iff.mp hx
      simp at h2
      rw [← h2]
      simp
    subst hd
    simp [hn]
    refine next_then (n := n) inferInstance (by decide) (by decide) fun s x y z s0 s1 => ?_
    simp [hn]
    have hs : (s - 6).natAbs ≤ 6 := by omega
    have w := fun b => (swd_pow h1 (x := b) _ (s - 6) rfl).mono (show 12 * i + 2 * (s - 6).natAbs ≤ 12 * (i + 1) by omega)
    have bb := fun b => (bd_small h3 (x := b) hs).mono (show 1 + 3 * i + 3 ≤ 1 + 3 * (i + 1) by omega)
    have dd := fun b => lt_det (x := b) (s := s - 6) h2
    have eT := lt_mul (x := true) (s := s - 6) (m := m)
    have eF := lt_mul (x := false) (s := s - 6) (m := m)
    simp only [if_true] at eT
    simp only [Bool.false_eq_true, if_false] at eF
    refine ⟨by unfold CMo; decide, fun _ => ⟨CM_l (by omega), CM_l (by omega), ⟨_, _, _, rfl⟩, _, ?_, w true, dd true, bb true⟩, fun _ => ⟨CM_l (by omega), CM_l (by omega), ⟨_, _, _, rfl⟩, _, ?_, w false, dd false, bb false⟩⟩
    · rw [eT]; exact ⟨rfl, rfl, rfl, rfl⟩
    · rw [eF]; exact ⟨rfl, rfl, rfl, rfl⟩
  · rintro e S' ⟨m, x, y, z, o5, o6, rfl, rfl, h1, h2, h3⟩
    simp [hn] at h1 h3 ⊢
    refine next_then (n := n) inferInstance (by decide) (by decide) fun s x y z s0 s1 => ?_
    simp [hn]
    have h1 := h1.mono (show _ ≤ 60 by omega)
    have h3 := h3.mono (show _ ≤ 30 by omega)
    refine ⟨fun _ => ?_, fun _ => h m x y z h1 h2 h3⟩
    have e : (qp 3).mul m = ⟨-m.c, -m.d, m.a, m.b⟩ := by
      rw [show qp 3 = ⟨0, -1, 1, 0⟩ by decide]
      apply M4.ext' <;> simp [M4.mul]
    refine h ⟨-m.c, -m.d, m.a, m.b⟩ x y z (by rw [← e]; exact h1.q) (by unfold M4.det at *; dsimp only; grind) ⟨by simpa using h3.c, by simpa using h3.d, h3.a, h3.b⟩
theorem parts_eq (hr : lstOf S n = some (J.map eRun)) (hJ : ∀ r ∈ J, 0 ≤ r.n) (hs : sumN J ≤ 5000) : m_l_parts_2 [.ref n] S = .ok (.ref S.length) (S ++ [.lst ((lets J).map eW)]) := by
  have hn' := lstOf_lt hr
  refine Rok.eq ?_
  unfold m_l_parts_2
  simp [rok_def, sok_for, hr, hn']
  refine sok_forRun (fun i e S' => ∃ (C : Store) (o2 o3 : Option Rg.D), S' = S ++ .lst ((lets (J.take i)).map eW) :: C ∧ e = [some (.ref n), some (.ref S.length), o2, o3]) _ (fun i e S' h => ?_) ?_ ?_ _ _ ⟨[], none, none, rfl, rfl⟩
  · obtain ⟨C, o2, o3, rfl, _⟩ := h
    exact lstOf_app hr
  · rintro i d e S' hi ⟨C, o2, o3, rfl, rfl⟩
    rw [List.getElem?_map] at hi
    obtain ⟨r, hr2, rfl⟩ := Option.map_eq_some_iff.mp hi
    have et : J.take (i + 1) = J.take i ++ [r] := by rw [List.take_succ, hr2]; rfl
    have h0 := hJ r (List.mem_of_getElem? hr2)
    have hl : ((lets (J.take (i + 1))).length : Int) ≤ 5000 := by
      have h1 := (lets_ok (J := J.take (i + 1)) fun q hq => hJ q (List.mem_of_mem_take hq)).2
      have h2 : sumN J = sumN (J.take (i + 1)) + sumN (J.drop (i + 1)) := by rw [← sumN_app, List.take_append_drop]
      have h3 : 0 ≤ sumN (J.drop (i + 1)) := by
        have := (lets_ok (J := J.drop (i + 1)) fun q hq => hJ q (List.mem_of_mem_drop hq)).2
        omega
      omega
    rw [et, lets_snoc] at hl ⊢
    simp at hl
    have er : eRun r = Rg.D.tup [.str (wordR r.gap), .int r.n] := rfl
    have ef : ∀ k : Nat, (List.replicate k [Rg.D.str (wordR r.gap)]).flatten = List.replicate k (eW r.gap) := fun k => by
      induction k with
      | zero => rfl
      | succ k ih => rw [List.replicate_succ, List.replicate_succ, List.flatten_cons, ih]; rfl
    have hr0 : r.n ≤ 5000 := by omega
    simp [er, ef]
    refine ⟨⟨by omega, by omega, by omega⟩, by omega, ?_⟩
    simp [eW]
  · rintro e S' ⟨C, o2, o3, rfl, rfl⟩
    simp
    have := rok_gcr (S := S) (C := .lst ((lets J).map eW) :: C) (k := 0) (l := (lets J).map eW) (P := fun x S' => x = Rg.D.ref S.length ∧ S' = S ++ [.lst ((lets J).map eW)]) rfl (un_map fun _ _ => by simp [eW])
    exact this.mpr ⟨rfl, rfl⟩
theorem count_eq (hV : V.length ≤ 400) : ∃ c I, Few (ledM 1 (uV V)) c I ∧ ∀ (S : Store) (n : Nat), lstOf S n = some (V.map eW) → m_l_count [.ref n] S = .ok (.int c) S := by
  have hb := (led_bd (s := 1) (.inl rfl) (uV V) fun r hr => by rw [uV_n r hr]; decide).mono (j := 4000) (by simp [uV]; omega)
  obtain ⟨c, I, h1, h2, h3⟩ := fewest_of (swd_uV (V := V)) (by omega) ledM_det hb (by decide) (by decide)
  refine ⟨c, I, h1, fun S n hn => ?_⟩
  refine Rok.eq ?_
  unfold m_l_count
  simp [rok_def]
  refine comp_map_then V eW (fun b => eRun ⟨b, 1⟩) (by simp [hn, lstOf_lt hn]) (by simp; omega) (fun r _ acc => by simp [eW, eRun]) ?_
  have e : (V.map fun b => eRun ⟨b, 1⟩) = (uV V).map eRun := by simp [uV]
  rw [e]
  simp
  rw [led4_eq (R := uV V) (.inl rfl) (by simp) (fun r hr => by rw [uV_n r hr]; decide)]
  simp [told_eq, h3]
theorem near_eq {m : M4} {c j : Nat} {J : List Rg.Run} (hf : Few m c J) (hS : SWd m 1000) (hd : m.det = 1) (hb : Bd m j) (hj : 1 ≤ j) (hj2 : j ≤ 3000) : m_l_near_2 [eM m, .int c] S = .ok (.bl true) S := by
  obtain ⟨W, w1, w2⟩ := few_word hf
  have gt : ∀ (f : List Rg.D → Rg.Env → Store → Option Rg.Env) (e : Rg.Env) (T : Store) (m : M4), gT 4 f (eM m) e T = f [.int m.a, .int m.b, .int m.c, .int m.d] e T := fun f e T m => rfl
  have mk : ∀ a b c d : Int, Rg.D.tup [.int a, .int b, .int c, .int d] = eM ⟨a, b, c, d⟩ := fun a b c d => rfl
  have go : ∀ k : M4, SWd k 1001 → k.det = 1 → Bd k (j + 3) → (∃ W, prodW W = k ∧ W.length = c + 1) → ∃ (x : Nat) (I : List Rg.Run), (x : Int) ≤ c + 1 ∧ ∀ S, m_fewest [eMt k] S = .ok (.tup [.int x, .ref S.length]) (S ++ [.lst (I.map eRun)]) := fun k h1 h2 h3 h4 => by
    obtain ⟨V, v1, v2⟩ := h4
    obtain ⟨x, I, g1, g2, g3⟩ := fewest_of h1 (by decide) h2 h3 (by omega) (by omega)
    have := (g1.least V v1).1
    exact ⟨x, I, by omega, g3⟩
  have bT := bd_small hb (x := true) (s := 1) (by decide)
  have bF := bd_small hb (x := false) (s := 1) (by decide)
  have eT := lt_mul (x := true) (s := 1) (m := m)
  have eF := lt_mul (x := false) (s := 1) (m := m)
  simp only [if_true, Int.one_mul] at eT
  simp only [Bool.false_eq_true, if_false, Int.one_mul] at eF
  have rT : m.mul (lt true 1) = ⟨m.a, m.a + m.b, m.c, m.c + m.d⟩ := by apply M4.ext' <;> simp [M4.mul, lt, Run.mat]
  have rF : m.mul (lt false 1) = ⟨m.a - m.b, m.b, m.c - m.d, m.d⟩ := by apply M4.ext' <;> simp [M4.mul, lt, Run.mat] <;> grind
  have e8 : (2 : Nat) ^ (j + 3) = 8 * 2 ^ j := by rw [Nat.pow_add]; omega
  have dl : ∀ x, (m.mul (lt x 1)).det = 1 := fun x => by rw [M4.det_mul, hd, show (lt x 1).det = 1 from mat_det]; rfl
  obtain ⟨a, b, c', d⟩ := hb
  have bR : Bd (m.mul (lt true 1)) (j + 3) := by rw [rT]; exact ⟨by dsimp only; omega, by dsimp only; omega, by dsimp only; omega, by dsimp only; omega⟩
  have bL : Bd (m.mul (lt false 1)) (j + 3) := by rw [rF]; exact ⟨by dsimp only; omega, by dsimp only; omega, by dsimp only; omega, by dsimp only; omega⟩
  have p1 : ∀ x, prodW [x] = lt x 1 := fun x => M4.mul_one
  obtain ⟨x1, I1, l1, f1⟩ := go _ (hS.letter (x := true)) (lt_det hd) bT ⟨true :: W, by rw [← w1]; rfl, by simp [w2]⟩
  obtain ⟨x2, I2, l2, f2⟩ := go _ (hS.letter (x := false)) (lt_det hd) bF ⟨false :: W, by rw [← w1]; rfl, by simp [w2]⟩
  obtain ⟨x3, I3, l3, f3⟩ := go _ (swd_after hS (x := true)) (dl _) bR ⟨W ++ [true], by rw [prodW_app, w1, p1], by simp [w2]⟩
  obtain ⟨x4, I4, l4, f4⟩ := go _ (swd_after hS (x := false)) (dl _) bL ⟨W ++ [false], by rw [prodW_app, w1, p1], by simp [w2]⟩
  rw [eT] at f1
  rw [eF] at f2
  rw [rT] at f3
  rw [rF] at f4
  refine Rok.eq ?_
  unfold m_l_near_2
  simp [rok_def, sok_for, gt, mk, told_eq, f1, f2, f3, f4, l1, l2, l3, l4]
theorem pref {m : M4} {c : Nat} (hf : Few m c J) (e : ledM 1 (uV V) = m) (hl : V.length = c) (hc : c ≤ 400) {A B D : List Bool} (hV : V = A ++ B ++ D) (hn : lstOf S n = some (B.map eW)) : m_l_count [.ref n] S = .ok (.int B.length) S := by
  have hB : B.length ≤ 400 := by
    rw [hV] at hl
    simp at hl
    omega
  obtain ⟨k, I, h1, h2⟩ := count_eq hB
  have := piece hf (by rw [← hV]; exact e) (by rw [← hV]; exact hl) h1
  rw [h2 S n hn, this]
theorem beginnings_then {m : M4} {c : Nat} {P : Rg.D → Store → Prop} (hf : Few m c J) (e : ledM 1 (uV V) = m) (hl : V.length = c) (hc : c ≤ 400) (hV : lstOf S n = some (V.map eW)) (hp : Pool S p) (hnp : n ≠ p) (h : ∀ x y z : Int, P (.bl true) (S.set p (pl x y z))) : Rok (m_l_beginnings [.ref n, .ref p] S) P := by
  have hp' : p < S.length := hp.lt
  have hn' := lstOf_lt hV
  unfold m_l_beginnings
  simp [rok_def, sok_for, hV]
  refine ⟨CDv_w (b := 4) (by decide) (by decide) (by decide), ?_⟩
  have hb : ((V.length : Int) + 1).natAbs < 2 ^ 8999 := Nat.lt_of_lt_of_le (show ((V.length : Int) + 1).natAbs < 2 ^ 10 by omega) (pow_le (by decide))
  refine next_then hp (by omega) hb fun v x y z v0 v1 => ?_
  have hV1 : lstOf (S.set p (pl x y z)) n = some (V.map eW) := by
    unfold lstOf at hV ⊢
    rw [List.getElem?_set_ne (by omega)]
    exact hV
  obtain ⟨T, hT⟩ : ∃ T, T = S.set p (pl x y z) := ⟨_, rfl⟩
  have hl2 : n < T.length := by rw [hT]; simpa using hn'
  simp only [← hT] at hV1 ⊢
  simp [-sok_forCons]
  obtain ⟨xs, hxs⟩ : ∃ xs : List Int, xs = [0, 1, (V.length : Int) / 2, (V.length : Int) - 1, v] := ⟨_, rfl⟩
  have ex : [Rg.D.int 0, .int 1, .int ((V.length : Int) / 2), .int ((V.length : Int) - 1), .int v] = xs.map Rg.D.int := by rw [hxs]; rfl
  rw [ex]
  refine sok_forRun (fun i e S' => ∃ (C : Store) (o : Option Rg.D), S' = T ++ .lst (xs.map Rg.D.int) :: C ∧ e = [some (.ref n), some (.ref p), o]) _ (fun i e S' h => ?_) ?_ ?_ _ _ ⟨[], _, rfl, rfl⟩
  · obtain ⟨C, o, rfl, _⟩ := h
    simp
  · rintro i d e S' hi ⟨C, o, rfl, rfl⟩
    rw [List.getElem?_map] at hi
    obtain ⟨q, _, rfl⟩ := Option.map_eq_some_iff.mp hi
    by_cases hq : 0 ≤ q ∧ q ≤ V.length
    · obtain ⟨k, rfl⟩ : ∃ k : Nat, q = k := ⟨q.toNat, by omega⟩
      have hk : k ≤ V.length := by omega
      have c1 : cutL (V.map eW) none (some (k : Int)) = (V.take k).map eW := by rw [cut_to (by simpa using hk), List.map_take]
      have pr := fun T q (h : lstOf T q = some ((V.take k).map eW)) => pref (S := T) (n := q) (A := []) (B := V.take k) (D := V.drop k) hf e hl hc (by simp) h
      have ek : (V.take k).length = k := by simp; omega
      rw [ek] at pr
      simp [hV1, hl2, hk, c1]
      rw [pr _ _ (by simp)]
      simp
    · simp [hV1, hl2]
      intro h1 h2
      exact absurd ⟨h1, h2⟩ hq
  · rintro e S' ⟨C, o, rfl, rfl⟩
    simp
    rw [hT]
    simp [hp']
    exact h _ _ _
theorem right_then {m : M4} {P : Rg.D → Store → Prop} (hp : Pool S p) (hS : SWd m 300) (hd : m.det = 1) (hb : Bd m 400) (h : ∀ x y z : Int, P (.bl true) (S.set p (pl x y z))) : Rok (m_l_right_7 [eM m, .ref p] S) P := by
  have hp' : p < S.length := hp.lt
  obtain ⟨c, J, f1, l1, e1⟩ := fewest_of hS (by decide) hd hb (by decide) (by decide)
  have bn : Bd (⟨-m.a, -m.b, -m.c, -m.d⟩ : M4) 400 := ⟨by simpa using hb.a, by simpa using hb.b, by simpa using hb.c, by simpa using hb.d⟩
  have en : (⟨-1, 0, 0, -1⟩ : M4).mul m = ⟨-m.a, -m.b, -m.c, -m.d⟩ := by apply M4.ext' <;> simp [M4.mul]
  have q2 : qp 2 = ⟨-1, 0, 0, -1⟩ := by decide
  have s2 : SWd (⟨-m.a, -m.b, -m.c, -m.d⟩ : M4) 300 := by
    have := hS.q (j := 2)
    rw [q2, en] at this
    exact this
  have d2 : (⟨-m.a, -m.b, -m.c, -m.d⟩ : M4).det = 1 := by unfold M4.det at *; dsimp only; grind
  obtain ⟨c2, J2, f2, l2, e2⟩ := fewest_of s2 (by decide) d2 bn (by decide) (by decide)
  have six : prodW [true, false, true, true, false, true] = ⟨-1, 0, 0, -1⟩ := by decide
  have dist : ((c : Int) - c2).natAbs = 6 := by
    obtain ⟨W, w1, w2⟩ := few_word f1
    obtain ⟨V, v1, v2⟩ := few_word f2
    have h1 := f2.least ([true, false, true, true, false, true] ++ W) (by rw [prodW_app, w1, six, en])
    have h2 := f1.least ([true, false, true, true, false, true] ++ V) (by rw [prodW_app, v1, six]; apply M4.ext' <;> simp [M4.mul])
    simp [w2] at h1
    simp [v2] at h2
    omega
  have near := fun T => near_eq (S := T) f1 (hS.mono (by decide)) hd hb (by decide) (by decide)
  have hs := f1.sum
  have pos : ∀ r ∈ J, 0 ≤ r.n := fun r hr => by have := f1.row.pos r hr; omega
  have pt := fun T n (h : lstOf T n = some (J.map eRun)) => parts_eq (S := T) h pos (by omega)
  obtain ⟨g1, g2⟩ := lets_ok pos
  rw [f1.led] at g1
  have hl : (lets J).length = c := by omega
  generalize lets J = V at *
  have gt4 : ∀ (f : List Rg.D → Rg.Env → Store → Option Rg.Env) (e : Rg.Env) (T : Store) (m : M4), gT 4 f (eM m) e T = f [.int m.a, .int m.b, .int m.c, .int m.d] e T := fun f e T m => rfl
  have mk : ∀ a b c d : Int, Rg.D.tup [.int a, .int b, .int c, .int d] = eM ⟨a, b, c, d⟩ := fun a b c d => rfl
  have hpT : Pool (S ++ [.lst (J.map eRun), .lst (V.map eW)]) p := inferInstance
  unfold m_l_right_7
  simp [rok_def, gt4, told_eq, e1]
  rw [pt _ _ (by simp)]
  simp [near]
  refine beginnings_then (n := S.length + 1) f1 g1 hl (by omega) (by simp) hpT (by omega) fun x y z => ?_
  have da : ((c : Int) - c2 = 6 ∨ (c : Int) - c2 = -6) := by omega
  simp [hp']
  refine ⟨fun h0 => ?_, fun h0 => ?_⟩
  · obtain ⟨v, V', rfl⟩ : ∃ v V', V = v :: V' := by
      match V, hl with
      | [], hl => simp at hl; omega
      | v :: V', _ => exact ⟨v, V', rfl⟩
    have c1 : cutL ((v :: V').map eW) (some 1) none = V'.map eW := cut_from (k := 1) (by simp)
    rw [c1]
    rw [pref (A := [v]) (B := V') (D := []) f1 g1 hl (by omega) (by simp) (by simp [hp'])]
    have e3 : (V'.length : Int) = c - 1 := by rw [← hl]; simp
    simp [e3, mk, told_eq, e2, dist, hp']
    exact h _ _ _
  · simp [mk, told_eq, e2, dist, hp']
    exact h _ _ _
end
theorem law_gen3 {np slot : Nat} {pre body rest : Rg.SS} {si : Rg.SI} {ns : List Int} {m : Rg.Mf} {S0 : Store} (EI : Rg.Env → Prop) (xs : List Int) (hm : m = mkDef np 1 (sSeq pre (sSeq (sFor si (gN slot) body) rest)))
    (hpre : Sok (pre (some (.ref 0) :: List.replicate (np - 1) none) [.fro (ns.map Rg.D.int)]) { nx := fun e S' => EI e ∧ S' = S0, rt := fun _ _ => False })
    (hS0 : ∃ C, S0 = [.fro (ns.map Rg.D.int)] ++ C)
    (hit : ∀ e, EI e → Rok (si e S0) fun w S' => w.items = xs.map Rg.D.int ∧ (∃ C, S' = S0 ++ C) ∧ ∀ C, w.chk (S' ++ C))
    (turn : ∀ x ∈ xs, ∀ (e : Rg.Env) (C : Store), EI e → Sok (body (e.set slot (some (.int x))) (S0 ++ C)) { nx := fun e' S' => EI e' ∧ ∃ C', S' = S0 ++ (C ++ C'), rt := fun _ _ => False, ct := fun e' S' => EI e' ∧ ∃ C', S' = S0 ++ (C ++ C') })
    (hrest : ∀ (e : Rg.Env) (S : Store), EI e → Sok (rest e S) { nx := fun _ _ => False, rt := fun d S' => d = .bl true ∧ ∃ C, S' = S ++ C }) :
    ∃ S', m [.ref 0] [.fro (ns.map Rg.D.int)] = .ok (.bl true) S' := by
  obtain ⟨CC, hS0⟩ := hS0
  have key : Rok (m [.ref 0] [.fro (ns.map Rg.D.int)]) fun d _ => d = .bl true := by
    rw [hm, rok_def]
    refine ⟨rfl, ?_⟩
    rw [sok_seq]
    refine Sok.imp hpre ?_ (fun _ _ h => h.elim) (fun _ _ h => h.elim) (fun _ _ h => h.elim)
    rintro e Sx ⟨he, hSx⟩
    dsimp only
    rw [hSx, sok_seq, sok_for]
    refine (hit e he).imp ?_
    rintro ⟨items, chk⟩ S1 ⟨hx, ⟨C0, hS1⟩, hchk⟩
    dsimp only at hx hchk ⊢
    rw [hx]
    rw [hS1] at hchk ⊢
    refine sok_forRun (fun _ e S' => EI e ∧ ∃ C, S' = S0 ++ (C0 ++ C)) _ (fun i e S' h => ?_) ?_ ?_ _ _ ⟨he, [], by simp⟩
    · obtain ⟨_, C, rfl⟩ := h
      have := hchk C
      rwa [List.append_assoc] at this
    · rintro i d e S' hi ⟨he, C, rfl⟩
      obtain ⟨x, hx, rfl⟩ := List.mem_map.mp (List.mem_of_getElem? hi)
      simp only [gN_some]
      refine ⟨_, rfl, ?_⟩
      refine (turn x hx e _ he).imp ?_ ?_ ?_ ?_
      · rintro e S2 ⟨h1, C2, rfl⟩
        exact ⟨h1, C ++ C2, by simp⟩
      · exact fun _ _ h => h.elim
      · exact fun _ _ h => h.elim
      · rintro e S2 ⟨h1, C2, rfl⟩
        exact ⟨h1, C ++ C2, by simp⟩
    · rintro e S' ⟨he, C, rfl⟩
      refine (hrest e _ he).imp (fun _ _ h => h.elim) ?_ (fun _ _ h => h.elim) (fun _ _ h => h.elim)
      rintro d S2 ⟨rfl, C2, rfl⟩
      have := gc_app (S := [Cell.fro (ns.map Rg.D.int)]) (C := CC ++ (C0 ++ C) ++ C2) (d := .bl true) (by simp)
      rw [hS0]
      simp at this ⊢
      rw [this]
      simp
  obtain ⟨d, S', e, rfl⟩ := key
  exact ⟨S', e⟩
def cap (r : Rg.Run) : Rg.Run := ⟨r.gap, min r.n 5⟩
theorem alt_cap : ∀ {R : List Rg.Run}, alt R → alt (R.map cap)
  | [], _ => trivial
  | [a], _ => trivial
  | a :: b :: l, h => ⟨h.1, alt_cap (R := b :: l) h.2⟩
def capD : Rg.D → Option Rg.D
  | .tup [.str w, .int n] => some (.tup [.str w, .int (min n 5)])
  | _ => none
theorem cap_map {R : List Rg.Run} : (R.map eRun).filterMap capD = (R.map cap).map eRun := by
  induction R with
  | nil => rfl
  | cons a R ih =>
    simp only [List.map_cons]
    rw [List.filterMap_cons_some (f := capD) (a := eRun a) (b := eRun (cap a)) rfl, ih]
theorem few_one {c : Nat} {J : List Rg.Run} (h : Few M4.one c J) : c = 0 ∧ J = [] := by
  have := (h.least [] rfl).1
  have hc : c = 0 := by simpa using this
  subst hc
  refine ⟨rfl, ?_⟩
  have := (sumN_ge h.row.pos).1
  rw [h.sum] at this
  have : J.length = 0 := by omega
  simpa using this
theorem law_true (ns : List Int) (hl : ns.length ≤ 63) (hb : ∀ z ∈ ns, Builtin.Int.intBits z ≤ 1048576) : ∃ S', m_law_k51 [.ref 0] [.fro (ns.map Rg.D.int)] = .ok (.bl true) S' := by
  have mk : ∀ a b c d : Int, Rg.D.tup [.int a, .int b, .int c, .int d] = eM ⟨a, b, c, d⟩ := fun a b c d => rfl
  have gt4 : ∀ (f : List Rg.D → Rg.Env → Store → Option Rg.Env) (e : Rg.Env) (T : Store) (m : M4), gT 4 f (eM m) e T = f [.int m.a, .int m.b, .int m.c, .int m.d] e T := fun f e T m => rfl
  refine law_gen3 (slot := 1) (S0 := [.fro (ns.map Rg.D.int), .lst [], .lst []]) (fun e => e.length = 8 ∧ e[0]? = some (some (.ref 0))) (0 :: ns) rfl ?_ ⟨_, rfl⟩ ?_ ?_ ?_
  · obtain ⟨c, J, f1, l1, e1⟩ := fewest_of (m := M4.one) (j := 10) SWd.one (by decide) (by decide) ⟨by decide, by decide, by decide, by decide⟩ (by decide) (by decide)
    obtain ⟨rfl, rfl⟩ := few_one f1
    have eo : eM ⟨1, 0, 0, 1⟩ = eM M4.one := rfl
    simp [mk, told_eq, eo, e1]
  · rintro e ⟨he, h0⟩
    simp [h0]
    omega
  · rintro x hx e C ⟨he, h0⟩
    obtain ⟨o0, o1, o2, o3, o4, o5, o6, o7, rfl⟩ : ∃ a b c d e' f g h, e = [a, b, c, d, e', f, g, h] := by
      match e, he with
      | [a, b, c, d, e, f, g, h], _ => exact ⟨_, _, _, _, _, _, _, _, rfl⟩
    simp at h0
    subst h0
    obtain ⟨S, hS⟩ : ∃ S : Store, S = [.fro (ns.map Rg.D.int), .lst [], .lst []] ++ C := ⟨_, rfl⟩
    have hS2 : ∀ D : Store, S ++ D = [.fro (ns.map Rg.D.int), .lst [], .lst []] ++ (C ++ D) := fun D => by rw [hS, List.append_assoc]
    rw [← hS]
    simp
    refine pool_then fun a b c => ?_
    simp [rok_comp]
    refine runs_then (n := S.length) inferInstance (by decide) (by decide) fun R x y z hR lR nR => ?_
    simp
    have hR1 : ∀ r ∈ R.map cap, 1 ≤ r.n ∧ r.n ≤ 5 := fun r hr => by
      obtain ⟨q, hq, rfl⟩ := List.mem_map.mp hr
      have := hR.pos q hq
      unfold cap
      dsimp only
      omega
    have hRow : Rg.Row (R.map cap) := ⟨alt_cap hR.alt, fun r hr => (hR1 r hr).1⟩
    have hRl : (R.map cap).length ≤ 9 := by simp; omega
    rw [show S ++ [pl x y z, Cell.lst (R.map eRun), Cell.lst []] = (S ++ [pl x y z, Cell.lst (R.map eRun)]) ++ [Cell.lst []] by simp, show S.length + 2 = (S ++ [pl x y z, Cell.lst (R.map eRun)]).length by simp]
    refine comp_plain capD (fun d hd acc => ?_) (fun acc => by simp) (by simp; omega) ?_
    · obtain ⟨r, hr, rfl⟩ := List.mem_map.mp hd
      simp [eRun, capD]
    rw [cap_map]
    generalize R.map cap = R at *
    clear hR lR nR
    have bd : ∀ r ∈ R, 0 ≤ r.n ∧ r.n < 128 := fun r hr => by have := hR1 r hr; omega
    have hdet := ledM_det (s := 1) (R := R)
    have hbd := (led_bd (s := 1) (.inl rfl) R bd).mono (j := 400) (by omega)
    have hs := sum_le (R := R) (k := 5) (fun r hr => (hR1 r hr).2) (by decide)
    obtain ⟨W, hW, lW⟩ := word_of (R := R) fun r hr => (bd r hr).1
    have led := fun T n (h : lstOf T n = some (R.map eRun)) => led4_eq (S := T) (s := 1) (.inl rfl) h (fun r hr => by have := bd r hr; omega)
    generalize ledM 1 R = m at *
    have s1 : SWd m 300 := by rw [← hW]; exact (SWd.word W).mono (by omega)
    obtain ⟨c1, J1, f1, l1, e1⟩ := fewest_of s1 (by decide) hdet hbd (by decide) (by decide)
    have hc := (f1.least W hW).1
    have hc2 : (c1 : Int) ≤ sumN R := by omega
    have i1 : ∀ (r : Rg.Run) {T : Store} {P : Rg.D → Store → Prop}, Rok (fIx (eRun r) (.int 1) T) P ↔ P (.int r.n) T := fun r => by intros; unfold eRun; rw [rok_ixT]; simp
    have es : (R.map fun r => r.n).sum = sumN R := rfl
    simp
    rw [led _ _ (by simp)]
    simp [told_eq, e1]
    refine comp_map_then R eRun (fun r => .int r.n) (by simp) (by simp; omega) (fun r _ acc => by simp [i1]) ?_
    simp [intsD_map, es, hc2]
    refine right_then (p := S.length) inferInstance s1 hdet hbd fun x y z => ?_
    simp
    refine drawn_then (n := S.length) inferInstance fun m2 x y z s2 d2 b2 => ?_
    simp
    refine right_then (p := S.length) inferInstance (s2.mono (by decide)) d2 (b2.mono (by decide)) fun x y z => ?_
    simp
    exact ⟨_, hS2 _⟩
  · rintro e S ⟨he, h0⟩
    simp
end K51
end
section
set_option exponentiation.threshold 10000
namespace Rg
open PySem L2
abbrev TW := M4 × List Bool
def stW (x : TW) (b : Bool) : TW := ((lt b 1).mul x.1, b :: x.2)
def hasW (F : List TW) (t : M4) : Bool := F.any fun y => decide (y.1 = t)
def newW (F M : List TW) (x : TW) : List TW := if hasW (F ++ M) x.1 = true then M else M ++ [x]
def turnW (F M : List TW) (x : TW) : List TW := newW F (newW F M (stW x true)) (stW x false)
def levelW (F L : List TW) : List TW := L.foldl (turnW F) []
def bfsW : Nat → List TW × List TW
  | 0 => ([], [(M4.one, [])])
  | n + 1 => ((bfsW n).1 ++ (bfsW n).2, levelW ((bfsW n).1 ++ (bfsW n).2) (bfsW n).2)
def lastW (n : Nat) : List TW := (bfsW n).2
def allW (n : Nat) : List TW := (bfsW n).1 ++ (bfsW n).2
theorem allW_succ {n : Nat} : allW (n + 1) = allW n ++ lastW (n + 1) := rfl
theorem lastW_succ {n : Nat} : lastW (n + 1) = levelW (allW n) (lastW n) := rfl
section
variable {F M L : List TW} {x y : TW} {n : Nat} {t : M4}
theorem hasW_iff : hasW F t = true ↔ ∃ y ∈ F, y.1 = t := by simp [hasW]
structure LvOk (F L M : List TW) : Prop where
  from_ : ∀ x ∈ M, ∃ y ∈ L, ∃ b, x = stW y b
  out : ∀ x ∈ M, hasW F x.1 = false
  one : M.Pairwise fun x y => x.1 ≠ y.1
theorem LvOk.new (h : LvOk F L M) (hy : y ∈ L) (b : Bool) : LvOk F L (newW F M (stW y b)) ∧ (∀ x ∈ M, x ∈ newW F M (stW y b)) ∧ ∃ x ∈ F ++ newW F M (stW y b), x.1 = (stW y b).1 := by
  unfold newW
  by_cases c : hasW (F ++ M) (stW y b).1 = true
  · rw [if_pos c]
    exact ⟨h, fun _ h => h, hasW_iff.mp c⟩
  · rw [if_neg c]
    have c' : ∀ z ∈ F ++ M, z.1 ≠ (stW y b).1 := fun z hz e => c (hasW_iff.mpr ⟨z, hz, e⟩)
    refine ⟨⟨fun x hx => ?_, fun x hx => ?_, ?_⟩, fun x hx => List.mem_append_left _ hx, stW y b, by simp, rfl⟩
    · rcases List.mem_append.mp hx with hx | hx
      · exact h.from_ x hx
      · rw [List.mem_singleton.mp hx]
        exact ⟨y, hy, b, rfl⟩
    · rcases List.mem_append.mp hx with hx | hx
      · exact h.out x hx
      · rw [List.mem_singleton.mp hx]
        cases q : hasW F (stW y b).1
        · rfl
        · obtain ⟨z, hz, e⟩ := hasW_iff.mp q
          exact absurd e (c' z (List.mem_append_left _ hz))
    · rw [List.pairwise_append]
      refine ⟨h.one, by simp, fun a ha z hz => ?_⟩
      rw [List.mem_singleton.mp hz]
      exact c' a (List.mem_append_right _ ha)
theorem LvOk.fold : ∀ (T : List TW) (M : List TW), LvOk F L M → (∀ y ∈ T, y ∈ L) → LvOk F L (T.foldl (turnW F) M) ∧ (∀ x ∈ M, x ∈ T.foldl (turnW F) M) ∧ ∀ y ∈ T, ∀ b, ∃ x ∈ F ++ T.foldl (turnW F) M, x.1 = (stW y b).1
  | [], M, h, _ => ⟨h, fun _ h => h, fun _ h => by cases h⟩
  | y :: T, M, h, hT => by
    obtain ⟨a1, a2, x1, a3, a4⟩ := h.new (hT y (by simp)) true
    obtain ⟨b1, b2, x2, b3, b4⟩ := a1.new (hT y (by simp)) false
    obtain ⟨c1, c2, c3⟩ := LvOk.fold T _ b1 (fun z hz => hT z (by simp [hz]))
    refine ⟨c1, fun x hx => c2 x (b2 x (a2 x hx)), fun z hz b => ?_⟩
    rcases List.mem_cons.mp hz with rfl | hz
    · cases b
      · refine ⟨x2, ?_, b4⟩
        rcases List.mem_append.mp b3 with q | q
        · exact List.mem_append_left _ q
        · exact List.mem_append_right _ (c2 _ q)
      · refine ⟨x1, ?_, a4⟩
        rcases List.mem_append.mp a3 with q | q
        · exact List.mem_append_left _ q
        · exact List.mem_append_right _ (c2 _ (b2 _ q))
    · exact c3 z hz b
theorem level_ok : LvOk F L (levelW F L) ∧ ∀ y ∈ L, ∀ b, ∃ x ∈ F ++ levelW F L, x.1 = (stW y b).1 := by
  obtain ⟨h1, _, h3⟩ := LvOk.fold (F := F) (L := L) L [] ⟨by simp, by simp, .nil⟩ fun _ h => h
  exact ⟨h1, h3⟩
theorem newW_len : (newW F M x).length ≤ M.length + 1 := by
  unfold newW
  split <;> simp
theorem turnW_len : (turnW F M x).length ≤ M.length + 2 := by
  have := newW_len (F := F) (M := M) (x := stW x true)
  have := newW_len (F := F) (M := newW F M (stW x true)) (x := stW x false)
  unfold turnW
  omega
theorem fold_len : ∀ (T M : List TW), (T.foldl (turnW F) M).length ≤ M.length + 2 * T.length
  | [], M => by simp
  | y :: T, M => by
    have := fold_len T (turnW F M y)
    have := turnW_len (F := F) (M := M) (x := y)
    simp
    omega
theorem last_len : ∀ n, (lastW n).length ≤ 2 ^ n ∧ (allW n).length ≤ 2 ^ (n + 1)
  | 0 => ⟨by decide, by decide⟩
  | n + 1 => by
    obtain ⟨h1, h2⟩ := last_len n
    have := fold_len (F := allW n) (lastW n) []
    have e : (lastW (n + 1)).length ≤ 2 * (lastW n).length := by rw [lastW_succ]; simpa [levelW] using this
    have p : (2 : Nat) ^ (n + 1) = 2 * 2 ^ n := by rw [Nat.pow_succ]; omega
    have p2 : (2 : Nat) ^ (n + 1 + 1) = 2 * 2 ^ (n + 1) := by rw [Nat.pow_succ]; omega
    refine ⟨by omega, ?_⟩
    rw [allW_succ, List.length_append]
    omega
structure BfOk (n : Nat) : Prop where
  word : ∀ x ∈ allW n, prodW x.2 = x.1
  last : ∀ x ∈ lastW n, x.2.length = n
  low : ∀ x ∈ (bfsW n).1, x.2.length < n
  full : ∀ W : List Bool, W.length ≤ n → ∃ x ∈ allW n, x.1 = prodW W ∧ x.2.length ≤ W.length
  one : (allW n).Pairwise fun x y => x.1 ≠ y.1
theorem BfOk.le (h : BfOk n) (hx : x ∈ allW n) : x.2.length ≤ n := by
  rcases List.mem_append.mp hx with q | q
  · have := h.low x q; omega
  · have := h.last x q; omega
theorem BfOk.same (h : BfOk n) (hx : x ∈ allW n) (hy : y ∈ allW n) (e : x.1 = y.1) : x = y := by
  obtain ⟨i, hi, ex⟩ := List.mem_iff_getElem.mp hx
  obtain ⟨j, hj, ey⟩ := List.mem_iff_getElem.mp hy
  rcases Nat.lt_trichotomy i j with q | q | q
  · exact absurd (by rw [ex, ey]; exact e) (List.pairwise_iff_getElem.mp h.one i j hi hj q)
  · subst q
    rw [← ex, ← ey]
  · exact absurd (by rw [ex, ey]; exact e.symm) (List.pairwise_iff_getElem.mp h.one j i hj hi q)
theorem bf_ok : ∀ n, BfOk n
  | 0 => by
    have h0 : ∀ x ∈ allW 0, x = (M4.one, []) := fun x hx => by simpa [allW, bfsW] using hx
    have h1 : ∀ x ∈ lastW 0, x = (M4.one, []) := fun x hx => by simpa [lastW, bfsW] using hx
    refine ⟨fun x hx => ?_, fun x hx => ?_, fun x hx => ?_, fun W hW => ?_, ?_⟩
    · rw [h0 x hx]; rfl
    · rw [h1 x hx]; rfl
    · cases hx
    · have : W = [] := List.length_eq_zero_iff.mp (by omega)
      exact ⟨(M4.one, []), by simp [allW, bfsW], by rw [this]; rfl, by simp⟩
    · simp [allW, bfsW]
  | n + 1 => by
    have ih := bf_ok n
    obtain ⟨lv, cp⟩ := level_ok (F := allW n) (L := lastW n)
    rw [← lastW_succ] at lv cp
    have inA : ∀ y ∈ lastW n, y ∈ allW n := fun y hy => List.mem_append_right _ hy
    have lw : ∀ x ∈ lastW (n + 1), prodW x.2 = x.1 ∧ x.2.length = n + 1 := fun x hx => by
      obtain ⟨y, hy, b, rfl⟩ := lv.from_ x hx
      refine ⟨?_, by simp [stW, ih.last y hy]⟩
      show (lt b 1).mul (prodW y.2) = (lt b 1).mul y.1
      rw [ih.word y (inA y hy)]
    refine ⟨fun x hx => ?_, fun x hx => (lw x hx).2, fun x hx => ?_, fun W hW => ?_, ?_⟩
    · rw [allW_succ] at hx
      rcases List.mem_append.mp hx with q | q
      · exact ih.word x q
      · exact (lw x q).1
    · have := ih.le (x := x) hx
      omega
    · rw [allW_succ]
      by_cases c : W.length ≤ n
      · obtain ⟨x, h1, h2, h3⟩ := ih.full W c
        exact ⟨x, List.mem_append_left _ h1, h2, h3⟩
      · cases W with
        | nil => simp at c
        | cons b V =>
          simp at c hW
          obtain ⟨y, h1, h2, h3⟩ := ih.full V (by omega)
          have e : (stW y b).1 = prodW (b :: V) := by
            show (lt b 1).mul y.1 = (lt b 1).mul (prodW V)
            rw [h2]
          by_cases d : y.2.length = n
          · have hy : y ∈ lastW n := by
              rcases List.mem_append.mp h1 with q | q
              · have := ih.low y q
                omega
              · exact q
            obtain ⟨x, g1, g2⟩ := cp y hy b
            refine ⟨x, g1, by rw [g2, e], ?_⟩
            rcases List.mem_append.mp g1 with q | q
            · have := ih.le q
              simp
              omega
            · have := (lw x q).2
              simp
              omega
          · obtain ⟨x, g1, g2, g3⟩ := ih.full (b :: y.2) (by simp; omega)
            refine ⟨x, List.mem_append_left _ g1, ?_, ?_⟩
            · rw [g2]
              show (lt b 1).mul (prodW y.2) = (lt b 1).mul (prodW V)
              rw [ih.word y h1, h2]
            · simp at g3 ⊢
              omega
    · rw [allW_succ, List.pairwise_append]
      refine ⟨ih.one, lv.one, fun a ha z hz e => ?_⟩
      have := lv.out z hz
      have q : hasW (allW n) z.1 = true := hasW_iff.mpr ⟨a, ha, e⟩
      rw [this] at q
      cases q
theorem bf_few {c : Nat} {J : List Run} (hx : x ∈ allW n) (h : Few x.1 c J) : c = x.2.length := by
  have ok := bf_ok n
  have h1 := (h.least x.2 (ok.word x hx)).1
  obtain ⟨W, w1, w2⟩ := K51.few_word h
  have := ok.le hx
  obtain ⟨y, g1, g2, g3⟩ := ok.full W (by omega)
  have e := ok.same g1 hx (by rw [g2, w1])
  rw [e] at g3
  omega
theorem bd_word : ∀ W : List Bool, Bd (prodW W) (1 + 8 * W.length)
  | [] => ⟨by decide, by decide, by decide, by decide⟩
  | b :: W => by
    have := (bd_word W).mul (s := 1) (.inl rfl) (r := ⟨b, 1⟩) (by show (0 : Int) ≤ 1; decide) (by show (1 : Int) < 128; decide)
    exact this.mono (by simp; omega)
theorem word_det : ∀ W : List Bool, (prodW W).det = 1
  | [] => by decide
  | b :: W => by
    show ((lt b 1).mul (prodW W)).det = 1
    rw [M4.det_mul, word_det W]
    cases b <;> decide
end
end Rg
end
section
set_option exponentiation.threshold 10000
namespace Rg
open PySem L2
section
variable {S C : Store} {F M L A : List TW} {x y : TW} {n q : Nat} {t m k : M4} {i j : Nat} {d : D}
def eX (x : TW) : D := eM x.1
def eV (x : TW) : Int := (x.2.length : Int)
theorem keyD_M : keyD (eM m) = some (.tup [.num m.a, .num m.b, .num m.c, .num m.d]) := rfl
theorem keyM_inj (h : keyD (eM m) = keyD (eM k)) : m = k := by
  rw [keyD_M, keyD_M] at h
  simp at h
  exact M4.ext' h.1 h.2.1 h.2.2.1 h.2.2.2
theorem okK_M : okK (eM m) = true := rfl
theorem okK_Xs : ∀ k ∈ A.map eX, okK k = true := fun k hk => by
  obtain ⟨x, _, rfl⟩ := List.mem_map.mp hk
  exact okK_M
theorem hasK_X : hasK (A.map eX) (eM t) = hasW A t := by
  unfold hasK
  rw [List.map_map, List.any_map, Bool.eq_iff_iff, List.any_eq_true, hasW_iff]
  constructor
  · rintro ⟨y, hy, h⟩
    exact ⟨y, hy, keyM_inj (of_decide_eq_true h)⟩
  · rintro ⟨y, hy, rfl⟩
    exact ⟨y, hy, by simp [eX]⟩
theorem getN_X : ∀ {A : List TW}, A.Pairwise (fun x y => x.1 ≠ y.1) → x ∈ A → getN (A.map eX) (A.map eV) (eM x.1) = some (eV x)
  | [], _, h => by cases h
  | y :: A, hp, h => by
    rw [List.pairwise_cons] at hp
    show (if keyD (eM y.1) = keyD (eM x.1) then some (eV y) else getN (A.map eX) (A.map eV) (eM x.1)) = _
    rcases List.mem_cons.mp h with rfl | h
    · rw [if_pos rfl]
    · rw [if_neg (fun e => hp.1 x h (keyM_inj e)), getN_X hp.2 h]
theorem behindM_eq (hm : Bd m i) (hk : Bd k j) (h : i + j ≤ 999998) : m_l_behind_2 [eM m, eM k] S = .ok (eM (k.mul m)) S := by
  have g4 : ∀ (f : List D → Env → Store → Option Env) (e : Env) (T : Store) (m : M4), gT 4 f (eM m) e T = f [.int m.a, .int m.b, .int m.c, .int m.d] e T := fun f e T m => rfl
  have w : ∀ {x y : Int}, x.natAbs < 2 ^ j → y.natAbs < 2 ^ i → CM x y := fun h1 h2 => CM_w h1 h2 (by omega)
  have c1 := w hk.a hm.a; have c2 := w hk.b hm.c; have c3 := w hk.a hm.b; have c4 := w hk.b hm.d
  have c5 := w hk.c hm.a; have c6 := w hk.d hm.c; have c7 := w hk.c hm.b; have c8 := w hk.d hm.d
  refine Rok.eq ?_
  unfold m_l_behind_2
  simp [rok_def, g4, c1, c2, c3, c4, c5, c6, c7, c8]
  rfl
theorem ninM_eq (h : S[n]? = some (.dm (A.map eX) (A.map eV))) : fNinM (eM t) (.ref n) S = .ok (.bl (!hasW A t)) S := by
  unfold fNinM
  simp only [h]
  rw [if_pos ⟨okK_M, okK_Xs⟩, hasK_X]
theorem getM_eq (hA : A.Pairwise fun x y => x.1 ≠ y.1) (hx : x ∈ A) (h : S[n]? = some (.df (A.map eX) (A.map eV))) : fGetM (.ref n) (eM x.1) S = .ok (.int (eV x)) S := by
  unfold fGetM
  simp only [h]
  rw [if_pos ⟨okK_M, okK_Xs⟩, getN_X hA hx]
theorem sok_setM {ss so si : SE} {env : Env} {P : SPt} (h : Rok (ss env S) fun d S1 => Rok (so env S1) fun o S2 => Rok (si env S2) fun i S3 => ∃ (z : Int) (n : Nat) (A : List TW) (t : M4), d = .int z ∧ o = .ref n ∧ i = eM t ∧ S3[n]? = some (.dm (A.map eX) (A.map eV)) ∧ A.length < sizeLine ∧ hasW A t = false ∧
    P.nx env (S3.set n (.dm (A.map eX ++ [eM t]) (A.map eV ++ [z])))) : Sok (sSetM ss so si env S) P := by
  unfold sSetM
  rw [sok_andS]
  refine h.imp fun d S1 h => ?_
  rw [sok_andS]
  refine h.imp fun o S2 h => ?_
  rw [sok_andS]
  refine h.imp fun i S3 h => ?_
  obtain ⟨z, n, A, t, rfl, rfl, rfl, h1, h2, h3, h4⟩ := h
  simp only [h1]
  rw [if_pos ⟨okK_M, okK_Xs, by rw [List.length_map]; exact h2, by rw [hasK_X]; exact h3⟩, sok_nx]
  exact h4
theorem rok_iterM {s : SE} {env : Env} {P : Wk → Store → Prop} (h : Rok (s env S) fun d S1 => ∃ (n : Nat) (A : List TW), d = .ref n ∧ S1[n]? = some (.dm (A.map eX) (A.map eV)) ∧ P ⟨A.map eX, fun _ => True⟩ (S1.set n (.df (A.map eX) (A.map eV)))) : Rok (sIterM s env S) P := by
  unfold sIterM
  rw [rok_bind]
  refine h.imp fun d S1 h => ?_
  obtain ⟨n, A, rfl, h1, h2⟩ := h
  simp only [h1]
  rw [if_pos okK_Xs, rok_ok]
  exact h2
theorem gc_dm {S S1 : Store} {d : D} {k : Nat} {ks : List D} {vs : List Int} (h : d.fresh S.length = some k) (hk : S1[k]? = some (.dm ks vs)) : gc S d S1 = .ok d S1 := by
  unfold gc
  split
  · rw [h]
    dsimp only
    split
    · rw [hk]
    · rfl
  · rfl
def stA (S : Store) (A : List TW) (C : Store) : Store := S ++ .dm (A.map eX) (A.map eV) :: C
theorem stA_d : (stA S A C)[S.length]? = some (.dm (A.map eX) (A.map eV)) := by simp [stA]
theorem stA_get : (stA S A C)[S.length + 1 + j]? = C[j]? := by
  unfold stA
  rw [List.getElem?_append_right (by omega), show S.length + 1 + j - S.length = j + 1 by omega]
  rfl
theorem stA_lst : lstOf (stA S A C) (S.length + 1 + j) = lstOf C j := by
  unfold lstOf
  rw [stA_get]
theorem stA_set {c : Cell} : (stA S A C).set (S.length + 1 + j) c = stA S A (C.set j c) := by
  unfold stA
  rw [List.set_append_right _ _ (by omega), show S.length + 1 + j - S.length = j + 1 by omega]
  rfl
theorem stA_put {z : Int} (hz : z = eV x) : (stA S A C).set S.length (.dm (A.map eX ++ [eM x.1]) (A.map eV ++ [z])) = stA S (A ++ [x]) C := by
  subst hz
  unfold stA
  rw [set_last]
  simp [eX]
theorem stA_app {D : Store} : stA S A C ++ D = stA S A (C ++ D) := by simp [stA]
theorem stA_len : (stA S A C).length = S.length + 1 + C.length := by simp [stA]; omega
noncomputable def bPut : SS := (sSeq (sSet 7 (sCall m_l_behind_2 (sCons (sVar 5) (sCons (sVar 6) (sNil))))) (sIfS (sT (s2 fNinM (sVar 7) (sVar 1))) (sSeq (sSetM (sVar 3) (sVar 1) (sVar 7)) (sDrop (sMethL fAppend (sVar 4) (sCons (sVar 7) (sNil))))) (sSkip)))
theorem bPut_ok {gg : SPt} {o0 o2 o7 : Option D} {b : Bool} {jm : Nat} (hx : Bd x.1 100) (hA : (F ++ M).length ≤ 10000) (hM : C[jm]? = some (.lst (M.map eX)))
    (hg : ∀ (C' : Store) (o7 : Option D), C'.length = C.length → C'[jm]? = some (.lst ((newW F M (stW x b)).map eX)) → (∀ j, j ≠ jm → C'[j]? = C[j]?) →
      gg.nx [o0, some (.ref S.length), o2, some (.int (eV x + 1)), some (.ref (S.length + 1 + jm)), some (eM x.1), some (eM (lt b 1)), o7] (stA S (F ++ newW F M (stW x b)) C')) :
    Sok (bPut [o0, some (.ref S.length), o2, some (.int (eV x + 1)), some (.ref (S.length + 1 + jm)), some (eM x.1), some (eM (lt b 1)), o7] (stA S (F ++ M) C)) gg := by
  have hb : Bd (lt b 1) 10 := by cases b <;> exact ⟨by decide, by decide, by decide, by decide⟩
  have ez : eV x + 1 = eV (stW x b) := by simp [eV, stW]
  unfold bPut
  simp
  rw [behindM_eq hx hb (by decide)]
  simp
  rw [ninM_eq stA_d]
  have e1 : (lt b 1).mul x.1 = (stW x b).1 := rfl
  rw [e1]
  simp
  unfold newW at hg
  refine ⟨fun hn => ?_, fun hn => ?_⟩
  · rw [if_neg (by simpa using hn)] at hg
    refine sok_setM ?_
    simp
    refine ⟨F ++ M, (stW x b).1, rfl, stA_d, by simp at hA ⊢; omega, hn, ?_⟩
    rw [ez, stA_put rfl]
    simp
    have hl : jm < C.length := (List.getElem?_eq_some_iff.mp hM).1
    refine ⟨by rw [stA_lst]; simp [lstOf, hM], M.map eX, by rw [stA_get]; exact hM, by simp at hA ⊢; omega, ?_⟩
    rw [stA_set, ← ez]
    have := hg (C.set jm (.lst ((M ++ [stW x b]).map eX))) (some (eM (stW x b).1)) (by simp) (by rw [List.getElem?_set_self hl]) (fun j hj => List.getElem?_set_ne (Ne.symm hj))
    simpa [eX] using this
  · rw [if_pos hn] at hg
    exact hg C _ rfl hM fun _ _ => rfl
noncomputable def bPart : SS := (sFor (sIter (sLst (sCons (sTup (sCons (sC (.int (1))) (sCons (sC (.int (1))) (sCons (sC (.int (0))) (sCons (sC (.int (1))) (sNil)))))) (sCons (sTup (sCons (sC (.int (1))) (sCons (sC (.int (0))) (sCons (s1 fNeg (sC (.int (1)))) (sCons (sC (.int (1))) (sNil)))))) (sNil))))) (gN 6) bPut)
theorem bPart_ok {gg : SPt} {o0 o2 o6 o7 : Option D} {jm : Nat} (hx : Bd x.1 100) (hA : (F ++ M).length ≤ 9000) (hM : C[jm]? = some (.lst (M.map eX)))
    (hg : ∀ (C' : Store) (o6 o7 : Option D), C.length ≤ C'.length → C'[jm]? = some (.lst ((turnW F M x).map eX)) → (∀ j, j < C.length → j ≠ jm → C'[j]? = C[j]?) →
      gg.nx [o0, some (.ref S.length), o2, some (.int (eV x + 1)), some (.ref (S.length + 1 + jm)), some (eM x.1), o6, o7] (stA S (F ++ turnW F M x) C')) :
    Sok (bPart [o0, some (.ref S.length), o2, some (.int (eV x + 1)), some (.ref (S.length + 1 + jm)), some (eM x.1), o6, o7] (stA S (F ++ M) C)) gg := by
  have hl : jm < C.length := (List.getElem?_eq_some_iff.mp hM).1
  have p0 : D.tup [.int 1, .int 1, .int 0, .int 1] = eM (lt true 1) := rfl
  have p1 : D.tup [.int 1, .int 0, .int (-1), .int 1] = eM (lt false 1) := rfl
  have n1 := newW_len (F := F) (M := M) (x := stW x true)
  unfold bPart
  simp [sok_for, p0, p1, stA_app, stA_len]
  have q0 : ∀ (A : List TW) (C' : Store), C'[C.length]? = some (.lst [eM (lt true 1), eM (lt false 1)]) → lstOf (stA S A C') (S.length + 1 + C.length) = some [eM (lt true 1), eM (lt false 1)] := fun A C' h => by rw [stA_lst]; simp [lstOf, h]
  have g0 : (C ++ [Cell.lst [eM (lt true 1), eM (lt false 1)]])[C.length]? = some (.lst [eM (lt true 1), eM (lt false 1)]) := by simp
  have gj : ∀ j, j < C.length → (C ++ [Cell.lst [eM (lt true 1), eM (lt false 1)]])[j]? = C[j]? := fun j hj => List.getElem?_append_left hj
  refine ⟨_, q0 _ _ g0, ?_⟩
  rw [sok_forCons]
  refine ⟨q0 _ _ g0, _, rfl, ?_⟩
  refine bPut_ok (b := true) hx (by omega) (by rw [gj jm hl]; exact hM) fun C1 o7 a1 a2 a3 => ?_
  dsimp only
  rw [sok_forCons]
  have g1 : C1[C.length]? = some (.lst [eM (lt true 1), eM (lt false 1)]) := by rw [a3 _ (by omega)]; exact g0
  refine ⟨q0 _ _ g1, _, rfl, ?_⟩
  refine bPut_ok (b := false) hx (by simp at hA ⊢; omega) a2 fun C2 o7 b1 b2 b3 => ?_
  dsimp only
  rw [sok_forNil]
  have g2 : C2[C.length]? = some (.lst [eM (lt true 1), eM (lt false 1)]) := by rw [b3 _ (by omega)]; exact g1
  refine ⟨q0 _ _ g2, hg C2 _ _ (by simp at a1; omega) b2 fun j h1 h2 => ?_⟩
  rw [b3 j h2, a3 j h2, gj j h1]
noncomputable def bLast : SS := (sFor (sIter (sVar 2)) (gN 5) bPart)
theorem bLast_ok {gg : SPt} {B : SS} {o0 o5 o6 o7 : Option D} {jl jm c : Nat} (hB : B = bLast) (hx : ∀ x ∈ L, Bd x.1 100 ∧ x.2.length = c) (hA : F.length + 2 * L.length ≤ 8000) (hL : C[jl]? = some (.lst (L.map eX))) (hM : C[jm]? = some (.lst [])) (hj : jl ≠ jm)
    (hg : ∀ (C' : Store) (o5 o6 o7 : Option D), C.length ≤ C'.length → C'[jm]? = some (.lst ((levelW F L).map eX)) →
      gg.nx [o0, some (.ref S.length), some (.ref (S.length + 1 + jl)), some (.int ((c : Int) + 1)), some (.ref (S.length + 1 + jm)), o5, o6, o7] (stA S (F ++ levelW F L) C')) :
    Sok (B [o0, some (.ref S.length), some (.ref (S.length + 1 + jl)), some (.int ((c : Int) + 1)), some (.ref (S.length + 1 + jm)), o5, o6, o7] (stA S F C)) gg := by
  rw [hB]
  have hl : jl < C.length := (List.getElem?_eq_some_iff.mp hL).1
  have ql : ∀ (A : List TW) (C' : Store), C'[jl]? = some (.lst (L.map eX)) → lstOf (stA S A C') (S.length + 1 + jl) = some (L.map eX) := fun A C' h => by rw [stA_lst]; simp [lstOf, h]
  unfold bLast
  rw [sok_for]
  simp [ql _ _ hL]
  refine sok_forRun (fun i e S' => ∃ (C' : Store) (o5 o6 o7 : Option D), e = [o0, some (.ref S.length), some (.ref (S.length + 1 + jl)), some (.int ((c : Int) + 1)), some (.ref (S.length + 1 + jm)), o5, o6, o7] ∧
    S' = stA S (F ++ (L.take i).foldl (turnW F) []) C' ∧ C.length ≤ C'.length ∧ C'[jl]? = some (.lst (L.map eX)) ∧ C'[jm]? = some (.lst (((L.take i).foldl (turnW F) []).map eX))) _ (fun i e S' hh => ?_) ?_ ?_ _ _ ⟨C, o5, o6, o7, rfl, by simp, Nat.le_refl _, hL, by simpa using hM⟩
  · obtain ⟨C', _, _, _, _, rfl, _, h, _⟩ := hh
    exact ql _ _ h
  · rintro i d e S' hi ⟨C', o5, o6, o7, rfl, rfl, h1, h2, h3⟩
    rw [List.getElem?_map] at hi
    obtain ⟨x, hx1, rfl⟩ := Option.map_eq_some_iff.mp hi
    have hx2 := hx x (List.mem_of_getElem? hx1)
    have hi2 := (List.getElem?_eq_some_iff.mp hx1).1
    have et : (L.take (i + 1)).foldl (turnW F) [] = turnW F ((L.take i).foldl (turnW F) []) x := by
      have : L.take (i + 1) = L.take i ++ [x] := by rw [List.take_succ, hx1]; rfl
      rw [this, List.foldl_append]
      rfl
    have fl := fold_len (F := F) (L.take i) []
    simp at fl
    refine ⟨_, rfl, ?_⟩
    have ec : (c : Int) + 1 = eV x + 1 := by unfold eV; rw [hx2.2]
    rw [et]
    show Sok (bPart [o0, some (.ref S.length), some (.ref (S.length + 1 + jl)), some (.int ((c : Int) + 1)), some (.ref (S.length + 1 + jm)), some (eM x.1), o6, o7] (stA S (F ++ (L.take i).foldl (turnW F) []) C')) _
    rw [ec]
    have hjl' : jl < C'.length := by omega
    refine bPart_ok (x := x) hx2.1 (by simp; omega) h3 fun C2 o6 o7 b1 b2 b3 => ?_
    exact ⟨C2, _, _, _, rfl, rfl, by omega, by rw [b3 jl hjl' hj]; exact h2, b2⟩
  · rintro e S' ⟨C', o5, o6, o7, rfl, rfl, h1, h2, h3⟩
    rw [List.length_map, List.take_length] at h3 ⊢
    exact hg C' _ _ _ h1 h3
theorem l_short_eq {n : Nat} {P : D → Store → Prop} (hn : n ≤ 8) (hP : ∀ C : Store, P (.ref S.length) (stA S (allW n) C)) : Rok (m_l_short [.int n] S) P := by
  unfold m_l_short
  obtain ⟨B, hB⟩ : ∃ B, B = bLast := ⟨_, rfl⟩
  have hB2 := hB
  unfold bLast bPart bPut at hB2
  rw [← hB2]
  clear hB2
  simp [rok_def, sok_for, sDisp1]
  refine ⟨fun _ => ⟨by omega, ?_⟩, rfl⟩
  have e0 : S ++ [Cell.dm [D.tup [D.int 1, D.int 0, D.int 0, D.int 1]] [0], Cell.lst [D.tup [D.int 1, D.int 0, D.int 0, D.int 1]]] = stA S (allW 0) [.lst ((lastW 0).map eX)] := rfl
  rw [e0]
  have pw : ∀ i, i ≤ 8 → (2 : Nat) ^ i ≤ 256 := fun i hi => Nat.le_trans (pow_le hi) (by decide)
  refine sok_forRun (fun i e S' => ∃ (C : Store) (jl : Nat) (o3 o4 o5 o6 o7 : Option D), e = [some (.int n), some (.ref S.length), some (.ref (S.length + 1 + jl)), o3, o4, o5, o6, o7] ∧ S' = stA S (allW i) C ∧ C[jl]? = some (.lst ((lastW i).map eX))) _ (fun i e S' hh => trivial) ?_ ?_ _ _ ⟨_, 0, none, none, none, none, none, rfl, rfl, rfl⟩
  · rintro i d e S' hi ⟨C, jl, o3, o4, o5, o6, o7, rfl, rfl, hL⟩
    have hi2 := (List.getElem?_eq_some_iff.mp hi).1
    have hi3 : i < n := by simpa [rangeD] using hi2
    have hd : d = .int ((i : Int) + 1) := by
      unfold rangeD at hi
      rw [List.getElem?_map] at hi
      obtain ⟨z, hz, rfl⟩ := Option.map_eq_some_iff.mp hi
      have := (List.getElem?_eq_some_iff.mp hz).2
      simp at this
      rw [← this]
      congr 1
      omega
    subst hd
    have hjl : jl < C.length := (List.getElem?_eq_some_iff.mp hL).1
    have ok := bf_ok i
    refine ⟨_, rfl, ?_⟩
    simp [stA_app, stA_len]
    obtain ⟨l1, l2⟩ := last_len i
    have p1 := pw i (by omega)
    have p2 : (2 : Nat) ^ (i + 1) = 2 * 2 ^ i := by rw [Nat.pow_succ]; omega
    refine bLast_ok (L := lastW i) (c := i) (jl := jl) (jm := C.length) hB (fun x hx => ?_) (by omega) (by rw [List.getElem?_append_left hjl]; exact hL) (by simp) (by omega) fun C' o5 o6 o7 h1 h2 => ?_
    · have hw := ok.last x hx
      have hb := bd_word x.2
      rw [ok.word x (List.mem_append_right _ hx)] at hb
      exact ⟨hb.mono (by omega), hw⟩
    · simp
      exact ⟨C', rfl, h2⟩
  · rintro e S' ⟨C, jl, o3, o4, o5, o6, o7, rfl, rfl, hL⟩
    have e1 : (rangeD 1 n).length = n := by simp [rangeD]
    rw [e1]
    simp
    rw [gc_dm (k := S.length) (by simp [D.fresh]) stA_d, rok_ok]
    exact hP C
end
end Rg
end
namespace K52
open PySem PySem.Spec PyProof.Rows L2 Rg
def top (i : Nat) : Stmt := PySem.Challenge.pw_roundglass_k52_whole_all_short_rows.main.body.getD i (.Pass ⟨0, 0, 0, 0⟩)
structure Txt (K : PySem.W.Frag) (mg : Str → Option Value) (xv : XV) : Prop where
  n_int : mg ("int" : Str) = none
  n_len : mg ("len" : Str) = none
  n_max : mg ("max" : Str) = none
  n_range : mg ("range" : Str) = none
  n_sorted : mg ("sorted" : Str) = none
  n_sum : mg ("sum" : Str) = none
  n_tuple : mg ("tuple" : Str) = none
  c_GAP : CAt K mg ("GAP" : Str) (.str ("gap" : Str))
  c_GLASS : CAt K mg ("GLASS" : Str) (.str ("glass" : Str))
  c_MOST_PARTS : CAt K mg ("MOST_PARTS" : Str) (.int (4000))
abbrev s_l_behind : Stmt := top 26
abbrev N_l_behind : List Str := ["one", "other", "a", "b", "c", "d", "e", "f", "g", "h"]
abbrev P_l_behind : List Str := ["one", "other"]
theorem sc_l_behind : FnScope N_l_behind P_l_behind (defScope s_l_behind) := ⟨rfl, rfl, rfl, by decide +kernel, rfl, by decide +kernel, by decide +kernel⟩
abbrev s_l_short : Stmt := top 27
abbrev N_l_short : List Str := ["longest", "found", "last", "count", "more", "one", "part", "table"]
abbrev P_l_short : List Str := ["longest"]
theorem sc_l_short : FnScope N_l_short P_l_short (defScope s_l_short) := ⟨rfl, rfl, rfl, by decide +kernel, rfl, by decide +kernel, by decide +kernel⟩
abbrev s_whole_entries : Stmt := top 8
abbrev N_whole_entries : List Str := ["table", "entry"]
abbrev P_whole_entries : List Str := ["table"]
theorem sc_whole_entries : FnScope N_whole_entries P_whole_entries (defScope s_whole_entries) := ⟨rfl, rfl, rfl, by decide +kernel, rfl, by decide +kernel, by decide +kernel⟩
abbrev s_refuse_many : Stmt := top 12
abbrev N_refuse_many : List Str := ["count"]
abbrev P_refuse_many : List Str := ["count"]
theorem sc_refuse_many : FnScope N_refuse_many P_refuse_many (defScope s_refuse_many) := ⟨rfl, rfl, rfl, by decide +kernel, rfl, by decide +kernel, by decide +kernel⟩
abbrev s_turns_of : Stmt := top 13
abbrev N_turns_of : List Str := ["table", "a", "b", "c", "d", "found", "inner", "x"]
abbrev P_turns_of : List Str := ["table"]
theorem sc_turns_of : FnScope N_turns_of P_turns_of (defScope s_turns_of) := ⟨rfl, rfl, rfl, by decide +kernel, rfl, by decide +kernel, by decide +kernel⟩
abbrev s_mended_ahead : Stmt := top 14
abbrev N_mended_ahead : List Str := ["turns", "first"]
abbrev P_mended_ahead : List Str := ["turns"]
theorem sc_mended_ahead : FnScope N_mended_ahead P_mended_ahead (defScope s_mended_ahead) := ⟨rfl, rfl, rfl, by decide +kernel, rfl, by decide +kernel, by decide +kernel⟩
abbrev s_blocks_of : Stmt := top 15
abbrev N_blocks_of : List Str := ["table", "turns"]
abbrev P_blocks_of : List Str := ["table"]
theorem sc_blocks_of : FnScope N_blocks_of P_blocks_of (defScope s_blocks_of) := ⟨rfl, rfl, rfl, by decide +kernel, rfl, by decide +kernel, by decide +kernel⟩
abbrev s_by_turns : Stmt := top 16
abbrev N_by_turns : List Str := ["blocks", "word", "found", "times"]
abbrev P_by_turns : List Str := ["blocks", "word"]
theorem sc_by_turns : FnScope N_by_turns P_by_turns (defScope s_by_turns) := ⟨rfl, rfl, rfl, by decide +kernel, rfl, by decide +kernel, by decide +kernel⟩
abbrev s_product : Stmt := top 9
abbrev N_product : List Str := ["one", "other", "a", "b", "c", "d", "e", "f", "g", "h"]
abbrev P_product : List Str := ["one", "other"]
theorem sc_product : FnScope N_product P_product (defScope s_product) := ⟨rfl, rfl, rfl, by decide +kernel, rfl, by decide +kernel, by decide +kernel⟩
abbrev s_run_entries : Stmt := top 10
abbrev N_run_entries : List Str := ["word", "times", "power"]
abbrev P_run_entries : List Str := ["word", "times", "power"]
theorem sc_run_entries : FnScope N_run_entries P_run_entries (defScope s_run_entries) := ⟨rfl, rfl, rfl, by decide +kernel, rfl, by decide +kernel, by decide +kernel⟩
abbrev s_product_of : Stmt := top 11
abbrev N_product_of : List Str := ["runs", "power", "found", "word", "times"]
abbrev P_product_of : List Str := ["runs", "power"]
theorem sc_product_of : FnScope N_product_of P_product_of (defScope s_product_of) := ⟨rfl, rfl, rfl, by decide +kernel, rfl, by decide +kernel, by decide +kernel⟩
abbrev s_joined : Stmt := top 17
abbrev N_joined : List Str := ["runs", "found", "word", "times"]
abbrev P_joined : List Str := ["runs"]
theorem sc_joined : FnScope N_joined P_joined (defScope s_joined) := ⟨rfl, rfl, rfl, by decide +kernel, rfl, by decide +kernel, by decide +kernel⟩
abbrev s_fewest : Stmt := top 18
abbrev N_fewest : List Str := ["table", "entries", "blocks", "quarter", "quarters", "word", "runs", "count"]
abbrev P_fewest : List Str := ["table"]
theorem sc_fewest : FnScope N_fewest P_fewest (defScope s_fewest) := ⟨rfl, rfl, rfl, by decide +kernel, rfl, by decide +kernel, by decide +kernel⟩
abbrev s_l_told : Stmt := top 23
abbrev N_l_told : List Str := ["entries", "entry"]
abbrev P_l_told : List Str := ["entries"]
theorem sc_l_told : FnScope N_l_told P_l_told (defScope s_l_told) := ⟨rfl, rfl, rfl, by decide +kernel, rfl, by decide +kernel, by decide +kernel⟩
abbrev s_l_pool : Stmt := top 20
abbrev N_l_pool : List Str := ["cell"]
abbrev P_l_pool : List Str := ["cell"]
theorem sc_l_pool : FnScope N_l_pool P_l_pool (defScope s_l_pool) := ⟨rfl, rfl, rfl, by decide +kernel, rfl, by decide +kernel, by decide +kernel⟩
abbrev s_l_next : Stmt := top 21
abbrev N_l_next : List Str := ["pool", "base", "digit", "near", "stir"]
abbrev P_l_next : List Str := ["pool", "base"]
theorem sc_l_next : FnScope N_l_next P_l_next (defScope s_l_next) := ⟨rfl, rfl, rfl, by decide +kernel, rfl, by decide +kernel, by decide +kernel⟩
abbrev s_l_runs : Stmt := top 24
abbrev N_l_runs : List Str := ["pool", "limit", "word", "found", "k", "some", "count"]
abbrev P_l_runs : List Str := ["pool", "limit"]
theorem sc_l_runs : FnScope N_l_runs P_l_runs (defScope s_l_runs) := ⟨rfl, rfl, rfl, by decide +kernel, rfl, by decide +kernel, by decide +kernel⟩
abbrev s_l_led : Stmt := top 22
abbrev N_l_led : List Str := ["runs", "sign", "a", "b", "c", "d", "word", "count", "step"]
abbrev P_l_led : List Str := ["runs", "sign"]
theorem sc_l_led : FnScope N_l_led P_l_led (defScope s_l_led) := ⟨rfl, rfl, rfl, by decide +kernel, rfl, by decide +kernel, by decide +kernel⟩
abbrev s_law : Stmt := top 28
abbrev N_law : List Str := ["script", "short", "table", "some", "cell", "pool", "row", "first", "both", "left"]
abbrev P_law : List Str := ["script"]
theorem sc_law : FnScope N_law P_law (defScope s_law) := ⟨rfl, rfl, rfl, by decide +kernel, rfl, by decide +kernel, by decide +kernel⟩
section
variable {P : Program} {w : World} {K : PySem.W.Frag} {mg : Str → Option Value} {base h : Heap} {xv : XV}
theorem ok_l_behind (hX : K.In h) (hG : h.Ns mainGlobals mg) (T : Txt K mg xv) (F : FAt K ("_law_behind" : Str) s_l_behind []) : DefOk P w K mg base xv ("_law_behind" : Str) 1 P_l_behind m_l_behind_2 := defok_mk hX hG F sc_l_behind (fun _ _ _ _ _ _ us hl => match us, hl with | [_, _], _ => rfl) fun f cdv A outer s H E hr =>
  mss_cons (ms_asg (me_var 0) (pg_tup rfl (pgs_cons (pg_name (i := 2) sc_l_behind.nd rfl (by first | exact Or.inl rfl | exact Or.inr rfl)) (pgs_cons (pg_name (i := 3) sc_l_behind.nd rfl (by first | exact Or.inl rfl | exact Or.inr rfl)) (pgs_cons (pg_name (i := 4) sc_l_behind.nd rfl (by first | exact Or.inl rfl | exact Or.inr rfl)) (pgs_cons (pg_name (i := 5) sc_l_behind.nd rfl (by first | exact Or.inl rfl | exact Or.inr rfl)) (pgs_nil)))))) (tg_tup (tgs_cons (tg_name _ 2) (tgs_cons (tg_name _ 3) (tgs_cons (tg_name _ 4) (tgs_cons (tg_name _ 5) (tgs_nil _))))))) (mss_cons (ms_asg (me_var 1) (pg_tup rfl (pgs_cons (pg_name (i := 6) sc_l_behind.nd rfl (by first | exact Or.inl rfl | exact Or.inr rfl)) (pgs_cons (pg_name (i := 7) sc_l_behind.nd rfl (by first | exact Or.inl rfl | exact Or.inr rfl)) (pgs_cons (pg_name (i := 8) sc_l_behind.nd rfl (by first | exact Or.inl rfl | exact Or.inr rfl)) (pgs_cons (pg_name (i := 9) sc_l_behind.nd rfl (by first | exact Or.inl rfl | exact Or.inr rfl)) (pgs_nil)))))) (tg_tup (tgs_cons (tg_name _ 6) (tgs_cons (tg_name _ 7) (tgs_cons (tg_name _ 8) (tgs_cons (tg_name _ 9) (tgs_nil _))))))) (mss_one (ms_ret (me_tup (ma_cons (me_add (me_mul (me_var 6) (me_var 2)) (me_mul (me_var 7) (me_var 4))) (ma_cons (me_add (me_mul (me_var 6) (me_var 3)) (me_mul (me_var 7) (me_var 5))) (ma_cons (me_add (me_mul (me_var 8) (me_var 2)) (me_mul (me_var 9) (me_var 4))) (ma_cons (me_add (me_mul (me_var 8) (me_var 3)) (me_mul (me_var 9) (me_var 5))) (ma_nil)))))))))
theorem ok_l_short (hX : K.In h) (hG : h.Ns mainGlobals mg) (T : Txt K mg xv) (F : FAt K ("_law_short" : Str) s_l_short []) (D_l_behind : DefOk P w K mg base xv ("_law_behind" : Str) 1 P_l_behind m_l_behind_2) : DefOk P w K mg base xv ("_law_short" : Str) 2 P_l_short m_l_short := defok_mk hX hG F sc_l_short (fun _ _ _ _ _ _ us hl => match us, hl with | [_], _ => rfl) fun f cdv A outer s H E hr =>
  mss_cons (ms_set sc_l_short.nd (me_disp1 hr (me_tup (ma_cons (me_int) (ma_cons (me_int) (ma_cons (me_int) (ma_cons (me_int) (ma_nil)))))) (me_int))) (mss_cons (ms_set sc_l_short.nd (me_lst (ma_cons (me_tup (ma_cons (me_int) (ma_cons (me_int) (ma_cons (me_int) (ma_cons (me_int) (ma_nil)))))) (ma_nil)))) (mss_cons (ms_for (mi_range2 T.n_range (ma_cons (me_int) (ma_cons (me_add (me_var 0) (me_int)) (ma_nil)))) (pg_name (i := 3) sc_l_short.nd rfl (by first | exact Or.inl rfl | exact Or.inr rfl)) (tg_name _ 3) (mss_cons (ms_set sc_l_short.nd (me_lst (ma_nil))) (mss_cons (ms_for (mi_seq (me_var 2)) (pg_name (i := 5) sc_l_short.nd rfl (by first | exact Or.inl rfl | exact Or.inr rfl)) (tg_name _ 5) (mss_one (ms_for (mi_seq (me_lst (ma_cons (me_tup (ma_cons (me_int) (ma_cons (me_int) (ma_cons (me_int) (ma_cons (me_int) (ma_nil)))))) (ma_cons (me_tup (ma_cons (me_int) (ma_cons (me_int) (ma_cons (me_neg (me_int)) (ma_cons (me_int) (ma_nil)))))) (ma_nil))))) (pg_name (i := 6) sc_l_short.nd rfl (by first | exact Or.inl rfl | exact Or.inr rfl)) (tg_name _ 6) (mss_cons (ms_set sc_l_short.nd (me_fn D_l_behind hr (ma_cons (me_var 5) (ma_cons (me_var 6) (ma_nil))))) (mss_one (ms_if (mt_ninM hr (me_var 7) (me_var 1)) (mss_cons (ms_setM hr (me_var 3) (me_var 1) (me_var 7)) (mss_one (ms_expr (me_append (me_var 4) (ma_cons (me_var 7) (ma_nil)))))) (mss_nil))))))) (mss_one (ms_set sc_l_short.nd (me_var 4)))))) (mss_one (ms_ret (me_var 1)))))
theorem ok_whole_entries (hX : K.In h) (hG : h.Ns mainGlobals mg) (T : Txt K mg xv) (F : FAt K ("whole_entries" : Str) s_whole_entries []) : DefOk P w K mg base xv ("whole_entries" : Str) 1 P_whole_entries m_whole_entries := defok_mk hX hG F sc_whole_entries (fun _ _ _ _ _ _ us hl => match us, hl with | [_], _ => rfl) fun f cdv A outer s H E hr =>
  mss_cons (ms_for (mi_seq (me_var 0)) (pg_name (i := 1) sc_whole_entries.nd rfl (by first | exact Or.inl rfl | exact Or.inr rfl)) (tg_name _ 1) (mss_one (ms_if (mt_ne hr (me_item (me_var 1) (me_int)) (me_int)) (mss_one (ms_never)) (mss_nil)))) (mss_one (ms_ret (me_ctuple T.n_tuple (ma_cons (me_lc (own := [(("entry" : Str), 1)]) (g := gName 1) sc_whole_entries.nd (mi_seq (me_var 0)) (blkOk_by (N := N_whole_entries) (sc := defScope s_whole_entries) (by decide +kernel)) (fun _ _ _ _ _ => pg_name (i := 1) sc_whole_entries.nd rfl (by first | exact Or.inl rfl | exact Or.inr rfl)) (tg_name _ 1) (by decide) (fun _ _ _ _ _ => mts_nil) (fun _ _ _ _ _ => me_item (me_var 1) (me_int))) (ma_nil)))))
theorem ok_refuse_many (hX : K.In h) (hG : h.Ns mainGlobals mg) (T : Txt K mg xv) (F : FAt K ("refuse_many" : Str) s_refuse_many []) : DefOk P w K mg base xv ("refuse_many" : Str) 1 P_refuse_many m_refuse_many := defok_mk hX hG F sc_refuse_many (fun _ _ _ _ _ _ us hl => match us, hl with | [_], _ => rfl) fun f cdv A outer s H E hr =>
  mss_one (ms_if (mt_gt (me_var 0) (me_const T.c_MOST_PARTS)) (mss_one (ms_never)) (mss_nil))
theorem ok_turns_of (hX : K.In h) (hG : h.Ns mainGlobals mg) (T : Txt K mg xv) (F : FAt K ("turns_of" : Str) s_turns_of []) (D_refuse_many : DefOk P w K mg base xv ("refuse_many" : Str) 1 P_refuse_many m_refuse_many) : DefOk P w K mg base xv ("turns_of" : Str) 2 P_turns_of m_turns_of := defok_mk hX hG F sc_turns_of (fun _ _ _ _ _ _ us hl => match us, hl with | [_], _ => rfl) fun f cdv A outer s H E hr =>
  mss_cons (ms_asg (me_var 0) (pg_tup rfl (pgs_cons (pg_name (i := 1) sc_turns_of.nd rfl (by first | exact Or.inl rfl | exact Or.inr rfl)) (pgs_cons (pg_name (i := 2) sc_turns_of.nd rfl (by first | exact Or.inl rfl | exact Or.inr rfl)) (pgs_cons (pg_name (i := 3) sc_turns_of.nd rfl (by first | exact Or.inl rfl | exact Or.inr rfl)) (pgs_cons (pg_name (i := 4) sc_turns_of.nd rfl (by first | exact Or.inl rfl | exact Or.inr rfl)) (pgs_nil)))))) (tg_tup (tgs_cons (tg_name _ 1) (tgs_cons (tg_name _ 2) (tgs_cons (tg_name _ 3) (tgs_cons (tg_name _ 4) (tgs_nil _))))))) (mss_cons (ms_set sc_turns_of.nd (me_lst (ma_nil))) (mss_cons (ms_set sc_turns_of.nd (me_int)) (mss_cons (ms_while (mt_ne hr (me_var 3) (me_int)) (mss_cons (ms_set sc_turns_of.nd (me_sub (me_int) (me_div (me_sub (me_int) (me_mul (me_var 1) (me_var 3))) (me_mul (me_var 3) (me_var 3))))) (mss_cons (ms_if (mt_gt (me_len T.n_len (ma_cons (me_var 5) (ma_nil))) (me_int)) (mss_cons (ms_set sc_turns_of.nd (me_add (me_var 6) (me_var 7))) (mss_one (ms_expr (me_fn D_refuse_many hr (ma_cons (me_var 6) (ma_nil)))))) (mss_nil)) (mss_cons (ms_expr (me_append (me_var 5) (ma_cons (me_var 7) (ma_nil)))) (mss_one (ms_asg (me_tup (ma_cons (me_sub (me_int) (me_var 3)) (ma_cons (me_sub (me_int) (me_var 4)) (ma_cons (me_sub (me_var 1) (me_mul (me_var 7) (me_var 3))) (ma_cons (me_sub (me_var 2) (me_mul (me_var 7) (me_var 4))) (ma_nil)))))) (pg_tup rfl (pgs_cons (pg_name (i := 1) sc_turns_of.nd rfl (by first | exact Or.inl rfl | exact Or.inr rfl)) (pgs_cons (pg_name (i := 2) sc_turns_of.nd rfl (by first | exact Or.inl rfl | exact Or.inr rfl)) (pgs_cons (pg_name (i := 3) sc_turns_of.nd rfl (by first | exact Or.inl rfl | exact Or.inr rfl)) (pgs_cons (pg_name (i := 4) sc_turns_of.nd rfl (by first | exact Or.inl rfl | exact Or.inr rfl)) (pgs_nil)))))) (tg_tup (tgs_cons (tg_name _ 1) (tgs_cons (tg_name _ 2) (tgs_cons (tg_name _ 3) (tgs_cons (tg_name _ 4) (tgs_nil _)))))))))))) (mss_cons (ms_expr (me_append (me_var 5) (ma_cons (me_mul (me_var 1) (me_var 2)) (ma_nil)))) (mss_one (ms_ret (me_var 5)))))))
theorem ok_mended_ahead (hX : K.In h) (hG : h.Ns mainGlobals mg) (T : Txt K mg xv) (F : FAt K ("mended_ahead" : Str) s_mended_ahead []) (D_refuse_many : DefOk P w K mg base xv ("refuse_many" : Str) 1 P_refuse_many m_refuse_many) : DefOk P w K mg base xv ("mended_ahead" : Str) 2 P_mended_ahead m_mended_ahead := defok_mk hX hG F sc_mended_ahead (fun _ _ _ _ _ _ us hl => match us, hl with | [_], _ => rfl) fun f cdv A outer s H E hr =>
  mss_cons (ms_set sc_mended_ahead.nd (me_item (me_var 0) (me_int))) (mss_cons (ms_if (mt_gt (me_var 1) (me_int)) (mss_one (ms_ret (me_var 0))) (mss_nil)) (mss_cons (ms_if (mt_eq hr (me_var 1) (me_int)) (mss_one (ms_ret (me_slice (me_var 0) (mo_some (me_int)) (mo_none)))) (mss_nil)) (mss_cons (ms_expr (me_fn D_refuse_many hr (ma_cons (me_sub (me_sub (me_int) (me_mul (me_int) (me_var 1))) (me_int)) (ma_nil)))) (mss_one (ms_ret (me_add (me_add (me_add (me_lst (ma_cons (me_int) (ma_nil))) (me_mulL (me_lst (ma_cons (me_int) (ma_nil))) (me_sub (me_sub (me_int) (me_var 1)) (me_int)))) (me_lst (ma_cons (me_add (me_item (me_var 0) (me_int)) (me_int)) (ma_nil)))) (me_slice (me_var 0) (mo_some (me_int)) (mo_none))))))))
theorem ok_blocks_of (hX : K.In h) (hG : h.Ns mainGlobals mg) (T : Txt K mg xv) (F : FAt K ("blocks_of" : Str) s_blocks_of []) (D_turns_of : DefOk P w K mg base xv ("turns_of" : Str) 2 P_turns_of m_turns_of) (D_mended_ahead : DefOk P w K mg base xv ("mended_ahead" : Str) 2 P_mended_ahead m_mended_ahead) : DefOk P w K mg base xv ("blocks_of" : Str) 3 P_blocks_of m_blocks_of := defok_mk hX hG F sc_blocks_of (fun _ _ _ _ _ _ us hl => match us, hl with | [_], _ => rfl) fun f cdv A outer s H E hr =>
  mss_cons (ms_set sc_blocks_of.nd (me_fn D_turns_of hr (ma_cons (me_var 0) (ma_nil)))) (mss_cons (ms_if (MW.pt (mw_and (mt_eq hr (me_len T.n_len (ma_cons (me_var 1) (ma_nil))) (me_int)) (mw_and1 (mt_lt (me_item (me_var 1) (me_int)) (me_int))))) (mss_one (ms_set sc_blocks_of.nd (me_add (me_var 1) (me_lst (ma_cons (me_int) (ma_nil)))))) (mss_nil)) (mss_cons (ms_if (mt_gt (me_len T.n_len (ma_cons (me_var 1) (ma_nil))) (me_int)) (mss_one (ms_set sc_blocks_of.nd (me_fn D_mended_ahead hr (ma_cons (me_var 1) (ma_nil))))) (mss_nil)) (mss_cons (ms_if (MW.pt (mw_and (mt_eq hr (me_len T.n_len (ma_cons (me_var 1) (ma_nil))) (me_int)) (mw_and1 (mt_lt (me_item (me_var 1) (me_int)) (me_int))))) (mss_one (ms_set sc_blocks_of.nd (me_fn D_mended_ahead hr (ma_cons (me_add (me_var 1) (me_lst (ma_cons (me_int) (ma_nil)))) (ma_nil))))) (mss_nil)) (mss_cons (ms_set sc_blocks_of.nd (me_revL (me_var 1))) (mss_cons (ms_if (MW.pt (mw_or (mt_gt (me_len T.n_len (ma_cons (me_var 1) (ma_nil))) (me_int)) (mw_or1 (mt_eq hr (me_var 1) (me_lst (ma_cons (me_int) (ma_nil))))))) (mss_one (ms_set sc_blocks_of.nd (me_fn D_mended_ahead hr (ma_cons (me_var 1) (ma_nil))))) (mss_nil)) (mss_one (ms_ret (me_revL (me_var 1)))))))))
theorem ok_by_turns (hX : K.In h) (hG : h.Ns mainGlobals mg) (T : Txt K mg xv) (F : FAt K ("by_turns" : Str) s_by_turns []) : DefOk P w K mg base xv ("by_turns" : Str) 1 P_by_turns m_by_turns := defok_mk hX hG F sc_by_turns (fun _ _ _ _ _ _ us hl => match us, hl with | [_, _], _ => rfl) fun f cdv A outer s H E hr =>
  mss_cons (ms_set sc_by_turns.nd (me_lst (ma_nil))) (mss_cons (ms_for (mi_seq (me_var 0)) (pg_name (i := 3) sc_by_turns.nd rfl (by first | exact Or.inl rfl | exact Or.inr rfl)) (tg_name _ 3) (mss_cons (ms_expr (me_append (me_var 2) (ma_cons (me_tup (ma_cons (me_var 1) (ma_cons (me_var 3) (ma_nil)))) (ma_nil)))) (mss_one (ms_set sc_by_turns.nd (me_item (me_lst (ma_cons (me_const T.c_GAP) (ma_cons (me_const T.c_GLASS) (ma_nil)))) (me_cint T.n_int (ma_cons (me_eq hr (me_var 1) (me_const T.c_GAP)) (ma_nil)))))))) (mss_one (ms_ret (me_var 2))))
theorem ok_product (hX : K.In h) (hG : h.Ns mainGlobals mg) (T : Txt K mg xv) (F : FAt K ("product" : Str) s_product []) : DefOk P w K mg base xv ("product" : Str) 1 P_product m_product := defok_mk hX hG F sc_product (fun _ _ _ _ _ _ us hl => match us, hl with | [_, _], _ => rfl) fun f cdv A outer s H E hr =>
  mss_cons (ms_asg (me_var 0) (pg_tup rfl (pgs_cons (pg_name (i := 2) sc_product.nd rfl (by first | exact Or.inl rfl | exact Or.inr rfl)) (pgs_cons (pg_name (i := 3) sc_product.nd rfl (by first | exact Or.inl rfl | exact Or.inr rfl)) (pgs_cons (pg_name (i := 4) sc_product.nd rfl (by first | exact Or.inl rfl | exact Or.inr rfl)) (pgs_cons (pg_name (i := 5) sc_product.nd rfl (by first | exact Or.inl rfl | exact Or.inr rfl)) (pgs_nil)))))) (tg_tup (tgs_cons (tg_name _ 2) (tgs_cons (tg_name _ 3) (tgs_cons (tg_name _ 4) (tgs_cons (tg_name _ 5) (tgs_nil _))))))) (mss_cons (ms_asg (me_var 1) (pg_tup rfl (pgs_cons (pg_name (i := 6) sc_product.nd rfl (by first | exact Or.inl rfl | exact Or.inr rfl)) (pgs_cons (pg_name (i := 7) sc_product.nd rfl (by first | exact Or.inl rfl | exact Or.inr rfl)) (pgs_cons (pg_name (i := 8) sc_product.nd rfl (by first | exact Or.inl rfl | exact Or.inr rfl)) (pgs_cons (pg_name (i := 9) sc_product.nd rfl (by first | exact Or.inl rfl | exact Or.inr rfl)) (pgs_nil)))))) (tg_tup (tgs_cons (tg_name _ 6) (tgs_cons (tg_name _ 7) (tgs_cons (tg_name _ 8) (tgs_cons (tg_name _ 9) (tgs_nil _))))))) (mss_one (ms_ret (me_tup (ma_cons (me_add (me_mul (me_var 2) (me_var 6)) (me_mul (me_var 3) (me_var 8))) (ma_cons (me_add (me_mul (me_var 2) (me_var 7)) (me_mul (me_var 3) (me_var 9))) (ma_cons (me_add (me_mul (me_var 4) (me_var 6)) (me_mul (me_var 5) (me_var 8))) (ma_cons (me_add (me_mul (me_var 4) (me_var 7)) (me_mul (me_var 5) (me_var 9))) (ma_nil)))))))))
theorem ok_run_entries (hX : K.In h) (hG : h.Ns mainGlobals mg) (T : Txt K mg xv) (F : FAt K ("run_entries" : Str) s_run_entries []) : DefOk P w K mg base xv ("run_entries" : Str) 1 P_run_entries m_run_entries := defok_mk hX hG F sc_run_entries (fun _ _ _ _ _ _ us hl => match us, hl with | [_, _, _], _ => rfl) fun f cdv A outer s H E hr =>
  mss_cons (ms_if (mt_eq hr (me_var 0) (me_const T.c_GAP)) (mss_one (ms_ret (me_tup (ma_cons (me_int) (ma_cons (me_var 1) (ma_cons (me_int) (ma_cons (me_int) (ma_nil)))))))) (mss_nil)) (mss_one (ms_ret (me_tup (ma_cons (me_int) (ma_cons (me_int) (ma_cons (me_sub (me_int) (me_mul (me_var 1) (me_var 2))) (ma_cons (me_int) (ma_nil))))))))
theorem ok_product_of (hX : K.In h) (hG : h.Ns mainGlobals mg) (T : Txt K mg xv) (F : FAt K ("product_of" : Str) s_product_of []) (D_product : DefOk P w K mg base xv ("product" : Str) 1 P_product m_product) (D_run_entries : DefOk P w K mg base xv ("run_entries" : Str) 1 P_run_entries m_run_entries) : DefOk P w K mg base xv ("product_of" : Str) 2 P_product_of m_product_of := defok_mk hX hG F sc_product_of (fun _ _ _ _ _ _ us hl => match us, hl with | [_, _], _ => rfl) fun f cdv A outer s H E hr =>
  mss_cons (ms_set sc_product_of.nd (me_tup (ma_cons (me_int) (ma_cons (me_int) (ma_cons (me_int) (ma_cons (me_int) (ma_nil))))))) (mss_cons (ms_for (mi_seq (me_var 0)) (pg_tup rfl (pgs_cons (pg_name (i := 3) sc_product_of.nd rfl (by first | exact Or.inl rfl | exact Or.inr rfl)) (pgs_cons (pg_name (i := 4) sc_product_of.nd rfl (by first | exact Or.inl rfl | exact Or.inr rfl)) (pgs_nil)))) (tg_tup (tgs_cons (tg_name _ 3) (tgs_cons (tg_name _ 4) (tgs_nil _)))) (mss_one (ms_set sc_product_of.nd (me_fn D_product hr (ma_cons (me_var 2) (ma_cons (me_fn D_run_entries hr (ma_cons (me_var 3) (ma_cons (me_var 4) (ma_cons (me_var 1) (ma_nil))))) (ma_nil))))))) (mss_one (ms_ret (me_var 2))))
theorem ok_joined (hX : K.In h) (hG : h.Ns mainGlobals mg) (T : Txt K mg xv) (F : FAt K ("joined" : Str) s_joined []) : DefOk P w K mg base xv ("joined" : Str) 1 P_joined m_joined := defok_mk hX hG F sc_joined (fun _ _ _ _ _ _ us hl => match us, hl with | [_], _ => rfl) fun f cdv A outer s H E hr =>
  mss_cons (ms_set sc_joined.nd (me_lst (ma_nil))) (mss_cons (ms_for (mi_seq (me_var 0)) (pg_tup rfl (pgs_cons (pg_name (i := 2) sc_joined.nd rfl (by first | exact Or.inl rfl | exact Or.inr rfl)) (pgs_cons (pg_name (i := 3) sc_joined.nd rfl (by first | exact Or.inl rfl | exact Or.inr rfl)) (pgs_nil)))) (tg_tup (tgs_cons (tg_name _ 2) (tgs_cons (tg_name _ 3) (tgs_nil _)))) (mss_cons (ms_if (MW.pt (mw_and (mt_gt (me_len T.n_len (ma_cons (me_var 1) (ma_nil))) (me_int)) (mw_and1 (mt_eq hr (me_item (me_item (me_var 1) (me_sub (me_len T.n_len (ma_cons (me_var 1) (ma_nil))) (me_int))) (me_int)) (me_var 2))))) (mss_one (ms_set sc_joined.nd (me_add (me_var 3) (me_item (me_pop (me_var 1)) (me_int))))) (mss_nil)) (mss_one (ms_expr (me_append (me_var 1) (ma_cons (me_tup (ma_cons (me_var 2) (ma_cons (me_var 3) (ma_nil)))) (ma_nil))))))) (mss_one (ms_ret (me_var 1))))
theorem ok_fewest (hX : K.In h) (hG : h.Ns mainGlobals mg) (T : Txt K mg xv) (F : FAt K ("fewest" : Str) s_fewest []) (D_whole_entries : DefOk P w K mg base xv ("whole_entries" : Str) 1 P_whole_entries m_whole_entries) (D_blocks_of : DefOk P w K mg base xv ("blocks_of" : Str) 3 P_blocks_of m_blocks_of) (D_refuse_many : DefOk P w K mg base xv ("refuse_many" : Str) 1 P_refuse_many m_refuse_many) (D_by_turns : DefOk P w K mg base xv ("by_turns" : Str) 1 P_by_turns m_by_turns) (D_product_of : DefOk P w K mg base xv ("product_of" : Str) 2 P_product_of m_product_of) (D_joined : DefOk P w K mg base xv ("joined" : Str) 1 P_joined m_joined) : DefOk P w K mg base xv ("fewest" : Str) 4 P_fewest m_fewest := defok_mk hX hG F sc_fewest (fun _ _ _ _ _ _ us hl => match us, hl with | [_], _ => rfl) fun f cdv A outer s H E hr =>
  mss_cons (ms_set sc_fewest.nd (me_fn D_whole_entries hr (ma_cons (me_var 0) (ma_nil)))) (mss_cons (ms_set sc_fewest.nd (me_fn D_blocks_of hr (ma_cons (me_var 1) (ma_nil)))) (mss_cons (ms_expr (me_fn D_refuse_many hr (ma_cons (me_sum T.n_sum (ma_cons (me_var 2) (ma_nil))) (ma_nil)))) (mss_cons (ms_set sc_fewest.nd (me_lst (ma_cons (me_tup (ma_cons (me_const T.c_GAP) (ma_cons (me_int) (ma_nil)))) (ma_cons (me_tup (ma_cons (me_const T.c_GLASS) (ma_cons (me_int) (ma_nil)))) (ma_cons (me_tup (ma_cons (me_const T.c_GAP) (ma_cons (me_int) (ma_nil)))) (ma_nil)))))) (mss_cons (ms_for (mi_range1 T.n_range (ma_cons (me_int) (ma_nil))) (pg_name (i := 4) sc_fewest.nd rfl (by first | exact Or.inl rfl | exact Or.inr rfl)) (tg_name _ 4) (mss_one (ms_for (mi_seq (me_lst (ma_cons (me_const T.c_GAP) (ma_cons (me_const T.c_GLASS) (ma_nil))))) (pg_name (i := 5) sc_fewest.nd rfl (by first | exact Or.inl rfl | exact Or.inr rfl)) (tg_name _ 5) (mss_cons (ms_set sc_fewest.nd (me_add (me_mulL (me_var 3) (me_var 4)) (me_fn D_by_turns hr (ma_cons (me_var 2) (ma_cons (me_var 5) (ma_nil)))))) (mss_one (ms_if (mt_eq hr (me_fn D_product_of hr (ma_cons (me_var 6) (ma_cons (me_int) (ma_nil)))) (me_var 1)) (mss_cons (ms_set sc_fewest.nd (me_add (me_mul (me_int) (me_var 4)) (me_sum T.n_sum (ma_cons (me_var 2) (ma_nil))))) (mss_cons (ms_expr (me_fn D_refuse_many hr (ma_cons (me_var 7) (ma_nil)))) (mss_one (ms_ret (me_tup (ma_cons (me_var 7) (ma_cons (me_fn D_joined hr (ma_cons (me_revL (me_var 6)) (ma_nil))) (ma_nil)))))))) (mss_nil))))))) (mss_one (ms_ret (me_non)))))))
theorem ok_l_told (hX : K.In h) (hG : h.Ns mainGlobals mg) (T : Txt K mg xv) (F : FAt K ("_law_told" : Str) s_l_told []) : DefOk P w K mg base xv ("_law_told" : Str) 1 P_l_told m_l_told := defok_mk hX hG F sc_l_told (fun _ _ _ _ _ _ us hl => match us, hl with | [_], _ => rfl) fun f cdv A outer s H E hr =>
  mss_one (ms_ret (me_ctuple T.n_tuple (ma_cons (me_lc (own := [(("entry" : Str), 1)]) (g := gName 1) sc_l_told.nd (mi_seq (me_var 0)) (blkOk_by (N := N_l_told) (sc := defScope s_l_told) (by decide +kernel)) (fun _ _ _ _ _ => pg_name (i := 1) sc_l_told.nd rfl (by first | exact Or.inl rfl | exact Or.inr rfl)) (tg_name _ 1) (by decide) (fun _ _ _ _ _ => mts_nil) (fun _ _ _ _ _ => me_tup (ma_cons (me_var 1) (ma_cons (me_int) (ma_nil))))) (ma_nil))))
theorem ok_l_pool (hX : K.In h) (hG : h.Ns mainGlobals mg) (T : Txt K mg xv) (F : FAt K ("_law_pool" : Str) s_l_pool []) : DefOk P w K mg base xv ("_law_pool" : Str) 1 P_l_pool m_l_pool := defok_mk hX hG F sc_l_pool (fun _ _ _ _ _ _ us hl => match us, hl with | [_], _ => rfl) fun f cdv A outer s H E hr =>
  mss_one (ms_ret (me_lst (ma_cons (me_max2 T.n_max (ma_cons (me_int) (ma_cons (me_sub (me_var 0) (me_pow (me_int) (me_int))) (ma_nil)))) (ma_cons (me_mod (me_var 0) (me_pow (me_int) (me_int))) (ma_cons (me_int) (ma_nil))))))
theorem ok_l_next (hX : K.In h) (hG : h.Ns mainGlobals mg) (T : Txt K mg xv) (F : FAt K ("_law_next" : Str) s_l_next []) : DefOk P w K mg base xv ("_law_next" : Str) 1 P_l_next m_l_next := defok_mk hX hG F sc_l_next (fun _ _ _ _ _ _ us hl => match us, hl with | [_, _], _ => rfl) fun f cdv A outer s H E hr =>
  mss_cons (ms_if (mt_gt (me_item (me_var 0) (me_int)) (me_int)) (mss_cons (ms_set sc_l_next.nd (me_mod (me_item (me_var 0) (me_int)) (me_var 1))) (mss_cons (ms_setIx (me_div (me_item (me_var 0) (me_int)) (me_var 1)) (me_var 0) (me_int)) (mss_one (ms_ret (me_var 2))))) (mss_nil)) (mss_cons (ms_setIx (me_add (me_item (me_var 0) (me_int)) (me_int)) (me_var 0) (me_int)) (mss_cons (ms_set sc_l_next.nd (me_mod (me_add (me_item (me_var 0) (me_int)) (me_mul (me_int) (me_item (me_var 0) (me_int)))) (me_int))) (mss_cons (ms_set sc_l_next.nd (me_mod (me_mul (me_add (me_var 3) (me_int)) (me_add (me_var 3) (me_int))) (me_int))) (mss_one (ms_ret (me_mod (me_div (me_mod (me_mul (me_var 4) (me_var 4)) (me_int)) (me_int)) (me_var 1)))))))
theorem ok_l_runs (hX : K.In h) (hG : h.Ns mainGlobals mg) (T : Txt K mg xv) (F : FAt K ("_law_runs" : Str) s_l_runs []) (D_l_next : DefOk P w K mg base xv ("_law_next" : Str) 1 P_l_next m_l_next) : DefOk P w K mg base xv ("_law_runs" : Str) 2 P_l_runs m_l_runs := defok_mk hX hG F sc_l_runs (fun _ _ _ _ _ _ us hl => match us, hl with | [_, _], _ => rfl) fun f cdv A outer s H E hr =>
  mss_cons (ms_set sc_l_runs.nd (me_item (me_lst (ma_cons (me_str) (ma_cons (me_str) (ma_nil)))) (me_fn D_l_next hr (ma_cons (me_var 0) (ma_cons (me_int) (ma_nil)))))) (mss_cons (ms_set sc_l_runs.nd (me_lst (ma_nil))) (mss_cons (ms_for (mi_range1 T.n_range (ma_cons (me_fn D_l_next hr (ma_cons (me_var 0) (ma_cons (me_add (me_var 1) (me_int)) (ma_nil)))) (ma_nil))) (pg_name (i := 4) sc_l_runs.nd rfl (by first | exact Or.inl rfl | exact Or.inr rfl)) (tg_name _ 4) (mss_cons (ms_set sc_l_runs.nd (me_lst (ma_cons (me_int) (ma_cons (me_int) (ma_cons (me_int) (ma_cons (me_int) (ma_cons (me_int) (ma_cons (me_int) (ma_cons (me_add (me_int) (me_fn D_l_next hr (ma_cons (me_var 0) (ma_cons (me_int) (ma_nil))))) (ma_cons (me_add (me_int) (me_fn D_l_next hr (ma_cons (me_var 0) (ma_cons (me_int) (ma_nil))))) (ma_nil))))))))))) (mss_cons (ms_set sc_l_runs.nd (me_item (me_var 5) (me_fn D_l_next hr (ma_cons (me_var 0) (ma_cons (me_int) (ma_nil)))))) (mss_cons (ms_expr (me_append (me_var 3) (ma_cons (me_tup (ma_cons (me_var 2) (ma_cons (me_var 6) (ma_nil)))) (ma_nil)))) (mss_one (ms_set sc_l_runs.nd (me_item (me_lst (ma_cons (me_str) (ma_cons (me_str) (ma_nil)))) (me_cint T.n_int (ma_cons (me_eq hr (me_var 2) (me_str)) (ma_nil)))))))))) (mss_one (ms_ret (me_var 3)))))
theorem ok_l_led (hX : K.In h) (hG : h.Ns mainGlobals mg) (T : Txt K mg xv) (F : FAt K ("_law_led" : Str) s_l_led []) : DefOk P w K mg base xv ("_law_led" : Str) 1 P_l_led m_l_led_4 := defok_mk hX hG F sc_l_led (fun _ _ _ _ _ _ us hl => match us, hl with | [_, _], _ => rfl) fun f cdv A outer s H E hr =>
  mss_cons (ms_asg (me_tup (ma_cons (me_int) (ma_cons (me_int) (ma_cons (me_int) (ma_cons (me_int) (ma_nil)))))) (pg_tup rfl (pgs_cons (pg_name (i := 2) sc_l_led.nd rfl (by first | exact Or.inl rfl | exact Or.inr rfl)) (pgs_cons (pg_name (i := 3) sc_l_led.nd rfl (by first | exact Or.inl rfl | exact Or.inr rfl)) (pgs_cons (pg_name (i := 4) sc_l_led.nd rfl (by first | exact Or.inl rfl | exact Or.inr rfl)) (pgs_cons (pg_name (i := 5) sc_l_led.nd rfl (by first | exact Or.inl rfl | exact Or.inr rfl)) (pgs_nil)))))) (tg_tup (tgs_cons (tg_name _ 2) (tgs_cons (tg_name _ 3) (tgs_cons (tg_name _ 4) (tgs_cons (tg_name _ 5) (tgs_nil _))))))) (mss_cons (ms_for (mi_seq (me_var 0)) (pg_tup rfl (pgs_cons (pg_name (i := 6) sc_l_led.nd rfl (by first | exact Or.inl rfl | exact Or.inr rfl)) (pgs_cons (pg_name (i := 7) sc_l_led.nd rfl (by first | exact Or.inl rfl | exact Or.inr rfl)) (pgs_nil)))) (tg_tup (tgs_cons (tg_name _ 6) (tgs_cons (tg_name _ 7) (tgs_nil _)))) (mss_one (ms_if (mt_eq hr (me_var 6) (me_str)) (mss_one (ms_par sc_l_led.nd (ma_cons (me_add (me_var 2) (me_mul (me_var 7) (me_var 4))) (ma_cons (me_add (me_var 3) (me_mul (me_var 7) (me_var 5))) (ma_nil))))) (mss_cons (ms_set sc_l_led.nd (me_mul (me_var 1) (me_var 7))) (mss_one (ms_par sc_l_led.nd (ma_cons (me_sub (me_var 4) (me_mul (me_var 8) (me_var 2))) (ma_cons (me_sub (me_var 5) (me_mul (me_var 8) (me_var 3))) (ma_nil))))))))) (mss_one (ms_ret (me_tup (ma_cons (me_var 2) (ma_cons (me_var 3) (ma_cons (me_var 4) (ma_cons (me_var 5) (ma_nil)))))))))
theorem ok_law (hX : K.In h) (hG : h.Ns mainGlobals mg) (T : Txt K mg xv) (F : FAt K ("law" : Str) s_law []) (D_l_short : DefOk P w K mg base xv ("_law_short" : Str) 2 P_l_short m_l_short) (D_fewest : DefOk P w K mg base xv ("fewest" : Str) 4 P_fewest m_fewest) (D_l_told : DefOk P w K mg base xv ("_law_told" : Str) 1 P_l_told m_l_told) (D_l_pool : DefOk P w K mg base xv ("_law_pool" : Str) 1 P_l_pool m_l_pool) (D_l_next : DefOk P w K mg base xv ("_law_next" : Str) 1 P_l_next m_l_next) (D_l_runs : DefOk P w K mg base xv ("_law_runs" : Str) 2 P_l_runs m_l_runs) (D_l_led : DefOk P w K mg base xv ("_law_led" : Str) 1 P_l_led m_l_led_4) (D_l_behind : DefOk P w K mg base xv ("_law_behind" : Str) 1 P_l_behind m_l_behind_2) : DefOk P w K mg base xv ("law" : Str) 5 P_law m_law_k52 := defok_mk hX hG F sc_law (fun _ _ _ _ _ _ us hl => match us, hl with | [_], _ => rfl) fun f cdv A outer s H E hr =>
  mss_cons (ms_set sc_law.nd (me_fn D_l_short hr (ma_cons (me_add (me_int) (me_mod (me_len T.n_len (ma_cons (me_var 0) (ma_nil))) (me_int))) (ma_nil)))) (mss_cons (ms_for (mi_dm (me_var 1)) (pg_name (i := 2) sc_law.nd rfl (by first | exact Or.inl rfl | exact Or.inr rfl)) (tg_name _ 2) (mss_one (ms_if (mt_ne hr (me_item (me_fn D_fewest hr (ma_cons (me_fn D_l_told hr (ma_cons (me_var 2) (ma_nil))) (ma_nil))) (me_int)) (me_getM hr (me_var 1) (me_var 2))) (mss_one (ms_ret (me_bl))) (mss_nil)))) (mss_cons (ms_set sc_law.nd (me_sortM hr rfl T.n_sorted (ma_cons (me_var 1) (ma_nil)))) (mss_cons (ms_for (mi_seq (me_add (me_lst (ma_cons (me_int) (ma_nil))) (me_var 0))) (pg_name (i := 4) sc_law.nd rfl (by first | exact Or.inl rfl | exact Or.inr rfl)) (tg_name _ 4) (mss_cons (ms_set sc_law.nd (me_fn D_l_pool hr (ma_cons (me_var 4) (ma_nil)))) (mss_cons (ms_set sc_law.nd (me_item (me_var 3) (me_fn D_l_next hr (ma_cons (me_var 5) (ma_cons (me_len T.n_len (ma_cons (me_var 3) (ma_nil))) (ma_nil)))))) (mss_cons (ms_set sc_law.nd (me_fn D_l_runs hr (ma_cons (me_var 5) (ma_cons (me_int) (ma_nil))))) (mss_cons (ms_set sc_law.nd (me_fn D_l_led hr (ma_cons (me_var 6) (ma_cons (me_int) (ma_nil))))) (mss_cons (ms_set sc_law.nd (me_item (me_fn D_fewest hr (ma_cons (me_fn D_l_told hr (ma_cons (me_fn D_l_behind hr (ma_cons (me_var 7) (ma_cons (me_var 2) (ma_nil)))) (ma_nil))) (ma_nil))) (me_int))) (mss_cons (ms_if (mt_gt (me_var 8) (me_add (me_item (me_fn D_fewest hr (ma_cons (me_fn D_l_told hr (ma_cons (me_var 7) (ma_nil))) (ma_nil))) (me_int)) (me_getM hr (me_var 1) (me_var 2)))) (mss_one (ms_ret (me_bl))) (mss_nil)) (mss_cons (ms_set sc_law.nd (me_fn D_l_behind hr (ma_cons (me_fn D_l_behind hr (ma_cons (me_var 7) (ma_cons (me_var 2) (ma_nil)))) (ma_cons (me_tup (ma_cons (me_item (me_var 2) (me_int)) (ma_cons (me_sub (me_int) (me_item (me_var 2) (me_int))) (ma_cons (me_sub (me_int) (me_item (me_var 2) (me_int))) (ma_cons (me_item (me_var 2) (me_int)) (ma_nil)))))) (ma_nil))))) (mss_one (ms_if (MW.pt (mw_or (mt_ne hr (me_var 9) (me_var 7)) (mw_or1 (mt_gt (me_item (me_fn D_fewest hr (ma_cons (me_fn D_l_told hr (ma_cons (me_var 7) (ma_nil))) (ma_nil))) (me_int)) (me_add (me_var 8) (me_mul (me_int) (me_getM hr (me_var 1) (me_var 2)))))))) (mss_one (ms_ret (me_bl))) (mss_nil))))))))))) (mss_one (ms_ret (me_bl))))))
structure All (K : PySem.W.Frag) : Prop where
  f_l_behind : FAt K ("_law_behind" : Str) s_l_behind []
  f_l_short : FAt K ("_law_short" : Str) s_l_short []
  f_whole_entries : FAt K ("whole_entries" : Str) s_whole_entries []
  f_refuse_many : FAt K ("refuse_many" : Str) s_refuse_many []
  f_turns_of : FAt K ("turns_of" : Str) s_turns_of []
  f_mended_ahead : FAt K ("mended_ahead" : Str) s_mended_ahead []
  f_blocks_of : FAt K ("blocks_of" : Str) s_blocks_of []
  f_by_turns : FAt K ("by_turns" : Str) s_by_turns []
  f_product : FAt K ("product" : Str) s_product []
  f_run_entries : FAt K ("run_entries" : Str) s_run_entries []
  f_product_of : FAt K ("product_of" : Str) s_product_of []
  f_joined : FAt K ("joined" : Str) s_joined []
  f_fewest : FAt K ("fewest" : Str) s_fewest []
  f_l_told : FAt K ("_law_told" : Str) s_l_told []
  f_l_pool : FAt K ("_law_pool" : Str) s_l_pool []
  f_l_next : FAt K ("_law_next" : Str) s_l_next []
  f_l_runs : FAt K ("_law_runs" : Str) s_l_runs []
  f_l_led : FAt K ("_law_led" : Str) s_l_led []
  f_law : FAt K ("law" : Str) s_law []
theorem law_ok (hX : K.In h) (hG : h.Ns mainGlobals mg) (T : Txt K mg xv) (F : All K) : DefOk P w K mg base xv "law" 5 P_law m_law_k52 := by
  have D_l_behind := ok_l_behind (P := P) (w := w) (base := base) (xv := xv) hX hG T F.f_l_behind
  have D_l_short := ok_l_short (P := P) (w := w) (base := base) (xv := xv) hX hG T F.f_l_short D_l_behind
  have D_whole_entries := ok_whole_entries (P := P) (w := w) (base := base) (xv := xv) hX hG T F.f_whole_entries
  have D_refuse_many := ok_refuse_many (P := P) (w := w) (base := base) (xv := xv) hX hG T F.f_refuse_many
  have D_turns_of := ok_turns_of (P := P) (w := w) (base := base) (xv := xv) hX hG T F.f_turns_of D_refuse_many
  have D_mended_ahead := ok_mended_ahead (P := P) (w := w) (base := base) (xv := xv) hX hG T F.f_mended_ahead D_refuse_many
  have D_blocks_of := ok_blocks_of (P := P) (w := w) (base := base) (xv := xv) hX hG T F.f_blocks_of D_turns_of D_mended_ahead
  have D_by_turns := ok_by_turns (P := P) (w := w) (base := base) (xv := xv) hX hG T F.f_by_turns
  have D_product := ok_product (P := P) (w := w) (base := base) (xv := xv) hX hG T F.f_product
  have D_run_entries := ok_run_entries (P := P) (w := w) (base := base) (xv := xv) hX hG T F.f_run_entries
  have D_product_of := ok_product_of (P := P) (w := w) (base := base) (xv := xv) hX hG T F.f_product_of D_product D_run_entries
  have D_joined := ok_joined (P := P) (w := w) (base := base) (xv := xv) hX hG T F.f_joined
  have D_fewest := ok_fewest (P := P) (w := w) (base := base) (xv := xv) hX hG T F.f_fewest D_whole_entries D_blocks_of D_refuse_many D_by_turns D_product_of D_joined
  have D_l_told := ok_l_told (P := P) (w := w) (base := base) (xv := xv) hX hG T F.f_l_told
  have D_l_pool := ok_l_pool (P := P) (w := w) (base := base) (xv := xv) hX hG T F.f_l_pool
  have D_l_next := ok_l_next (P := P) (w := w) (base := base) (xv := xv) hX hG T F.f_l_next
  have D_l_runs := ok_l_runs (P := P) (w := w) (base := base) (xv := xv) hX hG T F.f_l_runs D_l_next
  have D_l_led := ok_l_led (P := P) (w := w) (base := base) (xv := xv) hX hG T F.f_l_led
  have D_law := ok_law (P := P) (w := w) (base := base) (xv := xv) hX hG T F.f_law D_l_short D_fewest D_l_told D_l_pool D_l_next D_l_runs D_l_led D_l_behind
  exact D_law
end
end K52
section
set_option exponentiation.threshold 10000
namespace K52
open PySem L2 Rg K50
noncomputable def leX : TW → TW → Bool := PySem.W.dataLe false (fun x : TW => pM x.1)
noncomputable def srtX (A : List TW) : List TW := A.mergeSort leX
theorem srtX_mem {A : List TW} {x : TW} : x ∈ srtX A ↔ x ∈ A := List.mem_mergeSort
theorem srtX_len {A : List TW} : (srtX A).length = A.length := List.length_mergeSort _
theorem alike_M {m k : M4} : PySem.W.alike (pM m) (pM k) = true := by
  unfold pM
  simp [PySem.W.alike, PySem.W.alikeAll]
theorem sortM_eq {S : Store} {n : Nat} {A : List TW} (hn : S[n]? = some (.df (A.map eX) (A.map eV))) : fSortM [.ref n] S = .ok (.ref S.length) (S ++ [.lst ((srtX A).map eX)]) := by
  have e2 : datas S (A.map eX) = some (A.map fun x => (eX x, pM x.1)) := by
    unfold datas
    rw [show allP (toP S 60) (A.map eX) = some (A.map fun x => pM x.1) from allP_map fun _ _ => toP_M]
    exact congrArg some (List.zip_map' ..)
  unfold fSortM
  simp only [hn]
  rw [if_pos okK_Xs]
  simp only [e2]
  have e3 : (A.map fun x => (eX x, pM x.1)).map (·.2) = A.map fun x => pM x.1 := by simp [List.map_map, Function.comp_def]
  rw [e3, if_pos ⟨PySem.W.AllAlike.of fun _ _ => alike_M, PySem.W.Sortable.tuples fun _ => ⟨_, _, rfl⟩⟩]
  congr 4
  rw [← List.map_mergeSort (r := leX) (f := fun x => (eX x, pM x.1)) (fun a _ b _ => rfl)]
  unfold srtX
  simp [List.map_map, Function.comp_def]
theorem seq_assoc {a b c : SS} : sSeq (sSeq a b) c = sSeq a (sSeq b c) := by
  funext e S
  unfold sSeq
  cases a e S <;> rfl
theorem law_gen4 {np slot : Nat} {pre body rest : Rg.SS} {si : Rg.SI} {ns : List Int} {m : Rg.Mf} (EI : Rg.Env → Store → Prop) (mono : ∀ e S C, EI e S → EI e (S ++ C)) (hm : m = mkDef np 1 (sSeq pre (sSeq (sFor si (gN slot) body) rest)))
    (hpre : Sok (pre (some (.ref 0) :: List.replicate (np - 1) none) [.fro (ns.map Rg.D.int)]) { nx := fun e S' => EI e S' ∧ ∃ C, S' = [.fro (ns.map Rg.D.int)] ++ C, rt := fun _ _ => False })
    (hit : ∀ e S0, EI e S0 → (∃ C, S0 = [.fro (ns.map Rg.D.int)] ++ C) → Rok (si e S0) fun w S' => (∃ xs : List Int, w.items = xs.map Rg.D.int) ∧ (∃ C, S' = S0 ++ C) ∧ ∀ C, w.chk (S' ++ C))
    (turn : ∀ (x : Int) (e : Rg.Env) (S : Store), EI e S → Sok (body (e.set slot (some (.int x))) S) { nx := fun e' S' => EI e' S' ∧ ∃ C', S' = S ++ C', rt := fun _ _ => False, ct := fun e' S' => EI e' S' ∧ ∃ C', S' = S ++ C' })
    (hrest : ∀ (e : Rg.Env) (S : Store), EI e S → Sok (rest e S) { nx := fun _ _ => False, rt := fun d S' => d = .bl true ∧ ∃ C, S' = S ++ C }) :
    ∃ S', m [.ref 0] [.fro (ns.map Rg.D.int)] = .ok (.bl true) S' := by
  have key : Rok (m [.ref 0] [.fro (ns.map Rg.D.int)]) fun d _ => d = .bl true := by
    rw [hm, rok_def]
    refine ⟨rfl, ?_⟩
    rw [sok_seq]
    refine Sok.imp hpre ?_ (fun _ _ h => h.elim) (fun _ _ h => h.elim) (fun _ _ h => h.elim)
    rintro e S0 ⟨he, CC, hS0⟩
    dsimp only
    rw [sok_seq, sok_for]
    refine (hit e S0 he ⟨CC, hS0⟩).imp ?_
    rintro ⟨items, chk⟩ S1 ⟨⟨xs, hx⟩, ⟨C0, hS1⟩, hchk⟩
    dsimp only at hx hchk ⊢
    rw [hx]
    rw [hS1] at hchk ⊢
    refine sok_forRun (fun _ e S' => EI e S' ∧ ∃ C, S' = S0 ++ (C0 ++ C)) _ (fun i e S' h => ?_) ?_ ?_ _ _ ⟨mono _ _ _ he, [], by simp⟩
    · obtain ⟨_, C, rfl⟩ := h
      have := hchk C
      rwa [List.append_assoc] at this
    · rintro i d e S' hi ⟨he, C, rfl⟩
      obtain ⟨x, hx, rfl⟩ := List.mem_map.mp (List.mem_of_getElem? hi)
      simp only [gN_some]
      refine ⟨_, rfl, ?_⟩
      refine (turn x e _ he).imp ?_ ?_ ?_ ?_
      · rintro e S2 ⟨h1, C2, rfl⟩
        exact ⟨h1, C ++ C2, by simp⟩
      · exact fun _ _ h => h.elim
      · exact fun _ _ h => h.elim
      · rintro e S2 ⟨h1, C2, rfl⟩
        exact ⟨h1, C ++ C2, by simp⟩
    · rintro e S' ⟨he, C, rfl⟩
      refine (hrest e _ he).imp (fun _ _ h => h.elim) ?_ (fun _ _ h => h.elim) (fun _ _ h => h.elim)
      rintro d S2 ⟨rfl, C2, rfl⟩
      have := gc_app (S := [Cell.fro (ns.map Rg.D.int)]) (C := CC ++ (C0 ++ C) ++ C2) (d := .bl true) (by simp)
      rw [hS0]
      simp at this ⊢
      rw [this]
      simp
  obtain ⟨d, S', e, rfl⟩ := key
  exact ⟨S', e⟩
def unW (b : Bool) : List Bool := [!b, b, !b, b, !b, b, !b, b, !b, b, !b]
theorem unW_ok {b : Bool} : prodW (unW b) = lt b (-1) := by cases b <;> decide
def invW : List Bool → List Bool
  | [] => []
  | b :: W => invW W ++ unW b
theorem invW_ok : ∀ W : List Bool, prodW (invW W) = Rg.inv (prodW W) ∧ (invW W).length = 11 * W.length
  | [] => ⟨by decide, rfl⟩
  | b :: W => by
    obtain ⟨h1, h2⟩ := invW_ok W
    refine ⟨?_, by simp [invW, unW, h2]; omega⟩
    show prodW (invW W ++ unW b) = Rg.inv ((lt b 1).mul (prodW W))
    rw [prodW_app, h1, unW_ok, inv_mul, inv_lt]
theorem inv_self {m : M4} (h : m.det = 1) : (Rg.inv m).mul m = M4.one := by
  unfold M4.det at h
  apply M4.ext' <;> simp only [M4.mul, Rg.inv, M4.one] <;> grind
theorem both_le {x : TW} {n cb cf : Nat} {f : M4} {Jb Jf : List Rg.Run} (hx : x ∈ allW n) (hb : Few (x.1.mul f) cb Jb) (hf : Few f cf Jf) : cb ≤ cf + x.2.length ∧ cf ≤ cb + 12 * x.2.length := by
  have ok := bf_ok n
  have hw := ok.word x hx
  obtain ⟨Wf, f1, f2⟩ := K51.few_word hf
  obtain ⟨Wb, b1, b2⟩ := K51.few_word hb
  obtain ⟨i1, i2⟩ := invW_ok x.2
  have a := (hb.least (x.2 ++ Wf) (by rw [prodW_app, hw, f1])).1
  have d := word_det x.2
  have b := (hf.least (invW x.2 ++ Wb) (by rw [prodW_app, i1, b1, hw, ← M4.mul_assoc, inv_self (by rw [← hw]; exact d), M4.one_mul])).1
  simp at a b
  omega
theorem few_of_word {W : List Bool} {n : Nat} (h : W.length ≤ n) (hn : n ≤ 490) : ∃ (c : Nat) (J : List Rg.Run), Few (prodW W) c J ∧ ∀ S, m_fewest [eMt (prodW W)] S = .ok (.tup [.int c, .ref S.length]) (S ++ [.lst (J.map eRun)]) := by
  obtain ⟨c, J, f1, _, e1⟩ := fewest_of ((SWd.word W).mono h) (by omega) (word_det W) ((bd_word W).mono (j := 3990) (by omega)) (by decide) (by decide)
  exact ⟨c, J, f1, e1⟩
theorem few_X {x : TW} {n : Nat} (hn : n ≤ 8) (hx : x ∈ allW n) : ∃ J : List Rg.Run, ∀ S, m_fewest [eMt x.1] S = .ok (.tup [.int x.2.length, .ref S.length]) (S ++ [.lst (J.map eRun)]) := by
  have ok := bf_ok n
  obtain ⟨c, J, f1, e1⟩ := few_of_word (W := x.2) (n := 8) (by have := ok.le hx; omega) (by decide)
  rw [ok.word x hx] at f1 e1
  have := bf_few hx f1
  subst this
  exact ⟨J, e1⟩
theorem seq3 {a b c d : SS} : sSeq a (sSeq b (sSeq c d)) = sSeq (sSeq a (sSeq b c)) d := by rw [seq_assoc, seq_assoc]
def EI (A : List TW) (e : Rg.Env) (S : Store) : Prop := e.length = 10 ∧ e[0]? = some (some (.ref 0)) ∧ e[1]? = some (some (.ref 1)) ∧ S[1]? = some (.df (A.map eX) (A.map eV)) ∧ ∃ q, e[3]? = some (some (.ref q)) ∧ S[q]? = some (.lst ((srtX A).map eX))
theorem EI.mono {A : List TW} {e : Rg.Env} {S C : Store} (h : EI A e S) : EI A e (S ++ C) := by
  obtain ⟨h1, h2, h3, h4, q, h5, h6⟩ := h
  refine ⟨h1, h2, h3, ?_, q, h5, ?_⟩
  · rw [List.getElem?_append_left (List.getElem?_eq_some_iff.mp h4).1]
    exact h4
  · rw [List.getElem?_append_left (List.getElem?_eq_some_iff.mp h6).1]
    exact h6
theorem law_true (ns : List Int) (hl : ns.length ≤ 63) (hb : ∀ z ∈ ns, Builtin.Int.intBits z ≤ 1048576) : ∃ S', m_law_k52 [.ref 0] [.fro (ns.map Rg.D.int)] = .ok (.bl true) S' := by
  obtain ⟨n, hn, h8⟩ : ∃ n : Nat, (n : Int) = 7 + (ns.length : Int) % 2 ∧ n ≤ 8 := ⟨7 + ns.length % 2, by omega, by omega⟩
  have ok := bf_ok n
  refine law_gen4 (slot := 4) (EI (allW n)) (fun e S C h => h.mono) (show m_law_k52 = mkDef 10 1 (sSeq (sSeq _ (sSeq _ _)) _) from congrArg (mkDef 10 1) seq3) ?_ ?_ ?_ ?_
  · simp
    refine ⟨by show (0 : Int) < 2; decide, ?_⟩
    rw [← hn]
    refine l_short_eq h8 fun C => ?_
    simp
    rw [sok_for]
    refine rok_iterM ?_
    simp
    refine ⟨allW n, stA_d (S := [Cell.fro (ns.map Rg.D.int)]), ?_⟩
    have e0 : (stA [Cell.fro (ns.map Rg.D.int)] (allW n) C).set 1 (.df ((allW n).map eX) ((allW n).map eV)) = Cell.fro (ns.map Rg.D.int) :: .df ((allW n).map eX) ((allW n).map eV) :: C := rfl
    rw [e0]
    refine sok_forRun (fun i e S' => ∃ (o2 : Option Rg.D) (C' : Store), e = [some (.ref 0), some (.ref 1), o2, none, none, none, none, none, none, none] ∧ S' = Cell.fro (ns.map Rg.D.int) :: .df ((allW n).map eX) ((allW n).map eV) :: C') _ (fun i e S' hh => trivial) ?_ ?_ _ _ ⟨none, C, rfl, rfl⟩
    · rintro i d e S' hi ⟨o2, C', rfl, rfl⟩
      rw [List.getElem?_map] at hi
      obtain ⟨x, hx1, rfl⟩ := Option.map_eq_some_iff.mp hi
      have hx := List.mem_of_getElem? hx1
      obtain ⟨J, hJ⟩ := few_X h8 hx
      have ex : eX x = eM x.1 := rfl
      refine ⟨_, rfl, ?_⟩
      simp [ex, told_eq, hJ]
      rw [getM_eq ok.one hx (by simp)]
      simp [eV]
    · rintro e S' ⟨o2, C', rfl, rfl⟩
      simp
      rw [sortM_eq (A := allW n) rfl]
      simp
      exact ⟨rfl, rfl, rfl, rfl, _, rfl, by simp⟩
  · rintro e S0 ⟨he, h0, _⟩ ⟨C, rfl⟩
    simp [h0]
    refine ⟨by omega, 0 :: ns, by simp⟩
  · rintro x e S ⟨he, h0, h1, hd, q, hq, hs⟩
    obtain ⟨o0, o1, o2, o3, o4, o5, o6, o7, o8, o9, rfl⟩ : ∃ a b c d e' f g h i j, e = [a, b, c, d, e', f, g, h, i, j] := by
      match e, he with
      | [a, b, c, d, e, f, g, h, i, j], _ => exact ⟨_, _, _, _, _, _, _, _, _, _, rfl⟩
    simp at h0 h1 hq
    subst h0 h1 hq
    have d2 : 1 < S.length := (List.getElem?_eq_some_iff.mp hd).1
    have q2 : q < S.length := (List.getElem?_eq_some_iff.mp hs).1
    have hdX : ∀ X : Store, (S ++ X)[1]? = some (.df ((allW n).map eX) ((allW n).map eV)) := fun X => by rw [List.getElem?_append_left d2]; exact hd
    have hsX : ∀ X : Store, lstOf (S ++ X) q = some ((srtX (allW n)).map eX) := fun X => by
      unfold lstOf
      rw [List.getElem?_append_left q2, hs]
    have hpos : 0 < (allW n).length := by
      obtain ⟨y, hy, _⟩ := ok.full [] (by simp)
      exact List.length_pos_of_mem hy
    have hlen : (allW n).length ≤ 512 := by
      have := (last_len n).2
      have := pow_le (show n + 1 ≤ 9 by omega)
      omega
    simp
    refine pool_then fun a b c => ?_
    simp [hsX]
    refine next_then (n := S.length) inferInstance (by rw [srtX_len]; omega) (Nat.lt_of_lt_of_le (show _ < 2 ^ 10 by rw [srtX_len]; omega) (pow_le (by decide))) fun v x0 y0 z0 v0 v1 => ?_
    simp [hsX]
    refine ix_all v0 (by simpa using v1) fun t ht => ?_
    obtain ⟨x, hx', rfl⟩ := List.mem_map.mp ht
    have hx := srtX_mem.mp hx'
    refine runs_then (n := S.length) inferInstance (by decide) (by decide) fun R x1 y1 z1 hR lR nR => ?_
    have ex : eX x = eM x.1 := rfl
    have i0 : ∀ (m : M4) {T : Store} {P : Rg.D → Store → Prop}, Rok (fIx (eM m) (.int 0) T) P ↔ P (.int m.a) T := fun m => by intros; unfold eM; rw [rok_ixT]; simp
    have i1 : ∀ (m : M4) {T : Store} {P : Rg.D → Store → Prop}, Rok (fIx (eM m) (.int 1) T) P ↔ P (.int m.b) T := fun m => by intros; unfold eM; rw [rok_ixT]; simp
    have i2 : ∀ (m : M4) {T : Store} {P : Rg.D → Store → Prop}, Rok (fIx (eM m) (.int 2) T) P ↔ P (.int m.c) T := fun m => by intros; unfold eM; rw [rok_ixT]; simp
    have i3 : ∀ (m : M4) {T : Store} {P : Rg.D → Store → Prop}, Rok (fIx (eM m) (.int 3) T) P ↔ P (.int m.d) T := fun m => by intros; unfold eM; rw [rok_ixT]; simp
    have pinv : Rg.D.tup [.int x.1.d, .int (-x.1.b), .int (-x.1.c), .int x.1.a] = eM (Rg.inv x.1) := rfl
    have bd : ∀ r ∈ R, 0 ≤ r.n ∧ r.n < 128 := fun r hr => ⟨by have := hR.pos r hr; omega, by have := nR r hr; omega⟩
    have hsum := sum_le nR (by decide)
    obtain ⟨W, hW, lW⟩ := word_of (R := R) fun r hr => (bd r hr).1
    have lW2 : W.length ≤ 240 := by omega
    have led := fun T m (h : lstOf T m = some (R.map eRun)) => led4_eq (S := T) (s := 1) (.inl rfl) h (fun r hr => by have := bd r hr; omega)
    have hxl : x.2.length ≤ 8 := by have := ok.le hx; omega
    have hw := ok.word x hx
    have bx : Bd x.1 100 := by rw [← hw]; exact (bd_word x.2).mono (by omega)
    have bf : Bd (ledM 1 R) 4000 := by rw [← hW]; exact (bd_word W).mono (by omega)
    obtain ⟨cf, Jf, ff, ef⟩ := few_of_word (W := W) lW2 (by decide)
    obtain ⟨cb, Jb, fb, eb⟩ := few_of_word (W := x.2 ++ W) (n := 248) (by simp; omega) (by decide)
    have bb : Bd (prodW (x.2 ++ W)) 4000 := (bd_word _).mono (by simp; omega)
    rw [prodW_app, hw] at fb eb bb
    rw [hW] at ff ef fb eb bb
    have bi : Bd (Rg.inv x.1) 100 := ⟨bx.d, by simpa [Rg.inv] using bx.b, by simpa [Rg.inv] using bx.c, bx.a⟩
    obtain ⟨k1, k2⟩ := both_le hx fb ff
    have dx := word_det x.2
    rw [hw] at dx
    have back : (Rg.inv x.1).mul (x.1.mul (ledM 1 R)) = ledM 1 R := by rw [← M4.mul_assoc, inv_self dx, M4.one_mul]
    have cm : CM 12 (eV x) := CM_l (by decide)
    have l1 : ¬ ((cf : Int) + eV x < cb) := by unfold eV; omega
    have l2 : ¬ ((cb : Int) + 12 * eV x < cf) := by unfold eV; omega
    simp
    rw [led _ _ (by simp)]
    generalize ledM 1 R = f at *
    simp [ex]
    rw [behindM_eq bf bx (by decide)]
    simp [told_eq, eb, ef]
    rw [getM_eq ok.one hx (hdX _)]
    simp
    refine ⟨by unfold eV; omega, fun _ => ?_⟩
    rw [behindM_eq bf bx (by decide)]
    simp [i0, i1, i2, i3, pinv]
    rw [behindM_eq bb bi (by decide), back]
    simp [told_eq, ef]
    rw [getM_eq ok.one hx (hdX _)]
    simp [cm]
    refine ⟨by unfold eV; omega, fun _ => ⟨rfl, rfl, rfl, hdX _, q, rfl, ?_⟩⟩
    rw [List.getElem?_append_left q2]
    exact hs
  · rintro e S ⟨he, _⟩
    simp
end K52
end
namespace K52
open PySem PySem.Spec PyProof.Rows L2 Rg
def fn : List He.DefD := ([⟨(("_law_behind" : Str), none), ("_law_behind" : Str), ("_law_behind" : Str), defArgs s_l_behind, defBody s_l_behind, defScope s_l_behind, [], []⟩, ⟨(("_law_short" : Str), none), ("_law_short" : Str), ("_law_short" : Str), defArgs s_l_short, defBody s_l_short, defScope s_l_short, [], []⟩, ⟨(("whole_entries" : Str), none), ("whole_entries" : Str), ("whole_entries" : Str), defArgs s_whole_entries, defBody s_whole_entries, defScope s_whole_entries, [], []⟩, ⟨(("refuse_many" : Str), none), ("refuse_many" : Str), ("refuse_many" : Str), defArgs s_refuse_many, defBody s_refuse_many, defScope s_refuse_many, [], []⟩, ⟨(("turns_of" : Str), none), ("turns_of" : Str), ("turns_of" : Str), defArgs s_turns_of, defBody s_turns_of, defScope s_turns_of, [], []⟩, ⟨(("mended_ahead" : Str), none), ("mended_ahead" : Str), ("mended_ahead" : Str), defArgs s_mended_ahead, defBody s_mended_ahead, defScope s_mended_ahead, [], []⟩, ⟨(("blocks_of" : Str), none), ("blocks_of" : Str), ("blocks_of" : Str), defArgs s_blocks_of, defBody s_blocks_of, defScope s_blocks_of, [], []⟩, ⟨(("by_turns" : Str), none), ("by_turns" : Str), ("by_turns" : Str), defArgs s_by_turns, defBody s_by_turns, defScope s_by_turns, [], []⟩, ⟨(("product" : Str), none), ("product" : Str), ("product" : Str), defArgs s_product, defBody s_product, defScope s_product, [], []⟩, ⟨(("run_entries" : Str), none), ("run_entries" : Str), ("run_entries" : Str), defArgs s_run_entries, defBody s_run_entries, defScope s_run_entries, [], []⟩, ⟨(("product_of" : Str), none), ("product_of" : Str), ("product_of" : Str), defArgs s_product_of, defBody s_product_of, defScope s_product_of, [], []⟩, ⟨(("joined" : Str), none), ("joined" : Str), ("joined" : Str), defArgs s_joined, defBody s_joined, defScope s_joined, [], []⟩, ⟨(("fewest" : Str), none), ("fewest" : Str), ("fewest" : Str), defArgs s_fewest, defBody s_fewest, defScope s_fewest, [], []⟩, ⟨(("_law_told" : Str), none), ("_law_told" : Str), ("_law_told" : Str), defArgs s_l_told, defBody s_l_told, defScope s_l_told, [], []⟩, ⟨(("_law_pool" : Str), none), ("_law_pool" : Str), ("_law_pool" : Str), defArgs s_l_pool, defBody s_l_pool, defScope s_l_pool, [], []⟩, ⟨(("_law_next" : Str), none), ("_law_next" : Str), ("_law_next" : Str), defArgs s_l_next, defBody s_l_next, defScope s_l_next, [], []⟩, ⟨(("_law_runs" : Str), none), ("_law_runs" : Str), ("_law_runs" : Str), defArgs s_l_runs, defBody s_l_runs, defScope s_l_runs, [], []⟩, ⟨(("_law_led" : Str), none), ("_law_led" : Str), ("_law_led" : Str), defArgs s_l_led, defBody s_l_led, defScope s_l_led, [], []⟩, ⟨(("law" : Str), none), ("law" : Str), ("law" : Str), defArgs s_law, defBody s_law, defScope s_law, [], []⟩] : List He.DefD)
def fa : List He.Fa := ([.glo ("_law_behind" : Str), .glo ("_law_short" : Str), .glo ("whole_entries" : Str), .glo ("refuse_many" : Str), .glo ("turns_of" : Str), .glo ("mended_ahead" : Str), .glo ("blocks_of" : Str), .glo ("by_turns" : Str), .glo ("product" : Str), .glo ("run_entries" : Str), .glo ("product_of" : Str), .glo ("joined" : Str), .glo ("fewest" : Str), .glo ("_law_told" : Str), .glo ("_law_pool" : Str), .glo ("_law_next" : Str), .glo ("_law_runs" : Str), .glo ("_law_led" : Str), .glo ("law" : Str), .free ("int" : Str), .free ("len" : Str), .free ("max" : Str), .free ("range" : Str), .free ("sorted" : Str), .free ("sum" : Str), .free ("tuple" : Str)] : List He.Fa)
def cs : List (Str × D) := ([(("GAP" : Str), .str ("gap" : Str)), (("GLASS" : Str), .str ("glass" : Str)), (("MOST_PARTS" : Str), .int (4000))] : List (Str × D))
def fx : List Rg.Fx := ([] : List Rg.Fx)
abbrev R : PySem.W.OpenRow := PySem.W.OpenLaw.row PySem.Challenge.rw_roundglass_k52_whole_all_short_rows
abbrev hk : PySem.W.Hook := Rg.hookR 4 fx fa fn cs
def ob (s : PySem.W.SharedT) : Rg.AlR := Rg.obsRG 4 fx fa fn cs (HandSHeadRun.getT s)
theorem ob_eq (s : PySem.W.SharedT) : ob s = hk.obs s.abs := Rg.obsRG_eq (HandSHeadRun.getT_eq s)
def loose : List PySem.Str := (["GlassError", "NoWhole", "TooMany", "MOST_PARTS", "GAP", "GLASS", "whole_entries", "product", "run_entries", "product_of", "refuse_many", "turns_of", "mended_ahead", "blocks_of", "by_turns", "joined", "fewest", "_law_pool", "_law_next", "_law_led"] : List PySem.Str) ++ (["_law_told", "_law_runs", "_law_formed", "_law_behind", "_law_short"] : List PySem.Str)
theorem run (w : World) : HandSHeadRun.RunEq R (PySem.W.view R.prog [28]) hk ob 20000 loose w := by
  intro os
  kernel_rfl
theorem facts {w : World} {K : PySem.W.Frag} {h : Heap} {mg : Str → Option Value} {f : Addr} (X : K.In h) (G : h.Ns mainGlobals mg) (hfa : mg ("law" : Str) = some (.ref f)) (c : Rg.SaysR fx fa fn cs K) :
    ∃ fd : FuncData, (∀ (s : Shared) (v : Value), BindsTo s fd ⟨[v], []⟩ [("script", v)]) ∧ ∀ base : Heap, K.In base → base.Ns mainGlobals mg → FnOk PySem.Challenge.rw_roundglass_k52_whole_all_short_rows.prog w K mg base (L2.CX PySem.Challenge.rw_roundglass_k52_whole_all_short_rows.prog w) 5 f fd ["script"] (SpOf K (xvK K) m_law_k52) := by
  have f_l_behind : FAt K ("_law_behind" : Str) s_l_behind [] := c.f 0 0 (dvs := [])
  have f_l_short : FAt K ("_law_short" : Str) s_l_short [] := c.f 1 1 (dvs := [])
  have f_whole_entries : FAt K ("whole_entries" : Str) s_whole_entries [] := c.f 2 2 (dvs := [])
  have f_refuse_many : FAt K ("refuse_many" : Str) s_refuse_many [] := c.f 3 3 (dvs := [])
  have f_turns_of : FAt K ("turns_of" : Str) s_turns_of [] := c.f 4 4 (dvs := [])
  have f_mended_ahead : FAt K ("mended_ahead" : Str) s_mended_ahead [] := c.f 5 5 (dvs := [])
  have f_blocks_of : FAt K ("blocks_of" : Str) s_blocks_of [] := c.f 6 6 (dvs := [])
  have f_by_turns : FAt K ("by_turns" : Str) s_by_turns [] := c.f 7 7 (dvs := [])
  have f_product : FAt K ("product" : Str) s_product [] := c.f 8 8 (dvs := [])
  have f_run_entries : FAt K ("run_entries" : Str) s_run_entries [] := c.f 9 9 (dvs := [])
  have f_product_of : FAt K ("product_of" : Str) s_product_of [] := c.f 10 10 (dvs := [])
  have f_joined : FAt K ("joined" : Str) s_joined [] := c.f 11 11 (dvs := [])
  have f_fewest : FAt K ("fewest" : Str) s_fewest [] := c.f 12 12 (dvs := [])
  have f_l_told : FAt K ("_law_told" : Str) s_l_told [] := c.f 13 13 (dvs := [])
  have f_l_pool : FAt K ("_law_pool" : Str) s_l_pool [] := c.f 14 14 (dvs := [])
  have f_l_next : FAt K ("_law_next" : Str) s_l_next [] := c.f 15 15 (dvs := [])
  have f_l_runs : FAt K ("_law_runs" : Str) s_l_runs [] := c.f 16 16 (dvs := [])
  have f_l_led : FAt K ("_law_led" : Str) s_l_led [] := c.f 17 17 (dvs := [])
  have f_law : FAt K ("law" : Str) s_law [] := c.f 18 18 (dvs := [])
  exact Rg.law_end (ps := P_law) X G hfa f_law (fun _ _ _ _ _ _ _ => rfl) rfl fun base _ _ => law_ok (P := PySem.Challenge.rw_roundglass_k52_whole_all_short_rows.prog) (w := w) (base := base) (xv := (xvK K)) X G ⟨He.free_ok X G (c.d.fact 19 (f := .free ("int" : Str)) rfl), He.free_ok X G (c.d.fact 20 (f := .free ("len" : Str)) rfl), He.free_ok X G (c.d.fact 21 (f := .free ("max" : Str)) rfl), He.free_ok X G (c.d.fact 22 (f := .free ("range" : Str)) rfl), He.free_ok X G (c.d.fact 23 (f := .free ("sorted" : Str)) rfl), He.free_ok X G (c.d.fact 24 (f := .free ("sum" : Str)) rfl), He.free_ok X G (c.d.fact 25 (f := .free ("tuple" : Str)) rfl), c.c X G 0, c.c X G 1, c.c X G 2⟩ ⟨f_l_behind, f_l_short, f_whole_entries, f_refuse_many, f_turns_of, f_mended_ahead, f_blocks_of, f_by_turns, f_product, f_run_entries, f_product_of, f_joined, f_fewest, f_l_told, f_l_pool, f_l_next, f_l_runs, f_l_led, f_law⟩
end K52
open PySem PySem.W PySem.Calls PyProof.Rows
set_option maxHeartbeats 0 in
theorem PySem.Challenge.cw_roundglass_k52_whole_all_short_rows_holds : PySem.Challenge.rw_roundglass_k52_whole_all_short_rows.Holds := by
  w_on; o_law
  refine HandSHeadRun.head_any (r := OpenLaw.row PySem.Challenge.rw_roundglass_k52_whole_all_short_rows) (q := view (OpenLaw.row PySem.Challenge.rw_roundglass_k52_whole_all_short_rows).prog [28]) (H := K52.hk) (ob := K52.ob) (M := 20000) (loose := K52.loose) (d := HandSHeadRun.topDef (OpenLaw.row PySem.Challenge.rw_roundglass_k52_whole_all_short_rows).prog 28) (kwd := []) K52.ob_eq
    (by kernel_rfl) (fun s => by kernel_rfl) K52.run (by kernel_rfl) (by kernel_rfl) (by kernel_rfl) (by rfl) (by first | assumption | decide +kernel) (by decide +kernel) ⟨rfl, rfl, rfl, rfl, rfl, by decide +kernel⟩ ?hw ?hc
  case hw => w_witness2
  case hc =>
    refine Rg.walk_ofR (l := PySem.Challenge.rw_roundglass_k52_whole_all_short_rows) (n := 63) (k := 5) (x := "script") (CX := fun w => L2.CX PySem.Challenge.rw_roundglass_k52_whole_all_short_rows.prog w) rfl (by decide) (by kernel_rfl) ⟨rfl, by decide, by decide⟩ ?F (fun w H s e s' z => Rg.cx_no z)
    intro w mg fa h Y G hmg0
    obtain ⟨K, KX, c⟩ := Y
    have hmg : mg ("law" : PySem.Str) = some (.ref fa) := by
      have e : (HandSHeadRun.topDef (OpenLaw.row PySem.Challenge.rw_roundglass_k52_whole_all_short_rows).prog 28).name = ("law" : PySem.Str) := by kernel_rfl
      rw [← e]
      exact hmg0
    obtain ⟨fd, hb, hF⟩ := K52.facts (w := w) KX G hmg c
    exact ⟨K, fd, Rg.SpOf K (Rg.xvK K) Rg.m_law_k52, KX, hb, fun H a ns hl hbits hO hS => (K52.law_true ns hl hbits).elim fun S hS2 => Rg.law_sp hO hS S hS2, hF⟩

