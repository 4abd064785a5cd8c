import PyProof.Rows.All
import Wide.All
import OpenK.AllK
import Wide.FinOn
import HandS.ForMost
import HandS.ForExc
import HandS.TupAny
import HandS.FStr
import HandS.Small
import HandS.Conv
import HandS.IsInst
import HandS.Zip
import KE.GoesEnum
import HandS.Text
import HandS.SetKeys
import HandS.NoneIn
import HandS.DictComp
import KE.KDictPairs
import HandS.Words
import HandS.WordsExc
import HandS.Defaults
import KE.KStateDown
import Lean
import HandS.Head0
import HandS.Head1
import HandS.Head2
import HandS.HeadEnd
import HandS.HeadHook1
import HandS.HeadHook2
import PySem.Challenge.RW_planbyworths_k80_domains_written_and_rea
set_option Elab.async false
set_option linter.all false
set_option maxRecDepth 100000
namespace Ht
open PySem PySem.Spec PyProof.Rows L2
inductive D where
  | non | bl (b : Bool) | int (i : Int) | str (x : Str)
  | tup (ds : List D)
  | tupP (ds : List D)
  | lst (ds : List D) | dic (kvs : List (Key × D)) | ref (a : Addr)
  | scr (ns : List Int)
  | ty (n : String)
inductive Cell where
  | lst (ds : List D) | dic (kvs : List (Key × D)) | ins (C : Addr) (fs : List (Str × D))
abbrev Mp := Addr → Option Cell
def up (M : Mp) (a : Addr) (c : Cell) : Mp := fun b => if b = a then some c else M b
theorem up_same {M : Mp} {a : Addr} {c : Cell} : up M a c a = some c := by unfold up; rw [if_pos rfl]
theorem up_ne {M : Mp} {a b : Addr} {c : Cell} (h : b ≠ a) : up M a c b = M b := by unfold up; rw [if_neg h]
theorem up_up {M : Mp} {a : Addr} {c d : Cell} : up (up M a c) a d = up M a d := by
  funext b; unfold up; split <;> rfl
theorem mne {M : Mp} {a b : Addr} {c : Cell} (h : M a = some c) (h' : M b = none) : a ≠ b := fun e => by
  subst e; rw [h] at h'; cases h'
structure KZ where
  K : PySem.W.Frag
  Z : Addr → Prop
def Fz (K : KZ) (H : Hp) (M : Mp) (a : Addr) (o : HO) : Prop := M a = none ∧ ¬ K.Z a ∧ H a = some o
def TupW (K : PySem.W.Frag) (a : Addr) (xs : List V) : Prop :=
  ∃ (o : Obj) (its : Array Value) (n : Nat), K.lookup a = some o ∧ o.cls = .type "tuple" ∧ o.data = .seq its n ∧ its.size ≤ sizeLine ∧ Vals xs its.toList
def TupAt (K : KZ) (H : Hp) (M : Mp) (a : Addr) (xs : List V) : Prop := Fz K H M a (.tup xs) ∨ TupW K.K a xs
theorem TupAt.sq {K : KZ} {H : Hp} {M : Mp} {a : Addr} {xs : List V} (h : TupAt K H M a xs) : SqT K.K H a xs := by
  rcases h with ⟨_, _, h⟩ | h
  · exact .inl (.inl h)
  · exact .inr h
def LstW (K : PySem.W.Frag) (a : Addr) (xs : List V) : Prop :=
  ∃ (o : Obj) (its : Array Value) (n : Nat), K.lookup a = some o ∧ o.cls = .type "list" ∧ o.dict = none ∧ o.data = .seq its n ∧ its.size ≤ sizeLine ∧ Vals xs its.toList
def ScrAt (K : KZ) (H : Hp) (M : Mp) (a : Addr) (xs : List V) : Prop := (∃ o, Fz K H M a o ∧ (o = .lst xs ∨ ∃ b, o = .frz b (.lst xs))) ∨ LstW K.K a xs
theorem ScrAt.sq {K : KZ} {H : Hp} {M : Mp} {a : Addr} {xs : List V} (h : ScrAt K H M a xs) : SqL K.K H a xs := by
  rcases h with ⟨o, f, ho⟩ | h
  · rcases ho with ho | ⟨b, ho⟩
    · subst ho; exact .inl (.inl f.2.2)
    · subst ho; exact .inl (.inr ⟨b, f.2.2⟩)
  · exact .inr h
def TupB (K : KZ) (H : Hp) (M : Mp) (a : Addr) (xs : List V) : Prop := ∃ o : Obj, Fz K H M a (.frz o (.tup xs)) ∧ o.cls = .type "tuple" ∧ o.dict = none
theorem TupB.sq {K : KZ} {H : Hp} {M : Mp} {a : Addr} {xs : List V} (h : TupB K H M a xs) : SqT K.K H a xs := let ⟨o, h, _⟩ := h; .inl (.inr ⟨o, h.2.2⟩)
mutual
def Rep (K : KZ) (H : Hp) (M : Mp) : D → V → Prop
  | .non, v => v = .non
  | .bl b, v => v = .bl b
  | .int i, v => v = .int i
  | .str x, v => v = .str x
  | .ref a, v => v = .ref a
  | .ty n, v => v = .ty n
  | .scr ns, v => ∃ a, v = .ref a ∧ ScrAt K H M a (ns.map V.int)
  | .tup ds, v => ∃ a xs, v = .ref a ∧ TupAt K H M a xs ∧ Reps K H M ds xs
  | .tupP ds, v => ∃ a xs, v = .ref a ∧ TupB K H M a xs ∧ Reps K H M ds xs
  | .lst ds, v => ∃ a xs, v = .ref a ∧ Fz K H M a (.lst xs) ∧ Reps K H M ds xs
  | .dic kvs, v => ∃ a ys, v = .ref a ∧ Fz K H M a (.dK ys) ∧ RepKs K H M kvs ys
def Reps (K : KZ) (H : Hp) (M : Mp) : List D → List V → Prop
  | [], xs => xs = []
  | d :: ds, xs => ∃ x r, xs = x :: r ∧ Rep K H M d x ∧ Reps K H M ds r
def RepKs (K : KZ) (H : Hp) (M : Mp) : List (Key × D) → List (Key × V) → Prop
  | [], xs => xs = []
  | (k, d) :: ds, xs => ∃ x r, xs = (k, x) :: r ∧ Rep K H M d x ∧ RepKs K H M ds r
end
def RepFs (K : KZ) (H : Hp) (M : Mp) : List (Str × D) → List (Str × V) → Prop
  | [], xs => xs = []
  | (k, d) :: ds, xs => ∃ x r, xs = (k, x) :: r ∧ Rep K H M d x ∧ RepFs K H M ds r
def Grow (H : Hp) (M : Mp) (H' : Hp) (M' : Mp) : Prop := ∀ a o, H a = some o → M a = none → H' a = some o ∧ M' a = none
theorem Grow.refl (H : Hp) (M : Mp) : Grow H M H M := fun _ _ h m => ⟨h, m⟩
theorem Grow.trans {H H1 H2 : Hp} {M M1 M2 : Mp} (a : Grow H M H1 M1) (b : Grow H1 M1 H2 M2) : Grow H M H2 M2 := fun c o h m => let ⟨h1, m1⟩ := a c o h m; b c o h1 m1
def GrowX (Z : Addr → Prop) (H : Hp) (M : Mp) (H' : Hp) (M' : Mp) : Prop := ∀ a o, ¬ Z a → H a = some o → M a = none → H' a = some o ∧ M' a = none
theorem Grow.x {Z : Addr → Prop} {H H1 : Hp} {M M1 : Mp} (g : Grow H M H1 M1) : GrowX Z H M H1 M1 := fun a o _ h m => g a o h m
theorem GrowX.trans {Z : Addr → Prop} {H H1 H2 : Hp} {M M1 M2 : Mp} (a : GrowX Z H M H1 M1) (b : GrowX Z H1 M1 H2 M2) : GrowX Z H M H2 M2 := fun c o z h m => let ⟨h1, m1⟩ := a c o z h m; b c o z h1 m1
theorem Fz.growX {K : KZ} {H H1 : Hp} {M M1 : Mp} {a : Addr} {o : HO} (f : Fz K H M a o) (g : GrowX K.Z H M H1 M1) : Fz K H1 M1 a o := let ⟨m, z, h⟩ := f; let ⟨h', m'⟩ := g a o z h m; ⟨m', z, h'⟩
theorem TupAt.growX {K : KZ} {H H1 : Hp} {M M1 : Mp} {a : Addr} {xs : List V} (g : GrowX K.Z H M H1 M1) (h : TupAt K H M a xs) : TupAt K H1 M1 a xs := by
  rcases h with h | h
  · exact .inl (h.growX g)
  · exact .inr h
theorem ScrAt.growX {K : KZ} {H H1 : Hp} {M M1 : Mp} {a : Addr} {xs : List V} (g : GrowX K.Z H M H1 M1) (h : ScrAt K H M a xs) : ScrAt K H1 M1 a xs := by
  rcases h with ⟨o, f, ho⟩ | h
  · exact .inl ⟨o, f.growX g, ho⟩
  · exact .inr h
theorem TupB.growX {K : KZ} {H H1 : Hp} {M M1 : Mp} {a : Addr} {xs : List V} (g : GrowX K.Z H M H1 M1) (h : TupB K H M a xs) : TupB K H1 M1 a xs := let ⟨o, h, e⟩ := h; ⟨o, h.growX g, e⟩
theorem TupAt.grow {K : KZ} {H H1 : Hp} {M M1 : Mp} {a : Addr} {xs : List V} (g : Grow H M H1 M1) (h : TupAt K H M a xs) : TupAt K H1 M1 a xs := h.growX g.x
section
variable {K : KZ} {H H1 : Hp} {M M1 : Mp}
mutual
theorem Rep.growX (g : GrowX K.Z H M H1 M1) : ∀ {d : D} {v : V}, Rep K H M d v → Rep K H1 M1 d v
  | .non, _, r => r
  | .bl _, _, r => r
  | .int _, _, r => r
  | .str _, _, r => r
  | .ref _, _, r => r
  | .ty _, _, r => r
  | .tup _, _, ⟨a, xs, e, t, r⟩ => ⟨a, xs, e, t.growX g, Reps.growX g r⟩
  | .tupP _, _, ⟨a, xs, e, t, r⟩ => ⟨a, xs, e, t.growX g, Reps.growX g r⟩
  | .scr _, _, ⟨a, e, t⟩ => ⟨a, e, t.growX g⟩
  | .lst _, _, ⟨a, xs, e, t, r⟩ => ⟨a, xs, e, t.growX g, Reps.growX g r⟩
  | .dic _, _, ⟨a, xs, e, t, r⟩ => ⟨a, xs, e, t.growX g, RepKs.growX g r⟩
theorem Reps.growX (g : GrowX K.Z H M H1 M1) : ∀ {ds : List D} {xs : List V}, Reps K H M ds xs → Reps K H1 M1 ds xs
  | [], _, r => r
  | _ :: _, _, ⟨x, r, e, a, b⟩ => ⟨x, r, e, Rep.growX g a, Reps.growX g b⟩
theorem RepKs.growX (g : GrowX K.Z H M H1 M1) : ∀ {ds : List (Key × D)} {xs : List (Key × V)}, RepKs K H M ds xs → RepKs K H1 M1 ds xs
  | [], _, r => r
  | (_, _) :: _, _, ⟨x, r, e, a, b⟩ => ⟨x, r, e, Rep.growX g a, RepKs.growX g b⟩
end
theorem RepFs.growX (g : GrowX K.Z H M H1 M1) : ∀ {ds : List (Str × D)} {xs : List (Str × V)}, RepFs K H M ds xs → RepFs K H1 M1 ds xs
  | [], _, r => r
  | (_, _) :: _, _, ⟨x, r, e, a, b⟩ => ⟨x, r, e, Rep.growX g a, RepFs.growX g b⟩
theorem Rep.grow (g : Grow H M H1 M1) {d : D} {v : V} (r : Rep K H M d v) : Rep K H1 M1 d v := r.growX g.x
theorem Reps.grow (g : Grow H M H1 M1) {d : List D} {v : List V} (r : Reps K H M d v) : Reps K H1 M1 d v := r.growX g.x
theorem RepKs.grow (g : Grow H M H1 M1) {d : List (Key × D)} {v : List (Key × V)} (r : RepKs K H M d v) : RepKs K H1 M1 d v := r.growX g.x
theorem RepFs.grow (g : Grow H M H1 M1) {d : List (Str × D)} {v : List (Str × V)} (r : RepFs K H M d v) : RepFs K H1 M1 d v := r.growX g.x
theorem TupAt.zed {F : PySem.W.Frag} {Z Z' : Addr → Prop} (z : ∀ a o, H a = some o → ¬ Z a → ¬ Z' a) {a : Addr} {xs : List V} (t : TupAt ⟨F, Z⟩ H M a xs) : TupAt ⟨F, Z'⟩ H M a xs := by
  rcases t with f | t
  · exact .inl ⟨f.1, z a _ f.2.2 f.2.1, f.2.2⟩
  · exact .inr t
mutual
theorem Rep.zed {F : PySem.W.Frag} {Z Z' : Addr → Prop} (z : ∀ a o, H a = some o → ¬ Z a → ¬ Z' a) : ∀ {d : D} {v : V}, Rep ⟨F, Z⟩ H M d v → Rep ⟨F, Z'⟩ H M d v
  | .non, _, r => r
  | .bl _, _, r => r
  | .int _, _, r => r
  | .str _, _, r => r
  | .ref _, _, r => r
  | .ty _, _, r => r
  | .tup _, _, ⟨a, xs, e, t, r⟩ => ⟨a, xs, e, t.imp (fun f => ⟨f.1, z a _ f.2.2 f.2.1, f.2.2⟩) id, Reps.zed z r⟩
  | .tupP _, _, ⟨a, xs, e, ⟨o, f, t⟩, r⟩ => ⟨a, xs, e, ⟨o, ⟨f.1, z a _ f.2.2 f.2.1, f.2.2⟩, t⟩, Reps.zed z r⟩
  | .scr _, _, ⟨a, e, t⟩ => ⟨a, e, t.imp (fun ⟨o, f, h⟩ => ⟨o, ⟨f.1, z a _ f.2.2 f.2.1, f.2.2⟩, h⟩) id⟩
  | .lst _, _, ⟨a, xs, e, f, r⟩ => ⟨a, xs, e, ⟨f.1, z a _ f.2.2 f.2.1, f.2.2⟩, Reps.zed z r⟩
  | .dic _, _, ⟨a, xs, e, f, r⟩ => ⟨a, xs, e, ⟨f.1, z a _ f.2.2 f.2.1, f.2.2⟩, RepKs.zed z r⟩
theorem Reps.zed {F : PySem.W.Frag} {Z Z' : Addr → Prop} (z : ∀ a o, H a = some o → ¬ Z a → ¬ Z' a) : ∀ {ds : List D} {xs : List V}, Reps ⟨F, Z⟩ H M ds xs → Reps ⟨F, Z'⟩ H M ds xs
  | [], _, r => r
  | _ :: _, _, ⟨x, r, e, a, b⟩ => ⟨x, r, e, Rep.zed z a, Reps.zed z b⟩
theorem RepKs.zed {F : PySem.W.Frag} {Z Z' : Addr → Prop} (z : ∀ a o, H a = some o → ¬ Z a → ¬ Z' a) : ∀ {ds : List (Key × D)} {xs : List (Key × V)}, RepKs ⟨F, Z⟩ H M ds xs → RepKs ⟨F, Z'⟩ H M ds xs
  | [], _, r => r
  | (_, _) :: _, _, ⟨x, r, e, a, b⟩ => ⟨x, r, e, Rep.zed z a, RepKs.zed z b⟩
end
theorem RepFs.zed {F : PySem.W.Frag} {Z Z' : Addr → Prop} (z : ∀ a o, H a = some o → ¬ Z a → ¬ Z' a) : ∀ {ds : List (Str × D)} {xs : List (Str × V)}, RepFs ⟨F, Z⟩ H M ds xs → RepFs ⟨F, Z'⟩ H M ds xs
  | [], _, r => r
  | (_, _) :: _, _, ⟨x, r, e, a, b⟩ => ⟨x, r, e, Rep.zed z a, RepFs.zed z b⟩
theorem Reps.len : ∀ {ds : List D} {xs : List V}, Reps K H M ds xs → xs.length = ds.length
  | [], _, r => by cases r; rfl
  | _ :: _, _, ⟨x, r, e, a, b⟩ => by subst e; simp [Reps.len b]
theorem Reps.get : ∀ {ds : List D} {xs : List V} {i : Nat} {d : D}, Reps K H M ds xs → ds[i]? = some d → ∃ x, xs[i]? = some x ∧ Rep K H M d x
  | [], _, _, _, _, e => by simp at e
  | _ :: _, _, 0, _, ⟨x, r, e, a, b⟩, q => by
    subst e; simp at q; subst q; exact ⟨x, rfl, a⟩
  | _ :: _, _, i + 1, d, ⟨x, r, e, a, b⟩, q => by
    subst e
    obtain ⟨y, h1, h2⟩ := Reps.get (i := i) (d := d) b (by simpa using q)
    exact ⟨y, by simpa using h1, h2⟩
theorem Reps.get' {ds : List D} {xs : List V} (r : Reps K H M ds xs) {i : Nat} {x : V} (h : xs[i]? = some x) : ∃ d, ds[i]? = some d ∧ Rep K H M d x := by
  have l := r.len
  have hi : i < xs.length := (List.getElem?_eq_some_iff.mp h).1
  have hd : i < ds.length := by omega
  obtain ⟨y, h1, h2⟩ := r.get (i := i) (d := ds[i]) (by simp [hd])
  rw [h] at h1; cases h1
  exact ⟨_, by simp [hd], h2⟩
theorem Reps.append : ∀ {ds es : List D} {xs ys : List V}, Reps K H M ds xs → Reps K H M es ys → Reps K H M (ds ++ es) (xs ++ ys)
  | [], _, _, _, a, b => by cases a; exact b
  | _ :: _, _, _, _, ⟨x, r, e, a, b⟩, c => by subst e; exact ⟨x, r ++ _, rfl, a, Reps.append b c⟩
theorem Reps.one {d : D} {v : V} (r : Rep K H M d v) : Reps K H M [d] [v] := ⟨v, [], rfl, r, rfl⟩
theorem Reps.take : ∀ {ds : List D} {xs : List V} (n : Nat), Reps K H M ds xs → Reps K H M (ds.take n) (xs.take n)
  | _, _, 0, _ => rfl
  | [], _, _ + 1, r => by cases r; rfl
  | _ :: _, _, n + 1, ⟨x, r, e, a, b⟩ => by subst e; exact ⟨x, _, rfl, a, Reps.take n b⟩
theorem Reps.drop : ∀ {ds : List D} {xs : List V} (n : Nat), Reps K H M ds xs → Reps K H M (ds.drop n) (xs.drop n)
  | _, _, 0, r => r
  | [], _, _ + 1, r => by cases r; rfl
  | _ :: _, _, n + 1, ⟨x, r, e, a, b⟩ => by subst e; exact Reps.drop n b
theorem Reps.reverse : ∀ {ds : List D} {xs : List V}, Reps K H M ds xs → Reps K H M ds.reverse xs.reverse
  | [], _, r => by cases r; rfl
  | _ :: _, _, ⟨x, r, e, a, b⟩ => by subst e; rw [List.reverse_cons, List.reverse_cons]; exact (Reps.reverse b).append (.one a)
theorem Reps.dropLast {ds : List D} {xs : List V} (r : Reps K H M ds xs) : Reps K H M ds.dropLast xs.dropLast := by
  rw [List.dropLast_eq_take, List.dropLast_eq_take, r.len]; exact r.take _
theorem Reps.set {d : D} {v : V} (q : Rep K H M d v) : ∀ {ds : List D} {xs : List V} (i : Nat), Reps K H M ds xs → Reps K H M (ds.set i d) (xs.set i v)
  | [], _, _, r => by cases r; rfl
  | _ :: _, _, 0, ⟨x, r, e, a, b⟩ => by subst e; exact ⟨v, r, rfl, q, b⟩
  | _ :: _, _, i + 1, ⟨x, r, e, a, b⟩ => by subst e; exact ⟨x, _, rfl, a, Reps.set q i b⟩
theorem Reps.eraseIdx : ∀ {ds : List D} {xs : List V} (i : Nat), Reps K H M ds xs → Reps K H M (ds.eraseIdx i) (xs.eraseIdx i)
  | [], _, _, r => by cases r; rfl
  | _ :: _, _, 0, ⟨x, r, e, a, b⟩ => by subst e; exact b
  | _ :: _, _, i + 1, ⟨x, r, e, a, b⟩ => by subst e; exact ⟨x, _, rfl, a, Reps.eraseIdx i b⟩
theorem Reps.map {α : Type} {f : α → D} {g : α → V} : ∀ {l : List α}, (∀ a ∈ l, Rep K H M (f a) (g a)) → Reps K H M (l.map f) (l.map g)
  | [], _ => rfl
  | a :: r, h => ⟨_, _, rfl, h a List.mem_cons_self, Reps.map fun b hb => h b (List.mem_cons_of_mem _ hb)⟩
end
def CellOk (K : KZ) (H : Hp) (M : Mp) (a : Addr) : Cell → Prop
  | .lst ds => ∃ xs, H a = some (.lst xs) ∧ Reps K H M ds xs
  | .dic kvs => ∃ ys, H a = some (.dK ys) ∧ RepKs K H M kvs ys
  | .ins C fs => ∃ dx vs, H a = some (.ins C dx vs) ∧ RepFs K H M fs vs
structure AbsM (K : KZ) (H : Hp) (M : Mp) : Prop where
  cell : ∀ a c, M a = some c → CellOk K H M a c
  hid : ∀ a, K.Z a → M a = none ∧ ∃ o, H a = some o
section
variable {K : KZ} {H H1 : Hp} {M M1 : Mp}
theorem AbsM.there (A : AbsM K H M) {a : Addr} {c : Cell} (h : M a = some c) : ∃ o, H a = some o := by
  have q := A.cell a c h
  cases c with
  | lst ds => obtain ⟨xs, e, _⟩ := q; exact ⟨_, e⟩
  | dic ds => obtain ⟨xs, e, _⟩ := q; exact ⟨_, e⟩
  | ins C fs => obtain ⟨dx, vs, e, _⟩ := q; exact ⟨_, e⟩
theorem AbsM.none (A : AbsM K H M) {a : Addr} (h : H a = none) : M a = none := by
  cases e : M a with
  | none => rfl
  | some c => obtain ⟨o, q⟩ := A.there e; rw [h] at q; cases q
theorem AbsM.noz (A : AbsM K H M) {a : Addr} (h : H a = Option.none) : ¬ K.Z a := fun z => by
  obtain ⟨_, o, q⟩ := A.hid a z
  rw [h] at q; cases q
theorem AbsM.nozM (A : AbsM K H M) {a : Addr} {c : Cell} (h : M a = some c) : ¬ K.Z a := fun z => by
  rw [(A.hid a z).1] at h; cases h
theorem AbsM.fz (A : AbsM K H M) {p : Addr} {o : HO} (n : H p = Option.none) : Fz K (upd H p o) M p o := ⟨A.none n, A.noz n, upd_same⟩
theorem CellOk.growX (g : GrowX K.Z H M H1 M1) {a : Addr} {c : Cell} (h : CellOk K H M a c) (e : H1 a = H a) : CellOk K H1 M1 a c := by
  cases c with
  | lst ds => obtain ⟨xs, q, r⟩ := h; exact ⟨xs, e.trans q, r.growX g⟩
  | dic ds => obtain ⟨xs, q, r⟩ := h; exact ⟨xs, e.trans q, r.growX g⟩
  | ins C fs => obtain ⟨dx, vs, q, r⟩ := h; exact ⟨dx, vs, e.trans q, r.growX g⟩
theorem Grow.new (A : AbsM K H M) {p : Addr} {o : HO} (n : H p = Option.none) : Grow H M (upd H p o) M := fun a u h m => ⟨by rw [upd_ne (ne_of_none h n)]; exact h, m⟩
theorem AbsM.new (A : AbsM K H M) {p : Addr} {o : HO} (n : H p = Option.none) : AbsM K (upd H p o) M := ⟨fun a c h => by
    have hp : a ≠ p := by
      obtain ⟨u, q⟩ := A.there h
      exact ne_of_none q n
    exact (A.cell a c h).growX (Grow.new A n).x (upd_ne hp), fun a z => ⟨(A.hid a z).1, let ⟨o, q⟩ := (A.hid a z).2; ⟨o, by rw [upd_ne (ne_of_none q n)]; exact q⟩⟩⟩
theorem Grow.newM (A : AbsM K H M) {p : Addr} {o : HO} {c : Cell} (n : H p = Option.none) : Grow H M (upd H p o) (up M p c) := fun a u h m =>
  have q := ne_of_none h n
  ⟨by rw [upd_ne q]; exact h, by rw [up_ne q]; exact m⟩
theorem AbsM.newM (A : AbsM K H M) {p : Addr} {o : HO} {c : Cell} (n : H p = Option.none) (k : CellOk K (upd H p o) (up M p c) p c) : AbsM K (upd H p o) (up M p c) := ⟨fun a d h => by
    by_cases e : a = p
    · subst e; rw [up_same] at h; cases h; exact k
    · rw [up_ne e] at h
      exact (A.cell a d h).growX (Grow.newM A n).x (upd_ne e), fun a z => by
    obtain ⟨m, o', q⟩ := A.hid a z
    have e := ne_of_none q n
    exact ⟨by rw [up_ne e]; exact m, o', by rw [upd_ne e]; exact q⟩⟩
theorem Grow.write {p : Addr} {o : HO} {c c0 : Cell} (h0 : M p = some c0) : Grow H M (upd H p o) (up M p c) := fun a u h m =>
  have q : a ≠ p := fun e => by subst e; rw [h0] at m; cases m
  ⟨by rw [upd_ne q]; exact h, by rw [up_ne q]; exact m⟩
theorem AbsM.write (A : AbsM K H M) {p : Addr} {o : HO} {c c0 : Cell} (h0 : M p = some c0) (k : CellOk K (upd H p o) (up M p c) p c) : AbsM K (upd H p o) (up M p c) := ⟨fun a d h => by
    by_cases e : a = p
    · subst e; rw [up_same] at h; cases h; exact k
    · rw [up_ne e] at h
      exact (A.cell a d h).growX (Grow.write h0).x (upd_ne e), fun a z => by
    obtain ⟨m, o', q⟩ := A.hid a z
    have e : a ≠ p := fun e => by subst e; rw [h0] at m; cases m
    exact ⟨by rw [up_ne e]; exact m, o', by rw [upd_ne e]; exact q⟩⟩
theorem AbsM.writeZ (A : AbsM K H M) {p : Addr} {o : HO} (z : K.Z p) : AbsM K (upd H p o) M := ⟨fun a d h => by
    have e : a ≠ p := fun e => by subst e; exact A.nozM h z
    exact (A.cell a d h).growX (fun b u nz q m => ⟨by rw [upd_ne (fun e => by subst e; exact nz z)]; exact q, m⟩) (upd_ne e), fun a z2 => by
    obtain ⟨m, o', q⟩ := A.hid a z2
    by_cases e : a = p
    · subst e; exact ⟨m, _, upd_same⟩
    · exact ⟨m, o', by rw [upd_ne e]; exact q⟩⟩
theorem GrowX.writeZ {Z : Addr → Prop} {p : Addr} {o : HO} (z : Z p) : GrowX Z H M (upd H p o) M := fun b u nz q m => ⟨by rw [upd_ne (fun e => by subst e; exact nz z)]; exact q, m⟩
end
section
variable {F : PySem.W.Frag} {Z Z' : Addr → Prop} {H : Hp} {M : Mp}
theorem CellOk.zed (z : ∀ a o, H a = some o → ¬ Z a → ¬ Z' a) {a : Addr} {c : Cell} (h : CellOk ⟨F, Z⟩ H M a c) : CellOk ⟨F, Z'⟩ H M a c := by
  cases c with
  | lst ds => obtain ⟨xs, q, r⟩ := h; exact ⟨xs, q, r.zed z⟩
  | dic ds => obtain ⟨xs, q, r⟩ := h; exact ⟨xs, q, r.zed z⟩
  | ins C fs => obtain ⟨dx, vs, q, r⟩ := h; exact ⟨dx, vs, q, r.zed z⟩
end
abbrev SD := List (Option D)
abbrev VD := D → Mp → Prop
abbrev DE_ := SD → Mp → VD → Prop
abbrev DT_ := SD → Mp → (Bool → Mp → Prop) → Prop
abbrev DA_ := SD → Mp → (List D → Mp → Prop) → Prop
structure EndsD where
  nx : SD → Mp → Prop
  rt : VD
  bk : SD → Mp → Prop := fun _ _ => False
  ct : SD → Mp → Prop := fun _ _ => False
abbrev DS_ := EndsD → SD → Mp → Prop
structure Abs (K : KZ) (σ : L2.St) (H : Hp) (δ : SD) (M : Mp) : Prop where
  mem : AbsM K H M
  len : δ.length = σ.length
  sl : ∀ (i : Nat) (d : D), δ[i]? = some (some d) → ∃ v, σ[i]? = some (some v) ∧ Rep K H M d v
theorem Abs.grow {K : KZ} {σ : L2.St} {H H1 : Hp} {δ : SD} {M M1 : Mp} (a : Abs K σ H δ M) (g : Grow H M H1 M1) (m : AbsM K H1 M1) : Abs K σ H1 δ M1 :=
  ⟨m, a.len, fun i d h => let ⟨v, e, r⟩ := a.sl i d h; ⟨v, e, r.grow g⟩⟩
def Up (K : PySem.W.Frag) (t : DE_) : TE := fun σ H Q => ∃ Z δ M Q', Abs ⟨K, Z⟩ σ H δ M ∧ t δ M Q' ∧ ∀ v d H' M', Grow H M H' M' → AbsM ⟨K, Z⟩ H' M' → Rep ⟨K, Z⟩ H' M' d v → Q' d M' → Q v H'
def UpT (K : PySem.W.Frag) (t : DT_) : TT := fun σ H Q => ∃ Z δ M Q', Abs ⟨K, Z⟩ σ H δ M ∧ t δ M Q' ∧ ∀ b H' M', Grow H M H' M' → AbsM ⟨K, Z⟩ H' M' → Q' b M' → Q b H'
def UpA (K : PySem.W.Frag) (t : DA_) : TA := fun σ H Q => ∃ Z δ M Q', Abs ⟨K, Z⟩ σ H δ M ∧ t δ M Q' ∧ ∀ vs ds H' M', Grow H M H' M' → AbsM ⟨K, Z⟩ H' M' → Reps ⟨K, Z⟩ H' M' ds vs → Q' ds M' → Q vs H'
structure EndsOk (K : KZ) (H : Hp) (M : Mp) (E' : EndsD) (E : Ends) : Prop where
  nx : ∀ σ' H' δ' M', Grow H M H' M' → Abs K σ' H' δ' M' → E'.nx δ' M' → E.nx σ' H'
  rt : ∀ v d H' M', Grow H M H' M' → AbsM K H' M' → Rep K H' M' d v → E'.rt d M' → E.rt v H'
  bk : ∀ σ' H' δ' M', Grow H M H' M' → Abs K σ' H' δ' M' → E'.bk δ' M' → E.bk σ' H'
  ct : ∀ σ' H' δ' M', Grow H M H' M' → Abs K σ' H' δ' M' → E'.ct δ' M' → E.ct σ' H'
theorem EndsOk.grow {K : KZ} {H H1 : Hp} {M M1 : Mp} {E' : EndsD} {E : Ends} (k : EndsOk K H M E' E) (g : Grow H M H1 M1) : EndsOk K H1 M1 E' E :=
  ⟨fun a b c d h => k.nx a b c d (g.trans h), fun a b c d h => k.rt a b c d (g.trans h), fun a b c d h => k.bk a b c d (g.trans h), fun a b c d h => k.ct a b c d (g.trans h)⟩
def UpS (K : PySem.W.Frag) (t : DS_) : TS := fun E σ H => ∃ Z δ M E', Abs ⟨K, Z⟩ σ H δ M ∧ t E' δ M ∧ EndsOk ⟨K, Z⟩ H M E' E
abbrev DE (X : Cx) (e : Expr) (t : DE_) : Prop := PE X e (Up X.K t)
abbrev DT (X : Cx) (e : Expr) (t : DT_) : Prop := PT X e (UpT X.K t)
abbrev DW (X : Cx) (e : Expr) (t : DT_) : Prop := PW X e (UpT X.K t)
abbrev DA (X : Cx) (es : List Expr) (t : DA_) : Prop := PA X es (UpA X.K t)
abbrev DS (X : Cx) (st : Stmt) (t : DS_) : Prop := PS X st (UpS X.K t)
abbrev DSs (X : Cx) (sts : List Stmt) (t : DS_) : Prop := PSs X sts (UpS X.K t)
theorem PE.imp {X : Cx} {e : Expr} {t t2 : TE} (h : PE X e t) (k : ∀ σ H Q, t2 σ H Q → t σ H Q) : PE X e t2 := ⟨fun pins s σ H Q I hw => h.run pins s σ H Q I (k _ _ _ hw)⟩
theorem PT.imp {X : Cx} {e : Expr} {t t2 : TT} (h : PT X e t) (k : ∀ σ H Q, t2 σ H Q → t σ H Q) : PT X e t2 := ⟨fun pins s σ H Q I hw => h.run pins s σ H Q I (k _ _ _ hw)⟩
theorem PW.imp {X : Cx} {e : Expr} {t t2 : TT} (h : PW X e t) (k : ∀ σ H Q, t2 σ H Q → t σ H Q) : PW X e t2 := ⟨fun wh pins s σ H Q I hw => h.run wh pins s σ H Q I (k _ _ _ hw)⟩
theorem PA.imp {X : Cx} {e : List Expr} {t t2 : TA} (h : PA X e t) (k : ∀ σ H Q, t2 σ H Q → t σ H Q) : PA X e t2 := ⟨fun pos pins s σ H Q I hw => h.run pos pins s σ H Q I (k _ _ _ hw)⟩
theorem PS.imp {X : Cx} {e : Stmt} {t t2 : TS} (h : PS X e t) (k : ∀ E σ H, t2 E σ H → t E σ H) : PS X e t2 := ⟨fun pins s σ H E I hw => h.run pins s σ H E I (k _ _ _ hw)⟩
theorem PSs.imp {X : Cx} {e : List Stmt} {t t2 : TS} (h : PSs X e t) (k : ∀ E σ H, t2 E σ H → t E σ H) : PSs X e t2 := ⟨fun pins s σ H E I hw => h.run pins s σ H E I (k _ _ _ hw)⟩
end Ht
set_option Elab.async false
set_option linter.all false
set_option maxRecDepth 100000
namespace Ht
open PySem PySem.Spec PyProof.Rows L2
section
variable {X : Cx} {a b c e : Expr} {es : List Expr} {ta tb tc te : DE_} {t : DA_} {pos : Pos}
def dVar (i : Nat) : DE_ := fun δ M Q => ∃ d, δ[i]? = some (some d) ∧ Q d M
theorem de_var (i : Nat) {x : Str} (hN : X.N[i]? = some x := by rfl) (hv : Vis X.env.scope x := by first | exact Or.inl rfl | exact Or.inr (Or.inl rfl) | exact Or.inr (Or.inr rfl)) (hd : (x == ("__debug__" : Str)) = false := by decide)
    (hcd : (x == ("__classdict__" : Str)) = false := by decide) : DE X (.Name x pos) (dVar i) :=
  PE.imp (pe_var hN hv hd hcd) fun σ H Q ⟨Z, δ, M, Q', A, ⟨d, e, q⟩, k⟩ => let ⟨v, e2, r⟩ := A.sl i d e; ⟨v, e2, k v d H M (Grow.refl _ _) A.mem r q⟩
def dC (d : D) : DE_ := fun _ M Q => Q d M
theorem de_c {v : V} {d : D} (h : PE X e (tC v)) (r : ∀ Z H M, Rep ⟨X.K, Z⟩ H M d v) : DE X e (dC d) :=
  PE.imp h fun σ H Q ⟨Z, δ, M, Q', A, q, k⟩ => k v d H M (Grow.refl _ _) A.mem (r _ H M) q
theorem de_int {i : Int} {j : Nat} : DE X (.Constant (.int i) j pos) (dC (.int i)) := de_c pe_int fun _ _ _ => rfl
theorem de_bl {i : Bool} {j : Nat} : DE X (.Constant (.bool i) j pos) (dC (.bl i)) := de_c pe_bl fun _ _ _ => rfl
theorem de_non {j : Nat} : DE X (.Constant .none j pos) (dC .non) := de_c pe_non fun _ _ _ => rfl
theorem de_str {x : Str} {j : Nat} : DE X (.Constant (.str x) j pos) (dC (.str x)) := de_c pe_str fun _ _ _ => rfl
structure GlobD (K : PySem.W.Frag) (mg : Str → Option Value) (x : Str) (d : D) : Prop where
  ex : ∃ u v, mg x = some u ∧ RelV v u ∧ ∀ Z H M, Rep ⟨K, Z⟩ H M d v
theorem de_glob {x : Str} {d : D} (h : GlobD X.K X.mg x d) (hg : Gl X x := by rfl) (hd : (x == ("__debug__" : Str)) = false := by decide) : DE X (.Name x pos) (dC d) := by
  obtain ⟨u, v, hm, r, h⟩ := h
  exact de_c (pe_glob hg hm r hd) h
def dNil : DA_ := fun _ M Q => Q [] M
def dCons (ta : DE_) (tr : DA_) : DA_ := fun δ M Q => ta δ M fun x M1 => tr δ M1 fun xs M2 => Q (x :: xs) M2
theorem da_nil : DA X [] dNil := PA.imp pa_nil fun σ H Q ⟨Z, δ, M, Q', A, q, k⟩ => k [] [] H M (Grow.refl _ _) A.mem rfl q
theorem da_cons (ha : DE X e te) (hr : DA X es t) (hs : starEach (e :: es) X.env = (false, eval e X.env) :: starEach es X.env := by rfl) : DA X (e :: es) (dCons te t) :=
  PA.imp (pa_cons ha hr hs) fun σ H Q ⟨Z, δ, M, Q', A, q, k⟩ =>
    ⟨Z, δ, M, _, A, q, fun v d H1 M1 g1 m1 r1 q1 => ⟨Z, δ, M1, _, A.grow g1 m1, q1, fun vs ds H2 M2 g2 m2 r2 q2 => k (v :: vs) (d :: ds) H2 M2 (g1.trans g2) m2 ⟨v, vs, rfl, r1.grow g2, r2⟩ q2⟩⟩
def dTup (t : DA_) : DE_ := fun δ M Q => t δ M fun ds M1 => ds.length ≤ sizeLine ∧ Q (.tup ds) M1
def dLstO (t : DA_) : DE_ := fun δ M Q => t δ M fun ds M1 => ds.length ≤ sizeLine ∧ ∀ p, M1 p = none → Q (.ref p) (up M1 p (.lst ds))
def dLst (t : DA_) : DE_ := fun δ M Q => t δ M fun ds M1 => ds.length ≤ sizeLine ∧ Q (.lst ds) M1
theorem rep_newT {K : KZ} {H : Hp} {M : Mp} {p : Addr} {ds : List D} {vs : List V} (m : AbsM K H M) (np : H p = none) (r : Reps K H M ds vs) : Rep K (upd H p (.tup vs)) M (.tup ds) (.ref p) :=
  ⟨p, vs, rfl, .inl (m.fz np), r.grow (Grow.new m np)⟩
theorem rep_newL {K : KZ} {H : Hp} {M : Mp} {p : Addr} {ds : List D} {vs : List V} (m : AbsM K H M) (np : H p = none) (r : Reps K H M ds vs) : Rep K (upd H p (.lst vs)) M (.lst ds) (.ref p) :=
  ⟨p, vs, rfl, m.fz np, r.grow (Grow.new m np)⟩
theorem abs_newL {K : KZ} {H : Hp} {M : Mp} {p : Addr} {ds : List D} {vs : List V} (m : AbsM K H M) (np : H p = none) (r : Reps K H M ds vs) : AbsM K (upd H p (.lst vs)) (up M p (.lst ds)) :=
  m.newM np ⟨vs, upd_same, r.grow (Grow.newM m np)⟩
theorem de_tup {x1 : Nat} (h : DA X es t) : DE X (.Tuple es x1 pos) (dTup t) :=
  PE.imp (pe_tup h) fun σ H Q ⟨Z, δ, M, Q', A, q, k⟩ => ⟨Z, δ, M, _, A, q, fun vs ds H1 M1 g m r ⟨hz, q⟩ => ⟨r.len ▸ hz, fun p np =>
    k (.ref p) (.tup ds) _ M1 (g.trans (Grow.new m np)) (m.new np) (rep_newT m np r) q⟩⟩
theorem de_lstO (h : DA X es t) : DE X (.List es pos) (dLstO t) :=
  PE.imp (pe_lst h) fun σ H Q ⟨Z, δ, M, Q', A, q, k⟩ => ⟨Z, δ, M, _, A, q, fun vs ds H1 M1 g m r ⟨hz, q⟩ => ⟨r.len ▸ hz, fun p np =>
    k (.ref p) (.ref p) _ _ (g.trans (Grow.newM m np)) (abs_newL m np r) rfl (q p (m.none np))⟩⟩
theorem de_lst (h : DA X es t) : DE X (.List es pos) (dLst t) :=
  PE.imp (pe_lst h) fun σ H Q ⟨Z, δ, M, Q', A, q, k⟩ => ⟨Z, δ, M, _, A, q, fun vs ds H1 M1 g m r ⟨hz, q⟩ => ⟨r.len ▸ hz, fun p np =>
    k (.ref p) (.lst ds) _ M1 (g.trans (Grow.new m np)) (m.new np) (rep_newL m np r) q⟩⟩
abbrev R2D := D → D → Mp → VD → Prop
def dOp (r : R2D) (ta tb : DE_) : DE_ := fun δ M Q => ta δ M fun x M1 => tb δ M1 fun y M2 => r x y M2 Q
def UpR (K : PySem.W.Frag) (r : R2D) : R2 := fun x y H Q => ∃ Z dx dy M Q', AbsM ⟨K, Z⟩ H M ∧ Rep ⟨K, Z⟩ H M dx x ∧ Rep ⟨K, Z⟩ H M dy y ∧ r dx dy M Q' ∧ ∀ v d H' M', Grow H M H' M' → AbsM ⟨K, Z⟩ H' M' → Rep ⟨K, Z⟩ H' M' d v → Q' d M' → Q v H'
abbrev OpD (X : Cx) (f : Value → Value → Sem Value) (r : R2D) : Prop := OpR X f (UpR X.K r)
theorem OpR.imp {f : Value → Value → Sem Value} {r r2 : R2} (h : OpR X f r) (k : ∀ x y H Q, r2 x y H Q → r x y H Q) : OpR X f r2 := fun pins s σ H x y v u Q I rx ry q => h pins s σ H x y v u Q I rx ry (k _ _ _ _ q)
theorem dOp_up {K : PySem.W.Frag} {r : R2D} {σ : L2.St} {H : Hp} {Q : VK} (h : Up K (dOp r ta tb) σ H Q) : tOp (UpR K r) (Up K ta) (Up K tb) σ H Q :=
  let ⟨Z, δ, M, Q', A, q, k⟩ := h
  ⟨Z, δ, M, _, A, q, fun v d H1 M1 g m rp q => ⟨Z, δ, M1, _, A.grow g m, q, fun v2 d2 H2 M2 g2 m2 rp2 q2 => ⟨Z, d, d2, M2, Q', m2, rp.grow g2, rp2, q2, fun v3 d3 H3 M3 g3 m3 r3 q3 => k v3 d3 H3 M3 ((g.trans g2).trans g3) m3 r3 q3⟩⟩⟩
theorem de_op {op : Operator} {r : R2D} (ho : OpD X (binaryOp op) r) (ha : DE X a ta) (hb : DE X b tb) : DE X (.BinOp a op b pos) (dOp r ta tb) := PE.imp (pe_op ho ha hb) fun _ _ _ => dOp_up
theorem de_cmp {op : CmpOp} {r : R2D} (ho : OpD X (compareOp op) r) (ha : DE X a ta) (hb : DE X b tb) (hm : behindInMarks op b = false := by first | exact nomark _ | with_unfolding_all rfl) : DE X (.Compare a [op] [b] pos) (dOp r ta tb) := PE.imp (pe_cmpR ho ha hb hm) fun _ _ _ => dOp_up
def dTest (t : DE_) : DT_ := fun δ M Q => t δ M fun x M' => ∃ k, x = .bl k ∧ Q k M'
theorem dTest_up {K : PySem.W.Frag} {t : DE_} {σ : L2.St} {H : Hp} {Q : Bool → Hp → Prop} (h : UpT K (dTest t) σ H Q) : tTest (Up K t) σ H Q :=
  let ⟨Z, δ, M, Q', A, q, k⟩ := h
  ⟨Z, δ, M, _, A, q, fun v d H1 M1 g m rp ⟨b, e, q⟩ => ⟨b, by subst e; exact rp, k b H1 M1 g m q⟩⟩
theorem tTest_mono {t t2 : TE} (h : ∀ σ H Q, t2 σ H Q → t σ H Q) : ∀ σ H Q, tTest t2 σ H Q → tTest t σ H Q := fun σ H _ q => h σ H _ q
theorem dt_cmp {op : CmpOp} {r : R2D} (ho : OpD X (compareOp op) r) (ha : DE X a ta) (hb : DE X b tb) (hm : behindInMarks op b = false := by first | exact nomark _ | with_unfolding_all rfl) : DT X (.Compare a [op] [b] pos) (dTest (dOp r ta tb)) :=
  PT.imp (pt_cmpR ho ha hb hm) fun σ H Q h => tTest_mono (fun _ _ _ => dOp_up) σ H Q (dTest_up h)
def dChain (r r' : R2D) (ta tb tc : DE_) : DE_ := fun δ M Q => ta δ M fun x M1 => tb δ M1 fun y M2 => r x y M2 fun z M3 => ∃ k, z = .bl k ∧ (if k = true then tc δ M3 fun w M4 => r' y w M4 Q else Q (.bl false) M3)
theorem dChain_up {K : PySem.W.Frag} {r r' : R2D} {σ : L2.St} {H : Hp} {Q : VK} (h : Up K (dChain r r' ta tb tc) σ H Q) : tChain (UpR K r) (UpR K r') (Up K ta) (Up K tb) (Up K tc) σ H Q := by
  obtain ⟨Z, δ, M, Q', A, q, k⟩ := h
  refine ⟨Z, δ, M, _, A, q, fun v d H1 M1 g m rp q => ⟨Z, δ, M1, _, A.grow g m, q, fun v2 d2 H2 M2 g2 m2 rp2 q2 => ⟨Z, d, d2, M2, _, m2, rp.grow g2, rp2, q2, fun v3 d3 H3 M3 g3 m3 r3 ⟨b, e, q3⟩ => ⟨b, by subst e; exact r3, ?_⟩⟩⟩⟩
  cases b with
  | false =>
    rw [if_neg Bool.false_ne_true] at q3 ⊢
    exact k _ _ H3 M3 ((g.trans g2).trans g3) m3 (show Rep ⟨K, Z⟩ H3 M3 (.bl false) (.bl false) from rfl) q3
  | true =>
    rw [if_pos rfl] at q3 ⊢
    exact ⟨Z, δ, M3, _, (A.grow ((g.trans g2).trans g3) m3), q3, fun v4 d4 H4 M4 g4 m4 r4 q4 => ⟨Z, d2, d4, M4, Q', m4, (rp2.grow g3).grow g4, r4, q4, fun v5 d5 H5 M5 g5 m5 r5 q5 => k v5 d5 H5 M5 ((((g.trans g2).trans g3).trans g4).trans g5) m5 r5 q5⟩⟩
theorem de_chain {op op' : CmpOp} {r r' : R2D} (ho : OpD X (compareOp op) r) (ho' : OpD X (compareOp op') r') (ha : DE X a ta) (hb : DE X b tb) (hc : DE X c tc)
    (hm : lastMarks [op, op'] [b, c] = false := by with_unfolding_all rfl) : DE X (.Compare a [op, op'] [b, c] pos) (dChain r r' ta tb tc) := PE.imp (pe_chain ho ho' ha hb hc hm) fun _ _ _ => dChain_up
theorem dt_chain {op op' : CmpOp} {r r' : R2D} (ho : OpD X (compareOp op) r) (ho' : OpD X (compareOp op') r') (ha : DE X a ta) (hb : DE X b tb) (hc : DE X c tc)
    (hm : lastMarks [op, op'] [b, c] = false := by with_unfolding_all rfl) : DT X (.Compare a [op, op'] [b, c] pos) (dTest (dChain r r' ta tb tc)) :=
  PT.imp (pt_chain ho ho' ha hb hc hm) fun σ H Q h => tTest_mono (fun _ _ _ => dChain_up) σ H Q (dTest_up h)
variable {tA tB : DT_} {rest : List Expr}
def dAnd (t u : DT_) : DT_ := fun δ M Q => t δ M fun c M1 => if c = true then u δ M1 Q else Q false M1
def dOr (t u : DT_) : DT_ := fun δ M Q => t δ M fun c M1 => if c = true then Q true M1 else u δ M1 Q
def dNot (t : DT_) : DT_ := fun δ M Q => t δ M fun c M1 => Q (!c) M1
theorem UpT.seq {K : PySem.W.Frag} {Z : Addr → Prop} {t : DT_} {δ : SD} {M : Mp} {σ : L2.St} {H : Hp} {Q : Bool → Hp → Prop} {R : Bool → Mp → Prop} (A : Abs ⟨K, Z⟩ σ H δ M) (q : t δ M R) (k : ∀ b H' M', Grow H M H' M' → AbsM ⟨K, Z⟩ H' M' → R b M' → Q b H') : UpT K t σ H Q := ⟨Z, δ, M, R, A, q, k⟩
theorem dw_and1 (ha : DT X a tA) : DW X (.BoolOp .And [a] pos) tA := pw_and1 ha
theorem dw_or1 (ha : DT X a tA) : DW X (.BoolOp .Or [a] pos) tA := pw_or1 ha
theorem dw_and (ha : DT X a tA) (hb : DW X (.BoolOp .And (b :: rest) pos) tB) : DW X (.BoolOp .And (a :: b :: rest) pos) (dAnd tA tB) :=
  PW.imp (pw_and ha hb) fun σ H Q ⟨Z, δ, M, Q', A, q, k⟩ => UpT.seq A q fun c H1 M1 g m q => by
    cases c with
    | true => rw [if_pos rfl] at q ⊢; exact ⟨Z, δ, M1, Q', A.grow g m, q, fun b H2 M2 g2 => k b H2 M2 (g.trans g2)⟩
    | false => rw [if_neg Bool.false_ne_true] at q ⊢; exact k false H1 M1 g m q
theorem dw_or (ha : DT X a tA) (hb : DW X (.BoolOp .Or (b :: rest) pos) tB) : DW X (.BoolOp .Or (a :: b :: rest) pos) (dOr tA tB) :=
  PW.imp (pw_or ha hb) fun σ H Q ⟨Z, δ, M, Q', A, q, k⟩ => UpT.seq A q fun c H1 M1 g m q => by
    cases c with
    | false => rw [if_neg Bool.false_ne_true] at q ⊢; exact ⟨Z, δ, M1, Q', A.grow g m, q, fun b H2 M2 g2 => k b H2 M2 (g.trans g2)⟩
    | true => rw [if_pos rfl] at q ⊢; exact k true H1 M1 g m q
theorem dt_bool (h : DW X a tA) : DT X a tA := h.pt
theorem dt_not (ha : DT X a tA) : DT X (.UnaryOp .Not a pos) (dNot tA) :=
  PT.imp (pt_not ha) fun σ H Q ⟨Z, δ, M, Q', A, q, k⟩ => UpT.seq A q fun c H1 M1 g m q => k (!c) H1 M1 g m q
def dAndV (ta tb : DE_) : DE_ := fun δ M Q => ta δ M fun x M1 => ∃ c, x = .bl c ∧ if c = true then tb δ M1 Q else Q (.bl false) M1
def dOrV (ta tb : DE_) : DE_ := fun δ M Q => ta δ M fun x M1 => ∃ c, x = .bl c ∧ if c = true then Q (.bl true) M1 else tb δ M1 Q
def dNotV (ta : DE_) : DE_ := fun δ M Q => ta δ M fun x M1 => ∃ c, x = .bl c ∧ Q (.bl (!c)) M1
theorem de_one {op : BoolOp} (h : DE X a ta) : DE X (.BoolOp op [a] pos) ta := pe_one h
theorem de_and (ha : DE X a ta) (hb : DE X (.BoolOp .And (b :: rest) pos) tb) : DE X (.BoolOp .And (a :: b :: rest) pos) (dAndV ta tb) :=
  PE.imp (pe_and ha hb) fun σ H Q ⟨Z, δ, M, Q', A, q, k⟩ => ⟨Z, δ, M, _, A, q, fun v d H1 M1 g m r ⟨c, e, q⟩ => ⟨c, by subst e; exact r, by
    cases c with
    | true => rw [if_pos rfl] at q ⊢; exact ⟨Z, δ, M1, Q', A.grow g m, q, fun v2 d2 H2 M2 g2 => k v2 d2 H2 M2 (g.trans g2)⟩
    | false => rw [if_neg Bool.false_ne_true] at q ⊢; exact k _ _ H1 M1 g m (show Rep ⟨X.K, Z⟩ H1 M1 (.bl false) (.bl false) from rfl) q⟩⟩
theorem de_or (ha : DE X a ta) (hb : DE X (.BoolOp .Or (b :: rest) pos) tb) : DE X (.BoolOp .Or (a :: b :: rest) pos) (dOrV ta tb) :=
  PE.imp (pe_or ha hb) fun σ H Q ⟨Z, δ, M, Q', A, q, k⟩ => ⟨Z, δ, M, _, A, q, fun v d H1 M1 g m r ⟨c, e, q⟩ => ⟨c, by subst e; exact r, by
    cases c with
    | false => rw [if_neg Bool.false_ne_true] at q ⊢; exact ⟨Z, δ, M1, Q', A.grow g m, q, fun v2 d2 H2 M2 g2 => k v2 d2 H2 M2 (g.trans g2)⟩
    | true => rw [if_pos rfl] at q ⊢; exact k _ _ H1 M1 g m (show Rep ⟨X.K, Z⟩ H1 M1 (.bl true) (.bl true) from rfl) q⟩⟩
theorem de_not (ha : DE X a ta) : DE X (.UnaryOp .Not a pos) (dNotV ta) :=
  PE.imp (pe_not ha) fun σ H Q ⟨Z, δ, M, Q', A, q, k⟩ => ⟨Z, δ, M, _, A, q, fun v d H1 M1 g m r ⟨c, e, q⟩ => ⟨c, by subst e; exact r, k _ _ H1 M1 g m (show Rep ⟨X.K, Z⟩ H1 M1 (.bl (!c)) (.bl (!c)) from rfl) q⟩⟩
def dIf (t : DT_) (ta tb : DE_) : DE_ := fun δ M Q => t δ M fun c M1 => if c = true then ta δ M1 Q else tb δ M1 Q
theorem de_if (hc : DT X c tA) (ha : DE X a ta) (hb : DE X b tb) : DE X (.IfExp c a b pos) (dIf tA ta tb) :=
  PE.imp (pe_ifExp hc ha hb) fun σ H Q ⟨Z, δ, M, Q', A, q, k⟩ => UpT.seq A q fun c H1 M1 g m q => by
    cases c with
    | true => rw [if_pos rfl] at q ⊢; exact ⟨Z, δ, M1, Q', A.grow g m, q, fun v2 d2 H2 M2 g2 => k v2 d2 H2 M2 (g.trans g2)⟩
    | false => rw [if_neg Bool.false_ne_true] at q ⊢; exact ⟨Z, δ, M1, Q', A.grow g m, q, fun v2 d2 H2 M2 g2 => k v2 d2 H2 M2 (g.trans g2)⟩
theorem dt_val (h : DE X e te) (he : ∀ whole, isTrue e X.env whole = (do let v ← whole; standAt e.pos; holding [v] (truthy v)) := by intro _; rfl) : DT X e (dTest te) :=
  PT.imp (pt_val h he) fun σ H Q q => dTest_up q
end
end Ht
set_option Elab.async false
set_option linter.all false
set_option maxRecDepth 100000
namespace Ht
open PySem PySem.Spec PyProof.Rows L2
def sc : D → Bool
  | .non => true | .bl _ => true | .int _ => true | .str _ => true | _ => false
def sv : D → V
  | .non => .non | .bl b => .bl b | .int i => .int i | .str x => .str x | _ => .ref 0
section
variable {K : KZ} {H : Hp} {M : Mp}
theorem rep_sc {d : D} {v : V} (s : sc d = true) (r : Rep K H M d v) : v = sv d := by
  cases d <;> first | exact r | (simp [sc] at s)
theorem reps_sc : ∀ {ds : List D} {vs : List V}, ds.all sc = true → Reps K H M ds vs → vs = ds.map sv
  | [], _, _, r => r
  | d :: ds, _, s, ⟨x, r, e, a, b⟩ => by
    rw [List.all_cons, Bool.and_eq_true] at s
    subst e
    rw [rep_sc s.1 a, reps_sc s.2 b]; rfl
theorem sv_rep {d : D} (s : sc d = true) : Rep K H M d (sv d) := by
  cases d <;> first | rfl | (simp [sc] at s)
theorem svs_rep : ∀ {ds : List D}, ds.all sc = true → Reps K H M ds (ds.map sv)
  | [], _ => rfl
  | d :: ds, s => by
    rw [List.all_cons, Bool.and_eq_true] at s
    exact ⟨_, _, rfl, sv_rep s.1, svs_rep s.2⟩
def lstM (M : Mp) : D → Option (List D)
  | .lst ds => some ds
  | .ref a => match M a with
    | some (.lst ds) => some ds
    | _ => none
  | _ => none
def seqM (M : Mp) : D → Option (List D)
  | .tup ds => some ds
  | .tupP ds => some ds
  | d => lstM M d
def dicM (M : Mp) : D → Option (List (Key × D))
  | .dic ds => some ds
  | .ref a => match M a with
    | some (.dic ds) => some ds
    | _ => none
  | _ => none
theorem lstM_at (m : AbsM K H M) {d : D} {v : V} {ds : List D} (e : lstM M d = some ds) (r : Rep K H M d v) : ∃ a xs, v = .ref a ∧ H a = some (.lst xs) ∧ Reps K H M ds xs := by
  cases d with
  | lst es => cases e; obtain ⟨a, xs, e, h, r⟩ := r; exact ⟨a, xs, e, h.2.2, r⟩
  | ref a =>
    cases q : M a with
    | none => simp [lstM, q] at e
    | some c =>
      cases c with
      | lst es =>
        simp only [lstM, q, Option.some.injEq] at e
        subst e
        obtain ⟨xs, h, r2⟩ := m.cell a _ q
        exact ⟨a, xs, r, h, r2⟩
      | dic _ => simp [lstM, q] at e
      | ins _ _ => simp [lstM, q] at e
  | _ => cases e
theorem dicM_at (m : AbsM K H M) {d : D} {v : V} {ds : List (Key × D)} (e : dicM M d = some ds) (r : Rep K H M d v) : ∃ a xs, v = .ref a ∧ H a = some (.dK xs) ∧ RepKs K H M ds xs := by
  cases d with
  | dic es => cases e; obtain ⟨a, xs, e, h, r⟩ := r; exact ⟨a, xs, e, h.2.2, r⟩
  | ref a =>
    cases q : M a with
    | none => simp [dicM, q] at e
    | some c =>
      cases c with
      | dic es =>
        simp only [dicM, q, Option.some.injEq] at e
        subst e
        obtain ⟨xs, h, r2⟩ := m.cell a _ q
        exact ⟨a, xs, r, h, r2⟩
      | lst _ => simp [dicM, q] at e
      | ins _ _ => simp [dicM, q] at e
  | _ => cases e
theorem seqM_at (m : AbsM K H M) {d : D} {v : V} {ds : List D} (e : seqM M d = some ds) (r : Rep K H M d v) : ∃ a xs, v = .ref a ∧ (SqL K.K H a xs ∨ SqT K.K H a xs) ∧ Reps K H M ds xs := by
  cases d with
  | tup es => cases e; obtain ⟨a, xs, e, h, r⟩ := r; exact ⟨a, xs, e, .inr h.sq, r⟩
  | tupP es => cases e; obtain ⟨a, xs, e, h, r⟩ := r; exact ⟨a, xs, e, .inr h.sq, r⟩
  | lst es => obtain ⟨a, xs, h1, h2, h3⟩ := lstM_at m (d := .lst es) e r; exact ⟨a, xs, h1, .inl (.of h2), h3⟩
  | ref es => obtain ⟨a, xs, h1, h2, h3⟩ := lstM_at m (d := .ref es) e r; exact ⟨a, xs, h1, .inl (.of h2), h3⟩
  | _ => cases e
def valD (kvs : List (Key × D)) (k : Key) : Option D := (kvs.find? fun kv => decide (kv.1 = k)).map (·.2)
def putD (kvs : List (Key × D)) (k : Key) (v : D) : List (Key × D) := if kvs.any (fun kv => decide (kv.1 = k)) then kvs.map (fun kv => if kv.1 = k then (kv.1, v) else kv) else kvs ++ [(k, v)]
def keyD : D → Option Key
  | .int i => some (.inl i)
  | .str x => some (.inr x)
  | _ => none
theorem keyD_rep {d : D} {v : V} {k : Key} (e : keyD d = some k) (r : Rep K H M d v) : v = kV k := by
  cases d <;> first | (cases e; exact r) | cases e
theorem RepKs.val : ∀ {kvs : List (Key × D)} {xs : List (Key × V)}, RepKs K H M kvs xs → ∀ k : Key, (valD kvs k = none ∧ valV xs k = none) ∨ ∃ d v, valD kvs k = some d ∧ valV xs k = some v ∧ Rep K H M d v
  | [], _, r, k => by cases r; exact .inl ⟨rfl, rfl⟩
  | (j, d) :: kvs, _, ⟨x, r, e, a, b⟩, k => by
    subst e
    by_cases h : j = k
    · exact .inr ⟨d, x, by simp [valD, h], by rw [valV_pos (by exact h)], a⟩
    · rcases RepKs.val b k with ⟨h1, h2⟩ | ⟨d', v', h1, h2, h3⟩
      · exact .inl ⟨by simpa [valD, h] using h1, by rw [valV_neg (by exact h)]; exact h2⟩
      · exact .inr ⟨d', v', by simpa [valD, h] using h1, by rw [valV_neg (by exact h)]; exact h2, h3⟩
theorem RepKs.keys : ∀ {kvs : List (Key × D)} {xs : List (Key × V)}, RepKs K H M kvs xs → xs.map (·.1) = kvs.map (·.1)
  | [], _, r => by cases r; rfl
  | (j, d) :: kvs, _, ⟨x, r, e, a, b⟩ => by subst e; simp [RepKs.keys b]
theorem RepKs.len {kvs : List (Key × D)} {xs : List (Key × V)} (r : RepKs K H M kvs xs) : xs.length = kvs.length := by simpa using congrArg List.length r.keys
theorem RepKs.append : ∀ {ds es : List (Key × D)} {xs ys : List (Key × V)}, RepKs K H M ds xs → RepKs K H M es ys → RepKs K H M (ds ++ es) (xs ++ ys)
  | [], _, _, _, a, b => by cases a; exact b
  | (_, _) :: _, _, _, _, ⟨x, r, e, a, b⟩, c => by subst e; exact ⟨x, r ++ _, rfl, a, RepKs.append b c⟩
theorem RepKs.any : ∀ {kvs : List (Key × D)} {xs : List (Key × V)}, RepKs K H M kvs xs → ∀ k : Key, xs.any (fun kv => decide (kv.1 = k)) = kvs.any (fun kv => decide (kv.1 = k))
  | [], _, r, k => by cases r; rfl
  | (j, d) :: kvs, _, ⟨x, r, e, a, b⟩, k => by subst e; rw [List.any_cons, List.any_cons, RepKs.any b k]
theorem RepKs.repl {k : Key} {d : D} {v : V} (q : Rep K H M d v) : ∀ {kvs : List (Key × D)} {xs : List (Key × V)}, RepKs K H M kvs xs → RepKs K H M (kvs.map (fun kv => if kv.1 = k then (kv.1, d) else kv)) (xs.map (fun kv => if kv.1 = k then (kv.1, v) else kv))
  | [], _, r => by cases r; rfl
  | (j, d') :: kvs, _, ⟨x, r, e, a, b⟩ => by
    subst e
    rw [List.map_cons, List.map_cons]
    by_cases h : j = k
    · rw [if_pos (show ((j, d') : Key × D).1 = k from h), if_pos (show ((j, x) : Key × V).1 = k from h)]
      exact ⟨v, _, rfl, q, RepKs.repl q b⟩
    · rw [if_neg (show ¬ ((j, d') : Key × D).1 = k from h), if_neg (show ¬ ((j, x) : Key × V).1 = k from h)]
      exact ⟨x, _, rfl, a, RepKs.repl q b⟩
theorem RepKs.put {kvs : List (Key × D)} {xs : List (Key × V)} (r : RepKs K H M kvs xs) {k : Key} {d : D} {v : V} (q : Rep K H M d v) : RepKs K H M (putD kvs k d) (putK xs k v) := by
  unfold putD putK
  rw [r.any k]
  split
  · exact r.repl q
  · exact r.append ⟨v, [], rfl, q, rfl⟩
end
theorem done {K : KZ} {H : Hp} {M : Mp} {Q : VK} {Q' : VD} (k : ∀ v d H' M', Grow H M H' M' → AbsM K H' M' → Rep K H' M' d v → Q' d M' → Q v H') (m : AbsM K H M) {v : V} {d : D} (r : Rep K H M d v) (q : Q' d M) : Q v H := k v d H M (Grow.refl _ _) m r q
section
variable {X : Cx}
def newL (o : Bool) (ds : List D) (M : Mp) (Q : VD) : Prop := if o = true then ∀ p, M p = none → Q (.ref p) (up M p (.lst ds)) else Q (.lst ds) M
theorem newL_ok {K : KZ} {H H1 : Hp} {M M1 : Mp} {Q : VK} {Q' : VD} {o : Bool} {p : Addr} {ds : List D} {vs : List V} (g : Grow H M H1 M1) (m : AbsM K H1 M1) (np : H1 p = none) (r : Reps K H1 M1 ds vs) (q : newL o ds M1 Q')
    (k : ∀ v d H' M', Grow H M H' M' → AbsM K H' M' → Rep K H' M' d v → Q' d M' → Q v H') : Q (.ref p) (upd H1 p (.lst vs)) := by
  unfold newL at q
  split at q
  · exact k (.ref p) (.ref p) _ _ (g.trans (Grow.newM m np)) (abs_newL m np r) rfl (q p (m.none np))
  · exact k (.ref p) (.lst ds) _ _ (g.trans (Grow.new m np)) (m.new np) (rep_newL m np r) q
def rAdd (o : Bool) : R2D := fun x y M Q =>
  match x, y with
  | .int i, .int j => Q (.int (i + j)) M
  | .str i, .str j => i.length + j.length ≤ sizeLine ∧ Q (.str (i ++ j)) M
  | .tup i, .tup j => i.length + j.length ≤ sizeLine ∧ Q (.tup (i ++ j)) M
  | x, y => ∃ i j, lstM M x = some i ∧ lstM M y = some j ∧ i.length + j.length ≤ sizeLine ∧ newL o (i ++ j) M Q
theorem rAdd_cases {o : Bool} {x y : D} {M : Mp} {Q : VD} (h : rAdd o x y M Q) : (∃ i j, x = .int i ∧ y = .int j ∧ Q (.int (i + j)) M) ∨ (∃ i j, x = .str i ∧ y = .str j ∧ i.length + j.length ≤ sizeLine ∧ Q (.str (i ++ j)) M) ∨
    (∃ i j, x = .tup i ∧ y = .tup j ∧ i.length + j.length ≤ sizeLine ∧ Q (.tup (i ++ j)) M) ∨ (∃ i j, lstM M x = some i ∧ lstM M y = some j ∧ i.length + j.length ≤ sizeLine ∧ newL o (i ++ j) M Q) := by
  unfold rAdd at h
  split at h
  · exact .inl ⟨_, _, rfl, rfl, h⟩
  · exact .inr (.inl ⟨_, _, rfl, rfl, h⟩)
  · exact .inr (.inr (.inl ⟨_, _, rfl, rfl, h⟩))
  · exact .inr (.inr (.inr h))
theorem od_add (o : Bool) : OpD X (binaryOp .Add) (rAdd o) :=
  OpR.imp ((op_add.or op_add_str).or (op_catA.or op_cat)) fun x y H Q ⟨Z, dx, dy, M, Q', m, rx, ry, h, k⟩ => by
    rcases rAdd_cases h with ⟨i, j, rfl, rfl, q⟩ | ⟨i, j, rfl, rfl, hz, q⟩ | ⟨i, j, rfl, rfl, hz, q⟩ | ⟨i, j, e1, e2, hz, q⟩
    · exact .inl (.inl ⟨i, j, rx, ry, done k m (d := .int (i + j)) rfl q⟩)
    · exact .inl (.inr ⟨i, j, rx, ry, hz, done k m (d := .str (i ++ j)) rfl q⟩)
    · obtain ⟨a, xs, e1, t1, r1⟩ := rx
      obtain ⟨b, ys, e2, t2, r2⟩ := ry
      refine .inr (.inl ⟨a, b, xs, ys, e1, e2, t1.sq, t2.sq, by rw [r1.len, r2.len]; exact hz, fun z => ?_, fun _ z => ?_, fun _ _ p np => k _ _ _ M (Grow.new m np) (m.new np) (rep_newT m np (r1.append r2)) q⟩)
      · subst z
        have l1 := r1.len
        cases i with
        | nil => exact done k m (d := .tup j) ⟨b, ys, rfl, t2, r2⟩ q
        | cons _ _ => simp at l1
      · subst z
        have l2 := r2.len
        cases j with
        | nil => rw [List.append_nil] at q; exact done k m (d := .tup i) ⟨a, xs, rfl, t1, r1⟩ q
        | cons _ _ => simp at l2
    · obtain ⟨a, xs, f1, h1, r1⟩ := lstM_at m e1 rx
      obtain ⟨b, ys, f2, h2, r2⟩ := lstM_at m e2 ry
      exact .inr (.inr ⟨a, b, xs, ys, f1, f2, h1, h2, by rw [r1.len, r2.len]; exact hz, fun p np => newL_ok (Grow.refl _ _) m np (r1.append r2) q k⟩)
end
end Ht
set_option Elab.async false
set_option linter.all false
set_option maxRecDepth 100000
namespace Ht
open PySem PySem.Spec PyProof.Rows L2
section
variable {X : Cx}
def rI (C : Int → Int → Prop) (g : Int → Int → D) : R2D := fun x y M Q => ∃ i j, x = .int i ∧ y = .int j ∧ C i j ∧ Q (g i j) M
theorem od_I {f : Value → Value → Sem Value} {C : Int → Int → Prop} {g : Int → Int → Int} (h : OpR X f (L2.rI C fun i j => .int (g i j))) : OpD X f (rI C fun i j => .int (g i j)) :=
  OpR.imp h fun x y H Q ⟨Z, dx, dy, M, Q', m, rx, ry, ⟨i, j, e1, e2, c, q⟩, k⟩ => by
    subst e1; subst e2
    exact ⟨i, j, rx, ry, c, done k m (d := .int (g i j)) rfl q⟩
theorem od_I0 {f : Value → Value → Sem Value} {g : Int → Int → Int} (h : OpR X f (L2.rI0 fun i j => .int (g i j))) : OpD X f (rI (fun _ _ => True) fun i j => .int (g i j)) :=
  OpR.imp h fun x y H Q ⟨Z, dx, dy, M, Q', m, rx, ry, ⟨i, j, e1, e2, c, q⟩, k⟩ => by
    subst e1; subst e2
    exact ⟨i, j, rx, ry, done k m (d := .int (g i j)) rfl q⟩
theorem od_B0 {f : Value → Value → Sem Value} {g : Int → Int → Bool} (h : OpR X f (L2.rI0 fun i j => .bl (g i j))) : OpD X f (rI (fun _ _ => True) fun i j => .bl (g i j)) :=
  OpR.imp h fun x y H Q ⟨Z, dx, dy, M, Q', m, rx, ry, ⟨i, j, e1, e2, c, q⟩, k⟩ => by
    subst e1; subst e2
    exact ⟨i, j, rx, ry, done k m (d := .bl (g i j)) rfl q⟩
abbrev rSub : R2D := rI (fun _ _ => True) fun i j => .int (i - j)
abbrev rMod : R2D := rI (fun _ j => 0 < j) fun i j => .int (i % j)
abbrev rDiv : R2D := rI CDiv fun i j => .int (i / j)
abbrev rPow : R2D := rI CPow fun i j => .int (i ^ j.toNat)
abbrev rShl : R2D := rI CPow fun i j => .int (i * 2 ^ j.toNat)
theorem od_sub : OpD X (binaryOp .Sub) rSub := od_I0 op_sub
theorem od_mod : OpD X (binaryOp .Mod) rMod := od_I op_mod
theorem od_div : OpD X (binaryOp .FloorDiv) rDiv := od_I op_fdiv
theorem od_pow : OpD X (binaryOp .Pow) rPow := od_I op_pow
theorem od_shl : OpD X (binaryOp .LShift) rShl := od_I op_shl
theorem od_lt : OpD X (compareOp .Lt) (rI (fun _ _ => True) fun i j => .bl (decide (i < j))) := od_B0 op_lt
theorem od_le : OpD X (compareOp .LtE) (rI (fun _ _ => True) fun i j => .bl (decide (i ≤ j))) := od_B0 op_le
theorem od_gt : OpD X (compareOp .Gt) (rI (fun _ _ => True) fun i j => .bl (decide (j < i))) := od_B0 op_gt
theorem od_ge : OpD X (compareOp .GtE) (rI (fun _ _ => True) fun i j => .bl (decide (j ≤ i))) := od_B0 op_ge
def repS (x : Str) (n : Int) : Str := ⟨(List.replicate n.toNat x.cps.toList).flatten.toArray⟩
theorem repS_none (x : Str) {n : Int} (h : n < 1) : repS x n = Str.empty := by
  unfold repS
  rw [show n.toNat = 0 by omega]; rfl
theorem repS_one (x : Str) : repS x 1 = x := by
  unfold repS
  apply Str.ext'
  simp
theorem foldl_cat (l : List (Array Nat)) : ∀ acc : Array Nat, l.foldl (· ++ ·) acc = acc ++ (l.map Array.toList).flatten.toArray := by
  induction l with
  | nil => intro acc; simp
  | cons a r ih => intro acc; rw [List.foldl_cons, ih]; apply Array.toList_inj.mp; simp
theorem repS_fold (x : Str) (n : Int) : (⟨(List.replicate n.toNat x.cps).foldl (· ++ ·) #[]⟩ : Str) = repS x n := by
  unfold repS
  rw [foldl_cat]
  simp
theorem op_repS : OpR X (binaryOp .Mult) (fun x y H Q => ∃ z k, x = .str z ∧ y = .int k ∧ k ≤ 16777216 ∧ -(2 ^ 63) ≤ k ∧ z.length * k.toNat ≤ 16777216 ∧ Q (.str (repS z k)) H) := by
  intro pins s σ H x y v u Q I rx ry h
  obtain ⟨z, k, rfl, rfl, hk, hlo, hz, q⟩ := h
  obtain ⟨t, rfl⟩ := rx
  obtain ⟨t', rfl⟩ := ry
  have line := sizeLine_eq
  refine PySem.P.mul_str (by rw [decide_eq_false (by omega), decide_eq_false (by omega)]; rfl) (fun h1 _ => ?_) (fun h1 _ => ?_) ?_
  · have hk0 : 0 < k := by omega
    have hkk : ((k.toNat : Nat) : Int) = k := by omega
    have : (z.length : Int) * k ≤ 16777216 := by rw [← hkk, ← Int.natCast_mul]; omega
    have h2 : (z.length : Int) ≤ (2 ^ 63 - 1) / k := by
      rw [Int.le_ediv_iff_mul_le hk0]; omega
    omega
  · show Builtin.Str.tooLong _ = false
    unfold Builtin.Str.tooLong
    first
      | exact decide_eq_false (by omega)
      | (simp; omega)
      | (rw [line]; simp; omega)
  · by_cases h1 : k < 1
    · rw [if_pos h1]
      rw [repS_none z h1] at q
      exact ⟨by decide, .str Str.empty, H, I.tok _, ⟨_, rfl⟩, q⟩
    · rw [if_neg h1]
      by_cases h2 : (k == 1 || z.length == 0) = true
      · rw [if_pos h2]
        have e : repS z k = z := by
          rw [Bool.or_eq_true] at h2
          rcases h2 with h2 | h2
          · have : k = 1 := by simpa using h2
            subst this; exact repS_one z
          · have h3 : z.length = 0 := by simpa using h2
            have h4 : z.cps.toList = [] := by
              have : z.cps.toList.length = 0 := by simpa [Str.length] using h3
              exact List.length_eq_zero_iff.mp this
            apply Str.ext'
            apply Array.toList_inj.mp
            unfold repS
            rw [h4]; simp
        rw [e] at q
        exact ⟨.str z, H, I, ⟨t, rfl⟩, q⟩
      · rw [if_neg h2, repS_fold]
        refine ⟨?_, .str (repS z k), H, I.tok _, ⟨_, rfl⟩, q⟩
        have : (repS z k).length = k.toNat * z.length := by simp [repS, Str.length]
        rw [this, line, Nat.mul_comm]; exact hz
def rMul (o : Bool) : R2D := fun x y M Q =>
  match x, y with
  | .int i, .int j => CMul i j ∧ Q (.int (i * j)) M
  | .str z, .int k => k ≤ 16777216 ∧ -(2 ^ 63) ≤ k ∧ z.length * k.toNat ≤ 16777216 ∧ Q (.str (repS z k)) M
  | x, .int k => ∃ ds, lstM M x = some ds ∧ -(2 ^ 63) ≤ k ∧ k < 2 ^ 63 ∧ ds.length * k.toNat ≤ sizeLine ∧ newL o (List.replicate k.toNat ds).flatten M Q
  | _, _ => False
theorem rMul_cases {o : Bool} {x y : D} {M : Mp} {Q : VD} (h : rMul o x y M Q) : (∃ i j, x = .int i ∧ y = .int j ∧ CMul i j ∧ Q (.int (i * j)) M) ∨
    (∃ z k, x = .str z ∧ y = .int k ∧ k ≤ 16777216 ∧ -(2 ^ 63) ≤ k ∧ z.length * k.toNat ≤ 16777216 ∧ Q (.str (repS z k)) M) ∨
    ∃ ds k, lstM M x = some ds ∧ y = .int k ∧ -(2 ^ 63) ≤ k ∧ k < 2 ^ 63 ∧ ds.length * k.toNat ≤ sizeLine ∧ newL o (List.replicate k.toNat ds).flatten M Q := by
  unfold rMul at h
  split at h
  · exact .inl ⟨_, _, rfl, rfl, h⟩
  · exact .inr (.inl ⟨_, _, rfl, rfl, h⟩)
  · obtain ⟨ds, h⟩ := h
    exact .inr (.inr ⟨ds, _, h.1, rfl, h.2⟩)
  · exact h.elim
theorem Reps.rep {K : KZ} {H : Hp} {M : Mp} {ds : List D} {xs : List V} (r : Reps K H M ds xs) : ∀ k : Nat, Reps K H M (List.replicate k ds).flatten (List.replicate k xs).flatten
  | 0 => rfl
  | k + 1 => by rw [List.replicate_succ, List.replicate_succ, List.flatten_cons, List.flatten_cons]; exact r.append (Reps.rep r k)
theorem od_mul (o : Bool) : OpD X (binaryOp .Mult) (rMul o) :=
  OpR.imp (op_mul.or (op_repS.or op_rep)) fun x y H Q ⟨Z, dx, dy, M, Q', m, rx, ry, h, k⟩ => by
    rcases rMul_cases h with ⟨i, j, rfl, rfl, c, q⟩ | ⟨z, j, rfl, rfl, h1, h2, h3, q⟩ | ⟨ds, j, e, rfl, h1, h2, h3, q⟩
    · exact .inl ⟨i, j, rx, ry, c, done k m (d := .int (i * j)) rfl q⟩
    · exact .inr (.inl ⟨z, j, rx, ry, h1, h2, h3, done k m (d := .str (repS z j)) rfl q⟩)
    · obtain ⟨a, xs, f1, f2, r⟩ := lstM_at m e rx
      exact .inr (.inr ⟨a, j, xs, f1, ry, f2, h1, h2, by rw [r.len]; exact h3, fun p np => newL_ok (Grow.refl _ _) m np (r.rep _) q k⟩)
def eqOk (x y : D) : Bool := sc x && sc y && scal (sv x) (sv y)
def eqS (x y : D) : Bool := decide (sv x = sv y)
theorem od_eq : OpD X (compareOp .Eq) (fun x y M Q => eqOk x y = true ∧ Q (.bl (eqS x y)) M) :=
  OpR.imp op_eq fun x y H Q ⟨Z, dx, dy, M, Q', m, rx, ry, ⟨e, q⟩, k⟩ => by
    simp only [eqOk, Bool.and_eq_true] at e
    rw [rep_sc e.1.1 rx, rep_sc e.1.2 ry]
    exact ⟨e.2, done k m (d := .bl (eqS dx dy)) rfl q⟩
theorem od_ne : OpD X (compareOp .NotEq) (fun x y M Q => eqOk x y = true ∧ Q (.bl (!eqS x y)) M) :=
  OpR.imp op_ne fun x y H Q ⟨Z, dx, dy, M, Q', m, rx, ry, ⟨e, q⟩, k⟩ => by
    simp only [eqOk, Bool.and_eq_true] at e
    rw [rep_sc e.1.1 rx, rep_sc e.1.2 ry]
    exact ⟨e.2, done k m (d := .bl (!eqS dx dy)) rfl q⟩
def isN : D → Bool
  | .non => true
  | _ => false
theorem isN_rep {K : KZ} {H : Hp} {M : Mp} {d : D} {v : V} (r : Rep K H M d v) : decide (v = .non) = isN d := by
  cases d with
  | tup ds => obtain ⟨a, xs, e, _⟩ := r; subst e; rfl
  | tupP ds => obtain ⟨a, xs, e, _⟩ := r; subst e; rfl
  | lst ds => obtain ⟨a, xs, e, _⟩ := r; subst e; rfl
  | dic ds => obtain ⟨a, xs, e, _⟩ := r; subst e; rfl
  | scr ds => obtain ⟨a, e, _⟩ := r; subst e; rfl
  | _ => cases r; rfl
theorem od_isN : OpD X (compareOp .Is) (fun x y M Q => y = .non ∧ Q (.bl (isN x)) M) :=
  OpR.imp op_isN fun x y H Q ⟨Z, dx, dy, M, Q', m, rx, ry, ⟨e, q⟩, k⟩ => by
    subst e
    exact ⟨ry, by rw [isN_rep rx]; exact done k m (d := .bl (isN dx)) rfl q⟩
theorem od_notN : OpD X (compareOp .IsNot) (fun x y M Q => y = .non ∧ Q (.bl (!isN x)) M) :=
  OpR.imp op_notN fun x y H Q ⟨Z, dx, dy, M, Q', m, rx, ry, ⟨e, q⟩, k⟩ => by
    subst e
    exact ⟨ry, by rw [isN_rep rx]; exact done k m (d := .bl (!isN dx)) rfl q⟩
def inD (x : D) (ds : List D) : Bool := ds.any fun y => eqV (sv y) (sv x)
theorem inD_eq (x : D) (ds : List D) : inV (sv x) (ds.map sv) = inD x ds := by
  unfold inV inD
  rw [List.any_map]; rfl
theorem flat_sc : ∀ {d : D}, sc d = true → flatV (sv d) = true := fun {d} h => by cases d <;> first | rfl | cases h
theorem flats_sc {ds : List D} (h : ds.all sc = true) : (ds.map sv).all flatV = true := by
  rw [List.all_eq_true] at h ⊢
  intro v hv
  obtain ⟨d, hd, rfl⟩ := List.mem_map.mp hv
  exact flat_sc (h d hd)
theorem d_inR (hu : X.A.units + 1 < cLine) : OpR X (compareOp .In) (fun y x H Q => ∃ a o, x = .ref a ∧ DGet H a y o ∧ Q (.bl o.isSome) H) := by
  intro pins s σ H y x v u Q I ry rx h
  obtain ⟨a, o, rfl, g, q⟩ := h
  obtain rfl : u = Value.ref a := rx
  exact d_in hu I g ry fun s3 I3 => ⟨.bl o.isSome, H, I3, rfl, q⟩
theorem d_notInR (hu : X.A.units + 1 < cLine) : OpR X (compareOp .NotIn) (fun y x H Q => ∃ a o, x = .ref a ∧ DGet H a y o ∧ Q (.bl (!o.isSome)) H) := by
  intro pins s σ H y x v u Q I ry rx h
  obtain ⟨a, o, rfl, g, q⟩ := h
  obtain rfl : u = Value.ref a := rx
  exact d_notIn hu I g ry fun s3 I3 => ⟨.bl (!o.isSome), H, I3, rfl, q⟩
def hasM (M : Mp) (x y : D) : Option Bool :=
  match y with
  | .str z => match x with
    | .str c => if c.cps.size = 1 then some (decide (c.cps.getD 0 0 ∈ z.cps.toList)) else none
    | _ => none
  | y => match seqM M y with
    | some ds => if sc x = true ∧ ds.all sc = true then some (inD x ds) else none
    | none => match dicM M y, keyD x with
      | some kvs, some k => some (valD kvs k).isSome
      | _, _ => none
theorem hasM_cases {M : Mp} {x y : D} {b : Bool} (h : hasM M x y = some b) : (∃ c z, x = .str ⟨#[c]⟩ ∧ y = .str z ∧ b = decide (c ∈ z.cps.toList)) ∨
    (∃ ds, seqM M y = some ds ∧ sc x = true ∧ ds.all sc = true ∧ b = inD x ds) ∨ ∃ kvs k, dicM M y = some kvs ∧ keyD x = some k ∧ b = (valD kvs k).isSome := by
  unfold hasM at h
  split at h
  · split at h
    · rename_i z x c
      split at h
      · rename_i hc
        refine .inl ⟨c.cps.getD 0 0, _, ?_, rfl, by simpa using h.symm⟩
        obtain ⟨⟨l⟩⟩ := c
        match l, hc with
        | [w], _ => rfl
      · cases h
    · cases h
  · split at h
    · rename_i ds e
      split at h
      · rename_i hc
        exact .inr (.inl ⟨ds, e, hc.1, hc.2, by simpa using h.symm⟩)
      · cases h
    · split at h
      · rename_i e1 e2
        exact .inr (.inr ⟨_, _, e1, e2, by simpa using h.symm⟩)
      · cases h
theorem dget_of {K : KZ} {H : Hp} {M : Mp} {a : Addr} {kvs : List (Key × D)} {xs : List (Key × V)} (h : H a = some (.dK xs)) (r : RepKs K H M kvs xs) (k : Key) : ∃ o, DGet H a (kV k) o ∧ o.isSome = (valD kvs k).isSome ∧ ∀ d, valD kvs k = some d → ∃ v, o = some v ∧ Rep K H M d v := by
  refine ⟨_, DGet.k (k := k) h, ?_⟩
  rcases r.val k with ⟨h1, h2⟩ | ⟨d, v, h1, h2, h3⟩
  · rw [h1, h2]; exact ⟨rfl, fun d e => by cases e⟩
  · rw [h1, h2]; exact ⟨rfl, fun d' e => by cases e; exact ⟨v, rfl, h3⟩⟩
theorem od_in (hu : X.A.units + 1 < cLine) : OpD X (compareOp .In) (fun x y M Q => ∃ b, hasM M x y = some b ∧ Q (.bl b) M) :=
  OpR.imp (op_in_sign.or (op_in_seq.or (d_inR hu))) fun x y H Q ⟨Z, dx, dy, M, Q', m, rx, ry, ⟨b, e, q⟩, k⟩ => by
    have q2 := done k m (v := .bl b) (d := .bl b) rfl q
    rcases hasM_cases e with ⟨c, z, rfl, rfl, rfl⟩ | ⟨ds, e', hx, hs, rfl⟩ | ⟨kvs, ky, e', e2, rfl⟩
    · exact .inl ⟨c, z, rx, ry, q2⟩
    · obtain ⟨a, xs, f1, f2, r⟩ := seqM_at m e' ry
      have e1 := rep_sc hx rx
      have e2 := reps_sc hs r
      subst e1; subst e2
      exact .inr (.inl ⟨a, _, f1, f2, flat_sc hx, flats_sc hs, by rw [inD_eq]; exact q2⟩)
    · obtain ⟨a, xs, f1, f2, r⟩ := dicM_at m e' ry
      obtain ⟨o, g1, g2, _⟩ := dget_of f2 r ky
      exact .inr (.inr ⟨a, o, f1, by rw [keyD_rep e2 rx]; exact g1, by rw [g2]; exact q2⟩)
theorem od_notIn (hu : X.A.units + 1 < cLine) : OpD X (compareOp .NotIn) (fun x y M Q => ∃ b, hasM M x y = some b ∧ Q (.bl (!b)) M) :=
  OpR.imp (op_notIn_sign.or (op_notIn_seq.or (d_notInR hu))) fun x y H Q ⟨Z, dx, dy, M, Q', m, rx, ry, ⟨b, e, q⟩, k⟩ => by
    have q2 := done k m (v := .bl (!b)) (d := .bl (!b)) rfl q
    rcases hasM_cases e with ⟨c, z, rfl, rfl, rfl⟩ | ⟨ds, e', hx, hs, rfl⟩ | ⟨kvs, ky, e', e2, rfl⟩
    · exact .inl ⟨c, z, rx, ry, q2⟩
    · obtain ⟨a, xs, f1, f2, r⟩ := seqM_at m e' ry
      have e1 := rep_sc hx rx
      have e2 := reps_sc hs r
      subst e1; subst e2
      exact .inr (.inl ⟨a, _, f1, f2, flat_sc hx, flats_sc hs, by rw [inD_eq]; exact q2⟩)
    · obtain ⟨a, xs, f1, f2, r⟩ := dicM_at m e' ry
      obtain ⟨o, g1, g2, _⟩ := dget_of f2 r ky
      exact .inr (.inr ⟨a, o, f1, by rw [keyD_rep e2 rx]; exact g1, by rw [g2]; exact q2⟩)
def atM (M : Mp) (x y : D) : Option D :=
  match x with
  | .str z => match y with
    | .int i => if z.length ≤ sizeLine then (atI z.cps.toList i).map fun c => .str ⟨#[c]⟩ else none
    | _ => none
  | x => match seqM M x with
    | some ds => match y with
      | .int i => atI ds i
      | _ => none
    | none => match dicM M x, keyD y with
      | some kvs, some k => valD kvs k
      | _, _ => none
theorem atM_cases {M : Mp} {x y d : D} (h : atM M x y = some d) : (∃ z i c, x = .str z ∧ y = .int i ∧ z.length ≤ sizeLine ∧ atI z.cps.toList i = some c ∧ d = .str ⟨#[c]⟩) ∨
    (∃ ds i, seqM M x = some ds ∧ y = .int i ∧ atI ds i = some d) ∨ ∃ kvs k, dicM M x = some kvs ∧ keyD y = some k ∧ valD kvs k = some d := by
  unfold atM at h
  split at h
  · split at h
    · split at h
      · rename_i z _ i hz
        obtain ⟨c, h1, h2⟩ := Option.map_eq_some_iff.mp h
        exact .inl ⟨z, i, c, rfl, rfl, hz, h1, h2.symm⟩
      · cases h
    · cases h
  · split at h
    · split at h
      · exact .inr (.inl ⟨_, _, by assumption, rfl, h⟩)
      · cases h
    · split at h
      · exact .inr (.inr ⟨_, _, by assumption, by assumption, h⟩)
      · cases h
theorem Reps.atI {K : KZ} {H : Hp} {M : Mp} {ds : List D} {xs : List V} (r : Reps K H M ds xs) {i : Int} {d : D} (h : L2.atI ds i = some d) : ∃ v, L2.atI xs i = some v ∧ Rep K H M d v := by
  unfold L2.atI at h ⊢
  rw [r.len]
  cases e : ixN ds.length i with
  | none => rw [e] at h; cases h
  | some j => rw [e] at h; exact r.get h
theorem d_ixR (hu : X.A.units + 1 < cLine) : IxR X (fun x y H Q => ∃ a v, x = .ref a ∧ DGet H a y (some v) ∧ Q v H) := by
  intro value slice pins s σ H x y v u Q I rx ry h hs
  obtain ⟨a, w, rfl, g, q⟩ := h
  obtain rfl : v = Value.ref a := rx
  unfold subscriptTail
  have hT := dict_typeIs I g
  refine wpAny_bind ?_
  rw [getitemInPython_of_ne hT.not_modules]
  refine wpAny_bind (wpAny_specialOf hT PySem.F.slot_dict_getitem.lookup ?_)
  have fin : wpAny (model X.prog X.w) X.A (subscripted slice false (.ref a) u) (fun r s₃ => wpAny (model X.prog X.w) X.A (letTemporaryGo value (.ref a) r >>= fun _ => pure r) (EP X pins σ Q) X.xe s₃) X.xe s := by
    rw [hs]
    exact wpAny_operating (d_getItem hu I g ry fun w' s3 I3 rw' => wpAny_bind (wpAny_letTemporaryGo (wpAny_pure ⟨w, H, I3, rw', q⟩)))
  first
    | exact wpAny_pure (wpAny_bind fin)
    | exact wpAny_bind (wpAny_pure (wpAny_bind fin))
    | exact wpAny_bind fin
theorem IxR.imp {r r2 : R2} (h : IxR X r) (k : ∀ x y H Q, r2 x y H Q → r x y H Q) : IxR X r2 := fun value slice pins s σ H x y v u Q I rx ry q hs => h value slice pins s σ H x y v u Q I rx ry (k _ _ _ _ q) hs
def rIx : R2D := fun x y M Q => ∃ d, atM M x y = some d ∧ Q d M
theorem ixd (hu : X.A.units + 1 < cLine) : IxR X (UpR X.K rIx) :=
  IxR.imp (ix_seq.or (d_ixR hu)) fun x y H Q ⟨Z, dx, dy, M, Q', m, rx, ry, ⟨d, e, q⟩, k⟩ => by
    rcases atM_cases e with ⟨z, i, c, rfl, rfl, hz, h, rfl⟩ | ⟨ds, i, e', rfl, h⟩ | ⟨kvs, ky, e', e2, h⟩
    · exact .inl (.inr (.inr ⟨z, i, c, rx, ry, hz, h, done k m (d := .str ⟨#[c]⟩) rfl q⟩))
    · obtain ⟨a, xs, f1, f2, r⟩ := seqM_at m e' rx
      obtain ⟨v, h1, h2⟩ := r.atI h
      have q2 := done k m h2 q
      rcases f2 with f2 | f2
      · exact .inl (.inl ⟨a, xs, i, v, f1, ry, f2, h1, q2⟩)
      · exact .inl (.inr (.inl ⟨a, xs, i, v, f1, ry, f2, h1, q2⟩))
    · obtain ⟨a, xs, f1, f2, r⟩ := dicM_at m e' rx
      obtain ⟨o, g1, g2, g3⟩ := dget_of f2 r ky
      obtain ⟨v, e3, h2⟩ := g3 d h
      subst e3
      exact .inr ⟨a, v, f1, by rw [keyD_rep e2 ry]; exact g1, done k m h2 q⟩
theorem de_ix {a b : Expr} {ta tb : DE_} {pos : Pos} (hu : X.A.units + 1 < cLine) (ha : DE X a ta) (hb : DE X b tb) (hs : PlainIx b := by exact fun _ _ => rfl) : DE X (.Subscript a b pos) (dOp rIx ta tb) := PE.imp (pe_ix (ixd hu) ha hb hs) fun _ _ _ => dOp_up
abbrev DO_ := SD → Mp → (Option Int → Mp → Prop) → Prop
def UpO (K : PySem.W.Frag) (t : DO_) : TO := fun σ H Q => ∃ Z δ M Q', Abs ⟨K, Z⟩ σ H δ M ∧ t δ M Q' ∧ ∀ b H' M', Grow H M H' M' → AbsM ⟨K, Z⟩ H' M' → Q' b M' → Q b H'
abbrev DO (X : Cx) (e : Option Expr) (t : DO_) : Prop := PO X e (UpO X.K t)
theorem PO.imp {e : Option Expr} {t t2 : TO} (h : PO X e t) (k : ∀ σ H Q, t2 σ H Q → t σ H Q) : PO X e t2 := ⟨fun pins s σ H Q I hw => h.run pins s σ H Q I (k _ _ _ hw)⟩
def dNoPart : DO_ := fun _ M Q => Q none M
def dPart (t : DE_) : DO_ := fun δ M Q => t δ M fun x M1 => ∃ i, x = .int i ∧ Q (some i) M1
theorem do_none : DO X none dNoPart := PO.imp po_none fun σ H Q ⟨Z, δ, M, Q', A, q, k⟩ => k none H M (Grow.refl _ _) A.mem q
theorem do_some {e : Expr} {te : DE_} (h : DE X e te) : DO X (some e) (dPart te) :=
  PO.imp (po_some h) fun σ H Q ⟨Z, δ, M, Q', A, q, k⟩ => ⟨Z, δ, M, _, A, q, fun v d H1 M1 g m r ⟨i, e, q⟩ => ⟨i, by subst e; exact r, k (some i) H1 M1 g m q⟩⟩
def cutD (xs : List D) (lo hi : Option Int) : List D := (xs.drop (HT.sIx xs.length 0 lo)).take (HT.sIx xs.length xs.length hi - HT.sIx xs.length 0 lo)
theorem Reps.cut {K : KZ} {H : Hp} {M : Mp} {ds : List D} {xs : List V} (r : Reps K H M ds xs) (lo hi : Option Int) : Reps K H M (cutD ds lo hi) (cutV xs lo hi) := by
  unfold cutD cutV
  rw [r.len]
  exact (r.drop _).take _
def rSl (o : Bool) (x : D) (lo hi : Option Int) (M : Mp) (Q : VD) : Prop :=
  match x with
  | .str z => z.length ≤ sizeLine ∧ Q (.str (cutS z lo hi)) M
  | .tup ds => Q (.tup (cutD ds lo hi)) M
  | .scr ns => newL o (cutD (ns.map .int) lo hi) M Q
  | x => ∃ ds, lstM M x = some ds ∧ newL o (cutD ds lo hi) M Q
def dSl (o : Bool) (te : DE_) (tl th : DO_) : DE_ := fun δ M Q => te δ M fun x M1 => tl δ M1 fun l M2 => th δ M2 fun u M3 => rSl o x l u M3 Q
def UpSl (K : PySem.W.Frag) (r : D → Option Int → Option Int → Mp → VD → Prop) : V → Option Int → Option Int → Hp → VK → Prop := fun x l u H Q => ∃ Z dx M Q', AbsM ⟨K, Z⟩ H M ∧ Rep ⟨K, Z⟩ H M dx x ∧ r dx l u M Q' ∧ ∀ v d H' M', Grow H M H' M' → AbsM ⟨K, Z⟩ H' M' → Rep ⟨K, Z⟩ H' M' d v → Q' d M' → Q v H'
theorem SlR.imp {r r2 : V → Option Int → Option Int → Hp → VK → Prop} (h : SlR X r) (k : ∀ x l u H Q, r2 x l u H Q → r x l u H Q) : SlR X r2 := fun pins s σ H x v vl vu lo hi sl Q I rx hs pl pu q => h pins s σ H x v vl vu lo hi sl Q I rx hs pl pu (k _ _ _ _ _ q)
theorem reps_ints {K : KZ} {H : Hp} {M : Mp} : ∀ ns : List Int, Reps K H M (ns.map D.int) (ns.map V.int)
  | [] => rfl
  | n :: r => ⟨_, _, rfl, rfl, reps_ints r⟩
theorem sld (o : Bool) : SlR X (UpSl X.K (rSl o)) :=
  SlR.imp (sl_list.or (sl_tupA.or sl_str)) fun x lo hi H Q ⟨Z, dx, M, Q', m, rx, h, k⟩ => by
    have lists : ∀ {ds : List D}, lstM M dx = some ds → newL o (cutD ds lo hi) M Q' → rSlL X.K x lo hi H Q := fun {ds} e q => by
      obtain ⟨a, xs, f1, f2, r⟩ := lstM_at m e rx
      exact ⟨a, xs, f1, .of f2, fun p np => newL_ok (Grow.refl _ _) m np (r.cut lo hi) q k⟩
    cases dx with
    | str z => exact .inr (.inr ⟨z, rx, h.1, done k m (d := .str (cutS z lo hi)) rfl h.2⟩)
    | tup ds =>
      obtain ⟨a, xs, e, t, r⟩ := rx
      have h : Q' (.tup (cutD ds lo hi)) M := h
      refine .inr (.inl ⟨a, xs, e, t.sq, fun w => ?_, fun _ p np => k _ _ _ M (Grow.new m np) (m.new np) (rep_newT m np (r.cut lo hi)) h⟩)
      have e2 : cutD ds lo hi = ds := by
        have l := r.len
        unfold cutD
        rw [← l, w.1, w.2, l]; simp
      rw [e2] at h
      exact done k m (d := .tup ds) ⟨a, xs, rfl, t, r⟩ h
    | scr ns =>
      obtain ⟨a, e, t⟩ := rx
      exact .inl ⟨a, _, e, t.sq, fun p np => newL_ok (Grow.refl _ _) m np ((reps_ints ns).cut lo hi) h k⟩
    | lst ds => obtain ⟨es, e, q⟩ := h; exact .inl (lists e q)
    | ref ds => obtain ⟨es, e, q⟩ := h; exact .inl (lists e q)
    | _ => obtain ⟨es, e, q⟩ := h; cases e
theorem de_sl {e : Expr} {lo hi : Option Expr} {te : DE_} {tl th : DO_} {p2 pos : Pos} (o : Bool) (he : DE X e te) (hl : DO X lo tl) (hu : DO X hi th) : DE X (.Subscript e (.Slice lo hi none p2) pos) (dSl o te tl th) :=
  PE.imp (pe_slice (sld o) he hl hu) fun σ H Q ⟨Z, δ, M, Q', A, q, k⟩ => ⟨Z, δ, M, _, A, q, fun v d H1 M1 g m rp q => ⟨Z, δ, M1, _, A.grow g m, q, fun l H2 M2 g2 m2 q2 => ⟨Z, δ, M2, _, (A.grow g m).grow g2 m2, q2, fun u H3 M3 g3 m3 q3 =>
    ⟨Z, d, M3, Q', m3, (rp.grow g2).grow g3, q3, fun v4 d4 H4 M4 g4 m4 r4 q4 => k v4 d4 H4 M4 (((g.trans g2).trans g3).trans g4) m4 r4 q4⟩⟩⟩⟩
end
end Ht
set_option Elab.async false
set_option linter.all false
set_option maxRecDepth 100000
namespace Ht
open PySem PySem.Spec PyProof.Rows L2
section
variable {X : Cx} {st : Stmt} {rest : List Stmt} {t u : DS_} {e : Expr} {te : DE_} {pos : Pos}
def dNext : DS_ := fun E δ M => E.nx δ M
def dSeq (t u : DS_) : DS_ := fun E δ M => t { E with nx := u E } δ M
theorem EndsOk.seq {K : PySem.W.Frag} {Z : Addr → Prop} {H : Hp} {M : Mp} {E' : EndsD} {E : Ends} (k : EndsOk ⟨K, Z⟩ H M E' E) (u : DS_) : EndsOk ⟨K, Z⟩ H M { E' with nx := u E' } { E with nx := UpS K u E } :=
  ⟨fun σ' H' δ' M' g A q => ⟨Z, δ', M', E', A, q, k.grow g⟩, k.rt, k.bk, k.ct⟩
theorem dss_nil : DSs X [] dNext := PSs.imp pss_nil fun E σ H ⟨Z, δ, M, E', A, q, k⟩ => k.nx σ H δ M (Grow.refl _ _) A q
theorem dss_cons (h1 : DS X st t) (h2 : DSs X rest u) : DSs X (st :: rest) (dSeq t u) :=
  PSs.imp (pss_cons h1 h2) fun E σ H ⟨Z, δ, M, E', A, q, k⟩ => ⟨Z, δ, M, { E' with nx := u E' }, A, q, k.seq u⟩
theorem dss_one (h1 : DS X st t) : DSs X [st] t := pss_one h1
def dBreak : DS_ := fun E δ M => E.bk δ M
def dCont : DS_ := fun E δ M => E.ct δ M
theorem ds_pass : DS X (.Pass pos) dNext := PS.imp ps_pass fun E σ H ⟨Z, δ, M, E', A, q, k⟩ => k.nx σ H δ M (Grow.refl _ _) A q
theorem ds_break : DS X (.Break pos) dBreak := PS.imp ps_break fun E σ H ⟨Z, δ, M, E', A, q, k⟩ => k.bk σ H δ M (Grow.refl _ _) A q
theorem ds_continue : DS X (.Continue pos) dCont := PS.imp ps_continue fun E σ H ⟨Z, δ, M, E', A, q, k⟩ => k.ct σ H δ M (Grow.refl _ _) A q
theorem ds_doc {x j} {pos'} : DS X (.Expr (.Constant (.str x) j pos) pos') dNext := PS.imp ps_doc fun E σ H ⟨Z, δ, M, E', A, q, k⟩ => k.nx σ H δ M (Grow.refl _ _) A q
def dDrop (te : DE_) : DS_ := fun E δ M => te δ M fun _ M1 => E.nx δ M1
theorem ds_expr (he : DE X e te) (hs : swapsWith e none pos.line X.env = pure false := by rfl) : DS X (.Expr e pos) (dDrop te) :=
  PS.imp (ps_expr he hs) fun E σ H ⟨Z, δ, M, E', A, q, k⟩ => ⟨Z, δ, M, _, A, q, fun v d H1 M1 g m r q => k.nx σ H1 δ M1 g (A.grow g m) q⟩
def dRet (te : DE_) : DS_ := fun E δ M => te δ M E.rt
theorem ds_ret (he : DE X e te) : DS X (.Return (some e) pos) (dRet te) :=
  PS.imp (ps_ret he) fun E σ H ⟨Z, δ, M, E', A, q, k⟩ => ⟨Z, δ, M, _, A, q, fun v d H1 M1 g m r q => k.rt v d H1 M1 g m r q⟩
def dRetN : DS_ := fun E _ M => E.rt .non M
theorem ds_retN : DS X (.Return none pos) dRetN := PS.imp ps_retN fun E σ H ⟨Z, δ, M, E', A, q, k⟩ => k.rt .non .non H M (Grow.refl _ _) A.mem rfl q
def dIfS (c : DT_) (t u : DS_) : DS_ := fun E δ M => c δ M fun b M1 => if b = true then t E δ M1 else u E δ M1
theorem ds_if {c : Expr} {a b : List Stmt} {tc : DT_} (hc : DT X c tc) (ha : DSs X a t) (hb : DSs X b u) : DS X (.If c a b pos) (dIfS tc t u) :=
  PS.imp (ps_if hc ha hb) fun E σ H ⟨Z, δ, M, E', A, q, k⟩ => UpT.seq A q fun b H1 M1 g m q => by
    cases b with
    | true => rw [if_pos rfl] at q ⊢; exact ⟨Z, δ, M1, E', A.grow g m, q, k.grow g⟩
    | false => rw [if_neg Bool.false_ne_true] at q ⊢; exact ⟨Z, δ, M1, E', A.grow g m, q, k.grow g⟩
def dNever : DS_ := fun _ _ _ => False
theorem ds_never : DS X st dNever := PS.imp ps_never fun E σ H ⟨Z, δ, M, E', A, q, k⟩ => q
theorem dss_never {sts : List Stmt} : DSs X sts dNever := PSs.imp pss_never fun E σ H ⟨Z, δ, M, E', A, q, k⟩ => q
end
abbrev DG_ := D → SD → Mp → (SD → Mp → Prop) → Prop
abbrev DGs_ := List D → SD → Mp → (SD → Mp → Prop) → Prop
def UpG (K : PySem.W.Frag) (t : DG_) : TG := fun v σ H Q => ∃ Z δ M d Q', Abs ⟨K, Z⟩ σ H δ M ∧ Rep ⟨K, Z⟩ H M d v ∧ t d δ M Q' ∧ ∀ σ' H' δ' M', Grow H M H' M' → Abs ⟨K, Z⟩ σ' H' δ' M' → Q' δ' M' → Q σ' H'
def UpGs (K : PySem.W.Frag) (t : DGs_) : TGs := fun vs σ H Q => ∃ Z δ M ds Q', Abs ⟨K, Z⟩ σ H δ M ∧ Reps ⟨K, Z⟩ H M ds vs ∧ t ds δ M Q' ∧ ∀ σ' H' δ' M', Grow H M H' M' → Abs ⟨K, Z⟩ σ' H' δ' M' → Q' δ' M' → Q σ' H'
abbrev DG (X : Cx) (e : Expr) (t : DG_) : Prop := PG X e (UpG X.K t)
abbrev DGs (X : Cx) (e : List Expr) (t : DGs_) : Prop := PGs X e (UpGs X.K t)
section
variable {X : Cx} {pos : Pos} {e : Expr} {es : List Expr}
theorem PG.imp {t t2 : TG} (h : PG X e t) (k : ∀ v σ H Q, t2 v σ H Q → t v σ H Q) : PG X e t2 := ⟨fun pins s σ H v u Q I r hw => h.run pins s σ H v u Q I r (k _ _ _ _ hw)⟩
theorem PGs.imp {t t2 : TGs} (h : PGs X es t) (k : ∀ v σ H Q, t2 v σ H Q → t v σ H Q) : PGs X es t2 := ⟨fun pins s σ H v u Q I r hw => h.run pins s σ H v u Q I r (k _ _ _ _ hw)⟩
theorem Abs.set {K : KZ} {σ : L2.St} {H : Hp} {δ : SD} {M : Mp} (A : Abs K σ H δ M) {d : D} {v : V} (r : Rep K H M d v) (i : Nat) : Abs K (σ.set i (some v)) H (δ.set i (some d)) M :=
  ⟨A.mem, by simp [A.len], fun j d' h => by
    by_cases hj : i = j
    · subst hj
      by_cases hl : i < δ.length
      · rw [List.getElem?_set_self hl] at h
        cases h
        exact ⟨v, by rw [List.getElem?_set_self (by rw [← A.len]; exact hl)], r⟩
      · rw [List.getElem?_eq_none (by simpa using hl)] at h; cases h
    · rw [List.getElem?_set_ne hj] at h
      obtain ⟨w, h1, h2⟩ := A.sl j d' h
      exact ⟨w, by rw [List.getElem?_set_ne hj]; exact h1, h2⟩⟩
def gName (i : Nat) : DG_ := fun d δ M Q => Q (δ.set i (some d)) M
theorem dg_name {i : Nat} {x : Str} (hN : X.N.Nodup) (hi : X.N[i]? = some x := by rfl) (hx : Loc X.env.scope x := by first | exact .inl rfl | exact .inr rfl) (hf : X.fn x = true ∨ X.env.scope.names.lookup x = some .local := by first | exact .inl rfl | exact .inr rfl | assumption) : DG X (.Name x pos) (gName i) :=
  PG.imp (pg_name hN hi hx hf) fun v σ H Q ⟨Z, δ, M, d, Q', A, r, q, k⟩ => k _ H _ M (Grow.refl _ _) (A.set r i) q
def gNil : DGs_ := fun ds δ M Q => ds = [] ∧ Q δ M
def gCons (t : DG_) (u : DGs_) : DGs_ := fun ds δ M Q => ∃ d r, ds = d :: r ∧ t d δ M fun δ' M' => u r δ' M' Q
theorem dgs_nil : DGs X [] gNil := PGs.imp pgs_nil fun v σ H Q ⟨Z, δ, M, d, Q', A, r, ⟨e, q⟩, k⟩ => by
  subst e
  exact ⟨r, k σ H δ M (Grow.refl _ _) A q⟩
theorem dgs_cons {t : DG_} {u : DGs_} (h1 : DG X e t) (h2 : DGs X es u)
    (hs : (assignEach (e :: es) X.env).map (·.2) = assign e X.env :: (assignEach es X.env).map (·.2) := by rfl) : DGs X (e :: es) (gCons t u) :=
  PGs.imp (pgs_cons h1 h2 hs) fun v σ H Q ⟨Z, δ, M, ds, Q', A, r, ⟨d, dr, e, q⟩, k⟩ => by
    subst e
    obtain ⟨x, xr, e, r1, r2⟩ := r
    exact ⟨x, xr, e, Z, δ, M, d, _, A, r1, q, fun σ1 H1 δ1 M1 g A1 q1 => ⟨Z, δ1, M1, dr, Q', A1, r2.grow g, q1, fun σ2 H2 δ2 M2 g2 => k σ2 H2 δ2 M2 (g.trans g2)⟩⟩
def gTup (n : Nat) (t : DGs_) : DG_ := fun d δ M Q => ∃ ds, d = .tup ds ∧ ds.length = n ∧ t ds δ M Q
theorem dg_tup {k : Nat} {t : DGs_} {n : Nat} (hc : X.calm = true) (h : DGs X es t)
    (hn : (assignEach es X.env).length = n := by rfl) (hst : (assignEach es X.env).findIdx? (·.1) = none := by rfl) : DG X (.Tuple es k pos) (gTup n t) :=
  PG.imp (pg_tup hc h hn hst) fun v σ H Q ⟨Z, δ, M, d, Q', A, r, ⟨ds, e, hl, q⟩, kk⟩ => by
    subst e
    obtain ⟨a, xs, e, t, r⟩ := r
    exact ⟨a, xs, e, t.sq, by rw [r.len]; exact hl, Z, δ, M, ds, Q', A, r, q, kk⟩
def dAsg (te : DE_) (g : DG_) : DS_ := fun E δ M => te δ M fun x M1 => g x δ M1 E.nx
theorem dAsg_up {K : PySem.W.Frag} {te : DE_} {g : DG_} {E : Ends} {σ : L2.St} {H : Hp} (h : UpS K (dAsg te g) E σ H) : tAsg (Up K te) (UpG K g) E σ H :=
  let ⟨Z, δ, M, E', A, q, k⟩ := h
  ⟨Z, δ, M, _, A, q, fun v d H1 M1 gr m r q => ⟨Z, δ, M1, d, E'.nx, A.grow gr m, r, q, fun σ2 H2 δ2 M2 g2 => k.nx σ2 H2 δ2 M2 (gr.trans g2)⟩⟩
theorem ds_asg {tg : Expr} {te : DE_} {g : DG_} (he : DE X e te) (hg : DG X tg g) (hs : swapsWithSole [tg] e pos.line X.env = pure false := by rfl) (hw : swappedStores [tg] e X.env = pure none := by rfl)
    (h1 : (assignEach [tg] X.env).map (·.2) = [assign tg X.env] := by rfl) : DS X (.Assign [tg] e pos) (dAsg te g) := PS.imp (ps_asg he hg hs hw h1) fun _ _ _ => dAsg_up
def dSet (te : DE_) (i : Nat) : DS_ := fun E δ M => te δ M fun x M1 => E.nx (δ.set i (some x)) M1
theorem dSet_up {K : PySem.W.Frag} {te : DE_} {i : Nat} {E : Ends} {σ : L2.St} {H : Hp} (h : UpS K (dSet te i) E σ H) : tAsg (Up K te) (L2.gName i) E σ H :=
  let ⟨Z, δ, M, E', A, q, k⟩ := h
  ⟨Z, δ, M, _, A, q, fun v d H1 M1 gr m r q => k.nx _ H1 _ M1 gr ((A.grow gr m).set r i) q⟩
theorem ds_set {i : Nat} {x : Str} {te : DE_} {pos' : Pos} (hN : X.N.Nodup) (he : DE X e te) (hi : X.N[i]? = some x := by rfl) (hx : Loc X.env.scope x := by first | exact .inl rfl | exact .inr rfl) (hs : swapsWith e (some (.Name x pos')) pos.line X.env = pure false := by rfl) (hf : X.fn x = true ∨ X.env.scope.names.lookup x = some .local := by first | exact .inl rfl | exact .inr rfl | assumption) :
    DS X (.Assign [.Name x pos'] e pos) (dSet te i) := PS.imp (ps_set hN hi hx he hs hf) fun _ _ _ => dSet_up
def UpIp (K : PySem.W.Frag) (r : R2D) : TIp := UpR K r
abbrev IpD (X : Cx) (op : Operator) (r : R2D) : Prop := PIp X op (UpIp X.K r)
def dAug (i : Nat) (te : DE_) (r : R2D) : DS_ := fun E δ M => ∃ x, δ[i]? = some (some x) ∧ te δ M fun y M1 => r x y M1 fun z M2 => E.nx (δ.set i (some z)) M2
theorem ds_aug {i : Nat} {x : Str} {te : DE_} {op : Operator} {r : R2D} {pos' : Pos} (hN : X.N.Nodup) (he : DE X e te) (ho : IpD X op r) (hi : X.N[i]? = some x := by rfl) (hx : Loc X.env.scope x := by first | exact .inl rfl | exact .inr rfl) (hf : X.fn x = true ∨ X.env.scope.names.lookup x = some .local := by first | exact .inl rfl | exact .inr rfl | assumption) :
    DS X (.AugAssign (.Name x pos') op e pos) (dAug i te r) :=
  PS.imp (ps_aug hN hi hx he ho hf) fun E σ H ⟨Z, δ, M, E', A, ⟨d, e1, q⟩, k⟩ => by
    obtain ⟨v, e2, rv⟩ := A.sl i d e1
    exact ⟨v, e2, Z, δ, M, _, A, q, fun v2 d2 H1 M1 g m r2 q1 => ⟨Z, d, d2, M1, _, m, rv.grow g, r2, q1, fun v3 d3 H2 M2 g2 m2 r3 q2 => k.nx _ H2 _ M2 (g.trans g2) ((A.grow (g.trans g2) m2).set r3 i) q2⟩⟩
theorem ip_addI : IpD X .Add (rI (fun _ _ => True) fun i j => .int (i + j)) := fun pins s σ H x y v u Q I r1 r2 ⟨Z, dx, dy, M, Q', m, rx, ry, ⟨i, j, e1, e2, c, q⟩, k⟩ => by
  subst e1; subst e2
  exact ip_add pins s σ H x y v u Q I r1 r2 ⟨i, j, rx, ry, done k m (d := .int (i + j)) rfl q⟩
theorem ip_subI : IpD X .Sub (rI (fun _ _ => True) fun i j => .int (i - j)) := fun pins s σ H x y v u Q I r1 r2 ⟨Z, dx, dy, M, Q', m, rx, ry, ⟨i, j, e1, e2, c, q⟩, k⟩ => by
  subst e1; subst e2
  exact ip_sub pins s σ H x y v u Q I r1 r2 ⟨i, j, rx, ry, done k m (d := .int (i - j)) rfl q⟩
def putM (M : Mp) (o i v : D) : Option Mp :=
  match o with
  | .ref a => match M a with
    | some (.lst ds) => match i with
      | .int k => (ixN ds.length k).map fun j => up M a (.lst (ds.set j v))
      | _ => none
    | some (.dic kvs) => match keyD i with
      | some k => if kvs.length < sizeLine then some (up M a (.dic (putD kvs k v))) else none
      | none => none
    | _ => none
  | _ => none
theorem putM_cases {M M' : Mp} {o i v : D} (h : putM M o i v = some M') : (∃ a ds k j, o = .ref a ∧ M a = some (.lst ds) ∧ i = .int k ∧ ixN ds.length k = some j ∧ M' = up M a (.lst (ds.set j v))) ∨
    ∃ a kvs k, o = .ref a ∧ M a = some (.dic kvs) ∧ keyD i = some k ∧ kvs.length < sizeLine ∧ M' = up M a (.dic (putD kvs k v)) := by
  unfold putM at h
  split at h
  · rename_i a
    split at h
    · rename_i ds hm
      split at h
      · rename_i k
        obtain ⟨j, h1, h2⟩ := Option.map_eq_some_iff.mp h
        exact .inl ⟨a, ds, k, j, rfl, hm, rfl, h1, h2.symm⟩
      · cases h
    · rename_i kvs hm
      split at h
      · rename_i k hk
        split at h
        · rename_i hl
          exact .inr ⟨a, kvs, k, rfl, hm, hk, hl, by simpa using h.symm⟩
        · cases h
      · cases h
    · cases h
  · cases h
def UpSet (K : PySem.W.Frag) : TSet := fun o i v H Q => ∃ Z M do_ di dv M', AbsM ⟨K, Z⟩ H M ∧ Rep ⟨K, Z⟩ H M do_ o ∧ Rep ⟨K, Z⟩ H M di i ∧ Rep ⟨K, Z⟩ H M dv v ∧ putM M do_ di dv = some M' ∧ ∀ H', Grow H M H' M' → AbsM ⟨K, Z⟩ H' M' → Q H'
theorem set_up (hu : X.A.units + 1 < cLine) : PSet X (UpSet X.K) := by
  intro pins s σ H o i v ov iv u Q I ro ri rv ⟨Z, M, d1, d2, d3, M', m, r1, r2, r3, e, k⟩
  rcases putM_cases e with ⟨a, ds, n, j, rfl, hm, rfl, hj, rfl⟩ | ⟨a, kvs, ky, rfl, hm, hk, hl, rfl⟩
  · obtain ⟨xs, h1, h2⟩ := m.cell a _ hm
    refine set_list pins s σ H o i v ov iv u Q I ro ri rv ⟨a, xs, n, j, r1, r2, h1, by rw [h2.len]; exact hj, k _ (Grow.write hm) ?_⟩
    exact m.write hm ⟨_, upd_same, (h2.set r3 j).grow (Grow.write hm)⟩
  · obtain ⟨xs, h1, h2⟩ := m.cell a _ hm
    refine set_dict hu pins s σ H o i v ov iv u Q I ro ri rv ⟨a, _, r1, by rw [keyD_rep hk r2]; exact DPut.k h1 (by rw [h2.len]; exact hl), k _ (Grow.write hm) ?_⟩
    exact m.write hm ⟨_, upd_same, (h2.put r3).grow (Grow.write hm)⟩
def gSub (to ti : DE_) : DG_ := fun d δ M Q => to δ M fun o M1 => ti δ M1 fun i M2 => ∃ M3, putM M2 o i d = some M3 ∧ Q δ M3
theorem dg_sub {o i : Expr} {to ti : DE_} (hu : X.A.units + 1 < cLine) (ho : DE X o to) (hi : DE X i ti)
    (ha : ∀ v, assign (.Subscript o i pos) X.env v = (do
      let ov ← holding [v] (eval o X.env)
      let iv ← holding [v, ov] (eval i X.env)
      standAt pos
      holding [v, ov, iv] (setItem ov iv v)
      release [v, ov, iv] []) := by intro _; rfl) : DG X (.Subscript o i pos) (gSub to ti) :=
  PG.imp (pg_sub ho hi (set_up hu) ha) fun v σ H Q ⟨Z, δ, M, d, Q', A, r, q, k⟩ => ⟨Z, δ, M, _, A, q, fun v1 d1 H1 M1 g m r1 q1 => ⟨Z, δ, M1, _, A.grow g m, q1, fun v2 d2 H2 M2 g2 m2 r2 ⟨M3, e, q2⟩ =>
    ⟨Z, M2, d1, d2, d, M3, m2, r1.grow g2, r2, (r.grow g).grow g2, e, fun H3 g3 m3 => k σ H3 δ M3 ((g.trans g2).trans g3) (A.grow ((g.trans g2).trans g3) m3) q2⟩⟩⟩
def whileN (c : DT_) (tb : DS_) (E : EndsD) : Nat → SD → Mp → Prop
  | 0, _, _ => False
  | n + 1, δ, M => c δ M fun b M1 => if b = true then tb { E with nx := whileN c tb E n, ct := whileN c tb E n, bk := E.nx } δ M1 else E.nx δ M1
def dWhile (c : DT_) (tb : DS_) : DS_ := fun E δ M => ∃ n, whileN c tb E n δ M
theorem ds_while {c : Expr} {body : List Stmt} {tc : DT_} {tb : DS_} (hp : PassesOwn (model X.prog X.w) X.A X.env X.xe) (hc : DT X c tc) (hb : DSs X body tb) : DS X (.While c body [] pos) (dWhile tc tb) :=
  PS.imp (ps_while hp hc hb) fun E σ H ⟨Z, δ, M, E', A, ⟨n, q⟩, k⟩ => by
    refine ⟨fun n σ' H' => ∃ δ' M', Grow H M H' M' ∧ Abs ⟨X.K, Z⟩ σ' H' δ' M' ∧ whileN tc tb E' n δ' M', ⟨n, δ, M, Grow.refl _ _, A, q⟩, ?_⟩
    rintro m σ1 H1 ⟨δ1, M1, g1, A1, q1⟩
    cases m with
    | zero => exact q1.elim
    | succ m =>
      refine UpT.seq A1 q1 fun b H2 M2 g2 m2 q2 => ?_
      cases b with
      | false => rw [if_neg Bool.false_ne_true] at q2 ⊢; exact k.nx σ1 H2 δ1 M2 (g1.trans g2) (A1.grow g2 m2) q2
      | true =>
        rw [if_pos rfl] at q2 ⊢
        refine ⟨fun σ' H' => ∃ δ' M', Grow H M H' M' ∧ Abs ⟨X.K, Z⟩ σ' H' δ' M' ∧ whileN tc tb E' m δ' M', fun σ' H' w => ⟨m, Nat.lt_succ_self _, w⟩, Z, δ1, M2, _, A1.grow g2 m2, q2, ?_⟩
        have g := g1.trans g2
        exact ⟨fun σ' H' δ' M' h a q => ⟨δ', M', g.trans h, a, q⟩, fun v d H' M' h => k.rt v d H' M' (g.trans h), fun σ' H' δ' M' h a q => k.nx σ' H' δ' M' (g.trans h) a q, fun σ' H' δ' M' h a q => ⟨δ', M', g.trans h, a, q⟩⟩
structure ItD (K : KZ) (J : It) (ds : List D) (G : Mp → Prop) (H0 : Hp) (M0 : Mp) : Prop where
  stop : ∀ H M, GrowX K.Z H0 M0 H M → AbsM K H M → G M → J.stop ds.length H
  go : ∀ i d H M, ds[i]? = some d → GrowX K.Z H0 M0 H M → AbsM K H M → G M → J.go i H
  yld : ∀ i d H M x H', ds[i]? = some d → GrowX K.Z H0 M0 H M → AbsM K H M → G M → J.yld i H x H' → Grow H M H' M ∧ AbsM K H' M ∧ Rep K H' M d x
abbrev DI_ := SD → Mp → (List D → (Mp → Prop) → Mp → Prop) → Prop
def UpI (K : PySem.W.Frag) (ti : DI_) : TI := fun σ H R => ∃ Z δ M R', Abs ⟨K, Z⟩ σ H δ M ∧ ti δ M R' ∧ ∀ J ds G H1 M1, Grow H M H1 M1 → AbsM ⟨K, Z⟩ H1 M1 → (∀ Z', (∀ a, Z' a → Z a ∨ H1 a = none) → ItD ⟨K, Z'⟩ J ds G H1 M1) → R' ds G M1 → R J H1
abbrev DI (X : Cx) (tg iter : Expr) (ti : DI_) : Prop := PI X tg iter (UpI X.K ti)
theorem PI.imp {tg iter : Expr} {t t2 : TI} (h : PI X tg iter t) (k : ∀ σ H Q, t2 σ H Q → t σ H Q) : PI X tg iter t2 := ⟨fun pins s σ H Q I hw => h.run pins s σ H Q I (k _ _ _ hw)⟩
theorem zed_of {Z Z' : Addr → Prop} {H : Hp} (h : ∀ a, Z' a → Z a ∨ H a = none) : ∀ a o, H a = some o → ¬ Z a → ¬ Z' a := fun a o e nz z => by
  rcases h a z with q | q
  · exact nz q
  · rw [e] at q; cases q
def forD (g : DG_) (tb : DS_) (E : EndsD) (G : Mp → Prop) : List D → SD → Mp → Prop
  | [], δ, M => G M ∧ E.nx δ M
  | d :: ds, δ, M => G M ∧ g d δ M fun δ1 M1 => tb { E with nx := forD g tb E G ds, ct := forD g tb E G ds, bk := E.nx } δ1 M1
def dFor (ti : DI_) (g : DG_) (tb : DS_) : DS_ := fun E δ M => ti δ M fun ds G M1 => forD g tb E G ds δ M1
theorem ds_for {tg iter : Expr} {body : List Stmt} {ti : DI_} {g : DG_} {tb : DS_} (hp : PassesOwn (model X.prog X.w) X.A X.env X.xe) (hc : X.calm = true) (hi : DI X tg iter ti) (hg : DG X tg g) (hb : DSs X body tb)
    (hs : ∀ x, foldedSetIterable iter X.env x = pure x := by intro _; rfl) : DS X (.For tg iter body [] pos) (dFor ti g tb) :=
  PS.imp (ps_for hp hc hi hg hb hs) fun E σ H ⟨Z, δ, M, E', A, q, k⟩ => ⟨Z, δ, M, _, A, q, fun J ds G H1 M1 g1 m1 IT' q1 => by
    have IT := IT' Z fun _ z => .inl z
    refine ⟨fun i m σ' H' => ∃ δ' M', m = ds.length - i ∧ i ≤ ds.length ∧ Grow H1 M1 H' M' ∧ Abs ⟨X.K, Z⟩ σ' H' δ' M' ∧ forD g tb E' G (ds.drop i) δ' M', ⟨_, δ, M1, rfl, Nat.zero_le _, Grow.refl _ _, A.grow g1 m1, q1⟩, ?_⟩
    rintro i m σ2 H2 ⟨δ2, M2, rfl, hi, g2, A2, q2⟩
    by_cases hlt : i < ds.length
    · rw [List.drop_eq_getElem_cons hlt] at q2
      obtain ⟨gm, q2⟩ := q2
      have hd : ds[i]? = some ds[i] := by simp [hlt]
      refine .inr ⟨IT.go i _ H2 M2 hd g2.x A2.mem gm, fun σ' H' => ∃ δ' M', Grow H1 M1 H' M' ∧ Abs ⟨X.K, Z⟩ σ' H' δ' M' ∧ forD g tb E' G (ds.drop (i + 1)) δ' M', fun σ' H' ⟨δ', M', a, b, c⟩ => ⟨ds.length - (i + 1), by omega, δ', M', rfl, hlt, a, b, c⟩, fun x H' y => ?_⟩
      obtain ⟨g3, m3, r3⟩ := IT.yld i _ H2 M2 x H' hd g2.x A2.mem gm y
      refine ⟨Z, δ2, M2, ds[i], _, A2.grow g3 m3, r3, q2, fun σ4 H4 δ4 M4 g4 A4 q4 => ?_⟩
      have gg := (g2.trans g3).trans g4
      refine ⟨Z, δ4, M4, _, A4, q4, ?_⟩
      exact ⟨fun σ' H' δ' M' h a q => ⟨δ', M', gg.trans h, a, q⟩, fun v d H' M' h => k.rt v d H' M' (g1.trans (gg.trans h)), fun σ' H' δ' M' h a q => k.nx σ' H' δ' M' (g1.trans (gg.trans h)) a q, fun σ' H' δ' M' h a q => ⟨δ', M', gg.trans h, a, q⟩⟩
    · have e : i = ds.length := by omega
      subst e
      rw [List.drop_length] at q2
      obtain ⟨gm, q2⟩ := q2
      exact .inl ⟨IT.stop H2 M2 g2.x A2.mem gm, k.nx σ2 H2 δ2 M2 (g1.trans g2) A2 q2⟩⟩
end
end Ht
set_option Elab.async false
set_option linter.all false
set_option maxRecDepth 100000
namespace PySem
namespace HtX
set_option maxHeartbeats 1000000 in
theorem meets_enumerate_new1 {v : Value} {o : Obj} {H : Heap → Prop} (B : Begins v o H) :
    Meets (Builtin.«enumerate.__new__» ⟨[.type "enumerate", v], []⟩) (fun _ R s => H s.heap ∧
      R (.ok (.ret (.ref (s.heap.push o).objs.size))) { s with heap := (s.heap.push o).push { cls := .type "enumerate", data := .fields #[.none, .bool false, .ref s.heap.objs.size, rawInt 0, .none, .none] } }) :=
  .of_wp fun prog w A R s h => by
    obtain ⟨hp, g, d, tk, os⟩ := s; obtain ⟨h1, h⟩ := h
    have hsub := sub_enumerate
    have q1 : ∀ {A' : Around} {E : Value → Shared → Prop} {Q : Value → Shared → Prop}, Q (.ref hp.objs.size) ⟨hp.push o, g, d, tk, os⟩ → wpAny (model prog w) A' (pyIter v) Q E ⟨hp, g, d, tk, os⟩ :=
      fun q => B.iter prog w _ _ ⟨hp, g, d, tk, os⟩ _ h1 q
    wp_walk using q1
    refine wpAny_stack_any fun st => wpAny_pure ?_
    split
    · rename_i c _ _ _ _ _
      cases (c == Value.type "enumerate")
      · wp_walk using q1
        exact ⟨_, rfl, h⟩
      · wp_walk using q1
        exact ⟨_, rfl, h⟩
    · wp_walk using q1
      exact ⟨_, rfl, h⟩
theorem call_enumerate1 {prog : Program} {w : World} {A : Around} {E : Value → Shared → Prop} {s : Shared} {v : Value} {o : Obj} {H : Heap → Prop} {Q : Value → Shared → Prop} (B : Begins v o H) (h1 : H s.heap)
    (h : ∀ h', IsEnum h' (s.heap.objs.size + 1) s.heap.objs.size 0 .none → h'.get? s.heap.objs.size = some o → h'.objs.size = s.heap.objs.size + 2 →
      (∀ b o, s.heap.get? b = some o → h'.get? b = some o) → Q (.ref (s.heap.objs.size + 1)) { s with heap := h' }) :
    wpAny (model prog w) A (call (.type "enumerate") [v]) Q E s := by
  refine callType_new F.called_enumerate (by decide) (F.typeCall_enumerate_1 _) (F.newCall_enumerate_1 _) (fun obj => F.args_object_init_2 obj _) F.entry_enumerate_new
    (meets_enumerate_new1 B) ⟨h1, ?_⟩
  have hz : (s.heap.push o).objs.size = s.heap.objs.size + 1 := Heap.size_push ..
  show _ ∧ _
  rw [hz]
  have he : IsEnum ((s.heap.push o).push { cls := .type "enumerate", data := .fields #[.none, .bool false, .ref s.heap.objs.size, rawInt 0, .none, .none] }) (s.heap.objs.size + 1) s.heap.objs.size 0 .none := by
    have := Heap.get?_push_size (s.heap.push o) (o := { cls := .type "enumerate", data := .fields #[.none, .bool false, .ref s.heap.objs.size, rawInt 0, .none, .none] }) rfl
    rw [hz] at this; exact this
  refine ⟨⟨_, he, rfl⟩, h _ he (Heap.get?_push_of_some _ (Heap.get?_push_size _ B.free)) (by rw [Heap.size_push, hz]) fun b o x => Heap.get?_push_of_some _ (Heap.get?_push_of_some _ x)⟩
end HtX
end PySem
namespace Ht
open PySem PySem.Spec PyProof.Rows L2
def iSeq (K : PySem.W.Frag) (tl : TE) : TI := fun σ H R => tl σ H fun x H1 => (∃ a, x = .ref a ∧ (∃ xs, SqL K H1 a xs) ∧ R (Itl K a) H1) ∨ (∃ a, x = .ref a ∧ (∃ xs, SqT K H1 a xs) ∧ R (Itt K a) H1) ∨ ∃ z, x = .str z ∧ R (Its z) H1
section
variable {X : Cx} {tg : Expr}
theorem pi_seq {l : Expr} {tl : TE} (hl : PE X l tl) : PI X tg l (iSeq X.K tl) := by
  refine ⟨fun pins s σ H R I h => ?_⟩
  refine thn (hl.run pins s σ H _ I h) fun v s1 ⟨x, H1, I1, r1, q1⟩ => ?_
  rcases q1 with ⟨a, e, hq, q⟩ | ⟨a, e, hq, q⟩ | ⟨z, e, q⟩
  · subst e
    cases r1
    obtain ⟨xs, hq⟩ := hq
    obtain ⟨its, rv, p, hz⟩ := I1.list hq
    refine wpAny_pyIter_list p.isList ?_
    refine ⟨s1.heap.objs.size, [s1.heap.objs.size], _, _, H1, rfl, I1.kept (t' := s1.toks) fun b o e => Heap.get?_push_of_some _ e, turn_list a _, ⟨_, Heap.get?_push_size _ rfl, rfl, rfl⟩, fun b hb => ?_, q⟩
    have e : b = s1.heap.objs.size := by simpa using hb
    subst e
    exact I1.fpOk (Nat.le_refl _) (I1.hok.fresh (Nat.le_refl _))
  · subst e
    cases r1
    obtain ⟨xs, hq⟩ := hq
    obtain ⟨its, rv, p, hz⟩ := I1.tuple hq
    refine wpAny_pyIter_tuple (show s1.heap.IsTuple a its.toArray from p) ?_
    refine ⟨s1.heap.objs.size, [s1.heap.objs.size], _, _, H1, rfl, I1.kept (t' := s1.toks) fun b o e => Heap.get?_push_of_some _ e, turn_tuple a _, ⟨_, Heap.get?_push_size _ rfl, rfl, rfl⟩, fun b hb => ?_, q⟩
    have e : b = s1.heap.objs.size := by simpa using hb
    subst e
    exact I1.fpOk (Nat.le_refl _) (I1.hok.fresh (Nat.le_refl _))
  · subst e
    obtain ⟨t, rfl⟩ := r1
    have mk : ∀ (ty : String) (hty : ty = "str_ascii_iterator" ∨ ty = "str_iterator"), PIE X pins σ tg R (.ref s1.heap.objs.size) { s1 with heap := s1.heap.push { cls := .type ty, data := .fields #[.str z t, .int 0 0] } } := fun ty hty =>
      ⟨s1.heap.objs.size, [s1.heap.objs.size], _, _, H1, rfl, I1.kept (t' := s1.toks) fun b o e => Heap.get?_push_of_some _ e, turn_str _ z t ty hty, ⟨_, Heap.get?_push_size _ rfl, rfl, rfl⟩, fun b hb => by
        have e : b = s1.heap.objs.size := by simpa using hb
        subst e
        exact I1.fpOk (Nat.le_refl _) (I1.hok.fresh (Nat.le_refl _)), q⟩
    cases ha : z.cps.all (· < 128)
    · exact wpAny_pyIter_wide ha (mk "str_iterator" (.inr rfl))
    · exact wpAny_pyIter_ascii ha (mk "str_ascii_iterator" (.inl rfl))
theorem itd_list {K : KZ} {a : Addr} {ds : List D} {H0 : Hp} {M0 : Mp} {G : Mp → Prop} (h : ∀ H M, GrowX K.Z H0 M0 H M → AbsM K H M → G M → ∃ xs, SqL K.K H a xs ∧ Reps K H M ds xs) : ItD K (Itl K.K a) ds G H0 M0 where
  stop := fun H M g m q => let ⟨xs, h1, h2⟩ := h H M g m q; ⟨xs, h1, by rw [h2.len]; exact Nat.le_refl _⟩
  go := fun i d H M e g m q => let ⟨xs, h1, h2⟩ := h H M g m q; let ⟨x, h3, _⟩ := h2.get e; ⟨xs, x, h1, h3⟩
  yld := fun i d H M x H' e g m q ⟨e2, y⟩ => by
    subst e2
    obtain ⟨xs, h1, h2⟩ := h _ M g m q
    obtain ⟨d', h3, h4⟩ := h2.get' (y xs h1)
    rw [e] at h3; cases h3
    exact ⟨Grow.refl _ _, m, h4⟩
theorem itd_tup {K : KZ} {a : Addr} {ds : List D} {H0 : Hp} {M0 : Mp} (h : ∀ H M, GrowX K.Z H0 M0 H M → AbsM K H M → ∃ xs, SqT K.K H a xs ∧ Reps K H M ds xs) : ItD K (Itt K.K a) ds (fun _ => True) H0 M0 where
  stop := fun H M g m q => let ⟨xs, h1, h2⟩ := h H M g m; ⟨xs, h1, by rw [h2.len]; exact Nat.le_refl _⟩
  go := fun i d H M e g m q => let ⟨xs, h1, h2⟩ := h H M g m; let ⟨x, h3, _⟩ := h2.get e; ⟨xs, x, h1, h3⟩
  yld := fun i d H M x H' e g m q ⟨e2, y⟩ => by
    subst e2
    obtain ⟨xs, h1, h2⟩ := h _ M g m
    obtain ⟨d', h3, h4⟩ := h2.get' (y xs h1)
    rw [e] at h3; cases h3
    exact ⟨Grow.refl _ _, m, h4⟩
def signsD (z : Str) : List D := z.cps.toList.map fun c => .str ⟨#[c]⟩
theorem itd_str {K : KZ} {z : Str} {H0 : Hp} {M0 : Mp} : ItD K (Its z) (signsD z) (fun _ => True) H0 M0 where
  stop := fun H M g m q => by show z.cps.size ≤ _; simp [signsD]
  go := fun i d H M e g m q => by
    have : i < (signsD z).length := (List.getElem?_eq_some_iff.mp e).1
    show i < z.cps.size
    simpa [signsD] using this
  yld := fun i d H M x H' e g m q ⟨e2, c, h1, h2⟩ => by
    subst e2; subst h2
    refine ⟨Grow.refl _ _, m, ?_⟩
    have e3 : d = .str ⟨#[c]⟩ := by
      unfold signsD at e
      rw [List.getElem?_map, Array.getElem?_toList, h1] at e
      exact (Option.some.inj e).symm
    subst e3; rfl
def walkM (M : Mp) (x : D) : Option (List D × (Mp → Prop)) :=
  match x with
  | .tup ds => some (ds, fun _ => True)
  | .tupP ds => some (ds, fun _ => True)
  | .lst ds => some (ds, fun _ => True)
  | .str z => some (signsD z, fun _ => True)
  | .ref a => match M a with
    | some (.lst ds) => some (ds, fun M' => M' a = some (.lst ds))
    | _ => none
  | _ => none
def dSeqI (te : DE_) : DI_ := fun δ M R => te δ M fun x M1 => ∃ p, walkM M1 x = some p ∧ R p.1 p.2 M1
theorem di_seq {e : Expr} {te : DE_} (h : DE X e te) : DI X tg e (dSeqI te) :=
  PI.imp (pi_seq h) fun σ H R ⟨Z, δ, M, R', A, q, k⟩ => ⟨Z, δ, M, _, A, q, fun v d H1 M1 g m r ⟨⟨ds, G⟩, e, q⟩ => by
    cases d with
    | tup es =>
      obtain ⟨a, xs, e', t, r⟩ := r
      cases e
      exact .inr (.inl ⟨a, e', ⟨xs, t.sq⟩, k _ ds _ H1 M1 g m (fun Z' hz => itd_tup (K := ⟨X.K, Z'⟩) fun H2 M2 g2 m2 => ⟨xs, ((t.zed (zed_of hz)).growX g2).sq, (r.zed (zed_of hz)).growX g2⟩) q⟩)
    | tupP es =>
      obtain ⟨a, xs, e', ⟨o, ⟨h0, nz, t⟩, ho⟩, r⟩ := r
      cases e
      exact .inr (.inl ⟨a, e', ⟨xs, .inl (.inr ⟨o, t⟩)⟩, k _ ds _ H1 M1 g m (fun Z' hz => itd_tup (K := ⟨X.K, Z'⟩) fun H2 M2 g2 m2 => ⟨xs, .inl (.inr ⟨o, (g2 a _ (zed_of hz a _ t nz) t h0).1⟩), (r.zed (zed_of hz)).growX g2⟩) q⟩)
    | lst es =>
      obtain ⟨a, xs, e', ⟨h0, nz, t⟩, r⟩ := r
      cases e
      exact .inl ⟨a, e', ⟨xs, .of t⟩, k _ ds _ H1 M1 g m (fun Z' hz => itd_list (K := ⟨X.K, Z'⟩) fun H2 M2 g2 m2 _ => ⟨xs, .of (g2 a _ (zed_of hz a _ t nz) t h0).1, (r.zed (zed_of hz)).growX g2⟩) q⟩
    | str z => cases e; exact .inr (.inr ⟨z, r, k _ _ _ H1 M1 g m (fun Z' _ => itd_str) q⟩)
    | ref a =>
      cases hm : M1 a with
      | none => simp [walkM, hm] at e
      | some c =>
        cases c with
        | lst es =>
          simp only [walkM, hm, Option.some.injEq, Prod.mk.injEq] at e
          obtain ⟨e1, e2⟩ := e
          subst e1; subst e2
          obtain ⟨xs, h1, h2⟩ := m.cell a _ hm
          exact .inl ⟨a, r, ⟨xs, .of h1⟩, k _ es _ H1 M1 g m (fun Z' _ => itd_list (K := ⟨X.K, Z'⟩) (a := a) (ds := es) (G := fun M' => M' a = some (.lst es)) fun H2 M2 g2 m2 q2 => let ⟨ys, h3, h4⟩ := m2.cell a (.lst es) q2; ⟨ys, .of h3, h4⟩) q⟩
        | dic _ => simp [walkM, hm] at e
        | ins _ _ => simp [walkM, hm] at e
    | _ => cases e⟩
def rangeD (lo : Int) (n : Nat) : List D := (List.range n).map fun (i : Nat) => .int (lo + i)
theorem itd_range {K : KZ} {lo : Int} {n : Nat} {H0 : Hp} {M0 : Mp} : ItD K (Itr lo n) (rangeD lo n) (fun _ => True) H0 M0 where
  stop := fun H M g m q => by show n ≤ _; simp [rangeD]
  go := fun i d H M e g m q => by
    have : i < (rangeD lo n).length := (List.getElem?_eq_some_iff.mp e).1
    show i < n
    simpa [rangeD] using this
  yld := fun i d H M x H' e g m q ⟨e2, h2⟩ => by
    subst e2; subst h2
    have : i < (rangeD lo n).length := (List.getElem?_eq_some_iff.mp e).1
    have hi : i < n := by simpa [rangeD] using this
    refine ⟨Grow.refl _ _, m, ?_⟩
    have e3 : d = .int (lo + i) := by
      unfold rangeD at e
      rw [List.getElem?_map, List.getElem?_range hi] at e
      exact (Option.some.inj e).symm
    subst e3; rfl
def dRange1 (te : DE_) : DI_ := fun δ M R => te δ M fun x M1 => ∃ n : Int, x = .int n ∧ n < 2 ^ 62 ∧ -(2 ^ 62) ≤ n ∧ R (rangeD 0 n.toNat) (fun _ => True) M1
theorem di_range1 {e : Expr} {te : DE_} {p pos : Pos} (h : DE X e te) (hm : X.mg "range" = none) (hg : Gl X "range" := by rfl) (hs : starEach [e] X.env = [(false, eval e X.env)] := by rfl) : DI X tg (.Call (.Name "range" p) [e] [] pos) (dRange1 te) :=
  PI.imp (pi_range1 hg hm (pa_cons h pa_nil (by rw [hs]; rfl)) hs) fun σ H R ⟨Z, δ, M, R', A, q, k⟩ => ⟨Z, δ, M, _, A, q, fun v d H1 M1 g m r ⟨n, e, h1, h2, q⟩ => by
    subst e
    exact ⟨n, by rw [show v = V.int n from r], h2, h1, k _ _ _ H1 M1 g m (fun Z' _ => itd_range) q⟩⟩
def IteT (K : PySem.W.Frag) (a : Addr) : It :=
  ⟨fun i H => ∃ (xs : List V) (x : V), SqT K H a xs ∧ xs[i]? = some x, fun i H v H' => ∃ T x, v = .ref T ∧ H T = none ∧ H' = upd H T (.tup [.int (i : Nat), x]) ∧ ∀ xs, SqT K H a xs → xs[i]? = some x, fun i H => ∃ xs : List V, SqT K H a xs ∧ xs.length = i⟩
theorem turn_enumT {P : Program} {w : World} {K : PySem.W.Frag} {elts : List Expr} {kk : Nat} {tpos : Pos} (a e it : Addr) :
    Turn P w K (.Tuple elts kk tpos) (IteT K a) [e, it] e (fun i h => (∃ old, IsEnum h e it ((i : Nat) : Int) old) ∧ h.IsTupleIter it a i ∧ e ≠ it ∧ a ≠ it) where
  mem := by simp
  obj := fun i h st b hb => by
    obtain ⟨⟨old, he⟩, ⟨o, ho, hc, hd⟩, _⟩ := st
    have e' : b = e ∨ b = it := by simpa using hb
    rcases e' with z | z
    · rw [z]; exact ⟨_, he, fun v q => nomatch q⟩
    · rw [z]; exact ⟨o, ho, fun v q => by rw [hd] at q; cases q⟩
  keep := fun i h h' st k => let ⟨⟨old, he⟩, hi, hne⟩ := st; ⟨⟨old, k e (by simp) _ he⟩, hi.at fun o q => k it (by simp) o q, hne⟩
  item := by
    intro X hP hw hK hc i pins s σ H E I hf st hg
    subst hP hw hK
    obtain ⟨⟨old, he⟩, hit, hne, hait⟩ := st
    obtain ⟨xs, x, hq, hx⟩ := hg
    obtain ⟨its, rv, p, hz⟩ := I.tuple hq
    obtain ⟨u, hu, ru⟩ := rv.get hx
    have hel : e < s.heap.objs.size := Heap.lt_size he
    have hil : it < s.heap.objs.size := by obtain ⟨_, q, _⟩ := hit; exact Heap.lt_size q
    have hae : a ≠ e := fun z => by
      obtain ⟨o, ho, hc, _⟩ := p
      rw [z, he] at ho; cases ho; exact absurd hc (by show ¬ (Value.type "enumerate" = .type "tuple"); decide)
    have hil2 : i < its.toArray.size := by
      have := (List.getElem?_eq_some_iff.mp hu).1
      simpa using this
    refine wpAny_pyNext_enum_itemD (Draws.tuple (A := X.A.in1) (I.ok.hd hc) it a hait its.toArray) he ⟨hit, p⟩ hil2 hne (by simp only [List.mem_cons, List.not_mem_nil, or_false, not_or]; exact ⟨hne, Ne.symm hae⟩) fun x' h' tk hx' ho hs' hT hsz hk => ?_
    have hxu : x' = u := by
      have h1 : its.toArray[i]? = some x' := hx'
      have h2 : its.toArray[i]? = some u := by simpa using hu
      rw [h2] at h1; exact (Option.some.inj h1).symm
    subst hxu
    refine ⟨_, rfl, wpAny_letOwnedTupleGo_enum (s := { s with heap := h', toks := tk + 1 }) ho fun h'' he' sb => ?_⟩
    have hT2 : h''.get? s.heap.objs.size = some { cls := .type "tuple", data := .seq #[.int i tk, x'] } := (sb.2 _ (Nat.ne_of_gt hel)).trans hT
    have new : ObjOk X.prog X.w (upd H s.heap.objs.size (.tup [.int (i : Nat), x])) h'' s.heap.objs.size (.tup [.int (i : Nat), x]) :=
      ⟨by show 2 ≤ sizeLine; decide, [.int i tk, x'], .cons ⟨_, rfl⟩ (.cons ru .nil), ⟨_, hT2, rfl, _, rfl⟩⟩
    have I1 : Inv X pins σ (upd H s.heap.objs.size (.tup [.int (i : Nat), x])) { s with heap := h'', toks := tk + 1 } :=
      I.turnedNew (ch := [e, it]) (fun b ob hb q => (sb.2 b (fun z => hb (by simp [z]))).trans (hk b ob (fun z => hb (by simp [z])) (fun z => hb (by simp [z])) q)) hf (Nat.le_refl _) new
    refine ⟨.ref s.heap.objs.size, _, I1, rfl, ⟨_, x, rfl, I.hok.fresh (Nat.le_refl _), rfl, fun ys hy => by rw [I.tuple_inj hy hq]; exact hx⟩, ⟨⟨x', ?_⟩, hs'.1.at fun o q => (sb.2 it (Ne.symm hne)).trans q, hne, hait⟩, fun b hb => ?_⟩
    · have e1 : ((i + 1 : Nat) : Int) = (i : Int) + 1 := by omega
      rw [e1]; exact he'
    · have hb' : b < s.heap.objs.size := by
        have e' : b = e ∨ b = it := by simpa using hb
        rcases e' with z | z
        · rw [z]; exact hel
        · rw [z]; exact hil
      rw [upd_ne (Nat.ne_of_lt hb')]
      exact (hf b hb).1
  done := by
    intro X hP hw hK hc i pins s σ H E I hf st hg
    subst hP hw hK
    obtain ⟨⟨old, he⟩, hit, hne, hait⟩ := st
    obtain ⟨xs, hq, hx⟩ := hg
    obtain ⟨its, rv, p, hz⟩ := I.tuple hq
    obtain ⟨f0, f1, f2, f3, f4, f5⟩ := hf it (by simp)
    have hl := rv.length
    have hsz : its.toArray.size = i := by rw [List.size_toArray, ← hl]; exact hx
    exact wpAny_pyNext_enum_endD (Draws.tuple (A := X.A.in1) (I.ok.hd hc) it a hait its.toArray) he (by rw [hsz]; exact ⟨hit, p⟩) fun h' eb => ⟨rfl, I.turned (t' := s.toks) (fun b o hb q => eb b o hb q) f0 f1 f3 f4 f5⟩
  self := fun A i s Q E st h => let ⟨⟨_, he⟩, _⟩ := st; wpAny_pyIter_enum he h
end
end Ht
set_option Elab.async false
set_option linter.all false
set_option maxRecDepth 100000
namespace Ht
open PySem PySem.Spec PyProof.Rows L2
section
variable {X : Cx}
def iEnum2 (K : PySem.W.Frag) (ta : TA) : TI := fun σ H R => ta σ H fun vs H1 => ∃ a, vs = [.ref a] ∧ ((∃ xs, SqL K H1 a xs ∧ R (Ite K a) H1) ∨ ∃ xs, SqT K H1 a xs ∧ R (IteT K a) H1)
theorem pi_enum2 {e : Expr} {ta : TA} {p pos tpos : Pos} {elts : List Expr} {kk : Nat} (hg : Gl X "enumerate") (hm : X.mg "enumerate" = none) (ha : PA X [e] ta) (hs : starEach [e] X.env = [(false, eval e X.env)] := by rfl) :
    PI X (.Tuple elts kk tpos) (.Call (.Name "enumerate" p) [e] [] pos) (iEnum2 X.K ta) := by
  refine ⟨fun pins s σ H R I h => ?_⟩
  refine Call_ (ld_blt I hg hm boot_enumerate (PyProof.Rows.callWith_type1 (thn (ha.run pos pins s σ H _ I h) fun us s1 ⟨vs, H1, I1, r1, q1⟩ => ?_) hs rfl))
  · obtain ⟨a, ea, q1⟩ := q1
    subst ea
    cases r1 with
    | cons r rr =>
      cases rr
      cases r
      have fin : ∀ {b : Addr}, b ∈ [s1.heap.objs.size + 1, s1.heap.objs.size] → FpOk X pins H1 b := fun {b} hb => by
        have e' : b = s1.heap.objs.size + 1 ∨ b = s1.heap.objs.size := by simpa using hb
        have hle : s1.heap.objs.size ≤ b := by
          rcases e' with z | z
          · rw [z]; exact Nat.le_add_right _ _
          · rw [z]; exact Nat.le_refl _
        exact I1.fpOk hle (I1.hok.fresh hle)
      rcases q1 with ⟨xs, hq, q⟩ | ⟨xs, hq, q⟩
      · obtain ⟨its, rv, p', hz⟩ := I1.list hq
        refine call_enumerate_list p'.isList fun h' he hit hsz hk => wpAny_pyIter_enum he ?_
        have I2 : Inv X pins σ H1 { s1 with heap := h' } := I1.kept (t' := s1.toks) hk
        exact ⟨s1.heap.objs.size + 1, [s1.heap.objs.size + 1, s1.heap.objs.size], _, _, H1, rfl, I2, turn_enum a (s1.heap.objs.size + 1) s1.heap.objs.size, ⟨⟨.none, he⟩, hit, Nat.succ_ne_self _⟩, fun b hb => fin hb, q⟩
      · obtain ⟨its, rv, p', hz⟩ := I1.tuple hq
        refine HtX.call_enumerate1 (begins_tuple a its.toArray) p' fun h' he ho hsz hk => wpAny_pyIter_enum he ?_
        have I2 : Inv X pins σ H1 { s1 with heap := h' } := I1.kept (t' := s1.toks) hk
        have hne : a ≠ s1.heap.objs.size := by
          obtain ⟨o, q, _⟩ := p'
          exact Nat.ne_of_lt (Heap.lt_size q)
        exact ⟨s1.heap.objs.size + 1, [s1.heap.objs.size + 1, s1.heap.objs.size], _, _, H1, rfl, I2, turn_enumT a (s1.heap.objs.size + 1) s1.heap.objs.size, ⟨⟨.none, he⟩, ⟨_, ho, rfl, rfl⟩, Nat.succ_ne_self _, hne⟩, fun b hb => fin hb, q⟩
def walk2 (M : Mp) (x : D) : Option (List D × (Mp → Prop)) :=
  match x with
  | .str _ => none
  | x => walkM M x
theorem walk2_at {F : PySem.W.Frag} {Z : Addr → Prop} {H1 : Hp} {M1 : Mp} (m : AbsM ⟨F, Z⟩ H1 M1) {d : D} {v : V} {ds : List D} {G : Mp → Prop} (e : walk2 M1 d = some (ds, G)) (r : Rep ⟨F, Z⟩ H1 M1 d v) :
    ∃ a, v = .ref a ∧ ((∀ Z', (∀ a, Z' a → Z a ∨ H1 a = none) → ∀ H M, GrowX Z' H1 M1 H M → AbsM ⟨F, Z'⟩ H M → G M → ∃ xs, SqL F H a xs ∧ Reps ⟨F, Z'⟩ H M ds xs) ∨ (∀ Z', (∀ a, Z' a → Z a ∨ H1 a = none) → ∀ H M, GrowX Z' H1 M1 H M → AbsM ⟨F, Z'⟩ H M → G M → ∃ xs, SqT F H a xs ∧ Reps ⟨F, Z'⟩ H M ds xs)) ∧ G M1 := by
  cases d with
  | tup es =>
    obtain ⟨a, xs, e', t, r⟩ := r
    cases e
    exact ⟨a, e', .inr fun Z' hz H M g m _ => ⟨xs, ((t.zed (zed_of hz)).growX (K := ⟨F, Z'⟩) g).sq, (r.zed (zed_of hz)).growX (K := ⟨F, Z'⟩) g⟩, trivial⟩
  | tupP es =>
    obtain ⟨a, xs, e', ⟨o, ⟨h0, nz, t⟩, ho⟩, r⟩ := r
    cases e
    exact ⟨a, e', .inr fun Z' hz H M g m _ => ⟨xs, .inl (.inr ⟨o, (g a _ (zed_of hz a _ t nz) t h0).1⟩), (r.zed (zed_of hz)).growX (K := ⟨F, Z'⟩) g⟩, trivial⟩
  | lst es =>
    obtain ⟨a, xs, e', ⟨h0, nz, t⟩, r⟩ := r
    cases e
    exact ⟨a, e', .inl fun Z' hz H M g m _ => ⟨xs, .of (g a _ (zed_of hz a _ t nz) t h0).1, (r.zed (zed_of hz)).growX (K := ⟨F, Z'⟩) g⟩, trivial⟩
  | ref a =>
    cases hm : M1 a with
    | none => simp [walk2, walkM, hm] at e
    | some c =>
      cases c with
      | lst es =>
        simp only [walk2, walkM, hm, Option.some.injEq, Prod.mk.injEq] at e
        obtain ⟨e1, e2⟩ := e
        subst e1; subst e2
        exact ⟨a, r, .inl fun Z' hz H M g m q => let ⟨ys, h3, h4⟩ := m.cell a (.lst es) q; ⟨ys, .of h3, h4⟩, hm⟩
      | dic _ => simp [walk2, walkM, hm] at e
      | ins _ _ => simp [walk2, walkM, hm] at e
  | str z => cases e
  | _ => cases e
def enumD (ds : List D) : List D := (List.range ds.length).map fun i => .tup [.int (i : Nat), ds.getD i .non]
theorem enumD_get {ds : List D} {i : Nat} {p : D} (h : (enumD ds)[i]? = some p) : ∃ d, ds[i]? = some d ∧ p = .tup [.int (i : Nat), d] := by
  have hl : i < (enumD ds).length := (List.getElem?_eq_some_iff.mp h).1
  have hi : i < ds.length := by simpa [enumD] using hl
  unfold enumD at h
  rw [List.getElem?_map, List.getElem?_range hi] at h
  have e : ds[i]? = some ds[i] := by simp [hi]
  refine ⟨ds[i], e, ?_⟩
  have h2 := Option.some.inj h
  rw [← h2]
  show D.tup [D.int (i : Nat), ds.getD i D.non] = _
  rw [List.getD_eq_getElem?_getD, e]; rfl
theorem pair_new {K : KZ} {H : Hp} {M : Mp} {T : Addr} {x y : D} {v u : V} (m : AbsM K H M) (hT : H T = none) (r1 : Rep K H M x v) (r2 : Rep K H M y u) : Grow H M (upd H T (.tup [v, u])) M ∧ AbsM K (upd H T (.tup [v, u])) M ∧ Rep K (upd H T (.tup [v, u])) M (.tup [x, y]) (.ref T) :=
  ⟨Grow.new m hT, m.new hT, rep_newT m hT ⟨v, _, rfl, r1, u, _, rfl, r2, rfl⟩⟩
def dEnum (te : DE_) : DI_ := fun δ M R => te δ M fun x M1 => ∃ p, walk2 M1 x = some p ∧ R (enumD p.1) p.2 M1
theorem di_enum {e : Expr} {te : DE_} {p pos tpos : Pos} {elts : List Expr} {kk : Nat} (h : DE X e te) (hm : X.mg "enumerate" = none) (hg : Gl X "enumerate" := by rfl) (hs : starEach [e] X.env = [(false, eval e X.env)] := by rfl) :
    DI X (.Tuple elts kk tpos) (.Call (.Name "enumerate" p) [e] [] pos) (dEnum te) :=
  PI.imp (pi_enum2 hg hm (pa_cons h pa_nil (by rw [hs]; rfl)) hs) fun σ H R ⟨Z, δ, M, R', A, q, k⟩ => ⟨Z, δ, M, _, A, q, fun v d H1 M1 g m r ⟨⟨ds, G⟩, e, q⟩ => by
    obtain ⟨a, ev, h, hG⟩ := walk2_at m e r
    subst ev
    refine ⟨a, rfl, ?_⟩
    have hln : (enumD ds).length = ds.length := by simp [enumD]
    rcases h with h | h
    · obtain ⟨xs, h1, h2⟩ := h Z (fun _ z => .inl z) H1 M1 (Grow.refl _ _).x m hG
      refine .inl ⟨xs, h1, k _ _ G H1 M1 g m (fun Z' hz => ⟨fun H M g m q => ?_, fun i d H M e g m q => ?_, fun i d H M x H' e g m q y => ?_⟩) q⟩
      · obtain ⟨xs, h1, h2⟩ := h Z' hz H M g m q
        exact ⟨xs, h1, by rw [hln, h2.len]; exact Nat.le_refl _⟩
      · obtain ⟨xs, h1, h2⟩ := h Z' hz H M g m q
        obtain ⟨d', e2, _⟩ := enumD_get e
        obtain ⟨x, h3, _⟩ := h2.get e2
        exact ⟨xs, x, h1, h3⟩
      · obtain ⟨T, x', ev, hT, eH, hx⟩ := y
        obtain ⟨xs, h1, h2⟩ := h Z' hz H M g m q
        obtain ⟨d', e2, e3⟩ := enumD_get e
        obtain ⟨d2, e4, r4⟩ := h2.get' (hx xs h1)
        rw [e2] at e4; cases e4
        subst ev; subst eH; subst e3
        exact pair_new m hT (x := .int (i : Nat)) rfl r4
    · obtain ⟨xs, h1, h2⟩ := h Z (fun _ z => .inl z) H1 M1 (Grow.refl _ _).x m hG
      refine .inr ⟨xs, h1, k _ _ G H1 M1 g m (fun Z' hz => ⟨fun H M g m q => ?_, fun i d H M e g m q => ?_, fun i d H M x H' e g m q y => ?_⟩) q⟩
      · obtain ⟨xs, h1, h2⟩ := h Z' hz H M g m q
        exact ⟨xs, h1, by rw [hln, h2.len]⟩
      · obtain ⟨xs, h1, h2⟩ := h Z' hz H M g m q
        obtain ⟨d', e2, _⟩ := enumD_get e
        obtain ⟨x, h3, _⟩ := h2.get e2
        exact ⟨xs, x, h1, h3⟩
      · obtain ⟨T, x', ev, hT, eH, hx⟩ := y
        obtain ⟨xs, h1, h2⟩ := h Z' hz H M g m q
        obtain ⟨d', e2, e3⟩ := enumD_get e
        obtain ⟨d2, e4, r4⟩ := h2.get' (hx xs h1)
        rw [e2] at e4; cases e4
        subst ev; subst eH; subst e3
        exact pair_new m hT (x := .int (i : Nat)) rfl r4⟩
def zipD (as bs : List D) : List D := (as.zip bs).map fun p => .tup [p.1, p.2]
theorem zipD_get {as bs : List D} {i : Nat} {p : D} (h : (zipD as bs)[i]? = some p) : ∃ x y, as[i]? = some x ∧ bs[i]? = some y ∧ p = .tup [x, y] := by
  unfold zipD at h
  rw [List.getElem?_map] at h
  obtain ⟨⟨x, y⟩, h1, h2⟩ := Option.map_eq_some_iff.mp h
  obtain ⟨h3, h4⟩ := List.getElem?_zip_eq_some.mp h1
  exact ⟨x, y, h3, h4, h2.symm⟩
theorem zipD_len (as bs : List D) : (zipD as bs).length = min as.length bs.length := by simp [zipD]
def walkZ (M : Mp) (x : D) : Option (List D × (Mp → Prop)) :=
  match x with
  | .tupP _ => none
  | x => walk2 M x
def isTup : D → Bool
  | .tup _ => true
  | _ => false
theorem walk2_tup {M : Mp} {x : D} {ds : List D} {G : Mp → Prop} (e : walkZ M x = some (ds, G)) (t : isTup x = true) : x = .tup ds ∧ G = fun _ => True := by
  cases x <;> first | (cases t; done) | (cases e; exact ⟨rfl, rfl⟩)
def dZip (ta tb : DE_) : DI_ := fun δ M R => ta δ M fun x M1 => tb δ M1 fun y M2 => isTup x = isTup y ∧ ∃ p q, walkZ M2 x = some p ∧ walkZ M2 y = some q ∧ R (zipD p.1 q.1) (fun M => p.2 M ∧ q.2 M) M2
theorem walk2_l {F : PySem.W.Frag} {Z : Addr → Prop} {H1 : Hp} {M1 : Mp} (m : AbsM ⟨F, Z⟩ H1 M1) {d : D} {v : V} {ds : List D} {G : Mp → Prop} (e : walkZ M1 d = some (ds, G)) (t : isTup d = false) (r : Rep ⟨F, Z⟩ H1 M1 d v) :
    ∃ a, v = .ref a ∧ (∀ Z', (∀ a, Z' a → Z a ∨ H1 a = none) → ∀ H M, GrowX Z' H1 M1 H M → AbsM ⟨F, Z'⟩ H M → G M → ∃ xs, SqL F H a xs ∧ Reps ⟨F, Z'⟩ H M ds xs) ∧ G M1 := by
  cases d with
  | tup es => cases t
  | lst es =>
    obtain ⟨a, xs, e', ⟨h0, nz, t'⟩, r⟩ := r
    cases e
    exact ⟨a, e', fun Z' hz H M g m _ => ⟨xs, .of (g a _ (zed_of hz a _ t' nz) t' h0).1, (r.zed (zed_of hz)).growX (K := ⟨F, Z'⟩) g⟩, trivial⟩
  | ref a =>
    cases hm : M1 a with
    | none => simp [walkZ, walk2, walkM, hm] at e
    | some c =>
      cases c with
      | lst es =>
        simp only [walkZ, walk2, walkM, hm, Option.some.injEq, Prod.mk.injEq] at e
        obtain ⟨e1, e2⟩ := e
        subst e1; subst e2
        exact ⟨a, r, fun Z' hz H M g m q => let ⟨ys, h3, h4⟩ := m.cell a (.lst es) q; ⟨ys, .of h3, h4⟩, hm⟩
      | dic _ => simp [walkZ, walk2, walkM, hm] at e
      | ins _ _ => simp [walkZ, walk2, walkM, hm] at e
  | str z => cases e
  | tupP z => cases e
  | _ => cases e
theorem di_zip {e e2 : Expr} {ta tb : DE_} {p pos tpos : Pos} {elts : List Expr} {kk : Nat} (h : DE X e ta) (h2 : DE X e2 tb) (hm : X.mg "zip" = none) (hg : Gl X "zip" := by rfl)
    (hs2 : starEach [e2] X.env = [(false, eval e2 X.env)] := by rfl) (hs : starEach [e, e2] X.env = (false, eval e X.env) :: starEach [e2] X.env := by rfl) (hpl : (backTo pos (starEach [e2] X.env)).any (·.1) = false := by rfl) :
    DI X (.Tuple elts kk tpos) (.Call (.Name "zip" p) [e, e2] [] pos) (dZip ta tb) :=
  PI.imp (RZ.pi_zipA hg hm (pa_cons h (pa_cons h2 pa_nil (by rw [hs2]; rfl)) hs) hs hpl) fun σ H R ⟨Z, δ, M, R', A, q, k⟩ =>
    ⟨Z, δ, M, _, A, q, fun v d H1 M1 g1 m1 r1 q => ⟨Z, δ, M1, _, A.grow g1 m1, q, fun v' d' H2 M2 g2 m2 r2 ⟨tt, ⟨ds, G⟩, ⟨es, G'⟩, e1, e2, q⟩ => by
      cases ht : isTup d with
      | true =>
        rw [ht] at tt
        obtain ⟨rfl, rfl⟩ := walk2_tup e1 ht
        obtain ⟨rfl, rfl⟩ := walk2_tup e2 tt.symm
        obtain ⟨a, xs, ea, ta, ra⟩ := r1.grow g2
        obtain ⟨b, ys, eb, tb, rb⟩ := r2
        subst ea; subst eb
        refine ⟨a, b, xs, ys, rfl, .inr ⟨ta.sq, tb.sq, k _ (zipD ds es) _ H2 M2 (g1.trans g2) m2 (fun Z' hz => ⟨fun H M g m q => ?_, fun i d H M e g m q => ?_, fun i d H M x H' e g m q y => ?_⟩) q⟩⟩
        all_goals
          have ta := ta.zed (zed_of hz)
          have tb := tb.zed (zed_of hz)
          have ra := ra.zed (zed_of hz)
          have rb := rb.zed (zed_of hz)
        · refine ⟨xs, ys, (ta.growX g).sq, (tb.growX g).sq, ?_⟩
          rw [zipD_len, ra.len, rb.len]; omega
        · obtain ⟨x, y, h1, h2, _⟩ := zipD_get e
          obtain ⟨u, h3, _⟩ := ra.get h1
          obtain ⟨w, h4, _⟩ := rb.get h2
          exact ⟨xs, ys, u, w, (ta.growX g).sq, (tb.growX g).sq, h3, h4⟩
        · obtain ⟨T, x', y', ev, hT, eH, hx, hy⟩ := y
          obtain ⟨x2, y2, h1, h2, e3⟩ := zipD_get e
          obtain ⟨u, e4, r4⟩ := ra.get' (hx xs (ta.growX g).sq)
          obtain ⟨w, e5, r5⟩ := rb.get' (hy ys (tb.growX g).sq)
          rw [h1] at e4; cases e4
          rw [h2] at e5; cases e5
          subst ev; subst eH; subst e3
          exact pair_new m hT (r4.growX g) (r5.growX g)
      | false =>
        rw [ht] at tt
        obtain ⟨a, ea, ha, ga⟩ := walk2_l m2 e1 ht (r1.grow g2)
        obtain ⟨b, eb, hb, gb⟩ := walk2_l m2 e2 tt.symm r2
        subst ea; subst eb
        obtain ⟨xs, h1, h2⟩ := ha Z (fun _ z => .inl z) H2 M2 (Grow.refl _ _).x m2 ga
        obtain ⟨ys, h3, h4⟩ := hb Z (fun _ z => .inl z) H2 M2 (Grow.refl _ _).x m2 gb
        refine ⟨a, b, xs, ys, rfl, .inl ⟨h1, h3, k _ (zipD ds es) _ H2 M2 (g1.trans g2) m2 (fun Z' hz => ⟨fun H M g m q => ?_, fun i d H M e g m q => ?_, fun i d H M x H' e g m q y => ?_⟩) q⟩⟩
        · obtain ⟨xs, h1, h2⟩ := ha Z' hz H M g m q.1
          obtain ⟨ys, h3, h4⟩ := hb Z' hz H M g m q.2
          refine ⟨xs, ys, h1, h3, ?_⟩
          rw [zipD_len, h2.len, h4.len]; omega
        · obtain ⟨x, y, f1, f2, _⟩ := zipD_get e
          obtain ⟨xs, h1, h2⟩ := ha Z' hz H M g m q.1
          obtain ⟨ys, h3, h4⟩ := hb Z' hz H M g m q.2
          obtain ⟨u, f3, _⟩ := h2.get f1
          obtain ⟨w, f4, _⟩ := h4.get f2
          exact ⟨xs, ys, u, w, h1, h3, f3, f4⟩
        · obtain ⟨T, x', y', ev, hT, eH, hx, hy⟩ := y
          obtain ⟨x2, y2, f1, f2, e3⟩ := zipD_get e
          obtain ⟨xs, h1, h2⟩ := ha Z' hz H M g m q.1
          obtain ⟨ys, h3, h4⟩ := hb Z' hz H M g m q.2
          obtain ⟨u, e4, r4⟩ := h2.get' (hx xs h1)
          obtain ⟨w, e5, r5⟩ := h4.get' (hy ys h3)
          rw [f1] at e4; cases e4
          rw [f2] at e5; cases e5
          subst ev; subst eH; subst e3
          exact pair_new m hT r4 r5⟩⟩
end
end Ht
set_option Elab.async false
set_option linter.all false
set_option maxRecDepth 100000
namespace Ht
open PySem PySem.Spec PyProof.Rows L2
def UpGc (K : PySem.W.Frag) (t : DG_) (vs : List Nat) : TG := fun v σ H Q => ∃ Z δ M d Q', Abs ⟨K, Z⟩ σ H δ M ∧ Rep ⟨K, Z⟩ H M d v ∧ t d δ M Q' ∧ ∀ σ' H' δ' M', Grow H M H' M' → Abs ⟨K, Z⟩ σ' H' δ' M' → (σ'.length = σ.length ∧ ∀ i, i ∉ vs → σ'[i]? = σ[i]?) → Q' δ' M' → Q σ' H'
def UpGcs (K : PySem.W.Frag) (t : DGs_) (vs : List Nat) : TGs := fun v σ H Q => ∃ Z δ M d Q', Abs ⟨K, Z⟩ σ H δ M ∧ Reps ⟨K, Z⟩ H M d v ∧ t d δ M Q' ∧ ∀ σ' H' δ' M', Grow H M H' M' → Abs ⟨K, Z⟩ σ' H' δ' M' → (σ'.length = σ.length ∧ ∀ i, i ∉ vs → σ'[i]? = σ[i]?) → Q' δ' M' → Q σ' H'
abbrev DGc (X : Cx) (e : Expr) (t : DG_) (vs : List Nat) : Prop := PG X e (UpGc X.K t vs)
abbrev DGcs (X : Cx) (e : List Expr) (t : DGs_) (vs : List Nat) : Prop := PGs X e (UpGcs X.K t vs)
section
variable {X : Cx} {pos : Pos} {e : Expr} {es : List Expr}
theorem dgc_name {i : Nat} {x : Str} (hN : X.N.Nodup) (hi : X.N[i]? = some x := by rfl) (hx : Loc X.env.scope x := by first | exact .inl rfl | exact .inr rfl) (hf : X.fn x = true ∨ X.env.scope.names.lookup x = some .local := by first | exact .inl rfl | exact .inr rfl | assumption) : DGc X (.Name x pos) (gName i) [i] :=
  PG.imp (pg_name hN hi hx hf) fun v σ H Q ⟨Z, δ, M, d, Q', A, r, q, k⟩ => k _ H _ M (Grow.refl _ _) (A.set r i) ⟨by simp, fun j hj => by rw [List.getElem?_set_ne]; intro e; subst e; exact hj (by simp)⟩ q
theorem dgcs_nil : DGcs X [] gNil [] := PGs.imp pgs_nil fun v σ H Q ⟨Z, δ, M, d, Q', A, r, ⟨e, q⟩, k⟩ => by
  subst e
  exact ⟨r, k σ H δ M (Grow.refl _ _) A ⟨rfl, fun _ _ => rfl⟩ q⟩
theorem dgcs_cons {t : DG_} {u : DGs_} {vs ws : List Nat} (h1 : DGc X e t vs) (h2 : DGcs X es u ws)
    (hs : (assignEach (e :: es) X.env).map (·.2) = assign e X.env :: (assignEach es X.env).map (·.2) := by rfl) : DGcs X (e :: es) (gCons t u) (vs ++ ws) :=
  PGs.imp (pgs_cons h1 h2 hs) fun v σ H Q ⟨Z, δ, M, ds, Q', A, r, ⟨d, dr, e, q⟩, k⟩ => by
    subst e
    obtain ⟨x, xr, e, r1, r2⟩ := r
    refine ⟨x, xr, e, Z, δ, M, d, _, A, r1, q, fun σ1 H1 δ1 M1 g A1 l1 q1 => ⟨Z, δ1, M1, dr, Q', A1, r2.grow g, q1, fun σ2 H2 δ2 M2 g2 A2 l2 => k σ2 H2 δ2 M2 (g.trans g2) A2 ⟨l2.1.trans l1.1, fun i hi => ?_⟩⟩⟩
    rw [List.mem_append, not_or] at hi
    exact (l2.2 i hi.2).trans (l1.2 i hi.1)
theorem dgc_tup {k : Nat} {t : DGs_} {n : Nat} {vs : List Nat} (hc : X.calm = true) (h : DGcs X es t vs)
    (hn : (assignEach es X.env).length = n := by rfl) (hst : (assignEach es X.env).findIdx? (·.1) = none := by rfl) : DGc X (.Tuple es k pos) (gTup n t) vs :=
  PG.imp (pg_tup hc h hn hst) fun v σ H Q ⟨Z, δ, M, d, Q', A, r, ⟨ds, e, hl, q⟩, kk⟩ => by
    subst e
    obtain ⟨a, xs, e, t, r⟩ := r
    exact ⟨a, xs, e, t.sq, by rw [r.len]; exact hl, Z, δ, M, ds, Q', A, r, q, kk⟩
abbrev DTs (X : Cx) (ifs : List Expr) (t : DT_) : Prop := PTs X ifs (UpT X.K t)
def tYes : DT_ := fun _ M Q => Q true M
theorem PTs.imp {ifs : List Expr} {t t2 : TT} (h : PTs X ifs t) (k : ∀ σ H Q, t2 σ H Q → t σ H Q) : PTs X ifs t2 := ⟨fun pins s σ H Q I hw => h.run pins s σ H Q I (k _ _ _ hw)⟩
theorem dts_nil : DTs X [] tYes := PTs.imp pts_nil fun σ H Q ⟨Z, δ, M, Q', A, q, k⟩ => k true H M (Grow.refl _ _) A.mem q
theorem dts_one {c : Expr} {t : DT_} (h : DT X c t) : DTs X [c] t := pts_one h
def wipeD (δ : SD) : List Nat → SD
  | [] => δ
  | v :: vs => (wipeD δ vs).set v none
theorem wipeD_length (δ : SD) : ∀ vs : List Nat, (wipeD δ vs).length = δ.length
  | [] => rfl
  | v :: vs => by unfold wipeD; rw [List.length_set, wipeD_length δ vs]
theorem wipeD_some {δ : SD} {i : Nat} {x : D} : ∀ {vs : List Nat}, (wipeD δ vs)[i]? = some (some x) → δ[i]? = some (some x) ∧ i ∉ vs
  | [], h => ⟨h, by simp⟩
  | v :: vs, h => by
    unfold wipeD at h
    by_cases hi : v = i
    · subst hi
      by_cases hv : v < (wipeD δ vs).length
      · rw [List.getElem?_set_self hv] at h; cases h
      · rw [List.getElem?_eq_none (by simpa using hv)] at h; cases h
    · rw [List.getElem?_set_ne hi] at h
      obtain ⟨h1, h2⟩ := wipeD_some h
      exact ⟨h1, by simp only [List.mem_cons, not_or]; exact ⟨fun e => hi e.symm, h2⟩⟩
theorem Abs.wipe {K : KZ} {σ : L2.St} {H : Hp} {δ : SD} {M : Mp} (A : Abs K σ H δ M) (vs : List Nat) : Abs K (L2.wipe σ vs) H (wipeD δ vs) M :=
  ⟨A.mem, by rw [wipeD_length, wipe_length]; exact A.len, fun i d h => by
    obtain ⟨h1, h2⟩ := wipeD_some h
    obtain ⟨v, h3, h4⟩ := A.sl i d h1
    exact ⟨v, by rw [wipe_out h2]; exact h3, h4⟩⟩
theorem wipe_eq {σ σ' : L2.St} {vs ws : List Nat} (hl : σ'.length = (L2.wipe σ ws).length) (h : ∀ i, i ∉ vs → σ'[i]? = (L2.wipe σ ws)[i]?) (hs : ∀ i, i ∈ vs → i ∈ ws) : L2.wipe σ' ws = L2.wipe σ ws := by
  have key : ∀ (σ : L2.St) (ws : List Nat) (i : Nat), (L2.wipe σ ws)[i]? = if i ∈ ws then (if i < σ.length then some none else none) else σ[i]? := by
    intro σ ws i
    induction ws with
    | nil => simp [L2.wipe]
    | cons v vs ih =>
      unfold L2.wipe
      by_cases hv : v = i
      · subst hv
        by_cases hl : v < σ.length
        · rw [List.getElem?_set_self (by rw [wipe_length]; exact hl)]; simp [hl]
        · rw [List.getElem?_eq_none (by rw [List.length_set, wipe_length]; omega)]; simp [hl]
      · rw [List.getElem?_set_ne hv, ih]
        have : (i ∈ v :: vs) ↔ i ∈ vs := by simp [List.mem_cons, Ne.symm hv]
        simp only [this]
  rw [wipe_length] at hl
  apply List.ext_getElem?
  intro i
  rw [key σ' ws i, key σ ws i]
  by_cases hi : i ∈ ws
  · simp [hi, hl]
  · simp only [hi, if_false]
    rw [h i (fun q => hi (hs i q)), key σ ws i, if_neg hi]
def compD (g : DG_) (tt : DT_) (te : DE_) (G : Mp → Prop) (δ : SD) (Q : List D → Mp → Prop) : List D → List D → Mp → Prop
  | [], acc, M => G M ∧ Q acc M
  | d :: ds, acc, M => G M ∧ g d δ M fun δ2 M2 => tt δ2 M2 fun b M3 => if b = true then te δ2 M3 fun y M4 => acc.length < sizeLine ∧ compD g tt te G δ Q ds (acc ++ [y]) M4 else compD g tt te G δ Q ds acc M3
theorem comp_core {K : PySem.W.Frag} {Z : Addr → Prop} {J : It} {ds : List D} {G : Mp → Prop} {g : DG_} {tt : DT_} {te : DE_} {vs ws : List Nat} {σ : L2.St} {δ : SD} {H1 : Hp} {M1 : Mp} {L : Addr} {acc0 : List D} {xs0 : List V} {Qc : List D → Mp → Prop} {Fin : Hp → Prop}
    (hw : ∀ i, i ∈ ws → i ∈ vs) (zL : Z L) (IT : ItD ⟨K, Z⟩ J ds G H1 M1) (A : Abs ⟨K, Z⟩ σ H1 δ M1) (hx : H1 L = some (.lst xs0)) (rx : Reps ⟨K, Z⟩ H1 M1 acc0 xs0) (q : compD g tt te G (wipeD δ vs) Qc ds acc0 M1)
    (k : ∀ H' M' acc xs, GrowX Z H1 M1 H' M' → (∀ a, Z a → a ≠ L → H' a = H1 a) → AbsM ⟨K, Z⟩ H' M' → H' L = some (.lst xs) → Reps ⟨K, Z⟩ H' M' acc xs → Qc acc M' → Fin H') :
    ∃ W : Nat → Nat → Hp → Prop, (∃ m, W 0 m H1) ∧ ∀ i m H, W i m H → (J.stop i H ∧ Fin H) ∨ (J.go i H ∧ ∃ Nx : Hp → Prop, (∀ H', Nx H' → ∃ m', m' < m ∧ W (i + 1) m' H') ∧ ∀ x H', J.yld i H x H' → UpGc K g ws x (L2.wipe σ vs) H' fun σ2 H2 => L2.wipe σ2 vs = L2.wipe σ vs ∧ UpT K tt σ2 H2 fun b H3 =>
      if b = true then Up K te σ2 H3 fun y H4 => ∃ acc, H4 L = some (.lst acc) ∧ acc.length < sizeLine ∧ Nx (upd H4 L (.lst (acc ++ [y]))) else Nx H3) := by
  refine ⟨fun i m H' => ∃ M' acc xs, m = ds.length - i ∧ i ≤ ds.length ∧ GrowX Z H1 M1 H' M' ∧ (∀ a, Z a → a ≠ L → H' a = H1 a) ∧ Abs ⟨K, Z⟩ σ H' δ M' ∧ H' L = some (.lst xs) ∧ Reps ⟨K, Z⟩ H' M' acc xs ∧ compD g tt te G (wipeD δ vs) Qc (ds.drop i) acc M',
    ⟨_, M1, acc0, xs0, rfl, Nat.zero_le _, (Grow.refl _ _).x, fun _ _ _ => rfl, A, hx, rx, q⟩, ?_⟩
  rintro i m H2 ⟨M2, acc, xs, rfl, hi, g2, k2, A2, hx, rx, q2⟩
  by_cases hlt : i < ds.length
  · rw [List.drop_eq_getElem_cons hlt] at q2
    obtain ⟨gm, q2⟩ := q2
    have hd : ds[i]? = some ds[i] := by simp [hlt]
    refine .inr ⟨IT.go i _ H2 M2 hd g2 A2.mem gm, fun H' => ∃ M' acc xs, i + 1 ≤ ds.length ∧ GrowX Z H1 M1 H' M' ∧ (∀ a, Z a → a ≠ L → H' a = H1 a) ∧ Abs ⟨K, Z⟩ σ H' δ M' ∧ H' L = some (.lst xs) ∧ Reps ⟨K, Z⟩ H' M' acc xs ∧ compD g tt te G (wipeD δ vs) Qc (ds.drop (i + 1)) acc M',
      fun H' ⟨M', acc, xs, a, b, c, d, e, f, h⟩ => ⟨ds.length - (i + 1), by omega, M', acc, xs, rfl, a, b, c, d, e, f, h⟩, fun x H' y => ?_⟩
    obtain ⟨g3, m3, r3⟩ := IT.yld i _ H2 M2 x H' hd g2 A2.mem gm y
    have A3 := A2.grow g3 m3
    refine ⟨_, wipeD δ vs, M2, ds[i], _, A3.wipe vs, r3, q2, fun σ4 H4 δ4 M4 g4 A4 l4 q4 => ⟨wipe_eq l4.1 l4.2 hw, ?_⟩⟩
    refine ⟨_, δ4, M4, _, A4, q4, fun b H5 M5 g5 m5 q5 => ?_⟩
    have gg := (g3.trans g4).trans g5
    have keepL : ∀ {H6 M6}, Grow H2 M2 H6 M6 → H6 L = some (.lst xs) := fun g => (g L _ hx (A2.mem.hid L zL).1).1
    have keepZ : ∀ {H6 M6}, Grow H2 M2 H6 M6 → ∀ a, Z a → a ≠ L → H6 a = H1 a := fun {H6 M6} g a z n => by
      obtain ⟨h1, u, h2⟩ := A2.mem.hid a z
      rw [← k2 a z n, h2]; exact (g a u h2 h1).1
    cases b with
    | false =>
      dsimp only at q5 ⊢
      rw [if_neg Bool.false_ne_true] at q5 ⊢
      exact ⟨M5, acc, xs, hlt, g2.trans gg.x, keepZ gg, A2.grow gg m5, keepL gg, rx.grow gg, q5⟩
    | true =>
      dsimp only at q5 ⊢
      rw [if_pos rfl] at q5 ⊢
      refine ⟨_, δ4, M5, _, A4.grow g5 m5, q5, fun v d H6 M6 g6 m6 r6 ⟨hz, q6⟩ => ?_⟩
      have g' := gg.trans g6
      refine ⟨xs, keepL g', by rw [rx.len]; exact hz, M6, acc ++ [d], xs ++ [v], hlt, ?_, fun a z n => ?_, ?_, upd_same, ?_, q6⟩
      · exact (g2.trans g'.x).trans (GrowX.writeZ zL)
      · rw [upd_ne n]; exact keepZ g' a z n
      · have A6 := A2.grow g' m6
        exact ⟨m6.writeZ zL, A6.len, fun i d h => let ⟨v, h1, h2⟩ := A6.sl i d h; ⟨v, h1, h2.growX (GrowX.writeZ zL)⟩⟩
      · exact ((rx.grow g').append (.one r6)).growX (GrowX.writeZ zL)
  · have e : i = ds.length := by omega
    subst e
    rw [List.drop_length] at q2
    obtain ⟨gm, q2⟩ := q2
    exact .inl ⟨IT.stop H2 M2 g2 A2.mem gm, k H2 M2 acc xs g2 k2 A2.mem hx rx q2⟩
theorem hide_new {K : PySem.W.Frag} {Z : Addr → Prop} {σ : L2.St} {H1 : Hp} {δ : SD} {M1 : Mp} {L : Addr} (A0 : Abs ⟨K, Z⟩ σ H1 δ M1) (hL : H1 L = none) : Abs ⟨K, fun a => Z a ∨ a = L⟩ σ (upd H1 L (.lst [])) δ M1 := by
  have m1 := A0.mem
  have zed : ∀ a o, H1 a = some o → ¬ Z a → ¬ (Z a ∨ a = L) := fun a o h nz z => by
    rcases z with z | z
    · exact nz z
    · subst z; rw [hL] at h; cases h
  have up1 : ∀ {a o}, H1 a = some o → upd H1 L (.lst []) a = some o := fun {a o} h => by rw [upd_ne (ne_of_none h hL)]; exact h
  have gx : GrowX (fun a => Z a ∨ a = L) H1 M1 (upd H1 L (.lst [])) M1 := fun a o _ h m => ⟨up1 h, m⟩
  refine ⟨⟨fun a c h => ?_, fun a z => ?_⟩, A0.len, fun i d h => ?_⟩
  · obtain ⟨u, hu⟩ := m1.there h
    exact ((m1.cell a c h).zed zed).growX gx (upd_ne (ne_of_none hu hL))
  · rcases z with z | z
    · obtain ⟨h1, u, h2⟩ := m1.hid a z
      exact ⟨h1, u, up1 h2⟩
    · subst z; exact ⟨m1.none hL, _, upd_same⟩
  · obtain ⟨v, h1, h2⟩ := A0.sl i d h
    exact ⟨v, h1, (h2.zed zed).growX gx⟩
theorem unhide {K : PySem.W.Frag} {Z : Addr → Prop} {o : Bool} {H H1 H2 : Hp} {M M1 M2 : Mp} {L : Addr} {acc : List D} {xs : List V} {Q : VK} {Q' : VD} (m1 : AbsM ⟨K, Z⟩ H1 M1) (g1 : Grow H M H1 M1) (hL : H1 L = none)
    (gf : Grow H1 M1 H2 M2) (m2 : AbsM ⟨K, fun a => Z a ∨ a = L⟩ H2 M2) (hx : H2 L = some (.lst xs)) (rx : Reps ⟨K, fun a => Z a ∨ a = L⟩ H2 M2 acc xs) (q2 : newL o acc M2 Q')
    (k : ∀ v d H' M', Grow H M H' M' → AbsM ⟨K, Z⟩ H' M' → Rep ⟨K, Z⟩ H' M' d v → Q' d M' → Q v H') : Q (.ref L) H2 := by
  have nL : M2 L = none := (m2.hid L (.inr rfl)).1
  have unz : ∀ a o, H2 a = some o → ¬ (Z a ∨ a = L) → ¬ Z a := fun a o _ n z => n (.inl z)
  have mZ : AbsM ⟨K, Z⟩ H2 M2 := ⟨fun a c h => (m2.cell a c h).zed unz, fun a z => m2.hid a (.inl z)⟩
  have rZ : Reps ⟨K, Z⟩ H2 M2 acc xs := rx.zed unz
  have gA := g1.trans gf
  unfold newL at q2
  split at q2
  · refine k (.ref L) (.ref L) H2 (up M2 L (.lst acc)) (fun a u h m => ?_) ⟨fun a c h => ?_, fun a z => ?_⟩ rfl (q2 L nL)
    · obtain ⟨h1, h2⟩ := gA a u h m
      have : a ≠ L := fun e => by
        subst e
        have := (g1 _ u h m).1
        rw [hL] at this; cases this
      exact ⟨h1, by rw [up_ne this]; exact h2⟩
    · by_cases e : a = L
      · subst e; rw [up_same] at h; cases h
        exact ⟨xs, hx, (rx.growX (H1 := H2) (M1 := up M2 a (.lst acc)) fun b u nz h m => ⟨h, by rw [up_ne (fun e => nz (.inr e))]; exact m⟩).zed unz⟩
      · rw [up_ne e] at h
        exact ((m2.cell a c h).growX (H1 := H2) (M1 := up M2 L (.lst acc)) (fun b u nz h m => ⟨h, by rw [up_ne (fun e => nz (.inr e))]; exact m⟩) rfl).zed unz
    · obtain ⟨h1, h2⟩ := mZ.hid a z
      exact ⟨by rw [up_ne (fun e => by subst e; exact m1.noz hL z)]; exact h1, h2⟩
  · exact k (.ref L) (.lst acc) H2 M2 gA mZ ⟨L, xs, rfl, ⟨nL, m1.noz hL, hx⟩, rZ⟩ q2
theorem grow_full {Z : Addr → Prop} {K : PySem.W.Frag} {H1 H2 : Hp} {M1 M2 : Mp} {L : Addr} {o : HO} (hL : H1 L = none) (g : GrowX (fun a => Z a ∨ a = L) (upd H1 L o) M1 H2 M2) (k : ∀ a, (Z a ∨ a = L) → a ≠ L → H2 a = upd H1 L o a) (m : AbsM ⟨K, fun a => Z a ∨ a = L⟩ H2 M2) : Grow H1 M1 H2 M2 := fun a u h mm => by
  have ne : a ≠ L := ne_of_none h hL
  have h' : upd H1 L o a = some u := by rw [upd_ne ne]; exact h
  by_cases z : Z a
  · exact ⟨(k a (.inl z) ne).trans h', (m.hid a (.inl z)).1⟩
  · exact g a u (fun w => by
      rcases w with w | w
      · exact z w
      · exact ne w) h' mm
def dLc (o : Bool) (ti : DI_) (g : DG_) (tt : DT_) (te : DE_) (vs : List Nat) : DE_ := fun δ M Q => ti δ M fun ds G M1 => compD g tt te G (wipeD δ vs) (fun acc M2 => newL o acc M2 Q) ds [] M1
theorem itd_hide {K : PySem.W.Frag} {Z : Addr → Prop} {J : It} {ds : List D} {G : Mp → Prop} {H1 : Hp} {M1 : Mp} {L : Addr} (hL : H1 L = none) (IT : ∀ Z', (∀ a, Z' a → Z a ∨ H1 a = none) → ItD ⟨K, Z'⟩ J ds G H1 M1) (o : HO) : ItD ⟨K, fun a => Z a ∨ a = L⟩ J ds G (upd H1 L o) M1 :=
  have I := IT (fun a => Z a ∨ a = L) fun a z => by
    rcases z with z | z
    · exact .inl z
    · subst z; exact .inr hL
  have back : ∀ {H M}, GrowX (fun a => Z a ∨ a = L) (upd H1 L o) M1 H M → GrowX (fun a => Z a ∨ a = L) H1 M1 H M := fun g a u nz h m => g a u nz (by rw [upd_ne (ne_of_none h hL)]; exact h) m
  ⟨fun H M g => I.stop H M (back g), fun i d H M e g => I.go i d H M e (back g), fun i d H M x H' e g => I.yld i d H M x H' e (back g)⟩
theorem dLc_up {K : PySem.W.Frag} {o : Bool} {ti : DI_} {g : DG_} {tt : DT_} {te : DE_} {vs ws : List Nat} (hw : ∀ i, i ∈ ws → i ∈ vs) {σ : L2.St} {H : Hp} {Q : VK} (h : Up K (dLc o ti g tt te vs) σ H Q) :
    tLc (UpI K ti) (UpGc K g ws) (UpT K tt) (Up K te) vs σ H Q := by
  obtain ⟨Z, δ, M, Q', A, q, k⟩ := h
  refine ⟨Z, δ, M, _, A, q, fun J ds G H1 M1 g1 m1 IT q1 L hL => ?_⟩
  refine comp_core (Z := fun a => Z a ∨ a = L) hw (.inr rfl) (itd_hide hL IT _) (hide_new (A.grow g1 m1) hL) upd_same (show Reps _ _ _ [] [] from rfl) q1 fun H' M' acc xs gx kz m hx rx q => ?_
  exact unhide m1 g1 hL (grow_full hL gx kz m) m hx rx q k
def comp2D (g : DG_) (tt : DT_) (ti1 : DI_) (g1 : DG_) (tt1 : DT_) (te : DE_) (vs1 : List Nat) (G : Mp → Prop) (δ : SD) (Q : List D → Mp → Prop) : List D → List D → Mp → Prop
  | [], acc, M => G M ∧ Q acc M
  | d :: ds, acc, M => G M ∧ g d δ M fun δ2 M2 => tt δ2 M2 fun b M3 => if b = true then ti1 δ2 M3 fun ds1 G1 M4 => compD g1 tt1 te G1 (wipeD δ2 vs1) (fun acc' M5 => comp2D g tt ti1 g1 tt1 te vs1 G δ Q ds acc' M5) ds1 acc M4
    else comp2D g tt ti1 g1 tt1 te vs1 G δ Q ds acc M3
def dLc2 (o : Bool) (ti : DI_) (g : DG_) (tt : DT_) (ti1 : DI_) (g1 : DG_) (tt1 : DT_) (te : DE_) (vs vs1 : List Nat) : DE_ := fun δ M Q => ti δ M fun ds G M1 => comp2D g tt ti1 g1 tt1 te vs1 G (wipeD δ vs) (fun acc M2 => newL o acc M2 Q) ds [] M1
theorem dLc2_up {K : PySem.W.Frag} {o : Bool} {ti ti1 : DI_} {g g1 : DG_} {tt tt1 : DT_} {te : DE_} {vs vs1 ws ws1 : List Nat} (hw : ∀ i, i ∈ ws → i ∈ vs) (hw1 : ∀ i, i ∈ ws1 → i ∈ vs1) {σ : L2.St} {H : Hp} {Q : VK} (h : Up K (dLc2 o ti g tt ti1 g1 tt1 te vs vs1) σ H Q) :
    tLc2 (UpI K ti) (UpGc K g ws) (UpT K tt) (UpI K ti1) (UpGc K g1 ws1) (UpT K tt1) (Up K te) vs vs1 σ H Q := by
  obtain ⟨Z0, δ, M, Q', A, q, k⟩ := h
  refine ⟨Z0, δ, M, _, A, q, fun J ds G H1 M1 gr1 m1 IT' q1 L hL => ?_⟩
  generalize hZ : (fun a => Z0 a ∨ a = L) = Z
  have zL : Z L := by rw [← hZ]; exact .inr rfl
  have A1 : Abs ⟨K, Z⟩ σ (upd H1 L (.lst [])) δ M1 := by rw [← hZ]; exact hide_new (A.grow gr1 m1) hL
  have IT : ItD ⟨K, Z⟩ J ds G (upd H1 L (.lst [])) M1 := by rw [← hZ]; exact itd_hide hL IT' _
  generalize hHL : upd H1 L (.lst []) = HL at A1 IT
  have hxL : HL L = some (.lst []) := by rw [← hHL]; exact upd_same
  refine ⟨fun i m H' => ∃ M' acc xs, m = ds.length - i ∧ i ≤ ds.length ∧ GrowX Z HL M1 H' M' ∧ (∀ a, Z a → a ≠ L → H' a = HL a) ∧ Abs ⟨K, Z⟩ σ H' δ M' ∧ H' L = some (.lst xs) ∧ Reps ⟨K, Z⟩ H' M' acc xs ∧ comp2D g tt ti1 g1 tt1 te vs1 G (wipeD δ vs) (fun acc M2 => newL o acc M2 Q') (ds.drop i) acc M',
    ⟨_, M1, [], [], rfl, Nat.zero_le _, (Grow.refl _ _).x, fun _ _ _ => rfl, A1, hxL, rfl, q1⟩, ?_⟩
  rintro i m H2 ⟨M2, acc, xs, rfl, hi, g2, k2, A2, hx, rx, q2⟩
  by_cases hlt : i < ds.length
  · rw [List.drop_eq_getElem_cons hlt] at q2
    obtain ⟨gm, q2⟩ := q2
    have hd : ds[i]? = some ds[i] := by simp [hlt]
    refine .inr ⟨IT.go i _ H2 M2 hd g2 A2.mem gm, fun H' => ∃ M' acc xs, i + 1 ≤ ds.length ∧ GrowX Z HL M1 H' M' ∧ (∀ a, Z a → a ≠ L → H' a = HL a) ∧ Abs ⟨K, Z⟩ σ H' δ M' ∧ H' L = some (.lst xs) ∧ Reps ⟨K, Z⟩ H' M' acc xs ∧ comp2D g tt ti1 g1 tt1 te vs1 G (wipeD δ vs) (fun acc M2 => newL o acc M2 Q') (ds.drop (i + 1)) acc M',
      fun H' ⟨M', acc, xs, a, b, c, d, e, f, h⟩ => ⟨ds.length - (i + 1), by omega, M', acc, xs, rfl, a, b, c, d, e, f, h⟩, fun x H' y => ?_⟩
    obtain ⟨g3, m3, r3⟩ := IT.yld i _ H2 M2 x H' hd g2 A2.mem gm y
    have A3 := A2.grow g3 m3
    refine ⟨_, wipeD δ vs, M2, ds[i], _, A3.wipe vs, r3, q2, fun σ4 H4 δ4 M4 g4 A4 l4 q4 => ⟨wipe_eq l4.1 l4.2 hw, ?_⟩⟩
    refine ⟨_, δ4, M4, _, A4, q4, fun b H5 M5 g5 m5 q5 => ?_⟩
    have gg := (g3.trans g4).trans g5
    have keepL : ∀ {H6 M6}, Grow H2 M2 H6 M6 → H6 L = some (.lst xs) := fun g => (g L _ hx (A2.mem.hid L zL).1).1
    have keepZ : ∀ {H6 M6}, Grow H2 M2 H6 M6 → ∀ a, Z a → a ≠ L → H6 a = HL a := fun {H6 M6} g a z n => by
      obtain ⟨h1, u, h2⟩ := A2.mem.hid a z
      rw [← k2 a z n, h2]; exact (g a u h2 h1).1
    cases b with
    | false =>
      dsimp only at q5 ⊢
      rw [if_neg Bool.false_ne_true] at q5 ⊢
      exact ⟨M5, acc, xs, hlt, g2.trans gg.x, keepZ gg, A2.grow gg m5, keepL gg, rx.grow gg, q5⟩
    | true =>
      dsimp only at q5 ⊢
      rw [if_pos rfl] at q5 ⊢
      refine ⟨Z, δ4, M5, _, A4.grow g5 m5, q5, fun J1 ds1 G1 H6 M6 g6 m6 IT6 q6 => ?_⟩
      have g' := gg.trans g6
      refine comp_core hw1 zL (IT6 Z fun _ z => .inl z) ((A4.grow g5 m5).grow g6 m6) (keepL g') (rx.grow g') q6 fun H7 M7 acc7 xs7 gx7 kz7 m7 hx7 rx7 q7 => ?_
      refine ⟨M7, acc7, xs7, hlt, (g2.trans g'.x).trans gx7, fun a z n => (kz7 a z n).trans (keepZ g' a z n), ?_, hx7, rx7, q7⟩
      have A6 := A2.grow g' m6
      exact ⟨m7, A6.len, fun i d h => let ⟨v, h1, h2⟩ := A6.sl i d h; ⟨v, h1, h2.growX gx7⟩⟩
  · have e : i = ds.length := by omega
    subst e
    rw [List.drop_length] at q2
    obtain ⟨gm, q2⟩ := q2
    refine .inl ⟨IT.stop H2 M2 g2 A2.mem gm, ?_⟩
    subst hZ; subst hHL
    exact unhide m1 gr1 hL (grow_full hL g2 k2 A2.mem) A2.mem hx rx q2 k
theorem de_lc (o : Bool) {elt tg iter : Expr} {ifs : List Expr} {scope : Scope} {own : List (Str × Nat)} {ti : DI_} {g : DG_} {tt : DT_} {te : DE_} {ws : List Nat} (hc : X.calm = true) (hN : X.N.Nodup) (hi : DI X tg iter ti) (ok : BlkOk X.N X.env.scope scope own)
    (hg : ∀ (s : Shared) (H : Hp) (C : Addr) (cl : List (Str × Addr)) (fp : List Addr), DGc (X.blk s H scope (compEnvC scope cl C X.env) fp) tg g ws) (ht : ∀ (s : Shared) (H : Hp) (C : Addr) (cl : List (Str × Addr)) (fp : List Addr), DTs (X.blk s H scope (compEnvC scope cl C X.env) fp) ifs tt)
    (he : ∀ (s : Shared) (H : Hp) (C : Addr) (cl : List (Str × Addr)) (fp : List Addr), DE (X.blk s H scope (compEnvC scope cl C X.env) fp) elt te) (hw : ∀ i, i ∈ ws → i ∈ own.map (·.2) := by decide) (hs : ∀ x, foldedSetIterable iter X.env x = pure x := by intro _; rfl) :
    DE X (.ListComp elt [⟨tg, iter, ifs, 0⟩] scope pos) (dLc o ti g tt te (own.map (·.2))) :=
  PE.imp (pe_lc hc hN hi ok hg ht he hs) fun _ _ _ => dLc_up hw
theorem ds_setLc (o : Bool) {i : Nat} {y : Str} {py : Pos} {elt tg iter : Expr} {ifs : List Expr} {scope : Scope} {own : List (Str × Nat)} {spos : Pos} {ti : DI_} {g : DG_} {tt : DT_} {te : DE_} {ws : List Nat} (hc : X.calm = true) (hN : X.N.Nodup)
    (hsw : swapsWith (.ListComp elt [⟨tg, iter, ifs, 0⟩] scope pos) (some (.Name y py)) spos.line X.env = pure true) (hi : DI X tg iter ti) (ok : BlkOk X.N X.env.scope scope own)
    (hg : ∀ (s : Shared) (H : Hp) (C : Addr) (cl : List (Str × Addr)) (fp : List Addr), DGc (X.blk s H scope (compEnvC scope cl C X.env) fp) tg g ws) (ht : ∀ (s : Shared) (H : Hp) (C : Addr) (cl : List (Str × Addr)) (fp : List Addr), DTs (X.blk s H scope (compEnvC scope cl C X.env) fp) ifs tt)
    (he : ∀ (s : Shared) (H : Hp) (C : Addr) (cl : List (Str × Addr)) (fp : List Addr), DE (X.blk s H scope (compEnvC scope cl C X.env) fp) elt te) (hw : ∀ i, i ∈ ws → i ∈ own.map (·.2) := by decide)
    (hy : X.N[i]? = some y := by rfl) (hyl : X.env.scope.names.lookup y = some .local := by rfl) (hs : ∀ x, foldedSetIterable iter X.env x = pure x := by intro _; rfl) :
    DS X (.Assign [.Name y py] (.ListComp elt [⟨tg, iter, ifs, 0⟩] scope pos) spos) (dSet (dLc o ti g tt te (own.map (·.2))) i) :=
  PS.imp (ps_setLc hc hN hy hyl hsw hi ok hg ht he hs) fun E σ H h => by
    obtain ⟨Z, δ, M, E', A, q, k⟩ := h
    exact dLc_up (o := o) hw ⟨Z, δ, M, _, A, q, fun v d H1 M1 gr m r q => k.nx _ H1 _ M1 gr ((A.grow gr m).set r i) q⟩
theorem de_lc2 (o : Bool) {elt tg iter tg1 iter1 : Expr} {ifs ifs1 : List Expr} {scope : Scope} {own : List (Str × Nat)} {ti ti1 : DI_} {g g1 : DG_} {tt tt1 : DT_} {te : DE_} {ws ws1 : List Nat} (vs1 : List Nat) (hc : X.calm = true) (hN : X.N.Nodup) (hi : DI X tg iter ti) (ok : BlkOk X.N X.env.scope scope own)
    (hg : ∀ (s : Shared) (H : Hp) (C : Addr) (cl : List (Str × Addr)) (fp : List Addr), DGc (X.blk s H scope (compEnvC scope cl C X.env) fp) tg g ws) (ht : ∀ (s : Shared) (H : Hp) (C : Addr) (cl : List (Str × Addr)) (fp : List Addr), DTs (X.blk s H scope (compEnvC scope cl C X.env) fp) ifs tt)
    (hi1 : ∀ (s : Shared) (H : Hp) (C : Addr) (cl : List (Str × Addr)) (fp : List Addr), DI (X.blk s H scope (compEnvC scope cl C X.env) fp) tg1 iter1 ti1)
    (hg1 : ∀ (s : Shared) (H : Hp) (C : Addr) (cl : List (Str × Addr)) (fp : List Addr), DGc (X.blk s H scope (compEnvC scope cl C X.env) fp) tg1 g1 ws1) (ht1 : ∀ (s : Shared) (H : Hp) (C : Addr) (cl : List (Str × Addr)) (fp : List Addr), DTs (X.blk s H scope (compEnvC scope cl C X.env) fp) ifs1 tt1)
    (he : ∀ (s : Shared) (H : Hp) (C : Addr) (cl : List (Str × Addr)) (fp : List Addr), DE (X.blk s H scope (compEnvC scope cl C X.env) fp) elt te) (hv : ∀ i ∈ vs1, i ∈ own.map (·.2) := by decide) (hw : ∀ i, i ∈ ws → i ∈ own.map (·.2) := by decide) (hw1 : ∀ i, i ∈ ws1 → i ∈ vs1 := by decide)
    (hs : ∀ x, foldedSetIterable iter X.env x = pure x := by intro _; rfl) (hs1 : ∀ env x, foldedSetIterable iter1 env x = pure x := by intro _ _; rfl) :
    DE X (.ListComp elt [⟨tg, iter, ifs, 0⟩, ⟨tg1, iter1, ifs1, 0⟩] scope pos) (dLc2 o ti g tt ti1 g1 tt1 te (own.map (·.2)) vs1) :=
  PE.imp (pe_lc2 hc hN hi ok hv hg ht hi1 hg1 ht1 he hs hs1) fun _ _ _ => dLc2_up hw hw1
theorem ds_setLc2 (o : Bool) {i : Nat} {y : Str} {py : Pos} {elt tg iter tg1 iter1 : Expr} {ifs ifs1 : List Expr} {scope : Scope} {own : List (Str × Nat)} {spos : Pos} {ti ti1 : DI_} {g g1 : DG_} {tt tt1 : DT_} {te : DE_} {ws ws1 : List Nat} (vs1 : List Nat) (hc : X.calm = true) (hN : X.N.Nodup)
    (hsw : swapsWith (.ListComp elt [⟨tg, iter, ifs, 0⟩, ⟨tg1, iter1, ifs1, 0⟩] scope pos) (some (.Name y py)) spos.line X.env = pure true) (hi : DI X tg iter ti) (ok : BlkOk X.N X.env.scope scope own)
    (hg : ∀ (s : Shared) (H : Hp) (C : Addr) (cl : List (Str × Addr)) (fp : List Addr), DGc (X.blk s H scope (compEnvC scope cl C X.env) fp) tg g ws) (ht : ∀ (s : Shared) (H : Hp) (C : Addr) (cl : List (Str × Addr)) (fp : List Addr), DTs (X.blk s H scope (compEnvC scope cl C X.env) fp) ifs tt)
    (hi1 : ∀ (s : Shared) (H : Hp) (C : Addr) (cl : List (Str × Addr)) (fp : List Addr), DI (X.blk s H scope (compEnvC scope cl C X.env) fp) tg1 iter1 ti1)
    (hg1 : ∀ (s : Shared) (H : Hp) (C : Addr) (cl : List (Str × Addr)) (fp : List Addr), DGc (X.blk s H scope (compEnvC scope cl C X.env) fp) tg1 g1 ws1) (ht1 : ∀ (s : Shared) (H : Hp) (C : Addr) (cl : List (Str × Addr)) (fp : List Addr), DTs (X.blk s H scope (compEnvC scope cl C X.env) fp) ifs1 tt1)
    (he : ∀ (s : Shared) (H : Hp) (C : Addr) (cl : List (Str × Addr)) (fp : List Addr), DE (X.blk s H scope (compEnvC scope cl C X.env) fp) elt te) (hv : ∀ i ∈ vs1, i ∈ own.map (·.2) := by decide) (hw : ∀ i, i ∈ ws → i ∈ own.map (·.2) := by decide) (hw1 : ∀ i, i ∈ ws1 → i ∈ vs1 := by decide)
    (hy : X.N[i]? = some y := by rfl) (hyl : X.env.scope.names.lookup y = some .local := by rfl) (hs : ∀ x, foldedSetIterable iter X.env x = pure x := by intro _; rfl) (hs1 : ∀ env x, foldedSetIterable iter1 env x = pure x := by intro _ _; rfl) :
    DS X (.Assign [.Name y py] (.ListComp elt [⟨tg, iter, ifs, 0⟩, ⟨tg1, iter1, ifs1, 0⟩] scope pos) spos) (dSet (dLc2 o ti g tt ti1 g1 tt1 te (own.map (·.2)) vs1) i) :=
  PS.imp (ps_setLc2 hc hN hy hyl hsw hi ok hv hg ht hi1 hg1 ht1 he hs hs1) fun E σ H h => by
    obtain ⟨Z, δ, M, E', A, q, k⟩ := h
    exact dLc2_up (o := o) hw hw1 ⟨Z, δ, M, _, A, q, fun v d H1 M1 gr m r q => k.nx _ H1 _ M1 gr ((A.grow gr m).set r i) q⟩
end
end Ht
set_option Elab.async false
set_option linter.all false
set_option maxRecDepth 100000
namespace Ht
open PySem PySem.Spec PyProof.Rows L2
abbrev XD := Addr → List (Str × D) → Mp → Prop
abbrev SpD := List D → Mp → VD → XD → Prop
def X0 : XD := fun _ _ _ => False
def UpSp (K : PySem.W.Frag) (sp : SpD) : Sp := fun vs H Q E => ∃ Z ds M Q' E', AbsM ⟨K, Z⟩ H M ∧ Reps ⟨K, Z⟩ H M ds vs ∧ sp ds M Q' E' ∧
  (∀ v d H' M', Grow H M H' M' → AbsM ⟨K, Z⟩ H' M' → Rep ⟨K, Z⟩ H' M' d v → Q' d M' → Q v H') ∧
  ∀ C dx fs xs H' M', Grow H M H' M' → AbsM ⟨K, Z⟩ H' M' → Fz ⟨K, Z⟩ H' M' dx (.xd xs) → RepFs ⟨K, Z⟩ H' M' fs xs → E' C fs M' → E (.ref C) (some dx) H'
section
variable {X : Cx} {CX : CXT} {k : Nat} {f C : Addr} {fd : FuncData} {ps : List Str} {sp : SpD} {x m : Str} {p pos apos : Pos} {e o : Expr} {es : List Expr} {ta : DE_} {t : DA_}
def dCall (sp : SpD) (t : DA_) : DE_ := fun δ M Q => t δ M fun ds M1 => sp ds M1 Q X0
theorem dCall_up {K : PySem.W.Frag} {σ : L2.St} {H : Hp} {Q : VK} (h : Up K (dCall sp t) σ H Q) : tCall (UpSp K sp) [] E0 (UpA K t) σ H Q :=
  let ⟨Z, δ, M, Q', A, q, k⟩ := h
  ⟨Z, δ, M, _, A, q, fun vs ds H1 M1 g m r q => ⟨Z, ds, M1, Q', X0, m, by rw [List.append_nil]; exact r, q, fun v d H2 M2 g2 => k v d H2 M2 (g.trans g2), fun _ _ _ _ _ _ _ _ _ _ w => w.elim⟩⟩
theorem de_call (F : FnOk X.prog X.w X.K X.mg X.base CX0 k f fd ps (UpSp X.K sp)) (hr : Room k X.A) (hm : X.mg x = some (.ref f)) (hk : PySem.W.keepIn X.K (.ref f) = true) (hb : Binds X.K fd ps []) (ha : DA X (e :: es) t) (hg : Gl X x := by rfl)
    (hdb : (x == ("__debug__" : Str)) = false := by decide) (he : starEach (e :: es) X.env = (false, eval e X.env) :: starEach es X.env := by rfl) (hpl : (backTo pos (starEach es X.env)).any (·.1) = false := by rfl) :
    DE X (.Call (.Name x p) (e :: es) [] pos) (dCall sp t) := PE.imp (pe_call F hr hg hm hk hb .nil pass0 ha hdb he hpl) fun _ _ _ => dCall_up
theorem de_call0 (F : FnOk X.prog X.w X.K X.mg X.base CX0 k f fd ps (UpSp X.K sp)) (hr : Room k X.A) (hm : X.mg x = some (.ref f)) (hk : PySem.W.keepIn X.K (.ref f) = true) (hb : Binds X.K fd ps []) (hg : Gl X x := by rfl)
    (hdb : (x == ("__debug__" : Str)) = false := by decide) : DE X (.Call (.Name x p) [] [] pos) (dCall sp dNil) :=
  PE.imp (pe_call0 F hr hg hm hk hb .nil pass0 hdb) fun _ _ _ h =>
    let ⟨Z, δ, M, Q', A, q, k⟩ := h
    ⟨Z, [], M, Q', X0, A.mem, rfl, q, k, fun _ _ _ _ _ _ _ _ _ _ w => w.elim⟩
def dMeth (C : Addr) (m : Str) (sp : SpD) (ta : DE_) (t : DA_) : DE_ := fun δ M Q => ta δ M fun x M1 => ∃ a fs, x = .ref a ∧ M1 a = some (.ins C fs) ∧ fs.lookup m = none ∧ t δ M1 fun ds M2 => sp (x :: ds) M2 Q X0
theorem RepFs.look {K : KZ} {H : Hp} {M : Mp} (f : Str) : ∀ {fs : List (Str × D)} {vs : List (Str × V)}, RepFs K H M fs vs → (fs.lookup f = none ∧ vs.lookup f = none) ∨ ∃ d v, fs.lookup f = some d ∧ vs.lookup f = some v ∧ Rep K H M d v
  | [], _, r => by cases r; exact .inl ⟨rfl, rfl⟩
  | (g, d) :: fs, _, ⟨x, r, e, a, b⟩ => by
    subst e
    rw [List.lookup_cons, List.lookup_cons]
    cases h : f == g with
    | true => exact .inr ⟨d, x, rfl, rfl, a⟩
    | false => exact RepFs.look f b
theorem RepFs.len {K : KZ} {H : Hp} {M : Mp} : ∀ {fs : List (Str × D)} {vs : List (Str × V)}, RepFs K H M fs vs → vs.length = fs.length
  | [], _, r => by cases r; rfl
  | (g, d) :: fs, _, ⟨x, r, e, a, b⟩ => by subst e; simp [RepFs.len b]
def putFD (f : Str) (v : D) : List (Str × D) → List (Str × D)
  | [] => [(f, v)]
  | (g, x) :: r => if g = f then (g, v) :: r else (g, x) :: putFD f v r
theorem RepFs.put {K : KZ} {H : Hp} {M : Mp} {f : Str} {d : D} {v : V} (q : Rep K H M d v) : ∀ {fs : List (Str × D)} {vs : List (Str × V)}, RepFs K H M fs vs → RepFs K H M (putFD f d fs) (putF f v vs)
  | [], _, r => by cases r; exact ⟨v, [], rfl, q, rfl⟩
  | (g, d') :: fs, _, ⟨x, r, e, a, b⟩ => by
    subst e
    unfold putFD putF
    by_cases h : g = f
    · rw [if_pos h, if_pos h]; exact ⟨v, r, rfl, q, b⟩
    · rw [if_neg h, if_neg h]; exact ⟨x, _, rfl, a, RepFs.put q b⟩
theorem ins_at {K : KZ} {H : Hp} {M : Mp} (m : AbsM K H M) {a C : Addr} {fs : List (Str × D)} (e : M a = some (.ins C fs)) : ∃ dx vs, H a = some (.ins C dx vs) ∧ RepFs K H M fs vs := m.cell a _ e
theorem dMeth_up {K : PySem.W.Frag} {C : Addr} {σ : L2.St} {H : Hp} {Q : VK} (h : Up K (dMeth C m sp ta t) σ H Q) : tMeth C m (UpSp K sp) [] E0 (Up K ta) (UpA K t) σ H Q :=
  let ⟨Z, δ, M, Q', A, q, k⟩ := h
  ⟨Z, δ, M, _, A, q, fun v d H1 M1 g1 m1 r1 ⟨a, fs, e, hm, hl, q⟩ => by
    subst e
    obtain ⟨dx, vs, h1, rf⟩ := ins_at m1 hm
    have hv : vs.lookup m = none := by
      rcases rf.look m with ⟨_, h⟩ | ⟨d, v, h, _⟩
      · exact h
      · rw [hl] at h; cases h
    exact ⟨a, dx, vs, r1, h1, hv, Z, δ, M1, _, A.grow g1 m1, q, fun ws ds H2 M2 g2 m2 r2 q2 => ⟨Z, .ref a :: ds, M2, Q', X0, m2, by rw [List.append_nil]; exact ⟨v, ws, rfl, r1, r2⟩, q2, fun v d H3 M3 g3 => k v d H3 M3 ((g1.trans g2).trans g3), fun _ _ _ _ _ _ _ _ _ _ w => w.elim⟩⟩⟩
theorem de_meth {pl : Sem Bool} (he : DE X o ta) (c : Cls X.K C) (hm : Meth X.K C m f) (F : FnOk X.prog X.w X.K X.mg X.base CX0 k f fd ps (UpSp X.K sp)) (hr : Room k X.A) (hb : Binds X.K fd ps []) (ha : DA X (e :: es) t)
    (hst : starEach (e :: es) X.env = (false, eval e X.env) :: starEach es X.env := by rfl) (hpl : (backTo pos (starEach es X.env)).any (·.1) = false := by rfl)
    (ht : eval (.Call (.Attribute o m apos) (e :: es) [] pos) X.env = (do
      let ov ← eval o X.env
      standAt apos.atName
      let (f, first) ← holding [ov] (getMethod ov m pl)
      callWith pos f first (backTo pos (starEach (e :: es) X.env)) (backToKw pos (keywordEach [] X.env))) := by rfl) :
    DE X (.Call (.Attribute o m apos) (e :: es) [] pos) (dMeth C m sp ta t) := PE.imp (pe_meth he c hm F hr hb .nil pass0 ha hst hpl ht) fun _ _ _ => dMeth_up
theorem de_meth0 {pl : Sem Bool} (he : DE X o ta) (c : Cls X.K C) (hm : Meth X.K C m f) (F : FnOk X.prog X.w X.K X.mg X.base CX0 k f fd ps (UpSp X.K sp)) (hr : Room k X.A) (hb : Binds X.K fd ps [])
    (ht : eval (.Call (.Attribute o m apos) [] [] pos) X.env = (do
      let ov ← eval o X.env
      standAt apos.atName
      let (f, first) ← holding [ov] (getMethod ov m pl)
      callWith pos f first (backTo pos (starEach [] X.env)) (backToKw pos (keywordEach [] X.env))) := by rfl) :
    DE X (.Call (.Attribute o m apos) [] [] pos) (dMeth C m sp ta dNil) := PE.imp (pe_meth0 he c hm F hr hb .nil pass0 ht) fun σ H Q h =>
  let ⟨Z, δ, M, Q', A, q, k⟩ := h
  ⟨Z, δ, M, _, A, q, fun v d H1 M1 g1 m1 r1 ⟨a, fs, e, hm, hl, q⟩ => by
    subst e
    obtain ⟨dx, vs, h1, rf⟩ := ins_at m1 hm
    have hv : vs.lookup m = none := by
      rcases rf.look m with ⟨_, h⟩ | ⟨d, v, h, _⟩
      · exact h
      · rw [hl] at h; cases h
    exact ⟨a, dx, vs, r1, h1, hv, Z, [.ref a], M1, Q', X0, m1, ⟨v, [], rfl, r1, rfl⟩, q, fun v d H3 M3 g3 => k v d H3 M3 (g1.trans g3), fun _ _ _ _ _ _ _ _ _ _ w => w.elim⟩⟩
def dMake (C : Addr) (sp : SpD) (t : DA_) : DE_ := fun δ M Q => t δ M fun ds M1 => ∀ x, M1 x = none → sp (.ref x :: ds) (up M1 x (.ins C [])) (fun d M2 => d = .non ∧ Q (.ref x) M2) X0
theorem non_rep {K : KZ} {H : Hp} {M : Mp} {v : V} (r : Rep K H M .non v) : v = .non := r
theorem make_abs {K : KZ} {H : Hp} {M : Mp} (m : AbsM K H M) {x dx C : Addr} (hx : H x = none) (hd : H dx = none) (n : dx ≠ x) : Grow H M (upd (upd H dx (.own x)) x (.ins C dx [])) (up M x (.ins C [])) ∧ AbsM K (upd (upd H dx (.own x)) x (.ins C dx [])) (up M x (.ins C [])) := by
  have m1 := m.new (o := .own x) hd
  have g1 := Grow.new (o := .own x) m hd
  have hx1 : upd H dx (.own x) x = none := by rw [upd_ne (Ne.symm n)]; exact hx
  exact ⟨g1.trans (Grow.newM m1 hx1), m1.newM hx1 ⟨dx, [], upd_same, rfl⟩⟩
theorem dMake_up {K : PySem.W.Frag} {C : Addr} {σ : L2.St} {H : Hp} {Q : VK} (h : Up K (dMake C sp t) σ H Q) : tMake C (UpSp K sp) [] E0 (UpA K t) σ H Q :=
  let ⟨Z, δ, M, Q', A, q, k⟩ := h
  ⟨Z, δ, M, _, A, q, fun vs ds H1 M1 g m r q x dx hx hd n => by
    obtain ⟨g2, m2⟩ := make_abs (C := C) m hx hd n
    refine ⟨Z, .ref x :: ds, _, _, X0, m2, ?_, q x (m.none hx), fun v d H3 M3 g3 m3 r3 ⟨e, q3⟩ => ?_, fun _ _ _ _ _ _ _ _ _ _ w => w.elim⟩
    · rw [List.append_nil]; exact ⟨.ref x, vs, rfl, rfl, r.grow g2⟩
    · subst e
      exact ⟨non_rep r3, k _ (.ref x) H3 M3 ((g.trans g2).trans g3) m3 rfl q3⟩⟩
theorem de_make (Mk : Mk X.K C f) (F : FnOk X.prog X.w X.K X.mg X.base CX0 k f fd ps (UpSp X.K sp)) (hr : Room (k + 1) X.A) (hm : X.mg x = some (.ref C)) (hb : Binds X.K fd ps [])
    (ha : DA X (e :: es) t) (hg : Gl X x := by rfl) (hdb : (x == ("__debug__" : Str)) = false := by decide) (he : starEach (e :: es) X.env = (false, eval e X.env) :: starEach es X.env := by rfl) (hpl : (backTo pos (starEach es X.env)).any (·.1) = false := by rfl) :
    DE X (.Call (.Name x p) (e :: es) [] pos) (dMake C sp t) := PE.imp (pe_make Mk F hr hg hm hb .nil pass0 ha hdb he hpl) fun _ _ _ => dMake_up
theorem de_make0 (Mk : Mk X.K C f) (F : FnOk X.prog X.w X.K X.mg X.base CX0 k f fd ps (UpSp X.K sp)) (hr : Room (k + 1) X.A) (hm : X.mg x = some (.ref C)) (hb : Binds X.K fd ps [])
    (hg : Gl X x := by rfl) (hdb : (x == ("__debug__" : Str)) = false := by decide) : DE X (.Call (.Name x p) [] [] pos) (dMake C sp dNil) := PE.imp (pe_make0 Mk F hr hg hm hb .nil pass0 hdb) fun σ H Q h =>
  let ⟨Z, δ, M, Q', A, q, k⟩ := h
  fun x dx hx hd n => by
    have m := A.mem
    obtain ⟨g2, m2⟩ := make_abs (C := C) m hx hd n
    refine ⟨Z, [.ref x], _, _, X0, m2, ⟨.ref x, [], rfl, rfl, rfl⟩, q x (m.none hx), fun v d H3 M3 g3 m3 r3 ⟨e, q3⟩ => ?_, fun _ _ _ _ _ _ _ _ _ _ w => w.elim⟩
    subst e
    exact ⟨non_rep r3, k _ (.ref x) H3 M3 (g2.trans g3) m3 rfl q3⟩
def dFld (C : Addr) (ta : DE_) (f : Str) : DE_ := fun δ M Q => ta δ M fun x M1 => ∃ a fs d, x = .ref a ∧ M1 a = some (.ins C fs) ∧ fs.lookup f = some d ∧ Q d M1
theorem de_fld {f : Str} (c : Cls X.K C) (n : NoAttr X.K C f) (he : DE X e ta) (hb : attributeBase e f X.env (eval e X.env) = eval e X.env := by rfl) : DE X (.Attribute e f pos) (dFld C ta f) :=
  PE.imp (pe_fld he hb) fun σ H Q ⟨Z, δ, M, Q', A, q, k⟩ => ⟨Z, δ, M, _, A, q, fun v d H1 M1 g m r ⟨a, fs, d', e, hm, hl, q⟩ => by
    subst e
    obtain ⟨dx, vs, h1, rf⟩ := ins_at m hm
    rcases rf.look f with ⟨h, _⟩ | ⟨d2, v2, h2, h3, h4⟩
    · rw [hl] at h; cases h
    · rw [hl] at h2; cases h2
      exact ⟨a, C, dx, vs, v2, r, h1, c, n, h3, k v2 d' H1 M1 g m h4 q⟩⟩
def dSetF (C : Addr) (ta tv : DE_) (f : Str) : DS_ := fun E δ M => tv δ M fun y M1 => ta δ M1 fun x M2 => ∃ a fs, x = .ref a ∧ M2 a = some (.ins C fs) ∧ fs.length < 1000 ∧ E.nx δ (up M2 a (.ins C (putFD f y fs)))
theorem ds_fld {f : Str} {value : Expr} {tv : DE_} {pos' : Pos} (c : Cls X.K C) (n : NoAttr X.K C f) (ha : DE X o ta) (hv : DE X value tv) (hs : swapsWith value (some (.Attribute o f pos')) pos.line X.env = pure false := by rfl) : DS X (.Assign [.Attribute o f pos'] value pos) (dSetF C ta tv f) :=
  PS.imp (ps_fld ha hv hs) fun E σ H ⟨Z, δ, M, E', A, q, k⟩ => ⟨Z, δ, M, _, A, q, fun v d H1 M1 g m r q => ⟨Z, δ, M1, _, A.grow g m, q, fun v2 d2 H2 M2 g2 m2 r2 ⟨a, fs, e, hm, hl, q⟩ => by
    subst e
    obtain ⟨dx, vs, h1, rf⟩ := ins_at m2 hm
    have gw := Grow.write (H := H2) (o := .ins C dx (putF f v vs)) (c := .ins C (putFD f d fs)) hm
    have mw := m2.write (o := .ins C dx (putF f v vs)) (c := .ins C (putFD f d fs)) hm ⟨dx, _, upd_same, (rf.put (r.grow g2)).grow gw⟩
    exact ⟨a, C, dx, vs, r2, h1, c, n, by rw [rf.len]; exact hl, k.nx σ _ δ _ ((g.trans g2).trans gw) (A.grow ((g.trans g2).trans gw) mw) q⟩⟩⟩
def dAugF (C : Addr) (ta tv : DE_) (r : R2D) (f : Str) : DS_ := fun E δ M => ta δ M fun x M1 => ∃ a fs d, x = .ref a ∧ M1 a = some (.ins C fs) ∧ fs.lookup f = some d ∧
  tv δ M1 fun y M2 => r d y M2 fun z M3 => ∃ fs', M3 a = some (.ins C fs') ∧ fs'.length < 1000 ∧ E.nx δ (up M3 a (.ins C (putFD f z fs')))
theorem ds_fldaug {f : Str} {value : Expr} {tv : DE_} {tpos : Pos} {op : Operator} {r : R2D} (c : Cls X.K C) (n : NoAttr X.K C f) (ha : DE X o ta) (hv : DE X value tv) (hop : InOp X op (UpR X.K r)) : DS X (.AugAssign (.Attribute o f tpos) op value pos) (dAugF C ta tv r f) :=
  PS.imp (ps_fldaug ha hv hop) fun E σ H ⟨Z, δ, M, E', A, q, k⟩ => ⟨Z, δ, M, _, A, q, fun v d H1 M1 g m r1 ⟨a, fs, d', e, hm, hl, q⟩ => by
    subst e
    obtain ⟨dx, vs, h1, rf⟩ := ins_at m hm
    rcases rf.look f with ⟨h, _⟩ | ⟨d2, v2, h2, h3, h4⟩
    · rw [hl] at h; cases h
    · rw [hl] at h2; cases h2
      refine ⟨a, C, dx, vs, v2, r1, h1, c, n, h3, Z, δ, M1, _, A.grow g m, q, fun v3 d3 H2 M2 g2 m2 r3 q2 => ⟨Z, d', d3, M2, _, m2, h4.grow g2, r3, q2, fun v4 d4 H3 M3 g3 m3 r4 ⟨fs', hm', hl', q3⟩ => ?_⟩⟩
      obtain ⟨dx', vs', h1', rf'⟩ := ins_at m3 hm'
      have gw := Grow.write (H := H3) (o := .ins C dx' (putF f v4 vs')) (c := .ins C (putFD f d4 fs')) hm'
      have mw := m3.write (o := .ins C dx' (putF f v4 vs')) (c := .ins C (putFD f d4 fs')) hm' ⟨dx', _, upd_same, (rf'.put r4).grow gw⟩
      have gg := ((g.trans g2).trans g3).trans gw
      exact ⟨dx', vs', h1', by rw [rf'.len]; exact hl', k.nx σ _ δ _ gg (A.grow gg mw) q3⟩⟩
theorem in_addI : InOp X .Add (UpR X.K (rI (fun _ _ => True) fun i j => .int (i + j))) := fun pins s σ H x y v u Q I r1 r2 ⟨Z, dx, dy, M, Q', m, rx, ry, ⟨i, j, e1, e2, c, q⟩, k⟩ => by
  subst e1; subst e2
  exact in_add pins s σ H x y v u Q I r1 r2 ⟨i, j, rx, ry, done k m (d := .int (i + j)) rfl q⟩
end
mutual
inductive Fr (M1 M0 : Mp) : D → D → Prop where
  | refl (d : D) : Fr M1 M0 d d
  | lst {a : Addr} {ds es : List D} (h : M1 a = some (.lst ds)) (h0 : M0 a = none) (r : Frs M1 M0 ds es) : Fr M1 M0 (.ref a) (.lst es)
  | dic {a : Addr} {ds : List (Key × D)} (h : M1 a = some (.dic ds)) (h0 : M0 a = none) : Fr M1 M0 (.ref a) (.dic ds)
  | tup {ds es : List D} (r : Frs M1 M0 ds es) : Fr M1 M0 (.tup ds) (.tup es)
  | lsts {ds es : List D} (r : Frs M1 M0 ds es) : Fr M1 M0 (.lst ds) (.lst es)
inductive Frs (M1 M0 : Mp) : List D → List D → Prop where
  | nil : Frs M1 M0 [] []
  | cons {d e : D} {ds es : List D} (h : Fr M1 M0 d e) (r : Frs M1 M0 ds es) : Frs M1 M0 (d :: ds) (e :: es)
end
def Le (M0 M1 : Mp) : Prop := ∀ a c, M0 a = some c → M1 a = some c
theorem Le.refl (M : Mp) : Le M M := fun _ _ h => h
theorem Le.none {M0 M1 : Mp} (l : Le M0 M1) {a : Addr} (h : M1 a = none) : M0 a = none := by
  cases e : M0 a with
  | none => rfl
  | some c => rw [l a c e] at h; cases h
theorem Le.gx {M0 M1 : Mp} (l : Le M0 M1) (H : Hp) (Z : Addr → Prop) : GrowX Z H M1 H M0 := fun a o _ h m => ⟨h, l.none m⟩
theorem Le.grow {M0 M1 : Mp} (l : Le M0 M1) {H H1 : Hp} {M : Mp} (g : Grow H M H1 M1) : Grow H M H1 M0 := fun a o h m => let ⟨h1, m1⟩ := g a o h m; ⟨h1, l.none m1⟩
theorem Le.abs {M0 M1 : Mp} (l : Le M0 M1) {K : KZ} {H : Hp} (m : AbsM K H M1) : AbsM K H M0 := ⟨fun a c h => (m.cell a c (l a c h)).growX (l.gx H K.Z) rfl, fun a z => ⟨l.none (m.hid a z).1, (m.hid a z).2⟩⟩
mutual
theorem Fr.rep {M0 M1 : Mp} (l : Le M0 M1) {K : KZ} {H : Hp} (m : AbsM K H M1) : ∀ {d e : D}, Fr M1 M0 d e → ∀ {v : V}, Rep K H M1 d v → Rep K H M0 e v
  | _, _, .refl d, _, r => r.growX (l.gx H K.Z)
  | _, _, .lst (a := a) h h0 q, _, r => by
    obtain ⟨xs, h1, h2⟩ := m.cell a _ h
    exact ⟨a, xs, r, ⟨h0, m.nozM h, h1⟩, Frs.reps l m q h2⟩
  | _, _, .dic (a := a) h h0, _, r => by
    obtain ⟨xs, h1, h2⟩ := m.cell a _ h
    exact ⟨a, xs, r, ⟨h0, m.nozM h, h1⟩, h2.growX (l.gx H K.Z)⟩
  | _, _, .tup q, _, ⟨a, xs, e, t, r⟩ => ⟨a, xs, e, t.growX (l.gx H K.Z), Frs.reps l m q r⟩
  | _, _, .lsts q, _, ⟨a, xs, e, t, r⟩ => ⟨a, xs, e, t.growX (l.gx H K.Z), Frs.reps l m q r⟩
theorem Frs.reps {M0 M1 : Mp} (l : Le M0 M1) {K : KZ} {H : Hp} (m : AbsM K H M1) : ∀ {ds es : List D}, Frs M1 M0 ds es → ∀ {vs : List V}, Reps K H M1 ds vs → Reps K H M0 es vs
  | _, _, .nil, _, r => r
  | _, _, .cons h q, _, ⟨x, r, e, a, b⟩ => ⟨x, r, e, Fr.rep l m h a, Frs.reps l m q b⟩
end
def Out (Q : VD) : VD := fun d M' => ∃ M0 d0, Le M0 M' ∧ Fr M' M0 d d0 ∧ Q d0 M0
theorem Out.same {Q : VD} {d : D} {M : Mp} (q : Q d M) : Out Q d M := ⟨M, d, Le.refl _, .refl _, q⟩
def startD (N : List Str) (ds : List D) : SD := ds.map some ++ List.replicate (N.length - ds.length) none
theorem abs_start {K : KZ} {N : List Str} {H : Hp} {M : Mp} {ds : List D} {vs : List V} (m : AbsM K H M) (r : Reps K H M ds vs) : Abs K (start N vs) H (startD N ds) M := by
  have hl := r.len
  refine ⟨m, by simp [L2.start, startD, hl], fun i d h => ?_⟩
  unfold startD at h
  unfold L2.start
  by_cases hi : i < ds.length
  · rw [List.getElem?_append_left (by simpa using hi), List.getElem?_map] at h
    cases e : ds[i]? with
    | none => rw [e] at h; cases h
    | some d' =>
      rw [e] at h
      cases h
      obtain ⟨v, h1, h2⟩ := r.get e
      exact ⟨v, by rw [List.getElem?_append_left (by rw [List.length_map, hl]; exact hi), List.getElem?_map, h1]; rfl, h2⟩
  · rw [List.getElem?_append_right (by simpa using hi), List.getElem?_replicate] at h
    split at h <;> cases h
section
variable {P : Program} {w : World} {K : PySem.W.Frag} {mg : Str → Option Value} {base : Heap}
theorem fn_ok {x qual : Str} {st : Stmt} {f : Addr} {fd : FuncData} {N ps : List Str} {k : Nat} {sp : SpD} (F : Fun K x qual st f fd) (S : FnScope N ps (defScope st)) (len : ∀ ds M Q E, sp ds M Q E → ds.length = ps.length)
    (hbody : ∀ (cdv : Value) (A : Around) (outer : List Env) (s : Shared) (H : Hp) (E : XK), Room k (A.deeper (envOfC qual (defScope st) s.heap.objs.size f cdv)) →
      ∃ t, DSs (cxOf CX0 P w K mg base N qual (defScope st) f cdv A outer s H E).nox (defBody st) t ∧ ∀ ds M Q E, sp ds M Q E → t { nx := fun _ M' => Out Q .non M', rt := Out Q } (startD N ds) M) : FnOk P w K mg base CX0 (k + 1) f fd ps (UpSp K sp) := by
  refine F.ok S (fun vs H Q E ⟨Z, ds, M, Q', E', m, r, h, _⟩ => by rw [r.len]; exact len _ _ _ _ h) fun cdv A outer s H vs Q E hr ⟨Z, ds, M, Q', E', m, r, h, kq, _⟩ => ?_
  obtain ⟨t, h1, h2⟩ := hbody cdv A outer s H E hr
  refine ⟨_, h1, Z, _, M, _, abs_start m r, h2 ds M Q' E' h, ?_⟩
  have out : ∀ v d H' M', Grow H M H' M' → AbsM ⟨K, Z⟩ H' M' → Rep ⟨K, Z⟩ H' M' d v → Out Q' d M' → Q v H' := fun v d H' M' g m r ⟨M0, d0, l, f, q⟩ =>
    kq v d0 H' M0 (l.grow g) (l.abs m) (f.rep l m r) q
  exact ⟨fun σ' H' δ' M' g A q => out .non .non H' M' g A.mem rfl q, out, fun _ _ _ _ _ _ q => q, fun _ _ _ _ _ _ q => q⟩
end
end Ht
set_option Elab.async false
set_option linter.all false
set_option maxRecDepth 100000
namespace Ht
open PySem PySem.Spec PyProof.Rows L2
abbrev CD := List D → Mp → VD → Prop
def UpC (K : PySem.W.Frag) (r : CD) : List V → Hp → VK → Prop := fun vs H Q => ∃ Z ds M Q', AbsM ⟨K, Z⟩ H M ∧ Reps ⟨K, Z⟩ H M ds vs ∧ r ds M Q' ∧ ∀ v d H' M', Grow H M H' M' → AbsM ⟨K, Z⟩ H' M' → Rep ⟨K, Z⟩ H' M' d v → Q' d M' → Q v H'
abbrev CallD (X : Cx) (f : Value) (r : CD) : Prop := CallR X f (UpC X.K r)
theorem CallR.imp {X : Cx} {f : Value} {r r2 : List V → Hp → VK → Prop} (h : CallR X f r) (k : ∀ vs H Q, r2 vs H Q → r vs H Q) : CallR X f r2 := fun pins s σ H xs us Q I rx q => h pins s σ H xs us Q I rx (k _ _ _ q)
def dCB (r : CD) (t : DA_) : DE_ := fun δ M Q => t δ M fun ds M1 => r ds M1 Q
theorem dCB_up {K : PySem.W.Frag} {r : CD} {t : DA_} {σ : L2.St} {H : Hp} {Q : VK} (h : Up K (dCB r t) σ H Q) : tCB (UpC K r) (UpA K t) σ H Q :=
  let ⟨Z, δ, M, Q', A, q, k⟩ := h
  ⟨Z, δ, M, _, A, q, fun vs ds H1 M1 g m rp q => ⟨Z, ds, M1, Q', m, rp, q, fun v d H2 M2 g2 => k v d H2 M2 (g.trans g2)⟩⟩
section
variable {X : Cx} {x : Str} {p pos : Pos} {e : Expr} {es : List Expr} {t : DA_} {id T : String} {r : CD}
theorem de_callB (hc : CallD X (.builtin id) r) (hm : X.mg x = none) (hv : bootBuiltins x = some (.builtin id)) (ha : DA X (e :: es) t) (hg : Gl X x := by rfl) (hn : x ≠ "__name__" := by decide) (hdb : (x == ("__debug__" : Str)) = false := by decide)
    (he : starEach (e :: es) X.env = (false, eval e X.env) :: starEach es X.env := by rfl) (hpl : (backTo pos (starEach es X.env)).any (·.1) = false := by rfl) : DE X (.Call (.Name x p) (e :: es) [] pos) (dCB r t) :=
  PE.imp (pe_callB hc hg hm hv ha hn hdb he hpl) fun _ _ _ => dCB_up
theorem de_callTy (hc : CallD X (.type T) r) (hm : X.mg x = none) (hv : bootBuiltins x = some (.type T)) (ha : DA X (e :: es) t) (hg : Gl X x := by rfl) (hn : x ≠ "__name__" := by decide) (hdb : (x == ("__debug__" : Str)) = false := by decide)
    (he : starEach (e :: es) X.env = (false, eval e X.env) :: starEach es X.env := by rfl) (hpl : (backTo pos (starEach es X.env)).any (·.1) = false := by rfl) : DE X (.Call (.Name x p) (e :: es) [] pos) (dCB r t) :=
  PE.imp (pe_callTy hc hg hm hv ha hn hdb he hpl) fun _ _ _ => dCB_up
theorem de_ty {T : String} (hm : X.mg x = none) (hv : bootBuiltins x = some (.type T)) (hg : Gl X x := by rfl) (hn : x ≠ "__name__" := by decide) (hdb : (x == ("__debug__" : Str)) = false := by decide) : DE X (.Name x pos) (dC (.ty T)) :=
  de_c (v := .ty T) (pe_bltn hg hm hv (show RelV (.ty T) (.type T) from rfl) hn hdb) fun _ _ _ => rfl
end
theorem reps1 {K : KZ} {H : Hp} {M : Mp} {d : D} {vs : List V} (r : Reps K H M [d] vs) : ∃ v, vs = [v] ∧ Rep K H M d v := by
  obtain ⟨x, r, e, a, b⟩ := r
  cases b
  exact ⟨x, e, a⟩
theorem reps2 {K : KZ} {H : Hp} {M : Mp} {d d2 : D} {vs : List V} (r : Reps K H M [d, d2] vs) : ∃ v u, vs = [v, u] ∧ Rep K H M d v ∧ Rep K H M d2 u := by
  obtain ⟨x, r, e, a, b⟩ := r
  obtain ⟨u, e2, h⟩ := reps1 b
  subst e2
  exact ⟨x, u, e, a, h⟩
section
variable {X : Cx}
def lenM (M : Mp) (x : D) : Option Nat :=
  match x with
  | .str z => if z.length ≤ sizeLine then some z.length else none
  | x => match seqM M x with
    | some ds => some ds.length
    | none => (dicM M x).map (·.length)
theorem lenM_cases {M : Mp} {x : D} {n : Nat} (h : lenM M x = some n) : (∃ z, x = .str z ∧ z.length ≤ sizeLine ∧ n = z.length) ∨ (∃ ds, seqM M x = some ds ∧ n = ds.length) ∨ ∃ kvs, dicM M x = some kvs ∧ n = kvs.length := by
  unfold lenM at h
  split at h
  · split at h
    · rename_i z hz; exact .inl ⟨z, rfl, hz, by simpa using h.symm⟩
    · cases h
  · split at h
    · rename_i ds hd; exact .inr (.inl ⟨ds, hd, by simpa using h.symm⟩)
    · obtain ⟨kvs, h1, h2⟩ := Option.map_eq_some_iff.mp h
      exact .inr (.inr ⟨kvs, h1, h2.symm⟩)
def rLen : CD := fun ds M Q => ∃ x n, ds = [x] ∧ lenM M x = some n ∧ Q (.int n) M
theorem cd_len : CallD X (.builtin "len") rLen :=
  CallR.imp ((call_len_seq.or call_len_str).or call_lenD) fun vs H Q ⟨Z, ds, M, Q', m, rp, ⟨x, n, e, h, q⟩, k⟩ => by
    subst e
    obtain ⟨v, rfl, rx⟩ := reps1 rp
    rcases lenM_cases h with ⟨z, rfl, hz, rfl⟩ | ⟨ds, hx, rfl⟩ | ⟨kvs, hx, rfl⟩
    · exact .inl (.inr ⟨z, by rw [show v = V.str z from rx], hz, done k m (d := .int z.length) rfl q⟩)
    · obtain ⟨a, xs, f1, f2, r⟩ := seqM_at m hx rx
      exact .inl (.inl ⟨a, xs, by rw [f1], f2, by rw [r.len]; exact done k m (d := .int ds.length) rfl q⟩)
    · obtain ⟨a, xs, f1, f2, r⟩ := dicM_at m hx rx
      exact .inr ⟨a, xs, by rw [f1], f2, by rw [r.len]; exact done k m (d := .int kvs.length) rfl q⟩
theorem reps_bl {K : KZ} {H : Hp} {M : Mp} : ∀ {bs : List Bool} {vs : List V}, Reps K H M (bs.map .bl) vs → vs = bs.map V.bl
  | [], _, r => r
  | b :: bs, _, ⟨x, r, e, a, c⟩ => by
    subst e
    rw [show x = V.bl b from a, reps_bl c]; rfl
def rBls (g : List Bool → Bool) : CD := fun ds M Q => ∃ x bs, ds = [x] ∧ lstM M x = some (bs.map .bl) ∧ Q (.bl (g bs)) M
theorem cd_all (hc : X.calm = true) : CallD X (.builtin "all") (rBls fun bs => bs.all id) :=
  CallR.imp (cr_all hc) fun vs H Q ⟨Z, ds, M, Q', m, rp, ⟨x, bs, e, h, q⟩, k⟩ => by
    subst e
    obtain ⟨v, rfl, rx⟩ := reps1 rp
    obtain ⟨a, xs, f1, f2, r⟩ := lstM_at m h rx
    have := reps_bl r
    subst this
    exact ⟨a, bs, by rw [f1], .of f2, done k m (d := .bl (bs.all id)) rfl q⟩
theorem cd_any (hc : X.calm = true) : CallD X (.builtin "any") (rBls fun bs => bs.any id) :=
  CallR.imp (cr_any hc) fun vs H Q ⟨Z, ds, M, Q', m, rp, ⟨x, bs, e, h, q⟩, k⟩ => by
    subst e
    obtain ⟨v, rfl, rx⟩ := reps1 rp
    obtain ⟨a, xs, f1, f2, r⟩ := lstM_at m h rx
    have := reps_bl r
    subst this
    exact ⟨a, bs, by rw [f1], .of f2, done k m (d := .bl (bs.any id)) rfl q⟩
def intM : D → Option Int
  | .int i => some i
  | .bl b => some (if b then 1 else 0)
  | .str a => if a.length ≤ 640 then PySem.intText? a else none
  | _ => none
def rInt : CD := fun ds M Q => ∃ x n, ds = [x] ∧ intM x = some n ∧ Q (.int n) M
theorem cd_int : CallD X (.type "int") rInt :=
  CallR.imp (call_int1.or call_int_str) fun vs H Q ⟨Z, ds, M, Q', m, rp, ⟨x, n, e, h, q⟩, k⟩ => by
    subst e
    obtain ⟨v, rfl, rx⟩ := reps1 rp
    cases x with
    | int i =>
      have e := Option.some.inj (show some i = some n from h)
      subst e
      exact .inl (.inl ⟨i, by rw [show v = V.int i from rx], done k m (d := .int i) rfl q⟩)
    | bl b =>
      have e := Option.some.inj (show some (if b then 1 else 0) = some n from h)
      subst e
      exact .inl (.inr ⟨b, by rw [show v = V.bl b from rx], done k m (d := .int (if b then 1 else 0)) rfl q⟩)
    | str a =>
      have h : (if a.length ≤ 640 then PySem.intText? a else none) = some n := h
      by_cases hl : a.length ≤ 640
      · rw [if_pos hl] at h
        exact .inr ⟨a, n, by rw [show v = V.str a from rx], h, hl, done k m (d := .int n) rfl q⟩
      · rw [if_neg hl] at h; cases h
    | _ => cases h
def rStr : CD := fun ds M Q => ∃ i : Int, ds = [.int i] ∧ i.natAbs.log2 < 1920 ∧ Q (.str (toString i)) M
theorem cd_str : CallD X (.type "str") rStr :=
  CallR.imp call_str_int fun vs H Q ⟨Z, ds, M, Q', m, rp, ⟨i, e, h, q⟩, k⟩ => by
    subst e
    obtain ⟨v, rfl, rx⟩ := reps1 rp
    exact ⟨i, by rw [show v = V.int i from rx], h, done k m (d := .str (toString i)) rfl q⟩
def isTupD : D → Bool
  | .tup _ => true | .tupP _ => true | _ => false
def rTuple (b : Bool) : CD := fun ds M Q => ∃ x, ds = [x] ∧ if isTupD x = true then Q x M else ∃ es, lstM M x = some es ∧ Q (if b = true then .tupP es else .tup es) M
theorem rep_newB {K : KZ} {H : Hp} {M : Mp} {p : Addr} {ds : List D} {vs : List V} {o : Obj} (m : AbsM K H M) (np : H p = none) (hc : o.cls = .type "tuple") (hd : o.dict = none) (r : Reps K H M ds vs) : Rep K (upd H p (.frz o (.tup vs))) M (.tupP ds) (.ref p) :=
  ⟨p, vs, rfl, ⟨o, m.fz np, hc, hd⟩, r.grow (Grow.new m np)⟩
theorem call_tuple_bare : CallR X (.type "tuple") (fun xs H Q => ∃ p ys, xs = [.ref p] ∧ SqL X.K H p ys ∧ ∀ l o, H l = none → o.cls = .type "tuple" → o.dict = none → Q (.ref l) (upd H l (.frz o (.tup ys)))) := by
  intro pins s σ H xs us Q I r ⟨p, ys, e, hq, q⟩
  subst e
  obtain ⟨u, rfl, rx⟩ := vals1 r
  cases rx
  obtain ⟨its, rv, pl, hz⟩ := I.list hq
  have hlen := rv.length
  refine call_tuple_list pl.isList (fun h' kp => ?_) (by simp only [List.size_toArray] <;> omega)
  have I1 : Inv X pins σ H { s with heap := h' } := I.kept (t' := s.toks) kp
  exact ⟨.ref h'.objs.size, _, I1.laid (t' := s.toks) (o := .frz { cls := .type "tuple", data := .seq its.toArray } (.tup ys)) (fun b o e => Heap.get?_push_of_some _ e) (Nat.le_refl _)
    ⟨Heap.get?_push_size _ rfl, hz, its, rv, IsTup.new _ _⟩, rfl, q _ _ (I1.hok.fresh (Nat.le_refl _)) rfl rfl⟩
theorem isTupD_at {K : KZ} {H : Hp} {M : Mp} {x : D} {v : V} (h : isTupD x = true) (r : Rep K H M x v) : ∃ a xs, v = .ref a ∧ SqT K.K H a xs := by
  cases x with
  | tup ds => obtain ⟨a, xs, e, t, _⟩ := r; exact ⟨a, xs, e, t.sq⟩
  | tupP ds => obtain ⟨a, xs, e, t, _⟩ := r; exact ⟨a, xs, e, t.sq⟩
  | _ => cases h
theorem cd_tuple (b : Bool) : CallD X (.type "tuple") (rTuple b) :=
  CallR.imp (call_tuple_of.or call_tuple_bare) fun vs H Q ⟨Z, ds, M, Q', m, rp, ⟨x, e, h⟩, k⟩ => by
    subst e
    obtain ⟨v, rfl, rx⟩ := reps1 rp
    split at h
    · rename_i ht
      obtain ⟨a, xs, e, t⟩ := isTupD_at ht rx
      subst e
      exact .inl ⟨a, xs, rfl, .inr ⟨t, done k m rx h⟩⟩
    · obtain ⟨es, h, q⟩ := h
      obtain ⟨a, xs, f1, f2, r⟩ := lstM_at m h rx
      subst f1
      cases b with
      | false => exact .inl ⟨a, xs, rfl, .inl ⟨.of f2, fun l nl => k _ (.tup es) _ M (Grow.new m nl) (m.new nl) (rep_newT m nl r) q⟩⟩
      | true => exact .inr ⟨a, xs, rfl, .of f2, fun l o nl c d => k _ (.tupP es) _ M (Grow.new m nl) (m.new nl) (rep_newB m nl c d r) q⟩
def rList (o : Bool) : CD := fun ds M Q => ∃ x es, ds = [x] ∧ seqM M x = some es ∧ newL o es M Q
theorem cd_list (o : Bool) : CallD X (.type "list") (rList o) :=
  CallR.imp call_list_of fun vs H Q ⟨Z, ds, M, Q', m, rp, ⟨x, es, e, h, q⟩, k⟩ => by
    subst e
    obtain ⟨v, rfl, rx⟩ := reps1 rp
    obtain ⟨a, xs, f1, f2, r⟩ := seqM_at m h rx
    subst f1
    exact ⟨a, xs, rfl, f2, fun l nl => newL_ok (Grow.refl _ _) m nl r q k⟩
theorem reps_is {K : KZ} {H : Hp} {M : Mp} : ∀ {ns : List Int} {vs : List V}, Reps K H M (ns.map .int) vs → vs = ns.map V.int
  | [], _, r => r
  | b :: bs, _, ⟨x, r, e, a, c⟩ => by
    subst e
    rw [show x = V.int b from a, reps_is c]; rfl
def rMaxD : CD := fun ds M Q => (∃ i j, ds = [.int i, .int j] ∧ Q (.int (if j > i then j else i)) M) ∨ ∃ (x : D) (ns : List Int), ds = [x] ∧ lstM M x = some (ns.map .int) ∧ 0 < ns.length ∧ ∀ m, m ∈ ns → (∀ y, y ∈ ns → y ≤ m) → Q (.int m) M
theorem cd_max (hc : X.calm = true) : CallD X (.builtin "max") rMaxD :=
  CallR.imp ((call_max2 hc).or (cr_max hc)) fun vs H Q ⟨Z, ds, M, Q', m, rp, h, k⟩ => by
    rcases h with ⟨i, j, e, q⟩ | ⟨x, ns, e, h, hl, q⟩
    · subst e
      obtain ⟨v, u, rfl, r1, r2⟩ := reps2 rp
      exact .inl ⟨i, j, by rw [show v = V.int i from r1, show u = V.int j from r2], done k m (d := .int (if j > i then j else i)) rfl q⟩
    · subst e
      obtain ⟨v, rfl, rx⟩ := reps1 rp
      obtain ⟨a, xs, f1, f2, r⟩ := lstM_at m h rx
      have := reps_is r
      subst this
      exact .inr ⟨a, ns, by rw [f1], .of f2, hl, fun y hy hz => done k m (d := .int y) rfl (q y hy hz)⟩
def tyN (M : Mp) : D → Option String
  | .non => some "NoneType" | .bl _ => some "bool" | .int _ => some "int" | .str _ => some "str"
  | .tup _ => some "tuple" | .tupP _ => some "tuple" | .lst _ => some "list" | .dic _ => some "dict" | .scr _ => some "list"
  | .ref a => match M a with
    | some (.lst _) => some "list"
    | some (.dic _) => some "dict"
    | _ => none
  | .ty _ => none
theorem SqT.tyx {K : PySem.W.Frag} {H : Hp} {a : Addr} {xs : List V} (h : SqT K H a xs) : TyX K H (.ref a) (.type "tuple") := by
  rcases h with (h | ⟨o, h⟩) | ⟨o, its, n, h, c, _⟩
  · exact .base (.tup h)
  · exact .fTuple h
  · exact .kTuple h c
theorem SqL.tyx {K : PySem.W.Frag} {H : Hp} {a : Addr} {xs : List V} (h : SqL K H a xs) : TyX K H (.ref a) (.type "list") := by
  rcases h with (h | ⟨o, h⟩) | ⟨o, its, n, h, c, _⟩
  · exact .base (.lst h)
  · exact .base (.frz h)
  · exact .kList h c
theorem tyN_at {K : KZ} {H : Hp} {M : Mp} (m : AbsM K H M) {x : D} {v : V} {n : String} (h : tyN M x = some n) (r : Rep K H M x v) : TyX K.K H v (.type n) := by
  cases x with
  | non => cases h; rw [show v = V.non from r]; exact .base .non
  | bl b => cases h; rw [show v = V.bl b from r]; exact .base (.bl b)
  | int i => cases h; rw [show v = V.int i from r]; exact .base (.int i)
  | str z => cases h; rw [show v = V.str z from r]; exact .base (.str z)
  | tup ds => cases h; obtain ⟨a, xs, e, t, _⟩ := r; subst e; exact SqT.tyx t.sq
  | tupP ds => cases h; obtain ⟨a, xs, e, t, _⟩ := r; subst e; exact SqT.tyx t.sq
  | lst ds => cases h; obtain ⟨a, xs, e, t, _⟩ := r; subst e; exact .base (.lst t.2.2)
  | dic ds => cases h; obtain ⟨a, xs, e, t, _⟩ := r; subst e; exact .base (.dK t.2.2)
  | scr ns =>
    cases h
    obtain ⟨a, e, t⟩ := r
    subst e
    exact SqL.tyx t.sq
  | ref a =>
    have e : v = V.ref a := r
    subst e
    unfold tyN at h
    cases hm : M a with
    | none => simp [hm] at h
    | some c =>
      have q := m.cell a c hm
      cases c with
      | lst ds => simp only [hm, Option.some.injEq] at h; subst h; obtain ⟨xs, e, _⟩ := q; exact .base (.lst e)
      | dic ds => simp only [hm, Option.some.injEq] at h; subst h; obtain ⟨xs, e, _⟩ := q; exact .base (.dK e)
      | ins C fs => simp [hm] at h
  | ty n => cases h
def tysOf : D → Option (List String)
  | .ty n => some [n]
  | .tup ds => ds.mapM fun d => match d with
    | .ty n => some n
    | _ => none
  | _ => none
def kits (t : String) : List String → Option Bool
  | [] => some false
  | n :: r => match kitB t n with
    | some true => some true
    | some false => kits t r
    | none => none
theorem kits_any {K : PySem.W.Frag} {t : String} : ∀ {ns : List String} {b : Bool}, kits t ns = some b → PySem.W.kitAny K (.type t) (ns.map Value.type) = some b
  | [], b, h => by cases h; exact kitAny_nil
  | n :: r, b, h => by
    unfold kits at h
    split at h
    · rename_i e; cases h; exact kitAny_cons (kit_ty e) (fun z => nomatch z) fun _ => rfl
    · rename_i e; exact kitAny_cons (kit_ty e) (fun _ => kits_any h) fun z => nomatch z
    · cases h
theorem tys_at {K : KZ} {H : Hp} {M : Mp} : ∀ {ds : List D} {ns : List String} {vs : List V}, (ds.mapM fun d => match d with | .ty n => some n | _ => none) = some ns → Reps K H M ds vs → vs = ns.map V.ty
  | [], ns, vs, h, r => by
    simp at h; subst h; cases r; rfl
  | d :: ds, ns, vs, h, ⟨x, r, e, a, b⟩ => by
    subst e
    rw [List.mapM_cons] at h
    cases d with
    | ty n =>
      simp only [Option.bind_eq_bind, Option.bind_some] at h
      obtain ⟨ms, h1, h2⟩ := Option.bind_eq_some_iff.mp h
      have h3 : n :: ms = ns := by simpa using h2
      subst h3
      rw [show x = V.ty n from a, tys_at h1 b]; rfl
    | _ => simp at h
theorem paired_ty : ∀ ns : List String, Paired ClsV (ns.map V.ty) (ns.map Value.type)
  | [] => .nil
  | n :: r => .cons (.ty n) (paired_ty r)
theorem vals_ty : ∀ {ns : List String} {us : List Value}, Vals (ns.map V.ty) us → us = ns.map Value.type
  | [], _, .nil => rfl
  | n :: r, _, .cons h t => by rw [show _ = Value.type n from h, vals_ty t]; rfl
def isiM (M : Mp) (x c : D) : Option Bool :=
  match tyN M x, tysOf c with
  | some t, some ns => kits t ns
  | _, _ => none
def rIsiD : CD := fun ds M Q => ∃ x c b, ds = [x, c] ∧ isiM M x c = some b ∧ Q (.bl b) M
theorem cd_isi : CallD X (.builtin "isinstance") rIsiD :=
  CallR.imp ((call_isi.or call_isiT).or call_isiK) fun vs H Q ⟨Z, ds, M, Q', m, rp, ⟨x, c, b, e, h, q⟩, k⟩ => by
    subst e
    obtain ⟨v, u, rfl, r1, r2⟩ := reps2 rp
    unfold isiM at h
    split at h
    · rename_i t ns h1 h2
      have ty := tyN_at m h1 r1
      have q := done k m (v := .bl b) (d := .bl b) rfl q
      cases c with
      | ty n =>
        cases h2
        have h3 : kitB t n = some b := by
          unfold kits at h
          split at h
          · cases h; assumption
          · rename_i e; rw [e]; exact h
          · cases h
        exact .inl (.inl ⟨v, u, _, .type n, b, rfl, by rw [show u = V.ty n from r2]; exact .ty n, ty, kit_ty h3, q⟩)
      | tup cs =>
        obtain ⟨a, xs, e, tt, rs⟩ := r2
        subst e
        have e2 := tys_at h2 rs
        subst e2
        rcases tt with tt | tt
        · exact .inl (.inr ⟨v, a, _, _, _, b, rfl, tt.2.2, paired_ty ns, ty, kits_any h, q⟩)
        · obtain ⟨o, its, nn, hk, hc, hd, hz, hv⟩ := tt
          obtain ⟨cls, dd, data, sl⟩ := o
          simp only at hc hd
          subst hc; subst hd
          have e3 := vals_ty hv
          exact .inr ⟨v, a, dd, ns.map Value.type, nn, sl, _, b, rfl, by rw [hk, ← e3], ty, kits_any h, q⟩
      | _ => cases h2
    · cases h
end
end Ht
set_option Elab.async false
set_option linter.all false
set_option maxRecDepth 100000
namespace PySem
namespace HtX
open AutoSeq1
theorem extend_tup (l : Addr) (xs : Array Value) (n : Nat) (b : Addr) (ys : Array Value) (n2 : Nat) (dd : Option Addr) (sl : Array (Option Value)) (h0 : ¬(!xs.isEmpty && Builtin.List.listTooLong (xs.size + ys.size)) = true) (h1 : xs.size ≤ sizeLine) (h2 : xs.size + ys.size ≤ sizeLine + 1) :
    Meets (Builtin.«list.extend» ⟨[.ref l, .ref b], []⟩) (fun _ R s => s.heap.get? l = some { cls := .type "list", dict := none, data := .seq xs n, slots := #[] } ∧ s.heap.get? b = some { cls := .type "tuple", dict := dd, data := .seq ys n2, slots := sl } ∧ R (.ok (.ret Value.none)) { s with heap := s.heap.update l (Obj.mapSeq fun x => x ++ ys), toks := s.toks }) :=
  .of_wp fun prog w A R s h => by
    obtain ⟨hp, g, d, tk, os⟩ := s
    obtain ⟨hl, hb, h⟩ := h
    have f1 := idx_int
    have f2 := sub_tuple_tuple
    have f3 := sub_list_list
    have f4 := sub_tuple_list
    have f5 := sub_list_tuple
    have hz' : (xs ++ ys).size ≤ sizeLine + 1 := by rw [Array.size_append]; exact h2
    wp_walk using (wpAny_updateSeq hl rfl (hz := h1) (_hz' := hz')), wpAny_loadPart' hl, wpAny_loadPart' hb
    exact ⟨_, rfl, h⟩
end HtX
end PySem
namespace Ht
open PySem PySem.Spec PyProof.Rows L2
abbrev MD := D → List D → Mp → VD → Prop
def UpMt (K : PySem.W.Frag) (r : MD) : V → List V → Hp → VK → Prop := fun v vs H Q => ∃ Z d ds M Q', AbsM ⟨K, Z⟩ H M ∧ Rep ⟨K, Z⟩ H M d v ∧ Reps ⟨K, Z⟩ H M ds vs ∧ r d ds M Q' ∧ ∀ v d H' M', Grow H M H' M' → AbsM ⟨K, Z⟩ H' M' → Rep ⟨K, Z⟩ H' M' d v → Q' d M' → Q v H'
abbrev MtD (X : Cx) (id : String) (r : MD) : Prop := MtR X id (UpMt X.K r)
theorem MtR.imp {X : Cx} {id : String} {r r2 : V → List V → Hp → VK → Prop} (h : MtR X id r) (k : ∀ v vs H Q, r2 v vs H Q → r v vs H Q) : MtR X id r2 := fun pins s σ H x xs v us Q I r1 r2 q => h pins s σ H x xs v us Q I r1 r2 (k _ _ _ _ q)
theorem MtR.or {X : Cx} {id : String} {r r' : V → List V → Hp → VK → Prop} (h : MtR X id r) (h' : MtR X id r') : MtR X id (fun v vs H Q => r v vs H Q ∨ r' v vs H Q) := fun pins s σ H x xs v us Q I r1 r2 q => q.elim (h pins s σ H x xs v us Q I r1 r2) (h' pins s σ H x xs v us Q I r1 r2)
def tyD (M : Mp) (T : String) (x : D) : Bool :=
  match x with
  | .str _ => T == "str"
  | x => (T == "list" && (lstM M x).isSome) || (T == "dict" && (dicM M x).isSome)
theorem tyD_at {K : KZ} {H : Hp} {M : Mp} {T : String} {x : D} {v : V} (m : AbsM K H M) (h : tyD M T x = true) (r : Rep K H M x v) : tyV K.K T v H := by
  unfold tyD at h
  split at h
  · rw [show v = V.str _ from r]
    exact beq_iff_eq.mp h
  · rw [Bool.or_eq_true, Bool.and_eq_true, Bool.and_eq_true] at h
    rcases h with ⟨h1, h2⟩ | ⟨h1, h2⟩
    · obtain ⟨ds, e⟩ := Option.isSome_iff_exists.mp h2
      obtain ⟨a, xs, e1, e2, _⟩ := lstM_at m e r
      subst e1
      exact .inl ⟨beq_iff_eq.mp h1, xs, .of e2⟩
    · obtain ⟨ds, e⟩ := Option.isSome_iff_exists.mp h2
      obtain ⟨a, xs, e1, e2, _⟩ := dicM_at m e r
      subst e1
      exact .inr (.inr (.inl ⟨beq_iff_eq.mp h1, .inl ⟨xs, e2⟩⟩))
def dBM0 (T : String) (r : MD) (to : DE_) : DE_ := fun δ M Q => to δ M fun x M1 => tyD M1 T x = true ∧ r x [] M1 Q
def dBM (T : String) (r : MD) (to : DE_) (t : DA_) : DE_ := fun δ M Q => to δ M fun x M1 => tyD M1 T x = true ∧ t δ M1 fun ds M2 => r x ds M2 Q
section
variable {X : Cx} {o e f : Expr} {es : List Expr} {to te tf : DE_} {t : DA_} {name : Str} {apos cpos pos : Pos} {T id : String} {r : MD}
theorem de_bm0 (pa : PlainAttrs T) (slot : Slot T name id) (hty : typeOf (.builtin id) = pure (.type "method_descriptor")) (hm : MtD X id r) (ho : DE X o to)
    (hbase : attributeBase o name X.env (eval o X.env) = eval o X.env := by rfl) (hline : (apos.endLine == cpos.line) = true := by rfl) : DE X (.Call (.Attribute o name apos) [] [] cpos) (dBM0 T r to) :=
  PE.imp (pe_bm0 pa slot hty hm ho hbase hline) fun σ H Q ⟨Z, δ, M, Q', A, q, k⟩ => ⟨Z, δ, M, _, A, q, fun v d H1 M1 g m r ⟨h, q⟩ => ⟨tyD_at m h r, Z, d, [], M1, Q', m, r, rfl, q, fun v d H2 M2 g2 => k v d H2 M2 (g.trans g2)⟩⟩
theorem de_bm (pa : PlainAttrs T) (slot : Slot T name id) (hty : typeOf (.builtin id) = pure (.type "method_descriptor")) (hm : MtD X id r) (ho : DE X o to) (ha : DA X (e :: es) t)
    (hbase : attributeBase o name X.env (eval o X.env) = eval o X.env := by rfl)
    (hfew : ((backTo cpos (starEach (e :: es) X.env)).all (fun x => !x.1) && (backToKw cpos (keywordEach [] X.env)).all (fun x => x.1.isSome)
      && decide ((e :: es).length + ([] : List Keyword).length + (if ([] : List Keyword).isEmpty then 0 else 1) < 30)) = true := by rfl)
    (hline : (apos.endLine == cpos.line) = true := by rfl) (hs : starEach (e :: es) X.env = (false, eval e X.env) :: starEach es X.env := by rfl) (hplain : (backTo cpos (starEach es X.env)).any (·.1) = false := by rfl) :
    DE X (.Call (.Attribute o name apos) (e :: es) [] cpos) (dBM T r to t) :=
  PE.imp (pe_bm pa slot hty hm ho ha hbase hfew hline hs hplain) fun σ H Q ⟨Z, δ, M, Q', A, q, k⟩ => ⟨Z, δ, M, _, A, q, fun v d H1 M1 g m r ⟨h, q⟩ => ⟨tyD_at m h r, Z, δ, M1, _, A.grow g m, q, fun vs ds H2 M2 g2 m2 r2 q2 =>
    ⟨Z, d, ds, M2, Q', m2, r.grow g2, r2, q2, fun v d H3 M3 g3 => k v d H3 M3 ((g.trans g2).trans g3)⟩⟩⟩
def cellL (M : Mp) (x : D) : Option (Addr × List D) :=
  match x with
  | .ref a => match M a with
    | some (.lst ds) => some (a, ds)
    | _ => none
  | _ => none
theorem cellL_eq {M : Mp} {x : D} {a : Addr} {ds : List D} (h : cellL M x = some (a, ds)) : x = .ref a ∧ M a = some (.lst ds) := by
  unfold cellL at h
  split at h
  · split at h
    · rename_i hm
      cases h
      exact ⟨rfl, hm⟩
    · cases h
  · cases h
theorem cellL_at {K : KZ} {H : Hp} {M : Mp} (m : AbsM K H M) {x : D} {v : V} {a : Addr} {ds : List D} (h : cellL M x = some (a, ds)) (r : Rep K H M x v) : v = .ref a ∧ M a = some (.lst ds) ∧ ∃ xs, H a = some (.lst xs) ∧ Reps K H M ds xs := by
  obtain ⟨e, hm⟩ := cellL_eq h
  subst e
  exact ⟨r, hm, m.cell a _ hm⟩
theorem put_lst {K : KZ} {H : Hp} {M : Mp} {Q : VK} {Q' : VD} (m : AbsM K H M) (k : ∀ v d H' M', Grow H M H' M' → AbsM K H' M' → Rep K H' M' d v → Q' d M' → Q v H') {a : Addr} {ds es : List D} {ys : List V} (hm : M a = some (.lst ds)) (r : Reps K H M es ys) {v : V} {d : D} (rv : Rep K H M d v) (q : Q' d (up M a (.lst es))) : Q v (upd H a (.lst ys)) := by
  have g := Grow.write (H := H) (o := .lst ys) (c := .lst es) hm
  exact k v d _ _ g (m.write hm ⟨ys, upd_same, r.grow g⟩) (rv.grow g) q
def rApp : MD := fun x ds M Q => ∃ a es y, cellL M x = some (a, es) ∧ ds = [y] ∧ es.length < sizeLine ∧ Q .non (up M a (.lst (es ++ [y])))
theorem md_append : MtD X "list.append" rApp :=
  MtR.imp mt_append fun v vs H Q ⟨Z, d, ds, M, Q', m, rd, rp, ⟨a, es, y, h, e, hl, q⟩, k⟩ => by
    subst e
    obtain ⟨u, rfl, ru⟩ := reps1 rp
    obtain ⟨rfl, hm, xs, h1, h2⟩ := cellL_at m h rd
    exact ⟨a, xs, u, rfl, rfl, h1, by rw [h2.len]; exact hl, put_lst m k hm (h2.append (.one ru)) (d := .non) rfl q⟩
theorem de_append (ho : DE X o to) (he : DE X e te) (hbase : attributeBase o "append" X.env (eval o X.env) = eval o X.env := by rfl)
    (hfew : ((backTo cpos (starEach [e] X.env)).all (fun x => !x.1) && (backToKw cpos (keywordEach [] X.env)).all (fun x => x.1.isSome)
      && decide (([e] : List Expr).length + ([] : List Keyword).length + (if ([] : List Keyword).isEmpty then 0 else 1) < 30)) = true := by rfl)
    (hline : (apos.endLine == cpos.line) = true := by rfl) (hs : starEach [e] X.env = [(false, eval e X.env)] := by rfl) : DE X (.Call (.Attribute o "append" apos) [e] [] cpos) (dBM "list" rApp to (dCons te dNil)) :=
  de_bm PySem.F.plainAttrs_list PySem.F.slot_list_append PySem.F.type_list_append md_append ho (da_cons he da_nil (by rw [hs]; rfl)) hbase hfew hline hs rfl
theorem mt_extendT : MtR X "list.extend" (fun x vs H Q => ∃ l b xs zs, x = .ref l ∧ vs = [.ref b] ∧ H l = some (.lst xs) ∧ SqT X.K H b zs ∧ xs.length + zs.length ≤ sizeLine ∧ Q .non (upd H l (.lst (xs ++ zs)))) := by
  intro pins s σ H x vs v us Q I rx rv h
  obtain ⟨l, b, xs, zs, rfl, rfl, hH, hB, hz, q⟩ := h
  cases rx
  obtain ⟨u, rfl, ru⟩ := rv.one
  cases ru
  obtain ⟨z, its, n, r, hl, e⟩ := I.lstM hH
  obtain ⟨its2, r2, ⟨⟨cls, dd, data, sl⟩, e2, hc, n2, hd⟩, hz2⟩ := I.tuple hB
  simp only at hc hd
  subst hc; subst hd
  have hl2 := r2.length
  have hsz : its.toArray.size + its2.toArray.size ≤ sizeLine := by rw [List.size_toArray, List.size_toArray]; omega
  have hlong : ¬ (!its.toArray.isEmpty && Builtin.List.listTooLong (its.toArray.size + its2.toArray.size)) = true := by
    rw [notLongL hsz, Bool.and_false]
    exact Bool.false_ne_true
  refine call_meets F.slot_list_extend ⟨_, e, rfl⟩ F.entry_list_extend (F.args_list_extend_2 _ _) (PySem.HtX.extend_tup l its.toArray n b its2.toArray n2 dd sl hlong (by omega) (by omega)) ⟨e, e2, ?_⟩
  refine ⟨.non, _, I.lset (its' := its ++ its2) hH e (by simp) (r.append r2) ?_, rfl, q⟩
  rw [List.length_append]
  omega
def rExt : MD := fun x ds M Q => ∃ a es y zs, cellL M x = some (a, es) ∧ ds = [y] ∧ seqM M y = some zs ∧ es.length + zs.length ≤ sizeLine ∧ Q .non (up M a (.lst (es ++ zs)))
theorem seqM_lt {K : KZ} {H : Hp} {M : Mp} {d : D} {v : V} {ds : List D} (m : AbsM K H M) (e : seqM M d = some ds) (r : Rep K H M d v) : ∃ a xs, v = .ref a ∧ (H a = some (.lst xs) ∨ SqT K.K H a xs) ∧ Reps K H M ds xs := by
  cases d with
  | tup es => cases e; obtain ⟨a, xs, e, h, r⟩ := r; exact ⟨a, xs, e, .inr h.sq, r⟩
  | tupP es => cases e; obtain ⟨a, xs, e, h, r⟩ := r; exact ⟨a, xs, e, .inr h.sq, r⟩
  | lst es => obtain ⟨a, xs, h1, h2, h3⟩ := lstM_at m (d := .lst es) e r; exact ⟨a, xs, h1, .inl h2, h3⟩
  | ref es => obtain ⟨a, xs, h1, h2, h3⟩ := lstM_at m (d := .ref es) e r; exact ⟨a, xs, h1, .inl h2, h3⟩
  | _ => cases e
theorem md_extend : MtD X "list.extend" rExt :=
  MtR.imp (MtR.or mt_extend mt_extendT) fun v vs H Q ⟨Z, d, ds, M, Q', m, rd, rp, ⟨a, es, y, zs, h, e, hy, hl, q⟩, k⟩ => by
    subst e
    obtain ⟨u, rfl, ru⟩ := reps1 rp
    obtain ⟨rfl, hm, xs, h1, h2⟩ := cellL_at m h rd
    obtain ⟨b, ys, rfl, h3, h4⟩ := seqM_lt m hy ru
    have q := put_lst m k hm (h2.append h4) (d := .non) (v := .non) rfl q
    rcases h3 with h3 | h3
    · exact .inl ⟨a, b, xs, ys, rfl, rfl, h1, h3, by rw [h2.len, h4.len]; exact hl, q⟩
    · exact .inr ⟨a, b, xs, ys, rfl, rfl, h1, h3, by rw [h2.len, h4.len]; exact hl, q⟩
theorem de_extend (ho : DE X o to) (he : DE X e te) (hbase : attributeBase o "extend" X.env (eval o X.env) = eval o X.env := by rfl)
    (hfew : ((backTo cpos (starEach [e] X.env)).all (fun x => !x.1) && (backToKw cpos (keywordEach [] X.env)).all (fun x => x.1.isSome)
      && decide (([e] : List Expr).length + ([] : List Keyword).length + (if ([] : List Keyword).isEmpty then 0 else 1) < 30)) = true := by rfl)
    (hline : (apos.endLine == cpos.line) = true := by rfl) (hs : starEach [e] X.env = [(false, eval e X.env)] := by rfl) : DE X (.Call (.Attribute o "extend" apos) [e] [] cpos) (dBM "list" rExt to (dCons te dNil)) :=
  de_bm PySem.F.plainAttrs_list PySem.F.slot_list_extend PySem.F.type_list_extend md_extend ho (da_cons he da_nil (by rw [hs]; rfl)) hbase hfew hline hs rfl
def rPopD : MD := fun x ds M Q => ∃ a es y, cellL M x = some (a, es) ∧ ds = [] ∧ es.getLast? = some y ∧ Q y (up M a (.lst es.dropLast))
theorem md_pop : MtD X "list.pop" rPopD :=
  MtR.imp mt_pop fun v vs H Q ⟨Z, d, ds, M, Q', m, rd, rp, ⟨a, es, y, h, e, hy, q⟩, k⟩ => by
    subst e
    cases rp
    obtain ⟨rfl, hm, xs, h1, h2⟩ := cellL_at m h rd
    rw [List.getLast?_eq_getElem?] at hy
    obtain ⟨u, e1, ru⟩ := h2.get hy
    exact ⟨a, xs, u, rfl, rfl, h1, by rw [h2.len]; exact e1, put_lst m k hm h2.dropLast ru q⟩
theorem de_pop (ho : DE X o to) (hbase : attributeBase o "pop" X.env (eval o X.env) = eval o X.env := by rfl) (hline : (apos.endLine == cpos.line) = true := by rfl) : DE X (.Call (.Attribute o "pop" apos) [] [] cpos) (dBM0 "list" rPopD to) :=
  de_bm0 PySem.F.plainAttrs_list PySem.F.slot_list_pop PySem.F.type_list_pop md_pop ho hbase hline
def rRev : MD := fun x ds M Q => ∃ a es, cellL M x = some (a, es) ∧ ds = [] ∧ Q .non (up M a (.lst es.reverse))
theorem md_reverse : MtD X "list.reverse" rRev :=
  MtR.imp mt_reverse fun v vs H Q ⟨Z, d, ds, M, Q', m, rd, rp, ⟨a, es, h, e, q⟩, k⟩ => by
    subst e
    cases rp
    obtain ⟨rfl, hm, xs, h1, h2⟩ := cellL_at m h rd
    exact ⟨a, xs, rfl, rfl, h1, put_lst m k hm h2.reverse (d := .non) rfl q⟩
theorem de_reverse (ho : DE X o to) (hbase : attributeBase o "reverse" X.env (eval o X.env) = eval o X.env := by rfl) (hline : (apos.endLine == cpos.line) = true := by rfl) : DE X (.Call (.Attribute o "reverse" apos) [] [] cpos) (dBM0 "list" rRev to) :=
  de_bm0 PySem.F.plainAttrs_list PySem.F.slot_list_reverse PySem.F.type_list_reverse md_reverse ho hbase hline
def rIdxB : MD := fun x ds M Q => ∃ (bs : List Bool) (j : Nat), lstM M x = some (bs.map .bl) ∧ ds = [.bl true] ∧ bs.findIdx? (fun b => b) = some j ∧ Q (.int (j : Nat)) M
theorem md_index : MtD X "list.index" rIdxB :=
  MtR.imp mt_index fun v vs H Q ⟨Z, d, ds, M, Q', m, rd, rp, ⟨bs, j, h, e, hj, q⟩, k⟩ => by
    subst e
    obtain ⟨u, rfl, ru⟩ := reps1 rp
    obtain ⟨a, xs, rfl, h1, h2⟩ := lstM_at m h rd
    have e := reps_bl h2
    subst e
    have e2 : u = V.bl true := ru
    subst e2
    rw [List.findIdx?_eq_some_iff_getElem] at hj
    obtain ⟨hlt, ht, hf⟩ := hj
    refine ⟨a, _, V.bl true, j, V.bl true, rfl, rfl, .of h1, rfl, ?_, ?_, by decide, ?_, done k m (d := .int (j : Nat)) rfl q⟩
    · rw [List.all_map, List.all_eq_true]; intro b _; rfl
    · rw [List.getElem?_map, List.getElem?_eq_getElem hlt]
      rw [ht]; rfl
    · intro i z' hi hz
      have hil : i < bs.length := by omega
      rw [List.getElem?_map, List.getElem?_eq_getElem hil] at hz
      have := hf i hi
      have e3 : bs[i] = false := by simpa using this
      rw [e3] at hz
      cases hz
      decide
theorem de_index (ho : DE X o to) (he : DE X e te) (hbase : attributeBase o "index" X.env (eval o X.env) = eval o X.env := by rfl)
    (hfew : ((backTo cpos (starEach [e] X.env)).all (fun x => !x.1) && (backToKw cpos (keywordEach [] X.env)).all (fun x => x.1.isSome)
      && decide (([e] : List Expr).length + ([] : List Keyword).length + (if ([] : List Keyword).isEmpty then 0 else 1) < 30)) = true := by rfl)
    (hline : (apos.endLine == cpos.line) = true := by rfl) (hs : starEach [e] X.env = [(false, eval e X.env)] := by rfl) : DE X (.Call (.Attribute o "index" apos) [e] [] cpos) (dBM "list" rIdxB to (dCons te dNil)) :=
  de_bm PySem.F.plainAttrs_list PySem.F.slot_list_index PySem.F.type_list_index md_index ho (da_cons he da_nil (by rw [hs]; rfl)) hbase hfew hline hs rfl
theorem reps_ss {K : KZ} {H : Hp} {M : Mp} : ∀ {ns : List Str} {vs : List V}, Reps K H M (ns.map .str) vs → vs = ns.map V.str
  | [], _, r => r
  | b :: bs, _, ⟨x, r, e, a, c⟩ => by
    subst e
    rw [show x = V.str b from a, reps_ss c]; rfl
theorem ss_reps {K : KZ} {H : Hp} {M : Mp} : ∀ ns : List Str, Reps K H M (ns.map .str) (ns.map V.str)
  | [] => rfl
  | b :: bs => ⟨_, _, rfl, rfl, ss_reps bs⟩
def dJoin (to te : DE_) : DE_ := fun δ M Q => to δ M fun x M1 => ∃ a, x = .str a ∧ te δ M1 fun y M2 => ∃ ys : List Str, seqM M2 y = some (ys.map .str) ∧ (ys.map (·.length)).sum + ys.length * a.length ≤ 16777216 ∧ Q (.str (Txt.join a ys)) M2
theorem de_join (ho : DE X o to) (he : DE X e te) (hs : starEach [e] X.env = [(false, eval e X.env)] := by rfl) (hbase : attributeBase o "join" X.env (eval o X.env) = eval o X.env := by rfl) (hline : (apos.endLine == pos.line) = true := by rfl) :
    DE X (.Call (.Attribute o "join" apos) [e] [] pos) (dJoin to te) :=
  PE.imp (pe_join ho he hs hbase hline) fun σ H Q ⟨Z, δ, M, Q', A, q, k⟩ => ⟨Z, δ, M, _, A, q, fun v d H1 M1 g m r ⟨a, e, q⟩ => by
    subst e
    refine ⟨⟨a, r⟩, Z, δ, M1, _, A.grow g m, q, fun v2 d2 H2 M2 g2 m2 r2 ⟨ys, h, hz, q⟩ => ?_⟩
    obtain ⟨p, xs, f1, f2, f3⟩ := seqM_at m2 h r2
    have e := reps_ss f3
    subst e; subst f1
    exact ⟨a, p, ys, r, rfl, f2, hz, k _ (.str (Txt.join a ys)) H2 M2 (g.trans g2) m2 rfl q⟩⟩
def dSplit (to te : DE_) : DE_ := fun δ M Q => to δ M fun x M1 => ∃ a, x = .str a ∧ te δ M1 fun y M2 => ∃ b, y = .str b ∧ (b.length == 0) = false ∧ a.length + 2 ≤ sizeLine ∧ Q (.lst ((Txt.split a b).map .str)) M2
theorem de_split (ho : DE X o to) (he : DE X e te) (hs : starEach [e] X.env = [(false, eval e X.env)] := by rfl) (hbase : attributeBase o "split" X.env (eval o X.env) = eval o X.env := by rfl) (hline : (apos.endLine == pos.line) = true := by rfl) :
    DE X (.Call (.Attribute o "split" apos) [e] [] pos) (dSplit to te) :=
  PE.imp (pe_split ho he hs hbase hline) fun σ H Q ⟨Z, δ, M, Q', A, q, k⟩ => ⟨Z, δ, M, _, A, q, fun v d H1 M1 g m r ⟨a, e, q⟩ => by
    subst e
    refine ⟨⟨a, r⟩, Z, δ, M1, _, A.grow g m, q, fun v2 d2 H2 M2 g2 m2 r2 ⟨b, e, hb, hz, q⟩ => ?_⟩
    subst e
    exact ⟨a, b, r, by rw [show v2 = V.str b from r2], hb, hz, fun p np => k (.ref p) (.lst ((Txt.split a b).map .str)) _ M2 ((g.trans g2).trans (Grow.new m2 np)) (m2.new np) (rep_newL m2 np (ss_reps _)) q⟩⟩
def fmtM : D → Option Str
  | .str y => if y.length ≤ sizeLine then some y else none
  | .int i => if i.natAbs.log2 < 1920 then some (toString i) else none
  | _ => none
def dFmt (te : DE_) : DE_ := fun δ M Q => te δ M fun x M1 => ∃ y, fmtM x = some y ∧ Q (.str y) M1
theorem de_fmt (he : DE X e te) : DE X (.FormattedValue e (-1) none pos) (dFmt te) :=
  PE.imp (pe_fmt he) fun σ H Q ⟨Z, δ, M, Q', A, q, k⟩ => ⟨Z, δ, M, _, A, q, fun v d H1 M1 g m r ⟨y, e, q⟩ => by
    cases d with
    | str z =>
      have e : (if z.length ≤ sizeLine then some z else none) = some y := e
      by_cases hz : z.length ≤ sizeLine
      · rw [if_pos hz] at e
        have e := Option.some.inj e
        subst e
        exact .inl ⟨z, r, hz, k _ (.str z) H1 M1 g m rfl q⟩
      · rw [if_neg hz] at e; cases e
    | int i =>
      have e : (if i.natAbs.log2 < 1920 then some (toString i : Str) else none) = some y := e
      by_cases hz : i.natAbs.log2 < 1920
      · rw [if_pos hz] at e
        have e := Option.some.inj e
        subst e
        exact .inr ⟨i, r, hz, k _ (.str (toString i)) H1 M1 g m rfl q⟩
      · rw [if_neg hz] at e; cases e
    | _ => cases e⟩
inductive DJ (X : Cx) : List Expr → List DE_ → Prop where
  | nil : DJ X [] []
  | cons {e : Expr} {t : DE_} {es : List Expr} {ts : List DE_} (h : DE X e t) (r : DJ X es ts) : DJ X (e :: es) (t :: ts)
def dJs : List DE_ → Str → SD → Mp → (Str → Mp → Prop) → Prop
  | [], acc, _, M, Q => Q acc M
  | t :: ts, acc, δ, M, Q => t δ M fun x M1 => ∃ y : Str, x = .str y ∧ (acc ++ y).length ≤ sizeLine ∧ dJs ts (acc ++ y) δ M1 Q
theorem dj_pj {ts : List DE_} (h : DJ X es ts) : PJ X es (ts.map (Up X.K)) := by
  induction h with
  | nil => exact .nil
  | cons h r ih => exact .cons h ih
theorem dJs_up {K : PySem.W.Frag} {Z : Addr → Prop} {σ : L2.St} {δ : SD} : ∀ {ts : List DE_} {acc : Str} {H : Hp} {M : Mp} {Q : Str → Hp → Prop} {Q' : Str → Mp → Prop}, Abs ⟨K, Z⟩ σ H δ M → dJs ts acc δ M Q' →
    (∀ y H' M', Grow H M H' M' → AbsM ⟨K, Z⟩ H' M' → Q' y M' → Q y H') → tJs (ts.map (Up K)) acc σ H Q
  | [], acc, H, M, Q, Q', A, q, k => k acc H M (Grow.refl _ _) A.mem q
  | t :: ts, acc, H, M, Q, Q', A, q, k => ⟨Z, δ, M, _, A, q, fun v d H1 M1 g m r ⟨y, e, hz, q⟩ => ⟨y, by subst e; exact r, hz, dJs_up (A.grow g m) q fun y H2 M2 g2 => k y H2 M2 (g.trans g2)⟩⟩
theorem de_joined {v1 v2 : Expr} {rest : List Expr} {ts : List DE_} (h : DJ X (v1 :: v2 :: rest) ts) : DE X (.JoinedStr (v1 :: v2 :: rest) pos) (fun δ M Q => dJs ts Str.empty δ M fun out M1 => Q (.str out) M1) :=
  PE.imp (pe_joined (dj_pj h)) fun σ H Q ⟨Z, δ, M, Q', A, q, k⟩ => dJs_up A q fun y H' M' g m q => k (.str y) (.str y) H' M' g m rfl q
def newD (o : Bool) (kvs : List (Key × D)) (M : Mp) (Q : VD) : Prop := if o = true then ∀ p, M p = none → Q (.ref p) (up M p (.dic kvs)) else Q (.dic kvs) M
theorem newD_ok {K : KZ} {H H1 : Hp} {M M1 : Mp} {Q : VK} {Q' : VD} {o : Bool} {p : Addr} {ds : List (Key × D)} {vs : List (Key × V)} (g : Grow H M H1 M1) (m : AbsM K H1 M1) (np : H1 p = none) (r : RepKs K H1 M1 ds vs) (q : newD o ds M1 Q')
    (k : ∀ v d H' M', Grow H M H' M' → AbsM K H' M' → Rep K H' M' d v → Q' d M' → Q v H') : Q (.ref p) (upd H1 p (.dK vs)) := by
  unfold newD at q
  split at q
  · have g2 := Grow.newM (o := .dK vs) (c := .dic ds) m np
    exact k (.ref p) (.ref p) _ _ (g.trans g2) (m.newM np ⟨vs, upd_same, r.grow g2⟩) rfl (q p (m.none np))
  · have g2 := Grow.new (o := .dK vs) m np
    exact k (.ref p) (.dic ds) _ _ (g.trans g2) (m.new np) ⟨p, vs, rfl, m.fz np, r.grow g2⟩ q
def dNewD (o : Bool) : DE_ := fun _ M Q => newD o [] M Q
theorem de_dnew (o : Bool) : DE X (.Dict [] [] pos) (dNewD o) :=
  PE.imp pe_dnewK fun σ H Q ⟨Z, δ, M, Q', A, q, k⟩ => fun p np => newD_ok (Grow.refl _ _) A.mem np (ds := []) (vs := []) rfl q k
def getM (M : Mp) (x y z : D) : Option D :=
  match dicM M x with
  | none => none
  | some kvs => match y with
    | .non => some z
    | y => (keyD y).map fun k => (valD kvs k).getD z
def dGet2 (td ty tx : DE_) : DE_ := fun δ M Q => td δ M fun x M1 => (dicM M1 x).isSome = true ∧ ty δ M1 fun y M2 => tx δ M2 fun z M3 => ∃ w, getM M3 x y z = some w ∧ Q w M3
theorem d_getNone {pins : List (Addr × Obj)} {σ : L2.St} {H : Hp} {s : Shared} {a : Addr} {r : Value} {A : Around} {E : Value → Shared → Prop} {kvs : List (Key × V)} {Q : Value → Shared → Prop} (I : Inv X pins σ H s) (e : Rd H a (.dK kvs)) (h : ∀ s', Inv X pins σ H s' → Q r s') :
    wpAny (model X.prog X.w) A (call (.builtin "dict.get") [.ref a, .none, r]) Q E s := by
  obtain ⟨_, hd, vs, _, dd⟩ := dk_rd I.hok e
  obtain ⟨f, hm, hf⟩ := none_map dd
  refine call_meetsIn PySem.F.slot_dict_get dd.typeIs PySem.F.entry_dict_get (PySem.F.args_dict_get_3 _ _ _) (meets_dict_get_default (noneKind X.prog X.w) a (show (noneKind X.prog X.w).is none .none = true from rfl) hd r) ⟨f, hm, ?_⟩
  rw [hf]
  exact h _ (I.tok _)
theorem getM_cases {M : Mp} {x y z w : D} (h : getM M x y z = some w) : ∃ kvs, dicM M x = some kvs ∧ ((y = .non ∧ w = z) ∨ ∃ k, keyD y = some k ∧ w = (valD kvs k).getD z) := by
  unfold getM at h
  split at h
  · cases h
  · rename_i kvs hk
    refine ⟨kvs, hk, ?_⟩
    split at h
    · exact .inl ⟨rfl, (Option.some.inj h).symm⟩
    · obtain ⟨k, h1, h2⟩ := Option.map_eq_some_iff.mp h
      exact .inr ⟨k, h1, h2.symm⟩
theorem de_dget2 (hu : X.A.units + 1 < cLine) (ho : DE X o to) (he : DE X e te) (hf : DE X f tf) (m : M2 X o "get" apos e f cpos) : DE X (.Call (.Attribute o "get" apos) [e, f] [] cpos) (dGet2 to te tf) := by
  refine ⟨fun pins s σ H Q I ⟨Z, δ, M, Q', A, q, k⟩ => ?_⟩
  refine wpAny_Call_method m.base m.few m.line PySem.F.plainAttrs_dict PySem.F.slot_dict_get PySem.F.type_dict_get (thn (ho.run pins s σ H (fun v H1 => ∃ d M1, Grow H M H1 M1 ∧ AbsM ⟨X.K, Z⟩ H1 M1 ∧ Rep ⟨X.K, Z⟩ H1 M1 d v ∧ _) I ⟨Z, δ, M, _, A, q, fun v d H1 M1 g m r q => ⟨d, M1, g, m, r, q⟩⟩) fun u s1 ⟨x, H1, I1, rx, dx, M1, g1, m1, rdx, hs, q1⟩ => ?_)
  obtain ⟨kvs, hk⟩ := Option.isSome_iff_exists.mp hs
  obtain ⟨a, xs, ex, hx, _⟩ := dicM_at m1 hk rdx
  subst ex
  obtain rfl : u = Value.ref a := rx
  obtain ⟨t1, t2, _⟩ := isD_at I1 (.inl ⟨xs, .inl hx⟩)
  refine ⟨t1, t2, ?_⟩
  rw [m.trees]
  refine Calls.callWith_builtin rfl (Calls.evalArgs_plain (Calls.spliced_cons (thn (he.run pins s1 σ H1 (fun v H2 => ∃ d M2, Grow H1 M1 H2 M2 ∧ AbsM ⟨X.K, Z⟩ H2 M2 ∧ Rep ⟨X.K, Z⟩ H2 M2 d v ∧ _) I1 ⟨Z, δ, M1, _, A.grow g1 m1, q1, fun v d H2 M2 g m r q => ⟨d, M2, g, m, r, q⟩⟩) fun iv s2 ⟨y, H2, I2, ry, dy, M2, g2, m2, rdy, q2⟩ =>
    Calls.spliced_cons (thn (hf.run pins s2 σ H2 (fun v H3 => ∃ d M3, Grow H2 M2 H3 M3 ∧ AbsM ⟨X.K, Z⟩ H3 M3 ∧ Rep ⟨X.K, Z⟩ H3 M3 d v ∧ _) I2 ⟨Z, δ, M2, _, (A.grow g1 m1).grow g2 m2, q2, fun v d H3 M3 g m r q => ⟨d, M3, g, m, r, q⟩⟩) fun fv s3 ⟨z, H3, I3, rz, dz, M3, g3, m3, rdz, w, hw, q3⟩ => Calls.spliced_nil ?_))))
  obtain ⟨kvs', hk', hw⟩ := getM_cases hw
  obtain ⟨b, ys, eb, hy, rks⟩ := dicM_at m3 hk' ((rdx.grow g2).grow g3)
  cases eb
  rcases hw with ⟨e1, e2⟩ | ⟨ky, e1, e2⟩
  · subst e1; subst e2
    obtain rfl : y = V.non := rdy
    obtain rfl : iv = Value.none := ry
    exact d_getNone I3 (.inl hy) fun s4 I4 => ⟨z, H3, I4, rz, k z _ H3 M3 ((g1.trans g2).trans g3) m3 rdz q3⟩
  · subst e2
    have ey := keyD_rep e1 (rdy.grow g3)
    subst ey
    refine d_get2 hu I3 (DGet.k (k := ky) hy) ry rz fun w' s4 I4 rw' => ?_
    rcases rks.val ky with ⟨h1, h2⟩ | ⟨d, v, h1, h2, h3⟩
    · rw [h2] at rw'
      rw [h1] at q3
      exact ⟨z, H3, I4, rw', k z dz H3 M3 ((g1.trans g2).trans g3) m3 rdz q3⟩
    · rw [h2] at rw'
      rw [h1] at q3
      exact ⟨v, H3, I4, rw', k v d H3 M3 ((g1.trans g2).trans g3) m3 h3 q3⟩
def dGet1 (td ty : DE_) : DE_ := fun δ M Q => td δ M fun x M1 => (dicM M1 x).isSome = true ∧ ty δ M1 fun y M2 => ∃ kvs k, dicM M2 x = some kvs ∧ keyD y = some k ∧ Q ((valD kvs k).getD .non) M2
theorem de_dget1 (hu : X.A.units + 1 < cLine) (ho : DE X o to) (he : DE X e te) (m : M1 X o "get" apos e cpos) : DE X (.Call (.Attribute o "get" apos) [e] [] cpos) (dGet1 to te) :=
  PE.imp (pe_dget1 hu ho he m) fun σ H Q ⟨Z, δ, M, Q', A, q, k⟩ => ⟨Z, δ, M, _, A, q, fun v d H1 M1 g m r ⟨h, q⟩ => by
    obtain ⟨kvs, hk⟩ := Option.isSome_iff_exists.mp h
    obtain ⟨a, xs, e1, h1, _⟩ := dicM_at m hk r
    subst e1
    refine ⟨a, rfl, .inl ⟨xs, .inl h1⟩, Z, δ, M1, _, A.grow g m, q, fun v2 d2 H2 M2 g2 m2 r2 ⟨kvs', ky, hk', e2, q2⟩ => ?_⟩
    obtain ⟨b, ys, eb, hy, rks⟩ := dicM_at m2 hk' (r.grow g2)
    cases eb
    have ey := keyD_rep e2 r2
    subst ey
    refine ⟨_, DGet.k (k := ky) hy, ?_⟩
    rcases rks.val ky with ⟨h1, h2⟩ | ⟨d, v, h1, h2, h3⟩
    · rw [h2]; rw [h1] at q2
      exact k .non .non H2 M2 (g.trans g2) m2 rfl q2
    · rw [h2]; rw [h1] at q2
      exact k v d H2 M2 (g.trans g2) m2 h3 q2⟩
def dSetd (td ty tx : DE_) : DE_ := fun δ M Q => td δ M fun x M1 => ∃ a, x = .ref a ∧ (dicM M1 x).isSome = true ∧ ty δ M1 fun y M2 => tx δ M2 fun z M3 => ∃ kvs k, M3 a = some (.dic kvs) ∧ keyD y = some k ∧ kvs.length < sizeLine ∧
  (∀ v, valD kvs k = some v → Q v M3) ∧ (valD kvs k = none → Q z (up M3 a (.dic (putD kvs k z))))
theorem de_dsetd (ho : DE X o to) (he : DE X e te) (hf : DE X f tf) (m : M2 X o "setdefault" apos e f cpos) : DE X (.Call (.Attribute o "setdefault" apos) [e, f] [] cpos) (dSetd to te tf) :=
  PE.imp (pe_dsetd ho he hf m) fun σ H Q ⟨Z, δ, M, Q', A, q, k⟩ => ⟨Z, δ, M, _, A, q, fun v d H1 M1 g m r ⟨a, ed, h, q⟩ => by
    subst ed
    obtain ⟨kvs, hk⟩ := Option.isSome_iff_exists.mp h
    obtain ⟨a', xs, e1, h1, _⟩ := dicM_at m hk r
    have ev : v = V.ref a := r
    subst ev
    cases e1
    refine ⟨a, rfl, .inl ⟨xs, .inl h1⟩, Z, δ, M1, _, A.grow g m, q, fun v2 d2 H2 M2 g2 m2 r2 q2 => ⟨Z, δ, M2, _, (A.grow g m).grow g2 m2, q2, fun v3 d3 H3 M3 g3 m3 r3 ⟨kvs', ky, hm, e2, hl, q3, q4⟩ => ?_⟩⟩
    obtain ⟨ys, hy, rks⟩ := m3.cell a _ hm
    have ey := keyD_rep e2 (r2.grow g3)
    subst ey
    refine ⟨ys, ky, hy, rfl, by rw [rks.len]; exact hl, fun v hv => ?_, fun hn => ?_⟩
    · rcases rks.val ky with ⟨h1, h2⟩ | ⟨d, v', h1, h2, h3⟩
      · rw [h2] at hv; cases hv
      · rw [h2] at hv; cases hv
        exact k v d H3 M3 ((g.trans g2).trans g3) m3 h3 (q3 d h1)
    · rcases rks.val ky with ⟨h1, h2⟩ | ⟨d, v', h1, h2, h3⟩
      · have gw := Grow.write (H := H3) (o := .dK (putK ys ky v3)) (c := .dic (putD kvs' ky d3)) hm
        exact k v3 d3 _ _ (((g.trans g2).trans g3).trans gw) (m3.write hm ⟨_, upd_same, (rks.put r3).grow gw⟩) (r3.grow gw) (q4 h1)
      · rw [h2] at hn; cases hn⟩
end
end Ht
set_option Elab.async false
set_option linter.all false
set_option maxRecDepth 100000
namespace PySem
namespace HtX
theorem display_star (a b c : Sem Value) : dictDisplay [(some a, b), (none, c)] = (do
    let d ← subDict [(a, b)]
    let m ← holding [.ref d] c
    (((holding [.ref d, m] (mergeMapping d m false)).onRaise fun x => do let _ ← holding [.ref d, m, x] (runValue (.builtin "proto.let_go" {}))).tryCatch fun e => do
      if ← isInstance e (.type "AttributeError") then
        rule "dict.display.not-a-mapping"; raiseError "TypeError" s!"'{← typeNameOf m}' object is not a mapping"
      throw e).onRaise fun x => do let _ ← holding [.ref d, x] (runValue (.builtin "proto.let_go" {}))
    pure (.ref d)) := by
  unfold dictDisplay
  simp
section
variable {prog : Program} {w : World} {K : Type} [DecidableEq K] {knd : KeyKind prog w K} {A : Around} {E : Value → Shared → Prop} {s : Shared}
theorem dictPut_pairs {d : Addr} {kvs : List (K × Value)} {k : K} {key v : Value} {Q : Unit → Shared → Prop} (hkey : knd.is k key = true) (hm : s.heap.DictOf knd d kvs)
    (hQ : ∀ h', h'.DictOf knd d (stored kvs k v) → Heap.SameBut d s.heap h' → Q () { s with heap := h' })
    (hsz : kvs.length ≤ sizeLine) : wpAny (model prog w) A (dictPut d (knd.hash k) key v) Q E s := by
  obtain ⟨o, es, ep, ho, hc, hd, hk, hp, hn⟩ := hm
  have hes : es.size ≤ sizeLine := by
    have e1 := hp.length
    have e2 : es.toList.length = es.size := by simp
    omega
  unfold dictPut
  refine wpAny_bind (wpAny_dictFind_of hkey ho hd hk ?_)
  have hidx : (es.findIdx? fun e => knd.is k e.key) = kvs.findIdx? fun kv => decide (kv.1 = k) := by
    rw [← hp.findIdx k]; obtain ⟨l⟩ := es; simp
  cases hi : es.findIdx? fun e => knd.is k e.key with
  | some i =>
    have hst : stored kvs k v = kvs.map (fun kv => if kv.1 = k then (kv.1, v) else kv) := if_pos (any_of_findIdx_some (hidx ▸ hi))
    refine wpAny_updateDict ho hd (hQ _ ⟨_, _, ep, Heap.get?_update_self _ ho (Obj.isFreed_of_dict (Obj.data_mapDict hd _)), hc.mapDict _, Obj.data_mapDict hd _, hk.modify _ _, ?_, ?_⟩ (Heap.SameBut.update ..))
    · rw [hst]
      have hl : (es.toList.findIdx? fun e => knd.is k e.key) = some i := by rw [← hi]; obtain ⟨l⟩ := es; simp
      have q := hp.modify hn hl v
      obtain ⟨l⟩ := es
      simpa using q
    · rw [hst, keys_map_store]; exact hn
  | none =>
    have hnot : k ∉ kvs.map (·.1) := not_mem_of_findIdx_none (hidx ▸ hi)
    have hany : ¬ (kvs.any fun kv => decide (kv.1 = k)) = true := by
      intro q
      obtain ⟨kv, hkv, he⟩ := List.any_eq_true.mp q
      exact hnot (List.mem_map.mpr ⟨kv, hkv, of_decide_eq_true he⟩)
    have hst : stored kvs k v = kvs ++ [(k, v)] := if_neg hany
    refine wpAny_updateDictKeys (hz := hes) ho hd (hQ _ ⟨_, _, ep + 1, Heap.get?_update_self _ ho (Obj.isFreed_of_dict (Obj.data_mapDictKeys hd _)), hc.mapDictKeys _, Obj.data_mapDictKeys hd _, hk.push hkey _, ?_, ?_⟩ (Heap.SameBut.update ..))
    · rw [hst]
      have q := hp.append hkey (knd.hash k) v
      obtain ⟨l⟩ := es
      simpa using q
    · rw [hst, List.map_append, List.nodup_append]
      refine ⟨hn, by simp, fun a ha b hb => ?_⟩
      have : b = k := by simpa using hb
      subst this
      exact fun e => hnot (e ▸ ha)
theorem mergeMapping_dict {d o : Addr} {kvs more : List (K × Value)} {Q : Unit → Shared → Prop} (hdo : d ≠ o) (hoS : (o == sysModules) = false) (hne : kvs ≠ [])
    (hd : s.heap.DictOf knd d kvs) (ho : s.heap.DictOf knd o more) (hsz : kvs.length + more.length ≤ sizeLine)
    (hQ : ∀ h', h'.DictOf knd d (merged kvs more) → Heap.SameBut d s.heap h' → Q () { s with heap := h' }) :
    wpAny (model prog w) A (mergeMapping d (.ref o) false) Q E s := by
  obtain ⟨od, esd, epd, hod, hcd, hdd, hkd, hpd, hnd⟩ := id hd
  obtain ⟨oo, eso, epo, hoo, hco, hdo', hko, hpo, hno⟩ := id ho
  have hT : s.TypeIs (.ref o) "dict" := ⟨oo, hoo, hco.1⟩
  have hlen : more.length = eso.size := by rw [← hpo.length]; simp
  have hemp : esd.isEmpty = false := by
    have e1 := hpd.length
    cases kvs with
    | nil => exact absurd rfl hne
    | cons _ _ =>
      rw [List.length_cons] at e1
      obtain ⟨l⟩ := esd
      cases l with
      | nil => simp at e1
      | cons _ _ => rfl
  unfold mergeMapping
  refine wpAny_bind (wpAny_isInstance hT F.sub_dict_dict ?_)
  rw [if_pos rfl]
  refine wpAny_bind (wpAny_specialOf hT F.slot_dict_iter.lookup ?_)
  refine wpAny_bind (wpAny_pure ?_)
  have e1 : ((some (Value.builtin "dict.__iter__") : Option Value) == some (.builtin "dict.__iter__")) = true := by decide
  rw [e1]
  dsimp only
  rw [if_neg (by rw [hoS]; exact Bool.false_ne_true)]
  refine wpAny_bind (wpAny_dictEntries hod hdd ?_)
  rw [if_neg (by rw [hemp]; exact Bool.false_ne_true)]
  refine wpAny_bind (wpAny_dictEntries hoo hdo' ?_)
  refine wpAny_bind (wpAny_dictEpoch hoo hdo' ?_)
  refine wpAny_bind ?_
  rw [List.range_eq_range']
  refine wpAny_forIn_list _
    (fun rest _ s' => ∃ h' i, s' = { s with heap := h' } ∧ rest = List.range' i (eso.size - i) ∧ i ≤ eso.size ∧ h'.DictOf knd d (merged kvs (more.take i)) ∧ h'.get? o = some oo ∧ Heap.SameBut d s.heap h')
    _ ?_ ?_ _ _ ⟨s.heap, 0, rfl, by simp, Nat.zero_le _, by simpa [merged] using hd, hoo, Heap.SameBut.refl _ _⟩
  · rintro x rest b s' ⟨h', i, rfl, hr, hi, hd', hoo', hs'⟩
    have hlt : i < eso.size := by
      rcases Nat.lt_or_ge i eso.size with h | h
      · exact h
      · rw [Nat.sub_eq_zero_of_le h] at hr; simp at hr
    obtain ⟨rfl, hrest⟩ : x = i ∧ rest = List.range' (i + 1) (eso.size - (i + 1)) := by
      have e : eso.size - i = (eso.size - (i + 1)) + 1 := by omega
      rw [e, List.range'_succ] at hr
      injection hr with h1 h2
      exact ⟨h1, h2⟩
    refine wpAny_bind (wpAny_dictEntries hoo' hdo' ?_)
    rw [Array.getElem?_eq_getElem hlt]
    obtain ⟨⟨k, v⟩, hkv⟩ : ∃ kv, more[x]? = some kv := ⟨more[x]'(by rw [hlen]; exact hlt), List.getElem?_eq_getElem _⟩
    obtain ⟨hkey, hval⟩ := hpo.get? (e := eso[x]) (by simp [hlt]) hkv
    obtain ⟨k', hkey', hhash⟩ := hko eso[x] (Array.getElem_mem hlt)
    obtain rfl : k' = k := knd.inj _ _ _ hkey' hkey
    dsimp only
    have hmx : (merged kvs (more.take x)).length ≤ sizeLine := by
      have e1 := merged_length_le kvs (more.take x)
      have e2 : (more.take x).length ≤ more.length := by rw [List.length_take]; omega
      omega
    refine wpAny_bind (wpAny_holding ?_)
    rw [if_neg Bool.false_ne_true]
    rw [hhash, hval]
    refine dictPut_pairs hkey hd' (fun h'' hd'' hs'' => ?_) hmx
    have hoo'' : h''.get? o = some oo := (hs''.2 o (Ne.symm hdo)).trans hoo'
    refine wpAny_bind (wpAny_dictEpoch hoo'' hdo' ?_)
    rw [if_neg (by simp)]
    exact wpAny_pure ⟨h'', x + 1, rfl, hrest, hlt, by rw [merged_take_succ kvs more x (k', v) hkv]; exact hd'', hoo'', hs'.trans hs''⟩
  · rintro b s' ⟨h', i, rfl, hr, hi, hd', hoo', hs'⟩
    have hin : i = eso.size := by
      rcases Nat.lt_or_ge i eso.size with h | h
      · have e : eso.size - i = (eso.size - (i + 1)) + 1 := by omega
        rw [e, List.range'_succ] at hr; exact nomatch hr
      · exact Nat.le_antisymm hi h
    refine wpAny_pure (hQ h' ?_ hs')
    rw [hin, ← hlen, List.take_length] at hd'; exact hd'
end
end HtX
end PySem
namespace Ht
open PySem PySem.Spec PyProof.Rows L2
theorem hide_newO {K : PySem.W.Frag} {Z : Addr → Prop} {σ : L2.St} {H1 : Hp} {δ : SD} {M1 : Mp} {L : Addr} {u0 : HO} (A0 : Abs ⟨K, Z⟩ σ H1 δ M1) (hL : H1 L = none) : Abs ⟨K, fun a => Z a ∨ a = L⟩ σ (upd H1 L u0) δ M1 := by
  have m1 := A0.mem
  have zed : ∀ a o, H1 a = some o → ¬ Z a → ¬ (Z a ∨ a = L) := fun a o h nz z => by
    rcases z with z | z
    · exact nz z
    · subst z; rw [hL] at h; cases h
  have up1 : ∀ {a o}, H1 a = some o → upd H1 L u0 a = some o := fun {a o} h => by rw [upd_ne (ne_of_none h hL)]; exact h
  have gx : GrowX (fun a => Z a ∨ a = L) H1 M1 (upd H1 L u0) M1 := fun a o _ h m => ⟨up1 h, m⟩
  refine ⟨⟨fun a c h => ?_, fun a z => ?_⟩, A0.len, fun i d h => ?_⟩
  · obtain ⟨u, hu⟩ := m1.there h
    exact ((m1.cell a c h).zed zed).growX gx (upd_ne (ne_of_none hu hL))
  · rcases z with z | z
    · obtain ⟨h1, u, h2⟩ := m1.hid a z
      exact ⟨h1, u, up1 h2⟩
    · subst z; exact ⟨m1.none hL, _, upd_same⟩
  · obtain ⟨v, h1, h2⟩ := A0.sl i d h
    exact ⟨v, h1, (h2.zed zed).growX gx⟩
theorem unhideK {K : PySem.W.Frag} {Z : Addr → Prop} {o : Bool} {H H1 H2 : Hp} {M M1 M2 : Mp} {L : Addr} {acc : List (Key × D)} {xs : List (Key × V)} {Q : VK} {Q' : VD} (m1 : AbsM ⟨K, Z⟩ H1 M1) (g1 : Grow H M H1 M1) (hL : H1 L = none)
    (gf : Grow H1 M1 H2 M2) (m2 : AbsM ⟨K, fun a => Z a ∨ a = L⟩ H2 M2) (hx : H2 L = some (.dK xs)) (rx : RepKs ⟨K, fun a => Z a ∨ a = L⟩ H2 M2 acc xs) (q2 : newD o acc M2 Q')
    (k : ∀ v d H' M', Grow H M H' M' → AbsM ⟨K, Z⟩ H' M' → Rep ⟨K, Z⟩ H' M' d v → Q' d M' → Q v H') : Q (.ref L) H2 := by
  have nL : M2 L = none := (m2.hid L (.inr rfl)).1
  have unz : ∀ a o, H2 a = some o → ¬ (Z a ∨ a = L) → ¬ Z a := fun a o _ n z => n (.inl z)
  have mZ : AbsM ⟨K, Z⟩ H2 M2 := ⟨fun a c h => (m2.cell a c h).zed unz, fun a z => m2.hid a (.inl z)⟩
  have rZ : RepKs ⟨K, Z⟩ H2 M2 acc xs := rx.zed unz
  have gA := g1.trans gf
  unfold newD at q2
  split at q2
  · refine k (.ref L) (.ref L) H2 (up M2 L (.dic acc)) (fun a u h m => ?_) ⟨fun a c h => ?_, fun a z => ?_⟩ rfl (q2 L nL)
    · obtain ⟨h1, h2⟩ := gA a u h m
      have : a ≠ L := fun e => by
        subst e
        have := (g1 _ u h m).1
        rw [hL] at this; cases this
      exact ⟨h1, by rw [up_ne this]; exact h2⟩
    · by_cases e : a = L
      · subst e; rw [up_same] at h; cases h
        exact ⟨xs, hx, (rx.growX (H1 := H2) (M1 := up M2 a (.dic acc)) fun b u nz h m => ⟨h, by rw [up_ne (fun e => nz (.inr e))]; exact m⟩).zed unz⟩
      · rw [up_ne e] at h
        exact ((m2.cell a c h).growX (H1 := H2) (M1 := up M2 L (.dic acc)) (fun b u nz h m => ⟨h, by rw [up_ne (fun e => nz (.inr e))]; exact m⟩) rfl).zed unz
    · obtain ⟨h1, h2⟩ := mZ.hid a z
      exact ⟨by rw [up_ne (fun e => by subst e; exact m1.noz hL z)]; exact h1, h2⟩
  · exact k (.ref L) (.dic acc) H2 M2 gA mZ ⟨L, xs, rfl, ⟨nL, m1.noz hL, hx⟩, rZ⟩ q2
def compKD (g : DG_) (tt : DT_) (tk tv : DE_) (G : Mp → Prop) (δ : SD) (Q : List (Key × D) → Mp → Prop) : List D → List (Key × D) → Mp → Prop
  | [], acc, M => G M ∧ Q acc M
  | d :: ds, acc, M => G M ∧ g d δ M fun δ2 M2 => tt δ2 M2 fun b M3 => if b = true then tk δ2 M3 fun y M4 => tv δ2 M4 fun z M5 => ∃ k, keyD y = some k ∧ acc.length < sizeLine ∧ compKD g tt tk tv G δ Q ds (putD acc k z) M5 else compKD g tt tk tv G δ Q ds acc M3
theorem comp_coreK {K : PySem.W.Frag} {Z : Addr → Prop} {J : It} {ds : List D} {G : Mp → Prop} {g : DG_} {tt : DT_} {tk tv : DE_} {vs ws : List Nat} {σ : L2.St} {δ : SD} {H1 : Hp} {M1 : Mp} {L : Addr} {acc0 : List (Key × D)} {xs0 : List (Key × V)} {Qc : List (Key × D) → Mp → Prop} {Fin : Hp → Prop}
    (hw : ∀ i, i ∈ ws → i ∈ vs) (zL : Z L) (IT : ItD ⟨K, Z⟩ J ds G H1 M1) (A : Abs ⟨K, Z⟩ σ H1 δ M1) (hx : H1 L = some (.dK xs0)) (rx : RepKs ⟨K, Z⟩ H1 M1 acc0 xs0) (q : compKD g tt tk tv G (wipeD δ vs) Qc ds acc0 M1)
    (k : ∀ H' M' acc xs, GrowX Z H1 M1 H' M' → (∀ a, Z a → a ≠ L → H' a = H1 a) → AbsM ⟨K, Z⟩ H' M' → H' L = some (.dK xs) → RepKs ⟨K, Z⟩ H' M' acc xs → Qc acc M' → Fin H') :
    ∃ W : Nat → Nat → Hp → Prop, (∃ m, W 0 m H1) ∧ ∀ i m H, W i m H → (J.stop i H ∧ Fin H) ∨ (J.go i H ∧ ∃ Nx : Hp → Prop, (∀ H', Nx H' → ∃ m', m' < m ∧ W (i + 1) m' H') ∧ ∀ x H', J.yld i H x H' → UpGc K g ws x (L2.wipe σ vs) H' fun σ2 H2 => L2.wipe σ2 vs = L2.wipe σ vs ∧ UpT K tt σ2 H2 fun b H3 =>
      if b = true then Up K tk σ2 H3 fun y H4 => Up K tv σ2 H4 fun z H5 => ∃ kvs k, y = kV k ∧ H5 L = some (.dK kvs) ∧ kvs.length < sizeLine ∧ Nx (upd H5 L (.dK (putK kvs k z))) else Nx H3) := by
  refine ⟨fun i m H' => ∃ M' acc xs, m = ds.length - i ∧ i ≤ ds.length ∧ GrowX Z H1 M1 H' M' ∧ (∀ a, Z a → a ≠ L → H' a = H1 a) ∧ Abs ⟨K, Z⟩ σ H' δ M' ∧ H' L = some (.dK xs) ∧ RepKs ⟨K, Z⟩ H' M' acc xs ∧ compKD g tt tk tv G (wipeD δ vs) Qc (ds.drop i) acc M',
    ⟨_, M1, acc0, xs0, rfl, Nat.zero_le _, (Grow.refl _ _).x, fun _ _ _ => rfl, A, hx, rx, q⟩, ?_⟩
  rintro i m H2 ⟨M2, acc, xs, rfl, hi, g2, k2, A2, hx, rx, q2⟩
  by_cases hlt : i < ds.length
  · rw [List.drop_eq_getElem_cons hlt] at q2
    obtain ⟨gm, q2⟩ := q2
    have hd : ds[i]? = some ds[i] := by simp [hlt]
    refine .inr ⟨IT.go i _ H2 M2 hd g2 A2.mem gm, fun H' => ∃ M' acc xs, i + 1 ≤ ds.length ∧ GrowX Z H1 M1 H' M' ∧ (∀ a, Z a → a ≠ L → H' a = H1 a) ∧ Abs ⟨K, Z⟩ σ H' δ M' ∧ H' L = some (.dK xs) ∧ RepKs ⟨K, Z⟩ H' M' acc xs ∧ compKD g tt tk tv G (wipeD δ vs) Qc (ds.drop (i + 1)) acc M',
      fun H' ⟨M', acc, xs, a, b, c, d, e, f, h⟩ => ⟨ds.length - (i + 1), by omega, M', acc, xs, rfl, a, b, c, d, e, f, h⟩, fun x H' y => ?_⟩
    obtain ⟨g3, m3, r3⟩ := IT.yld i _ H2 M2 x H' hd g2 A2.mem gm y
    have A3 := A2.grow g3 m3
    refine ⟨_, wipeD δ vs, M2, ds[i], _, A3.wipe vs, r3, q2, fun σ4 H4 δ4 M4 g4 A4 l4 q4 => ⟨wipe_eq l4.1 l4.2 hw, ?_⟩⟩
    refine ⟨_, δ4, M4, _, A4, q4, fun b H5 M5 g5 m5 q5 => ?_⟩
    have gg := (g3.trans g4).trans g5
    have keepL : ∀ {H6 M6}, Grow H2 M2 H6 M6 → H6 L = some (.dK xs) := fun g => (g L _ hx (A2.mem.hid L zL).1).1
    have keepZ : ∀ {H6 M6}, Grow H2 M2 H6 M6 → ∀ a, Z a → a ≠ L → H6 a = H1 a := fun {H6 M6} g a z n => by
      obtain ⟨h1, u, h2⟩ := A2.mem.hid a z
      rw [← k2 a z n, h2]; exact (g a u h2 h1).1
    cases b with
    | false =>
      dsimp only at q5 ⊢
      rw [if_neg Bool.false_ne_true] at q5 ⊢
      exact ⟨M5, acc, xs, hlt, g2.trans gg.x, keepZ gg, A2.grow gg m5, keepL gg, rx.grow gg, q5⟩
    | true =>
      dsimp only at q5 ⊢
      rw [if_pos rfl] at q5 ⊢
      refine ⟨_, δ4, M5, _, A4.grow g5 m5, q5, fun v d H6 M6 g6 m6 r6 q6 => ⟨_, δ4, M6, _, (A4.grow g5 m5).grow g6 m6, q6, fun v7 d7 H7 M7 g7 m7 r7 ⟨ky, ek, hz, q7⟩ => ?_⟩⟩
      have g' := (gg.trans g6).trans g7
      have ev := keyD_rep ek (r6.grow g7)
      refine ⟨xs, ky, ev, keepL g', by rw [rx.len]; exact hz, M7, putD acc ky d7, putK xs ky v7, hlt, ?_, fun a z n => ?_, ?_, upd_same, ?_, q7⟩
      · exact (g2.trans g'.x).trans (GrowX.writeZ zL)
      · rw [upd_ne n]; exact keepZ g' a z n
      · have A6 := A2.grow g' m7
        exact ⟨m7.writeZ zL, A6.len, fun i d h => let ⟨v, h1, h2⟩ := A6.sl i d h; ⟨v, h1, h2.growX (GrowX.writeZ zL)⟩⟩
      · exact ((rx.grow g').put r7).growX (GrowX.writeZ zL)
  · have e : i = ds.length := by omega
    subst e
    rw [List.drop_length] at q2
    obtain ⟨gm, q2⟩ := q2
    exact .inl ⟨IT.stop H2 M2 g2 A2.mem gm, k H2 M2 acc xs g2 k2 A2.mem hx rx q2⟩
def dDc (o : Bool) (ti : DI_) (g : DG_) (tt : DT_) (tk tv : DE_) (vs : List Nat) : DE_ := fun δ M Q => ti δ M fun ds G M1 => compKD g tt tk tv G (wipeD δ vs) (fun acc M2 => newD o acc M2 Q) ds [] M1
theorem dDc_up {K : PySem.W.Frag} {o : Bool} {ti : DI_} {g : DG_} {tt : DT_} {tk tv : DE_} {vs ws : List Nat} (hw : ∀ i, i ∈ ws → i ∈ vs) {σ : L2.St} {H : Hp} {Q : VK} (h : Up K (dDc o ti g tt tk tv vs) σ H Q) :
    tDc (UpI K ti) (UpGc K g ws) (UpT K tt) (Up K tk) (Up K tv) vs σ H Q := by
  obtain ⟨Z, δ, M, Q', A, q, k⟩ := h
  refine ⟨Z, δ, M, _, A, q, fun J ds G H1 M1 g1 m1 IT q1 L hL => ?_⟩
  refine comp_coreK (Z := fun a => Z a ∨ a = L) hw (.inr rfl) (itd_hide hL IT _) (hide_newO (A.grow g1 m1) hL) upd_same (show RepKs _ _ _ [] [] from rfl) q1 fun H' M' acc xs gx kz m hx rx q => ?_
  exact unhideK m1 g1 hL (grow_full hL gx kz m) m hx rx q k
section
variable {X : Cx} {pos : Pos}
theorem de_dc (o : Bool) {kx vx tg iter : Expr} {ifs : List Expr} {scope : Scope} {own : List (Str × Nat)} {ti : DI_} {g : DG_} {tt : DT_} {tk tv : DE_} {ws : List Nat} (hc : X.calm = true) (hN : X.N.Nodup) (hi : DI X tg iter ti) (ok : BlkOk X.N X.env.scope scope own)
    (hg : ∀ (s : Shared) (H : Hp) (C : Addr) (cl : List (Str × Addr)) (fp : List Addr), DGc (X.blk s H scope (compEnvC scope cl C X.env) fp) tg g ws) (ht : ∀ (s : Shared) (H : Hp) (C : Addr) (cl : List (Str × Addr)) (fp : List Addr), DTs (X.blk s H scope (compEnvC scope cl C X.env) fp) ifs tt)
    (hk : ∀ (s : Shared) (H : Hp) (C : Addr) (cl : List (Str × Addr)) (fp : List Addr), DE (X.blk s H scope (compEnvC scope cl C X.env) fp) kx tk)
    (he : ∀ (s : Shared) (H : Hp) (C : Addr) (cl : List (Str × Addr)) (fp : List Addr), DE (X.blk s H scope (compEnvC scope cl C X.env) fp) vx tv) (hw : ∀ i, i ∈ ws → i ∈ own.map (·.2) := by decide) (hs : ∀ x, foldedSetIterable iter X.env x = pure x := by intro _; rfl) :
    DE X (.DictComp kx vx [⟨tg, iter, ifs, 0⟩] scope pos) (dDc o ti g tt tk tv (own.map (·.2))) :=
  PE.imp (pe_dc hc hN hi ok hg ht hk he hs) fun _ _ _ => dDc_up hw
theorem ps_setDc {i : Nat} {y : Str} {py : Pos} {kx vx tg iter : Expr} {ifs : List Expr} {scope : Scope} {own : List (Str × Nat)} {pos spos : Pos} {wi : TI} {g : TG} {tt : TT} {tk tv : TE} (hc : X.calm = true) (hN : X.N.Nodup) (hy : X.N[i]? = some y) (hyl : X.env.scope.names.lookup y = some .local)
    (hsw : swapsWith (.DictComp kx vx [⟨tg, iter, ifs, 0⟩] scope pos) (some (.Name y py)) spos.line X.env = pure true) (hi : PI X tg iter wi) (ok : BlkOk X.N X.env.scope scope own)
    (hg : ∀ (s : Shared) (H : Hp) (C : Addr) (cl : List (Str × Addr)) (fp : List Addr), PG (X.blk s H scope (compEnvC scope cl C X.env) fp) tg g) (ht : ∀ (s : Shared) (H : Hp) (C : Addr) (cl : List (Str × Addr)) (fp : List Addr), PTs (X.blk s H scope (compEnvC scope cl C X.env) fp) ifs tt)
    (hk : ∀ (s : Shared) (H : Hp) (C : Addr) (cl : List (Str × Addr)) (fp : List Addr), PE (X.blk s H scope (compEnvC scope cl C X.env) fp) kx tk)
    (he : ∀ (s : Shared) (H : Hp) (C : Addr) (cl : List (Str × Addr)) (fp : List Addr), PE (X.blk s H scope (compEnvC scope cl C X.env) fp) vx tv) (hs : ∀ x, foldedSetIterable iter X.env x = pure x := by intro _; rfl) :
    PS X (.Assign [.Name y py] (.DictComp kx vx [⟨tg, iter, ifs, 0⟩] scope pos) spos) (tAsg (tDc wi g tt tk tv (own.map (·.2))) (L2.gName i)) := by
  refine ⟨fun pins s σ H D I h => ?_⟩
  rw [exec_Assign_Name_used _ _ _ _ hsw]
  refine wpAny_bind (wpAny_standAt (wpAny_bind ?_))
  show wpAny _ X.A (do let _ ← comprehension (.DictComp kx vx [⟨tg, iter, ifs, 0⟩] scope pos) scope X.env (firstIterPos [⟨tg, iter, ifs, 0⟩] pos) newDict false (eval iter X.env) (some (assign (.Name y py) X.env))) _ _ s
  have h : tDc wi g tt tk tv (own.map (·.2)) σ H (fun x H1 => L2.gName i x σ H1 D.nx) := h
  refine wpAny_bind (thn (dc_core (Qf := fun _ s' => SP X pins D .next s') hc hN I hi ok hg ht hk he hs h fun L C s' m H' I' q hn f => ?_) fun _ s' hq => wpAny_pure (wpAny_pure hq))
  show wpAny _ _ (assign (.Name y py) X.env (.ref L)) _ _ _
  refine wpAny_assign_Name (store_ok2 (v := V.ref L) I' hN hy (.inl hyl) rfl (fun s2 I2 ⟨a, sb, ha⟩ => ?_) (.inr hyl))
  obtain ⟨f0, f1, f2, f3, f4, f5⟩ := f
  have apart : C ≠ a := by
    rcases ha with z | z
    · rw [z]; exact f1
    · exact fun e => f4 y a z e.symm
  refine ⟨m, hn.sameBut sb apart, fun h3 sb3 => ?_⟩
  exact ⟨_, H', I2.turned (t' := s2.toks) (fun b o hb e => (sb3.2 b hb).trans e) f0 f1 f3 f4 f5, q⟩
theorem ds_setDc (o : Bool) {i : Nat} {y : Str} {py : Pos} {kx vx tg iter : Expr} {ifs : List Expr} {scope : Scope} {own : List (Str × Nat)} {spos : Pos} {ti : DI_} {g : DG_} {tt : DT_} {tk tv : DE_} {ws : List Nat} (hc : X.calm = true) (hN : X.N.Nodup)
    (hsw : swapsWith (.DictComp kx vx [⟨tg, iter, ifs, 0⟩] scope pos) (some (.Name y py)) spos.line X.env = pure true) (hi : DI X tg iter ti) (ok : BlkOk X.N X.env.scope scope own)
    (hg : ∀ (s : Shared) (H : Hp) (C : Addr) (cl : List (Str × Addr)) (fp : List Addr), DGc (X.blk s H scope (compEnvC scope cl C X.env) fp) tg g ws) (ht : ∀ (s : Shared) (H : Hp) (C : Addr) (cl : List (Str × Addr)) (fp : List Addr), DTs (X.blk s H scope (compEnvC scope cl C X.env) fp) ifs tt)
    (hk : ∀ (s : Shared) (H : Hp) (C : Addr) (cl : List (Str × Addr)) (fp : List Addr), DE (X.blk s H scope (compEnvC scope cl C X.env) fp) kx tk)
    (he : ∀ (s : Shared) (H : Hp) (C : Addr) (cl : List (Str × Addr)) (fp : List Addr), DE (X.blk s H scope (compEnvC scope cl C X.env) fp) vx tv) (hw : ∀ i, i ∈ ws → i ∈ own.map (·.2) := by decide)
    (hy : X.N[i]? = some y := by rfl) (hyl : X.env.scope.names.lookup y = some .local := by rfl) (hs : ∀ x, foldedSetIterable iter X.env x = pure x := by intro _; rfl) :
    DS X (.Assign [.Name y py] (.DictComp kx vx [⟨tg, iter, ifs, 0⟩] scope pos) spos) (dSet (dDc o ti g tt tk tv (own.map (·.2))) i) :=
  PS.imp (ps_setDc hc hN hy hyl hsw hi ok hg ht hk he hs) fun E σ H h => by
    obtain ⟨Z, δ, M, E', A, q, k⟩ := h
    exact dDc_up (o := o) hw ⟨Z, δ, M, _, A, q, fun v d H1 M1 gr m r q => k.nx _ H1 _ M1 gr ((A.grow gr m).set r i) q⟩
def pairsD : List D → Option (List (Key × D))
  | [] => some []
  | .tup [k, v] :: r => match keyD k, pairsD r with
    | some k, some ps => some ((k, v) :: ps)
    | _, _ => none
  | _ => none
def mergeD (kvs more : List (Key × D)) : List (Key × D) := more.foldl (fun acc kv => putD acc kv.1 kv.2) kvs
theorem RepKs.merge {K : KZ} {H : Hp} {M : Mp} : ∀ {more : List (Key × D)} {ys : List (Key × V)} {kvs : List (Key × D)} {xs : List (Key × V)}, RepKs K H M kvs xs → RepKs K H M more ys → RepKs K H M (mergeD kvs more) (mergeK xs ys)
  | [], _, _, _, r, q => by cases q; exact r
  | (k, d) :: more, _, kvs, xs, r, ⟨x, t, e, a, b⟩ => by
    subst e
    show RepKs K H M (mergeD (putD kvs k d) more) (mergeK (putK xs k x) t)
    exact RepKs.merge (r.put a) b
theorem pairs_at {K : KZ} {H : Hp} {M : Mp} : ∀ {ds : List D} {kvs : List (Key × D)} {xs : List V}, pairsD ds = some kvs → Reps K H M ds xs → ∃ (ps : List Addr) (ys : List (Key × V)), xs = ps.map V.ref ∧ Paired (fun p kv => SqT K.K H p [kV kv.1, kv.2]) ps ys ∧ RepKs K H M kvs ys
  | [], _, _, h, r => by
    cases h; cases r
    exact ⟨[], [], rfl, .nil, rfl⟩
  | d :: ds, kvs, xs, h, ⟨x, r, e, a, b⟩ => by
    subst e
    unfold pairsD at h
    split at h
    · rename_i h'; cases h'
    · rename_i k v r' h'
      cases h'
      split at h
      · rename_i ky ps hk hp
        cases h
        obtain ⟨qs, ys, e1, e2, e3⟩ := pairs_at hp b
        obtain ⟨p, us, e4, t, ⟨u, us', e5, r1, ⟨w, us'', e6, r2, e7⟩⟩⟩ := a
        subst e4; subst e1; subst e5; subst e6; cases e7
        have e8 := keyD_rep hk r1
        subst e8
        exact ⟨p :: qs, (ky, w) :: ys, rfl, .cons t.sq e2, ⟨w, ys, rfl, r2, e3⟩⟩
      · cases h
    · cases h
theorem valid_pairs {X : Cx} {pins : List (Addr × Obj)} {σ : L2.St} {H : Hp} {s : Shared} (I : Inv X pins σ H s) {ps : List Addr} {kvs : List (Key × V)} (h : Paired (fun p kv => SqT X.K H p [kV kv.1, kv.2]) ps kvs) :
    ∃ (prs : List (Key × Value)) (qs : List (Value × Value)), KV kvs prs ∧ prs.length = ps.length ∧ qs.length = ps.length ∧ ∀ (j : Nat) (k v : Value), qs[j]? = some (k, v) → ∃ (b : Addr) (ky : Key), ps[j]? = some b ∧ IsTup s.heap b #[k, v] ∧ prs[j]? = some (ky, v) ∧ keyIs ky k = true := by
  induction h with
  | nil => exact ⟨[], [], .nil, rfl, rfl, fun j k v e => by simp at e⟩
  | @cons p kv ps kvs h t ih =>
    obtain ⟨prs, qs, r, hl, hq, hp⟩ := ih
    obtain ⟨its, rv, ht, _⟩ := I.tuple h
    obtain ⟨u, y, ei, ru, ry⟩ := vals2 rv
    subst ei
    refine ⟨(kv.1, y) :: prs, (u, y) :: qs, .cons ⟨rfl, ry⟩ r, by simp [hl], by simp [hq], fun j k v e => ?_⟩
    cases j with
    | zero =>
      have e' : (u, y) = (k, v) := Option.some.inj e
      cases e'
      exact ⟨p, kv.1, rfl, ht, rfl, kV_is (P := X.prog) (w := X.w) ru⟩
    | succ j =>
      obtain ⟨b, ky, e1, e2, e3, e4⟩ := hp j k v (by simpa using e)
      exact ⟨b, ky, by simpa using e1, e2, by simpa using e3, e4⟩
theorem call_dictB (hcalm : X.calm = true) : CallR X (.type "dict") (fun xs H Q => ∃ (a : Addr) (o : Obj) (ps : List Addr) (kvs : List (Key × V)), xs = [.ref a] ∧ H a = some (.frz o (.tup (ps.map V.ref))) ∧ o.cls = .type "tuple" ∧ o.dict = none ∧ Paired (fun p kv => SqT X.K H p [kV kv.1, kv.2]) ps kvs ∧
    ∀ p, H p = none → Q (.ref p) (upd H p (.dK (mergeK [] kvs)))) := by
  intro pins s σ H xs us Q I r q
  obtain ⟨a, o, ps, kvs, ex, ha, hc, hd, hp, q⟩ := q
  subst ex
  obtain ⟨u, eu, rx⟩ := vals1 r
  subst eu
  cases rx
  obtain ⟨hg, hz, its, rv, ob, h1, h2, n, h3⟩ := (show ObjOk X.prog X.w H s.heap a (.frz o (.tup (ps.map V.ref))) from I.hok a _ ha)
  rw [hg] at h1
  cases h1
  have ei := refs_at rv
  subst ei
  rw [List.length_map] at hz
  obtain ⟨prs, qs, rel, hl, hq, hpr⟩ := valid_pairs I hp
  have ok : PlainSeq "tuple" s.heap a (ps.map Value.ref).toArray ∧ PairItems s.heap (ps.map Value.ref).toArray (fun j => ps.getD j 0) qs := by
    refine ⟨⟨o, n, hg, hc, hd, h3⟩, by simp [hq], fun j k v e => ?_⟩
    obtain ⟨b, ky, e1, e2, _⟩ := hpr j k v e
    have e3 : ps.getD j 0 = b := by rw [List.getD_eq_getElem?_getD, e1]; rfl
    refine ⟨?_, .inl ?_⟩
    · show (ps.map Value.ref).toArray[j]? = some (.ref (ps.getD j 0))
      rw [e3]; simp [e1]
    · show s.heap.IsTuple (ps.getD j 0) #[k, v]
      rw [e3]
      obtain ⟨ob, q1, q2, q3⟩ := e2
      exact ⟨ob, q1, q2, q3⟩
  refine PySem.call_dict_pairs (knd := mixKind X.prog X.w) (kvs := prs) (PairArg.tuple a (ps.map Value.ref).toArray (fun j => ps.getD j 0) qs) (I.ok.hd hcalm) ok ⟨by rw [hl, hq], fun j k v e => ?_⟩ (by rw [hq]; exact hz) fun h' tk hd' k => ?_
  · obtain ⟨b, ky, e1, e2, e3, e4⟩ := hpr j k v e
    exact ⟨ky, e3, e4⟩
  · have hm : (s.heap.objs.size == sysModules) = false := beq_eq_false_iff_ne.mpr (Nat.ne_of_gt I.big)
    have hlen : (mergeK [] kvs).length ≤ sizeLine := by
      refine Nat.le_trans (length_mergeK kvs []) ?_
      rw [List.length_nil, Nat.zero_add, rel.length, hl]
      exact hz
    exact ⟨.ref s.heap.objs.size, upd H s.heap.objs.size (.dK (mergeK [] kvs)), I.laid (t' := tk) (fun b o e => k b o (by simp) e) (Nat.le_refl _) (show ObjOk X.prog X.w _ _ _ (.dK (mergeK [] kvs)) from ⟨hlen, hm, merged [] prs, KV.merge rel .nil, hd'⟩), rfl, q _ (I.hok.fresh (Nat.le_refl _))⟩
def dictM (M : Mp) (x : D) : Option (List (Key × D)) :=
  match x with
  | .tupP ds => pairsD ds
  | x => match lstM M x with
    | some ds => pairsD ds
    | none => none
def rDict (o : Bool) : CD := fun ds M Q => ∃ x kvs, ds = [x] ∧ dictM M x = some kvs ∧ newD o (mergeD [] kvs) M Q
theorem cd_dict (o : Bool) (hc : X.calm = true) : CallD X (.type "dict") (rDict o) :=
  CallR.imp ((call_dictP hc).or (call_dictB hc)) fun vs H Q ⟨Z, ds, M, Q', m, rp, ⟨x, kvs, e, h, q⟩, k⟩ => by
    subst e
    obtain ⟨v, rfl, rx⟩ := reps1 rp
    unfold dictM at h
    split at h
    · obtain ⟨a, xs, e, ⟨ob, f, c, d⟩, r⟩ := rx
      subst e
      obtain ⟨ps, ys, e1, e2, e3⟩ := pairs_at h r
      subst e1
      exact .inr ⟨a, ob, ps, ys, rfl, f.2.2, c, d, e2, fun p np => newD_ok (Grow.refl _ _) m np (RepKs.merge (kvs := []) (xs := []) rfl e3) q k⟩
    · split at h
      · rename_i ds hl
        obtain ⟨a, xs, e, f, r⟩ := lstM_at m hl rx
        subst e
        obtain ⟨ps, ys, e1, e2, e3⟩ := pairs_at h r
        subst e1
        exact .inl ⟨a, ps, ys, rfl, .of f, e2, fun p np => newD_ok (Grow.refl _ _) m np (RepKs.merge (kvs := []) (xs := []) rfl e3) q k⟩
      · cases h
def dStar (o : Bool) (tk tv tm : DE_) : DE_ := fun δ M Q => tk δ M fun y M1 => tv δ M1 fun z M2 => ∃ k, keyD y = some k ∧ tm δ M2 fun w M3 => ∃ ms, dicM M3 w = some ms ∧ ms.length + 1 ≤ sizeLine ∧ newD o (mergeD [(k, z)] ms) M3 Q
variable {ek ev em : Expr} {tk tv tm : DE_}
theorem dicM_fz {K : KZ} {H : Hp} {M : Mp} (m : AbsM K H M) {d : D} {v : V} {ds : List (Key × D)} (e : dicM M d = some ds) (r : Rep K H M d v) : ∃ a xs, v = .ref a ∧ H a = some (.dK xs) ∧ RepKs K H M ds xs ∧ ¬ K.Z a := by
  cases d with
  | dic es => cases e; obtain ⟨a, xs, e, h, r⟩ := r; exact ⟨a, xs, e, h.2.2, r, h.2.1⟩
  | ref a =>
    obtain ⟨b, xs, e1, e2, e3⟩ := dicM_at m e r
    have : b = a := by
      have e4 : v = V.ref a := r
      rw [e4] at e1; cases e1; rfl
    subst this
    refine ⟨b, xs, e1, e2, e3, fun z => ?_⟩
    have := (m.hid b z).1
    simp [dicM, this] at e
  | _ => cases e
theorem de_star (o : Bool) (hk : DE X ek tk) (hv : DE X ev tv) (hm : DE X em tm)
    (ht : (evalEachOpt [some ek, none] X.env).zip ((evalEach [ev, em] X.env).map fun v => do let x ← v; standAt pos; pure x) = [(some (eval ek X.env), do let x ← eval ev X.env; standAt pos; pure x), (none, do let x ← eval em X.env; standAt pos; pure x)] := by rfl) :
    DE X (.Dict [some ek, none] [ev, em] pos) (dStar o tk tv tm) := by
  refine ⟨fun pins s σ H Q I ⟨Z, δ, M, Q', A, q, k⟩ => ?_⟩
  rw [arm_eval_Dict, ht, PySem.HtX.display_star]
  refine wpAny_bind (wpAny_standAt (wpAny_bind ?_))
  unfold subDict
  refine wpAny_bind (wpAny_alloc ?_)
  refine wpAny_bind (wpAny_holding ?_)
  show wpAny _ _ (if (1 : Nat) ≤ 15 then _ else _) _ _ _
  rw [if_pos (by decide)]
  generalize hp : s.heap.objs.size = p
  have np : H p = none := I.hok.fresh (Nat.le_of_eq hp)
  have I1 := I.laid (a := p) (o := .dK []) (h' := s.heap.push { cls := .type "dict", data := .dict #[] }) (t' := s.toks) (fun _ _ q => Heap.get?_push_of_some _ q) (Nat.le_of_eq hp) (by rw [← hp]; exact dk_empty s.heap I.big)
  generalize hZ : (fun a => Z a ∨ a = p) = Z1
  have A1 : Abs ⟨X.K, Z1⟩ σ (upd H p (.dK [])) δ M := by rw [← hZ]; exact hide_newO A np
  have zp : Z1 p := by rw [← hZ]; exact .inr rfl
  have hx1 : upd H p (.dK []) p = some (.dK []) := upd_same
  refine wpAny_bind (evalPairs_cons ?_)
  refine thn (hk.run pins _ σ _ (fun v H1 => ∃ d M1, Grow (upd H p (.dK [])) M H1 M1 ∧ AbsM ⟨X.K, Z1⟩ H1 M1 ∧ Rep ⟨X.K, Z1⟩ H1 M1 d v ∧ _) I1 ⟨_, δ, M, _, A1, q, fun v d H1 M1 g m r q => ⟨d, M1, g, m, r, q⟩⟩) fun u s1 ⟨y, H1, I1, ry, dy, M1, g1, m1, rdy, q1⟩ => ?_
  refine wpAny_bind (thn (hv.run pins _ σ _ (fun v H2 => ∃ d M2, Grow H1 M1 H2 M2 ∧ AbsM ⟨X.K, Z1⟩ H2 M2 ∧ Rep ⟨X.K, Z1⟩ H2 M2 d v ∧ _) I1 ⟨_, δ, M1, _, A1.grow g1 m1, q1, fun v d H1 M1 g m r q => ⟨d, M1, g, m, r, q⟩⟩) fun u2 s2 ⟨z, H2, I2, rz, dz, M2, g2, m2, rdz, ky, ek, q2⟩ => ?_)
  refine wpAny_bind (wpAny_standAt (wpAny_pure (evalPairs_nil (wpAny_holding ?_))))
  have A2 := (A1.grow g1 m1).grow g2 m2
  have keep : ∀ {H3 M3}, Grow (upd H p (.dK [])) M H3 M3 → H3 p = some (.dK []) := fun g => (g p _ hx1 (A1.mem.hid p zp).1).1
  have hx2 := keep (g1.trans g2)
  have ey := keyD_rep ek (rdy.grow g2)
  subst ey
  refine wpAny_bind ?_
  rw [List.forIn_cons]
  refine wpAny_bind (wpAny_bind (d_dictSet I2 hx2 (by decide) ry rz fun s3 I3 => wpAny_pure ?_))
  dsimp only
  rw [List.forIn_nil]
  refine wpAny_pure (wpAny_pure (wpAny_pure ?_))
  have e1 : putK ([] : List (Key × V)) ky z = [(ky, z)] := rfl
  rw [e1] at I3
  have m3 : AbsM ⟨X.K, Z1⟩ (upd H2 p (.dK [(ky, z)])) M2 := m2.writeZ zp
  have A3 : Abs ⟨X.K, Z1⟩ σ (upd H2 p (.dK [(ky, z)])) δ M2 := ⟨m3, A2.len, fun i d h => let ⟨v, h1, h2⟩ := A2.sl i d h; ⟨v, h1, h2.growX (GrowX.writeZ zp)⟩⟩
  have r3 : RepKs ⟨X.K, Z1⟩ (upd H2 p (.dK [(ky, z)])) M2 [(ky, dz)] [(ky, z)] := ⟨z, [], rfl, rdz.growX (GrowX.writeZ zp), rfl⟩
  refine wpAny_bind (wpAny_holding (wpAny_bind (thn (hm.run pins _ σ _ (fun v H4 => ∃ d M4, Grow (upd H2 p (.dK [(ky, z)])) M2 H4 M4 ∧ AbsM ⟨X.K, Z1⟩ H4 M4 ∧ Rep ⟨X.K, Z1⟩ H4 M4 d v ∧ _) I3 ⟨_, δ, M2, _, A3, q2, fun v d H1 M1 g m r q => ⟨d, M1, g, m, r, q⟩⟩) fun u4 s4 ⟨w, H4, I4, rw4, dw, M4, g4, m4, rdw, ms, hms, hl, q4⟩ => ?_)))
  refine wpAny_bind (wpAny_standAt (wpAny_pure (wpAny_bind (wpAny_onRaise (wpAny_tryCatch (wpAny_onRaise (wpAny_holding ?_)))))))
  have hx4 : H4 p = some (.dK [(ky, z)]) := (g4 p _ upd_same (m3.hid p zp).1).1
  obtain ⟨b, xs, ew, hb, rks, nz⟩ := dicM_fz m4 hms rdw
  subst ew
  obtain rfl : u4 = Value.ref b := rw4
  have hpb : p ≠ b := fun e => nz (e ▸ zp)
  obtain ⟨z1, hd1, vs1, rel1, dd1⟩ := dk_of I4.hok hx4
  obtain ⟨z2, hd2, vs2, rel2, dd2⟩ := dk_of I4.hok hb
  have l1 := rel1.length
  have l2 := rel2.length
  have l3 := rks.len
  have hne : vs1 ≠ [] := fun e => by subst e; simp at l1
  have hsz : vs1.length + vs2.length ≤ sizeLine := by
    rw [← l1, ← l2, l3]
    simp only [List.length_cons, List.length_nil]
    omega
  refine PySem.HtX.mergeMapping_dict hpb hd2 hne dd1 dd2 hsz fun h5 dd5 hs5 => wpAny_pure ?_
  have hz5 : (mergeK [(ky, z)] xs).length ≤ sizeLine := by
    have h1 := length_mergeK xs [(ky, z)]
    rw [l3] at h1
    simp only [List.length_cons, List.length_nil] at h1
    omega
  have he5 : ∃ q, h5.get? p = some q := let ⟨q, _, _, hq, _⟩ := dd5; ⟨q, hq⟩
  have I5 : Inv X pins σ (upd H4 p (.dK (mergeK [(ky, z)] xs))) { s4 with heap := h5 } := d_write (t' := s4.toks) I4 (by rw [hx4]; exact True.intro) hs5 he5 (dk_new hz5 hd1 (rel2.merge rel1) dd5)
  refine ⟨.ref p, _, I5, rfl, ?_⟩
  have gx5 : GrowX Z1 H4 M4 (upd H4 p (.dK (mergeK [(ky, z)] xs))) M4 := GrowX.writeZ zp
  have m5 : AbsM ⟨X.K, Z1⟩ (upd H4 p (.dK (mergeK [(ky, z)] xs))) M4 := m4.writeZ zp
  have r5 : RepKs ⟨X.K, Z1⟩ (upd H4 p (.dK (mergeK [(ky, z)] xs))) M4 (mergeD [(ky, dz)] ms) (mergeK [(ky, z)] xs) := RepKs.growX (K := ⟨X.K, Z1⟩) gx5 ((r3.grow g4).merge rks)
  have gf : Grow H M (upd H4 p (.dK (mergeK [(ky, z)] xs))) M4 := fun a o h m => by
    have ne : a ≠ p := ne_of_none h np
    obtain ⟨h1, n1⟩ := (g1.trans g2) a o (by rw [upd_ne ne]; exact h) m
    obtain ⟨h2, n2⟩ := g4 a o (by rw [upd_ne ne]; exact h1) n1
    exact ⟨by rw [upd_ne ne]; exact h2, n2⟩
  subst hZ
  exact unhideK A.mem (Grow.refl _ _) np gf m5 upd_same r5 q4 k
end
end Ht
set_option Elab.async false
set_option linter.all false
set_option maxRecDepth 100000
namespace Ht
open PySem PySem.Spec PyProof.Rows L2
abbrev FnP (K : PySem.W.Frag) (x qual : Str) (st : Stmt) (f : Addr) (fd : FuncData) : Prop := FunD K x qual (defArgs st) (defBody st) (defScope st) [] [] f fd
abbrev cx (P : Program) (w : World) (K : PySem.W.Frag) (mg : Str → Option Value) (base : Heap) (N : List Str) (qual : Str) (st : Stmt) (f : Addr) (cdv : Value) (A : Around) (outer : List Env) (s : Shared) (H : Hp) (E : XK) : Cx :=
  (cxOf CX0 P w K mg base N qual (defScope st) f cdv A outer s H E).nox
section
variable (P : Program) (w : World) (K : PySem.W.Frag) (mg : Str → Option Value) (base : Heap)
def Fn (k : Nat) (x : Str) (ps : List Str) (sp : SpD) : Prop := ∃ f fd, mg x = some (.ref f) ∧ FnOk P w K mg base CX0 k f fd ps (UpSp K sp) ∧ PySem.W.keepIn K (.ref f) = true ∧ Binds K fd ps []
def Mt (k : Nat) (C : Addr) (m : Str) (ps : List Str) (sp : SpD) : Prop := ∃ f fd, Meth K C m f ∧ FnOk P w K mg base CX0 k f fd ps (UpSp K sp) ∧ Binds K fd ps []
def Mkr (k : Nat) (x : Str) (C : Addr) (ps : List Str) (sp : SpD) : Prop := ∃ f fd, mg x = some (.ref C) ∧ Mk K C f ∧ FnOk P w K mg base CX0 k f fd ps (UpSp K sp) ∧ Binds K fd ps []
end
section
variable {X : Cx} {k j : Nat} {C : Addr} {ps : List Str} {sp : SpD} {x m : Str} {p pos apos : Pos} {e o : Expr} {es : List Expr} {ta : DE_} {t : DA_}
theorem de_fn (F : Fn X.prog X.w X.K X.mg X.base k x ps sp) (hr : Room j X.A) (ha : DA X (e :: es) t) (hk : k ≤ j := by decide) (hg : Gl X x := by rfl)
    (hdb : (x == ("__debug__" : Str)) = false := by decide) (he : starEach (e :: es) X.env = (false, eval e X.env) :: starEach es X.env := by rfl) (hpl : (backTo pos (starEach es X.env)).any (·.1) = false := by rfl) :
    DE X (.Call (.Name x p) (e :: es) [] pos) (dCall sp t) := by
  obtain ⟨f, fd, hm, F, kp, hb⟩ := F
  exact de_call F (hr.mono hk) hm kp hb ha hg hdb he hpl
theorem de_mt {pl : Sem Bool} (c : Cls X.K C) (F : Mt X.prog X.w X.K X.mg X.base k C m ps sp) (hr : Room j X.A) (he : DE X o ta) (ha : DA X (e :: es) t) (hk : k ≤ j := by decide)
    (hst : starEach (e :: es) X.env = (false, eval e X.env) :: starEach es X.env := by rfl) (hpl : (backTo pos (starEach es X.env)).any (·.1) = false := by rfl)
    (ht : eval (.Call (.Attribute o m apos) (e :: es) [] pos) X.env = (do
      let ov ← eval o X.env
      standAt apos.atName
      let (f, first) ← holding [ov] (getMethod ov m pl)
      callWith pos f first (backTo pos (starEach (e :: es) X.env)) (backToKw pos (keywordEach [] X.env))) := by rfl) :
    DE X (.Call (.Attribute o m apos) (e :: es) [] pos) (dMeth C m sp ta t) := by
  obtain ⟨f, fd, hm, F, hb⟩ := F
  exact de_meth he c hm F (hr.mono hk) hb ha hst hpl ht
theorem de_mt0 {pl : Sem Bool} (c : Cls X.K C) (F : Mt X.prog X.w X.K X.mg X.base k C m ps sp) (hr : Room j X.A) (he : DE X o ta) (hk : k ≤ j := by decide)
    (ht : eval (.Call (.Attribute o m apos) [] [] pos) X.env = (do
      let ov ← eval o X.env
      standAt apos.atName
      let (f, first) ← holding [ov] (getMethod ov m pl)
      callWith pos f first (backTo pos (starEach [] X.env)) (backToKw pos (keywordEach [] X.env))) := by rfl) :
    DE X (.Call (.Attribute o m apos) [] [] pos) (dMeth C m sp ta dNil) := by
  obtain ⟨f, fd, hm, F, hb⟩ := F
  exact de_meth0 he c hm F (hr.mono hk) hb ht
theorem de_mk (F : Mkr X.prog X.w X.K X.mg X.base k x C ps sp) (hr : Room j X.A) (ha : DA X (e :: es) t) (hk : k + 1 ≤ j := by decide) (hg : Gl X x := by rfl)
    (hdb : (x == ("__debug__" : Str)) = false := by decide) (he : starEach (e :: es) X.env = (false, eval e X.env) :: starEach es X.env := by rfl) (hpl : (backTo pos (starEach es X.env)).any (·.1) = false := by rfl) :
    DE X (.Call (.Name x p) (e :: es) [] pos) (dMake C sp t) := by
  obtain ⟨f, fd, hm, hM, F, hb⟩ := F
  exact de_make hM F (hr.mono hk) hm hb ha hg hdb he hpl
theorem de_mk0 (F : Mkr X.prog X.w X.K X.mg X.base k x C ps sp) (hr : Room j X.A) (hk : k + 1 ≤ j := by decide) (hg : Gl X x := by rfl)
    (hdb : (x == ("__debug__" : Str)) = false := by decide) : DE X (.Call (.Name x p) [] [] pos) (dMake C sp dNil) := by
  obtain ⟨f, fd, hm, hM, F, hb⟩ := F
  exact de_make0 hM F (hr.mono hk) hm hb hg hdb
end
section
variable {P : Program} {w : World} {K : PySem.W.Frag} {mg : Str → Option Value} {base : Heap} {x qual : Str} {st : Stmt} {f : Addr} {fd : FuncData} {N ps : List Str} {k : Nat} {sp : SpD} {t : DS_}
theorem fn_okD (F : FnP K x qual st f fd) (S : FnScope N ps (defScope st)) (len : ∀ ds M Q E, sp ds M Q E → ds.length = ps.length)
    (hd : ∀ (cdv : Value) (A : Around) (outer : List Env) (s : Shared) (H : Hp) (E : XK), Room k (A.deeper (envOfC qual (defScope st) s.heap.objs.size f cdv)) → DSs (cx P w K mg base N qual st f cdv A outer s H E) (defBody st) t)
    (h : ∀ ds M Q E, sp ds M Q E → t { nx := fun _ M' => Out Q .non M', rt := Out Q } (startD N ds) M) : FnOk P w K mg base CX0 (k + 1) f fd ps (UpSp K sp) := by
  refine F.ok S (fun vs H Q E ⟨Z, ds, M, Q', E', m, r, h, _⟩ => by rw [r.len]; exact len _ _ _ _ h) fun cdv A outer s H vs Q E hr ⟨Z, ds, M, Q', E', m, r, hs, kq, _⟩ => ?_
  refine ⟨_, (hd cdv A outer s H E hr).nox, Z, _, M, _, abs_start m r, h ds M Q' E' hs, ?_⟩
  have out : ∀ v d H' M', Grow H M H' M' → AbsM ⟨K, Z⟩ H' M' → Rep ⟨K, Z⟩ H' M' d v → Out Q' d M' → Q v H' := fun v d H' M' g m r ⟨M0, d0, l, f, q⟩ =>
    kq v d0 H' M0 (l.grow g) (l.abs m) (f.rep l m r) q
  exact ⟨fun σ' H' δ' M' g A q => out .non .non H' M' g A.mem rfl q, out, fun _ _ _ _ _ _ q => q, fun _ _ _ _ _ _ q => q⟩
theorem fn_def (hm : mg x = some (.ref f)) (F : FnP K x qual st f fd) (S : FnScope N ps (defScope st)) (len : ∀ ds M Q E, sp ds M Q E → ds.length = ps.length)
    (hb : ∀ (kV doc pm : Value) (an : Option Addr) (cdv ct : Value) (us : List Value), us.length = ps.length → bindArgs (PySem.W.fnOf x qual (defArgs st) (defBody st) (defScope st) .none kV doc pm an cdv ct) ⟨us, []⟩ = pure (ps.zip us))
    (hd : ∀ (cdv : Value) (A : Around) (outer : List Env) (s : Shared) (H : Hp) (E : XK), Room k (A.deeper (envOfC qual (defScope st) s.heap.objs.size f cdv)) → DSs (cx P w K mg base N qual st f cdv A outer s H E) (defBody st) t)
    (h : ∀ ds M Q E, sp ds M Q E → t { nx := fun _ M' => Out Q .non M', rt := Out Q } (startD N ds) M) : Fn P w K mg base (k + 1) x ps sp :=
  ⟨f, fd, hm, fn_okD F S len hd h, F.kp, F.bindsN hb⟩
theorem mt_def {C : Addr} (hm : Meth K C x f) (F : FnP K x qual st f fd) (S : FnScope N ps (defScope st)) (len : ∀ ds M Q E, sp ds M Q E → ds.length = ps.length)
    (hb : ∀ (kV doc pm : Value) (an : Option Addr) (cdv ct : Value) (us : List Value), us.length = ps.length → bindArgs (PySem.W.fnOf x qual (defArgs st) (defBody st) (defScope st) .none kV doc pm an cdv ct) ⟨us, []⟩ = pure (ps.zip us))
    (hd : ∀ (cdv : Value) (A : Around) (outer : List Env) (s : Shared) (H : Hp) (E : XK), Room k (A.deeper (envOfC qual (defScope st) s.heap.objs.size f cdv)) → DSs (cx P w K mg base N qual st f cdv A outer s H E) (defBody st) t)
    (h : ∀ ds M Q E, sp ds M Q E → t { nx := fun _ M' => Out Q .non M', rt := Out Q } (startD N ds) M) : Mt P w K mg base (k + 1) C x ps sp :=
  ⟨f, fd, hm, fn_okD F S len hd h, F.bindsN hb⟩
theorem mk_def {C : Addr} {y : Str} (hy : mg y = some (.ref C)) (hm : Mk K C f) (F : FnP K x qual st f fd) (S : FnScope N ps (defScope st)) (len : ∀ ds M Q E, sp ds M Q E → ds.length = ps.length)
    (hb : ∀ (kV doc pm : Value) (an : Option Addr) (cdv ct : Value) (us : List Value), us.length = ps.length → bindArgs (PySem.W.fnOf x qual (defArgs st) (defBody st) (defScope st) .none kV doc pm an cdv ct) ⟨us, []⟩ = pure (ps.zip us))
    (hd : ∀ (cdv : Value) (A : Around) (outer : List Env) (s : Shared) (H : Hp) (E : XK), Room k (A.deeper (envOfC qual (defScope st) s.heap.objs.size f cdv)) → DSs (cx P w K mg base N qual st f cdv A outer s H E) (defBody st) t)
    (h : ∀ ds M Q E, sp ds M Q E → t { nx := fun _ M' => Out Q .non M', rt := Out Q } (startD N ds) M) : Mkr P w K mg base (k + 1) y C ps sp :=
  ⟨f, fd, hy, hm, fn_okD F S len hd h, F.bindsN hb⟩
end
theorem ds_try {X : Cx} {body : List Stmt} {h₀ : PySem.ExceptHandler} {hs : List PySem.ExceptHandler} {pos : Pos} {t : DS_} (hb : DSs X.nox body t) : DS X (.Try body (h₀ :: hs) [] [] pos) t := ps_try_thru0 hb
structure Blt (mg : Str → Option Value) : Prop where
  len : mg "len" = none
  isi : mg "isinstance" = none
  all : mg "all" = none
  any : mg "any" = none
  max : mg "max" = none
  tup : mg "tuple" = none
  lst : mg "list" = none
  dic : mg "dict" = none
  int : mg "int" = none
  str : mg "str" = none
  bool : mg "bool" = none
  enu : mg "enumerate" = none
  zip : mg "zip" = none
  ran : mg "range" = none
theorem bt_isinstance : bootBuiltins "isinstance" = some (.builtin "isinstance") := by decide +kernel
theorem bt_all : bootBuiltins "all" = some (.builtin "all") := by decide +kernel
theorem bt_any : bootBuiltins "any" = some (.builtin "any") := by decide +kernel
theorem bt_max : bootBuiltins "max" = some (.builtin "max") := by decide +kernel
theorem bt_len : bootBuiltins "len" = some (.builtin "len") := by decide +kernel
theorem bt_tuple : bootBuiltins "tuple" = some (.type "tuple") := by decide +kernel
theorem bt_list : bootBuiltins "list" = some (.type "list") := by decide +kernel
theorem bt_dict : bootBuiltins "dict" = some (.type "dict") := by decide +kernel
theorem bt_int : bootBuiltins "int" = some (.type "int") := by decide +kernel
theorem bt_str : bootBuiltins "str" = some (.type "str") := by decide +kernel
theorem bt_bool : bootBuiltins "bool" = some (.type "bool") := by decide +kernel
end Ht
set_option Elab.async false
set_option linter.all false
set_option maxRecDepth 100000
namespace Ht
open PySem PySem.Spec PyProof.Rows L2
abbrev rLt : R2D := rI (fun _ _ => True) fun i j => .bl (decide (i < j))
abbrev rLe : R2D := rI (fun _ _ => True) fun i j => .bl (decide (i ≤ j))
abbrev rGt : R2D := rI (fun _ _ => True) fun i j => .bl (decide (j < i))
abbrev rGe : R2D := rI (fun _ _ => True) fun i j => .bl (decide (j ≤ i))
def rEqS : R2D := fun x y M Q => eqOk x y = true ∧ Q (.bl (eqS x y)) M
def rNeS : R2D := fun x y M Q => eqOk x y = true ∧ Q (.bl (!eqS x y)) M
def rIsN : R2D := fun x y M Q => y = .non ∧ Q (.bl (isN x)) M
def rNotN : R2D := fun x y M Q => y = .non ∧ Q (.bl (!isN x)) M
def rIn : R2D := fun x y M Q => ∃ b, hasM M x y = some b ∧ Q (.bl b) M
def rNotIn : R2D := fun x y M Q => ∃ b, hasM M x y = some b ∧ Q (.bl (!b)) M
def dJoined (ts : List DE_) : DE_ := fun δ M Q => dJs ts Str.empty δ M fun out M1 => Q (.str out) M1
end Ht
namespace Ht
open PySem PySem.Spec PyProof.Rows L2
section
variable {δ : SD} {M : Mp} {Q : VD} {E : EndsD}
@[simp] theorem s_var (i : Nat) : dVar i δ M Q = ∃ d, δ[i]? = some (some d) ∧ Q d M := (rfl)
@[simp] theorem s_c (d : D) : dC d δ M Q = Q d M := (rfl)
@[simp] theorem s_nil {Q : List D → Mp → Prop} : dNil δ M Q = Q [] M := (rfl)
@[simp] theorem s_cons {Q : List D → Mp → Prop} (a : DE_) (b : DA_) : dCons a b δ M Q = a δ M fun x M1 => b δ M1 fun xs M2 => Q (x :: xs) M2 := (rfl)
@[simp] theorem s_tup (t : DA_) : dTup t δ M Q = t δ M fun ds M1 => ds.length ≤ sizeLine ∧ Q (.tup ds) M1 := (rfl)
@[simp] theorem s_lst (t : DA_) : dLst t δ M Q = t δ M fun ds M1 => ds.length ≤ sizeLine ∧ Q (.lst ds) M1 := (rfl)
@[simp] theorem s_lstO (t : DA_) : dLstO t δ M Q = t δ M fun ds M1 => ds.length ≤ sizeLine ∧ ∀ p, M1 p = none → Q (.ref p) (up M1 p (.lst ds)) := (rfl)
@[simp] theorem s_op (r : R2D) (a b : DE_) : dOp r a b δ M Q = a δ M fun x M1 => b δ M1 fun y M2 => r x y M2 Q := (rfl)
@[simp] theorem s_test {Q : Bool → Mp → Prop} (t : DE_) : dTest t δ M Q = t δ M fun x M' => ∃ k, x = .bl k ∧ Q k M' := (rfl)
@[simp] theorem s_and {Q : Bool → Mp → Prop} (t u : DT_) : dAnd t u δ M Q = t δ M fun c M1 => if c = true then u δ M1 Q else Q false M1 := (rfl)
@[simp] theorem s_or {Q : Bool → Mp → Prop} (t u : DT_) : dOr t u δ M Q = t δ M fun c M1 => if c = true then Q true M1 else u δ M1 Q := (rfl)
@[simp] theorem s_not {Q : Bool → Mp → Prop} (t : DT_) : dNot t δ M Q = t δ M fun c M1 => Q (!c) M1 := (rfl)
@[simp] theorem s_andV (a b : DE_) : dAndV a b δ M Q = a δ M fun x M1 => ∃ c, x = .bl c ∧ if c = true then b δ M1 Q else Q (.bl false) M1 := (rfl)
@[simp] theorem s_orV (a b : DE_) : dOrV a b δ M Q = a δ M fun x M1 => ∃ c, x = .bl c ∧ if c = true then Q (.bl true) M1 else b δ M1 Q := (rfl)
@[simp] theorem s_notV (a : DE_) : dNotV a δ M Q = a δ M fun x M1 => ∃ c, x = .bl c ∧ Q (.bl (!c)) M1 := (rfl)
@[simp] theorem s_if (t : DT_) (a b : DE_) : dIf t a b δ M Q = t δ M fun c M1 => if c = true then a δ M1 Q else b δ M1 Q := (rfl)
@[simp] theorem s_ifS (c : DT_) (t u : DS_) : dIfS c t u E δ M = c δ M fun b M1 => if b = true then t E δ M1 else u E δ M1 := (rfl)
@[simp] theorem s_next : dNext E δ M = E.nx δ M := (rfl)
@[simp] theorem s_seq (t u : DS_) : dSeq t u E δ M = t { E with nx := u E } δ M := (rfl)
@[simp] theorem s_drop (t : DE_) : dDrop t E δ M = t δ M fun _ M1 => E.nx δ M1 := (rfl)
@[simp] theorem s_ret (t : DE_) : dRet t E δ M = t δ M E.rt := (rfl)
@[simp] theorem s_retN : dRetN E δ M = E.rt .non M := (rfl)
@[simp] theorem s_never : dNever E δ M = False := (rfl)
@[simp] theorem s_set (t : DE_) (i : Nat) : dSet t i E δ M = t δ M fun x M1 => E.nx (δ.set i (some x)) M1 := (rfl)
@[simp] theorem s_asg (t : DE_) (g : DG_) : dAsg t g E δ M = t δ M fun x M1 => g x δ M1 E.nx := (rfl)
@[simp] theorem s_aug (i : Nat) (t : DE_) (r : R2D) : dAug i t r E δ M = ∃ x, δ[i]? = some (some x) ∧ t δ M fun y M1 => r x y M1 fun z M2 => E.nx (δ.set i (some z)) M2 := (rfl)
@[simp] theorem s_for (ti : DI_) (g : DG_) (tb : DS_) : dFor ti g tb E δ M = ti δ M fun ds G M1 => forD g tb E G ds δ M1 := (rfl)
@[simp] theorem s_gname {Q : SD → Mp → Prop} (i : Nat) (d : D) : gName i d δ M Q = Q (δ.set i (some d)) M := (rfl)
@[simp] theorem s_gnil {Q : SD → Mp → Prop} (ds : List D) : gNil ds δ M Q = (ds = [] ∧ Q δ M) := (rfl)
@[simp] theorem s_gcons {Q : SD → Mp → Prop} (t : DG_) (u : DGs_) (d : D) (r : List D) : gCons t u (d :: r) δ M Q = t d δ M fun δ' M' => u r δ' M' Q := propext ⟨fun ⟨_, _, e, h⟩ => by cases e; exact h, fun h => ⟨_, _, rfl, h⟩⟩
@[simp] theorem s_gtup {Q : SD → Mp → Prop} (n : Nat) (t : DGs_) (ds : List D) : gTup n t (.tup ds) δ M Q = (ds.length = n ∧ t ds δ M Q) := propext ⟨fun ⟨_, e, h⟩ => by cases e; exact h, fun h => ⟨_, rfl, h⟩⟩
def wC (o : Option (Addr × List D)) (R : Addr → List D → Prop) : Prop := ∃ a es, o = some (a, es) ∧ R a es
@[simp] theorem wC_some {R : Addr → List D → Prop} (a : Addr) (es : List D) : wC (some (a, es)) R = R a es := propext ⟨fun ⟨_, _, e, h⟩ => by cases e; exact h, fun h => ⟨_, _, rfl, h⟩⟩
@[simp] theorem s_gsub {Q : SD → Mp → Prop} (o i : DE_) (d : D) : gSub o i d δ M Q = o δ M fun o M1 => i δ M1 fun i M2 => ∃ M3, putM M2 o i d = some M3 ∧ Q δ M3 := (rfl)
def wI (o : Option (List D × (Mp → Prop))) (R : List D → (Mp → Prop) → Mp → Prop) (M : Mp) : Prop := ∃ p, o = some p ∧ R p.1 p.2 M
@[simp] theorem wI_some {R : List D → (Mp → Prop) → Mp → Prop} (a : List D) (b : Mp → Prop) : wI (some (a, b)) R M = R a b M := propext ⟨fun ⟨p, e, h⟩ => by cases e; exact h, fun h => ⟨_, rfl, h⟩⟩
@[simp] theorem s_seqI {R : List D → (Mp → Prop) → Mp → Prop} (t : DE_) : dSeqI t δ M R = t δ M fun x M1 => wI (walkM M1 x) R M1 := (rfl)
@[simp] theorem s_range {R : List D → (Mp → Prop) → Mp → Prop} (t : DE_) : dRange1 t δ M R = t δ M fun x M1 => ∃ n : Int, x = .int n ∧ n < 2 ^ 62 ∧ -(2 ^ 62) ≤ n ∧ R (rangeD 0 n.toNat) (fun _ => True) M1 := (rfl)
@[simp] theorem s_enum {R : List D → (Mp → Prop) → Mp → Prop} (t : DE_) : dEnum t δ M R = t δ M fun x M1 => wI (walk2 M1 x) (fun ds G => R (enumD ds) G) M1 := (rfl)
@[simp] theorem s_zip {R : List D → (Mp → Prop) → Mp → Prop} (a b : DE_) : dZip a b δ M R = a δ M fun x M1 => b δ M1 fun y M2 => isTup x = isTup y ∧ wI (walkZ M2 x) (fun ds G M2 => wI (walkZ M2 y) (fun es G' => R (zipD ds es) fun M => G M ∧ G' M) M2) M2 := by
  unfold dZip
  congr 1; funext x M1; congr 1; funext y M2
  exact propext ⟨fun ⟨h, p, q, e1, e2, r⟩ => ⟨h, p, e1, q, e2, r⟩, fun ⟨h, p, e1, q, e2, r⟩ => ⟨h, p, q, e1, e2, r⟩⟩
@[simp] theorem s_lc (o : Bool) (ti : DI_) (g : DG_) (tt : DT_) (te : DE_) (vs : List Nat) : dLc o ti g tt te vs δ M Q = ti δ M fun ds G M1 => compD g tt te G (wipeD δ vs) (fun acc M2 => newL o acc M2 Q) ds [] M1 := (rfl)
@[simp] theorem s_dc (o : Bool) (ti : DI_) (g : DG_) (tt : DT_) (tk tv : DE_) (vs : List Nat) : dDc o ti g tt tk tv vs δ M Q = ti δ M fun ds G M1 => compKD g tt tk tv G (wipeD δ vs) (fun acc M2 => newD o acc M2 Q) ds [] M1 := (rfl)
@[simp] theorem s_lc2 (o : Bool) (ti : DI_) (g : DG_) (tt : DT_) (ti1 : DI_) (g1 : DG_) (tt1 : DT_) (te : DE_) (vs vs1 : List Nat) : dLc2 o ti g tt ti1 g1 tt1 te vs vs1 δ M Q = ti δ M fun ds G M1 => comp2D g tt ti1 g1 tt1 te vs1 G (wipeD δ vs) (fun acc M2 => newL o acc M2 Q) ds [] M1 := (rfl)
@[simp] theorem s_yes {Q : Bool → Mp → Prop} : tYes δ M Q = Q true M := (rfl)
@[simp] theorem s_call (sp : SpD) (t : DA_) : dCall sp t δ M Q = t δ M fun ds M1 => sp ds M1 Q X0 := (rfl)
def noFld (fs : List (Str × D)) (m : Str) : Prop := fs.lookup m = none
@[simp] theorem s_meth (C : Addr) (m : Str) (sp : SpD) (a : DE_) (t : DA_) : dMeth C m sp a t δ M Q = a δ M fun x M1 => ∃ b fs, x = .ref b ∧ M1 b = some (.ins C fs) ∧ noFld fs m ∧ t δ M1 fun ds M2 => sp (x :: ds) M2 Q X0 := (rfl)
@[simp] theorem s_make (C : Addr) (sp : SpD) (t : DA_) : dMake C sp t δ M Q = t δ M fun ds M1 => ∀ x, M1 x = none → sp (.ref x :: ds) (up M1 x (.ins C [])) (fun d M2 => d = .non ∧ Q (.ref x) M2) X0 := (rfl)
@[simp] theorem s_fld (C : Addr) (a : DE_) (f : Str) : dFld C a f δ M Q = a δ M fun x M1 => ∃ b fs d, x = .ref b ∧ M1 b = some (.ins C fs) ∧ fs.lookup f = some d ∧ Q d M1 := (rfl)
@[simp] theorem s_setF (C : Addr) (a v : DE_) (f : Str) : dSetF C a v f E δ M = v δ M fun y M1 => a δ M1 fun x M2 => ∃ b fs, x = .ref b ∧ M2 b = some (.ins C fs) ∧ fs.length < 1000 ∧ E.nx δ (up M2 b (.ins C (putFD f y fs))) := (rfl)
@[simp] theorem s_augF (C : Addr) (a v : DE_) (r : R2D) (f : Str) : dAugF C a v r f E δ M = a δ M fun x M1 => ∃ b fs d, x = .ref b ∧ M1 b = some (.ins C fs) ∧ fs.lookup f = some d ∧
  v δ M1 fun y M2 => r d y M2 fun z M3 => ∃ fs', M3 b = some (.ins C fs') ∧ fs'.length < 1000 ∧ E.nx δ (up M3 b (.ins C (putFD f z fs'))) := rfl
@[simp] theorem s_cb (r : CD) (t : DA_) : dCB r t δ M Q = t δ M fun ds M1 => r ds M1 Q := (rfl)
@[simp] theorem s_bm (T : String) (r : MD) (a : DE_) (t : DA_) : dBM T r a t δ M Q = a δ M fun x M1 => tyD M1 T x = true ∧ t δ M1 fun ds M2 => r x ds M2 Q := (rfl)
@[simp] theorem s_bm0 (T : String) (r : MD) (a : DE_) : dBM0 T r a δ M Q = a δ M fun x M1 => tyD M1 T x = true ∧ r x [] M1 Q := (rfl)
@[simp] theorem s_join (a b : DE_) : dJoin a b δ M Q = a δ M fun x M1 => ∃ a, x = .str a ∧ b δ M1 fun y M2 => ∃ ys : List Str, seqM M2 y = some (ys.map .str) ∧ (ys.map (·.length)).sum + ys.length * a.length ≤ 16777216 ∧ Q (.str (Txt.join a ys)) M2 := (rfl)
@[simp] theorem s_split (a b : DE_) : dSplit a b δ M Q = a δ M fun x M1 => ∃ a, x = .str a ∧ b δ M1 fun y M2 => ∃ b, y = .str b ∧ (b.length == 0) = false ∧ a.length + 2 ≤ sizeLine ∧ Q (.lst ((Txt.split a b).map .str)) M2 := (rfl)
@[simp] theorem s_sl (o : Bool) (t : DE_) (a b : DO_) : dSl o t a b δ M Q = t δ M fun x M1 => a δ M1 fun l M2 => b δ M2 fun u M3 => rSl o x l u M3 Q := (rfl)
@[simp] theorem s_noPart {Q : Option Int → Mp → Prop} : dNoPart δ M Q = Q none M := (rfl)
@[simp] theorem s_part {Q : Option Int → Mp → Prop} (t : DE_) : dPart t δ M Q = t δ M fun x M1 => ∃ i, x = .int i ∧ Q (some i) M1 := (rfl)
@[simp] theorem s_newD (o : Bool) : dNewD o δ M Q = newD o [] M Q := (rfl)
@[simp] theorem s_get2 (a b z : DE_) : dGet2 a b z δ M Q = a δ M fun x M1 => (dicM M1 x).isSome = true ∧ b δ M1 fun y M2 => z δ M2 fun z M3 => ∃ w, getM M3 x y z = some w ∧ Q w M3 := (rfl)
@[simp] theorem s_get1 (a b : DE_) : dGet1 a b δ M Q = a δ M fun x M1 => (dicM M1 x).isSome = true ∧ b δ M1 fun y M2 => ∃ kvs k, dicM M2 x = some kvs ∧ keyD y = some k ∧ Q ((valD kvs k).getD .non) M2 := (rfl)
@[simp] theorem s_setd (a b z : DE_) : dSetd a b z δ M Q = a δ M fun x M1 => ∃ a, x = .ref a ∧ (dicM M1 x).isSome = true ∧ b δ M1 fun y M2 => z δ M2 fun z M3 => ∃ kvs k, M3 a = some (.dic kvs) ∧ keyD y = some k ∧ kvs.length < sizeLine ∧
  (∀ v, valD kvs k = some v → Q v M3) ∧ (valD kvs k = none → Q z (up M3 a (.dic (putD kvs k z)))) := rfl
@[simp] theorem s_star (o : Bool) (a b z : DE_) : dStar o a b z δ M Q = a δ M fun y M1 => b δ M1 fun x M2 => ∃ k, keyD y = some k ∧ z δ M2 fun w M3 => ∃ ms, dicM M3 w = some ms ∧ ms.length + 1 ≤ sizeLine ∧ newD o (mergeD [(k, x)] ms) M3 Q := (rfl)
@[simp] theorem s_joined (ts : List DE_) : dJoined ts δ M Q = dJs ts Str.empty δ M fun out M1 => Q (.str out) M1 := (rfl)
@[simp] theorem s_fmt (t : DE_) : dFmt t δ M Q = t δ M fun x M1 => ∃ y, fmtM x = some y ∧ Q (.str y) M1 := (rfl)
@[simp] theorem s_rI (C : Int → Int → Prop) (g : Int → Int → D) (x y : D) : rI C g x y M Q = ∃ i j, x = .int i ∧ y = .int j ∧ C i j ∧ Q (g i j) M := (rfl)
@[simp] theorem s_rEq (x y : D) : rEqS x y M Q = (eqOk x y = true ∧ Q (.bl (eqS x y)) M) := (rfl)
@[simp] theorem s_rNe (x y : D) : rNeS x y M Q = (eqOk x y = true ∧ Q (.bl (!eqS x y)) M) := (rfl)
@[simp] theorem s_rIs (x y : D) : rIsN x y M Q = (y = .non ∧ Q (.bl (isN x)) M) := (rfl)
@[simp] theorem s_rNot (x y : D) : rNotN x y M Q = (y = .non ∧ Q (.bl (!isN x)) M) := (rfl)
@[simp] theorem s_rIn (x y : D) : rIn x y M Q = ∃ b, hasM M x y = some b ∧ Q (.bl b) M := (rfl)
@[simp] theorem s_rNotIn (x y : D) : rNotIn x y M Q = ∃ b, hasM M x y = some b ∧ Q (.bl (!b)) M := (rfl)
@[simp] theorem s_rIx (x y : D) : rIx x y M Q = ∃ d, atM M x y = some d ∧ Q d M := (rfl)
@[simp] theorem s_rLen (x : D) : rLen [x] M Q = ∃ n : Nat, lenM M x = some n ∧ Q (.int n) M := propext ⟨fun ⟨_, b, e, h⟩ => by cases e; exact ⟨b, h⟩, fun ⟨b, h⟩ => ⟨_, b, rfl, h⟩⟩
@[simp] theorem s_rInt (x : D) : rInt [x] M Q = ∃ n, intM x = some n ∧ Q (.int n) M := propext ⟨fun ⟨_, b, e, h⟩ => by cases e; exact ⟨b, h⟩, fun ⟨b, h⟩ => ⟨_, b, rfl, h⟩⟩
@[simp] theorem s_rStr (i : Int) : rStr [.int i] M Q = (i.natAbs.log2 < 1920 ∧ Q (.str (toString i)) M) := propext ⟨fun ⟨_, e, h⟩ => by cases e; exact h, fun h => ⟨_, rfl, h⟩⟩
@[simp] theorem s_rIsi (x c : D) : rIsiD [x, c] M Q = ∃ b, isiM M x c = some b ∧ Q (.bl b) M := propext ⟨fun ⟨_, _, b, e, h⟩ => by cases e; exact ⟨b, h⟩, fun ⟨b, h⟩ => ⟨_, _, b, rfl, h⟩⟩
@[simp] theorem s_rList (o : Bool) (x : D) : rList o [x] M Q = ∃ es, seqM M x = some es ∧ newL o es M Q := propext ⟨fun ⟨_, b, e, h⟩ => by cases e; exact ⟨b, h⟩, fun ⟨b, h⟩ => ⟨_, b, rfl, h⟩⟩
@[simp] theorem s_rTuple (b : Bool) (x : D) : rTuple b [x] M Q = if isTupD x = true then Q x M else ∃ es, lstM M x = some es ∧ Q (if b = true then .tupP es else .tup es) M := propext ⟨fun ⟨_, e, h⟩ => by cases e; exact h, fun h => ⟨_, rfl, h⟩⟩
@[simp] theorem s_rBls (g : List Bool → Bool) (x : D) : rBls g [x] M Q = ∃ bs : List Bool, lstM M x = some (bs.map .bl) ∧ Q (.bl (g bs)) M := propext ⟨fun ⟨_, b, e, h⟩ => by cases e; exact ⟨b, h⟩, fun ⟨b, h⟩ => ⟨_, b, rfl, h⟩⟩
@[simp] theorem s_rDict (o : Bool) (x : D) : rDict o [x] M Q = ∃ kvs, dictM M x = some kvs ∧ newD o (mergeD [] kvs) M Q := propext ⟨fun ⟨_, b, e, h⟩ => by cases e; exact ⟨b, h⟩, fun ⟨b, h⟩ => ⟨_, b, rfl, h⟩⟩
@[simp] theorem s_rApp (x y : D) : rApp x [y] M Q = wC (cellL M x) fun a es => es.length < sizeLine ∧ Q .non (up M a (.lst (es ++ [y]))) := propext ⟨fun ⟨a, es, _, e, e2, h⟩ => by cases e2; exact ⟨a, es, e, h⟩, fun ⟨a, es, e, h⟩ => ⟨a, es, _, e, rfl, h⟩⟩
@[simp] theorem s_rExt (x y : D) : rExt x [y] M Q = wC (cellL M x) fun a es => ∃ zs, seqM M y = some zs ∧ es.length + zs.length ≤ sizeLine ∧ Q .non (up M a (.lst (es ++ zs))) := propext ⟨fun ⟨a, es, _, zs, e, e2, h⟩ => by cases e2; exact ⟨a, es, e, zs, h⟩, fun ⟨a, es, e, zs, h⟩ => ⟨a, es, _, zs, e, rfl, h⟩⟩
@[simp] theorem s_rPop (x : D) : rPopD x [] M Q = wC (cellL M x) fun a es => ∃ y, es.getLast? = some y ∧ Q y (up M a (.lst es.dropLast)) := propext ⟨fun ⟨a, es, y, e, _, h⟩ => ⟨a, es, e, y, h⟩, fun ⟨a, es, e, y, h⟩ => ⟨a, es, y, e, rfl, h⟩⟩
@[simp] theorem s_rRev (x : D) : rRev x [] M Q = wC (cellL M x) fun a es => Q .non (up M a (.lst es.reverse)) := propext ⟨fun ⟨a, es, e, _, h⟩ => ⟨a, es, e, h⟩, fun ⟨a, es, e, h⟩ => ⟨a, es, e, rfl, h⟩⟩
@[simp] theorem s_newLf (ds : List D) : newL false ds M Q = Q (.lst ds) M := (rfl)
@[simp] theorem s_newLt (ds : List D) : newL true ds M Q = ∀ p, M p = none → Q (.ref p) (up M p (.lst ds)) := (rfl)
@[simp] theorem s_newDf (ds : List (Key × D)) : newD false ds M Q = Q (.dic ds) M := (rfl)
@[simp] theorem s_newDt (ds : List (Key × D)) : newD true ds M Q = ∀ p, M p = none → Q (.ref p) (up M p (.dic ds)) := (rfl)
@[simp] theorem s_up {a : Addr} {c : Cell} : up M a c a = some c := up_same
@[simp] theorem s_eqii (i j : Int) : eqOk (.int i) (.int j) = true := (rfl)
@[simp] theorem s_eqss (i j : Str) : eqOk (.str i) (.str j) = true := (rfl)
@[simp] theorem s_eqbb (i j : Bool) : eqOk (.bl i) (.bl j) = true := (rfl)
@[simp] theorem s_eqIi (i j : Int) : eqS (.int i) (.int j) = decide (i = j) := by simp [eqS, sv]
@[simp] theorem s_eqSs (i j : Str) : eqS (.str i) (.str j) = decide (i = j) := by simp [eqS, sv]
@[simp] theorem s_eqBb (i j : Bool) : eqS (.bl i) (.bl j) = decide (i = j) := by simp [eqS, sv]
@[simp] theorem s_isN : isN .non = true := (rfl)
@[simp] theorem s_isNs (x : Str) : isN (.str x) = false := (rfl)
@[simp] theorem s_isNi (x : Int) : isN (.int x) = false := (rfl)
@[simp] theorem s_isNt (x : List D) : isN (.tup x) = false := (rfl)
@[simp] theorem s_seqt (x : List D) : seqM M (.tup x) = some x := (rfl)
@[simp] theorem s_seqp (x : List D) : seqM M (.tupP x) = some x := (rfl)
@[simp] theorem s_seql (x : List D) : seqM M (.lst x) = some x := (rfl)
@[simp] theorem s_seqs (x : Str) : seqM M (.str x) = none := (rfl)
@[simp] theorem s_seqi (x : Int) : seqM M (.int x) = none := (rfl)
@[simp] theorem s_lstl (x : List D) : lstM M (.lst x) = some x := (rfl)
@[simp] theorem s_dicd (x : List (Key × D)) : dicM M (.dic x) = some x := (rfl)
@[simp] theorem s_walkt (x : List D) : walkM M (.tup x) = some (x, fun _ => True) := (rfl)
@[simp] theorem s_walkp (x : List D) : walkM M (.tupP x) = some (x, fun _ => True) := (rfl)
@[simp] theorem s_walkl (x : List D) : walkM M (.lst x) = some (x, fun _ => True) := (rfl)
@[simp] theorem s_walks (x : Str) : walkM M (.str x) = some (signsD x, fun _ => True) := (rfl)
@[simp] theorem s_walk2t (x : List D) : walk2 M (.tup x) = some (x, fun _ => True) := (rfl)
@[simp] theorem s_walk2p (x : List D) : walk2 M (.tupP x) = some (x, fun _ => True) := (rfl)
@[simp] theorem s_walk2l (x : List D) : walk2 M (.lst x) = some (x, fun _ => True) := (rfl)
@[simp] theorem s_walkZt (x : List D) : walkZ M (.tup x) = some (x, fun _ => True) := (rfl)
@[simp] theorem s_walkZl (x : List D) : walkZ M (.lst x) = some (x, fun _ => True) := (rfl)
theorem s_lstr {a : Addr} {ds : List D} (h : M a = some (.lst ds)) : lstM M (.ref a) = some ds := by simp [lstM, h]
theorem s_seqr {a : Addr} {ds : List D} (h : M a = some (.lst ds)) : seqM M (.ref a) = some ds := by simp [seqM, lstM, h]
theorem s_dicr {a : Addr} {ds : List (Key × D)} (h : M a = some (.dic ds)) : dicM M (.ref a) = some ds := by simp [dicM, h]
theorem s_walkr {a : Addr} {ds : List D} (h : M a = some (.lst ds)) : walkM M (.ref a) = some (ds, fun M' => M' a = some (.lst ds)) := by simp [walkM, h]
theorem s_cell {a : Addr} {ds : List D} (h : M a = some (.lst ds)) : cellL M (.ref a) = some (a, ds) := by simp [cellL, h]
@[simp] theorem s_lent (x : List D) : lenM M (.tup x) = some x.length := (rfl)
@[simp] theorem s_lenp (x : List D) : lenM M (.tupP x) = some x.length := (rfl)
@[simp] theorem s_lenl (x : List D) : lenM M (.lst x) = some x.length := (rfl)
@[simp] theorem s_lend (x : List (Key × D)) : lenM M (.dic x) = some x.length := (rfl)
theorem s_lens {x : Str} (h : x.length ≤ sizeLine) : lenM M (.str x) = some x.length := by simp [lenM, h]
theorem s_lenr {a : Addr} {ds : List D} (h : M a = some (.lst ds)) : lenM M (.ref a) = some ds.length := by simp [lenM, seqM, lstM, h]
@[simp] theorem s_keys (x : Str) : keyD (.str x) = some (.inr x) := (rfl)
@[simp] theorem s_keyi (x : Int) : keyD (.int x) = some (.inl x) := (rfl)
@[simp] theorem s_tupt (x : List D) : isTupD (.tup x) = true := (rfl)
@[simp] theorem s_tupp (x : List D) : isTupD (.tupP x) = true := (rfl)
@[simp] theorem s_tupl (x : List D) : isTupD (.lst x) = false := (rfl)
@[simp] theorem s_tupr (x : Addr) : isTupD (.ref x) = false := (rfl)
@[simp] theorem s_tyl (x : List D) : tyD M "list" (.lst x) = true := (rfl)
@[simp] theorem s_tys (x : Str) : tyD M "str" (.str x) = true := (rfl)
theorem s_tyr {a : Addr} {ds : List D} (h : M a = some (.lst ds)) : tyD M "list" (.ref a) = true := by simp [tyD, lstM, h]
@[simp] theorem s_forN (g : DG_) (tb : DS_) (G : Mp → Prop) : forD g tb E G [] δ M = (G M ∧ E.nx δ M) := (rfl)
@[simp] theorem s_forC (g : DG_) (tb : DS_) (G : Mp → Prop) (d : D) (ds : List D) : forD g tb E G (d :: ds) δ M = (G M ∧ g d δ M fun δ1 M1 => tb { E with nx := forD g tb E G ds, ct := forD g tb E G ds, bk := E.nx } δ1 M1) := (rfl)
@[simp] theorem s_compN {Q : List D → Mp → Prop} (g : DG_) (tt : DT_) (te : DE_) (G : Mp → Prop) (acc : List D) : compD g tt te G δ Q [] acc M = (G M ∧ Q acc M) := (rfl)
@[simp] theorem s_compC {Q : List D → Mp → Prop} (g : DG_) (tt : DT_) (te : DE_) (G : Mp → Prop) (d : D) (ds acc : List D) : compD g tt te G δ Q (d :: ds) acc M = (G M ∧ g d δ M fun δ2 M2 => tt δ2 M2 fun b M3 => if b = true then te δ2 M3 fun y M4 => acc.length < sizeLine ∧ compD g tt te G δ Q ds (acc ++ [y]) M4 else compD g tt te G δ Q ds acc M3) := (rfl)
theorem out_of {d : D} (q : Q d M) : Out Q d M := Out.same q
end
end Ht
set_option Elab.async false
set_option linter.all false
set_option maxRecDepth 100000
namespace Ht
open PySem PySem.Spec PyProof.Rows L2
section
variable {α : Type} {E : EndsD} {G : Mp → Prop} {g : DG_} {tb : DS_} {enc : α → D}
theorem for_rule (Inv : List α → SD → Mp → Prop)
    (step : ∀ x r δ M, Inv (x :: r) δ M → G M ∧ ∀ nx : SD → Mp → Prop, (∀ δ' M', Inv r δ' M' → nx δ' M') → g (enc x) δ M fun δ1 M1 => tb { E with nx := nx, ct := nx, bk := E.nx } δ1 M1)
    (last : ∀ δ M, Inv [] δ M → G M ∧ E.nx δ M) : ∀ (l : List α) (δ : SD) (M : Mp), Inv l δ M → forD g tb E G (l.map enc) δ M
  | [], δ, M, h => last δ M h
  | x :: r, δ, M, h => ⟨(step x r δ M h).1, (step x r δ M h).2 _ fun δ' M' q => for_rule Inv step last r δ' M' q⟩
theorem for_ruleD (Inv : List D → SD → Mp → Prop)
    (step : ∀ x r δ M, Inv (x :: r) δ M → G M ∧ ∀ nx : SD → Mp → Prop, (∀ δ' M', Inv r δ' M' → nx δ' M') → g x δ M fun δ1 M1 => tb { E with nx := nx, ct := nx, bk := E.nx } δ1 M1)
    (last : ∀ δ M, Inv [] δ M → G M ∧ E.nx δ M) : ∀ (l : List D) (δ : SD) (M : Mp), Inv l δ M → forD g tb E G l δ M
  | [], δ, M, h => last δ M h
  | x :: r, δ, M, h => ⟨(step x r δ M h).1, (step x r δ M h).2 _ fun δ' M' q => for_ruleD Inv step last r δ' M' q⟩
theorem whileN_rule {c : DT_} (Inv : Nat → SD → Mp → Prop)
    (step : ∀ n δ M, Inv n δ M → ∀ nx : SD → Mp → Prop, (∀ k δ' M', k < n → Inv k δ' M' → nx δ' M') → c δ M fun b M1 => if b = true then tb { E with nx := nx, ct := nx, bk := E.nx } δ M1 else E.nx δ M1) :
    ∀ (N n : Nat) (δ : SD) (M : Mp), n < N → Inv n δ M → whileN c tb E N δ M
  | 0, n, _, _, h, _ => absurd h (Nat.not_lt_zero n)
  | N + 1, n, δ, M, h, q => step n δ M q _ fun k δ' M' hk q' => whileN_rule Inv step N k δ' M' (by omega) q'
theorem while_rule {c : DT_} (Inv : Nat → SD → Mp → Prop)
    (step : ∀ n δ M, Inv n δ M → ∀ nx : SD → Mp → Prop, (∀ k δ' M', k < n → Inv k δ' M' → nx δ' M') → c δ M fun b M1 => if b = true then tb { E with nx := nx, ct := nx, bk := E.nx } δ M1 else E.nx δ M1)
    {n : Nat} {δ : SD} {M : Mp} (h : Inv n δ M) : dWhile c tb E δ M := ⟨n + 1, whileN_rule Inv step (n + 1) n δ M (Nat.lt_succ_self _) h⟩
end
section
variable {α : Type} {G : Mp → Prop} {g : DG_} {tt : DT_} {te : DE_} {enc f : α → D} {δ : SD} {δ' : α → SD} {M : Mp} {Q : List D → Mp → Prop}
theorem comp_if (p : α → Bool) (hG : G M) : ∀ (l : List α) (acc : List D), (∀ x ∈ l, ∀ K : SD → Mp → Prop, K (δ' x) M → g (enc x) δ M K) → (∀ x ∈ l, ∀ K : Bool → Mp → Prop, K (p x) M → tt (δ' x) M K) →
    (∀ x ∈ l, p x = true → ∀ R : VD, R (f x) M → te (δ' x) M R) → acc.length + l.length ≤ sizeLine → Q (acc ++ (l.filter p).map f) M → compD g tt te G δ Q (l.map enc) acc M
  | [], acc, _, _, _, _, q => ⟨hG, by simpa using q⟩
  | x :: r, acc, h1, h2, h3, hl, q => by
    rw [List.length_cons] at hl
    refine ⟨hG, h1 x List.mem_cons_self _ (h2 x List.mem_cons_self _ ?_)⟩
    have b1 := fun y hy => h1 y (List.mem_cons_of_mem _ hy)
    have b2 := fun y hy => h2 y (List.mem_cons_of_mem _ hy)
    have b3 := fun y hy => h3 y (List.mem_cons_of_mem _ hy)
    cases hp : p x with
    | true =>
      rw [if_pos rfl]
      refine h3 x List.mem_cons_self hp _ ⟨by omega, comp_if p hG r _ b1 b2 b3 (by simp; omega) ?_⟩
      rw [List.filter_cons_of_pos hp, List.map_cons] at q
      simpa using q
    | false =>
      rw [if_neg Bool.false_ne_true]
      refine comp_if p hG r _ b1 b2 b3 (by omega) ?_
      rw [List.filter_cons_of_neg (by simp [hp])] at q
      exact q
theorem comp_map (hG : G M) (l : List α) (acc : List D) (h1 : ∀ x ∈ l, ∀ K : SD → Mp → Prop, K (δ' x) M → g (enc x) δ M K) (h2 : ∀ x ∈ l, ∀ K : Bool → Mp → Prop, K true M → tt (δ' x) M K)
    (h3 : ∀ x ∈ l, ∀ R : VD, R (f x) M → te (δ' x) M R) (hl : acc.length + l.length ≤ sizeLine) (q : Q (acc ++ l.map f) M) : compD g tt te G δ Q (l.map enc) acc M :=
  comp_if (fun _ => true) hG l acc h1 h2 (fun x hx _ => h3 x hx) hl (by rw [List.filter_eq_self.mpr (fun _ _ => rfl)]; exact q)
theorem comp2_map {β : Type} {ti1 : DI_} {g1 : DG_} {tt1 : DT_} {vs1 : List Nat} {enc1 : β → D} {f1 : α → β → D} {G1 : α → Mp → Prop} {inn : α → List β} {δ1 : α → β → SD} (hG : G M) : ∀ (l : List α) (acc : List D), (∀ x ∈ l, ∀ K : SD → Mp → Prop, K (δ' x) M → g (enc x) δ M K) → (∀ x ∈ l, ∀ K : Bool → Mp → Prop, K true M → tt (δ' x) M K) →
    (∀ x ∈ l, G1 x M ∧ ∀ R : List D → (Mp → Prop) → Mp → Prop, R ((inn x).map enc1) (G1 x) M → ti1 (δ' x) M R) →
    (∀ x ∈ l, ∀ y ∈ inn x, ∀ K : SD → Mp → Prop, K (δ1 x y) M → g1 (enc1 y) (wipeD (δ' x) vs1) M K) → (∀ x ∈ l, ∀ y ∈ inn x, ∀ K : Bool → Mp → Prop, K true M → tt1 (δ1 x y) M K) → (∀ x ∈ l, ∀ y ∈ inn x, ∀ R : VD, R (f1 x y) M → te (δ1 x y) M R) →
    acc.length + (l.flatMap inn).length ≤ sizeLine → Q (acc ++ l.flatMap fun x => (inn x).map (f1 x)) M → comp2D g tt ti1 g1 tt1 te vs1 G δ Q (l.map enc) acc M
  | [], acc, _, _, _, _, _, _, _, q => by simpa using (show comp2D g tt ti1 g1 tt1 te vs1 G δ Q [] acc M from ⟨hG, by simpa using q⟩)
  | x :: r, acc, h1, h2, h3, h4, h5, h6, hl, q => by
    rw [List.flatMap_cons, List.length_append] at hl
    have hx := List.mem_cons_self (a := x) (l := r)
    refine (show comp2D g tt ti1 g1 tt1 te vs1 G δ Q (enc x :: r.map enc) acc M from ⟨hG, h1 x hx _ (h2 x hx _ ?_)⟩)
    rw [if_pos rfl]
    refine (h3 x hx).2 _ ?_
    refine comp_map (δ' := δ1 x) (h3 x hx).1 (inn x) acc (h4 x hx) (h5 x hx) (f := f1 x) (h6 x hx) (by omega) ?_
    refine comp2_map hG r _ (fun y hy => h1 y (List.mem_cons_of_mem _ hy)) (fun y hy => h2 y (List.mem_cons_of_mem _ hy)) (fun y hy => h3 y (List.mem_cons_of_mem _ hy)) (fun y hy => h4 y (List.mem_cons_of_mem _ hy)) (fun y hy => h5 y (List.mem_cons_of_mem _ hy)) (fun y hy => h6 y (List.mem_cons_of_mem _ hy)) (by simp; simp at hl; omega) ?_
    rw [List.flatMap_cons] at q
    simpa using q
end
section
variable {M : Mp}
@[simp] theorem s_att (xs : List D) (i : Int) : atM M (.tup xs) (.int i) = atI xs i := rfl
@[simp] theorem s_atp (xs : List D) (i : Int) : atM M (.tupP xs) (.int i) = atI xs i := rfl
@[simp] theorem s_atl (xs : List D) (i : Int) : atM M (.lst xs) (.int i) = atI xs i := rfl
theorem s_atr {a : Addr} {ds : List D} (h : M a = some (.lst ds)) (i : Int) : atM M (.ref a) (.int i) = atI ds i := by simp [atM, seqM, lstM, h]
@[simp] theorem s_atd (kvs : List (Key × D)) (x : Str) : atM M (.dic kvs) (.str x) = valD kvs (.inr x) := rfl
theorem atI_nat {α : Type} (xs : List α) (n : Nat) : atI xs (n : Int) = xs[n]? := by
  unfold atI ixN
  rw [if_pos (by omega)]
  by_cases h : n < xs.length
  · rw [if_pos (by omega)]; simp
  · rw [if_neg (by omega)]; simp; omega
@[simp] theorem atI_0 {α : Type} (xs : List α) : atI xs 0 = xs[0]? := atI_nat xs 0
@[simp] theorem atI_1 {α : Type} (xs : List α) : atI xs 1 = xs[1]? := atI_nat xs 1
@[simp] theorem atI_2 {α : Type} (xs : List α) : atI xs 2 = xs[2]? := atI_nat xs 2
@[simp] theorem atI_3 {α : Type} (xs : List α) : atI xs 3 = xs[3]? := atI_nat xs 3
@[simp] theorem atI_4 {α : Type} (xs : List α) : atI xs 4 = xs[4]? := atI_nat xs 4
theorem inD_strs (x : Str) : ∀ ys : List Str, inD (.str x) (ys.map .str) = decide (x ∈ ys)
  | [] => rfl
  | y :: r => by
    have h := inD_strs x r
    unfold inD at h ⊢
    rw [List.map_cons, List.any_cons, h]
    simp only [sv, eqV]
    by_cases e : x = y
    · subst e; simp
    · have e' : ¬ y = x := fun q => e q.symm
      simp [e, e']
@[simp] theorem s_hast (x : Str) (ys : List Str) : hasM M (.str x) (.tup (ys.map .str)) = some (decide (x ∈ ys)) := by
  have h : (ys.map D.str).all sc = true := by simp [sc]
  unfold hasM
  simp only [s_seqt, h, sc, and_self, if_true, inD_strs]
@[simp] theorem s_hasl (x : Str) (ys : List Str) : hasM M (.str x) (.lst (ys.map .str)) = some (decide (x ∈ ys)) := by
  have h : (ys.map D.str).all sc = true := by simp [sc]
  unfold hasM
  simp only [s_seql, h, sc, and_self, if_true, inD_strs]
@[simp] theorem s_hasd (x : Str) (kvs : List (Key × D)) : hasM M (.str x) (.dic kvs) = some (valD kvs (.inr x)).isSome := rfl
theorem s_hasr {a : Addr} {kvs : List (Key × D)} (h : M a = some (.dic kvs)) (x : Str) : hasM M (.str x) (.ref a) = some (valD kvs (.inr x)).isSome := by simp [hasM, seqM, lstM, dicM, h, keyD]
theorem s_hasx (x : Str) (ds : List D) (h : ds.all sc = true) : hasM M (.str x) (.tup ds) = some (inD (.str x) ds) := by
  unfold hasM
  simp only [s_seqt, h, sc, and_self, if_true]
theorem inD_cons (x y : Str) (ds : List D) : inD (.str x) (.str y :: ds) = (decide (x = y) || inD (.str x) ds) := by
  unfold inD
  rw [List.any_cons]
  simp only [sv, eqV]
  by_cases e : x = y
  · subst e; simp
  · have e' : ¬ y = x := fun q => e q.symm
    simp [e, e']
theorem inD_nil (x : Str) : inD (.str x) [] = false := rfl
@[simp] theorem s_has1 (x a : Str) : hasM M (.str x) (.tup [.str a]) = some (decide (x = a)) := by rw [s_hasx x _ rfl, inD_cons, inD_nil, Bool.or_false]
@[simp] theorem s_has2 (x a b : Str) : hasM M (.str x) (.tup [.str a, .str b]) = some (decide (x = a) || decide (x = b)) := by rw [s_hasx x _ rfl, inD_cons, inD_cons, inD_nil, Bool.or_false]
@[simp] theorem s_has2l (x a b : Str) : hasM M (.str x) (.lst [.str a, .str b]) = some (decide (x = a) || decide (x = b)) := s_has2 (M := M) x a b
@[simp] theorem s_addT (o : Bool) (xs ys : List D) (Q : VD) : rAdd o (.tup xs) (.tup ys) M Q = (xs.length + ys.length ≤ sizeLine ∧ Q (.tup (xs ++ ys)) M) := rfl
@[simp] theorem s_addS (o : Bool) (x y : Str) (Q : VD) : rAdd o (.str x) (.str y) M Q = (x.length + y.length ≤ sizeLine ∧ Q (.str (x ++ y)) M) := rfl
@[simp] theorem s_addI (o : Bool) (x y : Int) (Q : VD) : rAdd o (.int x) (.int y) M Q = Q (.int (x + y)) M := rfl
@[simp] theorem s_addL (xs ys : List D) (Q : VD) : rAdd false (.lst xs) (.lst ys) M Q = (xs.length + ys.length ≤ sizeLine ∧ Q (.lst (xs ++ ys)) M) := by simp [rAdd]
end
theorem Frs.refl {M1 M0 : Mp} : ∀ ds : List D, Frs M1 M0 ds ds
  | [] => .nil
  | d :: r => .cons (.refl d) (Frs.refl r)
theorem Le.up {M : Mp} {p : Addr} {c : Cell} (h : M p = Option.none) : Le M (up M p c) := fun a c' e => by
  rw [up_ne (fun q => by subst q; rw [h] at e; cases e)]; exact e
theorem Le.trans {M M1 M2 : Mp} (a : Le M M1) (b : Le M1 M2) : Le M M2 := fun x c h => b x c (a x c h)
theorem out_lst {M M' : Mp} {p : Addr} {es : List D} {Q : VD} (l : Le M M') (h : M p = none) (h' : M' p = some (.lst es)) (q : Q (.lst es) M) : Out Q (.ref p) M' := ⟨M, .lst es, l, .lst h' h (Frs.refl es), q⟩
theorem out_dic {M M' : Mp} {p : Addr} {es : List (Key × D)} {Q : VD} (l : Le M M') (h : M p = none) (h' : M' p = some (.dic es)) (q : Q (.dic es) M) : Out Q (.ref p) M' := ⟨M, .dic es, l, .dic h' h, q⟩
theorem out_le {M M' : Mp} {d : D} {Q : VD} (l : Le M M') (q : Q d M) : Out Q d M' := ⟨M, d, l, .refl d, q⟩
@[simp] theorem s_upup {M : Mp} {a : Addr} {c d : Cell} : up (up M a c) a d = up M a d := up_up
@[simp] theorem s_lstU {M : Mp} {a : Addr} {ds : List D} : lstM (up M a (.lst ds)) (.ref a) = some ds := s_lstr up_same
@[simp] theorem s_seqU {M : Mp} {a : Addr} {ds : List D} : seqM (up M a (.lst ds)) (.ref a) = some ds := s_seqr up_same
@[simp] theorem s_dicU {M : Mp} {a : Addr} {ds : List (Key × D)} : dicM (up M a (.dic ds)) (.ref a) = some ds := s_dicr up_same
@[simp] theorem s_cellU {M : Mp} {a : Addr} {ds : List D} : cellL (up M a (.lst ds)) (.ref a) = some (a, ds) := s_cell up_same
@[simp] theorem s_tyU {M : Mp} {a : Addr} {ds : List D} : tyD (up M a (.lst ds)) "list" (.ref a) = true := s_tyr up_same
@[simp] theorem s_walkU {M : Mp} {a : Addr} {ds : List D} : walkM (up M a (.lst ds)) (.ref a) = some (ds, fun M' => M' a = some (.lst ds)) := s_walkr up_same
@[simp] theorem s_lenU {M : Mp} {a : Addr} {ds : List D} : lenM (up M a (.lst ds)) (.ref a) = some ds.length := s_lenr up_same
@[simp] theorem s_atU {M : Mp} {a : Addr} {ds : List D} (i : Int) : atM (up M a (.lst ds)) (.ref a) (.int i) = atI ds i := s_atr up_same i
@[simp] theorem s_isii {M : Mp} (i : Int) : isiM M (.int i) (.ty "int") = some true := by show kits "int" ["int"] = _; decide +kernel
@[simp] theorem s_isit {M : Mp} (x : List D) : isiM M (.tup x) (.ty "int") = some false := by show kits "tuple" ["int"] = _; decide +kernel
@[simp] theorem s_isss {M : Mp} (x : Str) : isiM M (.str x) (.ty "str") = some true := by show kits "str" ["str"] = _; decide +kernel
@[simp] theorem s_istt {M : Mp} (x : List D) : isiM M (.tup x) (.ty "tuple") = some true := by show kits "tuple" ["tuple"] = _; decide +kernel
@[simp] theorem s_isit' {M : Mp} (x : Int) : isiM M (.int x) (.ty "tuple") = some false := by show kits "int" ["tuple"] = _; decide +kernel
@[simp] theorem s_jsN {δ : SD} {M : Mp} {acc : Str} {Q : Str → Mp → Prop} : dJs [] acc δ M Q = Q acc M := rfl
@[simp] theorem s_jsC {δ : SD} {M : Mp} {acc : Str} {Q : Str → Mp → Prop} (t : DE_) (ts : List DE_) : dJs (t :: ts) acc δ M Q = t δ M fun x M1 => ∃ y : Str, x = .str y ∧ (acc ++ y).length ≤ sizeLine ∧ dJs ts (acc ++ y) δ M1 Q := rfl
theorem s_fmti {i : Int} (h : i.natAbs.log2 < 1920) : fmtM (.int i) = some (toString i) := by simp [fmtM, h]
section
variable {α : Type} {G : Mp → Prop} {te : DE_} {enc f : α → D} {δ : SD} {M : Mp} {Q : List D → Mp → Prop}
theorem comp_name {i : Nat} (l : List α) (acc : List D) (hG : G M) (h3 : ∀ x ∈ l, ∀ R : VD, R (f x) M → te (δ.set i (some (enc x))) M R) (hl : acc.length + l.length ≤ sizeLine) (q : Q (acc ++ l.map f) M) : compD (gName i) tYes te G δ Q (l.map enc) acc M :=
  comp_map (δ' := fun x => δ.set i (some (enc x))) hG l acc (fun x hx K k => k) (fun x hx K k => k) h3 hl q
theorem comp_name_if {i : Nat} {tt : DT_} (p : α → Bool) (l : List α) (acc : List D) (hG : G M) (h2 : ∀ x ∈ l, ∀ K : Bool → Mp → Prop, K (p x) M → tt (δ.set i (some (enc x))) M K) (h3 : ∀ x ∈ l, p x = true → ∀ R : VD, R (f x) M → te (δ.set i (some (enc x))) M R) (hl : acc.length + l.length ≤ sizeLine) (q : Q (acc ++ (l.filter p).map f) M) : compD (gName i) tt te G δ Q (l.map enc) acc M :=
  comp_if (δ' := fun x => δ.set i (some (enc x))) p hG l acc (fun x hx K k => k) h2 h3 hl q
theorem comp_pair {i j : Nat} {e1 e2 : α → D} (l : List α) (acc : List D) (he : ∀ x ∈ l, enc x = .tup [e1 x, e2 x]) (hG : G M) (h3 : ∀ x ∈ l, ∀ R : VD, R (f x) M → te ((δ.set i (some (e1 x))).set j (some (e2 x))) M R) (hl : acc.length + l.length ≤ sizeLine) (q : Q (acc ++ l.map f) M) : compD (gTup 2 (gCons (gName i) (gCons (gName j) gNil))) tYes te G δ Q (l.map enc) acc M :=
  comp_map (δ' := fun x => (δ.set i (some (e1 x))).set j (some (e2 x))) hG l acc (fun x hx K k => by rw [he x hx]; simpa using k) (fun x hx K k => k) h3 hl q
theorem comp2_name {β : Type} {i j : Nat} {ti1 : DI_} {vs1 : List Nat} {enc1 : β → D} {f1 : α → β → D} {G1 : α → Mp → Prop} (inn : α → List β) (l : List α) (acc : List D) (hG : G M)
    (h3 : ∀ x ∈ l, G1 x M ∧ ∀ R : List D → (Mp → Prop) → Mp → Prop, R ((inn x).map enc1) (G1 x) M → ti1 (δ.set i (some (enc x))) M R)
    (h6 : ∀ x ∈ l, ∀ y ∈ inn x, ∀ R : VD, R (f1 x y) M → te ((wipeD (δ.set i (some (enc x))) vs1).set j (some (enc1 y))) M R)
    (hl : acc.length + (l.flatMap inn).length ≤ sizeLine) (q : Q (acc ++ l.flatMap fun x => (inn x).map (f1 x)) M) : comp2D (gName i) tYes ti1 (gName j) tYes te vs1 G δ Q (l.map enc) acc M :=
  comp2_map (δ' := fun x => δ.set i (some (enc x))) (δ1 := fun x y => (wipeD (δ.set i (some (enc x))) vs1).set j (some (enc1 y))) hG l acc (fun x hx K k => k) (fun x hx K k => k) h3 (fun x hx y hy K k => k) (fun x hx y hy K k => k) h6 hl q
end
def enumF (k : Nat) : List D → List D
  | [] => []
  | d :: r => .tup [.int (k : Nat), d] :: enumF (k + 1) r
theorem enumF_len (k : Nat) (ds : List D) : (enumF k ds).length = ds.length := by
  induction ds generalizing k with
  | nil => rfl
  | cons d r ih => simp [enumF, ih]
theorem enumF_get : ∀ (k : Nat) (ds : List D) (i : Nat), (enumF k ds)[i]? = (ds[i]?).map fun d => .tup [.int ((k + i : Nat) : Nat), d]
  | k, [], i => by simp [enumF]
  | k, d :: r, 0 => by simp [enumF]
  | k, d :: r, i + 1 => by
    have := enumF_get (k + 1) r i
    simp only [enumF, List.getElem?_cons_succ, this]
    congr 1
    funext d
    have : k + 1 + i = k + (i + 1) := by omega
    rw [this]
theorem enumD_eq (ds : List D) : enumD ds = enumF 0 ds := by
  apply List.ext_getElem?
  intro i
  rw [enumF_get]
  unfold enumD
  by_cases hi : i < ds.length
  · rw [List.getElem?_map, List.getElem?_range hi]
    simp [hi]
  · rw [List.getElem?_eq_none (by simpa using hi), List.getElem?_eq_none (by simpa using hi)]
    rfl
section
variable {α β : Type} {G : Mp → Prop} {te : DE_} {enc : α → D} {δ : SD} {M : Mp} {Q : List D → Mp → Prop}
theorem comp2_name_if {i j : Nat} {tt : DT_} {ti1 : DI_} {vs1 : List Nat} {enc1 : β → D} {f1 : α → β → D} {G1 : α → Mp → Prop} (p : α → Bool) (inn : α → List β) (hG : G M) : ∀ (l : List α) (acc : List D),
    (∀ x ∈ l, ∀ K : Bool → Mp → Prop, K (p x) M → tt (δ.set i (some (enc x))) M K) →
    (∀ x ∈ l, p x = true → G1 x M ∧ ∀ R : List D → (Mp → Prop) → Mp → Prop, R ((inn x).map enc1) (G1 x) M → ti1 (δ.set i (some (enc x))) M R) →
    (∀ x ∈ l, p x = true → ∀ y ∈ inn x, ∀ R : VD, R (f1 x y) M → te ((wipeD (δ.set i (some (enc x))) vs1).set j (some (enc1 y))) M R) →
    acc.length + ((l.filter p).flatMap inn).length ≤ sizeLine → Q (acc ++ (l.filter p).flatMap fun x => (inn x).map (f1 x)) M → comp2D (gName i) tt ti1 (gName j) tYes te vs1 G δ Q (l.map enc) acc M
  | [], acc, _, _, _, _, q => by simpa using (show comp2D (gName i) tt ti1 (gName j) tYes te vs1 G δ Q [] acc M from ⟨hG, by simpa using q⟩)
  | x :: r, acc, h2, h3, h6, hl, q => by
    have hx := List.mem_cons_self (a := x) (l := r)
    have b2 := fun y hy => h2 y (List.mem_cons_of_mem _ hy)
    have b3 := fun y hy => h3 y (List.mem_cons_of_mem _ hy)
    have b6 := fun y hy => h6 y (List.mem_cons_of_mem _ hy)
    refine (show comp2D (gName i) tt ti1 (gName j) tYes te vs1 G δ Q (enc x :: r.map enc) acc M from ⟨hG, h2 x hx _ ?_⟩)
    cases hp : p x with
    | true =>
      rw [if_pos rfl]
      rw [List.filter_cons_of_pos hp, List.flatMap_cons, List.length_append] at hl
      refine (h3 x hx hp).2 _ ?_
      refine comp_name (f := f1 x) (inn x) acc (h3 x hx hp).1 (h6 x hx hp) (by omega) ?_
      refine comp2_name_if p inn hG r _ b2 b3 b6 (by simp; simp at hl; omega) ?_
      rw [List.filter_cons_of_pos hp, List.flatMap_cons] at q
      simpa using q
    | false =>
      rw [if_neg Bool.false_ne_true]
      rw [List.filter_cons_of_neg (by simp [hp])] at hl q
      exact comp2_name_if p inn hG r acc b2 b3 b6 hl q
end
@[simp] theorem s_slT {M : Mp} {Q : VD} (o : Bool) (xs : List D) (lo hi : Option Int) : rSl o (.tup xs) lo hi M Q = Q (.tup (cutD xs lo hi)) M := rfl
theorem cut_one (x : D) (xs : List D) : cutD (x :: xs) (some 1) none = xs := by
  unfold cutD
  have h1 : HT.sIx (x :: xs).length 0 (some 1) = 1 := by
    have := HT.sIx_nat (x :: xs).length 0 1
    rw [show ((1 : Nat) : Int) = 1 from rfl] at this
    rw [this]; simp
  rw [h1, HT.sIx_none]
  simp
theorem s_hasB {M : Mp} (bs : List Bool) : hasM M (.bl true) (.lst (bs.map .bl)) = some (bs.any fun b => b) := by
  have h : (bs.map D.bl).all sc = true := by simp [sc]
  unfold hasM
  simp only [s_seql, h, sc, and_self, if_true]
  congr 1
  unfold inD
  rw [List.any_map]
  congr 1
  funext b
  cases b <;> rfl
end Ht
set_option Elab.async false
set_option linter.all false
set_option maxRecDepth 100000
set_option maxHeartbeats 2000000
namespace Ht
open PySem PySem.Spec PyProof.Rows L2
def obsX (fa : List He.Fa) (fn : List He.DefD) (ex : PySem.W.Frag → Bool) (K : PySem.W.Frag) : He.AlD := ((He.obsD fa fn K).1 && ex K, (He.obsD fa fn K).2)
structure SaysX (fa : List He.Fa) (fn : List He.DefD) (ex : PySem.W.Frag → Bool) (K : PySem.W.Frag) : Prop where
  d : He.SaysD fa fn K
  x : ex K = true
def obsXG (n : Nat) (fa : List He.Fa) (fn : List He.DefD) (ex : PySem.W.Frag → Bool) (g : Addr → Option Obj) : He.AlD := obsX fa fn ex (He.frG g (He.asD g n))
theorem saysX_of {fa : List He.Fa} {fn : List He.DefD} {ex : PySem.W.Frag → Bool} {K : PySem.W.Frag} (e : obsX fa fn ex K = He.valD fn) : SaysX fa fn ex K := by
  have e1 := congrArg Prod.fst e
  have e2 := congrArg Prod.snd e
  obtain ⟨h1, h2⟩ := He.ba (show ((He.obsD fa fn K).1 && ex K) = true from e1)
  exact ⟨Prod.ext h1 e2, h2⟩
def hookX (n : Nat) (fa : List He.Fa) (fn : List He.DefD) (ex : PySem.W.Frag → Bool) : PySem.W.Hook where
  α := He.AlD
  obs := fun s => obsXG n fa fn ex s.heap.get?
  val := fun _ => He.valD fn
  says := fun _ h => ∃ K : PySem.W.Frag, K.In h ∧ SaysX fa fn ex K
  of := fun _ _ e => ⟨_, He.frG_in, saysX_of e⟩
  keeps := fun _ _ _ ⟨K, hK, c⟩ k => ⟨K, PySem.W.Frag.In.keeps hK k, c⟩
theorem obsXG_eq {n : Nat} {fa : List He.Fa} {fn : List He.DefD} {ex : PySem.W.Frag → Bool} {g : Addr → Option Obj} {s : Shared} (h : ∀ a, g a = s.heap.get? a) : obsXG n fa fn ex g = (hookX n fa fn ex).obs s := by
  have e : g = s.heap.get? := funext h
  rw [e] <;> rfl
section
variable {K : PySem.W.Frag} {h : Heap} {mg : Str → Option Value}
theorem glob_str (X : K.In h) (G : h.Ns mainGlobals mg) {x z : Str} (c : (He.Fa.str x z).ok K = true) : GlobD K mg x (.str z) := by
  obtain ⟨t, e⟩ := He.str_ok X G c
  exact ⟨_, .str z, e, ⟨t, rfl⟩, fun _ _ _ => rfl⟩
theorem glob_int (X : K.In h) (G : h.Ns mainGlobals mg) {x : Str} {z : Int} (c : (He.Fa.int x z).ok K = true) : GlobD K mg x (.int z) := by
  obtain ⟨t, e⟩ := He.int_ok X G c
  exact ⟨_, .int z, e, ⟨t, rfl⟩, fun _ _ _ => rfl⟩
theorem reps_strs {K : KZ} {H : Hp} {M : Mp} : ∀ ws : List Str, Reps K H M (ws.map D.str) (ws.map V.str)
  | [] => rfl
  | n :: r => ⟨_, _, rfl, rfl, reps_strs r⟩
def tupS (x : Str) (ws : List Str) (K : PySem.W.Frag) : Bool := He.tupB K x (ws.map He.Dv.str)
theorem glob_tup (X : K.In h) (G : h.Ns mainGlobals mg) {x : Str} {ws : List Str} (g : (He.Fa.glo x).ok K = true) (c : tupS x ws K = true) : GlobD K mg x (.tup (ws.map .str)) := by
  refine ⟨_, .ref (He.ga K x), He.glo_ok X G g, rfl, fun Z H M => ⟨_, ws.map V.str, rfl, .inr ?_, reps_strs ws⟩⟩
  have q := He.tupB_ok (K := K) (x := x) (vs := ws.map He.Dv.str) c (fun _ => none)
  have e : (ws.map He.Dv.str).map (He.Dv.v K) = ws.map V.str := by rw [List.map_map]; rfl
  rw [e] at q
  rcases q with q | q
  · rcases q with q | ⟨o, q⟩ <;> cases q
  · exact q
end
section
variable {P : Program} {w : World} {K : PySem.W.Frag} {mg : Str → Option Value} {base : Heap} {x qual : Str} {st : Stmt} {f : Addr} {fd : FuncData} {N ps : List Str}
theorem no_fn (hm : mg x = some (.ref f)) (F : FnP K x qual st f fd) (S : FnScope N ps (defScope st))
    (hb : ∀ (kV doc pm : Value) (an : Option Addr) (cdv ct : Value) (us : List Value), us.length = ps.length → bindArgs (PySem.W.fnOf x qual (defArgs st) (defBody st) (defScope st) .none kV doc pm an cdv ct) ⟨us, []⟩ = pure (ps.zip us)) : Fn P w K mg base 0 x ps (fun _ _ _ _ => False) :=
  ⟨f, fd, hm, ⟨fun vs H Q E ⟨_, _, _, _, _, _, _, h, _⟩ => h.elim, fun A outer s H args us vs Q E _ _ _ _ ⟨_, _, _, _, _, _, _, h, _⟩ => h.elim⟩, F.kp, F.bindsN hb⟩
end
theorem law_ask {K : PySem.W.Frag} {sp : SpD} (h : ∀ ns : List Int, ns.length ≤ 63 → ∀ Q : VD, (∀ M, Q (.bl true) M) → sp [.scr ns] (fun _ => none) Q X0) (H : Hp) (a : Addr) (ns : List Int) (hl : ns.length ≤ 63) (hS : SqL K H a (ns.map V.int)) :
    UpSp K sp [.ref a] H (fun v _ => v = .bl true) fun _ _ _ => False := by
  refine ⟨fun _ => False, [.scr ns], fun _ => none, fun d _ => d = .bl true, X0, ⟨fun _ _ e => by (cases e), fun _ z => z.elim⟩, ⟨.ref a, [], rfl, ⟨a, rfl, ?_⟩, rfl⟩, h ns hl _ fun _ => rfl, fun v d H' M' _ _ r e => by subst e; exact r, fun _ _ _ _ _ _ _ _ _ _ w => w.elim⟩
  rcases hS with hS | hS
  · rcases hS with hS | ⟨b, hS⟩
    · exact .inl ⟨_, ⟨rfl, fun z => z, hS⟩, .inl rfl⟩
    · exact .inl ⟨_, ⟨rfl, fun z => z, hS⟩, .inr ⟨b, rfl⟩⟩
  · exact .inr hS
end Ht
set_option Elab.async false
set_option linter.all false
set_option maxRecDepth 100000
namespace Ht
open PySem PySem.Spec PyProof.Rows L2
structure Cs where
  DomainReader : Addr
  TextLine : Addr
def g_LETTERS : D := .str "abcdefghijklmnopqrstuvwxyz"
def g_MARKS : D := .tup [.str "when", .str "and", .str "or", .str "either", .str "yes", .str "no", .str "same", .str "unlike", .str "by"]
structure Glb (K : PySem.W.Frag) (mg : Str → Option Value) : Prop where
  LETTERS : GlobD K mg "LETTERS" g_LETTERS
  MARKS : GlobD K mg "MARKS" g_MARKS
structure Cfacts (K : PySem.W.Frag) (c : Cs) : Prop where
  cDomainReader : Cls K c.DomainReader
  nDomainReader_read_kinds : NoAttr K c.DomainReader "read_kinds"
  nDomainReader_read_relations : NoAttr K c.DomainReader "read_relations"
  nDomainReader_read_deeds : NoAttr K c.DomainReader "read_deeds"
  nDomainReader_open_deed : NoAttr K c.DomainReader "open_deed"
  cTextLine : Cls K c.TextLine
  nTextLine_line_number : NoAttr K c.TextLine "line_number"
  nTextLine_line_text : NoAttr K c.TextLine "line_text"
  nTextLine_last_place : NoAttr K c.TextLine "last_place"
  nTextLine_line_place : NoAttr K c.TextLine "line_place"
end Ht
set_option Elab.async false
set_option linter.all false
set_option maxRecDepth 100000
namespace Ht
open PySem PySem.Spec PyProof.Rows L2
structure Atom where
  w : Str
  ws : List Str
inductive Plain where
  | fact (n : Str) (a : Atom)
  | two (n a b : Str)
inductive Cond where
  | one (p : Plain)
  | either (ps : List Plain)
structure Eff where
  n : Str
  a : Atom
  when_ : List Plain
inductive Cost where
  | num (i : Int)
  | by_ (w : Str) (ws : List Str)
structure Deed where
  w : Str
  vs : List (Str × Str)
  cs : List Cond
  es : List Eff
  c : Cost
structure Dom where
  ks : List (Str × Option Str)
  rs : List (Str × List Str)
  ds : List Deed
def strsD (ws : List Str) : List D := ws.map .str
def optD : Option Str → D
  | none => .non
  | some x => .str x
def Atom.d (a : Atom) : D := .tup [.str a.w, .tup (a.ws.map .str)]
def Plain.d : Plain → D
  | .fact n a => .tup [.str n, a.d]
  | .two n a b => .tup [.str n, .str a, .str b]
def Cond.d : Cond → D
  | .one p => p.d
  | .either ps => .tup [.str "either", .tup (ps.map Plain.d)]
def Eff.d (e : Eff) : D := .tup [.str e.n, e.a.d, .tup (e.when_.map Plain.d)]
def Cost.d : Cost → D
  | .num i => .int i
  | .by_ w ws => .tup [.str "by", .str w, .tup (ws.map .str)]
def pairD (p : Str × Str) : D := .tup [.str p.1, .str p.2]
def Deed.d (x : Deed) : D := .tup [.str x.w, .tupP (x.vs.map pairD), .tup (x.cs.map Cond.d), .tup (x.es.map Eff.d), x.c.d]
def kindD (k : Str × Option Str) : D := .tup [.str k.1, optD k.2]
def relD (r : Str × List Str) : D := .tup [.str r.1, .tup (r.2.map .str)]
def Dom.d (x : Dom) : D := .tup [.tup (x.ks.map kindD), .tupP (x.rs.map relD), .tup (x.ds.map Deed.d)]
def lettersS : Str := "abcdefghijklmnopqrstuvwxyz"
def isWord (z : Str) : Bool := decide (0 < z.length) && z.cps.toList.all fun c => decide (c ∈ lettersS.cps.toList)
def marks : List Str := ["when", "and", "or", "either", "yes", "no", "same", "unlike", "by"]
theorem marks_eq : g_MARKS = .tup (marks.map .str) := rfl
def Plain.ok : Plain → Prop
  | .fact n _ => n = "yes" ∨ n = "no"
  | .two n _ _ => n = "same" ∨ n = "unlike"
def Cond.ok : Cond → Prop
  | .one p => p.ok
  | .either ps => ∀ p ∈ ps, p.ok
def Plain.toks : Plain → List Str
  | .fact n a => n :: a.w :: a.ws
  | .two n a b => [n, a, b]
def rowToks (mark : Str) : List Plain → List Str
  | [] => []
  | [p] => p.toks
  | p :: r => p.toks ++ mark :: rowToks mark r
def Cond.toks : Cond → List Str
  | .one p => p.toks
  | .either ps => "either" :: rowToks "or" ps
def Eff.toks (e : Eff) : List Str := e.n :: e.a.w :: e.a.ws ++ (if e.when_.isEmpty then [] else ("when" : Str) :: rowToks "and" e.when_)
def Cost.toks : Cost → List Str
  | .num i => ["cost", toString i]
  | .by_ w ws => "cost" :: "by" :: w :: ws
def Deed.head (x : Deed) : List Str := "deed" :: x.w :: x.vs.flatMap fun p => [p.1, p.2]
def Deed.lines (x : Deed) : List (List Str) := x.head :: (x.cs.map fun k => "if" :: k.toks) ++ x.es.map Eff.toks ++ [x.c.toks]
def kindLine (k : Str × Option Str) : List Str := "kind" :: k.1 :: match k.2 with | none => [] | some a => [a]
def relLine (r : Str × List Str) : List Str := "relation" :: r.1 :: r.2
def Dom.lines (x : Dom) : List (List Str) := x.ks.map kindLine ++ x.rs.map relLine ++ x.ds.flatMap Deed.lines
def sp1 : Str := " "
def nl1 : Str := "\n"
def joinSp (ts : List Str) : Str := Txt.join sp1 ts
def joinNl (ls : List Str) : Str := Txt.join nl1 ls
def wt (ts : List Str) : Nat := (ts.map fun t => t.length + 1).sum
end Ht
set_option Elab.async false
set_option linter.all false
set_option maxRecDepth 100000
namespace Ht
open PySem PySem.Spec PyProof.Rows L2
def addAll (l m : List Str) : List Str := m.foldl (fun acc x => if x ∈ acc then acc else acc ++ [x]) l
abbrev Told := List (Str × List Str)
def above (t : Told) (a : Option Str) : List Str := match a with
  | none => []
  | some a => (t.lookup a).getD []
def kAbove : Told → List (Str × Option Str) → Told
  | t, [] => t
  | t, (w, a) :: r => kAbove (if (t.lookup w).isSome then t else t ++ [(w, addAll [w] (above t a))]) r
def setD (l : List Str) : List (Key × D) := l.map fun x => (.inr x, .bl true)
def toldD (t : Told) : List (Key × D) := t.map fun p => (.inr p.1, .dic (setD p.2))
def kindFault (ahead : List Str) (i : Nat) : List (Str × Option Str) → Option Nat
  | [] => none
  | (w, a) :: r => if w ∈ ahead ∨ (∃ x, a = some x ∧ x ∉ ahead) then some i else kindFault (ahead ++ [w]) (i + 1) r
def relFault (known : Told) (ahead : List Str) (i : Nat) : List (Str × List Str) → Option Nat
  | [] => none
  | (w, ps) :: r => if w ∈ ahead ∨ ¬ ∀ p ∈ ps, (known.lookup p).isSome then some i else relFault known (ahead ++ [w]) (i + 1) r
def deedFault (known : Told) (ahead : List Str) (i : Nat) : List Deed → Option Nat
  | [] => none
  | x :: r => if x.w ∈ ahead ∨ ¬ (x.vs.map (·.1)).Nodup ∨ ¬ ∀ p ∈ x.vs, (known.lookup p.2).isSome then some i else deedFault known (ahead ++ [x.w]) (i + 1) r
def Cond.plains : Cond → List Plain
  | .one p => [p]
  | .either ps => ps
def Deed.plains (x : Deed) : List Plain := x.cs.flatMap Cond.plains ++ x.es.flatMap (·.when_)
def Plain.atoms : Plain → List Atom
  | .fact _ a => [a]
  | .two _ _ _ => []
def Plain.words : Plain → List Str
  | .fact _ _ => []
  | .two _ a b => [a, b]
def Deed.atoms (x : Deed) : List Atom := x.plains.flatMap Plain.atoms ++ x.es.map (·.a)
def fits (known : Told) (vs : List (Str × Str)) (w p : Str) : Prop := ∃ k l, vs.lookup w = some k ∧ known.lookup k = some l ∧ p ∈ l
def atomOk (x : Dom) (d : Deed) (a : Atom) : Prop := ∃ ps, x.rs.lookup a.w = some ps ∧ ps.length = a.ws.length ∧ ∀ q ∈ a.ws.zip ps, fits (kAbove [] x.ks) d.vs q.1 q.2
def deedAtomsOk (x : Dom) (d : Deed) : Prop := (∀ a ∈ d.atoms, atomOk x d a) ∧ ∀ p ∈ d.plains, ∀ w ∈ p.words, (d.vs.lookup w).isSome
def costOk (d : Deed) : Prop := match d.c with
  | .num i => 0 ≤ i
  | .by_ _ ws => ∀ w ∈ ws, (d.vs.lookup w).isSome
structure Dom.ok (x : Dom) : Prop where
  k : kindFault [] 0 x.ks = none
  r : relFault (kAbove [] x.ks) [] 0 x.rs = none
  d : deedFault (kAbove [] x.ks) [] 0 x.ds = none
  a : ∀ d ∈ x.ds, deedAtomsOk x d
  c : ∀ d ∈ x.ds, costOk d
structure Deed.small (x : Deed) : Prop where
  vs : x.vs.length ≤ 1000
  cs : x.cs.length ≤ 1000
  es : x.es.length ≤ 1000
  ps : x.plains.length ≤ 1000
  as : ∀ a ∈ x.atoms, a.ws.length ≤ 1000
  ln : ∀ l ∈ x.lines, wt l ≤ 100000
  ok : (∀ k ∈ x.cs, k.ok) ∧ ∀ e ∈ x.es, ∀ p ∈ e.when_, p.ok
  ei : ∀ ps, Cond.either ps ∈ x.cs → ps ≠ []
  c : ∀ i, x.c = .num i → i.natAbs.log2 < 1920
structure Dom.small (x : Dom) : Prop where
  ks : x.ks.length ≤ 1000
  rs : x.rs.length ≤ 1000
  ds : x.ds.length ≤ 1000
  ps : ∀ r ∈ x.rs, r.2.length ≤ 1000
  d : ∀ d ∈ x.ds, d.small
  n : x.lines.length ≤ 10000
  ln : ∀ l ∈ x.lines, wt l ≤ 100000
  all : (x.lines.map wt).sum ≤ 1000000
def lineF (n lp p : Int) (L : Str) : List (Str × D) := [("line_number", .int n), ("line_text", .str L), ("last_place", .int lp), ("line_place", .int p)]
def lineC (c : Cs) (n lp p : Int) (L : Str) : Cell := .ins c.TextLine (lineF n lp p L)
def Sp (L : List Nat) : List Str → Prop
  | [] => L = []
  | t :: ts => t.cps.toList ≠ [] ∧ 32 ∉ t.cps.toList ∧ ∃ k R, L = t.cps.toList ++ List.replicate k 32 ++ R ∧ (k = 0 → R = []) ∧ Sp R ts
def AtL (L : Str) (p : Nat) (ts : List Str) : Prop := L.length ≤ sizeLine ∧ p ≤ L.length ∧ Sp (L.cps.toList.drop p) ts
structure Ln (c : Cs) (M : Mp) (a : Addr) (L : Str) (n : Int) (ts : List Str) : Prop where
  at_ : ∃ lp p : Nat, M a = some (lineC c n lp p L) ∧ AtL L p ts
def Ln.next (c : Cs) (M : Mp) (a : Addr) (L : Str) (n : Int) (ts : List Str) (M' : Mp) : Prop := Ln c M' a L n ts ∧ ∀ b, b ≠ a → M' b = M b
def sp_is_word (c : Cs) : SpD := fun ds M Q _ => ∃ z, ds = [.str z] ∧ z.length ≤ sizeLine ∧ Q (.bl (isWord z)) M
def sp_kinds_above (c : Cs) : SpD := fun ds M Q _ => ∃ ks : List (Str × Option Str), ds = [.tup (ks.map kindD)] ∧ ks.length ≤ 1000 ∧ Q (.dic (toldD (kAbove [] ks))) M
def natD : Option Nat → D
  | none => .non
  | some i => .int (i : Nat)
def sp_kind_fault (c : Cs) : SpD := fun ds M Q _ => ∃ ks : List (Str × Option Str), ds = [.tup (ks.map kindD)] ∧ ks.length ≤ 1000 ∧ Q (natD (kindFault [] 0 ks)) M
def sp_relation_fault (c : Cs) : SpD := fun ds M Q _ => ∃ x : Dom, ds = [x.d] ∧ x.small ∧ Q (natD (relFault (kAbove [] x.ks) [] 0 x.rs)) M
def sp_deed_fault (c : Cs) : SpD := fun ds M Q _ => ∃ x : Dom, ds = [x.d] ∧ x.small ∧ Q (natD (deedFault (kAbove [] x.ks) [] 0 x.ds)) M
def sp_plain_of_condition (c : Cs) : SpD := fun ds M Q _ => ∃ k : Cond, ds = [k.d] ∧ k.ok ∧ Q (.tup (k.plains.map Plain.d)) M
def sp_plain_of_deed (c : Cs) : SpD := fun ds M Q _ => ∃ x : Deed, ds = [x.d] ∧ x.small ∧ Q (.lst (x.plains.map Plain.d)) M
def sp_atoms_of_deed (c : Cs) : SpD := fun ds M Q _ => ∃ x : Deed, ds = [x.d] ∧ x.small ∧ Q (.lst (x.atoms.map Atom.d)) M
structure Dom.part (x : Dom) : Prop where
  k : kindFault [] 0 x.ks = none
  r : relFault (kAbove [] x.ks) [] 0 x.rs = none
  d : deedFault (kAbove [] x.ks) [] 0 x.ds = none
open Classical in
def sp_is_right_atom (c : Cs) : SpD := fun ds M Q _ => ∃ (x : Dom) (d : Deed) (a : Atom), ds = [x.d, d.d, a.d] ∧ x.small ∧ x.part ∧ d ∈ x.ds ∧ a.ws.length ≤ 1000 ∧ Q (.bl (decide (atomOk x d a))) M
open Classical in
def sp_has_atom_fault (c : Cs) : SpD := fun ds M Q _ => ∃ (x : Dom) (d : Deed), ds = [x.d, d.d] ∧ x.small ∧ x.part ∧ d ∈ x.ds ∧ Q (.bl (!decide (deedAtomsOk x d))) M
open Classical in
def sp_has_cost_fault (c : Cs) : SpD := fun ds M Q _ => ∃ (d : Deed), ds = [d.d] ∧ d.small ∧ (d.vs.map (·.1)).Nodup ∧ Q (.bl (!decide (costOk d))) M
def sp_first_index (c : Cs) : SpD := fun ds M Q _ => ∃ bs : List Bool, ds = [.lst (bs.map .bl)] ∧ bs.length ≤ 1000 ∧ Q (natD (bs.findIdx? fun b => b)) M
def sp_first_fault (c : Cs) : SpD := fun ds M Q _ => ∃ (x : Dom) (f : Str), ds = [x.d, .str f] ∧ x.small ∧ x.ok ∧ Q .non M
def sp_check_domain (c : Cs) : SpD := fun ds M Q _ => ∃ (x : Dom), ds = [x.d] ∧ x.small ∧ x.ok ∧ Q .non M
def sp_TextLine_skip_spaces (c : Cs) : SpD := fun ds M Q _ => ∃ a n L ts, ∃ lp p k : Nat, ds = [.ref a] ∧ M a = some (lineC c n lp p L) ∧ L.length ≤ sizeLine ∧ p + k ≤ L.length ∧ (∀ i, i < k → L.cps.toList[p + i]? = some 32) ∧ Sp (L.cps.toList.drop (p + k)) ts ∧ Q .non (up M a (lineC c n lp (p + k : Nat) L))
def sp_TextLine_init (c : Cs) : SpD := fun ds M Q _ => ∃ a L ts, ∃ n k : Nat, ds = [.ref a, .int n, .str L] ∧ M a = some (.ins c.TextLine []) ∧ L.length ≤ sizeLine ∧ (∃ R, L.cps.toList = List.replicate k 32 ++ R ∧ Sp R ts) ∧ Q .non (up M a (lineC c n (0 : Nat) k L))
def sp_TextLine_is_over (c : Cs) : SpD := fun ds M Q _ => ∃ a L n ts, ds = [.ref a] ∧ Ln c M a L n ts ∧ Q (.bl ts.isEmpty) M
def sp_TextLine_next_token (c : Cs) : SpD := fun ds M Q _ => ∃ a L n ts, ds = [.ref a] ∧ Ln c M a L n ts ∧ Q (.str (ts.headD Str.empty)) M
def sp_TextLine_take_token (c : Cs) : SpD := fun ds M Q _ => ∃ a L n t ts, ds = [.ref a] ∧ Ln c M a L n (t :: ts) ∧ ∀ M', Ln.next c M a L n ts M' → Q (.str t) M'
def sp_TextLine_refuse_last (c : Cs) : SpD := fun _ _ _ _ => False
def sp_TextLine_take_one_of (c : Cs) : SpD := fun ds M Q _ => ∃ a L n t ts, ∃ ys : List Str, ds = [.ref a, .tup (ys.map .str)] ∧ t ∈ ys ∧ Ln c M a L n (t :: ts) ∧ ∀ M', Ln.next c M a L n ts M' → Q (.str t) M'
def sp_TextLine_take_end (c : Cs) : SpD := fun ds M Q _ => ∃ a L n, ds = [.ref a] ∧ Ln c M a L n [] ∧ Q .non M
def Spaced (L : Str) (ts : List Str) : Prop := L.length ≤ sizeLine ∧ ∃ k R, L.cps.toList = List.replicate k 32 ++ R ∧ Sp R ts
inductive LnsAt (c : Cs) (M : Mp) : List Addr → List (List Str) → Prop where
  | nil : LnsAt c M [] []
  | cons {a : Addr} {L : Str} {n : Int} {ts : List Str} {as : List Addr} {tss : List (List Str)} (h : Ln c M a L n ts) (ne : ts ≠ []) (new : a ∉ as) (r : LnsAt c M as tss) : LnsAt c M (a :: as) (ts :: tss)
inductive All2 {α β : Type} (R : α → β → Prop) : List α → List β → Prop where
  | nil : All2 R [] []
  | cons {a : α} {b : β} {as : List α} {bs : List β} (h : R a b) (r : All2 R as bs) : All2 R (a :: as) (b :: bs)
def Rows (z : Str) (tss : List (List Str)) : Prop := z.length + 2 ≤ sizeLine ∧ ∃ uss, All2 Spaced (Txt.split z nl1) uss ∧ tss = uss.filter fun ts => !ts.isEmpty
def sp_text_lines (c : Cs) : SpD := fun ds M Q _ => ∃ z tss, ds = [.str z] ∧ Rows z tss ∧ ∀ M' as, Le M M' → (∀ a ∈ as, M a = none) → LnsAt c M' as tss → Q (.lst (as.map .ref)) M'
def sp_line_count (c : Cs) : SpD := fun _ _ _ _ => False
def sp_write_plain (c : Cs) : SpD := fun ds M Q _ => ∃ p : Plain, ds = [p.d] ∧ p.ok ∧ wt p.toks ≤ 100000 ∧ Q (.str (joinSp p.toks)) M
def sp_write_condition (c : Cs) : SpD := fun ds M Q _ => ∃ k : Cond, ds = [k.d] ∧ k.ok ∧ (∀ ps, k = .either ps → ps ≠ []) ∧ wt k.toks ≤ 100000 ∧ Q (.str (joinSp k.toks)) M
def sp_write_effect (c : Cs) : SpD := fun ds M Q _ => ∃ e : Eff, ds = [e.d] ∧ (∀ p ∈ e.when_, p.ok) ∧ wt e.toks ≤ 100000 ∧ Q (.str (joinSp e.toks)) M
def sp_deed_lines (c : Cs) : SpD := fun ds M Q _ => ∃ x : Deed, ds = [x.d] ∧ x.small ∧ Q (.lst (x.lines.map fun l => .str (joinSp l))) M
def sp_write_domain (c : Cs) : SpD := fun ds M Q _ => ∃ (x : Dom) (a b e : D), ds = [.tup [a, b, e]] ∧ walkM M a = some (x.ks.map kindD, fun _ => True) ∧ walkM M b = some (x.rs.map relD, fun _ => True) ∧ walkM M e = some (x.ds.map Deed.d, fun _ => True) ∧ x.small ∧ Q (.str (joinNl (x.lines.map joinSp))) M
def wordOk (t : Str) : Prop := isWord t = true ∧ t ∉ marks
def sp_take_word (c : Cs) : SpD := fun ds M Q _ => ∃ a L n t ts, ds = [.ref a] ∧ wordOk t ∧ Ln c M a L n (t :: ts) ∧ ∀ M', Ln.next c M a L n ts M' → Q (.str t) M'
def Stop (ts : List Str) : Prop := ts = [] ∨ ∃ t r, ts = t :: r ∧ t ∈ marks
def sp_take_words (c : Cs) : SpD := fun ds M Q _ => ∃ a L n ts, ∃ us : List Str, ds = [.ref a] ∧ (∀ u ∈ us, wordOk u) ∧ Stop ts ∧ Ln c M a L n (us ++ ts) ∧ ∀ M', Ln.next c M a L n ts M' → Q (.tup (us.map .str)) M'
def Atom.rd (a : Atom) : Prop := wordOk a.w ∧ ∀ u ∈ a.ws, wordOk u
def Plain.rd : Plain → Prop
  | .fact n a => (n = "yes" ∨ n = "no") ∧ a.rd
  | .two n a b => (n = "same" ∨ n = "unlike") ∧ wordOk a ∧ wordOk b
def sp_take_atom (c : Cs) : SpD := fun ds M Q _ => ∃ b L n ts, ∃ a : Atom, ds = [.ref b] ∧ a.rd ∧ Stop ts ∧ Ln c M b L n (a.w :: a.ws ++ ts) ∧ ∀ M', Ln.next c M b L n ts M' → Q a.d M'
def four : List Str := ["yes", "no", "same", "unlike"]
def sp_take_plain (c : Cs) : SpD := fun ds M Q _ => ∃ b L n ts, ∃ p : Plain, ds = [.ref b, .tup (four.map .str)] ∧ p.rd ∧ Stop ts ∧ Ln c M b L n (p.toks ++ ts) ∧ ∀ M', Ln.next c M b L n ts M' → Q p.d M'
def sp_take_row_of_plain (c : Cs) : SpD := fun ds M Q _ => ∃ b L n mark, ∃ p : Plain, ∃ ps : List Plain, ds = [.ref b, .tup (four.map .str), .str mark] ∧ mark ∈ marks ∧ (∀ q ∈ p :: ps, q.rd) ∧ Ln c M b L n (rowToks mark (p :: ps)) ∧ ∀ M', Ln.next c M b L n [] M' → Q (.tup ((p :: ps).map Plain.d)) M'
def Cond.rd : Cond → Prop
  | .one p => p.rd
  | .either ps => ps ≠ [] ∧ ∀ p ∈ ps, p.rd
def sp_take_condition (c : Cs) : SpD := fun ds M Q _ => ∃ b L n, ∃ k : Cond, ds = [.ref b, .tup (four.map .str)] ∧ k.rd ∧ Ln c M b L n k.toks ∧ ∀ M', Ln.next c M b L n [] M' → Q k.d M'
def sp_take_effect (c : Cs) : SpD := fun ds M Q _ => ∃ b L n, ∃ e : Eff, ds = [.ref b, .str e.n] ∧ e.a.rd ∧ (∀ p ∈ e.when_, p.rd) ∧ Ln c M b L n e.toks.tail ∧ ∀ M', Ln.next c M b L n [] M' → Q e.d M'
def numOk (i : Int) : Prop := 0 ≤ i ∧ (toString i : Str).length ≤ 640
def sp_take_number (c : Cs) : SpD := fun ds M Q _ => ∃ b L n i, ds = [.ref b] ∧ numOk i ∧ Ln c M b L n [(toString i : Str)] ∧ ∀ M', Ln.next c M b L n [] M' → Q (.int i) M'
def sp_is_digits (c : Cs) : SpD := fun ds M Q _ => ∃ i : Int, ds = [.str (toString i)] ∧ numOk i ∧ Q (.bl true) M
def Cost.rd : Cost → Prop
  | .num i => numOk i
  | .by_ w ws => wordOk w ∧ ∀ u ∈ ws, wordOk u
def sp_take_cost (c : Cs) : SpD := fun ds M Q _ => ∃ b L n, ∃ k : Cost, ds = [.ref b] ∧ k.rd ∧ Ln c M b L n k.toks.tail ∧ ∀ M', Ln.next c M b L n [] M' → Q k.d M'
def sp_take_variables (c : Cs) : SpD := fun ds M Q _ => ∃ b L n, ∃ vs : List (Str × Str), ds = [.ref b] ∧ (∀ p ∈ vs, wordOk p.1 ∧ wordOk p.2) ∧ Ln c M b L n (vs.flatMap fun p => [p.1, p.2]) ∧ ∀ M', Ln.next c M b L n [] M' → Q (.tupP (vs.map pairD)) M'
structure RSt where
  ks : List (Str × Option Str)
  rs : List (Str × List Str)
  ds : List Deed
  op : Option (Str × List (Str × Str) × List Cond × List Eff)
def RSt.z : RSt := ⟨[], [], [], none⟩
def opD (ac ae : Addr) : Option (Str × List (Str × Str) × List Cond × List Eff) → D
  | none => .non
  | some (w, vs, _, _) => .tup [.str w, .tupP (vs.map pairD), .ref ac, .ref ae]
def rdrF (ak ar ad : Addr) (x : D) : List (Str × D) := [("read_kinds", .ref ak), ("read_relations", .ref ar), ("read_deeds", .ref ad), ("open_deed", x)]
def RdAt (c : Cs) (F : Addr → Prop) (M : Mp) (r : Addr) (st : RSt) : Prop := ∃ ak ar ad ac ae, M r = some (.ins c.DomainReader (rdrF ak ar ad (opD ac ae st.op))) ∧ M ak = some (.lst (st.ks.map kindD)) ∧ M ar = some (.lst (st.rs.map relD)) ∧ M ad = some (.lst (st.ds.map Deed.d)) ∧
  (∀ w vs cs es, st.op = some (w, vs, cs, es) → M ac = some (.lst (cs.map Cond.d)) ∧ M ae = some (.lst (es.map Eff.d)) ∧ F ac ∧ F ae ∧ [r, ak, ar, ad, ac, ae].Nodup) ∧ F r ∧ F ak ∧ F ar ∧ F ad ∧ [r, ak, ar, ad].Nodup ∧ ∀ b, F b → M b ≠ none
inductive Step : RSt → List Str → RSt → Prop where
  | kind {ks : List (Str × Option Str)} {k : Str × Option Str} (h1 : wordOk k.1) (h2 : ∀ a, k.2 = some a → wordOk a) : Step ⟨ks, [], [], none⟩ (kindLine k) ⟨ks ++ [k], [], [], none⟩
  | rel {ks : List (Str × Option Str)} {rs : List (Str × List Str)} {r : Str × List Str} (h1 : wordOk r.1) (h2 : ∀ u ∈ r.2, wordOk u) : Step ⟨ks, rs, [], none⟩ (relLine r) ⟨ks, rs ++ [r], [], none⟩
  | deed {ks : List (Str × Option Str)} {rs : List (Str × List Str)} {ds : List Deed} {w : Str} {vs : List (Str × Str)} (h1 : wordOk w) (h2 : ∀ p ∈ vs, wordOk p.1 ∧ wordOk p.2) : Step ⟨ks, rs, ds, none⟩ (("deed" : Str) :: w :: vs.flatMap fun p => [p.1, p.2]) ⟨ks, rs, ds, some (w, vs, [], [])⟩
  | cond {ks : List (Str × Option Str)} {rs : List (Str × List Str)} {ds : List Deed} {w : Str} {vs : List (Str × Str)} {cs : List Cond} {k : Cond} (h : k.rd) : Step ⟨ks, rs, ds, some (w, vs, cs, [])⟩ (("if" : Str) :: k.toks) ⟨ks, rs, ds, some (w, vs, cs ++ [k], [])⟩
  | eff {ks : List (Str × Option Str)} {rs : List (Str × List Str)} {ds : List Deed} {w : Str} {vs : List (Str × Str)} {cs : List Cond} {es : List Eff} {e : Eff} (h1 : e.n = "comes" ∨ e.n = "goes") (h2 : e.a.rd) (h3 : ∀ p ∈ e.when_, p.rd) : Step ⟨ks, rs, ds, some (w, vs, cs, es)⟩ e.toks ⟨ks, rs, ds, some (w, vs, cs, es ++ [e])⟩
  | cost {ks : List (Str × Option Str)} {rs : List (Str × List Str)} {ds : List Deed} {w : Str} {vs : List (Str × Str)} {cs : List Cond} {es : List Eff} {k : Cost} (h : k.rd) : Step ⟨ks, rs, ds, some (w, vs, cs, es)⟩ k.toks ⟨ks, rs, ds ++ [⟨w, vs, cs, es, k⟩], none⟩
def RSt.small (st : RSt) : Prop := st.ks.length ≤ 1000 ∧ st.rs.length ≤ 1000 ∧ st.ds.length ≤ 1000 ∧ ∀ w vs cs es, st.op = some (w, vs, cs, es) → vs.length ≤ 1000 ∧ cs.length ≤ 1000 ∧ es.length ≤ 1000
def known (st : RSt) : List Str := match st.op with
  | some (_, _, _, es) => if es.isEmpty then ["if", "comes", "goes", "cost"] else ["comes", "goes", "cost"]
  | none => if st.ds.isEmpty then (if st.rs.isEmpty then ["kind", "relation", "deed"] else ["relation", "deed"]) else ["deed"]
def sp_DomainReader_init (c : Cs) : SpD := fun ds M Q _ => ∃ r, ds = [.ref r] ∧ M r = some (.ins c.DomainReader []) ∧ ∀ M' F, RdAt c F M' r .z → (∀ b, F b → b = r ∨ M b = none) → (∀ b, b ≠ r → M b ≠ none → M' b = M b) → Q .non M'
def sp_DomainReader_known_words (c : Cs) : SpD := fun ds M Q _ => ∃ r F st, ds = [.ref r] ∧ RdAt c F M r st ∧ st.small ∧ Q (.tup ((known st).map .str)) M
def sp_DomainReader_read_line (c : Cs) : SpD := fun ds M Q _ => ∃ r a F st st' L n ts, ds = [.ref r, .ref a] ∧ RdAt c F M r st ∧ ¬ F a ∧ Step st ts st' ∧ st.small ∧ Ln c M a L n ts ∧
  ∀ M' F', RdAt c F' M' r st' → (∀ b, F' b → F b ∨ M b = none) → (∀ b, ¬ F b → b ≠ a → M b ≠ none → M' b = M b) → Q .non M'
def sp_DomainReader_told_domain (c : Cs) : SpD := fun ds M Q _ => ∃ r z F, ∃ x : Dom, ds = [.ref r, .str z] ∧ RdAt c F M r ⟨x.ks, x.rs, x.ds, none⟩ ∧ x.small ∧ x.ok ∧ Q x.d M
structure Deed.rd (x : Deed) : Prop where
  w : wordOk x.w
  vs : ∀ p ∈ x.vs, wordOk p.1 ∧ wordOk p.2
  cs : ∀ k ∈ x.cs, k.rd
  es : ∀ e ∈ x.es, (e.n = "comes" ∨ e.n = "goes") ∧ e.a.rd ∧ ∀ p ∈ e.when_, p.rd
  c : x.c.rd
structure Dom.rd (x : Dom) : Prop where
  ks : ∀ k ∈ x.ks, wordOk k.1 ∧ ∀ a, k.2 = some a → wordOk a
  rs : ∀ r ∈ x.rs, wordOk r.1 ∧ ∀ u ∈ r.2, wordOk u
  ds : ∀ d ∈ x.ds, d.rd
def sp_read_domain (c : Cs) : SpD := fun ds M Q _ => ∃ z, ∃ x : Dom, ds = [.str z] ∧ x.small ∧ x.ok ∧ x.rd ∧ Rows z x.lines ∧ Q x.d M
def Dr (M : Mp) (a : Addr) : Prop := ∃ ns : List Int, M a = some (.lst (ns.map .int)) ∧ ns.length ≤ 1000
def Dr.next (M : Mp) (a : Addr) (M' : Mp) : Prop := Dr M' a ∧ ∀ b, b ≠ a → M' b = M b
def sp__law_draws (c : Cs) : SpD := fun ds M Q _ => ∃ ns : List Int, ds = [.scr ns, .int 900] ∧ ns.length ≤ 63 ∧ ∀ p M', M p = none → Dr M' p → (∀ b, b ≠ p → M' b = M b) → Q (.ref p) M'
def sp__law_take (c : Cs) : SpD := fun ds M Q _ => ∃ a, ∃ m : Int, ds = [.ref a, .int m] ∧ 0 < m ∧ Dr M a ∧ ∀ M' i, 0 ≤ i → i < m → Dr.next M a M' → Q (.int i) M'
def RowAt (M : Mp) (a : Addr) (row : D) (xs : List D) : Prop := (∀ M', (∀ b, b ≠ a → M' b = M b) → seqM M' row = some xs) ∧ 0 < xs.length ∧ xs.length ≤ 1000
def sp__law_pick (c : Cs) : SpD := fun ds M Q _ => ∃ a row xs, ds = [.ref a, row] ∧ Dr M a ∧ RowAt M a row xs ∧ ∀ M' x, x ∈ xs → Dr.next M a M' → Q x M'
inductive Eqv : Nat → D → D → Prop where
  | non {n : Nat} : Eqv n .non .non
  | int {n : Nat} (i : Int) : Eqv n (.int i) (.int i)
  | str {n : Nat} (x : Str) : Eqv n (.str x) (.str x)
  | seq {n : Nat} {x y : D} {xs ys : List D} (hx : isTupD x = true) (hy : isTupD y = true) (ex : ∀ M, seqM M x = some xs) (ey : ∀ M, seqM M y = some ys) (hl : xs.length = ys.length) (small : xs.length ≤ 1000) (h : ∀ (i : Nat) (a b : D), xs[i]? = some a → ys[i]? = some b → Eqv n a b) : Eqv (n + 1) x y
def sp__law_sameN (n : Nat) (c : Cs) : SpD := fun ds M Q _ => ∃ x y, ds = [x, y] ∧ Eqv n x y ∧ Q (.bl true) M
def sp__law_same (c : Cs) : SpD := sp__law_sameN 20 c
def shortW (z : Str) : Prop := z.length ≤ 64
def sp__law_plain_words (c : Cs) : SpD := fun ds M Q _ => ∃ a, ds = [.ref a, .int 27] ∧ Dr M a ∧ ∀ M', ∀ ws : List Str, ws.length = 27 → ws.Nodup → (∀ w ∈ ws, wordOk w ∧ shortW w) → Dr.next M a M' → Q (.lst (ws.map .str)) M'
def KsAt (M : Mp) (a : Addr) (kd : D) (ks : List (Str × Option Str)) : Prop := ∃ b, kd = .ref b ∧ b ≠ a ∧ M b = some (.lst (ks.map kindD)) ∧ ks.length ≤ 6 ∧ 0 < ks.length ∧ kindFault [] 0 ks = none
def RsAt (M : Mp) (a : Addr) (rd : D) (rs : List (Str × List Str)) : Prop := ∃ b, rd = .ref b ∧ b ≠ a ∧ M b = some (.lst (rs.map relD)) ∧ 2 ≤ rs.length ∧ rs.length ≤ 8 ∧ (∀ r ∈ rs, r.2.length ≤ 3) ∧ (rs.map (·.1)).Nodup ∧ ∃ w, rs[1]? = some (w, [])
def sp__law_is_beneath (c : Cs) : SpD := fun ds M Q _ => ∃ a kd ks k p, ds = [kd, .str k, .str p] ∧ KsAt M a kd ks ∧ k ∈ ks.map (·.1) ∧ ∀ b : Bool, (b = true → ∃ l, (kAbove [] ks).lookup k = some l ∧ p ∈ l) → Q (.bl b) M
def AtomIn (ks : List (Str × Option Str)) (rs : List (Str × List Str)) (vs : List (Str × Str)) (a : Atom) : Prop := (∃ ps, rs.lookup a.w = some ps ∧ ps.length = a.ws.length ∧ ∀ q ∈ a.ws.zip ps, fits (kAbove [] ks) vs q.1 q.2) ∧ a.ws.length ≤ 3 ∧ ∀ w ∈ a.ws, w ∈ vs.map (·.1)
def PlainIn (ks : List (Str × Option Str)) (rs : List (Str × List Str)) (vs : List (Str × Str)) : Plain → Prop
  | .fact n a => (n = "yes" ∨ n = "no") ∧ AtomIn ks rs vs a
  | .two n a b => (n = "same" ∨ n = "unlike") ∧ a ∈ vs.map (·.1) ∧ b ∈ vs.map (·.1)
def VsOk (ks : List (Str × Option Str)) (vs : List (Str × Str)) : Prop := vs.length ≤ 4 ∧ (vs.map (·.1)).Nodup ∧ ∀ p ∈ vs, p.2 ∈ ks.map (·.1)
def sp__law_drawn_atom (c : Cs) : SpD := fun ds M Q _ => ∃ a kd rd ks rs vs, ds = [.ref a, kd, rd, .tupP (vs.map pairD)] ∧ Dr M a ∧ KsAt M a kd ks ∧ RsAt M a rd rs ∧ VsOk ks vs ∧ ∀ M' x, AtomIn ks rs vs x → Dr.next M a M' → Q x.d M'
def sp__law_drawn_plain (c : Cs) : SpD := fun ds M Q _ => ∃ a kd rd ks rs vs, ds = [.ref a, kd, rd, .tupP (vs.map pairD)] ∧ Dr M a ∧ KsAt M a kd ks ∧ RsAt M a rd rs ∧ VsOk ks vs ∧ ∀ M' x, PlainIn ks rs vs x → Dr.next M a M' → Q x.d M'
def sp__law_plain_tokens (c : Cs) : SpD := fun ds M Q _ => ∃ p : Plain, ds = [p.d] ∧ p.ok ∧ p.toks.length ≤ 100000 ∧ Q (.lst (p.toks.map .str)) M
def sp__law_joined_tokens (c : Cs) : SpD := fun ds M Q _ => ∃ (ps : List Plain) (w : Str), ds = [.tup (ps.map Plain.d), .str w] ∧ (∀ p ∈ ps, p.ok) ∧ (rowToks w ps).length ≤ 100000 ∧ Q (.lst ((rowToks w ps).map .str)) M
def sp__law_condition_tokens (c : Cs) : SpD := fun ds M Q _ => ∃ k : Cond, ds = [k.d] ∧ k.ok ∧ k.toks.length ≤ 100000 ∧ Q (.lst (k.toks.map .str)) M
def rowD (l : List Str) : D := .lst (l.map .str)
def sp__law_domain_lines (c : Cs) : SpD := fun ds M Q _ => ∃ x : Dom, ds = [x.d] ∧ x.small ∧ Q (.lst (x.lines.map rowD)) M
def sp__law_text (c : Cs) : SpD := fun ds M Q _ => ∃ ls : List (List Str), ds = [.lst (ls.map rowD)] ∧ ls.length ≤ 10000 ∧ (∀ l ∈ ls, wt l ≤ 100000) ∧ (ls.map wt).sum ≤ 1000000 ∧ Q (.str (joinNl (ls.map joinSp))) M
def tokOk (t : Str) : Prop := t.cps.toList ≠ [] ∧ 32 ∉ t.cps.toList ∧ 10 ∉ t.cps.toList
def sp__law_spread (c : Cs) : SpD := fun ds M Q _ => ∃ a, ∃ ls : List (List Str), ds = [.ref a, .lst (ls.map rowD)] ∧ Dr M a ∧ ls.length ≤ 10000 ∧ (∀ l ∈ ls, wt l ≤ 100000 ∧ l ≠ [] ∧ ∀ t ∈ l, tokOk t) ∧ (ls.map wt).sum ≤ 1000000 ∧ ∀ M' z r, Rows z ls → Dr.next M a M' → Q (.lst (.str z :: r)) M'
def WordsOk (ws : List Str) : Prop := ws.length = 27 ∧ (∀ w ∈ ws, wordOk w ∧ shortW w) ∧ (ws.take 6).Nodup ∧ ((ws.drop 6).take 8).Nodup ∧ ((ws.drop 14).take 3).Nodup ∧ ((ws.drop 22).take 4).Nodup
def DeedIn (ks : List (Str × Option Str)) (rs : List (Str × List Str)) (ws : List Str) (x : Deed) : Prop := VsOk ks x.vs ∧ x.vs.map (·.1) = (ws.drop 22).take x.vs.length ∧ x.cs.length ≤ 3 ∧ (∀ k ∈ x.cs, (∃ p, k = .one p ∧ PlainIn ks rs x.vs p) ∨ ∃ ps, k = .either ps ∧ ps ≠ [] ∧ ps.length ≤ 3 ∧ ∀ p ∈ ps, PlainIn ks rs x.vs p) ∧
  x.es.length ≤ 3 ∧ (∀ e ∈ x.es, (e.n = "comes" ∨ e.n = "goes") ∧ AtomIn ks rs x.vs e.a ∧ e.when_.length ≤ 3 ∧ ∀ p ∈ e.when_, PlainIn ks rs x.vs p) ∧ ((∃ i, x.c = .num i ∧ (i = 0 ∨ i = 1 ∨ i = 30 ∨ i = 10 ^ 59 + 7)) ∨ ∃ w us, x.c = .by_ w us ∧ ws[26]? = some w ∧ us.length ≤ 4 ∧ ∀ u ∈ us, u ∈ x.vs.map (·.1))
def sp__law_wide_deed (c : Cs) : SpD := fun ds M Q _ => ∃ a kd rd ks rs w, ∃ ws : List Str, ds = [.ref a, .lst (ws.map .str), kd, rd, .str w] ∧ Dr M a ∧ KsAt M a kd ks ∧ RsAt M a rd rs ∧ WordsOk ws ∧ ∀ M' x, x.w = w → DeedIn ks rs ws x → Dr.next M a M' → Q x.d M'
def Drawn (x : Dom) : Prop := x.small ∧ x.ok ∧ x.rd ∧ x.ds.length ≤ 3 ∧ Eqv 20 x.d x.d
def sp__law_wide_domain (c : Cs) : SpD := fun ds M Q _ => ∃ a, ∃ ws : List Str, ds = [.ref a, .lst (ws.map .str)] ∧ Dr M a ∧ WordsOk ws ∧ ∀ M' x, Drawn x → Dr.next M a M' → Q x.d M'
def sp_law (c : Cs) : SpD := fun ds M Q _ => ∃ ns : List Int, ds = [.scr ns] ∧ ns.length ≤ 63 ∧ Q (.bl true) M
end Ht
set_option Elab.async false
set_option linter.all false
set_option maxRecDepth 100000
set_option maxHeartbeats 4000000
namespace Ht
open PySem PySem.Spec PyProof.Rows L2
abbrev top (i : Nat) : Stmt := PySem.Challenge.pw_planbyworths_k80_domains_written_and_rea.main.body.getD i (.Pass ⟨0, 0, 0, 0⟩)
def inner (st : Stmt) (i : Nat) : Stmt := match st with
  | .ClassDef (body := body) .. => body.getD i (.Pass ⟨0, 0, 0, 0⟩)
  | st => st
abbrev s_is_word : Stmt := top 2
abbrev N_is_word : List Str := ["part", "letter"]
theorem sc_is_word : FnScope N_is_word ["part"] (defScope s_is_word) := ⟨rfl, rfl, rfl, by decide +kernel, rfl, by decide +kernel, by decide +kernel⟩
abbrev s_kinds_above : Stmt := top 8
abbrev N_kinds_above : List Str := ["kinds", "told", "word", "above"]
theorem sc_kinds_above : FnScope N_kinds_above ["kinds"] (defScope s_kinds_above) := ⟨rfl, rfl, rfl, by decide +kernel, rfl, by decide +kernel, by decide +kernel⟩
abbrev s_kind_fault : Stmt := top 9
abbrev N_kind_fault : List Str := ["kinds", "ahead", "index", "word", "above"]
theorem sc_kind_fault : FnScope N_kind_fault ["kinds"] (defScope s_kind_fault) := ⟨rfl, rfl, rfl, by decide +kernel, rfl, by decide +kernel, by decide +kernel⟩
abbrev s_relation_fault : Stmt := top 10
abbrev N_relation_fault : List Str := ["domain", "known", "ahead", "index", "word", "places", "place"]
theorem sc_relation_fault : FnScope N_relation_fault ["domain"] (defScope s_relation_fault) := ⟨rfl, rfl, rfl, by decide +kernel, rfl, by decide +kernel, by decide +kernel⟩
abbrev s_deed_fault : Stmt := top 11
abbrev N_deed_fault : List Str := ["domain", "known", "ahead", "index", "word", "variables", "_", "words", "variable", "kind"]
theorem sc_deed_fault : FnScope N_deed_fault ["domain"] (defScope s_deed_fault) := ⟨rfl, rfl, rfl, by decide +kernel, rfl, by decide +kernel, by decide +kernel⟩
abbrev s_plain_of_condition : Stmt := top 12
abbrev N_plain_of_condition : List Str := ["condition"]
theorem sc_plain_of_condition : FnScope N_plain_of_condition ["condition"] (defScope s_plain_of_condition) := ⟨rfl, rfl, rfl, by decide +kernel, rfl, by decide +kernel, by decide +kernel⟩
abbrev s_plain_of_deed : Stmt := top 13
abbrev N_plain_of_deed : List Str := ["deed", "told", "_", "when", "condition", "plain"]
theorem sc_plain_of_deed : FnScope N_plain_of_deed ["deed"] (defScope s_plain_of_deed) := ⟨rfl, rfl, rfl, by decide +kernel, rfl, by decide +kernel, by decide +kernel⟩
abbrev s_atoms_of_deed : Stmt := top 14
abbrev N_atoms_of_deed : List Str := ["deed", "told", "plain", "effect"]
theorem sc_atoms_of_deed : FnScope N_atoms_of_deed ["deed"] (defScope s_atoms_of_deed) := ⟨rfl, rfl, rfl, by decide +kernel, rfl, by decide +kernel, by decide +kernel⟩
abbrev s_is_right_atom : Stmt := top 15
abbrev N_is_right_atom : List Str := ["domain", "deed", "atom", "places", "variables", "known", "word", "place"]
theorem sc_is_right_atom : FnScope N_is_right_atom ["domain", "deed", "atom"] (defScope s_is_right_atom) := ⟨rfl, rfl, rfl, by decide +kernel, rfl, by decide +kernel, by decide +kernel⟩
abbrev s_has_atom_fault : Stmt := top 16
abbrev N_has_atom_fault : List Str := ["domain", "deed", "variables", "words", "atom", "plain", "word"]
theorem sc_has_atom_fault : FnScope N_has_atom_fault ["domain", "deed"] (defScope s_has_atom_fault) := ⟨rfl, rfl, rfl, by decide +kernel, rfl, by decide +kernel, by decide +kernel⟩
abbrev s_has_cost_fault : Stmt := top 17
abbrev N_has_cost_fault : List Str := ["deed", "variables", "word"]
theorem sc_has_cost_fault : FnScope N_has_cost_fault ["deed"] (defScope s_has_cost_fault) := ⟨rfl, rfl, rfl, by decide +kernel, rfl, by decide +kernel, by decide +kernel⟩
abbrev s_first_index : Stmt := top 18
abbrev N_first_index : List Str := ["flags"]
theorem sc_first_index : FnScope N_first_index ["flags"] (defScope s_first_index) := ⟨rfl, rfl, rfl, by decide +kernel, rfl, by decide +kernel, by decide +kernel⟩
abbrev s_check_domain : Stmt := top 19
abbrev N_check_domain : List Str := ["domain", "fault", "index"]
theorem sc_check_domain : FnScope N_check_domain ["domain"] (defScope s_check_domain) := ⟨rfl, rfl, rfl, by decide +kernel, rfl, by decide +kernel, by decide +kernel⟩
abbrev s_first_fault : Stmt := top 20
abbrev N_first_fault : List Str := ["domain", "fault", "deed"]
theorem sc_first_fault : FnScope N_first_fault ["domain", "fault"] (defScope s_first_fault) := ⟨rfl, rfl, rfl, by decide +kernel, rfl, by decide +kernel, by decide +kernel⟩
abbrev s_TextLine_init : Stmt := inner (top 22) 0
abbrev N_TextLine_init : List Str := ["self", "number", "text"]
theorem sc_TextLine_init : FnScope N_TextLine_init ["self", "number", "text"] (defScope s_TextLine_init) := ⟨rfl, rfl, rfl, by decide +kernel, rfl, by decide +kernel, by decide +kernel⟩
abbrev s_TextLine_skip_spaces : Stmt := inner (top 22) 1
abbrev N_TextLine_skip_spaces : List Str := ["self"]
theorem sc_TextLine_skip_spaces : FnScope N_TextLine_skip_spaces ["self"] (defScope s_TextLine_skip_spaces) := ⟨rfl, rfl, rfl, by decide +kernel, rfl, by decide +kernel, by decide +kernel⟩
abbrev s_TextLine_is_over : Stmt := inner (top 22) 2
abbrev N_TextLine_is_over : List Str := ["self"]
theorem sc_TextLine_is_over : FnScope N_TextLine_is_over ["self"] (defScope s_TextLine_is_over) := ⟨rfl, rfl, rfl, by decide +kernel, rfl, by decide +kernel, by decide +kernel⟩
abbrev s_TextLine_next_token : Stmt := inner (top 22) 3
abbrev N_TextLine_next_token : List Str := ["self", "end"]
theorem sc_TextLine_next_token : FnScope N_TextLine_next_token ["self"] (defScope s_TextLine_next_token) := ⟨rfl, rfl, rfl, by decide +kernel, rfl, by decide +kernel, by decide +kernel⟩
abbrev s_TextLine_take_token : Stmt := inner (top 22) 4
abbrev N_TextLine_take_token : List Str := ["self", "token"]
theorem sc_TextLine_take_token : FnScope N_TextLine_take_token ["self"] (defScope s_TextLine_take_token) := ⟨rfl, rfl, rfl, by decide +kernel, rfl, by decide +kernel, by decide +kernel⟩
abbrev s_TextLine_refuse_last : Stmt := inner (top 22) 5
abbrev N_TextLine_refuse_last : List Str := ["self"]
theorem sc_TextLine_refuse_last : FnScope N_TextLine_refuse_last ["self"] (defScope s_TextLine_refuse_last) := ⟨rfl, rfl, rfl, by decide +kernel, rfl, by decide +kernel, by decide +kernel⟩
abbrev s_TextLine_take_one_of : Stmt := inner (top 22) 6
abbrev N_TextLine_take_one_of : List Str := ["self", "known", "token"]
theorem sc_TextLine_take_one_of : FnScope N_TextLine_take_one_of ["self", "known"] (defScope s_TextLine_take_one_of) := ⟨rfl, rfl, rfl, by decide +kernel, rfl, by decide +kernel, by decide +kernel⟩
abbrev s_TextLine_take_end : Stmt := inner (top 22) 7
abbrev N_TextLine_take_end : List Str := ["self"]
theorem sc_TextLine_take_end : FnScope N_TextLine_take_end ["self"] (defScope s_TextLine_take_end) := ⟨rfl, rfl, rfl, by decide +kernel, rfl, by decide +kernel, by decide +kernel⟩
abbrev s_text_lines : Stmt := top 23
abbrev N_text_lines : List Str := ["text", "lines", "number", "line"]
theorem sc_text_lines : FnScope N_text_lines ["text"] (defScope s_text_lines) := ⟨rfl, rfl, rfl, by decide +kernel, rfl, by decide +kernel, by decide +kernel⟩
abbrev s_line_count : Stmt := top 24
abbrev N_line_count : List Str := ["text"]
theorem sc_line_count : FnScope N_line_count ["text"] (defScope s_line_count) := ⟨rfl, rfl, rfl, by decide +kernel, rfl, by decide +kernel, by decide +kernel⟩
abbrev s_write_plain : Stmt := top 27
abbrev N_write_plain : List Str := ["plain"]
theorem sc_write_plain : FnScope N_write_plain ["plain"] (defScope s_write_plain) := ⟨rfl, rfl, rfl, by decide +kernel, rfl, by decide +kernel, by decide +kernel⟩
abbrev s_write_condition : Stmt := top 28
abbrev N_write_condition : List Str := ["condition", "plain"]
theorem sc_write_condition : FnScope N_write_condition ["condition"] (defScope s_write_condition) := ⟨rfl, rfl, rfl, by decide +kernel, rfl, by decide +kernel, by decide +kernel⟩
abbrev s_write_effect : Stmt := top 29
abbrev N_write_effect : List Str := ["effect", "told", "plain"]
theorem sc_write_effect : FnScope N_write_effect ["effect"] (defScope s_write_effect) := ⟨rfl, rfl, rfl, by decide +kernel, rfl, by decide +kernel, by decide +kernel⟩
abbrev s_deed_lines : Stmt := top 30
abbrev N_deed_lines : List Str := ["deed", "word", "variables", "conditions", "effects", "cost", "told", "pair", "part", "condition", "effect"]
theorem sc_deed_lines : FnScope N_deed_lines ["deed"] (defScope s_deed_lines) := ⟨rfl, rfl, rfl, by decide +kernel, rfl, by decide +kernel, by decide +kernel⟩
abbrev s_write_domain : Stmt := top 31
abbrev N_write_domain : List Str := ["domain", "lines", "deed", "word", "above", "places"]
theorem sc_write_domain : FnScope N_write_domain ["domain"] (defScope s_write_domain) := ⟨rfl, rfl, rfl, by decide +kernel, rfl, by decide +kernel, by decide +kernel⟩
abbrev s_take_word : Stmt := top 32
abbrev N_take_word : List Str := ["line", "token"]
theorem sc_take_word : FnScope N_take_word ["line"] (defScope s_take_word) := ⟨rfl, rfl, rfl, by decide +kernel, rfl, by decide +kernel, by decide +kernel⟩
abbrev s_take_words : Stmt := top 33
abbrev N_take_words : List Str := ["line", "told"]
theorem sc_take_words : FnScope N_take_words ["line"] (defScope s_take_words) := ⟨rfl, rfl, rfl, by decide +kernel, rfl, by decide +kernel, by decide +kernel⟩
abbrev s_take_atom : Stmt := top 34
abbrev N_take_atom : List Str := ["line", "word"]
theorem sc_take_atom : FnScope N_take_atom ["line"] (defScope s_take_atom) := ⟨rfl, rfl, rfl, by decide +kernel, rfl, by decide +kernel, by decide +kernel⟩
abbrev s_take_plain : Stmt := top 35
abbrev N_take_plain : List Str := ["line", "names", "name", "first"]
theorem sc_take_plain : FnScope N_take_plain ["line", "names"] (defScope s_take_plain) := ⟨rfl, rfl, rfl, by decide +kernel, rfl, by decide +kernel, by decide +kernel⟩
abbrev s_take_row_of_plain : Stmt := top 36
abbrev N_take_row_of_plain : List Str := ["line", "names", "mark", "told"]
theorem sc_take_row_of_plain : FnScope N_take_row_of_plain ["line", "names", "mark"] (defScope s_take_row_of_plain) := ⟨rfl, rfl, rfl, by decide +kernel, rfl, by decide +kernel, by decide +kernel⟩
abbrev s_take_condition : Stmt := top 37
abbrev N_take_condition : List Str := ["line", "names"]
theorem sc_take_condition : FnScope N_take_condition ["line", "names"] (defScope s_take_condition) := ⟨rfl, rfl, rfl, by decide +kernel, rfl, by decide +kernel, by decide +kernel⟩
abbrev s_take_effect : Stmt := top 38
abbrev N_take_effect : List Str := ["line", "name", "atom"]
theorem sc_take_effect : FnScope N_take_effect ["line", "name"] (defScope s_take_effect) := ⟨rfl, rfl, rfl, by decide +kernel, rfl, by decide +kernel, by decide +kernel⟩
abbrev s_take_number : Stmt := top 39
abbrev N_take_number : List Str := ["line", "token"]
theorem sc_take_number : FnScope N_take_number ["line"] (defScope s_take_number) := ⟨rfl, rfl, rfl, by decide +kernel, rfl, by decide +kernel, by decide +kernel⟩
abbrev s_is_digits : Stmt := top 40
abbrev N_is_digits : List Str := ["token", "sign"]
theorem sc_is_digits : FnScope N_is_digits ["token"] (defScope s_is_digits) := ⟨rfl, rfl, rfl, by decide +kernel, rfl, by decide +kernel, by decide +kernel⟩
abbrev s_take_cost : Stmt := top 41
abbrev N_take_cost : List Str := ["line"]
theorem sc_take_cost : FnScope N_take_cost ["line"] (defScope s_take_cost) := ⟨rfl, rfl, rfl, by decide +kernel, rfl, by decide +kernel, by decide +kernel⟩
abbrev s_take_variables : Stmt := top 42
abbrev N_take_variables : List Str := ["line", "told", "word"]
theorem sc_take_variables : FnScope N_take_variables ["line"] (defScope s_take_variables) := ⟨rfl, rfl, rfl, by decide +kernel, rfl, by decide +kernel, by decide +kernel⟩
abbrev s_DomainReader_init : Stmt := inner (top 43) 0
abbrev N_DomainReader_init : List Str := ["self"]
theorem sc_DomainReader_init : FnScope N_DomainReader_init ["self"] (defScope s_DomainReader_init) := ⟨rfl, rfl, rfl, by decide +kernel, rfl, by decide +kernel, by decide +kernel⟩
abbrev s_DomainReader_known_words : Stmt := inner (top 43) 1
abbrev N_DomainReader_known_words : List Str := ["self"]
theorem sc_DomainReader_known_words : FnScope N_DomainReader_known_words ["self"] (defScope s_DomainReader_known_words) := ⟨rfl, rfl, rfl, by decide +kernel, rfl, by decide +kernel, by decide +kernel⟩
abbrev s_DomainReader_read_line : Stmt := inner (top 43) 2
abbrev N_DomainReader_read_line : List Str := ["self", "line", "word", "kind", "name", "variables", "conditions", "effects"]
theorem sc_DomainReader_read_line : FnScope N_DomainReader_read_line ["self", "line"] (defScope s_DomainReader_read_line) := ⟨rfl, rfl, rfl, by decide +kernel, rfl, by decide +kernel, by decide +kernel⟩
abbrev s_DomainReader_told_domain : Stmt := inner (top 43) 3
abbrev N_DomainReader_told_domain : List Str := ["self", "text", "domain"]
theorem sc_DomainReader_told_domain : FnScope N_DomainReader_told_domain ["self", "text"] (defScope s_DomainReader_told_domain) := ⟨rfl, rfl, rfl, by decide +kernel, rfl, by decide +kernel, by decide +kernel⟩
abbrev s_read_domain : Stmt := top 44
abbrev N_read_domain : List Str := ["text", "reader", "line"]
theorem sc_read_domain : FnScope N_read_domain ["text"] (defScope s_read_domain) := ⟨rfl, rfl, rfl, by decide +kernel, rfl, by decide +kernel, by decide +kernel⟩
abbrev s__law_draws : Stmt := top 46
abbrev N__law_draws : List Str := ["script", "many", "cells", "left", "draws", "k", "place", "mixed", "cell"]
theorem sc__law_draws : FnScope N__law_draws ["script", "many"] (defScope s__law_draws) := ⟨rfl, rfl, rfl, by decide +kernel, rfl, by decide +kernel, by decide +kernel⟩
abbrev s__law_take : Stmt := top 47
abbrev N__law_take : List Str := ["draws", "many"]
theorem sc__law_take : FnScope N__law_take ["draws", "many"] (defScope s__law_take) := ⟨rfl, rfl, rfl, by decide +kernel, rfl, by decide +kernel, by decide +kernel⟩
abbrev s__law_pick : Stmt := top 48
abbrev N__law_pick : List Str := ["draws", "row"]
theorem sc__law_pick : FnScope N__law_pick ["draws", "row"] (defScope s__law_pick) := ⟨rfl, rfl, rfl, by decide +kernel, rfl, by decide +kernel, by decide +kernel⟩
abbrev s__law_same : Stmt := top 49
abbrev N__law_same : List Str := ["actual", "due", "k"]
theorem sc__law_same : FnScope N__law_same ["actual", "due"] (defScope s__law_same) := ⟨rfl, rfl, rfl, by decide +kernel, rfl, by decide +kernel, by decide +kernel⟩
abbrev s__law_plain_words : Stmt := top 50
abbrev N__law_plain_words : List Str := ["draws", "many", "words", "k", "size", "word", "j", "other"]
theorem sc__law_plain_words : FnScope N__law_plain_words ["draws", "many"] (defScope s__law_plain_words) := ⟨rfl, rfl, rfl, by decide +kernel, rfl, by decide +kernel, by decide +kernel⟩
abbrev s__law_is_beneath : Stmt := top 51
abbrev N__law_is_beneath : List Str := ["kinds", "kind", "above", "here", "k"]
theorem sc__law_is_beneath : FnScope N__law_is_beneath ["kinds", "kind", "above"] (defScope s__law_is_beneath) := ⟨rfl, rfl, rfl, by decide +kernel, rfl, by decide +kernel, by decide +kernel⟩
abbrev s__law_drawn_atom : Stmt := top 52
abbrev N__law_drawn_atom : List Str := ["draws", "kinds", "relations", "variables", "relation", "places", "words", "place", "fit", "pair"]
theorem sc__law_drawn_atom : FnScope N__law_drawn_atom ["draws", "kinds", "relations", "variables"] (defScope s__law_drawn_atom) := ⟨rfl, rfl, rfl, by decide +kernel, rfl, by decide +kernel, by decide +kernel⟩
abbrev s__law_drawn_plain : Stmt := top 53
abbrev N__law_drawn_plain : List Str := ["draws", "kinds", "relations", "variables"]
theorem sc__law_drawn_plain : FnScope N__law_drawn_plain ["draws", "kinds", "relations", "variables"] (defScope s__law_drawn_plain) := ⟨rfl, rfl, rfl, by decide +kernel, rfl, by decide +kernel, by decide +kernel⟩
abbrev s__law_plain_tokens : Stmt := top 54
abbrev N__law_plain_tokens : List Str := ["plain"]
theorem sc__law_plain_tokens : FnScope N__law_plain_tokens ["plain"] (defScope s__law_plain_tokens) := ⟨rfl, rfl, rfl, by decide +kernel, rfl, by decide +kernel, by decide +kernel⟩
abbrev s__law_joined_tokens : Stmt := top 55
abbrev N__law_joined_tokens : List Str := ["plains", "word", "told", "plain"]
theorem sc__law_joined_tokens : FnScope N__law_joined_tokens ["plains", "word"] (defScope s__law_joined_tokens) := ⟨rfl, rfl, rfl, by decide +kernel, rfl, by decide +kernel, by decide +kernel⟩
abbrev s__law_condition_tokens : Stmt := top 56
abbrev N__law_condition_tokens : List Str := ["condition"]
theorem sc__law_condition_tokens : FnScope N__law_condition_tokens ["condition"] (defScope s__law_condition_tokens) := ⟨rfl, rfl, rfl, by decide +kernel, rfl, by decide +kernel, by decide +kernel⟩
abbrev s__law_domain_lines : Stmt := top 57
abbrev N__law_domain_lines : List Str := ["domain", "told", "word", "variables", "conditions", "effects", "cost", "row", "pair", "kind", "atom", "when", "more", "condition"]
theorem sc__law_domain_lines : FnScope N__law_domain_lines ["domain"] (defScope s__law_domain_lines) := ⟨rfl, rfl, rfl, by decide +kernel, rfl, by decide +kernel, by decide +kernel⟩
abbrev s__law_text : Stmt := top 58
abbrev N__law_text : List Str := ["lines", "line"]
theorem sc__law_text : FnScope N__law_text ["lines"] (defScope s__law_text) := ⟨rfl, rfl, rfl, by decide +kernel, rfl, by decide +kernel, by decide +kernel⟩
abbrev s__law_spread : Stmt := top 59
abbrev N__law_spread : List Str := ["draws", "lines", "rows", "told", "line", "k", "text", "places", "token"]
theorem sc__law_spread : FnScope N__law_spread ["draws", "lines"] (defScope s__law_spread) := ⟨rfl, rfl, rfl, by decide +kernel, rfl, by decide +kernel, by decide +kernel⟩
abbrev s__law_wide_deed : Stmt := top 60
abbrev N__law_wide_deed : List Str := ["draws", "words", "kinds", "relations", "word", "many", "variables", "asked", "k", "plains", "effects", "when", "atom", "names", "cost", "j", "pair"]
theorem sc__law_wide_deed : FnScope N__law_wide_deed ["draws", "words", "kinds", "relations", "word"] (defScope s__law_wide_deed) := ⟨rfl, rfl, rfl, by decide +kernel, rfl, by decide +kernel, by decide +kernel⟩
abbrev s__law_wide_domain : Stmt := top 61
abbrev N__law_wide_domain : List Str := ["draws", "words", "kinds", "k", "relations", "deeds", "j"]
theorem sc__law_wide_domain : FnScope N__law_wide_domain ["draws", "words"] (defScope s__law_wide_domain) := ⟨rfl, rfl, rfl, by decide +kernel, rfl, by decide +kernel, by decide +kernel⟩
abbrev s_law : Stmt := top 62
abbrev N_law : List Str := ["script", "draws", "words", "domain", "text", "turn", "nothing"]
theorem sc_law : FnScope N_law ["script"] (defScope s_law) := ⟨rfl, rfl, rfl, by decide +kernel, rfl, by decide +kernel, by decide +kernel⟩
def t_is_word (c : Cs) : DS_ := dRet (dAndV (dCB rIsiD (dCons (dVar 0) (dCons (dC (.ty "str")) (dNil)))) (dAndV (dOp rGt (dCB rLen (dCons (dVar 0) (dNil))) (dC (.int 0))) (dCB (rBls fun bs => bs.all id) (dCons (dLc false (dSeqI (dVar 0)) (gName 1) (tYes) (dOp rIn (dVar 1) (dC g_LETTERS)) [1]) (dNil)))))
def t_kinds_above (c : Cs) : DS_ := dSeq (dSet (dNewD true) 1) (dSeq (dFor (dSeqI (dVar 0)) (gTup 2 (gCons (gName 2) (gCons (gName 3) (gNil)))) (dDrop (dSetd (dVar 1) (dVar 2) (dStar false (dVar 2) (dC (.bl true)) (dGet2 (dVar 1) (dVar 3) (dNewD false)))))) (dRet (dVar 1)))
def t_kind_fault (c : Cs) : DS_ := dSeq (dSet (dNewD true) 1) (dSeq (dFor (dEnum (dVar 0)) (gTup 2 (gCons (gName 2) (gCons (gTup 2 (gCons (gName 3) (gCons (gName 4) (gNil)))) (gNil)))) (dSeq (dIfS (dOr (dTest (dOp rIn (dVar 3) (dVar 1))) (dAnd (dTest (dOp rNotN (dVar 4) (dC .non))) (dTest (dOp rNotIn (dVar 4) (dVar 1))))) (dRet (dVar 2)) (dNext)) (dAsg (dC (.bl true)) (gSub (dVar 1) (dVar 3))))) (dRet (dC .non)))
def t_relation_fault (c : Cs) : DS_ := dSeq (dSet (dCall (sp_kinds_above c) (dCons (dOp rIx (dVar 0) (dC (.int 0))) (dNil))) 1) (dSeq (dSet (dNewD true) 2) (dSeq (dFor (dEnum (dOp rIx (dVar 0) (dC (.int 1)))) (gTup 2 (gCons (gName 3) (gCons (gTup 2 (gCons (gName 4) (gCons (gName 5) (gNil)))) (gNil)))) (dSeq (dIfS (dOr (dTest (dOp rIn (dVar 4) (dVar 2))) (dNot (dTest (dCB (rBls fun bs => bs.all id) (dCons (dLc false (dSeqI (dVar 5)) (gName 6) (tYes) (dOp rIn (dVar 6) (dVar 1)) [6]) (dNil)))))) (dRet (dVar 3)) (dNext)) (dAsg (dC (.bl true)) (gSub (dVar 2) (dVar 4))))) (dRet (dC .non))))
def t_deed_fault (c : Cs) : DS_ := dSeq (dSet (dCall (sp_kinds_above c) (dCons (dOp rIx (dVar 0) (dC (.int 0))) (dNil))) 1) (dSeq (dSet (dNewD true) 2) (dSeq (dFor (dEnum (dOp rIx (dVar 0) (dC (.int 2)))) (gTup 2 (gCons (gName 3) (gCons (gTup 5 (gCons (gName 4) (gCons (gName 5) (gCons (gName 6) (gCons (gName 6) (gCons (gName 6) (gNil))))))) (gNil)))) (dSeq (dSet (dDc false (dSeqI (dVar 5)) (gTup 2 (gCons (gName 8) (gCons (gName 6) (gNil)))) (tYes) (dVar 8) (dC (.bl true)) [8, 6]) 7) (dSeq (dIfS (dOr (dTest (dOp rIn (dVar 4) (dVar 2))) (dOr (dTest (dOp rLt (dCB rLen (dCons (dVar 7) (dNil))) (dCB rLen (dCons (dVar 5) (dNil))))) (dNot (dTest (dCB (rBls fun bs => bs.all id) (dCons (dLc false (dSeqI (dVar 5)) (gTup 2 (gCons (gName 6) (gCons (gName 9) (gNil)))) (tYes) (dOp rIn (dVar 9) (dVar 1)) [6, 9]) (dNil))))))) (dRet (dVar 3)) (dNext)) (dAsg (dC (.bl true)) (gSub (dVar 2) (dVar 4)))))) (dRet (dC .non))))
def t_plain_of_condition (c : Cs) : DS_ := dRet (dIf (dTest (dOp rEqS (dOp rIx (dVar 0) (dC (.int 0))) (dC (.str "either")))) (dOp rIx (dVar 0) (dC (.int 1))) (dTup (dCons (dVar 0) (dNil))))
def t_plain_of_deed (c : Cs) : DS_ := dSeq (dSet (dLc2 true (dSeqI (dOp rIx (dVar 0) (dC (.int 2)))) (gName 4) (tYes) (dSeqI (dCall (sp_plain_of_condition c) (dCons (dVar 4) (dNil)))) (gName 5) (tYes) (dVar 5) [4, 5] [5]) 1) (dSeq (dFor (dSeqI (dOp rIx (dVar 0) (dC (.int 3)))) (gTup 3 (gCons (gName 2) (gCons (gName 2) (gCons (gName 3) (gNil))))) (dDrop (dBM "list" rExt (dVar 1) (dCons (dVar 3) dNil)))) (dRet (dVar 1)))
def t_atoms_of_deed (c : Cs) : DS_ := dSeq (dSet (dLc false (dSeqI (dCall (sp_plain_of_deed c) (dCons (dVar 0) (dNil)))) (gName 2) (dTest (dOp rIn (dOp rIx (dVar 2) (dC (.int 0))) (dTup (dCons (dC (.str "yes")) (dCons (dC (.str "no")) (dNil)))))) (dOp rIx (dVar 2) (dC (.int 1))) [2]) 1) (dRet (dOp (rAdd false) (dVar 1) (dLc false (dSeqI (dOp rIx (dVar 0) (dC (.int 3)))) (gName 3) (tYes) (dOp rIx (dVar 3) (dC (.int 1))) [3])))
def t_is_right_atom (c : Cs) : DS_ := dSeq (dSet (dGet1 (dCB (rDict false) (dCons (dOp rIx (dVar 0) (dC (.int 1))) (dNil))) (dOp rIx (dVar 2) (dC (.int 0)))) 3) (dSeq (dIfS (dOr (dTest (dOp rIsN (dVar 3) (dC .non))) (dTest (dOp rNeS (dCB rLen (dCons (dVar 3) (dNil))) (dCB rLen (dCons (dOp rIx (dVar 2) (dC (.int 1))) (dNil)))))) (dRet (dC (.bl false))) (dNext)) (dSeq (dSet (dCB (rDict false) (dCons (dOp rIx (dVar 1) (dC (.int 1))) (dNil))) 4) (dSeq (dSet (dCall (sp_kinds_above c) (dCons (dOp rIx (dVar 0) (dC (.int 0))) (dNil))) 5) (dRet (dCB (rBls fun bs => bs.all id) (dCons (dLc false (dZip (dOp rIx (dVar 2) (dC (.int 1))) (dVar 3)) (gTup 2 (gCons (gName 6) (gCons (gName 7) (gNil)))) (tYes) (dAndV (dOp rIn (dVar 6) (dVar 4)) (dOp rIn (dVar 7) (dOp rIx (dVar 5) (dOp rIx (dVar 4) (dVar 6))))) [6, 7]) (dNil)))))))
def t_has_atom_fault (c : Cs) : DS_ := dSeq (dIfS (dNot (dTest (dCB (rBls fun bs => bs.all id) (dCons (dLc false (dSeqI (dCall (sp_atoms_of_deed c) (dCons (dVar 1) (dNil)))) (gName 4) (tYes) (dCall (sp_is_right_atom c) (dCons (dVar 0) (dCons (dVar 1) (dCons (dVar 4) (dNil))))) [4]) (dNil))))) (dRet (dC (.bl true))) (dNext)) (dSeq (dSet (dCB (rDict false) (dCons (dOp rIx (dVar 1) (dC (.int 1))) (dNil))) 2) (dSeq (dSet (dLc2 false (dSeqI (dCall (sp_plain_of_deed c) (dCons (dVar 1) (dNil)))) (gName 5) (dTest (dOp rIn (dOp rIx (dVar 5) (dC (.int 0))) (dTup (dCons (dC (.str "same")) (dCons (dC (.str "unlike")) (dNil)))))) (dSeqI (dSl false (dVar 5) (dPart (dC (.int 1))) (dNoPart))) (gName 6) (tYes) (dVar 6) [5, 6] [6]) 3) (dRet (dNotV (dCB (rBls fun bs => bs.all id) (dCons (dLc false (dSeqI (dVar 3)) (gName 6) (tYes) (dOp rIn (dVar 6) (dVar 2)) [6]) (dNil)))))))
def t_has_cost_fault (c : Cs) : DS_ := dSeq (dIfS (dTest (dCB rIsiD (dCons (dOp rIx (dVar 0) (dC (.int 4))) (dCons (dC (.ty "int")) (dNil))))) (dRet (dOp rLt (dOp rIx (dVar 0) (dC (.int 4))) (dC (.int 0)))) (dNext)) (dSeq (dSet (dCB (rDict false) (dCons (dOp rIx (dVar 0) (dC (.int 1))) (dNil))) 1) (dRet (dNotV (dCB (rBls fun bs => bs.all id) (dCons (dLc false (dSeqI (dOp rIx (dOp rIx (dVar 0) (dC (.int 4))) (dC (.int 2)))) (gName 2) (tYes) (dOp rIn (dVar 2) (dVar 1)) [2]) (dNil))))))
def t_first_index (c : Cs) : DS_ := dRet (dIf (dTest (dOp rIn (dC (.bl true)) (dVar 0))) (dBM "list" rIdxB (dVar 0) (dCons (dC (.bl true)) dNil)) (dC .non))
def t_check_domain (c : Cs) : DS_ := dFor (dSeqI (dTup (dCons (dC (.str "kind")) (dCons (dC (.str "relation")) (dCons (dC (.str "deed")) (dCons (dC (.str "atom")) (dCons (dC (.str "cost")) (dNil)))))))) (gName 1) (dSeq (dSet (dCall (sp_first_fault c) (dCons (dVar 0) (dCons (dVar 1) (dNil)))) 2) (dIfS (dTest (dOp rNotN (dVar 2) (dC .non))) (dNever) (dNext)))
def t_first_fault (c : Cs) : DS_ := dSeq (dIfS (dTest (dOp rEqS (dVar 1) (dC (.str "kind")))) (dRet (dCall (sp_kind_fault c) (dCons (dOp rIx (dVar 0) (dC (.int 0))) (dNil)))) (dNext)) (dSeq (dIfS (dTest (dOp rEqS (dVar 1) (dC (.str "relation")))) (dRet (dCall (sp_relation_fault c) (dCons (dVar 0) (dNil)))) (dNext)) (dSeq (dIfS (dTest (dOp rEqS (dVar 1) (dC (.str "deed")))) (dRet (dCall (sp_deed_fault c) (dCons (dVar 0) (dNil)))) (dNext)) (dRet (dCall (sp_first_index c) (dCons (dLc false (dSeqI (dOp rIx (dVar 0) (dC (.int 2)))) (gName 2) (tYes) (dIf (dTest (dOp rEqS (dVar 1) (dC (.str "atom")))) (dCall (sp_has_atom_fault c) (dCons (dVar 0) (dCons (dVar 2) (dNil)))) (dCall (sp_has_cost_fault c) (dCons (dVar 2) (dNil)))) [2]) (dNil))))))
def t_TextLine_init (c : Cs) : DS_ := dSeq (dSetF c.TextLine (dVar 0) (dVar 1) "line_number") (dSeq (dSetF c.TextLine (dVar 0) (dVar 2) "line_text") (dSeq (dSetF c.TextLine (dVar 0) (dC (.int 0)) "last_place") (dSeq (dSetF c.TextLine (dVar 0) (dC (.int 0)) "line_place") (dDrop (dMeth c.TextLine "skip_spaces" (sp_TextLine_skip_spaces c) (dVar 0) dNil)))))
def t_TextLine_skip_spaces (c : Cs) : DS_ := dWhile (dAnd (dTest (dOp rLt (dFld c.TextLine (dVar 0) "line_place") (dCB rLen (dCons (dFld c.TextLine (dVar 0) "line_text") (dNil))))) (dTest (dOp rEqS (dOp rIx (dFld c.TextLine (dVar 0) "line_text") (dFld c.TextLine (dVar 0) "line_place")) (dC (.str " "))))) (dAugF c.TextLine (dVar 0) (dC (.int 1)) (rI (fun _ _ => True) fun i j => .int (i + j)) "line_place")
def t_TextLine_is_over (c : Cs) : DS_ := dRet (dOp rEqS (dFld c.TextLine (dVar 0) "line_place") (dCB rLen (dCons (dFld c.TextLine (dVar 0) "line_text") (dNil))))
def t_TextLine_next_token (c : Cs) : DS_ := dSeq (dSet (dFld c.TextLine (dVar 0) "line_place") 1) (dSeq (dWhile (dAnd (dTest (dOp rLt (dVar 1) (dCB rLen (dCons (dFld c.TextLine (dVar 0) "line_text") (dNil))))) (dTest (dOp rNeS (dOp rIx (dFld c.TextLine (dVar 0) "line_text") (dVar 1)) (dC (.str " "))))) (dAug 1 (dC (.int 1)) (rI (fun _ _ => True) fun i j => .int (i + j)))) (dRet (dSl false (dFld c.TextLine (dVar 0) "line_text") (dPart (dFld c.TextLine (dVar 0) "line_place")) (dPart (dVar 1)))))
def t_TextLine_take_token (c : Cs) : DS_ := dSeq (dSet (dMeth c.TextLine "next_token" (sp_TextLine_next_token c) (dVar 0) dNil) 1) (dSeq (dSetF c.TextLine (dVar 0) (dFld c.TextLine (dVar 0) "line_place") "last_place") (dSeq (dIfS (dTest (dOp rEqS (dVar 1) (dC (.str "")))) (dDrop (dMeth c.TextLine "refuse_last" (sp_TextLine_refuse_last c) (dVar 0) dNil)) (dNext)) (dSeq (dAugF c.TextLine (dVar 0) (dCB rLen (dCons (dVar 1) (dNil))) (rI (fun _ _ => True) fun i j => .int (i + j)) "line_place") (dSeq (dDrop (dMeth c.TextLine "skip_spaces" (sp_TextLine_skip_spaces c) (dVar 0) dNil)) (dRet (dVar 1))))))
def t_TextLine_refuse_last (c : Cs) : DS_ := dNever
def t_TextLine_take_one_of (c : Cs) : DS_ := dSeq (dSet (dMeth c.TextLine "take_token" (sp_TextLine_take_token c) (dVar 0) dNil) 2) (dSeq (dIfS (dTest (dOp rNotIn (dVar 2) (dVar 1))) (dDrop (dMeth c.TextLine "refuse_last" (sp_TextLine_refuse_last c) (dVar 0) dNil)) (dNext)) (dRet (dVar 2)))
def t_TextLine_take_end (c : Cs) : DS_ := dIfS (dNot (dTest (dMeth c.TextLine "is_over" (sp_TextLine_is_over c) (dVar 0) dNil))) (dSeq (dSetF c.TextLine (dVar 0) (dFld c.TextLine (dVar 0) "line_place") "last_place") (dDrop (dMeth c.TextLine "refuse_last" (sp_TextLine_refuse_last c) (dVar 0) dNil))) (dNext)
def t_text_lines (c : Cs) : DS_ := dSeq (dSet (dLc false (dEnum (dSplit (dVar 0) (dC (.str "\n")))) (gTup 2 (gCons (gName 2) (gCons (gName 3) (gNil)))) (tYes) (dMake c.TextLine (sp_TextLine_init c) (dCons (dVar 2) (dCons (dVar 3) (dNil)))) [2, 3]) 1) (dRet (dLc false (dSeqI (dVar 1)) (gName 3) (dNot (dTest (dMeth c.TextLine "is_over" (sp_TextLine_is_over c) (dVar 3) dNil))) (dVar 3) [3]))
def t_line_count (c : Cs) : DS_ := dRet (dCB rLen (dCons (dSplit (dVar 0) (dC (.str "\n"))) (dNil)))
def t_write_plain (c : Cs) : DS_ := dSeq (dIfS (dTest (dOp rIn (dOp rIx (dVar 0) (dC (.int 0))) (dTup (dCons (dC (.str "yes")) (dCons (dC (.str "no")) (dNil)))))) (dRet (dJoin (dC (.str " ")) (dOp (rAdd false) (dTup (dCons (dOp rIx (dVar 0) (dC (.int 0))) (dCons (dOp rIx (dOp rIx (dVar 0) (dC (.int 1))) (dC (.int 0))) (dNil)))) (dOp rIx (dOp rIx (dVar 0) (dC (.int 1))) (dC (.int 1)))))) (dNext)) (dRet (dJoin (dC (.str " ")) (dVar 0)))
def t_write_condition (c : Cs) : DS_ := dSeq (dIfS (dTest (dOp rEqS (dOp rIx (dVar 0) (dC (.int 0))) (dC (.str "either")))) (dRet (dOp (rAdd false) (dC (.str "either ")) (dJoin (dC (.str " or ")) (dLc false (dSeqI (dOp rIx (dVar 0) (dC (.int 1)))) (gName 1) (tYes) (dCall (sp_write_plain c) (dCons (dVar 1) (dNil))) [1])))) (dNext)) (dRet (dCall (sp_write_plain c) (dCons (dVar 0) (dNil))))
def t_write_effect (c : Cs) : DS_ := dSeq (dSet (dJoin (dC (.str " ")) (dOp (rAdd false) (dTup (dCons (dOp rIx (dVar 0) (dC (.int 0))) (dCons (dOp rIx (dOp rIx (dVar 0) (dC (.int 1))) (dC (.int 0))) (dNil)))) (dOp rIx (dOp rIx (dVar 0) (dC (.int 1))) (dC (.int 1))))) 1) (dSeq (dIfS (dTest (dOp rEqS (dCB rLen (dCons (dOp rIx (dVar 0) (dC (.int 2))) (dNil))) (dC (.int 0)))) (dRet (dVar 1)) (dNext)) (dRet (dOp (rAdd false) (dOp (rAdd false) (dVar 1) (dC (.str " when "))) (dJoin (dC (.str " and ")) (dLc false (dSeqI (dOp rIx (dVar 0) (dC (.int 2)))) (gName 2) (tYes) (dCall (sp_write_plain c) (dCons (dVar 2) (dNil))) [2])))))
def t_deed_lines (c : Cs) : DS_ := dSeq (dAsg (dVar 0) (gTup 5 (gCons (gName 1) (gCons (gName 2) (gCons (gName 3) (gCons (gName 4) (gCons (gName 5) (gNil)))))))) (dSeq (dSet (dLstO (dCons (dJoin (dC (.str " ")) (dOp (rAdd false) (dLst (dCons (dC (.str "deed")) (dCons (dVar 1) (dNil)))) (dLc2 false (dSeqI (dVar 2)) (gName 7) (tYes) (dSeqI (dVar 7)) (gName 8) (tYes) (dVar 8) [7, 8] [8]))) (dNil))) 6) (dSeq (dDrop (dBM "list" rExt (dVar 6) (dCons (dLc false (dSeqI (dVar 3)) (gName 9) (tYes) (dOp (rAdd false) (dC (.str "if ")) (dCall (sp_write_condition c) (dCons (dVar 9) (dNil)))) [9]) dNil))) (dSeq (dDrop (dBM "list" rExt (dVar 6) (dCons (dLc false (dSeqI (dVar 4)) (gName 10) (tYes) (dCall (sp_write_effect c) (dCons (dVar 10) (dNil))) [10]) dNil))) (dSeq (dDrop (dBM "list" rApp (dVar 6) (dCons (dIf (dTest (dCB rIsiD (dCons (dVar 5) (dCons (dC (.ty "int")) (dNil))))) (dJoined [dC (.str "cost "), dFmt (dVar 5)]) (dJoin (dC (.str " ")) (dOp (rAdd false) (dTup (dCons (dC (.str "cost")) (dCons (dC (.str "by")) (dCons (dOp rIx (dVar 5) (dC (.int 1))) (dNil))))) (dOp rIx (dVar 5) (dC (.int 2)))))) dNil))) (dRet (dVar 6))))))
def t_write_domain (c : Cs) : DS_ := dSeq (dSet (dLc true (dSeqI (dOp rIx (dVar 0) (dC (.int 0)))) (gTup 2 (gCons (gName 3) (gCons (gName 4) (gNil)))) (tYes) (dOp (rAdd false) (dC (.str "kind ")) (dIf (dTest (dOp rIsN (dVar 4) (dC .non))) (dVar 3) (dOp (rAdd false) (dOp (rAdd false) (dVar 3) (dC (.str " "))) (dVar 4)))) [3, 4]) 1) (dSeq (dDrop (dBM "list" rExt (dVar 1) (dCons (dLc false (dSeqI (dOp rIx (dVar 0) (dC (.int 1)))) (gTup 2 (gCons (gName 3) (gCons (gName 5) (gNil)))) (tYes) (dJoin (dC (.str " ")) (dOp (rAdd false) (dTup (dCons (dC (.str "relation")) (dCons (dVar 3) (dNil)))) (dVar 5))) [3, 5]) dNil))) (dSeq (dFor (dSeqI (dOp rIx (dVar 0) (dC (.int 2)))) (gName 2) (dDrop (dBM "list" rExt (dVar 1) (dCons (dCall (sp_deed_lines c) (dCons (dVar 2) (dNil))) dNil)))) (dRet (dJoin (dC (.str "\n")) (dVar 1)))))
def t_take_word (c : Cs) : DS_ := dSeq (dSet (dMeth c.TextLine "take_token" (sp_TextLine_take_token c) (dVar 0) dNil) 1) (dSeq (dIfS (dOr (dNot (dTest (dCall (sp_is_word c) (dCons (dVar 1) (dNil))))) (dTest (dOp rIn (dVar 1) (dC g_MARKS)))) (dDrop (dMeth c.TextLine "refuse_last" (sp_TextLine_refuse_last c) (dVar 0) dNil)) (dNext)) (dRet (dVar 1)))
def t_take_words (c : Cs) : DS_ := dSeq (dSet (dLstO (dNil)) 1) (dSeq (dWhile (dAnd (dNot (dTest (dMeth c.TextLine "is_over" (sp_TextLine_is_over c) (dVar 0) dNil))) (dTest (dOp rNotIn (dMeth c.TextLine "next_token" (sp_TextLine_next_token c) (dVar 0) dNil) (dC g_MARKS)))) (dDrop (dBM "list" rApp (dVar 1) (dCons (dCall (sp_take_word c) (dCons (dVar 0) (dNil))) dNil)))) (dRet (dCB (rTuple false) (dCons (dVar 1) (dNil)))))
def t_take_atom (c : Cs) : DS_ := dSeq (dSet (dCall (sp_take_word c) (dCons (dVar 0) (dNil))) 1) (dRet (dTup (dCons (dVar 1) (dCons (dCall (sp_take_words c) (dCons (dVar 0) (dNil))) (dNil)))))
def t_take_plain (c : Cs) : DS_ := dSeq (dSet (dMeth c.TextLine "take_one_of" (sp_TextLine_take_one_of c) (dVar 0) (dCons (dVar 1) (dNil))) 2) (dSeq (dIfS (dTest (dOp rIn (dVar 2) (dTup (dCons (dC (.str "yes")) (dCons (dC (.str "no")) (dNil)))))) (dRet (dTup (dCons (dVar 2) (dCons (dCall (sp_take_atom c) (dCons (dVar 0) (dNil))) (dNil))))) (dNext)) (dSeq (dSet (dCall (sp_take_word c) (dCons (dVar 0) (dNil))) 3) (dRet (dTup (dCons (dVar 2) (dCons (dVar 3) (dCons (dCall (sp_take_word c) (dCons (dVar 0) (dNil))) (dNil))))))))
def t_take_row_of_plain (c : Cs) : DS_ := dSeq (dSet (dLstO (dCons (dCall (sp_take_plain c) (dCons (dVar 0) (dCons (dVar 1) (dNil)))) (dNil))) 3) (dSeq (dWhile (dAnd (dNot (dTest (dMeth c.TextLine "is_over" (sp_TextLine_is_over c) (dVar 0) dNil))) (dTest (dOp rEqS (dMeth c.TextLine "next_token" (sp_TextLine_next_token c) (dVar 0) dNil) (dVar 2)))) (dSeq (dDrop (dMeth c.TextLine "take_token" (sp_TextLine_take_token c) (dVar 0) dNil)) (dDrop (dBM "list" rApp (dVar 3) (dCons (dCall (sp_take_plain c) (dCons (dVar 0) (dCons (dVar 1) (dNil)))) dNil))))) (dRet (dCB (rTuple false) (dCons (dVar 3) (dNil)))))
def t_take_condition (c : Cs) : DS_ := dSeq (dIfS (dTest (dOp rEqS (dMeth c.TextLine "next_token" (sp_TextLine_next_token c) (dVar 0) dNil) (dC (.str "either")))) (dSeq (dDrop (dMeth c.TextLine "take_token" (sp_TextLine_take_token c) (dVar 0) dNil)) (dRet (dTup (dCons (dC (.str "either")) (dCons (dCall (sp_take_row_of_plain c) (dCons (dVar 0) (dCons (dVar 1) (dCons (dC (.str "or")) (dNil))))) (dNil)))))) (dNext)) (dSeq (dIfS (dTest (dOp rIn (dMeth c.TextLine "next_token" (sp_TextLine_next_token c) (dVar 0) dNil) (dVar 1))) (dRet (dCall (sp_take_plain c) (dCons (dVar 0) (dCons (dVar 1) (dNil))))) (dNext)) (dSeq (dDrop (dMeth c.TextLine "take_one_of" (sp_TextLine_take_one_of c) (dVar 0) (dCons (dTup (dNil)) (dNil)))) (dRet (dC .non))))
def t_take_effect (c : Cs) : DS_ := dSeq (dSet (dCall (sp_take_atom c) (dCons (dVar 0) (dNil))) 2) (dSeq (dIfS (dTest (dMeth c.TextLine "is_over" (sp_TextLine_is_over c) (dVar 0) dNil)) (dRet (dTup (dCons (dVar 1) (dCons (dVar 2) (dCons (dTup (dNil)) (dNil)))))) (dNext)) (dSeq (dDrop (dMeth c.TextLine "take_one_of" (sp_TextLine_take_one_of c) (dVar 0) (dCons (dTup (dCons (dC (.str "when")) (dNil))) (dNil)))) (dRet (dTup (dCons (dVar 1) (dCons (dVar 2) (dCons (dCall (sp_take_row_of_plain c) (dCons (dVar 0) (dCons (dTup (dCons (dC (.str "yes")) (dCons (dC (.str "no")) (dCons (dC (.str "same")) (dCons (dC (.str "unlike")) (dNil)))))) (dCons (dC (.str "and")) (dNil))))) (dNil))))))))
def t_take_number (c : Cs) : DS_ := dSeq (dSet (dMeth c.TextLine "take_token" (sp_TextLine_take_token c) (dVar 0) dNil) 1) (dSeq (dIfS (dNot (dTest (dCall (sp_is_digits c) (dCons (dVar 1) (dNil))))) (dDrop (dMeth c.TextLine "refuse_last" (sp_TextLine_refuse_last c) (dVar 0) dNil)) (dNext)) (dRet (dCB rInt (dCons (dVar 1) (dNil)))))
def t_is_digits (c : Cs) : DS_ := dSeq (dIfS (dOr (dTest (dOp rEqS (dVar 0) (dC (.str "")))) (dTest (dCB (rBls fun bs => bs.any id) (dCons (dLc false (dSeqI (dVar 0)) (gName 1) (tYes) (dOp rNotIn (dVar 1) (dC (.str "0123456789"))) [1]) (dNil))))) (dRet (dC (.bl false))) (dNext)) (dRet (dOrV (dOp rEqS (dVar 0) (dC (.str "0"))) (dOp rNeS (dOp rIx (dVar 0) (dC (.int 0))) (dC (.str "0")))))
def t_take_cost (c : Cs) : DS_ := dSeq (dIfS (dTest (dOp rEqS (dMeth c.TextLine "next_token" (sp_TextLine_next_token c) (dVar 0) dNil) (dC (.str "by")))) (dSeq (dDrop (dMeth c.TextLine "take_token" (sp_TextLine_take_token c) (dVar 0) dNil)) (dRet (dTup (dCons (dC (.str "by")) (dCons (dCall (sp_take_word c) (dCons (dVar 0) (dNil))) (dCons (dCall (sp_take_words c) (dCons (dVar 0) (dNil))) (dNil))))))) (dNext)) (dRet (dCall (sp_take_number c) (dCons (dVar 0) (dNil))))
def t_take_variables (c : Cs) : DS_ := dSeq (dSet (dLstO (dNil)) 1) (dSeq (dWhile (dNot (dTest (dMeth c.TextLine "is_over" (sp_TextLine_is_over c) (dVar 0) dNil))) (dSeq (dSet (dCall (sp_take_word c) (dCons (dVar 0) (dNil))) 2) (dDrop (dBM "list" rApp (dVar 1) (dCons (dTup (dCons (dVar 2) (dCons (dCall (sp_take_word c) (dCons (dVar 0) (dNil))) (dNil)))) dNil))))) (dRet (dCB (rTuple true) (dCons (dVar 1) (dNil)))))
def t_DomainReader_init (c : Cs) : DS_ := dSeq (dSetF c.DomainReader (dVar 0) (dLstO (dNil)) "read_kinds") (dSeq (dSetF c.DomainReader (dVar 0) (dLstO (dNil)) "read_relations") (dSeq (dSetF c.DomainReader (dVar 0) (dLstO (dNil)) "read_deeds") (dSetF c.DomainReader (dVar 0) (dC .non) "open_deed")))
def t_DomainReader_known_words (c : Cs) : DS_ := dSeq (dIfS (dTest (dOp rNotN (dFld c.DomainReader (dVar 0) "open_deed") (dC .non))) (dRet (dIf (dTest (dOp rGt (dCB rLen (dCons (dOp rIx (dFld c.DomainReader (dVar 0) "open_deed") (dC (.int 3))) (dNil))) (dC (.int 0)))) (dTup (dCons (dC (.str "comes")) (dCons (dC (.str "goes")) (dCons (dC (.str "cost")) (dNil))))) (dTup (dCons (dC (.str "if")) (dCons (dC (.str "comes")) (dCons (dC (.str "goes")) (dCons (dC (.str "cost")) (dNil)))))))) (dNext)) (dSeq (dIfS (dTest (dOp rGt (dCB rLen (dCons (dFld c.DomainReader (dVar 0) "read_deeds") (dNil))) (dC (.int 0)))) (dRet (dTup (dCons (dC (.str "deed")) (dNil)))) (dNext)) (dRet (dIf (dTest (dOp rGt (dCB rLen (dCons (dFld c.DomainReader (dVar 0) "read_relations") (dNil))) (dC (.int 0)))) (dTup (dCons (dC (.str "relation")) (dCons (dC (.str "deed")) (dNil)))) (dTup (dCons (dC (.str "kind")) (dCons (dC (.str "relation")) (dCons (dC (.str "deed")) (dNil))))))))
def t_DomainReader_read_line (c : Cs) : DS_ := dSeq (dSet (dMeth c.TextLine "take_one_of" (sp_TextLine_take_one_of c) (dVar 1) (dCons (dMeth c.DomainReader "known_words" (sp_DomainReader_known_words c) (dVar 0) dNil) (dNil))) 2) (dSeq (dIfS (dTest (dOp rEqS (dVar 2) (dC (.str "kind")))) (dSeq (dSet (dCall (sp_take_word c) (dCons (dVar 1) (dNil))) 3) (dDrop (dBM "list" rApp (dFld c.DomainReader (dVar 0) "read_kinds") (dCons (dTup (dCons (dVar 3) (dCons (dIf (dTest (dMeth c.TextLine "is_over" (sp_TextLine_is_over c) (dVar 1) dNil)) (dC .non) (dCall (sp_take_word c) (dCons (dVar 1) (dNil)))) (dNil)))) dNil)))) (dIfS (dTest (dOp rEqS (dVar 2) (dC (.str "relation")))) (dDrop (dBM "list" rApp (dFld c.DomainReader (dVar 0) "read_relations") (dCons (dCall (sp_take_atom c) (dCons (dVar 1) (dNil))) dNil))) (dIfS (dTest (dOp rEqS (dVar 2) (dC (.str "deed")))) (dSetF c.DomainReader (dVar 0) (dTup (dCons (dCall (sp_take_word c) (dCons (dVar 1) (dNil))) (dCons (dCall (sp_take_variables c) (dCons (dVar 1) (dNil))) (dCons (dLstO (dNil)) (dCons (dLstO (dNil)) (dNil)))))) "open_deed") (dIfS (dTest (dOp rEqS (dVar 2) (dC (.str "if")))) (dDrop (dBM "list" rApp (dOp rIx (dFld c.DomainReader (dVar 0) "open_deed") (dC (.int 2))) (dCons (dCall (sp_take_condition c) (dCons (dVar 1) (dCons (dTup (dCons (dC (.str "yes")) (dCons (dC (.str "no")) (dCons (dC (.str "same")) (dCons (dC (.str "unlike")) (dNil)))))) (dNil)))) dNil))) (dIfS (dTest (dOp rEqS (dVar 2) (dC (.str "cost")))) (dSeq (dAsg (dFld c.DomainReader (dVar 0) "open_deed") (gTup 4 (gCons (gName 4) (gCons (gName 5) (gCons (gName 6) (gCons (gName 7) (gNil))))))) (dSeq (dDrop (dBM "list" rApp (dFld c.DomainReader (dVar 0) "read_deeds") (dCons (dTup (dCons (dVar 4) (dCons (dVar 5) (dCons (dCB (rTuple false) (dCons (dVar 6) (dNil))) (dCons (dCB (rTuple false) (dCons (dVar 7) (dNil))) (dCons (dCall (sp_take_cost c) (dCons (dVar 1) (dNil))) (dNil))))))) dNil))) (dSetF c.DomainReader (dVar 0) (dC .non) "open_deed"))) (dDrop (dBM "list" rApp (dOp rIx (dFld c.DomainReader (dVar 0) "open_deed") (dC (.int 3))) (dCons (dCall (sp_take_effect c) (dCons (dVar 1) (dCons (dVar 2) (dNil)))) dNil)))))))) (dDrop (dMeth c.TextLine "take_end" (sp_TextLine_take_end c) (dVar 1) dNil)))
def t_DomainReader_told_domain (c : Cs) : DS_ := dSeq (dSet (dTup (dCons (dCB (rTuple false) (dCons (dFld c.DomainReader (dVar 0) "read_kinds") (dNil))) (dCons (dCB (rTuple true) (dCons (dFld c.DomainReader (dVar 0) "read_relations") (dNil))) (dCons (dCB (rTuple false) (dCons (dFld c.DomainReader (dVar 0) "read_deeds") (dNil))) (dNil))))) 2) (dSeq (dDrop (dCall (sp_check_domain c) (dCons (dVar 2) (dNil)))) (dSeq (dIfS (dTest (dOp rNotN (dFld c.DomainReader (dVar 0) "open_deed") (dC .non))) (dNever) (dNext)) (dRet (dVar 2))))
def t_read_domain (c : Cs) : DS_ := dSeq (dSet (dMake c.DomainReader (sp_DomainReader_init c) dNil) 1) (dSeq (dFor (dSeqI (dCall (sp_text_lines c) (dCons (dVar 0) (dNil)))) (gName 2) (dDrop (dMeth c.DomainReader "read_line" (sp_DomainReader_read_line c) (dVar 1) (dCons (dVar 2) (dNil))))) (dRet (dMeth c.DomainReader "told_domain" (sp_DomainReader_told_domain c) (dVar 1) (dCons (dVar 0) (dNil)))))
def t__law_draws (c : Cs) : DS_ := dSeq (dSet (dLc true (dSeqI (dSl false (dVar 0) (dNoPart) (dPart (dC (.int 63))))) (gName 8) (tYes) (dOp (rMod) (dCB rInt (dCons (dVar 8) (dNil))) (dOp (rShl) (dC (.int 1)) (dC (.int 7200)))) [8]) 2) (dSeq (dIfS (dTest (dOp rEqS (dCB rLen (dCons (dVar 2) (dNil))) (dC (.int 0)))) (dDrop (dBM "list" rApp (dVar 2) (dCons (dC (.int 0)) dNil))) (dNext)) (dSeq (dSet (dCB (rList true) (dCons (dVar 2) (dNil))) 3) (dSeq (dSet (dLstO (dNil)) 4) (dSeq (dFor (dRange1 (dVar 1)) (gName 5) (dSeq (dSet (dOp (rMod) (dCB rInt (dCons (dVar 5) (dNil))) (dCB rLen (dCons (dVar 2) (dNil)))) 6) (dIfS (dAnd (dTest (dOp rGe (dOp rIx (dVar 2) (dVar 6)) (dOp (rPow) (dC (.int 10)) (dC (.int 18))))) (dTest (dOp rGt (dOp rIx (dVar 3) (dVar 6)) (dC (.int 0))))) (dSeq (dDrop (dBM "list" rApp (dVar 4) (dCons (dOp (rMod) (dCB rInt (dCons (dOp rIx (dVar 3) (dVar 6)) (dNil))) (dC (.int 1000))) dNil))) (dAsg (dOp (rDiv) (dOp rIx (dVar 3) (dVar 6)) (dC (.int 1000))) (gSub (dVar 3) (dVar 6)))) (dSeq (dSet (dOp (rMod) (dCB rInt (dCons (dOp (rAdd false) (dOp (rAdd false) (dOp (rMul false) (dOp rIx (dVar 2) (dVar 6)) (dC (.int 48271))) (dOp (rMul false) (dVar 5) (dC (.int 69621)))) (dC (.int 11))) (dNil))) (dC (.int 2147483647))) 7) (dDrop (dBM "list" rApp (dVar 4) (dCons (dOp (rMod) (dCB rInt (dCons (dOp (rAdd false) (dOp (rAdd false) (dOp (rMul false) (dVar 7) (dVar 7)) (dOp (rMul false) (dC (.int 3)) (dVar 7))) (dVar 5)) (dNil))) (dC (.int 1000003))) dNil))))))) (dSeq (dDrop (dBM0 "list" rRev (dVar 4))) (dRet (dVar 4)))))))
def t__law_take (c : Cs) : DS_ := dSeq (dIfS (dTest (dOp rEqS (dCB rLen (dCons (dVar 0) (dNil))) (dC (.int 0)))) (dRet (dC (.int 0))) (dNext)) (dRet (dOp (rMod) (dCB rInt (dCons (dBM0 "list" rPopD (dVar 0)) (dNil))) (dVar 1)))
def t__law_pick (c : Cs) : DS_ := dRet (dOp rIx (dVar 1) (dCall (sp__law_take c) (dCons (dVar 0) (dCons (dCB rLen (dCons (dVar 1) (dNil))) (dNil)))))
def t__law_same (c : Cs) (spR : SpD) : DS_ := dSeq (dIfS (dTest (dCB rIsiD (dCons (dVar 1) (dCons (dTup (dCons (dC (.ty "tuple")) (dCons (dC (.ty "list")) (dNil)))) (dNil))))) (dSeq (dIfS (dOr (dTest (dOp rNeS (dCB rIsiD (dCons (dVar 0) (dCons (dC (.ty "tuple")) (dNil)))) (dCB rIsiD (dCons (dVar 1) (dCons (dC (.ty "tuple")) (dNil)))))) (dTest (dOp rNeS (dCB rIsiD (dCons (dVar 0) (dCons (dC (.ty "list")) (dNil)))) (dCB rIsiD (dCons (dVar 1) (dCons (dC (.ty "list")) (dNil))))))) (dRet (dC (.bl false))) (dNext)) (dSeq (dIfS (dTest (dOp rNeS (dCB rLen (dCons (dVar 0) (dNil))) (dCB rLen (dCons (dVar 1) (dNil))))) (dRet (dC (.bl false))) (dNext)) (dRet (dOp rNotIn (dC (.bl false)) (dLc false (dRange1 (dCB rLen (dCons (dVar 1) (dNil)))) (gName 2) (tYes) (dCall (spR) (dCons (dOp rIx (dVar 0) (dVar 2)) (dCons (dOp rIx (dVar 1) (dVar 2)) (dNil)))) [2]))))) (dNext)) (dSeq (dIfS (dOr (dTest (dOp rNeS (dCB rIsiD (dCons (dVar 0) (dCons (dC (.ty "bool")) (dNil)))) (dCB rIsiD (dCons (dVar 1) (dCons (dC (.ty "bool")) (dNil)))))) (dTest (dOp rNeS (dCB rIsiD (dCons (dVar 0) (dCons (dC (.ty "int")) (dNil)))) (dCB rIsiD (dCons (dVar 1) (dCons (dC (.ty "int")) (dNil))))))) (dRet (dC (.bl false))) (dNext)) (dSeq (dIfS (dOr (dTest (dOp rNeS (dCB rIsiD (dCons (dVar 0) (dCons (dC (.ty "str")) (dNil)))) (dCB rIsiD (dCons (dVar 1) (dCons (dC (.ty "str")) (dNil)))))) (dTest (dOp rNeS (dOp rIsN (dVar 0) (dC .non)) (dOp rIsN (dVar 1) (dC .non))))) (dRet (dC (.bl false))) (dNext)) (dRet (dOp rEqS (dVar 0) (dVar 1)))))
def t__law_plain_words (c : Cs) : DS_ := dSeq (dSet (dLstO (dNil)) 2) (dSeq (dFor (dRange1 (dVar 1)) (gName 3) (dSeq (dSet (dOp (rAdd false) (dOp (rAdd false) (dC (.int 1)) (dCall (sp__law_take c) (dCons (dVar 0) (dCons (dC (.int 3)) (dNil))))) (dCall (sp__law_pick c) (dCons (dVar 0) (dCons (dLst (dCons (dC (.int 0)) (dCons (dC (.int 0)) (dCons (dC (.int 0)) (dCons (dC (.int 0)) (dCons (dC (.int 0)) (dCons (dC (.int 0)) (dCons (dC (.int 0)) (dCons (dC (.int 11)) (dCons (dC (.int 3)) (dNil))))))))))) (dNil))))) 4) (dSeq (dSet (dJoin (dC (.str "")) (dLc false (dRange1 (dVar 4)) (gName 6) (tYes) (dOp rIx (dC (.str "abcdefghijklmnopqrstuvwxyz")) (dCall (sp__law_take c) (dCons (dVar 0) (dCons (dC (.int 26)) (dNil))))) [6])) 5) (dSeq (dIfS (dTest (dOp rIn (dVar 5) (dOp (rAdd false) (dVar 2) (dLst (dCons (dC (.str "when")) (dCons (dC (.str "and")) (dCons (dC (.str "or")) (dCons (dC (.str "either")) (dCons (dC (.str "yes")) (dCons (dC (.str "no")) (dCons (dC (.str "same")) (dCons (dC (.str "unlike")) (dCons (dC (.str "by")) (dNil)))))))))))))) (dSet (dOp (rMul false) (dC (.str "z")) (dOp (rAdd false) (dC (.int 1)) (dCB rMaxD (dCons (dOp (rAdd false) (dLst (dCons (dC (.int 5)) (dNil))) (dLc false (dSeqI (dVar 2)) (gName 7) (tYes) (dCB rLen (dCons (dVar 7) (dNil))) [7])) (dNil))))) 5) (dNext)) (dDrop (dBM "list" rApp (dVar 2) (dCons (dVar 5) dNil))))))) (dRet (dVar 2)))
def t__law_is_beneath (c : Cs) : DS_ := dSeq (dSet (dVar 1) 3) (dSeq (dFor (dRange1 (dCB rLen (dCons (dVar 0) (dNil)))) (gName 4) (dIfS (dTest (dOp rNotIn (dVar 3) (dLst (dCons (dVar 2) (dCons (dC .non) (dNil)))))) (dSet (dOp rIx (dCB (rDict false) (dCons (dVar 0) (dNil))) (dVar 3)) 3) (dNext))) (dRet (dOp rEqS (dVar 3) (dVar 2))))
def t__law_drawn_atom (c : Cs) : DS_ := dSeq (dAsg (dCall (sp__law_pick c) (dCons (dVar 0) (dCons (dVar 2) (dNil)))) (gTup 2 (gCons (gName 4) (gCons (gName 5) (gNil))))) (dSeq (dSet (dLstO (dNil)) 6) (dSeq (dFor (dSeqI (dVar 5)) (gName 7) (dSeq (dSet (dLc false (dSeqI (dVar 3)) (gName 9) (dTest (dCall (sp__law_is_beneath c) (dCons (dVar 1) (dCons (dOp rIx (dVar 9) (dC (.int 1))) (dCons (dVar 7) (dNil)))))) (dOp rIx (dVar 9) (dC (.int 0))) [9]) 8) (dSeq (dIfS (dTest (dOp rEqS (dCB rLen (dCons (dVar 8) (dNil))) (dC (.int 0)))) (dRet (dTup (dCons (dOp rIx (dOp rIx (dVar 2) (dC (.int 1))) (dC (.int 0))) (dCons (dTup (dNil)) (dNil))))) (dNext)) (dDrop (dBM "list" rApp (dVar 6) (dCons (dCall (sp__law_pick c) (dCons (dVar 0) (dCons (dVar 8) (dNil)))) dNil)))))) (dRet (dTup (dCons (dVar 4) (dCons (dCB (rTuple false) (dCons (dVar 6) (dNil))) (dNil)))))))
def t__law_drawn_plain (c : Cs) : DS_ := dSeq (dIfS (dAnd (dTest (dOp rGt (dCB rLen (dCons (dVar 3) (dNil))) (dC (.int 0)))) (dTest (dOp rEqS (dCall (sp__law_take c) (dCons (dVar 0) (dCons (dC (.int 7)) (dNil)))) (dC (.int 1))))) (dRet (dTup (dCons (dCall (sp__law_pick c) (dCons (dVar 0) (dCons (dLst (dCons (dC (.str "same")) (dCons (dC (.str "unlike")) (dNil)))) (dNil)))) (dCons (dOp rIx (dOp rIx (dVar 3) (dC (.int 0))) (dC (.int 0))) (dCons (dOp rIx (dCall (sp__law_pick c) (dCons (dVar 0) (dCons (dVar 3) (dNil)))) (dC (.int 0))) (dNil)))))) (dNext)) (dRet (dTup (dCons (dCall (sp__law_pick c) (dCons (dVar 0) (dCons (dLst (dCons (dC (.str "yes")) (dCons (dC (.str "no")) (dNil)))) (dNil)))) (dCons (dCall (sp__law_drawn_atom c) (dCons (dVar 0) (dCons (dVar 1) (dCons (dVar 2) (dCons (dVar 3) (dNil)))))) (dNil)))))
def t__law_plain_tokens (c : Cs) : DS_ := dSeq (dIfS (dTest (dOp rIn (dOp rIx (dVar 0) (dC (.int 0))) (dLst (dCons (dC (.str "same")) (dCons (dC (.str "unlike")) (dNil)))))) (dRet (dCB (rList false) (dCons (dVar 0) (dNil)))) (dNext)) (dRet (dOp (rAdd false) (dLst (dCons (dOp rIx (dVar 0) (dC (.int 0))) (dCons (dOp rIx (dOp rIx (dVar 0) (dC (.int 1))) (dC (.int 0))) (dNil)))) (dCB (rList false) (dCons (dOp rIx (dOp rIx (dVar 0) (dC (.int 1))) (dC (.int 1))) (dNil)))))
def t__law_joined_tokens (c : Cs) : DS_ := dSeq (dSet (dLst (dNil)) 2) (dSeq (dFor (dSeqI (dVar 0)) (gName 3) (dSet (dOp (rAdd false) (dOp (rAdd false) (dVar 2) (dOp (rMul false) (dLst (dCons (dVar 1) (dNil))) (dCB rInt (dCons (dOp rGt (dCB rLen (dCons (dVar 2) (dNil))) (dC (.int 0))) (dNil))))) (dCall (sp__law_plain_tokens c) (dCons (dVar 3) (dNil)))) 2)) (dRet (dVar 2)))
def t__law_condition_tokens (c : Cs) : DS_ := dSeq (dIfS (dTest (dOp rEqS (dOp rIx (dVar 0) (dC (.int 0))) (dC (.str "either")))) (dRet (dOp (rAdd false) (dLst (dCons (dC (.str "either")) (dNil))) (dCall (sp__law_joined_tokens c) (dCons (dOp rIx (dVar 0) (dC (.int 1))) (dCons (dC (.str "or")) (dNil)))))) (dNext)) (dRet (dCall (sp__law_plain_tokens c) (dCons (dVar 0) (dNil))))
def t__law_domain_lines (c : Cs) : DS_ := dSeq (dSet (dLc true (dSeqI (dOp rIx (dVar 0) (dC (.int 0)))) (gName 8) (tYes) (dOp (rAdd false) (dLst (dCons (dC (.str "kind")) (dNil))) (dLc false (dSeqI (dVar 8)) (gName 2) (dTest (dOp rNotN (dVar 2) (dC .non))) (dVar 2) [2])) [8]) 1) (dSeq (dSet (dOp (rAdd true) (dVar 1) (dLc false (dSeqI (dOp rIx (dVar 0) (dC (.int 1)))) (gName 8) (tYes) (dOp (rAdd false) (dLst (dCons (dC (.str "relation")) (dCons (dOp rIx (dVar 8) (dC (.int 0))) (dNil)))) (dCB (rList false) (dCons (dOp rIx (dVar 8) (dC (.int 1))) (dNil)))) [8])) 1) (dSeq (dFor (dSeqI (dOp rIx (dVar 0) (dC (.int 2)))) (gTup 5 (gCons (gName 2) (gCons (gName 3) (gCons (gName 4) (gCons (gName 5) (gCons (gName 6) (gNil))))))) (dSeq (dSet (dLst (dCons (dC (.str "deed")) (dCons (dVar 2) (dNil)))) 7) (dSeq (dFor (dSeqI (dVar 3)) (gName 8) (dSet (dOp (rAdd false) (dVar 7) (dCB (rList false) (dCons (dVar 8) (dNil)))) 7)) (dSeq (dDrop (dBM "list" rApp (dVar 1) (dCons (dVar 7) dNil))) (dSeq (dSet (dOp (rAdd true) (dVar 1) (dLc false (dSeqI (dVar 4)) (gName 13) (tYes) (dOp (rAdd false) (dLst (dCons (dC (.str "if")) (dNil))) (dCall (sp__law_condition_tokens c) (dCons (dVar 13) (dNil)))) [13])) 1) (dSeq (dFor (dSeqI (dVar 5)) (gTup 3 (gCons (gName 9) (gCons (gName 10) (gCons (gName 11) (gNil))))) (dSeq (dSet (dOp (rAdd false) (dOp (rMul false) (dLst (dCons (dC (.str "when")) (dNil))) (dCB rInt (dCons (dOp rGt (dCB rLen (dCons (dVar 11) (dNil))) (dC (.int 0))) (dNil)))) (dCall (sp__law_joined_tokens c) (dCons (dVar 11) (dCons (dC (.str "and")) (dNil))))) 12) (dDrop (dBM "list" rApp (dVar 1) (dCons (dOp (rAdd false) (dOp (rAdd false) (dLst (dCons (dVar 9) (dCons (dOp rIx (dVar 10) (dC (.int 0))) (dNil)))) (dCB (rList false) (dCons (dOp rIx (dVar 10) (dC (.int 1))) (dNil)))) (dVar 12)) dNil))))) (dIfS (dTest (dCB rIsiD (dCons (dVar 6) (dCons (dC (.ty "tuple")) (dNil))))) (dDrop (dBM "list" rApp (dVar 1) (dCons (dOp (rAdd false) (dLst (dCons (dC (.str "cost")) (dCons (dC (.str "by")) (dCons (dOp rIx (dVar 6) (dC (.int 1))) (dNil))))) (dCB (rList false) (dCons (dOp rIx (dVar 6) (dC (.int 2))) (dNil)))) dNil))) (dDrop (dBM "list" rApp (dVar 1) (dCons (dLst (dCons (dC (.str "cost")) (dCons (dCB rStr (dCons (dVar 6) (dNil))) (dNil)))) dNil)))))))))) (dRet (dVar 1))))
def t__law_text (c : Cs) : DS_ := dRet (dJoin (dC (.str "\n")) (dLc false (dSeqI (dVar 0)) (gName 1) (tYes) (dJoin (dC (.str " ")) (dVar 1)) [1]))
def t__law_spread (c : Cs) : DS_ := dSeq (dSet (dLstO (dNil)) 2) (dSeq (dSet (dLstO (dNil)) 3) (dSeq (dFor (dSeqI (dVar 1)) (gName 4) (dSeq (dFor (dRange1 (dCall (sp__law_pick c) (dCons (dVar 0) (dCons (dLst (dCons (dC (.int 0)) (dCons (dC (.int 0)) (dCons (dC (.int 0)) (dCons (dC (.int 1)) (dCons (dC (.int 0)) (dCons (dC (.int 2)) (dNil)))))))) (dNil))))) (gName 5) (dDrop (dBM "list" rApp (dVar 2) (dCons (dOp (rMul false) (dC (.str " ")) (dCall (sp__law_take c) (dCons (dVar 0) (dCons (dC (.int 3)) (dNil))))) dNil)))) (dSeq (dSet (dOp (rMul false) (dC (.str " ")) (dCall (sp__law_pick c) (dCons (dVar 0) (dCons (dLst (dCons (dC (.int 0)) (dCons (dC (.int 0)) (dCons (dC (.int 2)) (dNil))))) (dNil))))) 6) (dSeq (dSet (dLstO (dNil)) 7) (dSeq (dFor (dSeqI (dVar 4)) (gName 8) (dSeq (dSet (dOp (rAdd false) (dVar 6) (dOp (rMul false) (dC (.str " ")) (dOp (rAdd false) (dCB rInt (dCons (dOp rGt (dCB rLen (dCons (dVar 7) (dNil))) (dC (.int 0))) (dNil))) (dCall (sp__law_pick c) (dCons (dVar 0) (dCons (dLst (dCons (dC (.int 0)) (dCons (dC (.int 0)) (dCons (dC (.int 2)) (dNil))))) (dNil))))))) 6) (dSeq (dDrop (dBM "list" rApp (dVar 7) (dCons (dCB rLen (dCons (dVar 6) (dNil))) dNil))) (dSet (dOp (rAdd false) (dVar 6) (dVar 8)) 6)))) (dSeq (dSet (dOp (rAdd false) (dVar 6) (dOp (rMul false) (dC (.str " ")) (dCall (sp__law_pick c) (dCons (dVar 0) (dCons (dLst (dCons (dC (.int 0)) (dCons (dC (.int 0)) (dCons (dC (.int 1)) (dNil))))) (dNil)))))) 6) (dSeq (dDrop (dBM "list" rApp (dVar 3) (dCons (dLst (dCons (dCB rLen (dCons (dVar 2) (dNil))) (dCons (dVar 7) (dCons (dCB rLen (dCons (dVar 6) (dNil))) (dNil))))) dNil))) (dDrop (dBM "list" rApp (dVar 2) (dCons (dVar 6) dNil)))))))))) (dSeq (dFor (dRange1 (dCall (sp__law_pick c) (dCons (dVar 0) (dCons (dLst (dCons (dC (.int 0)) (dCons (dC (.int 0)) (dCons (dC (.int 1)) (dNil))))) (dNil))))) (gName 5) (dDrop (dBM "list" rApp (dVar 2) (dCons (dC (.str "  ")) dNil)))) (dRet (dLst (dCons (dJoin (dC (.str "\n")) (dVar 2)) (dCons (dVar 3) (dCons (dCB rMaxD (dCons (dC (.int 1)) (dCons (dCB rLen (dCons (dVar 2) (dNil))) (dNil)))) (dNil)))))))))
def t__law_wide_deed (c : Cs) : DS_ := dSeq (dSet (dCall (sp__law_take c) (dCons (dVar 0) (dCons (dC (.int 5)) (dNil)))) 5) (dSeq (dSet (dCB (rTuple true) (dCons (dLc false (dRange1 (dVar 5)) (gName 8) (tYes) (dTup (dCons (dOp rIx (dVar 1) (dOp (rAdd false) (dC (.int 22)) (dVar 8))) (dCons (dOp rIx (dCall (sp__law_pick c) (dCons (dVar 0) (dCons (dVar 2) (dNil)))) (dC (.int 0))) (dNil)))) [8]) (dNil))) 6) (dSeq (dSet (dLstO (dNil)) 7) (dSeq (dFor (dRange1 (dCall (sp__law_take c) (dCons (dVar 0) (dCons (dC (.int 4)) (dNil))))) (gName 8) (dSeq (dSet (dLc false (dRange1 (dOp (rAdd false) (dC (.int 1)) (dCall (sp__law_take c) (dCons (dVar 0) (dCons (dC (.int 3)) (dNil)))))) (gName 15) (tYes) (dCall (sp__law_drawn_plain c) (dCons (dVar 0) (dCons (dVar 2) (dCons (dVar 3) (dCons (dVar 6) (dNil)))))) [15]) 9) (dDrop (dBM "list" rApp (dVar 7) (dCons (dCall (sp__law_pick c) (dCons (dVar 0) (dCons (dLst (dCons (dOp rIx (dVar 9) (dC (.int 0))) (dCons (dTup (dCons (dC (.str "either")) (dCons (dCB (rTuple false) (dCons (dVar 9) (dNil))) (dNil)))) (dNil)))) (dNil)))) dNil))))) (dSeq (dSet (dLstO (dNil)) 10) (dSeq (dFor (dRange1 (dCall (sp__law_take c) (dCons (dVar 0) (dCons (dC (.int 4)) (dNil))))) (gName 8) (dSeq (dSet (dLc false (dRange1 (dCall (sp__law_pick c) (dCons (dVar 0) (dCons (dLst (dCons (dC (.int 0)) (dCons (dC (.int 0)) (dCons (dC (.int 1)) (dCons (dC (.int 3)) (dNil)))))) (dNil))))) (gName 15) (tYes) (dCall (sp__law_drawn_plain c) (dCons (dVar 0) (dCons (dVar 2) (dCons (dVar 3) (dCons (dVar 6) (dNil)))))) [15]) 11) (dSeq (dSet (dCall (sp__law_drawn_atom c) (dCons (dVar 0) (dCons (dVar 2) (dCons (dVar 3) (dCons (dVar 6) (dNil)))))) 12) (dDrop (dBM "list" rApp (dVar 10) (dCons (dTup (dCons (dCall (sp__law_pick c) (dCons (dVar 0) (dCons (dLst (dCons (dC (.str "comes")) (dCons (dC (.str "goes")) (dNil)))) (dNil)))) (dCons (dVar 12) (dCons (dCB (rTuple false) (dCons (dVar 11) (dNil))) (dNil))))) dNil)))))) (dSeq (dSet (dCB (rTuple false) (dCons (dLc false (dSeqI (dVar 6)) (gName 16) (tYes) (dOp rIx (dVar 16) (dC (.int 0))) [16]) (dNil))) 13) (dSeq (dSet (dCall (sp__law_pick c) (dCons (dVar 0) (dCons (dLst (dCons (dC (.int 1)) (dCons (dC (.int 0)) (dCons (dOp (rAdd false) (dOp (rPow) (dC (.int 10)) (dC (.int 59))) (dC (.int 7))) (dCons (dTup (dCons (dC (.str "by")) (dCons (dOp rIx (dVar 1) (dC (.int 26))) (dCons (dSl false (dVar 13) (dPart (dC (.int 1))) (dNoPart)) (dNil))))) (dCons (dTup (dCons (dC (.str "by")) (dCons (dOp rIx (dVar 1) (dC (.int 26))) (dCons (dTup (dNil)) (dNil))))) (dCons (dC (.int 30)) (dNil)))))))) (dNil)))) 14) (dRet (dTup (dCons (dVar 4) (dCons (dVar 6) (dCons (dCB (rTuple false) (dCons (dVar 7) (dNil))) (dCons (dCB (rTuple false) (dCons (dVar 10) (dNil))) (dCons (dVar 14) (dNil)))))))))))))))
def t__law_wide_domain (c : Cs) : DS_ := dSeq (dSet (dLstO (dNil)) 2) (dSeq (dFor (dRange1 (dOp (rAdd false) (dC (.int 1)) (dCall (sp__law_take c) (dCons (dVar 0) (dCons (dC (.int 6)) (dNil)))))) (gName 3) (dDrop (dBM "list" rApp (dVar 2) (dCons (dTup (dCons (dOp rIx (dVar 1) (dVar 3)) (dCons (dCall (sp__law_pick c) (dCons (dVar 0) (dCons (dOp (rAdd false) (dLst (dCons (dC .non) (dNil))) (dSl false (dVar 1) (dNoPart) (dPart (dVar 3)))) (dNil)))) (dNil)))) dNil)))) (dSeq (dSet (dLstO (dNil)) 4) (dSeq (dFor (dRange1 (dOp (rAdd false) (dC (.int 2)) (dCall (sp__law_take c) (dCons (dVar 0) (dCons (dC (.int 7)) (dNil)))))) (gName 3) (dDrop (dBM "list" rApp (dVar 4) (dCons (dTup (dCons (dOp rIx (dVar 1) (dOp (rAdd false) (dC (.int 6)) (dVar 3))) (dCons (dCB (rTuple false) (dCons (dLc false (dRange1 (dCall (sp__law_take c) (dCons (dVar 0) (dCons (dC (.int 4)) (dNil))))) (gName 6) (tYes) (dOp rIx (dCall (sp__law_pick c) (dCons (dVar 0) (dCons (dVar 2) (dNil)))) (dC (.int 0))) [6]) (dNil))) (dNil)))) dNil)))) (dSeq (dAsg (dTup (dCons (dOp rIx (dOp rIx (dVar 4) (dC (.int 1))) (dC (.int 0))) (dCons (dTup (dNil)) (dNil)))) (gSub (dVar 4) (dC (.int 1)))) (dSeq (dSet (dLc false (dRange1 (dCall (sp__law_take c) (dCons (dVar 0) (dCons (dC (.int 4)) (dNil))))) (gName 3) (tYes) (dCall (sp__law_wide_deed c) (dCons (dVar 0) (dCons (dVar 1) (dCons (dVar 2) (dCons (dVar 4) (dCons (dOp rIx (dVar 1) (dOp (rAdd false) (dC (.int 14)) (dVar 3))) (dNil))))))) [3]) 5) (dRet (dTup (dCons (dCB (rTuple false) (dCons (dVar 2) (dNil))) (dCons (dCB (rTuple true) (dCons (dVar 4) (dNil))) (dCons (dCB (rTuple false) (dCons (dVar 5) (dNil))) (dNil)))))))))))
def t_law (c : Cs) : DS_ := dSeq (dSet (dCall (sp__law_draws c) (dCons (dVar 0) (dCons (dC (.int 900)) (dNil)))) 1) (dSeq (dSet (dCall (sp__law_plain_words c) (dCons (dVar 1) (dCons (dC (.int 27)) (dNil)))) 2) (dSeq (dIfS (dTest (dOp rEqS (dCall (sp__law_take c) (dCons (dVar 1) (dCons (dC (.int 2)) (dNil)))) (dC (.int 1)))) (dSet (dOp (rAdd false) (dOp (rAdd false) (dOp (rAdd false) (dOp (rAdd false) (dSl false (dVar 2) (dNoPart) (dPart (dC (.int 14)))) (dSl false (dVar 2) (dNoPart) (dPart (dC (.int 3))))) (dSl false (dVar 2) (dNoPart) (dPart (dC (.int 5))))) (dLst (dCons (dC (.str "kind")) (dCons (dC (.str "deed")) (dCons (dC (.str "cost")) (dCons (dC (.str "if")) (dNil))))))) (dLst (dCons (dC (.str "comes")) (dNil)))) 2) (dNext)) (dSeq (dSet (dCall (sp__law_wide_domain c) (dCons (dVar 1) (dCons (dVar 2) (dNil)))) 3) (dSeq (dSet (dCall (sp__law_text c) (dCons (dCall (sp__law_domain_lines c) (dCons (dVar 3) (dNil))) (dNil))) 4) (dSeq (dIfS (dOr (dNot (dTest (dCall (sp__law_same c) (dCons (dCall (sp_write_domain c) (dCons (dVar 3) (dNil))) (dCons (dVar 4) (dNil)))))) (dNot (dTest (dCall (sp__law_same c) (dCons (dCall (sp_read_domain c) (dCons (dVar 4) (dNil))) (dCons (dVar 3) (dNil))))))) (dRet (dC (.bl false))) (dNext)) (dSeq (dFor (dRange1 (dC (.int 2))) (gName 5) (dIfS (dNot (dTest (dCall (sp__law_same c) (dCons (dCall (sp_read_domain c) (dCons (dOp rIx (dCall (sp__law_spread c) (dCons (dVar 1) (dCons (dCall (sp__law_domain_lines c) (dCons (dVar 3) (dNil))) (dNil)))) (dC (.int 0))) (dNil))) (dCons (dVar 3) (dNil)))))) (dRet (dC (.bl false))) (dNext))) (dSeq (dSet (dTup (dCons (dTup (dNil)) (dCons (dTup (dNil)) (dCons (dTup (dNil)) (dNil))))) 6) (dRet (dAndV (dCall (sp__law_same c) (dCons (dCall (sp_write_domain c) (dCons (dVar 6) (dNil))) (dCons (dC (.str "")) (dNil)))) (dCall (sp__law_same c) (dCons (dCall (sp_read_domain c) (dCons (dC (.str " \n\n")) (dNil))) (dCons (dVar 6) (dNil)))))))))))))
end Ht
set_option Elab.async false
set_option linter.all false
set_option maxRecDepth 100000
set_option maxHeartbeats 4000000
namespace Ht
open PySem PySem.Spec PyProof.Rows L2
section
variable {P : Program} {w : World} {K : PySem.W.Frag} {mg : Str → Option Value} {base : Heap} {c : Cs} (B : Blt mg) (G : Glb K mg) (C : Cfacts K c)
include B G C
theorem d_is_word {f : Addr} {cdv : Value} {A : Around} {outer : List Env} {s : Shared} {H : Hp} {E : XK} (hr : Room 0 (A.deeper (envOfC "is_word" (defScope s_is_word) s.heap.objs.size f cdv))) : DSs (cx P w K mg base N_is_word "is_word" s_is_word f cdv A outer s H E) (defBody s_is_word) (t_is_word c) :=
  dss_one (ds_ret (de_and (de_callB cd_isi B.isi bt_isinstance (da_cons (de_var 0) (da_cons (de_ty B.str bt_str) (da_nil)))) (de_and (de_cmp (od_gt) (de_callB cd_len B.len bt_len (da_cons (de_var 0) (da_nil))) (de_int)) (de_one (de_callB (cd_all rfl) B.all bt_all (da_cons (de_lc false rfl sc_is_word.nd (own := [("letter", 1)]) (di_seq (de_var 0)) (blkOk_by (by rfl)) (fun _ _ _ _ _ => dgc_name (i := 1) sc_is_word.nd) (fun _ _ _ _ _ => dts_nil) (fun _ _ _ _ _ => de_cmp (od_in (hu_of hr)) (de_var 1) (de_glob G.LETTERS))) (da_nil)))))))
theorem d_kinds_above {f : Addr} {cdv : Value} {A : Around} {outer : List Env} {s : Shared} {H : Hp} {E : XK} (hr : Room 0 (A.deeper (envOfC "kinds_above" (defScope s_kinds_above) s.heap.objs.size f cdv))) : DSs (cx P w K mg base N_kinds_above "kinds_above" s_kinds_above f cdv A outer s H E) (defBody s_kinds_above) (t_kinds_above c) :=
  dss_cons (ds_set (i := 1) sc_kinds_above.nd (de_dnew true)) (dss_cons (ds_for PassesOwn.never rfl (di_seq (de_var 0)) (dg_tup (n := 2) rfl (dgs_cons (dg_name (i := 2) sc_kinds_above.nd) (dgs_cons (dg_name (i := 3) sc_kinds_above.nd) (dgs_nil)))) (dss_one (ds_expr (de_dsetd (de_var 1) (de_var 2) (de_star false (de_var 2) (de_bl) (de_dget2 (hu_of hr) (de_var 1) (de_var 3) (de_dnew false) ⟨rfl, rfl, rfl, rfl⟩)) ⟨rfl, rfl, rfl, rfl⟩)))) (dss_one (ds_ret (de_var 1))))
theorem d_kind_fault {f : Addr} {cdv : Value} {A : Around} {outer : List Env} {s : Shared} {H : Hp} {E : XK} (hr : Room 0 (A.deeper (envOfC "kind_fault" (defScope s_kind_fault) s.heap.objs.size f cdv))) : DSs (cx P w K mg base N_kind_fault "kind_fault" s_kind_fault f cdv A outer s H E) (defBody s_kind_fault) (t_kind_fault c) :=
  dss_cons (ds_set (i := 1) sc_kind_fault.nd (de_dnew true)) (dss_cons (ds_for PassesOwn.never rfl (di_enum (de_var 0) B.enu) (dg_tup (n := 2) rfl (dgs_cons (dg_name (i := 2) sc_kind_fault.nd) (dgs_cons (dg_tup (n := 2) rfl (dgs_cons (dg_name (i := 3) sc_kind_fault.nd) (dgs_cons (dg_name (i := 4) sc_kind_fault.nd) (dgs_nil)))) (dgs_nil)))) (dss_cons (ds_if (dt_bool (dw_or (dt_cmp (od_in (hu_of hr)) (de_var 3) (de_var 1)) (dw_or1 (dt_bool (dw_and (dt_cmp (od_notN) (de_var 4) (de_non)) (dw_and1 (dt_cmp (od_notIn (hu_of hr)) (de_var 4) (de_var 1)))))))) (dss_one (ds_ret (de_var 2))) (dss_nil)) (dss_one (ds_asg (de_bl) (dg_sub (hu_of hr) (de_var 1) (de_var 3)))))) (dss_one (ds_ret (de_non))))
theorem d_relation_fault (F_kinds_above : Fn P w K mg base 1 "kinds_above" ["kinds"] (sp_kinds_above c)) {f : Addr} {cdv : Value} {A : Around} {outer : List Env} {s : Shared} {H : Hp} {E : XK} (hr : Room 1 (A.deeper (envOfC "relation_fault" (defScope s_relation_fault) s.heap.objs.size f cdv))) : DSs (cx P w K mg base N_relation_fault "relation_fault" s_relation_fault f cdv A outer s H E) (defBody s_relation_fault) (t_relation_fault c) :=
  dss_cons (ds_set (i := 1) sc_relation_fault.nd (de_fn F_kinds_above hr (da_cons (de_ix (hu_of hr) (de_var 0) (de_int)) (da_nil)))) (dss_cons (ds_set (i := 2) sc_relation_fault.nd (de_dnew true)) (dss_cons (ds_for PassesOwn.never rfl (di_enum (de_ix (hu_of hr) (de_var 0) (de_int)) B.enu) (dg_tup (n := 2) rfl (dgs_cons (dg_name (i := 3) sc_relation_fault.nd) (dgs_cons (dg_tup (n := 2) rfl (dgs_cons (dg_name (i := 4) sc_relation_fault.nd) (dgs_cons (dg_name (i := 5) sc_relation_fault.nd) (dgs_nil)))) (dgs_nil)))) (dss_cons (ds_if (dt_bool (dw_or (dt_cmp (od_in (hu_of hr)) (de_var 4) (de_var 2)) (dw_or1 (dt_not (dt_val (de_callB (cd_all rfl) B.all bt_all (da_cons (de_lc false rfl sc_relation_fault.nd (own := [("place", 6)]) (di_seq (de_var 5)) (blkOk_by (by rfl)) (fun _ _ _ _ _ => dgc_name (i := 6) sc_relation_fault.nd) (fun _ _ _ _ _ => dts_nil) (fun _ _ _ _ _ => de_cmp (od_in (hu_of hr)) (de_var 6) (de_var 1))) (da_nil)))))))) (dss_one (ds_ret (de_var 3))) (dss_nil)) (dss_one (ds_asg (de_bl) (dg_sub (hu_of hr) (de_var 2) (de_var 4)))))) (dss_one (ds_ret (de_non)))))
theorem d_deed_fault (F_kinds_above : Fn P w K mg base 1 "kinds_above" ["kinds"] (sp_kinds_above c)) {f : Addr} {cdv : Value} {A : Around} {outer : List Env} {s : Shared} {H : Hp} {E : XK} (hr : Room 1 (A.deeper (envOfC "deed_fault" (defScope s_deed_fault) s.heap.objs.size f cdv))) : DSs (cx P w K mg base N_deed_fault "deed_fault" s_deed_fault f cdv A outer s H E) (defBody s_deed_fault) (t_deed_fault c) :=
  dss_cons (ds_set (i := 1) sc_deed_fault.nd (de_fn F_kinds_above hr (da_cons (de_ix (hu_of hr) (de_var 0) (de_int)) (da_nil)))) (dss_cons (ds_set (i := 2) sc_deed_fault.nd (de_dnew true)) (dss_cons (ds_for PassesOwn.never rfl (di_enum (de_ix (hu_of hr) (de_var 0) (de_int)) B.enu) (dg_tup (n := 2) rfl (dgs_cons (dg_name (i := 3) sc_deed_fault.nd) (dgs_cons (dg_tup (n := 5) rfl (dgs_cons (dg_name (i := 4) sc_deed_fault.nd) (dgs_cons (dg_name (i := 5) sc_deed_fault.nd) (dgs_cons (dg_name (i := 6) sc_deed_fault.nd) (dgs_cons (dg_name (i := 6) sc_deed_fault.nd) (dgs_cons (dg_name (i := 6) sc_deed_fault.nd) (dgs_nil))))))) (dgs_nil)))) (dss_cons (ds_setDc (i := 7) false (own := [("variable", 8), ("_", 6)]) rfl sc_deed_fault.nd rfl (di_seq (de_var 5)) (blkOk_by (by rfl)) (fun _ _ _ _ _ => dgc_tup (n := 2) rfl (dgcs_cons (dgc_name (i := 8) sc_deed_fault.nd) (dgcs_cons (dgc_name (i := 6) sc_deed_fault.nd) (dgcs_nil)))) (fun _ _ _ _ _ => dts_nil) (fun _ _ _ _ _ => de_var 8) (fun _ _ _ _ _ => de_bl)) (dss_cons (ds_if (dt_bool (dw_or (dt_cmp (od_in (hu_of hr)) (de_var 4) (de_var 2)) (dw_or (dt_cmp (od_lt) (de_callB cd_len B.len bt_len (da_cons (de_var 7) (da_nil))) (de_callB cd_len B.len bt_len (da_cons (de_var 5) (da_nil)))) (dw_or1 (dt_not (dt_val (de_callB (cd_all rfl) B.all bt_all (da_cons (de_lc false rfl sc_deed_fault.nd (own := [("_", 6), ("kind", 9)]) (di_seq (de_var 5)) (blkOk_by (by rfl)) (fun _ _ _ _ _ => dgc_tup (n := 2) rfl (dgcs_cons (dgc_name (i := 6) sc_deed_fault.nd) (dgcs_cons (dgc_name (i := 9) sc_deed_fault.nd) (dgcs_nil)))) (fun _ _ _ _ _ => dts_nil) (fun _ _ _ _ _ => de_cmp (od_in (hu_of hr)) (de_var 9) (de_var 1))) (da_nil))))))))) (dss_one (ds_ret (de_var 3))) (dss_nil)) (dss_one (ds_asg (de_bl) (dg_sub (hu_of hr) (de_var 2) (de_var 4))))))) (dss_one (ds_ret (de_non)))))
theorem d_plain_of_condition {f : Addr} {cdv : Value} {A : Around} {outer : List Env} {s : Shared} {H : Hp} {E : XK} (hr : Room 0 (A.deeper (envOfC "plain_of_condition" (defScope s_plain_of_condition) s.heap.objs.size f cdv))) : DSs (cx P w K mg base N_plain_of_condition "plain_of_condition" s_plain_of_condition f cdv A outer s H E) (defBody s_plain_of_condition) (t_plain_of_condition c) :=
  dss_one (ds_ret (de_if (dt_cmp (od_eq) (de_ix (hu_of hr) (de_var 0) (de_int)) (de_str)) (de_ix (hu_of hr) (de_var 0) (de_int)) (de_tup (da_cons (de_var 0) (da_nil)))))
theorem d_plain_of_deed (F_plain_of_condition : Fn P w K mg base 1 "plain_of_condition" ["condition"] (sp_plain_of_condition c)) {f : Addr} {cdv : Value} {A : Around} {outer : List Env} {s : Shared} {H : Hp} {E : XK} (hr : Room 1 (A.deeper (envOfC "plain_of_deed" (defScope s_plain_of_deed) s.heap.objs.size f cdv))) : DSs (cx P w K mg base N_plain_of_deed "plain_of_deed" s_plain_of_deed f cdv A outer s H E) (defBody s_plain_of_deed) (t_plain_of_deed c) :=
  dss_cons (ds_setLc2 (i := 1) true [5] rfl sc_plain_of_deed.nd rfl (own := [("condition", 4), ("plain", 5)]) (di_seq (de_ix (hu_of hr) (de_var 0) (de_int))) (blkOk_by (by rfl)) (fun _ _ _ _ _ => dgc_name (i := 4) sc_plain_of_deed.nd) (fun _ _ _ _ _ => dts_nil) (fun _ _ _ _ _ => di_seq (de_fn F_plain_of_condition hr (da_cons (de_var 4) (da_nil)))) (fun _ _ _ _ _ => dgc_name (i := 5) sc_plain_of_deed.nd) (fun _ _ _ _ _ => dts_nil) (fun _ _ _ _ _ => de_var 5)) (dss_cons (ds_for PassesOwn.never rfl (di_seq (de_ix (hu_of hr) (de_var 0) (de_int))) (dg_tup (n := 3) rfl (dgs_cons (dg_name (i := 2) sc_plain_of_deed.nd) (dgs_cons (dg_name (i := 2) sc_plain_of_deed.nd) (dgs_cons (dg_name (i := 3) sc_plain_of_deed.nd) (dgs_nil))))) (dss_one (ds_expr (de_extend (de_var 1) (de_var 3))))) (dss_one (ds_ret (de_var 1))))
theorem d_atoms_of_deed (F_plain_of_deed : Fn P w K mg base 2 "plain_of_deed" ["deed"] (sp_plain_of_deed c)) {f : Addr} {cdv : Value} {A : Around} {outer : List Env} {s : Shared} {H : Hp} {E : XK} (hr : Room 2 (A.deeper (envOfC "atoms_of_deed" (defScope s_atoms_of_deed) s.heap.objs.size f cdv))) : DSs (cx P w K mg base N_atoms_of_deed "atoms_of_deed" s_atoms_of_deed f cdv A outer s H E) (defBody s_atoms_of_deed) (t_atoms_of_deed c) :=
  dss_cons (ds_setLc (i := 1) false rfl sc_atoms_of_deed.nd rfl (own := [("plain", 2)]) (di_seq (de_fn F_plain_of_deed hr (da_cons (de_var 0) (da_nil)))) (blkOk_by (by rfl)) (fun _ _ _ _ _ => dgc_name (i := 2) sc_atoms_of_deed.nd) (fun _ _ _ _ _ => dts_one (dt_cmp (od_in (hu_of hr)) (de_ix (hu_of hr) (de_var 2) (de_int)) (de_tup (da_cons (de_str) (da_cons (de_str) (da_nil)))))) (fun _ _ _ _ _ => de_ix (hu_of hr) (de_var 2) (de_int))) (dss_one (ds_ret (de_op (od_add false) (de_var 1) (de_lc false rfl sc_atoms_of_deed.nd (own := [("effect", 3)]) (di_seq (de_ix (hu_of hr) (de_var 0) (de_int))) (blkOk_by (by rfl)) (fun _ _ _ _ _ => dgc_name (i := 3) sc_atoms_of_deed.nd) (fun _ _ _ _ _ => dts_nil) (fun _ _ _ _ _ => de_ix (hu_of hr) (de_var 3) (de_int))))))
theorem d_is_right_atom (F_kinds_above : Fn P w K mg base 1 "kinds_above" ["kinds"] (sp_kinds_above c)) {f : Addr} {cdv : Value} {A : Around} {outer : List Env} {s : Shared} {H : Hp} {E : XK} (hr : Room 1 (A.deeper (envOfC "is_right_atom" (defScope s_is_right_atom) s.heap.objs.size f cdv))) : DSs (cx P w K mg base N_is_right_atom "is_right_atom" s_is_right_atom f cdv A outer s H E) (defBody s_is_right_atom) (t_is_right_atom c) :=
  dss_cons (ds_set (i := 3) sc_is_right_atom.nd (de_dget1 (hu_of hr) (de_callTy (cd_dict false rfl) B.dic bt_dict (da_cons (de_ix (hu_of hr) (de_var 0) (de_int)) (da_nil))) (de_ix (hu_of hr) (de_var 2) (de_int)) ⟨rfl, rfl, rfl, rfl⟩)) (dss_cons (ds_if (dt_bool (dw_or (dt_cmp (od_isN) (de_var 3) (de_non)) (dw_or1 (dt_cmp (od_ne) (de_callB cd_len B.len bt_len (da_cons (de_var 3) (da_nil))) (de_callB cd_len B.len bt_len (da_cons (de_ix (hu_of hr) (de_var 2) (de_int)) (da_nil))))))) (dss_one (ds_ret (de_bl))) (dss_nil)) (dss_cons (ds_set (i := 4) sc_is_right_atom.nd (de_callTy (cd_dict false rfl) B.dic bt_dict (da_cons (de_ix (hu_of hr) (de_var 1) (de_int)) (da_nil)))) (dss_cons (ds_set (i := 5) sc_is_right_atom.nd (de_fn F_kinds_above hr (da_cons (de_ix (hu_of hr) (de_var 0) (de_int)) (da_nil)))) (dss_one (ds_ret (de_callB (cd_all rfl) B.all bt_all (da_cons (de_lc false rfl sc_is_right_atom.nd (own := [("word", 6), ("place", 7)]) (di_zip (de_ix (hu_of hr) (de_var 2) (de_int)) (de_var 3) B.zip) (blkOk_by (by rfl)) (fun _ _ _ _ _ => dgc_tup (n := 2) rfl (dgcs_cons (dgc_name (i := 6) sc_is_right_atom.nd) (dgcs_cons (dgc_name (i := 7) sc_is_right_atom.nd) (dgcs_nil)))) (fun _ _ _ _ _ => dts_nil) (fun _ _ _ _ _ => de_and (de_cmp (od_in (hu_of hr)) (de_var 6) (de_var 4)) (de_one (de_cmp (od_in (hu_of hr)) (de_var 7) (de_ix (hu_of hr) (de_var 5) (de_ix (hu_of hr) (de_var 4) (de_var 6))))))) (da_nil))))))))
theorem d_has_atom_fault (F_atoms_of_deed : Fn P w K mg base 3 "atoms_of_deed" ["deed"] (sp_atoms_of_deed c)) (F_is_right_atom : Fn P w K mg base 2 "is_right_atom" ["domain", "deed", "atom"] (sp_is_right_atom c)) (F_plain_of_deed : Fn P w K mg base 2 "plain_of_deed" ["deed"] (sp_plain_of_deed c)) {f : Addr} {cdv : Value} {A : Around} {outer : List Env} {s : Shared} {H : Hp} {E : XK} (hr : Room 3 (A.deeper (envOfC "has_atom_fault" (defScope s_has_atom_fault) s.heap.objs.size f cdv))) : DSs (cx P w K mg base N_has_atom_fault "has_atom_fault" s_has_atom_fault f cdv A outer s H E) (defBody s_has_atom_fault) (t_has_atom_fault c) :=
  dss_cons (ds_if (dt_not (dt_val (de_callB (cd_all rfl) B.all bt_all (da_cons (de_lc false rfl sc_has_atom_fault.nd (own := [("atom", 4)]) (di_seq (de_fn F_atoms_of_deed hr (da_cons (de_var 1) (da_nil)))) (blkOk_by (by rfl)) (fun _ _ _ _ _ => dgc_name (i := 4) sc_has_atom_fault.nd) (fun _ _ _ _ _ => dts_nil) (fun _ _ _ _ _ => de_fn F_is_right_atom hr (da_cons (de_var 0) (da_cons (de_var 1) (da_cons (de_var 4) (da_nil)))))) (da_nil))))) (dss_one (ds_ret (de_bl))) (dss_nil)) (dss_cons (ds_set (i := 2) sc_has_atom_fault.nd (de_callTy (cd_dict false rfl) B.dic bt_dict (da_cons (de_ix (hu_of hr) (de_var 1) (de_int)) (da_nil)))) (dss_cons (ds_setLc2 (i := 3) false [6] rfl sc_has_atom_fault.nd rfl (own := [("plain", 5), ("word", 6)]) (di_seq (de_fn F_plain_of_deed hr (da_cons (de_var 1) (da_nil)))) (blkOk_by (by rfl)) (fun _ _ _ _ _ => dgc_name (i := 5) sc_has_atom_fault.nd) (fun _ _ _ _ _ => dts_one (dt_cmp (od_in (hu_of hr)) (de_ix (hu_of hr) (de_var 5) (de_int)) (de_tup (da_cons (de_str) (da_cons (de_str) (da_nil)))))) (fun _ _ _ _ _ => di_seq (de_sl false (de_var 5) (do_some (de_int)) (do_none))) (fun _ _ _ _ _ => dgc_name (i := 6) sc_has_atom_fault.nd) (fun _ _ _ _ _ => dts_nil) (fun _ _ _ _ _ => de_var 6)) (dss_one (ds_ret (de_not (de_callB (cd_all rfl) B.all bt_all (da_cons (de_lc false rfl sc_has_atom_fault.nd (own := [("word", 6)]) (di_seq (de_var 3)) (blkOk_by (by rfl)) (fun _ _ _ _ _ => dgc_name (i := 6) sc_has_atom_fault.nd) (fun _ _ _ _ _ => dts_nil) (fun _ _ _ _ _ => de_cmp (od_in (hu_of hr)) (de_var 6) (de_var 2))) (da_nil))))))))
theorem d_has_cost_fault {f : Addr} {cdv : Value} {A : Around} {outer : List Env} {s : Shared} {H : Hp} {E : XK} (hr : Room 0 (A.deeper (envOfC "has_cost_fault" (defScope s_has_cost_fault) s.heap.objs.size f cdv))) : DSs (cx P w K mg base N_has_cost_fault "has_cost_fault" s_has_cost_fault f cdv A outer s H E) (defBody s_has_cost_fault) (t_has_cost_fault c) :=
  dss_cons (ds_if (dt_val (de_callB cd_isi B.isi bt_isinstance (da_cons (de_ix (hu_of hr) (de_var 0) (de_int)) (da_cons (de_ty B.int bt_int) (da_nil))))) (dss_one (ds_ret (de_cmp (od_lt) (de_ix (hu_of hr) (de_var 0) (de_int)) (de_int)))) (dss_nil)) (dss_cons (ds_set (i := 1) sc_has_cost_fault.nd (de_callTy (cd_dict false rfl) B.dic bt_dict (da_cons (de_ix (hu_of hr) (de_var 0) (de_int)) (da_nil)))) (dss_one (ds_ret (de_not (de_callB (cd_all rfl) B.all bt_all (da_cons (de_lc false rfl sc_has_cost_fault.nd (own := [("word", 2)]) (di_seq (de_ix (hu_of hr) (de_ix (hu_of hr) (de_var 0) (de_int)) (de_int))) (blkOk_by (by rfl)) (fun _ _ _ _ _ => dgc_name (i := 2) sc_has_cost_fault.nd) (fun _ _ _ _ _ => dts_nil) (fun _ _ _ _ _ => de_cmp (od_in (hu_of hr)) (de_var 2) (de_var 1))) (da_nil)))))))
theorem d_first_index {f : Addr} {cdv : Value} {A : Around} {outer : List Env} {s : Shared} {H : Hp} {E : XK} (hr : Room 0 (A.deeper (envOfC "first_index" (defScope s_first_index) s.heap.objs.size f cdv))) : DSs (cx P w K mg base N_first_index "first_index" s_first_index f cdv A outer s H E) (defBody s_first_index) (t_first_index c) :=
  dss_one (ds_ret (de_if (dt_cmp (od_in (hu_of hr)) (de_bl) (de_var 0)) (de_index (de_var 0) (de_bl)) (de_non)))
theorem d_check_domain (F_first_fault : Fn P w K mg base 5 "first_fault" ["domain", "fault"] (sp_first_fault c)) {f : Addr} {cdv : Value} {A : Around} {outer : List Env} {s : Shared} {H : Hp} {E : XK} (hr : Room 5 (A.deeper (envOfC "check_domain" (defScope s_check_domain) s.heap.objs.size f cdv))) : DSs (cx P w K mg base N_check_domain "check_domain" s_check_domain f cdv A outer s H E) (defBody s_check_domain) (t_check_domain c) :=
  dss_one (ds_for PassesOwn.never rfl (di_seq (de_tup (da_cons (de_str) (da_cons (de_str) (da_cons (de_str) (da_cons (de_str) (da_cons (de_str) (da_nil)))))))) (dg_name (i := 1) sc_check_domain.nd) (dss_cons (ds_set (i := 2) sc_check_domain.nd (de_fn F_first_fault hr (da_cons (de_var 0) (da_cons (de_var 1) (da_nil))))) (dss_one (ds_if (dt_cmp (od_notN) (de_var 2) (de_non)) (dss_one (ds_never)) (dss_nil)))))
theorem d_first_fault (F_deed_fault : Fn P w K mg base 2 "deed_fault" ["domain"] (sp_deed_fault c)) (F_first_index : Fn P w K mg base 1 "first_index" ["flags"] (sp_first_index c)) (F_has_atom_fault : Fn P w K mg base 4 "has_atom_fault" ["domain", "deed"] (sp_has_atom_fault c)) (F_has_cost_fault : Fn P w K mg base 1 "has_cost_fault" ["deed"] (sp_has_cost_fault c)) (F_kind_fault : Fn P w K mg base 1 "kind_fault" ["kinds"] (sp_kind_fault c)) (F_relation_fault : Fn P w K mg base 2 "relation_fault" ["domain"] (sp_relation_fault c)) {f : Addr} {cdv : Value} {A : Around} {outer : List Env} {s : Shared} {H : Hp} {E : XK} (hr : Room 4 (A.deeper (envOfC "first_fault" (defScope s_first_fault) s.heap.objs.size f cdv))) : DSs (cx P w K mg base N_first_fault "first_fault" s_first_fault f cdv A outer s H E) (defBody s_first_fault) (t_first_fault c) :=
  dss_cons (ds_if (dt_cmp (od_eq) (de_var 1) (de_str)) (dss_one (ds_ret (de_fn F_kind_fault hr (da_cons (de_ix (hu_of hr) (de_var 0) (de_int)) (da_nil))))) (dss_nil)) (dss_cons (ds_if (dt_cmp (od_eq) (de_var 1) (de_str)) (dss_one (ds_ret (de_fn F_relation_fault hr (da_cons (de_var 0) (da_nil))))) (dss_nil)) (dss_cons (ds_if (dt_cmp (od_eq) (de_var 1) (de_str)) (dss_one (ds_ret (de_fn F_deed_fault hr (da_cons (de_var 0) (da_nil))))) (dss_nil)) (dss_one (ds_ret (de_fn F_first_index hr (da_cons (de_lc false rfl sc_first_fault.nd (own := [("deed", 2)]) (di_seq (de_ix (hu_of hr) (de_var 0) (de_int))) (blkOk_by (by rfl)) (fun _ _ _ _ _ => dgc_name (i := 2) sc_first_fault.nd) (fun _ _ _ _ _ => dts_nil) (fun _ _ _ _ _ => de_if (dt_cmp (od_eq) (de_var 1) (de_str)) (de_fn F_has_atom_fault hr (da_cons (de_var 0) (da_cons (de_var 2) (da_nil)))) (de_fn F_has_cost_fault hr (da_cons (de_var 2) (da_nil))))) (da_nil)))))))
theorem d_TextLine_init (F_TextLine_skip_spaces : Mt P w K mg base 1 c.TextLine "skip_spaces" ["self"] (sp_TextLine_skip_spaces c)) {f : Addr} {cdv : Value} {A : Around} {outer : List Env} {s : Shared} {H : Hp} {E : XK} (hr : Room 1 (A.deeper (envOfC "TextLine.__init__" (defScope s_TextLine_init) s.heap.objs.size f cdv))) : DSs (cx P w K mg base N_TextLine_init "TextLine.__init__" s_TextLine_init f cdv A outer s H E) (defBody s_TextLine_init) (t_TextLine_init c) :=
  dss_cons (ds_fld C.cTextLine C.nTextLine_line_number (de_var 0) (de_var 1)) (dss_cons (ds_fld C.cTextLine C.nTextLine_line_text (de_var 0) (de_var 2)) (dss_cons (ds_fld C.cTextLine C.nTextLine_last_place (de_var 0) (de_int)) (dss_cons (ds_fld C.cTextLine C.nTextLine_line_place (de_var 0) (de_int)) (dss_one (ds_expr (de_mt0 C.cTextLine F_TextLine_skip_spaces hr (de_var 0)))))))
theorem d_TextLine_skip_spaces {f : Addr} {cdv : Value} {A : Around} {outer : List Env} {s : Shared} {H : Hp} {E : XK} (hr : Room 0 (A.deeper (envOfC "TextLine.skip_spaces" (defScope s_TextLine_skip_spaces) s.heap.objs.size f cdv))) : DSs (cx P w K mg base N_TextLine_skip_spaces "TextLine.skip_spaces" s_TextLine_skip_spaces f cdv A outer s H E) (defBody s_TextLine_skip_spaces) (t_TextLine_skip_spaces c) :=
  dss_one (ds_while PassesOwn.never (dt_bool (dw_and (dt_cmp (od_lt) (de_fld C.cTextLine C.nTextLine_line_place (de_var 0)) (de_callB cd_len B.len bt_len (da_cons (de_fld C.cTextLine C.nTextLine_line_text (de_var 0)) (da_nil)))) (dw_and1 (dt_cmp (od_eq) (de_ix (hu_of hr) (de_fld C.cTextLine C.nTextLine_line_text (de_var 0)) (de_fld C.cTextLine C.nTextLine_line_place (de_var 0))) (de_str))))) (dss_one (ds_fldaug C.cTextLine C.nTextLine_line_place (de_var 0) (de_int) in_addI)))
theorem d_TextLine_is_over {f : Addr} {cdv : Value} {A : Around} {outer : List Env} {s : Shared} {H : Hp} {E : XK} (hr : Room 0 (A.deeper (envOfC "TextLine.is_over" (defScope s_TextLine_is_over) s.heap.objs.size f cdv))) : DSs (cx P w K mg base N_TextLine_is_over "TextLine.is_over" s_TextLine_is_over f cdv A outer s H E) (defBody s_TextLine_is_over) (t_TextLine_is_over c) :=
  dss_one (ds_ret (de_cmp (od_eq) (de_fld C.cTextLine C.nTextLine_line_place (de_var 0)) (de_callB cd_len B.len bt_len (da_cons (de_fld C.cTextLine C.nTextLine_line_text (de_var 0)) (da_nil)))))
theorem d_TextLine_next_token {f : Addr} {cdv : Value} {A : Around} {outer : List Env} {s : Shared} {H : Hp} {E : XK} (hr : Room 0 (A.deeper (envOfC "TextLine.next_token" (defScope s_TextLine_next_token) s.heap.objs.size f cdv))) : DSs (cx P w K mg base N_TextLine_next_token "TextLine.next_token" s_TextLine_next_token f cdv A outer s H E) (defBody s_TextLine_next_token) (t_TextLine_next_token c) :=
  dss_cons (ds_set (i := 1) sc_TextLine_next_token.nd (de_fld C.cTextLine C.nTextLine_line_place (de_var 0))) (dss_cons (ds_while PassesOwn.never (dt_bool (dw_and (dt_cmp (od_lt) (de_var 1) (de_callB cd_len B.len bt_len (da_cons (de_fld C.cTextLine C.nTextLine_line_text (de_var 0)) (da_nil)))) (dw_and1 (dt_cmp (od_ne) (de_ix (hu_of hr) (de_fld C.cTextLine C.nTextLine_line_text (de_var 0)) (de_var 1)) (de_str))))) (dss_one (ds_aug (i := 1) sc_TextLine_next_token.nd (de_int) ip_addI))) (dss_one (ds_ret (de_sl false (de_fld C.cTextLine C.nTextLine_line_text (de_var 0)) (do_some (de_fld C.cTextLine C.nTextLine_line_place (de_var 0))) (do_some (de_var 1))))))
theorem d_TextLine_take_token (F_TextLine_next_token : Mt P w K mg base 1 c.TextLine "next_token" ["self"] (sp_TextLine_next_token c)) (F_TextLine_refuse_last : Mt P w K mg base 1 c.TextLine "refuse_last" ["self"] (sp_TextLine_refuse_last c)) (F_TextLine_skip_spaces : Mt P w K mg base 1 c.TextLine "skip_spaces" ["self"] (sp_TextLine_skip_spaces c)) {f : Addr} {cdv : Value} {A : Around} {outer : List Env} {s : Shared} {H : Hp} {E : XK} (hr : Room 1 (A.deeper (envOfC "TextLine.take_token" (defScope s_TextLine_take_token) s.heap.objs.size f cdv))) : DSs (cx P w K mg base N_TextLine_take_token "TextLine.take_token" s_TextLine_take_token f cdv A outer s H E) (defBody s_TextLine_take_token) (t_TextLine_take_token c) :=
  dss_cons (ds_set (i := 1) sc_TextLine_take_token.nd (de_mt0 C.cTextLine F_TextLine_next_token hr (de_var 0))) (dss_cons (ds_fld C.cTextLine C.nTextLine_last_place (de_var 0) (de_fld C.cTextLine C.nTextLine_line_place (de_var 0))) (dss_cons (ds_if (dt_cmp (od_eq) (de_var 1) (de_str)) (dss_one (ds_expr (de_mt0 C.cTextLine F_TextLine_refuse_last hr (de_var 0)))) (dss_nil)) (dss_cons (ds_fldaug C.cTextLine C.nTextLine_line_place (de_var 0) (de_callB cd_len B.len bt_len (da_cons (de_var 1) (da_nil))) in_addI) (dss_cons (ds_expr (de_mt0 C.cTextLine F_TextLine_skip_spaces hr (de_var 0))) (dss_one (ds_ret (de_var 1)))))))
theorem d_TextLine_refuse_last {f : Addr} {cdv : Value} {A : Around} {outer : List Env} {s : Shared} {H : Hp} {E : XK} (hr : Room 0 (A.deeper (envOfC "TextLine.refuse_last" (defScope s_TextLine_refuse_last) s.heap.objs.size f cdv))) : DSs (cx P w K mg base N_TextLine_refuse_last "TextLine.refuse_last" s_TextLine_refuse_last f cdv A outer s H E) (defBody s_TextLine_refuse_last) (t_TextLine_refuse_last c) :=
  dss_one (ds_never)
theorem d_TextLine_take_one_of (F_TextLine_refuse_last : Mt P w K mg base 1 c.TextLine "refuse_last" ["self"] (sp_TextLine_refuse_last c)) (F_TextLine_take_token : Mt P w K mg base 2 c.TextLine "take_token" ["self"] (sp_TextLine_take_token c)) {f : Addr} {cdv : Value} {A : Around} {outer : List Env} {s : Shared} {H : Hp} {E : XK} (hr : Room 2 (A.deeper (envOfC "TextLine.take_one_of" (defScope s_TextLine_take_one_of) s.heap.objs.size f cdv))) : DSs (cx P w K mg base N_TextLine_take_one_of "TextLine.take_one_of" s_TextLine_take_one_of f cdv A outer s H E) (defBody s_TextLine_take_one_of) (t_TextLine_take_one_of c) :=
  dss_cons (ds_set (i := 2) sc_TextLine_take_one_of.nd (de_mt0 C.cTextLine F_TextLine_take_token hr (de_var 0))) (dss_cons (ds_if (dt_cmp (od_notIn (hu_of hr)) (de_var 2) (de_var 1)) (dss_one (ds_expr (de_mt0 C.cTextLine F_TextLine_refuse_last hr (de_var 0)))) (dss_nil)) (dss_one (ds_ret (de_var 2))))
theorem d_TextLine_take_end (F_TextLine_is_over : Mt P w K mg base 1 c.TextLine "is_over" ["self"] (sp_TextLine_is_over c)) (F_TextLine_refuse_last : Mt P w K mg base 1 c.TextLine "refuse_last" ["self"] (sp_TextLine_refuse_last c)) {f : Addr} {cdv : Value} {A : Around} {outer : List Env} {s : Shared} {H : Hp} {E : XK} (hr : Room 1 (A.deeper (envOfC "TextLine.take_end" (defScope s_TextLine_take_end) s.heap.objs.size f cdv))) : DSs (cx P w K mg base N_TextLine_take_end "TextLine.take_end" s_TextLine_take_end f cdv A outer s H E) (defBody s_TextLine_take_end) (t_TextLine_take_end c) :=
  dss_one (ds_if (dt_not (dt_val (de_mt0 C.cTextLine F_TextLine_is_over hr (de_var 0)))) (dss_cons (ds_fld C.cTextLine C.nTextLine_last_place (de_var 0) (de_fld C.cTextLine C.nTextLine_line_place (de_var 0))) (dss_one (ds_expr (de_mt0 C.cTextLine F_TextLine_refuse_last hr (de_var 0))))) (dss_nil))
theorem d_text_lines (F_TextLine_init : Mkr P w K mg base 2 "TextLine" c.TextLine ["self", "number", "text"] (sp_TextLine_init c)) (F_TextLine_is_over : Mt P w K mg base 1 c.TextLine "is_over" ["self"] (sp_TextLine_is_over c)) {f : Addr} {cdv : Value} {A : Around} {outer : List Env} {s : Shared} {H : Hp} {E : XK} (hr : Room 3 (A.deeper (envOfC "text_lines" (defScope s_text_lines) s.heap.objs.size f cdv))) : DSs (cx P w K mg base N_text_lines "text_lines" s_text_lines f cdv A outer s H E) (defBody s_text_lines) (t_text_lines c) :=
  dss_cons (ds_setLc (i := 1) false rfl sc_text_lines.nd rfl (own := [("number", 2), ("line", 3)]) (di_enum (de_split (de_var 0) (de_str)) B.enu) (blkOk_by (by rfl)) (fun _ _ _ _ _ => dgc_tup (n := 2) rfl (dgcs_cons (dgc_name (i := 2) sc_text_lines.nd) (dgcs_cons (dgc_name (i := 3) sc_text_lines.nd) (dgcs_nil)))) (fun _ _ _ _ _ => dts_nil) (fun _ _ _ _ _ => de_mk F_TextLine_init hr (da_cons (de_var 2) (da_cons (de_var 3) (da_nil))))) (dss_one (ds_ret (de_lc false rfl sc_text_lines.nd (own := [("line", 3)]) (di_seq (de_var 1)) (blkOk_by (by rfl)) (fun _ _ _ _ _ => dgc_name (i := 3) sc_text_lines.nd) (fun _ _ _ _ _ => dts_one (dt_not (dt_val (de_mt0 C.cTextLine F_TextLine_is_over hr (de_var 3))))) (fun _ _ _ _ _ => de_var 3))))
theorem d_line_count {f : Addr} {cdv : Value} {A : Around} {outer : List Env} {s : Shared} {H : Hp} {E : XK} (hr : Room 0 (A.deeper (envOfC "line_count" (defScope s_line_count) s.heap.objs.size f cdv))) : DSs (cx P w K mg base N_line_count "line_count" s_line_count f cdv A outer s H E) (defBody s_line_count) (t_line_count c) :=
  dss_one (ds_ret (de_callB cd_len B.len bt_len (da_cons (de_split (de_var 0) (de_str)) (da_nil))))
theorem d_write_plain {f : Addr} {cdv : Value} {A : Around} {outer : List Env} {s : Shared} {H : Hp} {E : XK} (hr : Room 0 (A.deeper (envOfC "write_plain" (defScope s_write_plain) s.heap.objs.size f cdv))) : DSs (cx P w K mg base N_write_plain "write_plain" s_write_plain f cdv A outer s H E) (defBody s_write_plain) (t_write_plain c) :=
  dss_cons (ds_if (dt_cmp (od_in (hu_of hr)) (de_ix (hu_of hr) (de_var 0) (de_int)) (de_tup (da_cons (de_str) (da_cons (de_str) (da_nil))))) (dss_one (ds_ret (de_join (de_str) (de_op (od_add false) (de_tup (da_cons (de_ix (hu_of hr) (de_var 0) (de_int)) (da_cons (de_ix (hu_of hr) (de_ix (hu_of hr) (de_var 0) (de_int)) (de_int)) (da_nil)))) (de_ix (hu_of hr) (de_ix (hu_of hr) (de_var 0) (de_int)) (de_int)))))) (dss_nil)) (dss_one (ds_ret (de_join (de_str) (de_var 0))))
theorem d_write_condition (F_write_plain : Fn P w K mg base 1 "write_plain" ["plain"] (sp_write_plain c)) {f : Addr} {cdv : Value} {A : Around} {outer : List Env} {s : Shared} {H : Hp} {E : XK} (hr : Room 1 (A.deeper (envOfC "write_condition" (defScope s_write_condition) s.heap.objs.size f cdv))) : DSs (cx P w K mg base N_write_condition "write_condition" s_write_condition f cdv A outer s H E) (defBody s_write_condition) (t_write_condition c) :=
  dss_cons (ds_if (dt_cmp (od_eq) (de_ix (hu_of hr) (de_var 0) (de_int)) (de_str)) (dss_one (ds_ret (de_op (od_add false) (de_str) (de_join (de_str) (de_lc false rfl sc_write_condition.nd (own := [("plain", 1)]) (di_seq (de_ix (hu_of hr) (de_var 0) (de_int))) (blkOk_by (by rfl)) (fun _ _ _ _ _ => dgc_name (i := 1) sc_write_condition.nd) (fun _ _ _ _ _ => dts_nil) (fun _ _ _ _ _ => de_fn F_write_plain hr (da_cons (de_var 1) (da_nil)))))))) (dss_nil)) (dss_one (ds_ret (de_fn F_write_plain hr (da_cons (de_var 0) (da_nil)))))
theorem d_write_effect (F_write_plain : Fn P w K mg base 1 "write_plain" ["plain"] (sp_write_plain c)) {f : Addr} {cdv : Value} {A : Around} {outer : List Env} {s : Shared} {H : Hp} {E : XK} (hr : Room 1 (A.deeper (envOfC "write_effect" (defScope s_write_effect) s.heap.objs.size f cdv))) : DSs (cx P w K mg base N_write_effect "write_effect" s_write_effect f cdv A outer s H E) (defBody s_write_effect) (t_write_effect c) :=
  dss_cons (ds_set (i := 1) sc_write_effect.nd (de_join (de_str) (de_op (od_add false) (de_tup (da_cons (de_ix (hu_of hr) (de_var 0) (de_int)) (da_cons (de_ix (hu_of hr) (de_ix (hu_of hr) (de_var 0) (de_int)) (de_int)) (da_nil)))) (de_ix (hu_of hr) (de_ix (hu_of hr) (de_var 0) (de_int)) (de_int))))) (dss_cons (ds_if (dt_cmp (od_eq) (de_callB cd_len B.len bt_len (da_cons (de_ix (hu_of hr) (de_var 0) (de_int)) (da_nil))) (de_int)) (dss_one (ds_ret (de_var 1))) (dss_nil)) (dss_one (ds_ret (de_op (od_add false) (de_op (od_add false) (de_var 1) (de_str)) (de_join (de_str) (de_lc false rfl sc_write_effect.nd (own := [("plain", 2)]) (di_seq (de_ix (hu_of hr) (de_var 0) (de_int))) (blkOk_by (by rfl)) (fun _ _ _ _ _ => dgc_name (i := 2) sc_write_effect.nd) (fun _ _ _ _ _ => dts_nil) (fun _ _ _ _ _ => de_fn F_write_plain hr (da_cons (de_var 2) (da_nil)))))))))
theorem d_deed_lines (F_write_condition : Fn P w K mg base 2 "write_condition" ["condition"] (sp_write_condition c)) (F_write_effect : Fn P w K mg base 2 "write_effect" ["effect"] (sp_write_effect c)) {f : Addr} {cdv : Value} {A : Around} {outer : List Env} {s : Shared} {H : Hp} {E : XK} (hr : Room 2 (A.deeper (envOfC "deed_lines" (defScope s_deed_lines) s.heap.objs.size f cdv))) : DSs (cx P w K mg base N_deed_lines "deed_lines" s_deed_lines f cdv A outer s H E) (defBody s_deed_lines) (t_deed_lines c) :=
  dss_cons (ds_asg (de_var 0) (dg_tup (n := 5) rfl (dgs_cons (dg_name (i := 1) sc_deed_lines.nd) (dgs_cons (dg_name (i := 2) sc_deed_lines.nd) (dgs_cons (dg_name (i := 3) sc_deed_lines.nd) (dgs_cons (dg_name (i := 4) sc_deed_lines.nd) (dgs_cons (dg_name (i := 5) sc_deed_lines.nd) (dgs_nil)))))))) (dss_cons (ds_set (i := 6) sc_deed_lines.nd (de_lstO (da_cons (de_join (de_str) (de_op (od_add false) (de_lst (da_cons (de_str) (da_cons (de_var 1) (da_nil)))) (de_lc2 false [8] rfl sc_deed_lines.nd (own := [("pair", 7), ("part", 8)]) (di_seq (de_var 2)) (blkOk_by (by rfl)) (fun _ _ _ _ _ => dgc_name (i := 7) sc_deed_lines.nd) (fun _ _ _ _ _ => dts_nil) (fun _ _ _ _ _ => di_seq (de_var 7)) (fun _ _ _ _ _ => dgc_name (i := 8) sc_deed_lines.nd) (fun _ _ _ _ _ => dts_nil) (fun _ _ _ _ _ => de_var 8)))) (da_nil)))) (dss_cons (ds_expr (de_extend (de_var 6) (de_lc false rfl sc_deed_lines.nd (own := [("condition", 9)]) (di_seq (de_var 3)) (blkOk_by (by rfl)) (fun _ _ _ _ _ => dgc_name (i := 9) sc_deed_lines.nd) (fun _ _ _ _ _ => dts_nil) (fun _ _ _ _ _ => de_op (od_add false) (de_str) (de_fn F_write_condition hr (da_cons (de_var 9) (da_nil))))))) (dss_cons (ds_expr (de_extend (de_var 6) (de_lc false rfl sc_deed_lines.nd (own := [("effect", 10)]) (di_seq (de_var 4)) (blkOk_by (by rfl)) (fun _ _ _ _ _ => dgc_name (i := 10) sc_deed_lines.nd) (fun _ _ _ _ _ => dts_nil) (fun _ _ _ _ _ => de_fn F_write_effect hr (da_cons (de_var 10) (da_nil)))))) (dss_cons (ds_expr (de_append (de_var 6) (de_if (dt_val (de_callB cd_isi B.isi bt_isinstance (da_cons (de_var 5) (da_cons (de_ty B.int bt_int) (da_nil))))) (de_joined (.cons (de_str) (.cons (de_fmt (de_var 5)) (.nil)))) (de_join (de_str) (de_op (od_add false) (de_tup (da_cons (de_str) (da_cons (de_str) (da_cons (de_ix (hu_of hr) (de_var 5) (de_int)) (da_nil))))) (de_ix (hu_of hr) (de_var 5) (de_int))))))) (dss_one (ds_ret (de_var 6)))))))
theorem d_write_domain (F_deed_lines : Fn P w K mg base 3 "deed_lines" ["deed"] (sp_deed_lines c)) {f : Addr} {cdv : Value} {A : Around} {outer : List Env} {s : Shared} {H : Hp} {E : XK} (hr : Room 3 (A.deeper (envOfC "write_domain" (defScope s_write_domain) s.heap.objs.size f cdv))) : DSs (cx P w K mg base N_write_domain "write_domain" s_write_domain f cdv A outer s H E) (defBody s_write_domain) (t_write_domain c) :=
  dss_cons (ds_setLc (i := 1) true rfl sc_write_domain.nd rfl (own := [("word", 3), ("above", 4)]) (di_seq (de_ix (hu_of hr) (de_var 0) (de_int))) (blkOk_by (by rfl)) (fun _ _ _ _ _ => dgc_tup (n := 2) rfl (dgcs_cons (dgc_name (i := 3) sc_write_domain.nd) (dgcs_cons (dgc_name (i := 4) sc_write_domain.nd) (dgcs_nil)))) (fun _ _ _ _ _ => dts_nil) (fun _ _ _ _ _ => de_op (od_add false) (de_str) (de_if (dt_cmp (od_isN) (de_var 4) (de_non)) (de_var 3) (de_op (od_add false) (de_op (od_add false) (de_var 3) (de_str)) (de_var 4))))) (dss_cons (ds_expr (de_extend (de_var 1) (de_lc false rfl sc_write_domain.nd (own := [("word", 3), ("places", 5)]) (di_seq (de_ix (hu_of hr) (de_var 0) (de_int))) (blkOk_by (by rfl)) (fun _ _ _ _ _ => dgc_tup (n := 2) rfl (dgcs_cons (dgc_name (i := 3) sc_write_domain.nd) (dgcs_cons (dgc_name (i := 5) sc_write_domain.nd) (dgcs_nil)))) (fun _ _ _ _ _ => dts_nil) (fun _ _ _ _ _ => de_join (de_str) (de_op (od_add false) (de_tup (da_cons (de_str) (da_cons (de_var 3) (da_nil)))) (de_var 5)))))) (dss_cons (ds_for PassesOwn.never rfl (di_seq (de_ix (hu_of hr) (de_var 0) (de_int))) (dg_name (i := 2) sc_write_domain.nd) (dss_one (ds_expr (de_extend (de_var 1) (de_fn F_deed_lines hr (da_cons (de_var 2) (da_nil))))))) (dss_one (ds_ret (de_join (de_str) (de_var 1))))))
theorem d_take_word (F_TextLine_refuse_last : Mt P w K mg base 1 c.TextLine "refuse_last" ["self"] (sp_TextLine_refuse_last c)) (F_TextLine_take_token : Mt P w K mg base 2 c.TextLine "take_token" ["self"] (sp_TextLine_take_token c)) (F_is_word : Fn P w K mg base 1 "is_word" ["part"] (sp_is_word c)) {f : Addr} {cdv : Value} {A : Around} {outer : List Env} {s : Shared} {H : Hp} {E : XK} (hr : Room 2 (A.deeper (envOfC "take_word" (defScope s_take_word) s.heap.objs.size f cdv))) : DSs (cx P w K mg base N_take_word "take_word" s_take_word f cdv A outer s H E) (defBody s_take_word) (t_take_word c) :=
  dss_cons (ds_set (i := 1) sc_take_word.nd (de_mt0 C.cTextLine F_TextLine_take_token hr (de_var 0))) (dss_cons (ds_if (dt_bool (dw_or (dt_not (dt_val (de_fn F_is_word hr (da_cons (de_var 1) (da_nil))))) (dw_or1 (dt_cmp (od_in (hu_of hr)) (de_var 1) (de_glob G.MARKS))))) (dss_one (ds_expr (de_mt0 C.cTextLine F_TextLine_refuse_last hr (de_var 0)))) (dss_nil)) (dss_one (ds_ret (de_var 1))))
theorem d_take_words (F_TextLine_is_over : Mt P w K mg base 1 c.TextLine "is_over" ["self"] (sp_TextLine_is_over c)) (F_TextLine_next_token : Mt P w K mg base 1 c.TextLine "next_token" ["self"] (sp_TextLine_next_token c)) (F_take_word : Fn P w K mg base 3 "take_word" ["line"] (sp_take_word c)) {f : Addr} {cdv : Value} {A : Around} {outer : List Env} {s : Shared} {H : Hp} {E : XK} (hr : Room 3 (A.deeper (envOfC "take_words" (defScope s_take_words) s.heap.objs.size f cdv))) : DSs (cx P w K mg base N_take_words "take_words" s_take_words f cdv A outer s H E) (defBody s_take_words) (t_take_words c) :=
  dss_cons (ds_set (i := 1) sc_take_words.nd (de_lstO (da_nil))) (dss_cons (ds_while PassesOwn.never (dt_bool (dw_and (dt_not (dt_val (de_mt0 C.cTextLine F_TextLine_is_over hr (de_var 0)))) (dw_and1 (dt_cmp (od_notIn (hu_of hr)) (de_mt0 C.cTextLine F_TextLine_next_token hr (de_var 0)) (de_glob G.MARKS))))) (dss_one (ds_expr (de_append (de_var 1) (de_fn F_take_word hr (da_cons (de_var 0) (da_nil))))))) (dss_one (ds_ret (de_callTy (cd_tuple false) B.tup bt_tuple (da_cons (de_var 1) (da_nil))))))
theorem d_take_atom (F_take_word : Fn P w K mg base 3 "take_word" ["line"] (sp_take_word c)) (F_take_words : Fn P w K mg base 4 "take_words" ["line"] (sp_take_words c)) {f : Addr} {cdv : Value} {A : Around} {outer : List Env} {s : Shared} {H : Hp} {E : XK} (hr : Room 4 (A.deeper (envOfC "take_atom" (defScope s_take_atom) s.heap.objs.size f cdv))) : DSs (cx P w K mg base N_take_atom "take_atom" s_take_atom f cdv A outer s H E) (defBody s_take_atom) (t_take_atom c) :=
  dss_cons (ds_set (i := 1) sc_take_atom.nd (de_fn F_take_word hr (da_cons (de_var 0) (da_nil)))) (dss_one (ds_ret (de_tup (da_cons (de_var 1) (da_cons (de_fn F_take_words hr (da_cons (de_var 0) (da_nil))) (da_nil))))))
theorem d_take_plain (F_TextLine_take_one_of : Mt P w K mg base 3 c.TextLine "take_one_of" ["self", "known"] (sp_TextLine_take_one_of c)) (F_take_atom : Fn P w K mg base 5 "take_atom" ["line"] (sp_take_atom c)) (F_take_word : Fn P w K mg base 3 "take_word" ["line"] (sp_take_word c)) {f : Addr} {cdv : Value} {A : Around} {outer : List Env} {s : Shared} {H : Hp} {E : XK} (hr : Room 5 (A.deeper (envOfC "take_plain" (defScope s_take_plain) s.heap.objs.size f cdv))) : DSs (cx P w K mg base N_take_plain "take_plain" s_take_plain f cdv A outer s H E) (defBody s_take_plain) (t_take_plain c) :=
  dss_cons (ds_set (i := 2) sc_take_plain.nd (de_mt C.cTextLine F_TextLine_take_one_of hr (de_var 0) (da_cons (de_var 1) (da_nil)))) (dss_cons (ds_if (dt_cmp (od_in (hu_of hr)) (de_var 2) (de_tup (da_cons (de_str) (da_cons (de_str) (da_nil))))) (dss_one (ds_ret (de_tup (da_cons (de_var 2) (da_cons (de_fn F_take_atom hr (da_cons (de_var 0) (da_nil))) (da_nil)))))) (dss_nil)) (dss_cons (ds_set (i := 3) sc_take_plain.nd (de_fn F_take_word hr (da_cons (de_var 0) (da_nil)))) (dss_one (ds_ret (de_tup (da_cons (de_var 2) (da_cons (de_var 3) (da_cons (de_fn F_take_word hr (da_cons (de_var 0) (da_nil))) (da_nil)))))))))
theorem d_take_row_of_plain (F_TextLine_is_over : Mt P w K mg base 1 c.TextLine "is_over" ["self"] (sp_TextLine_is_over c)) (F_TextLine_next_token : Mt P w K mg base 1 c.TextLine "next_token" ["self"] (sp_TextLine_next_token c)) (F_TextLine_take_token : Mt P w K mg base 2 c.TextLine "take_token" ["self"] (sp_TextLine_take_token c)) (F_take_plain : Fn P w K mg base 6 "take_plain" ["line", "names"] (sp_take_plain c)) {f : Addr} {cdv : Value} {A : Around} {outer : List Env} {s : Shared} {H : Hp} {E : XK} (hr : Room 6 (A.deeper (envOfC "take_row_of_plain" (defScope s_take_row_of_plain) s.heap.objs.size f cdv))) : DSs (cx P w K mg base N_take_row_of_plain "take_row_of_plain" s_take_row_of_plain f cdv A outer s H E) (defBody s_take_row_of_plain) (t_take_row_of_plain c) :=
  dss_cons (ds_set (i := 3) sc_take_row_of_plain.nd (de_lstO (da_cons (de_fn F_take_plain hr (da_cons (de_var 0) (da_cons (de_var 1) (da_nil)))) (da_nil)))) (dss_cons (ds_while PassesOwn.never (dt_bool (dw_and (dt_not (dt_val (de_mt0 C.cTextLine F_TextLine_is_over hr (de_var 0)))) (dw_and1 (dt_cmp (od_eq) (de_mt0 C.cTextLine F_TextLine_next_token hr (de_var 0)) (de_var 2))))) (dss_cons (ds_expr (de_mt0 C.cTextLine F_TextLine_take_token hr (de_var 0))) (dss_one (ds_expr (de_append (de_var 3) (de_fn F_take_plain hr (da_cons (de_var 0) (da_cons (de_var 1) (da_nil))))))))) (dss_one (ds_ret (de_callTy (cd_tuple false) B.tup bt_tuple (da_cons (de_var 3) (da_nil))))))
theorem d_take_condition (F_TextLine_next_token : Mt P w K mg base 1 c.TextLine "next_token" ["self"] (sp_TextLine_next_token c)) (F_TextLine_take_one_of : Mt P w K mg base 3 c.TextLine "take_one_of" ["self", "known"] (sp_TextLine_take_one_of c)) (F_TextLine_take_token : Mt P w K mg base 2 c.TextLine "take_token" ["self"] (sp_TextLine_take_token c)) (F_take_plain : Fn P w K mg base 6 "take_plain" ["line", "names"] (sp_take_plain c)) (F_take_row_of_plain : Fn P w K mg base 7 "take_row_of_plain" ["line", "names", "mark"] (sp_take_row_of_plain c)) {f : Addr} {cdv : Value} {A : Around} {outer : List Env} {s : Shared} {H : Hp} {E : XK} (hr : Room 7 (A.deeper (envOfC "take_condition" (defScope s_take_condition) s.heap.objs.size f cdv))) : DSs (cx P w K mg base N_take_condition "take_condition" s_take_condition f cdv A outer s H E) (defBody s_take_condition) (t_take_condition c) :=
  dss_cons (ds_if (dt_cmp (od_eq) (de_mt0 C.cTextLine F_TextLine_next_token hr (de_var 0)) (de_str)) (dss_cons (ds_expr (de_mt0 C.cTextLine F_TextLine_take_token hr (de_var 0))) (dss_one (ds_ret (de_tup (da_cons (de_str) (da_cons (de_fn F_take_row_of_plain hr (da_cons (de_var 0) (da_cons (de_var 1) (da_cons (de_str) (da_nil))))) (da_nil))))))) (dss_nil)) (dss_cons (ds_if (dt_cmp (od_in (hu_of hr)) (de_mt0 C.cTextLine F_TextLine_next_token hr (de_var 0)) (de_var 1)) (dss_one (ds_ret (de_fn F_take_plain hr (da_cons (de_var 0) (da_cons (de_var 1) (da_nil)))))) (dss_nil)) (dss_cons (ds_expr (de_mt C.cTextLine F_TextLine_take_one_of hr (de_var 0) (da_cons (de_tup (da_nil)) (da_nil)))) (dss_one (ds_ret (de_non)))))
theorem d_take_effect (F_TextLine_is_over : Mt P w K mg base 1 c.TextLine "is_over" ["self"] (sp_TextLine_is_over c)) (F_TextLine_take_one_of : Mt P w K mg base 3 c.TextLine "take_one_of" ["self", "known"] (sp_TextLine_take_one_of c)) (F_take_atom : Fn P w K mg base 5 "take_atom" ["line"] (sp_take_atom c)) (F_take_row_of_plain : Fn P w K mg base 7 "take_row_of_plain" ["line", "names", "mark"] (sp_take_row_of_plain c)) {f : Addr} {cdv : Value} {A : Around} {outer : List Env} {s : Shared} {H : Hp} {E : XK} (hr : Room 7 (A.deeper (envOfC "take_effect" (defScope s_take_effect) s.heap.objs.size f cdv))) : DSs (cx P w K mg base N_take_effect "take_effect" s_take_effect f cdv A outer s H E) (defBody s_take_effect) (t_take_effect c) :=
  dss_cons (ds_set (i := 2) sc_take_effect.nd (de_fn F_take_atom hr (da_cons (de_var 0) (da_nil)))) (dss_cons (ds_if (dt_val (de_mt0 C.cTextLine F_TextLine_is_over hr (de_var 0))) (dss_one (ds_ret (de_tup (da_cons (de_var 1) (da_cons (de_var 2) (da_cons (de_tup (da_nil)) (da_nil))))))) (dss_nil)) (dss_cons (ds_expr (de_mt C.cTextLine F_TextLine_take_one_of hr (de_var 0) (da_cons (de_tup (da_cons (de_str) (da_nil))) (da_nil)))) (dss_one (ds_ret (de_tup (da_cons (de_var 1) (da_cons (de_var 2) (da_cons (de_fn F_take_row_of_plain hr (da_cons (de_var 0) (da_cons (de_tup (da_cons (de_str) (da_cons (de_str) (da_cons (de_str) (da_cons (de_str) (da_nil)))))) (da_cons (de_str) (da_nil))))) (da_nil)))))))))
theorem d_take_number (F_TextLine_refuse_last : Mt P w K mg base 1 c.TextLine "refuse_last" ["self"] (sp_TextLine_refuse_last c)) (F_TextLine_take_token : Mt P w K mg base 2 c.TextLine "take_token" ["self"] (sp_TextLine_take_token c)) (F_is_digits : Fn P w K mg base 1 "is_digits" ["token"] (sp_is_digits c)) {f : Addr} {cdv : Value} {A : Around} {outer : List Env} {s : Shared} {H : Hp} {E : XK} (hr : Room 2 (A.deeper (envOfC "take_number" (defScope s_take_number) s.heap.objs.size f cdv))) : DSs (cx P w K mg base N_take_number "take_number" s_take_number f cdv A outer s H E) (defBody s_take_number) (t_take_number c) :=
  dss_cons (ds_set (i := 1) sc_take_number.nd (de_mt0 C.cTextLine F_TextLine_take_token hr (de_var 0))) (dss_cons (ds_if (dt_not (dt_val (de_fn F_is_digits hr (da_cons (de_var 1) (da_nil))))) (dss_one (ds_expr (de_mt0 C.cTextLine F_TextLine_refuse_last hr (de_var 0)))) (dss_nil)) (dss_one (ds_ret (de_callTy cd_int B.int bt_int (da_cons (de_var 1) (da_nil))))))
theorem d_is_digits {f : Addr} {cdv : Value} {A : Around} {outer : List Env} {s : Shared} {H : Hp} {E : XK} (hr : Room 0 (A.deeper (envOfC "is_digits" (defScope s_is_digits) s.heap.objs.size f cdv))) : DSs (cx P w K mg base N_is_digits "is_digits" s_is_digits f cdv A outer s H E) (defBody s_is_digits) (t_is_digits c) :=
  dss_cons (ds_if (dt_bool (dw_or (dt_cmp (od_eq) (de_var 0) (de_str)) (dw_or1 (dt_val (de_callB (cd_any rfl) B.any bt_any (da_cons (de_lc false rfl sc_is_digits.nd (own := [("sign", 1)]) (di_seq (de_var 0)) (blkOk_by (by rfl)) (fun _ _ _ _ _ => dgc_name (i := 1) sc_is_digits.nd) (fun _ _ _ _ _ => dts_nil) (fun _ _ _ _ _ => de_cmp (od_notIn (hu_of hr)) (de_var 1) (de_str))) (da_nil))))))) (dss_one (ds_ret (de_bl))) (dss_nil)) (dss_one (ds_ret (de_or (de_cmp (od_eq) (de_var 0) (de_str)) (de_one (de_cmp (od_ne) (de_ix (hu_of hr) (de_var 0) (de_int)) (de_str))))))
theorem d_take_cost (F_TextLine_next_token : Mt P w K mg base 1 c.TextLine "next_token" ["self"] (sp_TextLine_next_token c)) (F_TextLine_take_token : Mt P w K mg base 2 c.TextLine "take_token" ["self"] (sp_TextLine_take_token c)) (F_take_number : Fn P w K mg base 3 "take_number" ["line"] (sp_take_number c)) (F_take_word : Fn P w K mg base 3 "take_word" ["line"] (sp_take_word c)) (F_take_words : Fn P w K mg base 4 "take_words" ["line"] (sp_take_words c)) {f : Addr} {cdv : Value} {A : Around} {outer : List Env} {s : Shared} {H : Hp} {E : XK} (hr : Room 4 (A.deeper (envOfC "take_cost" (defScope s_take_cost) s.heap.objs.size f cdv))) : DSs (cx P w K mg base N_take_cost "take_cost" s_take_cost f cdv A outer s H E) (defBody s_take_cost) (t_take_cost c) :=
  dss_cons (ds_if (dt_cmp (od_eq) (de_mt0 C.cTextLine F_TextLine_next_token hr (de_var 0)) (de_str)) (dss_cons (ds_expr (de_mt0 C.cTextLine F_TextLine_take_token hr (de_var 0))) (dss_one (ds_ret (de_tup (da_cons (de_str) (da_cons (de_fn F_take_word hr (da_cons (de_var 0) (da_nil))) (da_cons (de_fn F_take_words hr (da_cons (de_var 0) (da_nil))) (da_nil)))))))) (dss_nil)) (dss_one (ds_ret (de_fn F_take_number hr (da_cons (de_var 0) (da_nil)))))
theorem d_take_variables (F_TextLine_is_over : Mt P w K mg base 1 c.TextLine "is_over" ["self"] (sp_TextLine_is_over c)) (F_take_word : Fn P w K mg base 3 "take_word" ["line"] (sp_take_word c)) {f : Addr} {cdv : Value} {A : Around} {outer : List Env} {s : Shared} {H : Hp} {E : XK} (hr : Room 3 (A.deeper (envOfC "take_variables" (defScope s_take_variables) s.heap.objs.size f cdv))) : DSs (cx P w K mg base N_take_variables "take_variables" s_take_variables f cdv A outer s H E) (defBody s_take_variables) (t_take_variables c) :=
  dss_cons (ds_set (i := 1) sc_take_variables.nd (de_lstO (da_nil))) (dss_cons (ds_while PassesOwn.never (dt_not (dt_val (de_mt0 C.cTextLine F_TextLine_is_over hr (de_var 0)))) (dss_cons (ds_set (i := 2) sc_take_variables.nd (de_fn F_take_word hr (da_cons (de_var 0) (da_nil)))) (dss_one (ds_expr (de_append (de_var 1) (de_tup (da_cons (de_var 2) (da_cons (de_fn F_take_word hr (da_cons (de_var 0) (da_nil))) (da_nil))))))))) (dss_one (ds_ret (de_callTy (cd_tuple true) B.tup bt_tuple (da_cons (de_var 1) (da_nil))))))
theorem d_DomainReader_init {f : Addr} {cdv : Value} {A : Around} {outer : List Env} {s : Shared} {H : Hp} {E : XK} (hr : Room 0 (A.deeper (envOfC "DomainReader.__init__" (defScope s_DomainReader_init) s.heap.objs.size f cdv))) : DSs (cx P w K mg base N_DomainReader_init "DomainReader.__init__" s_DomainReader_init f cdv A outer s H E) (defBody s_DomainReader_init) (t_DomainReader_init c) :=
  dss_cons (ds_fld C.cDomainReader C.nDomainReader_read_kinds (de_var 0) (de_lstO (da_nil))) (dss_cons (ds_fld C.cDomainReader C.nDomainReader_read_relations (de_var 0) (de_lstO (da_nil))) (dss_cons (ds_fld C.cDomainReader C.nDomainReader_read_deeds (de_var 0) (de_lstO (da_nil))) (dss_one (ds_fld C.cDomainReader C.nDomainReader_open_deed (de_var 0) (de_non)))))
theorem d_DomainReader_known_words {f : Addr} {cdv : Value} {A : Around} {outer : List Env} {s : Shared} {H : Hp} {E : XK} (hr : Room 0 (A.deeper (envOfC "DomainReader.known_words" (defScope s_DomainReader_known_words) s.heap.objs.size f cdv))) : DSs (cx P w K mg base N_DomainReader_known_words "DomainReader.known_words" s_DomainReader_known_words f cdv A outer s H E) (defBody s_DomainReader_known_words) (t_DomainReader_known_words c) :=
  dss_cons (ds_if (dt_cmp (od_notN) (de_fld C.cDomainReader C.nDomainReader_open_deed (de_var 0)) (de_non)) (dss_one (ds_ret (de_if (dt_cmp (od_gt) (de_callB cd_len B.len bt_len (da_cons (de_ix (hu_of hr) (de_fld C.cDomainReader C.nDomainReader_open_deed (de_var 0)) (de_int)) (da_nil))) (de_int)) (de_tup (da_cons (de_str) (da_cons (de_str) (da_cons (de_str) (da_nil))))) (de_tup (da_cons (de_str) (da_cons (de_str) (da_cons (de_str) (da_cons (de_str) (da_nil))))))))) (dss_nil)) (dss_cons (ds_if (dt_cmp (od_gt) (de_callB cd_len B.len bt_len (da_cons (de_fld C.cDomainReader C.nDomainReader_read_deeds (de_var 0)) (da_nil))) (de_int)) (dss_one (ds_ret (de_tup (da_cons (de_str) (da_nil))))) (dss_nil)) (dss_one (ds_ret (de_if (dt_cmp (od_gt) (de_callB cd_len B.len bt_len (da_cons (de_fld C.cDomainReader C.nDomainReader_read_relations (de_var 0)) (da_nil))) (de_int)) (de_tup (da_cons (de_str) (da_cons (de_str) (da_nil)))) (de_tup (da_cons (de_str) (da_cons (de_str) (da_cons (de_str) (da_nil)))))))))
theorem d_DomainReader_read_line (F_DomainReader_known_words : Mt P w K mg base 1 c.DomainReader "known_words" ["self"] (sp_DomainReader_known_words c)) (F_TextLine_is_over : Mt P w K mg base 1 c.TextLine "is_over" ["self"] (sp_TextLine_is_over c)) (F_TextLine_take_end : Mt P w K mg base 2 c.TextLine "take_end" ["self"] (sp_TextLine_take_end c)) (F_TextLine_take_one_of : Mt P w K mg base 3 c.TextLine "take_one_of" ["self", "known"] (sp_TextLine_take_one_of c)) (F_take_atom : Fn P w K mg base 5 "take_atom" ["line"] (sp_take_atom c)) (F_take_condition : Fn P w K mg base 8 "take_condition" ["line", "names"] (sp_take_condition c)) (F_take_cost : Fn P w K mg base 5 "take_cost" ["line"] (sp_take_cost c)) (F_take_effect : Fn P w K mg base 8 "take_effect" ["line", "name"] (sp_take_effect c)) (F_take_variables : Fn P w K mg base 4 "take_variables" ["line"] (sp_take_variables c)) (F_take_word : Fn P w K mg base 3 "take_word" ["line"] (sp_take_word c)) {f : Addr} {cdv : Value} {A : Around} {outer : List Env} {s : Shared} {H : Hp} {E : XK} (hr : Room 8 (A.deeper (envOfC "DomainReader.read_line" (defScope s_DomainReader_read_line) s.heap.objs.size f cdv))) : DSs (cx P w K mg base N_DomainReader_read_line "DomainReader.read_line" s_DomainReader_read_line f cdv A outer s H E) (defBody s_DomainReader_read_line) (t_DomainReader_read_line c) :=
  dss_cons (ds_set (i := 2) sc_DomainReader_read_line.nd (de_mt C.cTextLine F_TextLine_take_one_of hr (de_var 1) (da_cons (de_mt0 C.cDomainReader F_DomainReader_known_words hr (de_var 0)) (da_nil)))) (dss_cons (ds_if (dt_cmp (od_eq) (de_var 2) (de_str)) (dss_cons (ds_set (i := 3) sc_DomainReader_read_line.nd (de_fn F_take_word hr (da_cons (de_var 1) (da_nil)))) (dss_one (ds_expr (de_append (de_fld C.cDomainReader C.nDomainReader_read_kinds (de_var 0)) (de_tup (da_cons (de_var 3) (da_cons (de_if (dt_val (de_mt0 C.cTextLine F_TextLine_is_over hr (de_var 1))) (de_non) (de_fn F_take_word hr (da_cons (de_var 1) (da_nil)))) (da_nil)))))))) (dss_one (ds_if (dt_cmp (od_eq) (de_var 2) (de_str)) (dss_one (ds_expr (de_append (de_fld C.cDomainReader C.nDomainReader_read_relations (de_var 0)) (de_fn F_take_atom hr (da_cons (de_var 1) (da_nil)))))) (dss_one (ds_if (dt_cmp (od_eq) (de_var 2) (de_str)) (dss_one (ds_fld C.cDomainReader C.nDomainReader_open_deed (de_var 0) (de_tup (da_cons (de_fn F_take_word hr (da_cons (de_var 1) (da_nil))) (da_cons (de_fn F_take_variables hr (da_cons (de_var 1) (da_nil))) (da_cons (de_lstO (da_nil)) (da_cons (de_lstO (da_nil)) (da_nil)))))))) (dss_one (ds_if (dt_cmp (od_eq) (de_var 2) (de_str)) (dss_one (ds_expr (de_append (de_ix (hu_of hr) (de_fld C.cDomainReader C.nDomainReader_open_deed (de_var 0)) (de_int)) (de_fn F_take_condition hr (da_cons (de_var 1) (da_cons (de_tup (da_cons (de_str) (da_cons (de_str) (da_cons (de_str) (da_cons (de_str) (da_nil)))))) (da_nil))))))) (dss_one (ds_if (dt_cmp (od_eq) (de_var 2) (de_str)) (dss_cons (ds_asg (de_fld C.cDomainReader C.nDomainReader_open_deed (de_var 0)) (dg_tup (n := 4) rfl (dgs_cons (dg_name (i := 4) sc_DomainReader_read_line.nd) (dgs_cons (dg_name (i := 5) sc_DomainReader_read_line.nd) (dgs_cons (dg_name (i := 6) sc_DomainReader_read_line.nd) (dgs_cons (dg_name (i := 7) sc_DomainReader_read_line.nd) (dgs_nil))))))) (dss_cons (ds_expr (de_append (de_fld C.cDomainReader C.nDomainReader_read_deeds (de_var 0)) (de_tup (da_cons (de_var 4) (da_cons (de_var 5) (da_cons (de_callTy (cd_tuple false) B.tup bt_tuple (da_cons (de_var 6) (da_nil))) (da_cons (de_callTy (cd_tuple false) B.tup bt_tuple (da_cons (de_var 7) (da_nil))) (da_cons (de_fn F_take_cost hr (da_cons (de_var 1) (da_nil))) (da_nil))))))))) (dss_one (ds_fld C.cDomainReader C.nDomainReader_open_deed (de_var 0) (de_non))))) (dss_one (ds_expr (de_append (de_ix (hu_of hr) (de_fld C.cDomainReader C.nDomainReader_open_deed (de_var 0)) (de_int)) (de_fn F_take_effect hr (da_cons (de_var 1) (da_cons (de_var 2) (da_nil)))))))))))))))) (dss_one (ds_expr (de_mt0 C.cTextLine F_TextLine_take_end hr (de_var 1)))))
theorem d_DomainReader_told_domain (F_check_domain : Fn P w K mg base 6 "check_domain" ["domain"] (sp_check_domain c)) (F_line_count : Fn P w K mg base 1 "line_count" ["text"] (sp_line_count c)) {f : Addr} {cdv : Value} {A : Around} {outer : List Env} {s : Shared} {H : Hp} {E : XK} (hr : Room 6 (A.deeper (envOfC "DomainReader.told_domain" (defScope s_DomainReader_told_domain) s.heap.objs.size f cdv))) : DSs (cx P w K mg base N_DomainReader_told_domain "DomainReader.told_domain" s_DomainReader_told_domain f cdv A outer s H E) (defBody s_DomainReader_told_domain) (t_DomainReader_told_domain c) :=
  dss_cons (ds_set (i := 2) sc_DomainReader_told_domain.nd (de_tup (da_cons (de_callTy (cd_tuple false) B.tup bt_tuple (da_cons (de_fld C.cDomainReader C.nDomainReader_read_kinds (de_var 0)) (da_nil))) (da_cons (de_callTy (cd_tuple true) B.tup bt_tuple (da_cons (de_fld C.cDomainReader C.nDomainReader_read_relations (de_var 0)) (da_nil))) (da_cons (de_callTy (cd_tuple false) B.tup bt_tuple (da_cons (de_fld C.cDomainReader C.nDomainReader_read_deeds (de_var 0)) (da_nil))) (da_nil)))))) (dss_cons (ds_try (dss_one (ds_expr (de_fn F_check_domain hr (da_cons (de_var 2) (da_nil)))))) (dss_cons (ds_if (dt_cmp (od_notN) (de_fld C.cDomainReader C.nDomainReader_open_deed (de_var 0)) (de_non)) (dss_one (ds_never)) (dss_nil)) (dss_one (ds_ret (de_var 2)))))
theorem d_read_domain (F_DomainReader_init : Mkr P w K mg base 1 "DomainReader" c.DomainReader ["self"] (sp_DomainReader_init c)) (F_DomainReader_read_line : Mt P w K mg base 9 c.DomainReader "read_line" ["self", "line"] (sp_DomainReader_read_line c)) (F_DomainReader_told_domain : Mt P w K mg base 7 c.DomainReader "told_domain" ["self", "text"] (sp_DomainReader_told_domain c)) (F_text_lines : Fn P w K mg base 4 "text_lines" ["text"] (sp_text_lines c)) {f : Addr} {cdv : Value} {A : Around} {outer : List Env} {s : Shared} {H : Hp} {E : XK} (hr : Room 9 (A.deeper (envOfC "read_domain" (defScope s_read_domain) s.heap.objs.size f cdv))) : DSs (cx P w K mg base N_read_domain "read_domain" s_read_domain f cdv A outer s H E) (defBody s_read_domain) (t_read_domain c) :=
  dss_cons (ds_set (i := 1) sc_read_domain.nd (de_mk0 F_DomainReader_init hr)) (dss_cons (ds_for PassesOwn.never rfl (di_seq (de_fn F_text_lines hr (da_cons (de_var 0) (da_nil)))) (dg_name (i := 2) sc_read_domain.nd) (dss_one (ds_expr (de_mt C.cDomainReader F_DomainReader_read_line hr (de_var 1) (da_cons (de_var 2) (da_nil)))))) (dss_one (ds_ret (de_mt C.cDomainReader F_DomainReader_told_domain hr (de_var 1) (da_cons (de_var 0) (da_nil))))))
theorem d__law_draws {f : Addr} {cdv : Value} {A : Around} {outer : List Env} {s : Shared} {H : Hp} {E : XK} (hr : Room 0 (A.deeper (envOfC "_law_draws" (defScope s__law_draws) s.heap.objs.size f cdv))) : DSs (cx P w K mg base N__law_draws "_law_draws" s__law_draws f cdv A outer s H E) (defBody s__law_draws) (t__law_draws c) :=
  dss_cons (ds_setLc (i := 2) true rfl sc__law_draws.nd rfl (own := [("cell", 8)]) (di_seq (de_sl false (de_var 0) (do_none) (do_some (de_int)))) (blkOk_by (by rfl)) (fun _ _ _ _ _ => dgc_name (i := 8) sc__law_draws.nd) (fun _ _ _ _ _ => dts_nil) (fun _ _ _ _ _ => de_op (od_mod) (de_callTy cd_int B.int bt_int (da_cons (de_var 8) (da_nil))) (de_op (od_shl) (de_int) (de_int)))) (dss_cons (ds_if (dt_cmp (od_eq) (de_callB cd_len B.len bt_len (da_cons (de_var 2) (da_nil))) (de_int)) (dss_one (ds_expr (de_append (de_var 2) (de_int)))) (dss_nil)) (dss_cons (ds_set (i := 3) sc__law_draws.nd (de_callTy (cd_list true) B.lst bt_list (da_cons (de_var 2) (da_nil)))) (dss_cons (ds_set (i := 4) sc__law_draws.nd (de_lstO (da_nil))) (dss_cons (ds_for PassesOwn.never rfl (di_range1 (de_var 1) B.ran) (dg_name (i := 5) sc__law_draws.nd) (dss_cons (ds_set (i := 6) sc__law_draws.nd (de_op (od_mod) (de_callTy cd_int B.int bt_int (da_cons (de_var 5) (da_nil))) (de_callB cd_len B.len bt_len (da_cons (de_var 2) (da_nil))))) (dss_one (ds_if (dt_bool (dw_and (dt_cmp (od_ge) (de_ix (hu_of hr) (de_var 2) (de_var 6)) (de_op (od_pow) (de_int) (de_int))) (dw_and1 (dt_cmp (od_gt) (de_ix (hu_of hr) (de_var 3) (de_var 6)) (de_int))))) (dss_cons (ds_expr (de_append (de_var 4) (de_op (od_mod) (de_callTy cd_int B.int bt_int (da_cons (de_ix (hu_of hr) (de_var 3) (de_var 6)) (da_nil))) (de_int)))) (dss_one (ds_asg (de_op (od_div) (de_ix (hu_of hr) (de_var 3) (de_var 6)) (de_int)) (dg_sub (hu_of hr) (de_var 3) (de_var 6))))) (dss_cons (ds_set (i := 7) sc__law_draws.nd (de_op (od_mod) (de_callTy cd_int B.int bt_int (da_cons (de_op (od_add false) (de_op (od_add false) (de_op (od_mul false) (de_ix (hu_of hr) (de_var 2) (de_var 6)) (de_int)) (de_op (od_mul false) (de_var 5) (de_int))) (de_int)) (da_nil))) (de_int))) (dss_one (ds_expr (de_append (de_var 4) (de_op (od_mod) (de_callTy cd_int B.int bt_int (da_cons (de_op (od_add false) (de_op (od_add false) (de_op (od_mul false) (de_var 7) (de_var 7)) (de_op (od_mul false) (de_int) (de_var 7))) (de_var 5)) (da_nil))) (de_int)))))))))) (dss_cons (ds_expr (de_reverse (de_var 4))) (dss_one (ds_ret (de_var 4))))))))
theorem d__law_take {f : Addr} {cdv : Value} {A : Around} {outer : List Env} {s : Shared} {H : Hp} {E : XK} (hr : Room 0 (A.deeper (envOfC "_law_take" (defScope s__law_take) s.heap.objs.size f cdv))) : DSs (cx P w K mg base N__law_take "_law_take" s__law_take f cdv A outer s H E) (defBody s__law_take) (t__law_take c) :=
  dss_cons (ds_if (dt_cmp (od_eq) (de_callB cd_len B.len bt_len (da_cons (de_var 0) (da_nil))) (de_int)) (dss_one (ds_ret (de_int))) (dss_nil)) (dss_one (ds_ret (de_op (od_mod) (de_callTy cd_int B.int bt_int (da_cons (de_pop (de_var 0)) (da_nil))) (de_var 1))))
theorem d__law_pick (F__law_take : Fn P w K mg base 1 "_law_take" ["draws", "many"] (sp__law_take c)) {f : Addr} {cdv : Value} {A : Around} {outer : List Env} {s : Shared} {H : Hp} {E : XK} (hr : Room 1 (A.deeper (envOfC "_law_pick" (defScope s__law_pick) s.heap.objs.size f cdv))) : DSs (cx P w K mg base N__law_pick "_law_pick" s__law_pick f cdv A outer s H E) (defBody s__law_pick) (t__law_pick c) :=
  dss_one (ds_ret (de_ix (hu_of hr) (de_var 1) (de_fn F__law_take hr (da_cons (de_var 0) (da_cons (de_callB cd_len B.len bt_len (da_cons (de_var 1) (da_nil))) (da_nil))))))
theorem d__law_same {n : Nat} {spR : SpD} (F__law_same : Fn P w K mg base n "_law_same" ["actual", "due"] (spR)) {f : Addr} {cdv : Value} {A : Around} {outer : List Env} {s : Shared} {H : Hp} {E : XK} (hr : Room n (A.deeper (envOfC "_law_same" (defScope s__law_same) s.heap.objs.size f cdv))) : DSs (cx P w K mg base N__law_same "_law_same" s__law_same f cdv A outer s H E) (defBody s__law_same) (t__law_same c spR) :=
  dss_cons (ds_if (dt_val (de_callB cd_isi B.isi bt_isinstance (da_cons (de_var 1) (da_cons (de_tup (da_cons (de_ty B.tup bt_tuple) (da_cons (de_ty B.lst bt_list) (da_nil)))) (da_nil))))) (dss_cons (ds_if (dt_bool (dw_or (dt_cmp (od_ne) (de_callB cd_isi B.isi bt_isinstance (da_cons (de_var 0) (da_cons (de_ty B.tup bt_tuple) (da_nil)))) (de_callB cd_isi B.isi bt_isinstance (da_cons (de_var 1) (da_cons (de_ty B.tup bt_tuple) (da_nil))))) (dw_or1 (dt_cmp (od_ne) (de_callB cd_isi B.isi bt_isinstance (da_cons (de_var 0) (da_cons (de_ty B.lst bt_list) (da_nil)))) (de_callB cd_isi B.isi bt_isinstance (da_cons (de_var 1) (da_cons (de_ty B.lst bt_list) (da_nil)))))))) (dss_one (ds_ret (de_bl))) (dss_nil)) (dss_cons (ds_if (dt_cmp (od_ne) (de_callB cd_len B.len bt_len (da_cons (de_var 0) (da_nil))) (de_callB cd_len B.len bt_len (da_cons (de_var 1) (da_nil)))) (dss_one (ds_ret (de_bl))) (dss_nil)) (dss_one (ds_ret (de_cmp (od_notIn (hu_of hr)) (de_bl) (de_lc false rfl sc__law_same.nd (own := [("k", 2)]) (di_range1 (de_callB cd_len B.len bt_len (da_cons (de_var 1) (da_nil))) B.ran) (blkOk_by (by rfl)) (fun _ _ _ _ _ => dgc_name (i := 2) sc__law_same.nd) (fun _ _ _ _ _ => dts_nil) (fun _ _ _ _ _ => de_fn F__law_same hr (da_cons (de_ix (hu_of hr) (de_var 0) (de_var 2)) (da_cons (de_ix (hu_of hr) (de_var 1) (de_var 2)) (da_nil))) (hk := Nat.le_refl _)))))))) (dss_nil)) (dss_cons (ds_if (dt_bool (dw_or (dt_cmp (od_ne) (de_callB cd_isi B.isi bt_isinstance (da_cons (de_var 0) (da_cons (de_ty B.bool bt_bool) (da_nil)))) (de_callB cd_isi B.isi bt_isinstance (da_cons (de_var 1) (da_cons (de_ty B.bool bt_bool) (da_nil))))) (dw_or1 (dt_cmp (od_ne) (de_callB cd_isi B.isi bt_isinstance (da_cons (de_var 0) (da_cons (de_ty B.int bt_int) (da_nil)))) (de_callB cd_isi B.isi bt_isinstance (da_cons (de_var 1) (da_cons (de_ty B.int bt_int) (da_nil)))))))) (dss_one (ds_ret (de_bl))) (dss_nil)) (dss_cons (ds_if (dt_bool (dw_or (dt_cmp (od_ne) (de_callB cd_isi B.isi bt_isinstance (da_cons (de_var 0) (da_cons (de_ty B.str bt_str) (da_nil)))) (de_callB cd_isi B.isi bt_isinstance (da_cons (de_var 1) (da_cons (de_ty B.str bt_str) (da_nil))))) (dw_or1 (dt_cmp (od_ne) (de_cmp (od_isN) (de_var 0) (de_non)) (de_cmp (od_isN) (de_var 1) (de_non)))))) (dss_one (ds_ret (de_bl))) (dss_nil)) (dss_one (ds_ret (de_cmp (od_eq) (de_var 0) (de_var 1))))))
theorem d__law_plain_words (F__law_pick : Fn P w K mg base 2 "_law_pick" ["draws", "row"] (sp__law_pick c)) (F__law_take : Fn P w K mg base 1 "_law_take" ["draws", "many"] (sp__law_take c)) {f : Addr} {cdv : Value} {A : Around} {outer : List Env} {s : Shared} {H : Hp} {E : XK} (hr : Room 2 (A.deeper (envOfC "_law_plain_words" (defScope s__law_plain_words) s.heap.objs.size f cdv))) : DSs (cx P w K mg base N__law_plain_words "_law_plain_words" s__law_plain_words f cdv A outer s H E) (defBody s__law_plain_words) (t__law_plain_words c) :=
  dss_cons (ds_set (i := 2) sc__law_plain_words.nd (de_lstO (da_nil))) (dss_cons (ds_for PassesOwn.never rfl (di_range1 (de_var 1) B.ran) (dg_name (i := 3) sc__law_plain_words.nd) (dss_cons (ds_set (i := 4) sc__law_plain_words.nd (de_op (od_add false) (de_op (od_add false) (de_int) (de_fn F__law_take hr (da_cons (de_var 0) (da_cons (de_int) (da_nil))))) (de_fn F__law_pick hr (da_cons (de_var 0) (da_cons (de_lst (da_cons (de_int) (da_cons (de_int) (da_cons (de_int) (da_cons (de_int) (da_cons (de_int) (da_cons (de_int) (da_cons (de_int) (da_cons (de_int) (da_cons (de_int) (da_nil))))))))))) (da_nil)))))) (dss_cons (ds_set (i := 5) sc__law_plain_words.nd (de_join (de_str) (de_lc false rfl sc__law_plain_words.nd (own := [("j", 6)]) (di_range1 (de_var 4) B.ran) (blkOk_by (by rfl)) (fun _ _ _ _ _ => dgc_name (i := 6) sc__law_plain_words.nd) (fun _ _ _ _ _ => dts_nil) (fun _ _ _ _ _ => de_ix (hu_of hr) (de_str) (de_fn F__law_take hr (da_cons (de_var 0) (da_cons (de_int) (da_nil)))))))) (dss_cons (ds_if (dt_cmp (od_in (hu_of hr)) (de_var 5) (de_op (od_add false) (de_var 2) (de_lst (da_cons (de_str) (da_cons (de_str) (da_cons (de_str) (da_cons (de_str) (da_cons (de_str) (da_cons (de_str) (da_cons (de_str) (da_cons (de_str) (da_cons (de_str) (da_nil))))))))))))) (dss_one (ds_set (i := 5) sc__law_plain_words.nd (de_op (od_mul false) (de_str) (de_op (od_add false) (de_int) (de_callB (cd_max rfl) B.max bt_max (da_cons (de_op (od_add false) (de_lst (da_cons (de_int) (da_nil))) (de_lc false rfl sc__law_plain_words.nd (own := [("other", 7)]) (di_seq (de_var 2)) (blkOk_by (by rfl)) (fun _ _ _ _ _ => dgc_name (i := 7) sc__law_plain_words.nd) (fun _ _ _ _ _ => dts_nil) (fun _ _ _ _ _ => de_callB cd_len B.len bt_len (da_cons (de_var 7) (da_nil))))) (da_nil))))))) (dss_nil)) (dss_one (ds_expr (de_append (de_var 2) (de_var 5)))))))) (dss_one (ds_ret (de_var 2))))
theorem d__law_is_beneath {f : Addr} {cdv : Value} {A : Around} {outer : List Env} {s : Shared} {H : Hp} {E : XK} (hr : Room 0 (A.deeper (envOfC "_law_is_beneath" (defScope s__law_is_beneath) s.heap.objs.size f cdv))) : DSs (cx P w K mg base N__law_is_beneath "_law_is_beneath" s__law_is_beneath f cdv A outer s H E) (defBody s__law_is_beneath) (t__law_is_beneath c) :=
  dss_cons (ds_set (i := 3) sc__law_is_beneath.nd (de_var 1)) (dss_cons (ds_for PassesOwn.never rfl (di_range1 (de_callB cd_len B.len bt_len (da_cons (de_var 0) (da_nil))) B.ran) (dg_name (i := 4) sc__law_is_beneath.nd) (dss_one (ds_if (dt_cmp (od_notIn (hu_of hr)) (de_var 3) (de_lst (da_cons (de_var 2) (da_cons (de_non) (da_nil))))) (dss_one (ds_set (i := 3) sc__law_is_beneath.nd (de_ix (hu_of hr) (de_callTy (cd_dict false rfl) B.dic bt_dict (da_cons (de_var 0) (da_nil))) (de_var 3)))) (dss_nil)))) (dss_one (ds_ret (de_cmp (od_eq) (de_var 3) (de_var 2)))))
theorem d__law_drawn_atom (F__law_is_beneath : Fn P w K mg base 1 "_law_is_beneath" ["kinds", "kind", "above"] (sp__law_is_beneath c)) (F__law_pick : Fn P w K mg base 2 "_law_pick" ["draws", "row"] (sp__law_pick c)) {f : Addr} {cdv : Value} {A : Around} {outer : List Env} {s : Shared} {H : Hp} {E : XK} (hr : Room 2 (A.deeper (envOfC "_law_drawn_atom" (defScope s__law_drawn_atom) s.heap.objs.size f cdv))) : DSs (cx P w K mg base N__law_drawn_atom "_law_drawn_atom" s__law_drawn_atom f cdv A outer s H E) (defBody s__law_drawn_atom) (t__law_drawn_atom c) :=
  dss_cons (ds_asg (de_fn F__law_pick hr (da_cons (de_var 0) (da_cons (de_var 2) (da_nil)))) (dg_tup (n := 2) rfl (dgs_cons (dg_name (i := 4) sc__law_drawn_atom.nd) (dgs_cons (dg_name (i := 5) sc__law_drawn_atom.nd) (dgs_nil))))) (dss_cons (ds_set (i := 6) sc__law_drawn_atom.nd (de_lstO (da_nil))) (dss_cons (ds_for PassesOwn.never rfl (di_seq (de_var 5)) (dg_name (i := 7) sc__law_drawn_atom.nd) (dss_cons (ds_setLc (i := 8) false rfl sc__law_drawn_atom.nd rfl (own := [("pair", 9)]) (di_seq (de_var 3)) (blkOk_by (by rfl)) (fun _ _ _ _ _ => dgc_name (i := 9) sc__law_drawn_atom.nd) (fun _ _ _ _ _ => dts_one (dt_val (de_fn F__law_is_beneath hr (da_cons (de_var 1) (da_cons (de_ix (hu_of hr) (de_var 9) (de_int)) (da_cons (de_var 7) (da_nil))))))) (fun _ _ _ _ _ => de_ix (hu_of hr) (de_var 9) (de_int))) (dss_cons (ds_if (dt_cmp (od_eq) (de_callB cd_len B.len bt_len (da_cons (de_var 8) (da_nil))) (de_int)) (dss_one (ds_ret (de_tup (da_cons (de_ix (hu_of hr) (de_ix (hu_of hr) (de_var 2) (de_int)) (de_int)) (da_cons (de_tup (da_nil)) (da_nil)))))) (dss_nil)) (dss_one (ds_expr (de_append (de_var 6) (de_fn F__law_pick hr (da_cons (de_var 0) (da_cons (de_var 8) (da_nil)))))))))) (dss_one (ds_ret (de_tup (da_cons (de_var 4) (da_cons (de_callTy (cd_tuple false) B.tup bt_tuple (da_cons (de_var 6) (da_nil))) (da_nil))))))))
theorem d__law_drawn_plain (F__law_drawn_atom : Fn P w K mg base 3 "_law_drawn_atom" ["draws", "kinds", "relations", "variables"] (sp__law_drawn_atom c)) (F__law_pick : Fn P w K mg base 2 "_law_pick" ["draws", "row"] (sp__law_pick c)) (F__law_take : Fn P w K mg base 1 "_law_take" ["draws", "many"] (sp__law_take c)) {f : Addr} {cdv : Value} {A : Around} {outer : List Env} {s : Shared} {H : Hp} {E : XK} (hr : Room 3 (A.deeper (envOfC "_law_drawn_plain" (defScope s__law_drawn_plain) s.heap.objs.size f cdv))) : DSs (cx P w K mg base N__law_drawn_plain "_law_drawn_plain" s__law_drawn_plain f cdv A outer s H E) (defBody s__law_drawn_plain) (t__law_drawn_plain c) :=
  dss_cons (ds_if (dt_bool (dw_and (dt_cmp (od_gt) (de_callB cd_len B.len bt_len (da_cons (de_var 3) (da_nil))) (de_int)) (dw_and1 (dt_cmp (od_eq) (de_fn F__law_take hr (da_cons (de_var 0) (da_cons (de_int) (da_nil)))) (de_int))))) (dss_one (ds_ret (de_tup (da_cons (de_fn F__law_pick hr (da_cons (de_var 0) (da_cons (de_lst (da_cons (de_str) (da_cons (de_str) (da_nil)))) (da_nil)))) (da_cons (de_ix (hu_of hr) (de_ix (hu_of hr) (de_var 3) (de_int)) (de_int)) (da_cons (de_ix (hu_of hr) (de_fn F__law_pick hr (da_cons (de_var 0) (da_cons (de_var 3) (da_nil)))) (de_int)) (da_nil))))))) (dss_nil)) (dss_one (ds_ret (de_tup (da_cons (de_fn F__law_pick hr (da_cons (de_var 0) (da_cons (de_lst (da_cons (de_str) (da_cons (de_str) (da_nil)))) (da_nil)))) (da_cons (de_fn F__law_drawn_atom hr (da_cons (de_var 0) (da_cons (de_var 1) (da_cons (de_var 2) (da_cons (de_var 3) (da_nil)))))) (da_nil))))))
theorem d__law_plain_tokens {f : Addr} {cdv : Value} {A : Around} {outer : List Env} {s : Shared} {H : Hp} {E : XK} (hr : Room 0 (A.deeper (envOfC "_law_plain_tokens" (defScope s__law_plain_tokens) s.heap.objs.size f cdv))) : DSs (cx P w K mg base N__law_plain_tokens "_law_plain_tokens" s__law_plain_tokens f cdv A outer s H E) (defBody s__law_plain_tokens) (t__law_plain_tokens c) :=
  dss_cons (ds_if (dt_cmp (od_in (hu_of hr)) (de_ix (hu_of hr) (de_var 0) (de_int)) (de_lst (da_cons (de_str) (da_cons (de_str) (da_nil))))) (dss_one (ds_ret (de_callTy (cd_list false) B.lst bt_list (da_cons (de_var 0) (da_nil))))) (dss_nil)) (dss_one (ds_ret (de_op (od_add false) (de_lst (da_cons (de_ix (hu_of hr) (de_var 0) (de_int)) (da_cons (de_ix (hu_of hr) (de_ix (hu_of hr) (de_var 0) (de_int)) (de_int)) (da_nil)))) (de_callTy (cd_list false) B.lst bt_list (da_cons (de_ix (hu_of hr) (de_ix (hu_of hr) (de_var 0) (de_int)) (de_int)) (da_nil))))))
theorem d__law_joined_tokens (F__law_plain_tokens : Fn P w K mg base 1 "_law_plain_tokens" ["plain"] (sp__law_plain_tokens c)) {f : Addr} {cdv : Value} {A : Around} {outer : List Env} {s : Shared} {H : Hp} {E : XK} (hr : Room 1 (A.deeper (envOfC "_law_joined_tokens" (defScope s__law_joined_tokens) s.heap.objs.size f cdv))) : DSs (cx P w K mg base N__law_joined_tokens "_law_joined_tokens" s__law_joined_tokens f cdv A outer s H E) (defBody s__law_joined_tokens) (t__law_joined_tokens c) :=
  dss_cons (ds_set (i := 2) sc__law_joined_tokens.nd (de_lst (da_nil))) (dss_cons (ds_for PassesOwn.never rfl (di_seq (de_var 0)) (dg_name (i := 3) sc__law_joined_tokens.nd) (dss_one (ds_set (i := 2) sc__law_joined_tokens.nd (de_op (od_add false) (de_op (od_add false) (de_var 2) (de_op (od_mul false) (de_lst (da_cons (de_var 1) (da_nil))) (de_callTy cd_int B.int bt_int (da_cons (de_cmp (od_gt) (de_callB cd_len B.len bt_len (da_cons (de_var 2) (da_nil))) (de_int)) (da_nil))))) (de_fn F__law_plain_tokens hr (da_cons (de_var 3) (da_nil))))))) (dss_one (ds_ret (de_var 2))))
theorem d__law_condition_tokens (F__law_joined_tokens : Fn P w K mg base 2 "_law_joined_tokens" ["plains", "word"] (sp__law_joined_tokens c)) (F__law_plain_tokens : Fn P w K mg base 1 "_law_plain_tokens" ["plain"] (sp__law_plain_tokens c)) {f : Addr} {cdv : Value} {A : Around} {outer : List Env} {s : Shared} {H : Hp} {E : XK} (hr : Room 2 (A.deeper (envOfC "_law_condition_tokens" (defScope s__law_condition_tokens) s.heap.objs.size f cdv))) : DSs (cx P w K mg base N__law_condition_tokens "_law_condition_tokens" s__law_condition_tokens f cdv A outer s H E) (defBody s__law_condition_tokens) (t__law_condition_tokens c) :=
  dss_cons (ds_if (dt_cmp (od_eq) (de_ix (hu_of hr) (de_var 0) (de_int)) (de_str)) (dss_one (ds_ret (de_op (od_add false) (de_lst (da_cons (de_str) (da_nil))) (de_fn F__law_joined_tokens hr (da_cons (de_ix (hu_of hr) (de_var 0) (de_int)) (da_cons (de_str) (da_nil))))))) (dss_nil)) (dss_one (ds_ret (de_fn F__law_plain_tokens hr (da_cons (de_var 0) (da_nil)))))
theorem d__law_domain_lines (F__law_condition_tokens : Fn P w K mg base 3 "_law_condition_tokens" ["condition"] (sp__law_condition_tokens c)) (F__law_joined_tokens : Fn P w K mg base 2 "_law_joined_tokens" ["plains", "word"] (sp__law_joined_tokens c)) {f : Addr} {cdv : Value} {A : Around} {outer : List Env} {s : Shared} {H : Hp} {E : XK} (hr : Room 3 (A.deeper (envOfC "_law_domain_lines" (defScope s__law_domain_lines) s.heap.objs.size f cdv))) : DSs (cx P w K mg base N__law_domain_lines "_law_domain_lines" s__law_domain_lines f cdv A outer s H E) (defBody s__law_domain_lines) (t__law_domain_lines c) :=
  dss_cons (ds_setLc (i := 1) true rfl sc__law_domain_lines.nd rfl (own := [("pair", 8)]) (di_seq (de_ix (hu_of hr) (de_var 0) (de_int))) (blkOk_by (by rfl)) (fun _ _ _ _ _ => dgc_name (i := 8) sc__law_domain_lines.nd) (fun _ _ _ _ _ => dts_nil) (fun _ _ _ _ _ => de_op (od_add false) (de_lst (da_cons (de_str) (da_nil))) (de_lc false rfl sc__law_domain_lines.nd (own := [("word", 2)]) (di_seq (de_var 8)) (blkOk_by (by rfl)) (fun _ _ _ _ _ => dgc_name (i := 2) sc__law_domain_lines.nd) (fun _ _ _ _ _ => dts_one (dt_cmp (od_notN) (de_var 2) (de_non))) (fun _ _ _ _ _ => de_var 2)))) (dss_cons (ds_set (i := 1) sc__law_domain_lines.nd (de_op (od_add true) (de_var 1) (de_lc false rfl sc__law_domain_lines.nd (own := [("pair", 8)]) (di_seq (de_ix (hu_of hr) (de_var 0) (de_int))) (blkOk_by (by rfl)) (fun _ _ _ _ _ => dgc_name (i := 8) sc__law_domain_lines.nd) (fun _ _ _ _ _ => dts_nil) (fun _ _ _ _ _ => de_op (od_add false) (de_lst (da_cons (de_str) (da_cons (de_ix (hu_of hr) (de_var 8) (de_int)) (da_nil)))) (de_callTy (cd_list false) B.lst bt_list (da_cons (de_ix (hu_of hr) (de_var 8) (de_int)) (da_nil))))))) (dss_cons (ds_for PassesOwn.never rfl (di_seq (de_ix (hu_of hr) (de_var 0) (de_int))) (dg_tup (n := 5) rfl (dgs_cons (dg_name (i := 2) sc__law_domain_lines.nd) (dgs_cons (dg_name (i := 3) sc__law_domain_lines.nd) (dgs_cons (dg_name (i := 4) sc__law_domain_lines.nd) (dgs_cons (dg_name (i := 5) sc__law_domain_lines.nd) (dgs_cons (dg_name (i := 6) sc__law_domain_lines.nd) (dgs_nil))))))) (dss_cons (ds_set (i := 7) sc__law_domain_lines.nd (de_lst (da_cons (de_str) (da_cons (de_var 2) (da_nil))))) (dss_cons (ds_for PassesOwn.never rfl (di_seq (de_var 3)) (dg_name (i := 8) sc__law_domain_lines.nd) (dss_one (ds_set (i := 7) sc__law_domain_lines.nd (de_op (od_add false) (de_var 7) (de_callTy (cd_list false) B.lst bt_list (da_cons (de_var 8) (da_nil))))))) (dss_cons (ds_expr (de_append (de_var 1) (de_var 7))) (dss_cons (ds_set (i := 1) sc__law_domain_lines.nd (de_op (od_add true) (de_var 1) (de_lc false rfl sc__law_domain_lines.nd (own := [("condition", 13)]) (di_seq (de_var 4)) (blkOk_by (by rfl)) (fun _ _ _ _ _ => dgc_name (i := 13) sc__law_domain_lines.nd) (fun _ _ _ _ _ => dts_nil) (fun _ _ _ _ _ => de_op (od_add false) (de_lst (da_cons (de_str) (da_nil))) (de_fn F__law_condition_tokens hr (da_cons (de_var 13) (da_nil))))))) (dss_cons (ds_for PassesOwn.never rfl (di_seq (de_var 5)) (dg_tup (n := 3) rfl (dgs_cons (dg_name (i := 9) sc__law_domain_lines.nd) (dgs_cons (dg_name (i := 10) sc__law_domain_lines.nd) (dgs_cons (dg_name (i := 11) sc__law_domain_lines.nd) (dgs_nil))))) (dss_cons (ds_set (i := 12) sc__law_domain_lines.nd (de_op (od_add false) (de_op (od_mul false) (de_lst (da_cons (de_str) (da_nil))) (de_callTy cd_int B.int bt_int (da_cons (de_cmp (od_gt) (de_callB cd_len B.len bt_len (da_cons (de_var 11) (da_nil))) (de_int)) (da_nil)))) (de_fn F__law_joined_tokens hr (da_cons (de_var 11) (da_cons (de_str) (da_nil)))))) (dss_one (ds_expr (de_append (de_var 1) (de_op (od_add false) (de_op (od_add false) (de_lst (da_cons (de_var 9) (da_cons (de_ix (hu_of hr) (de_var 10) (de_int)) (da_nil)))) (de_callTy (cd_list false) B.lst bt_list (da_cons (de_ix (hu_of hr) (de_var 10) (de_int)) (da_nil)))) (de_var 12))))))) (dss_one (ds_if (dt_val (de_callB cd_isi B.isi bt_isinstance (da_cons (de_var 6) (da_cons (de_ty B.tup bt_tuple) (da_nil))))) (dss_one (ds_expr (de_append (de_var 1) (de_op (od_add false) (de_lst (da_cons (de_str) (da_cons (de_str) (da_cons (de_ix (hu_of hr) (de_var 6) (de_int)) (da_nil))))) (de_callTy (cd_list false) B.lst bt_list (da_cons (de_ix (hu_of hr) (de_var 6) (de_int)) (da_nil))))))) (dss_one (ds_expr (de_append (de_var 1) (de_lst (da_cons (de_str) (da_cons (de_callTy cd_str B.str bt_str (da_cons (de_var 6) (da_nil))) (da_nil))))))))))))))) (dss_one (ds_ret (de_var 1)))))
theorem d__law_text {f : Addr} {cdv : Value} {A : Around} {outer : List Env} {s : Shared} {H : Hp} {E : XK} (hr : Room 0 (A.deeper (envOfC "_law_text" (defScope s__law_text) s.heap.objs.size f cdv))) : DSs (cx P w K mg base N__law_text "_law_text" s__law_text f cdv A outer s H E) (defBody s__law_text) (t__law_text c) :=
  dss_one (ds_ret (de_join (de_str) (de_lc false rfl sc__law_text.nd (own := [("line", 1)]) (di_seq (de_var 0)) (blkOk_by (by rfl)) (fun _ _ _ _ _ => dgc_name (i := 1) sc__law_text.nd) (fun _ _ _ _ _ => dts_nil) (fun _ _ _ _ _ => de_join (de_str) (de_var 1)))))
theorem d__law_spread (F__law_pick : Fn P w K mg base 2 "_law_pick" ["draws", "row"] (sp__law_pick c)) (F__law_take : Fn P w K mg base 1 "_law_take" ["draws", "many"] (sp__law_take c)) {f : Addr} {cdv : Value} {A : Around} {outer : List Env} {s : Shared} {H : Hp} {E : XK} (hr : Room 2 (A.deeper (envOfC "_law_spread" (defScope s__law_spread) s.heap.objs.size f cdv))) : DSs (cx P w K mg base N__law_spread "_law_spread" s__law_spread f cdv A outer s H E) (defBody s__law_spread) (t__law_spread c) :=
  dss_cons (ds_set (i := 2) sc__law_spread.nd (de_lstO (da_nil))) (dss_cons (ds_set (i := 3) sc__law_spread.nd (de_lstO (da_nil))) (dss_cons (ds_for PassesOwn.never rfl (di_seq (de_var 1)) (dg_name (i := 4) sc__law_spread.nd) (dss_cons (ds_for PassesOwn.never rfl (di_range1 (de_fn F__law_pick hr (da_cons (de_var 0) (da_cons (de_lst (da_cons (de_int) (da_cons (de_int) (da_cons (de_int) (da_cons (de_int) (da_cons (de_int) (da_cons (de_int) (da_nil)))))))) (da_nil)))) B.ran) (dg_name (i := 5) sc__law_spread.nd) (dss_one (ds_expr (de_append (de_var 2) (de_op (od_mul false) (de_str) (de_fn F__law_take hr (da_cons (de_var 0) (da_cons (de_int) (da_nil))))))))) (dss_cons (ds_set (i := 6) sc__law_spread.nd (de_op (od_mul false) (de_str) (de_fn F__law_pick hr (da_cons (de_var 0) (da_cons (de_lst (da_cons (de_int) (da_cons (de_int) (da_cons (de_int) (da_nil))))) (da_nil)))))) (dss_cons (ds_set (i := 7) sc__law_spread.nd (de_lstO (da_nil))) (dss_cons (ds_for PassesOwn.never rfl (di_seq (de_var 4)) (dg_name (i := 8) sc__law_spread.nd) (dss_cons (ds_set (i := 6) sc__law_spread.nd (de_op (od_add false) (de_var 6) (de_op (od_mul false) (de_str) (de_op (od_add false) (de_callTy cd_int B.int bt_int (da_cons (de_cmp (od_gt) (de_callB cd_len B.len bt_len (da_cons (de_var 7) (da_nil))) (de_int)) (da_nil))) (de_fn F__law_pick hr (da_cons (de_var 0) (da_cons (de_lst (da_cons (de_int) (da_cons (de_int) (da_cons (de_int) (da_nil))))) (da_nil)))))))) (dss_cons (ds_expr (de_append (de_var 7) (de_callB cd_len B.len bt_len (da_cons (de_var 6) (da_nil))))) (dss_one (ds_set (i := 6) sc__law_spread.nd (de_op (od_add false) (de_var 6) (de_var 8))))))) (dss_cons (ds_set (i := 6) sc__law_spread.nd (de_op (od_add false) (de_var 6) (de_op (od_mul false) (de_str) (de_fn F__law_pick hr (da_cons (de_var 0) (da_cons (de_lst (da_cons (de_int) (da_cons (de_int) (da_cons (de_int) (da_nil))))) (da_nil))))))) (dss_cons (ds_expr (de_append (de_var 3) (de_lst (da_cons (de_callB cd_len B.len bt_len (da_cons (de_var 2) (da_nil))) (da_cons (de_var 7) (da_cons (de_callB cd_len B.len bt_len (da_cons (de_var 6) (da_nil))) (da_nil))))))) (dss_one (ds_expr (de_append (de_var 2) (de_var 6))))))))))) (dss_cons (ds_for PassesOwn.never rfl (di_range1 (de_fn F__law_pick hr (da_cons (de_var 0) (da_cons (de_lst (da_cons (de_int) (da_cons (de_int) (da_cons (de_int) (da_nil))))) (da_nil)))) B.ran) (dg_name (i := 5) sc__law_spread.nd) (dss_one (ds_expr (de_append (de_var 2) (de_str))))) (dss_one (ds_ret (de_lst (da_cons (de_join (de_str) (de_var 2)) (da_cons (de_var 3) (da_cons (de_callB (cd_max rfl) B.max bt_max (da_cons (de_int) (da_cons (de_callB cd_len B.len bt_len (da_cons (de_var 2) (da_nil))) (da_nil)))) (da_nil))))))))))
theorem d__law_wide_deed (F__law_drawn_atom : Fn P w K mg base 3 "_law_drawn_atom" ["draws", "kinds", "relations", "variables"] (sp__law_drawn_atom c)) (F__law_drawn_plain : Fn P w K mg base 4 "_law_drawn_plain" ["draws", "kinds", "relations", "variables"] (sp__law_drawn_plain c)) (F__law_pick : Fn P w K mg base 2 "_law_pick" ["draws", "row"] (sp__law_pick c)) (F__law_take : Fn P w K mg base 1 "_law_take" ["draws", "many"] (sp__law_take c)) {f : Addr} {cdv : Value} {A : Around} {outer : List Env} {s : Shared} {H : Hp} {E : XK} (hr : Room 4 (A.deeper (envOfC "_law_wide_deed" (defScope s__law_wide_deed) s.heap.objs.size f cdv))) : DSs (cx P w K mg base N__law_wide_deed "_law_wide_deed" s__law_wide_deed f cdv A outer s H E) (defBody s__law_wide_deed) (t__law_wide_deed c) :=
  dss_cons (ds_set (i := 5) sc__law_wide_deed.nd (de_fn F__law_take hr (da_cons (de_var 0) (da_cons (de_int) (da_nil))))) (dss_cons (ds_set (i := 6) sc__law_wide_deed.nd (de_callTy (cd_tuple true) B.tup bt_tuple (da_cons (de_lc false rfl sc__law_wide_deed.nd (own := [("k", 8)]) (di_range1 (de_var 5) B.ran) (blkOk_by (by rfl)) (fun _ _ _ _ _ => dgc_name (i := 8) sc__law_wide_deed.nd) (fun _ _ _ _ _ => dts_nil) (fun _ _ _ _ _ => de_tup (da_cons (de_ix (hu_of hr) (de_var 1) (de_op (od_add false) (de_int) (de_var 8))) (da_cons (de_ix (hu_of hr) (de_fn F__law_pick hr (da_cons (de_var 0) (da_cons (de_var 2) (da_nil)))) (de_int)) (da_nil))))) (da_nil)))) (dss_cons (ds_set (i := 7) sc__law_wide_deed.nd (de_lstO (da_nil))) (dss_cons (ds_for PassesOwn.never rfl (di_range1 (de_fn F__law_take hr (da_cons (de_var 0) (da_cons (de_int) (da_nil)))) B.ran) (dg_name (i := 8) sc__law_wide_deed.nd) (dss_cons (ds_setLc (i := 9) false rfl sc__law_wide_deed.nd rfl (own := [("j", 15)]) (di_range1 (de_op (od_add false) (de_int) (de_fn F__law_take hr (da_cons (de_var 0) (da_cons (de_int) (da_nil))))) B.ran) (blkOk_by (by rfl)) (fun _ _ _ _ _ => dgc_name (i := 15) sc__law_wide_deed.nd) (fun _ _ _ _ _ => dts_nil) (fun _ _ _ _ _ => de_fn F__law_drawn_plain hr (da_cons (de_var 0) (da_cons (de_var 2) (da_cons (de_var 3) (da_cons (de_var 6) (da_nil))))))) (dss_one (ds_expr (de_append (de_var 7) (de_fn F__law_pick hr (da_cons (de_var 0) (da_cons (de_lst (da_cons (de_ix (hu_of hr) (de_var 9) (de_int)) (da_cons (de_tup (da_cons (de_str) (da_cons (de_callTy (cd_tuple false) B.tup bt_tuple (da_cons (de_var 9) (da_nil))) (da_nil)))) (da_nil)))) (da_nil))))))))) (dss_cons (ds_set (i := 10) sc__law_wide_deed.nd (de_lstO (da_nil))) (dss_cons (ds_for PassesOwn.never rfl (di_range1 (de_fn F__law_take hr (da_cons (de_var 0) (da_cons (de_int) (da_nil)))) B.ran) (dg_name (i := 8) sc__law_wide_deed.nd) (dss_cons (ds_setLc (i := 11) false rfl sc__law_wide_deed.nd rfl (own := [("j", 15)]) (di_range1 (de_fn F__law_pick hr (da_cons (de_var 0) (da_cons (de_lst (da_cons (de_int) (da_cons (de_int) (da_cons (de_int) (da_cons (de_int) (da_nil)))))) (da_nil)))) B.ran) (blkOk_by (by rfl)) (fun _ _ _ _ _ => dgc_name (i := 15) sc__law_wide_deed.nd) (fun _ _ _ _ _ => dts_nil) (fun _ _ _ _ _ => de_fn F__law_drawn_plain hr (da_cons (de_var 0) (da_cons (de_var 2) (da_cons (de_var 3) (da_cons (de_var 6) (da_nil))))))) (dss_cons (ds_set (i := 12) sc__law_wide_deed.nd (de_fn F__law_drawn_atom hr (da_cons (de_var 0) (da_cons (de_var 2) (da_cons (de_var 3) (da_cons (de_var 6) (da_nil))))))) (dss_one (ds_expr (de_append (de_var 10) (de_tup (da_cons (de_fn F__law_pick hr (da_cons (de_var 0) (da_cons (de_lst (da_cons (de_str) (da_cons (de_str) (da_nil)))) (da_nil)))) (da_cons (de_var 12) (da_cons (de_callTy (cd_tuple false) B.tup bt_tuple (da_cons (de_var 11) (da_nil))) (da_nil))))))))))) (dss_cons (ds_set (i := 13) sc__law_wide_deed.nd (de_callTy (cd_tuple false) B.tup bt_tuple (da_cons (de_lc false rfl sc__law_wide_deed.nd (own := [("pair", 16)]) (di_seq (de_var 6)) (blkOk_by (by rfl)) (fun _ _ _ _ _ => dgc_name (i := 16) sc__law_wide_deed.nd) (fun _ _ _ _ _ => dts_nil) (fun _ _ _ _ _ => de_ix (hu_of hr) (de_var 16) (de_int))) (da_nil)))) (dss_cons (ds_set (i := 14) sc__law_wide_deed.nd (de_fn F__law_pick hr (da_cons (de_var 0) (da_cons (de_lst (da_cons (de_int) (da_cons (de_int) (da_cons (de_op (od_add false) (de_op (od_pow) (de_int) (de_int)) (de_int)) (da_cons (de_tup (da_cons (de_str) (da_cons (de_ix (hu_of hr) (de_var 1) (de_int)) (da_cons (de_sl false (de_var 13) (do_some (de_int)) (do_none)) (da_nil))))) (da_cons (de_tup (da_cons (de_str) (da_cons (de_ix (hu_of hr) (de_var 1) (de_int)) (da_cons (de_tup (da_nil)) (da_nil))))) (da_cons (de_int) (da_nil)))))))) (da_nil))))) (dss_one (ds_ret (de_tup (da_cons (de_var 4) (da_cons (de_var 6) (da_cons (de_callTy (cd_tuple false) B.tup bt_tuple (da_cons (de_var 7) (da_nil))) (da_cons (de_callTy (cd_tuple false) B.tup bt_tuple (da_cons (de_var 10) (da_nil))) (da_cons (de_var 14) (da_nil))))))))))))))))
theorem d__law_wide_domain (F__law_pick : Fn P w K mg base 2 "_law_pick" ["draws", "row"] (sp__law_pick c)) (F__law_take : Fn P w K mg base 1 "_law_take" ["draws", "many"] (sp__law_take c)) (F__law_wide_deed : Fn P w K mg base 5 "_law_wide_deed" ["draws", "words", "kinds", "relations", "word"] (sp__law_wide_deed c)) {f : Addr} {cdv : Value} {A : Around} {outer : List Env} {s : Shared} {H : Hp} {E : XK} (hr : Room 5 (A.deeper (envOfC "_law_wide_domain" (defScope s__law_wide_domain) s.heap.objs.size f cdv))) : DSs (cx P w K mg base N__law_wide_domain "_law_wide_domain" s__law_wide_domain f cdv A outer s H E) (defBody s__law_wide_domain) (t__law_wide_domain c) :=
  dss_cons (ds_set (i := 2) sc__law_wide_domain.nd (de_lstO (da_nil))) (dss_cons (ds_for PassesOwn.never rfl (di_range1 (de_op (od_add false) (de_int) (de_fn F__law_take hr (da_cons (de_var 0) (da_cons (de_int) (da_nil))))) B.ran) (dg_name (i := 3) sc__law_wide_domain.nd) (dss_one (ds_expr (de_append (de_var 2) (de_tup (da_cons (de_ix (hu_of hr) (de_var 1) (de_var 3)) (da_cons (de_fn F__law_pick hr (da_cons (de_var 0) (da_cons (de_op (od_add false) (de_lst (da_cons (de_non) (da_nil))) (de_sl false (de_var 1) (do_none) (do_some (de_var 3)))) (da_nil)))) (da_nil)))))))) (dss_cons (ds_set (i := 4) sc__law_wide_domain.nd (de_lstO (da_nil))) (dss_cons (ds_for PassesOwn.never rfl (di_range1 (de_op (od_add false) (de_int) (de_fn F__law_take hr (da_cons (de_var 0) (da_cons (de_int) (da_nil))))) B.ran) (dg_name (i := 3) sc__law_wide_domain.nd) (dss_one (ds_expr (de_append (de_var 4) (de_tup (da_cons (de_ix (hu_of hr) (de_var 1) (de_op (od_add false) (de_int) (de_var 3))) (da_cons (de_callTy (cd_tuple false) B.tup bt_tuple (da_cons (de_lc false rfl sc__law_wide_domain.nd (own := [("j", 6)]) (di_range1 (de_fn F__law_take hr (da_cons (de_var 0) (da_cons (de_int) (da_nil)))) B.ran) (blkOk_by (by rfl)) (fun _ _ _ _ _ => dgc_name (i := 6) sc__law_wide_domain.nd) (fun _ _ _ _ _ => dts_nil) (fun _ _ _ _ _ => de_ix (hu_of hr) (de_fn F__law_pick hr (da_cons (de_var 0) (da_cons (de_var 2) (da_nil)))) (de_int))) (da_nil))) (da_nil)))))))) (dss_cons (ds_asg (de_tup (da_cons (de_ix (hu_of hr) (de_ix (hu_of hr) (de_var 4) (de_int)) (de_int)) (da_cons (de_tup (da_nil)) (da_nil)))) (dg_sub (hu_of hr) (de_var 4) (de_int))) (dss_cons (ds_setLc (i := 5) false rfl sc__law_wide_domain.nd rfl (own := [("k", 3)]) (di_range1 (de_fn F__law_take hr (da_cons (de_var 0) (da_cons (de_int) (da_nil)))) B.ran) (blkOk_by (by rfl)) (fun _ _ _ _ _ => dgc_name (i := 3) sc__law_wide_domain.nd) (fun _ _ _ _ _ => dts_nil) (fun _ _ _ _ _ => de_fn F__law_wide_deed hr (da_cons (de_var 0) (da_cons (de_var 1) (da_cons (de_var 2) (da_cons (de_var 4) (da_cons (de_ix (hu_of hr) (de_var 1) (de_op (od_add false) (de_int) (de_var 3))) (da_nil)))))))) (dss_one (ds_ret (de_tup (da_cons (de_callTy (cd_tuple false) B.tup bt_tuple (da_cons (de_var 2) (da_nil))) (da_cons (de_callTy (cd_tuple true) B.tup bt_tuple (da_cons (de_var 4) (da_nil))) (da_cons (de_callTy (cd_tuple false) B.tup bt_tuple (da_cons (de_var 5) (da_nil))) (da_nil))))))))))))
theorem d_law (F__law_domain_lines : Fn P w K mg base 4 "_law_domain_lines" ["domain"] (sp__law_domain_lines c)) (F__law_draws : Fn P w K mg base 1 "_law_draws" ["script", "many"] (sp__law_draws c)) (F__law_plain_words : Fn P w K mg base 3 "_law_plain_words" ["draws", "many"] (sp__law_plain_words c)) (F__law_same : Fn P w K mg base 21 "_law_same" ["actual", "due"] (sp__law_same c)) (F__law_spread : Fn P w K mg base 3 "_law_spread" ["draws", "lines"] (sp__law_spread c)) (F__law_take : Fn P w K mg base 1 "_law_take" ["draws", "many"] (sp__law_take c)) (F__law_text : Fn P w K mg base 1 "_law_text" ["lines"] (sp__law_text c)) (F__law_wide_domain : Fn P w K mg base 6 "_law_wide_domain" ["draws", "words"] (sp__law_wide_domain c)) (F_read_domain : Fn P w K mg base 10 "read_domain" ["text"] (sp_read_domain c)) (F_write_domain : Fn P w K mg base 4 "write_domain" ["domain"] (sp_write_domain c)) {f : Addr} {cdv : Value} {A : Around} {outer : List Env} {s : Shared} {H : Hp} {E : XK} (hr : Room 21 (A.deeper (envOfC "law" (defScope s_law) s.heap.objs.size f cdv))) : DSs (cx P w K mg base N_law "law" s_law f cdv A outer s H E) (defBody s_law) (t_law c) :=
  dss_cons (ds_set (i := 1) sc_law.nd (de_fn F__law_draws hr (da_cons (de_var 0) (da_cons (de_int) (da_nil))))) (dss_cons (ds_set (i := 2) sc_law.nd (de_fn F__law_plain_words hr (da_cons (de_var 1) (da_cons (de_int) (da_nil))))) (dss_cons (ds_if (dt_cmp (od_eq) (de_fn F__law_take hr (da_cons (de_var 1) (da_cons (de_int) (da_nil)))) (de_int)) (dss_one (ds_set (i := 2) sc_law.nd (de_op (od_add false) (de_op (od_add false) (de_op (od_add false) (de_op (od_add false) (de_sl false (de_var 2) (do_none) (do_some (de_int))) (de_sl false (de_var 2) (do_none) (do_some (de_int)))) (de_sl false (de_var 2) (do_none) (do_some (de_int)))) (de_lst (da_cons (de_str) (da_cons (de_str) (da_cons (de_str) (da_cons (de_str) (da_nil))))))) (de_lst (da_cons (de_str) (da_nil)))))) (dss_nil)) (dss_cons (ds_set (i := 3) sc_law.nd (de_fn F__law_wide_domain hr (da_cons (de_var 1) (da_cons (de_var 2) (da_nil))))) (dss_cons (ds_set (i := 4) sc_law.nd (de_fn F__law_text hr (da_cons (de_fn F__law_domain_lines hr (da_cons (de_var 3) (da_nil))) (da_nil)))) (dss_cons (ds_if (dt_bool (dw_or (dt_not (dt_val (de_fn F__law_same hr (da_cons (de_fn F_write_domain hr (da_cons (de_var 3) (da_nil))) (da_cons (de_var 4) (da_nil)))))) (dw_or1 (dt_not (dt_val (de_fn F__law_same hr (da_cons (de_fn F_read_domain hr (da_cons (de_var 4) (da_nil))) (da_cons (de_var 3) (da_nil))))))))) (dss_one (ds_ret (de_bl))) (dss_nil)) (dss_cons (ds_for PassesOwn.never rfl (di_range1 (de_int) B.ran) (dg_name (i := 5) sc_law.nd) (dss_one (ds_if (dt_not (dt_val (de_fn F__law_same hr (da_cons (de_fn F_read_domain hr (da_cons (de_ix (hu_of hr) (de_fn F__law_spread hr (da_cons (de_var 1) (da_cons (de_fn F__law_domain_lines hr (da_cons (de_var 3) (da_nil))) (da_nil)))) (de_int)) (da_nil))) (da_cons (de_var 3) (da_nil)))))) (dss_one (ds_ret (de_bl))) (dss_nil)))) (dss_cons (ds_set (i := 6) sc_law.nd (de_tup (da_cons (de_tup (da_nil)) (da_cons (de_tup (da_nil)) (da_cons (de_tup (da_nil)) (da_nil)))))) (dss_one (ds_ret (de_and (de_fn F__law_same hr (da_cons (de_fn F_write_domain hr (da_cons (de_var 6) (da_nil))) (da_cons (de_str) (da_nil)))) (de_one (de_fn F__law_same hr (da_cons (de_fn F_read_domain hr (da_cons (de_str) (da_nil))) (da_cons (de_var 6) (da_nil)))))))))))))))
end
end Ht
set_option Elab.async false
set_option linter.all false
set_option maxRecDepth 100000
namespace Ht
open PySem PySem.Spec PyProof.Rows L2
abbrev endsOf (Q : VD) : EndsD := { nx := fun _ M' => Out Q .non M', rt := Out Q }
variable (c : Cs)
theorem line_eq : sizeLine = 16777216 := sizeLine_eq
theorem join_nil (a : Str) : Txt.join a [] = Str.empty := rfl
theorem join_one (a x : Str) : Txt.join a [x] = x := rfl
theorem join_two (a x y : Str) (r : List Str) : Txt.join a (x :: y :: r) = x ++ a ++ Txt.join a (y :: r) := by
  show Builtin.Str.glued _ _ = _ ++ Builtin.Str.glued _ _
  rw [StrLaws.glued_eq_join, StrLaws.glued_eq_join]; rfl
theorem len_app (x y : Str) : (x ++ y).length = x.length + y.length := by
  show (x.cps ++ y.cps).size = _
  rw [Array.size_append]; rfl
theorem len_join (a : Str) : ∀ ts : List Str, (Txt.join a ts).length ≤ (ts.map (·.length)).sum + ts.length * a.length := fun ts => by
  show (Builtin.Str.glued a ts).length ≤ _
  rw [StrLaws.glued_eq_join]; exact StrLaws.join_length_le a ts
theorem wt_cons (t : Str) (ts : List Str) : wt (t :: ts) = t.length + 1 + wt ts := rfl
theorem wt_app (a b : List Str) : wt (a ++ b) = wt a + wt b := by simp [wt]
theorem wt_sum (ts : List Str) : (ts.map (·.length)).sum + ts.length = wt ts := by
  induction ts with
  | nil => rfl
  | cons t r ih => rw [wt_cons, ← ih]; simp; omega
theorem wt_join (ts : List Str) : (joinSp ts).length ≤ wt ts := by
  have h := len_join sp1 ts
  rw [show sp1.length = 1 from rfl] at h
  have h2 := wt_sum ts
  unfold joinSp
  omega
theorem wt_ok {ts : List Str} (h : wt ts ≤ 100000) : (ts.map (·.length)).sum + ts.length * sp1.length ≤ 16777216 := by
  have h2 := wt_sum ts
  rw [show sp1.length = 1 from rfl]
  omega
theorem wt_len (ts : List Str) : ts.length ≤ wt ts := by
  have h2 := wt_sum ts
  omega
theorem app_nil (x : Str) : x ++ Str.empty = x := by
  apply Str.ext'
  show x.cps ++ #[] = x.cps
  simp
theorem nil_app (x : Str) : Str.empty ++ x = x := by
  apply Str.ext'
  show #[] ++ x.cps = x.cps
  simp
theorem app_assoc (x y z : Str) : x ++ y ++ z = x ++ (y ++ z) := by
  apply Str.ext'
  show x.cps ++ y.cps ++ z.cps = x.cps ++ (y.cps ++ z.cps)
  simp
theorem joinSp_cons (t : Str) {ts : List Str} (h : ts ≠ []) : joinSp (t :: ts) = t ++ sp1 ++ joinSp ts := by
  cases ts with
  | nil => exact absurd rfl h
  | cons u r => exact join_two sp1 t u r
theorem joinSp_app {a b : List Str} (ha : a ≠ []) (hb : b ≠ []) : joinSp (a ++ b) = joinSp a ++ sp1 ++ joinSp b := by
  induction a with
  | nil => exact absurd rfl ha
  | cons t r ih =>
    cases r with
    | nil => exact joinSp_cons t hb
    | cons u r =>
      rw [List.cons_append, joinSp_cons t (by simp), joinSp_cons t (by simp), ih (by simp), app_assoc, app_assoc, app_assoc, app_assoc, app_assoc]
theorem toks_ne (p : Plain) : p.toks ≠ [] := by cases p <;> simp [Plain.toks]
theorem rowToks_ne (m : Str) {ps : List Plain} (h : ps ≠ []) : rowToks m ps ≠ [] := by
  match ps with
  | [] => exact absurd rfl h
  | [p] => exact toks_ne p
  | p :: q :: r => simp [rowToks]
theorem join_row (m : Str) : ∀ {ps : List Plain}, ps ≠ [] → Txt.join (sp1 ++ m ++ sp1) (ps.map fun p => joinSp p.toks) = joinSp (rowToks m ps)
  | [], h => absurd rfl h
  | [p], _ => rfl
  | p :: q :: r, _ => by
    have ih := join_row m (ps := q :: r) (by simp)
    rw [List.map_cons, List.map_cons, join_two]
    show joinSp p.toks ++ (sp1 ++ m ++ sp1) ++ Txt.join (sp1 ++ m ++ sp1) ((q :: r).map fun p => joinSp p.toks) = joinSp (p.toks ++ m :: rowToks m (q :: r))
    rw [ih, joinSp_app (toks_ne p) (by simp), joinSp_cons m (rowToks_ne m (by simp)), app_assoc, app_assoc, app_assoc, app_assoc, app_assoc]
theorem p_write_plain (ds : List D) (M : Mp) (Q : VD) (E : XD) (h : sp_write_plain c ds M Q E) : t_write_plain c (endsOf Q) (startD N_write_plain ds) M := by
  obtain ⟨p, rfl, ok, hw, q⟩ := h
  cases p with
  | fact n a =>
    have hn : (decide (n = "yes") || decide (n = "no")) = true := by simpa [Plain.ok] using ok
    have hw2 := wt_ok hw
    have hl := wt_len (Plain.fact n a).toks
    have hl0 : (Plain.fact n a).toks.length = a.ws.length + 2 := rfl
    simp [t_write_plain, startD, Plain.d, Atom.d, line_eq, hn]
    have e : D.str n :: D.str a.w :: a.ws.map D.str = (Plain.fact n a).toks.map D.str := rfl
    refine ⟨by omega, _, e, hw2, out_of q⟩
  | two n a b =>
    have hw2 := wt_ok hw
    have hn : ¬ n = "yes" ∧ ¬ n = "no" := by
      rcases ok with h | h <;> subst h <;> decide
    simp [t_write_plain, startD, Plain.d, Atom.d, line_eq, hn]
    exact ⟨[n, a, b], rfl, hw2, out_of q⟩
theorem ok_noteither {p : Plain} (h : p.ok) : ∃ n r, p.d = .tup (.str n :: r) ∧ n ≠ "either" := by
  cases p with
  | fact n a => exact ⟨n, _, rfl, by rcases h with h | h <;> subst h <;> decide⟩
  | two n a b => exact ⟨n, _, rfl, by rcases h with h | h <;> subst h <;> decide⟩
theorem wt_row {m : Str} : ∀ {ps : List Plain} {p : Plain}, p ∈ ps → wt p.toks ≤ wt (rowToks m ps)
  | [p], q, h => by
    rw [List.mem_singleton.mp h]; exact Nat.le_refl _
  | p :: p2 :: r, q, h => by
    show wt q.toks ≤ wt (p.toks ++ m :: rowToks m (p2 :: r))
    rw [wt_app, wt_cons]
    rcases List.mem_cons.mp h with h | h
    · subst h; omega
    · have := wt_row (m := m) h; omega
theorem row_len {m : Str} : ∀ ps : List Plain, ps.length ≤ (rowToks m ps).length
  | [] => Nat.le_refl _
  | [p] => List.length_pos_iff.mpr (toks_ne p)
  | p :: p2 :: r => by
    have h := row_len (m := m) (p2 :: r)
    have h2 := List.length_pos_iff.mpr (toks_ne p)
    show (p2 :: r).length + 1 ≤ (p.toks ++ m :: rowToks m (p2 :: r)).length
    rw [List.length_append, List.length_cons (a := m)]
    omega
theorem row_lens {m : Str} (hm : m.length ≤ 3) (ps : List Plain) (h : wt (rowToks m ps) ≤ 100000) : ((ps.map fun p => joinSp p.toks).map (·.length)).sum + (ps.map fun p => joinSp p.toks).length * (sp1 ++ m ++ sp1).length ≤ 16777216 := by
  have key : ∀ ps : List Plain, ((ps.map fun p => joinSp p.toks).map (·.length)).sum ≤ wt (rowToks m ps) := by
    intro ps
    induction ps with
    | nil => exact Nat.zero_le _
    | cons p r ih =>
      cases r with
      | nil => simpa [rowToks] using wt_join p.toks
      | cons q r =>
        have h1 := wt_join p.toks
        have h2 : wt (rowToks m (p :: q :: r)) = wt p.toks + (m.length + 1 + wt (rowToks m (q :: r))) := by
          show wt (p.toks ++ m :: rowToks m (q :: r)) = _
          rw [wt_app, wt_cons]
        rw [List.map_cons, List.map_cons, List.sum_cons, h2]
        omega
  have k := key ps
  have l := row_len (m := m) ps
  have l2 := wt_len (rowToks m ps)
  rw [len_app, len_app, List.length_map, show sp1.length = 1 from rfl]
  have : ps.length * (1 + m.length + 1) ≤ 100000 * 5 := Nat.mul_le_mul (by omega) (by omega)
  omega
theorem p_write_condition (ds : List D) (M : Mp) (Q : VD) (E : XD) (h : sp_write_condition c ds M Q E) : t_write_condition c (endsOf Q) (startD N_write_condition ds) M := by
  obtain ⟨k, rfl, ok, ne, hw, q⟩ := h
  cases k with
  | one p =>
    obtain ⟨n, r, e, hn⟩ := ok_noteither ok
    simp [t_write_condition, startD, Cond.d, e, hn]
    exact ⟨p, by rw [e], ok, hw, out_of q⟩
  | either ps =>
    have ne := ne ps rfl
    have hw' : wt (rowToks "or" ps) ≤ 100000 := by
      have : wt (Cond.either ps).toks = wt ((("either" : Str)) :: rowToks "or" ps) := rfl
      rw [this, wt_cons] at hw
      omega
    have hl : ps.length ≤ 100000 := by
      have h1 := row_len (m := "or") ps
      have h2 := wt_len (rowToks "or" ps)
      omega
    simp [t_write_condition, startD, Cond.d, line_eq, wipeD]
    refine comp_map (f := fun p => .str (joinSp p.toks)) (δ' := fun p => [some (.tup [.str "either", .tup (ps.map Plain.d)]), some p.d]) ?_ ps [] ?_ ?_ ?_ ?_ ?_
    · trivial
    · intro p hp K k; simpa using k
    · intro p hp K k; simpa using k
    · intro p hp R k
      simp
      have : wt p.toks ≤ 100000 := Nat.le_trans (wt_row (m := "or") hp) hw'
      exact ⟨p, rfl, ok p hp, this, k⟩
    · rw [line_eq]; simp; omega
    · have e : sp1 ++ "or" ++ sp1 = (" or " : Str) := by decide
      have hj := join_row "or" ne
      rw [e] at hj
      have hs := row_lens (m := "or") (by decide) ps hw'
      rw [e] at hs
      refine ⟨ps.map fun p => joinSp p.toks, by simp, hs, ?_⟩
      rw [hj]
      have e2 : ("either " : Str) ++ joinSp (rowToks "or" ps) = joinSp (Cond.either ps).toks := by
        show _ = joinSp (("either" : Str) :: rowToks "or" ps)
        rw [joinSp_cons _ (rowToks_ne "or" ne)]
        have : ("either " : Str) = ("either" : Str) ++ sp1 := by decide
        rw [this]
      refine ⟨?_, by rw [e2]; exact out_of q⟩
      have := wt_join (rowToks "or" ps)
      rw [show ("either " : Str).length = 7 from rfl]
      omega
theorem p_write_effect (ds : List D) (M : Mp) (Q : VD) (E : XD) (h : sp_write_effect c ds M Q E) : t_write_effect c (endsOf Q) (startD N_write_effect ds) M := by
  obtain ⟨e, rfl, ok, hw, q⟩ := h
  obtain ⟨n, a, w⟩ := e
  have hw1 : wt (n :: a.w :: a.ws) ≤ 100000 := by
    have : wt (Eff.mk n a w).toks = wt (n :: a.w :: a.ws) + wt (if w.isEmpty then [] else ("when" : Str) :: rowToks "and" w) := wt_app _ _
    omega
  have hl := wt_len (n :: a.w :: a.ws)
  simp at hl
  have hw2 := wt_ok hw1
  have e1 : D.str n :: D.str a.w :: a.ws.map D.str = (n :: a.w :: a.ws).map D.str := rfl
  by_cases w0 : w = []
  · subst w0
    simp [t_write_effect, startD, Eff.d, Atom.d, line_eq]
    refine ⟨by omega, _, e1, hw2, ?_⟩
    have e2 : (Eff.mk n a []).toks = n :: a.w :: a.ws := by simp [Eff.toks]
    rw [e2] at q
    exact out_of q
  · have hw' : wt (rowToks "and" w) ≤ 100000 := by
      have : wt (Eff.mk n a w).toks = wt (n :: a.w :: a.ws) + wt (if w.isEmpty then [] else ("when" : Str) :: rowToks "and" w) := wt_app _ _
      rw [show w.isEmpty = false by simpa using w0, if_neg Bool.false_ne_true] at this
      rw [wt_cons (t := ("when" : Str))] at this
      omega
    have hl2 : w.length ≤ 100000 := by
      have h1 := row_len (m := "and") w
      have h2 := wt_len (rowToks "and" w)
      omega
    have np : ¬ w.length = 0 := fun h => w0 (List.length_eq_zero_iff.mp h)
    have we : w.isEmpty = false := by simpa using w0
    simp [t_write_effect, startD, Eff.d, Atom.d, line_eq, wipeD, w0]
    refine ⟨by omega, _, e1, hw2, ?_⟩
    have l1 := wt_join (n :: a.w :: a.ws)
    refine ⟨by rw [show (" when " : Str).length = 6 from rfl]; have : (Txt.join (" " : Str) (n :: a.w :: a.ws)).length = (joinSp (n :: a.w :: a.ws)).length := rfl; omega, ?_⟩
    refine comp_map (f := fun p => .str (joinSp p.toks)) (δ' := fun x => [some (Eff.mk n a w).d, some (.str (Txt.join (" " : Str) (n :: a.w :: a.ws))), some x.d]) (enc := Plain.d) ?_ w [] ?_ ?_ ?_ ?_ ?_
    · trivial
    · intro p hp K k; simpa [Eff.d, Atom.d] using k
    · intro p hp K k; simpa using k
    · intro x hx R k
      simp
      exact ⟨x, rfl, ok x hx, Nat.le_trans (wt_row (m := "and") hx) hw', k⟩
    · rw [line_eq]; simp at hl2 ⊢; omega
    · have e : sp1 ++ "and" ++ sp1 = (" and " : Str) := by decide
      have hj := join_row "and" (ps := w) w0
      rw [e] at hj
      have hs := row_lens (m := "and") (by decide) w hw'
      rw [e] at hs
      refine ⟨w.map fun p => joinSp p.toks, by simp, hs, ?_⟩
      rw [hj]
      have e2 : Txt.join (" " : Str) (n :: a.w :: a.ws) ++ (" when " : Str) ++ joinSp (rowToks "and" w) = joinSp (Eff.mk n a w).toks := by
        have et : (Eff.mk n a w).toks = (n :: a.w :: a.ws) ++ (("when" : Str) :: rowToks "and" w) := by simp [Eff.toks, we]
        rw [et]
        show joinSp (n :: a.w :: a.ws) ++ _ ++ _ = _
        rw [joinSp_app (by simp) (by simp), joinSp_cons _ (rowToks_ne "and" w0)]
        have : (" when " : Str) = sp1 ++ "when" ++ sp1 := by decide
        rw [this, app_assoc, app_assoc, app_assoc, app_assoc, app_assoc]
      refine ⟨?_, by rw [e2]; exact out_of q⟩
      have l2 := wt_join (rowToks "and" w)
      rw [len_app, show (" when " : Str).length = 6 from rfl]
      have : (Txt.join (" " : Str) (n :: a.w :: a.ws)).length = (joinSp (n :: a.w :: a.ws)).length := rfl
      omega
theorem deed_ln {x : Deed} (sm : x.small) : wt x.head ≤ 100000 ∧ (∀ k ∈ x.cs, wt k.toks ≤ 99997) ∧ (∀ e ∈ x.es, wt e.toks ≤ 100000) ∧ wt x.c.toks ≤ 100000 := by
  have h := sm.ln
  refine ⟨h _ (by simp [Deed.lines]), fun k hk => ?_, fun e he => h _ ?_, h _ (by simp [Deed.lines])⟩
  · have := h (("if" : Str) :: k.toks) (by simp only [Deed.lines, List.mem_append, List.mem_map, List.mem_cons]; exact .inl (.inl (.inr ⟨k, hk, rfl⟩)))
    rw [wt_cons, show ("if" : Str).length = 2 from rfl] at this
    omega
  · simp only [Deed.lines, List.mem_append, List.mem_map]
    exact .inl (.inr ⟨e, he, rfl⟩)
theorem p_deed_lines (ds : List D) (M : Mp) (Q : VD) (E : XD) (h : sp_deed_lines c ds M Q E) : t_deed_lines c (endsOf Q) (startD N_deed_lines ds) M := by
  obtain ⟨x, rfl, sm, q⟩ := h
  obtain ⟨h1, h2, h3, h4⟩ := deed_ln sm
  have hvs := sm.vs
  have hcs := sm.cs
  have hes := sm.es
  simp [t_deed_lines, startD, Deed.d, line_eq, wipeD]
  have hd := wt_ok h1
  have hdl := wt_len x.head
  have hdl2 : x.head.length = 2 + (x.vs.flatMap fun p => [p.1, p.2]).length := by simp [Deed.head]; omega
  refine comp2_name (β := Str) (enc1 := .str) (f1 := fun _ y => .str y) (G1 := fun _ _ => True) (fun p => [p.1, p.2]) x.vs [] ?_ ?_ ?_ ?_ ?_
  · trivial
  · intro p hp
    refine ⟨trivial, fun R k => ?_⟩
    simpa [pairD] using k
  · intro p hp y hy R k
    simpa [wipeD] using k
  · rw [line_eq]; simp at hdl hdl2 ⊢; omega
  refine ⟨by simp at hdl hdl2 ⊢; omega, x.head, by simp [Deed.head, List.flatMap, List.map_flatten]; rfl, hd, fun p np => ?_⟩
  refine comp_name (f := fun k => .str (joinSp (("if" : Str) :: k.toks))) x.cs [] ?_ ?_ ?_ ?_
  · trivial
  · intro k hk R q
    have hk2 := h2 k hk
    have l1 := wt_join k.toks
    have ne : k.toks ≠ [] := by
      cases k with
      | one p => exact toks_ne p
      | either ps => simp [Cond.toks]
    simp [line_eq]
    refine ⟨k, rfl, sm.ok.1 k hk, fun ps e => sm.ei ps (e ▸ hk), by omega, ?_, ?_⟩
    · rw [line_eq, show ("if " : Str).length = 3 from rfl]; omega
    have e : ("if " : Str) ++ joinSp k.toks = joinSp (("if" : Str) :: k.toks) := by
      rw [joinSp_cons _ ne, show ("if " : Str) = ("if" : Str) ++ sp1 by decide]
    rw [e]; exact q
  · rw [line_eq]; simp; omega
  simp [line_eq]
  refine ⟨by omega, ?_⟩
  refine comp_name (f := fun e => .str (joinSp e.toks)) x.es [] ?_ ?_ ?_ ?_
  · trivial
  · intro e he R q
    simp
    exact ⟨e, rfl, sm.ok.2 e he, h3 e he, q⟩
  · rw [line_eq]; simp; omega
  simp [line_eq]
  refine ⟨by omega, ?_⟩
  have fin : ∀ y, y = joinSp x.c.toks → Out Q (.ref p) (up M p (.lst (.str (Txt.join (" " : Str) x.head) :: (x.cs.map (fun k => .str (joinSp (("if" : Str) :: k.toks))) ++ (x.es.map (fun e => .str (joinSp e.toks)) ++ [.str y]))))) := fun y ey => by
    subst ey
    refine out_lst (Le.up np) np up_same ?_
    have : x.lines.map (fun l => D.str (joinSp l)) = D.str (Txt.join (" " : Str) x.head) :: (x.cs.map (fun k => .str (joinSp (("if" : Str) :: k.toks))) ++ (x.es.map (fun e => .str (joinSp e.toks)) ++ [.str (joinSp x.c.toks)])) := by
      simp [Deed.lines, joinSp, sp1]; rfl
    rw [← this]; exact q
  cases hc : x.c with
  | num i =>
    have hi := sm.c i hc
    rw [hc] at fin h4
    have et : (toString i : Str) = Str.ofString i.repr := rfl
    simp [Cost.d, s_fmti hi, line_eq, nil_app]
    have l4 := wt_join (Cost.num i).toks
    have e2 : joinSp (Cost.num i).toks = ("cost " : Str) ++ (toString i : Str) := by
      show ("cost" : Str) ++ sp1 ++ (toString i : Str) = _
      rw [show ("cost " : Str) = ("cost" : Str) ++ sp1 by decide]
    rw [e2] at l4 fin
    rw [et] at l4 fin
    refine ⟨by decide, by omega, by omega, ?_⟩
    have := fin _ rfl
    simpa using this
  | by_ w us =>
    rw [hc] at fin h4
    have h5 := wt_ok h4
    have l5 := wt_len (Cost.by_ w us).toks
    have l6 : (Cost.by_ w us).toks.length = us.length + 3 := rfl
    simp [Cost.d, line_eq]
    refine ⟨by omega, (Cost.by_ w us).toks, rfl, h5, by omega, ?_⟩
    have := fin _ rfl
    simpa [joinSp, sp1] using this
theorem lens_le (ls : List (List Str)) : ((ls.map joinSp).map (·.length)).sum ≤ (ls.map wt).sum := by
  induction ls with
  | nil => exact Nat.le_refl _
  | cons l r ih =>
    have := wt_join l
    rw [List.map_cons, List.map_cons, List.map_cons, List.sum_cons, List.sum_cons]
    omega
theorem kind_join (k : Str × Option Str) : joinSp (kindLine k) = ("kind " : Str) ++ (match k.2 with | none => k.1 | some a => k.1 ++ (" " : Str) ++ a) := by
  obtain ⟨w, a⟩ := k
  cases a with
  | none =>
    show ("kind" : Str) ++ sp1 ++ w = _
    rw [show ("kind " : Str) = ("kind" : Str) ++ sp1 by decide]
  | some a =>
    show joinSp [("kind" : Str), w, a] = ("kind " : Str) ++ (w ++ (" " : Str) ++ a)
    rw [joinSp_cons _ (by simp), joinSp_cons _ (by simp), show ("kind " : Str) = ("kind" : Str) ++ sp1 by decide]; rfl
theorem p_write_domain (ds : List D) (M : Mp) (Q : VD) (E : XD) (h : sp_write_domain c ds M Q E) : t_write_domain c (endsOf Q) (startD N_write_domain ds) M := by
  obtain ⟨x, a, b, e, rfl, ha, hb, he, sm, q⟩ := h
  have hn := sm.n
  have hks := sm.ks
  have hrs := sm.rs
  have hds := sm.ds
  have hln : x.lines.length = x.ks.length + x.rs.length + (x.ds.flatMap Deed.lines).length := by simp [Dom.lines]; omega
  have wk : ∀ k ∈ x.ks, wt (kindLine k) ≤ 100000 := fun k hk => sm.ln _ (by simp only [Dom.lines, List.mem_append, List.mem_map]; exact .inl (.inl ⟨k, hk, rfl⟩))
  have wr : ∀ k ∈ x.rs, wt (relLine k) ≤ 100000 := fun k hk => sm.ln _ (by simp only [Dom.lines, List.mem_append, List.mem_map]; exact .inl (.inr ⟨k, hk, rfl⟩))
  simp [t_write_domain, startD, line_eq, wipeD, ha, hb, he]
  refine comp_pair (e1 := fun k => .str k.1) (e2 := fun k => optD k.2) (f := fun k => .str (joinSp (kindLine k))) x.ks [] ?_ ?_ ?_ ?_ ?_
  · intro k hk; rfl
  · trivial
  · intro k hk R r
    have h1 := wk k hk
    have h2 := wt_join (kindLine k)
    rw [kind_join] at h2 r
    obtain ⟨w, ab⟩ := k
    cases ab with
    | none =>
      rw [len_app] at h2
      simp [optD]
      exact ⟨by rw [line_eq]; dsimp only at h2; omega, r⟩
    | some ab =>
      simp only [len_app] at h2
      simp [optD, line_eq, len_app]
      exact ⟨by omega, by omega, by omega, r⟩
  · rw [line_eq]; simp; omega
  intro p np
  have hb' : ∀ M', walkM M' b = walkM M b := by
    intro M'
    cases b with
    | ref r =>
      cases hm : M r with
      | none => simp [walkM, hm] at hb
      | some cl =>
        cases cl with
        | lst es =>
          simp only [walkM, hm, Option.some.injEq, Prod.mk.injEq] at hb
          have := congrFun hb.2 (fun _ => none)
          simp at this
        | dic es => simp [walkM, hm] at hb
        | ins C es => simp [walkM, hm] at hb
    | _ => rfl
  have he' : ∀ M', walkM M' e = walkM M e := by
    intro M'
    cases e with
    | ref r =>
      cases hm : M r with
      | none => simp [walkM, hm] at he
      | some cl =>
        cases cl with
        | lst es =>
          simp only [walkM, hm, Option.some.injEq, Prod.mk.injEq] at he
          have := congrFun he.2 (fun _ => none)
          simp at this
        | dic es => simp [walkM, hm] at he
        | ins C es => simp [walkM, hm] at he
    | _ => rfl
  simp [hb', hb]
  refine comp_pair (e1 := fun k => .str k.1) (e2 := fun k => .tup (k.2.map .str)) (f := fun k => .str (joinSp (relLine k))) x.rs [] ?_ ?_ ?_ ?_ ?_
  · intro k hk; rfl
  · trivial
  · intro k hk R r
    have h1 := wt_ok (wr k hk)
    have h2 := wt_len (relLine k)
    have h3 : (relLine k).length = k.2.length + 2 := rfl
    have h4 := wr k hk
    simp [line_eq]
    exact ⟨by omega, relLine k, rfl, h1, r⟩
  · rw [line_eq]; simp; omega
  simp [he', he, line_eq]
  refine ⟨by omega, ?_⟩
  refine for_rule (fun r δ M' => ∃ X done, δ = [some (.tup [a, b, e]), some (.ref p), X, none, none, none] ∧ M' = up M p (.lst ((x.ks.map kindLine ++ x.rs.map relLine ++ done.flatMap Deed.lines).map fun l => .str (joinSp l))) ∧ x.ds = done ++ r) ?_ ?_ x.ds _ _ ?_
  · rintro d r δ M' ⟨X, done, rfl, rfl, hd⟩
    refine ⟨trivial, fun nx k => ?_⟩
    have hlen : (x.ds.flatMap Deed.lines).length = (done.flatMap Deed.lines).length + (d.lines.length + (r.flatMap Deed.lines).length) := by rw [hd]; simp
    simp [line_eq]
    refine ⟨d, rfl, sm.d d (by rw [hd]; simp), ?_⟩
    simp [line_eq]
    refine ⟨?_, ?_⟩
    · simp [List.length_flatMap] at hlen hln ⊢
      omega
    · refine k _ _ ⟨some d.d, done ++ [d], rfl, ?_, by rw [hd]; simp⟩
      simp
  · rintro δ M' ⟨X, done, rfl, rfl, hd⟩
    refine ⟨trivial, ?_⟩
    rw [List.append_nil] at hd
    subst hd
    have hx : x.ks.map kindLine ++ x.rs.map relLine ++ x.ds.flatMap Deed.lines = x.lines := rfl
    rw [hx]
    simp
    refine ⟨x.lines.map joinSp, by simp, ?_, ?_⟩
    · have h1 := lens_le x.lines
      have h2 := sm.all
      rw [show ("\n" : Str).length = 1 from rfl, List.length_map]
      omega
    · exact out_le (Le.up np) q
  · refine ⟨none, [], rfl, ?_, rfl⟩
    simp; rfl
end Ht
set_option Elab.async false
set_option linter.all false
set_option maxRecDepth 100000
namespace Ht
open PySem PySem.Spec PyProof.Rows L2
abbrev endsO (Q : VD) : EndsD := { nx := fun _ M' => Out Q .non M', rt := Out Q }
variable (c : Cs)
section
variable (n lp p v : Int) (L : Str)
@[simp] theorem lk_n : List.lookup ("line_number" : Str) (lineF n lp p L) = some (D.int n) := rfl
@[simp] theorem lk_t : List.lookup ("line_text" : Str) (lineF n lp p L) = some (D.str L) := rfl
@[simp] theorem lk_l : List.lookup ("last_place" : Str) (lineF n lp p L) = some (D.int lp) := rfl
@[simp] theorem lk_p : List.lookup ("line_place" : Str) (lineF n lp p L) = some (D.int p) := rfl
@[simp] theorem lk_1 : noFld (lineF n lp p L) ("skip_spaces" : Str) := rfl
@[simp] theorem lk_2 : noFld (lineF n lp p L) ("is_over" : Str) := rfl
@[simp] theorem lk_3 : noFld (lineF n lp p L) ("next_token" : Str) := rfl
@[simp] theorem lk_4 : noFld (lineF n lp p L) ("take_token" : Str) := rfl
@[simp] theorem lk_5 : noFld (lineF n lp p L) ("refuse_last" : Str) := rfl
@[simp] theorem lk_6 : noFld (lineF n lp p L) ("take_one_of" : Str) := rfl
@[simp] theorem lk_7 : noFld (lineF n lp p L) ("take_end" : Str) := rfl
@[simp] theorem pt_l : putFD ("last_place" : Str) (.int v) (lineF n lp p L) = lineF n v p L := rfl
@[simp] theorem pt_p : putFD ("line_place" : Str) (.int v) (lineF n lp p L) = lineF n lp v L := rfl
@[simp] theorem lf_len : (lineF n lp p L).length = 4 := rfl
end
theorem lineC_eq (n lp p : Int) (L : Str) : lineC c n lp p L = .ins c.TextLine (lineF n lp p L) := rfl
theorem s_ats {M : Mp} {L : Str} (h : L.length ≤ sizeLine) (i : Nat) : atM M (.str L) (.int (i : Nat)) = (L.cps.toList[i]?).map fun ch => .str ⟨#[ch]⟩ := by
  show (if L.length ≤ sizeLine then (atI L.cps.toList (i : Int)).map fun ch => D.str ⟨#[ch]⟩ else none) = _
  rw [if_pos h, atI_nat]
theorem one_eq (ch : Nat) : decide ((⟨#[ch]⟩ : Str) = (" " : Str)) = decide (ch = 32) := by
  have e : (" " : Str) = ⟨#[32]⟩ := by decide
  rw [e]
  by_cases h : ch = 32
  · subst h; simp
  · rw [decide_eq_false h, decide_eq_false]
    intro q
    have := congrArg Str.cps q
    simp at this
    exact h this
theorem len_list (L : Str) : L.cps.toList.length = L.length := by simp [Str.length]
theorem sp_first {l : List Nat} {ts : List Str} (h : Sp l ts) : l.head? ≠ some 32 := by
  cases ts with
  | nil => rw [show l = [] from h]; simp
  | cons t ts =>
    obtain ⟨h1, h2, k, R, e, _⟩ := h
    subst e
    obtain ⟨ch, r, e⟩ : ∃ ch r, t.cps.toList = ch :: r := by
      cases q : t.cps.toList with
      | nil => exact absurd q h1
      | cons a b => exact ⟨a, b, rfl⟩
    rw [e] at h2 ⊢
    simp at h2 ⊢
    exact fun q => h2.1 q.symm
theorem drop_head {l : List Nat} {p : Nat} : (l.drop p).head? = l[p]? := by simp [List.head?_drop]
theorem p_skip (ds : List D) (M : Mp) (Q : VD) (E : XD) (h : sp_TextLine_skip_spaces c ds M Q E) : t_TextLine_skip_spaces c (endsO Q) (startD N_TextLine_skip_spaces ds) M := by
  obtain ⟨a, n, L, ts, lp, p, k, rfl, hM, hL, hk, hs, hS, q⟩ := h
  have hf : L.cps.toList[p + k]? ≠ some 32 := by
    have := sp_first hS
    rwa [drop_head] at this
  unfold t_TextLine_skip_spaces
  refine while_rule (fun m δ M' => ∃ j, j ≤ k ∧ m = k - j ∧ δ = [some (.ref a)] ∧ M' = up M a (lineC c n lp (p + j : Nat) L)) ?_ (n := k) ⟨0, Nat.zero_le _, rfl, rfl, ?_⟩
  · rintro m δ M' ⟨j, hj, rfl, rfl, rfl⟩ nx hn
    have hlen := len_list L
    have h2 : ((p : Int) + (j : Int)) = ((p + j : Nat) : Int) := by omega
    by_cases hjk : j < k
    · have h1 := hs j hjk
      have hlt : p + j < L.length := by omega
      simp [lineC_eq, s_lens hL]
      refine .inr ⟨by omega, ?_⟩
      rw [h2, s_ats hL, h1]
      simp [one_eq]
      refine hn (k - (j + 1)) _ _ (by omega) ⟨j + 1, hjk, rfl, rfl, ?_⟩
      rw [lineC_eq]
      have : ((p + (j + 1) : Nat) : Int) = (p : Int) + (j : Int) + 1 := by omega
      rw [this]
    · have e : j = k := by omega
      subst e
      simp [lineC_eq, s_lens hL]
      by_cases hlt : p + j < L.length
      · have hlt' : p + j < L.cps.toList.length := by omega
        refine .inr ⟨by omega, ?_⟩
        rw [h2, s_ats hL]
        have h1 : L.cps.toList[p + j]? = some L.cps.toList[p + j] := List.getElem?_eq_getElem hlt'
        have h3 : L.cps.toList[p + j] ≠ 32 := fun e => hf (by rw [h1, e])
        rw [h1]
        simp only [Option.map_some, Option.some.injEq, exists_eq_left']
        refine ⟨rfl, .inl ⟨?_, ?_⟩⟩
        · rw [s_eqSs, one_eq]; exact decide_eq_false h3
        · exact out_of (by simpa [lineC_eq] using q)
      · refine .inl ⟨by omega, out_of (by simpa [lineC_eq] using q)⟩
  · rw [Nat.add_zero]
    have : up M a (lineC c n lp p L) = M := by
      funext b
      by_cases e : b = a
      · subst e; rw [up_same, hM]
      · rw [up_ne e]
    rw [this]
theorem up_self {M : Mp} {a : Addr} {cl : Cell} (h : M a = some cl) : up M a cl = M := by
  funext b
  by_cases e : b = a
  · subst e; rw [up_same, h]
  · rw [up_ne e]
theorem p_is_over (ds : List D) (M : Mp) (Q : VD) (E : XD) (h : sp_TextLine_is_over c ds M Q E) : t_TextLine_is_over c (endsO Q) (startD N_TextLine_is_over ds) M := by
  obtain ⟨a, L, n, ts, rfl, ⟨lp, p, hM, hL, hp, hS⟩, q⟩ := h
  have hlen := len_list L
  rw [lineC_eq] at hM
  simp [t_TextLine_is_over, startD, hM, s_lens hL]
  have e : decide ((p : Int) = (L.length : Int)) = ts.isEmpty := by
    cases ts with
    | nil =>
      have : L.cps.toList.drop p = [] := hS
      have := List.drop_eq_nil_iff.mp this
      rw [decide_eq_true (by omega)]; rfl
    | cons t ts =>
      obtain ⟨h1, h2, k, R, e, _⟩ := hS
      have : L.cps.toList.drop p ≠ [] := by rw [e]; simp [h1]
      have : ¬ (p : Int) = (L.length : Int) := fun q => this (by rw [show p = L.length by omega, ← hlen]; exact List.drop_length)
      rw [decide_eq_false this]; rfl
  rw [e]
  exact out_of q
theorem p_take_end (ds : List D) (M : Mp) (Q : VD) (E : XD) (h : sp_TextLine_take_end c ds M Q E) : t_TextLine_take_end c (endsO Q) (startD N_TextLine_take_end ds) M := by
  obtain ⟨a, L, n, rfl, hl, q⟩ := h
  obtain ⟨lp, p, hM, hR⟩ := hl.at_
  rw [lineC_eq] at hM
  simp [t_TextLine_take_end, startD, hM]
  exact ⟨a, L, n, [], rfl, hl, .inr ⟨rfl, out_of q⟩⟩
theorem p_init (ds : List D) (M : Mp) (Q : VD) (E : XD) (h : sp_TextLine_init c ds M Q E) : t_TextLine_init c (endsO Q) (startD N_TextLine_init ds) M := by
  obtain ⟨a, L, ts, n, k, rfl, hM, hL, ⟨R, hR, hS⟩, q⟩ := h
  have hlen := len_list L
  have hk : k ≤ L.length := by rw [← hlen, hR]; simp
  simp [t_TextLine_init, startD, hM]
  refine ⟨by show 1 < 1000; decide, by show 2 < 1000; decide, by show 3 < 1000; decide, rfl, ?_⟩
  refine ⟨a, n, L, ts, 0, 0, k, rfl, up_same, hL, by omega, fun i hi => ?_, ?_, ?_⟩
  · rw [hR, Nat.zero_add, List.getElem?_append_left (by simpa using hi), List.getElem?_replicate, if_pos hi]
  · rw [hR, Nat.zero_add, List.drop_left' (by simp)]; exact hS
  · rw [s_upup, Nat.zero_add]; exact out_of q
theorem sp_start {L : Str} {p : Nat} {t : Str} {ts : List Str} (h : Sp (L.cps.toList.drop p) (t :: ts)) : (∀ i, i < t.length → ∃ ch, L.cps.toList[p + i]? = some ch ∧ ch ≠ 32) ∧ p + t.length ≤ L.length ∧ L.cps.toList[p + t.length]? ∈ [none, some 32] ∧ (L.cps.toList.drop p).take t.length = t.cps.toList ∧
    ∃ k, p + t.length + k ≤ L.length ∧ (∀ i, i < k → L.cps.toList[p + t.length + i]? = some 32) ∧ Sp (L.cps.toList.drop (p + t.length + k)) ts := by
  obtain ⟨h1, h2, k, R, e, hk, hS⟩ := h
  have hlen := len_list L
  have ht := len_list t
  have hd : (L.cps.toList.drop p).length = L.length - p := by simp [hlen]
  have hl2 : (L.cps.toList.drop p).length = t.length + k + R.length := by rw [e, List.length_append, List.length_append, ht, List.length_replicate]
  have get : ∀ i, L.cps.toList[p + i]? = (L.cps.toList.drop p)[i]? := fun i => by rw [List.getElem?_drop]
  have hpos : 0 < t.length := by rw [← ht]; exact List.length_pos_iff.mpr h1
  refine ⟨fun i hi => ?_, by omega, ?_, ?_, k, by omega, fun i hi => ?_, ?_⟩
  · rw [get, e, List.append_assoc, List.getElem?_append_left (by omega)]
    have hi' : i < t.cps.toList.length := by omega
    refine ⟨t.cps.toList[i], List.getElem?_eq_getElem hi', fun q => h2 ?_⟩
    rw [← q]; exact List.getElem_mem hi'
  · rw [get, e, List.append_assoc, List.getElem?_append_right (by omega), ht, Nat.sub_self]
    cases k with
    | zero => rw [hk rfl]; simp
    | succ k => simp [List.replicate_succ]
  · rw [e, List.append_assoc, ← ht, List.take_left' rfl]
  · rw [Nat.add_assoc, get, e, List.append_assoc, List.getElem?_append_right (by omega), ht, Nat.add_sub_cancel_left, List.getElem?_append_left (by simpa using hi), List.getElem?_replicate, if_pos hi]
  · have : L.cps.toList.drop (p + t.length + k) = R := by
      rw [Nat.add_assoc, ← List.drop_drop, e, List.drop_left' (by simp [ht])]
    rw [this]; exact hS
theorem cut_nat (L : Str) {p e : Nat} (hp : p ≤ L.length) (he : e ≤ L.length) : cutS L (some (p : Int)) (some (e : Int)) = ⟨((L.cps.toList.drop p).take (e - p)).toArray⟩ := by
  unfold cutS
  rw [HT.sIx_nat, HT.sIx_nat, Nat.min_eq_left hp, Nat.min_eq_left he]
theorem p_next_token (ds : List D) (M : Mp) (Q : VD) (E : XD) (h : sp_TextLine_next_token c ds M Q E) : t_TextLine_next_token c (endsO Q) (startD N_TextLine_next_token ds) M := by
  obtain ⟨a, L, n, ts, rfl, ⟨lp, p, hM, hL, hp, hS⟩, q⟩ := h
  have hlen := len_list L
  rw [lineC_eq] at hM
  obtain ⟨m, h1, h2, h3, h4⟩ : ∃ m, p + m ≤ L.length ∧ (∀ i, i < m → ∃ ch, L.cps.toList[p + i]? = some ch ∧ ch ≠ 32) ∧ L.cps.toList[p + m]? ∈ [none, some 32] ∧ (⟨((L.cps.toList.drop p).take m).toArray⟩ : Str) = ts.headD Str.empty := by
    cases ts with
    | nil =>
      have : L.cps.toList.drop p = [] := hS
      have h := List.drop_eq_nil_iff.mp this
      exact ⟨0, by omega, fun i hi => absurd hi (Nat.not_lt_zero i), by rw [Nat.add_zero, List.getElem?_eq_none h]; simp, by simp; rfl⟩
    | cons t ts =>
      obtain ⟨g1, g2, g3, g4, _⟩ := sp_start hS
      exact ⟨t.length, g2, g1, g3, by rw [g4]; rfl⟩
  simp [t_TextLine_next_token, startD, hM]
  refine while_rule (fun m' δ M' => ∃ j, j ≤ m ∧ m' = m - j ∧ δ = [some (.ref a), some (.int (p + j : Nat))] ∧ M' = M) ?_ (n := m) ⟨0, Nat.zero_le _, rfl, rfl, rfl⟩
  rintro m' δ M' ⟨j, hj, rfl, rfl, rfl⟩ nx hn
  have e2 : ((p : Int) + (j : Int)) = ((p + j : Nat) : Int) := by omega
  by_cases hjm : j < m
  · obtain ⟨ch, hc, hne⟩ := h2 j hjm
    simp [hM, s_lens hL]
    refine .inr ⟨by omega, ?_⟩
    rw [e2, s_ats hL, hc]
    simp only [Option.map_some, Option.some.injEq, exists_eq_left']
    refine ⟨rfl, .inr ⟨?_, ?_⟩⟩
    · rw [s_eqSs, one_eq]; exact decide_eq_false hne
    · exact hn (m - (j + 1)) _ _ (by omega) ⟨j + 1, hjm, rfl, by simp; omega, rfl⟩
  · have e : j = m := by omega
    subst e
    have fin : Out Q (.str (cutS L (some (p : Int)) (some ((p + j : Nat) : Int)))) M' := by
      rw [cut_nat L hp h1, Nat.add_sub_cancel_left, h4]; exact out_of q
    simp [hM, s_lens hL]
    by_cases hlt : p + j < L.length
    · refine .inr ⟨by omega, ?_⟩
      have hx : L.cps.toList[p + j]? = some 32 := by
        simp only [List.mem_cons, List.not_mem_nil, or_false] at h3
        rcases h3 with h3 | h3
        · have := List.getElem?_eq_none_iff.mp h3
          omega
        · exact h3
      rw [e2, s_ats hL, hx]
      simp only [Option.map_some, Option.some.injEq, exists_eq_left']
      refine ⟨rfl, .inl ⟨?_, ?_⟩⟩
      · rw [s_eqSs, one_eq]; decide
      · exact ⟨hL, fin⟩
    · refine .inl ⟨by omega, ?_⟩
      rw [e2]
      exact ⟨hL, fin⟩
theorem p_take_token (ds : List D) (M : Mp) (Q : VD) (E : XD) (h : sp_TextLine_take_token c ds M Q E) : t_TextLine_take_token c (endsO Q) (startD N_TextLine_take_token ds) M := by
  obtain ⟨a, L, n, t, ts, rfl, hl, q⟩ := h
  obtain ⟨lp, p, hM, hL, hp, hS⟩ := id hl
  have hlen := len_list L
  rw [lineC_eq] at hM
  obtain ⟨g1, g2, g3, g4, k, g5, g6, g7⟩ := sp_start hS
  have ht : 0 < t.length := by
    rw [← len_list t]; exact List.length_pos_iff.mpr hS.1
  simp [t_TextLine_take_token, startD, hM]
  refine ⟨a, L, n, t :: ts, rfl, hl, ?_⟩
  have tne : ¬ t = ("" : Str) := fun e => by subst e; exact absurd ht (by decide)
  simp [hM]
  refine .inl ⟨tne, t.length, s_lens (by omega), a, n, L, ts, p, p + t.length, k, rfl, ?_, hL, g5, g6, g7, ?_⟩
  · rw [lineC_eq, up_same]
    have : ((p + t.length : Nat) : Int) = (p : Int) + (t.length : Int) := by omega
    rw [this]
  · rw [s_upup]
    refine out_of (q _ ⟨⟨p, p + t.length + k, up_same, hL, g5, g7⟩, fun b hb => up_ne hb⟩)
theorem p_take_one_of (ds : List D) (M : Mp) (Q : VD) (E : XD) (h : sp_TextLine_take_one_of c ds M Q E) : t_TextLine_take_one_of c (endsO Q) (startD N_TextLine_take_one_of ds) M := by
  obtain ⟨a, L, n, t, ts, ys, rfl, hy, hl, q⟩ := h
  obtain ⟨lp, p, hM, hR⟩ := id hl.at_
  rw [lineC_eq] at hM
  simp [t_TextLine_take_one_of, startD, hM]
  refine ⟨a, L, n, t, ts, rfl, hl, fun M' nx => ?_⟩
  simp [hy]
  exact out_of (q M' nx)
inductive LnA (c : Cs) (M : Mp) : List Addr → List (List Str) → Prop where
  | nil : LnA c M [] []
  | cons {a : Addr} {L : Str} {n : Int} {ts : List Str} {as : List Addr} {tss : List (List Str)} (h : Ln c M a L n ts) (new : a ∉ as) (r : LnA c M as tss) : LnA c M (a :: as) (ts :: tss)
theorem Ln.there {c : Cs} {M : Mp} {a : Addr} {L : Str} {n : Int} {ts : List Str} (h : Ln c M a L n ts) : M a ≠ none := by
  obtain ⟨lp, p, hM, _⟩ := h.at_
  rw [hM]; simp
theorem Ln.move {c : Cs} {M M' : Mp} {a : Addr} {L : Str} {n : Int} {ts : List Str} (h : Ln c M a L n ts) (e : M' a = M a) : Ln c M' a L n ts := by
  obtain ⟨lp, p, hM, r⟩ := h.at_
  exact ⟨lp, p, e.trans hM, r⟩
theorem LnA.there {c : Cs} {M : Mp} {as : List Addr} {tss : List (List Str)} (h : LnA c M as tss) : ∀ a ∈ as, M a ≠ none := by
  induction h with
  | nil => intro a ha; cases ha
  | cons h new r ih =>
    intro b hb
    rcases List.mem_cons.mp hb with e | e
    · subst e; exact h.there
    · exact ih b e
theorem LnA.move {c : Cs} {M M' : Mp} {as : List Addr} {tss : List (List Str)} (h : LnA c M as tss) (e : ∀ a ∈ as, M' a = M a) : LnA c M' as tss := by
  induction h with
  | nil => exact .nil
  | cons h new r ih => exact .cons (h.move (e _ List.mem_cons_self)) new (ih fun a ha => e a (List.mem_cons_of_mem _ ha))
theorem LnA.snoc {c : Cs} {M : Mp} {as : List Addr} {tss : List (List Str)} (h : LnA c M as tss) {a : Addr} {L : Str} {n : Int} {ts : List Str} (h2 : Ln c M a L n ts) (new : a ∉ as) : LnA c M (as ++ [a]) (tss ++ [ts]) := by
  induction h with
  | nil => exact .cons h2 (by simp) .nil
  | @cons b L' n' ts' as tss h0 new0 r ih =>
    refine .cons h0 ?_ (ih fun q => new (List.mem_cons_of_mem _ q))
    refine fun q => ((List.mem_append (s := as) (t := [a])).mp q).elim new0 ?_
    exact (fun q => new (by rw [List.mem_singleton.mp q]; exact List.mem_cons_self))
theorem lines_made {z : Str} {M0 : Mp} {Qc : List D → Mp → Prop} : ∀ (ls : List Str) (us : List (List Str)), All2 Spaced ls us → ∀ (k : Nat) (as : List Addr) (done : List (List Str)) (M : Mp), Le M0 M → (∀ a ∈ as, M0 a = none) → LnA c M as done → as.length + ls.length ≤ sizeLine →
    (∀ M' as', Le M0 M' → (∀ a ∈ as', M0 a = none) → LnA c M' as' (done ++ us) → as'.length ≤ sizeLine → Qc (as'.map .ref) M') →
    compD (gTup 2 (gCons (gName 2) (gCons (gName 3) gNil))) tYes (dMake c.TextLine (sp_TextLine_init c) (dCons (dVar 2) (dCons (dVar 3) dNil))) (fun x => True) [some (.str z), none, none, none] Qc (enumF k (ls.map .str)) (as.map .ref) M
  | [], us, h, k, as, done, M, l, n, A, hl, q => by
    cases h
    refine ⟨trivial, q M as l n (by simpa using A) (by simpa using hl)⟩
  | L :: ls, _, .cons (b := ts) (bs := us') h r, k, as, done, M, l, n, A, hl, q => by
    obtain ⟨hL, kk, R, hR, hS⟩ := h
    rw [List.length_cons] at hl
    simp [enumF]
    intro x hx
    have xn : x ∉ as := fun e => A.there x e hx
    refine ⟨x, L, ts, k, kk, rfl, up_same, hL, ⟨R, hR, hS⟩, rfl, by omega, ?_⟩
    rw [s_upup]
    have hx0 : M0 x = none := by
      cases e : M0 x with
      | none => rfl
      | some cl => rw [l x cl e] at hx; cases hx
    have hk : kk ≤ L.length := by rw [← len_list, hR]; simp
    have key := lines_made (z := z) ls us' r (k + 1) (as ++ [x]) (done ++ [ts]) (up M x (lineC c k (0 : Nat) kk L)) (Le.trans l (Le.up hx)) (fun a ha => ?_) ((A.move fun a ha => ?_).snoc (a := x) (L := L) (n := k) (ts := ts) ⟨0, kk, up_same, hL, hk, ?_⟩ xn) (by simp; omega) (fun M' as' l' n' A' hl' => q M' as' l' n' (by simpa using A') hl')
    · simpa using key
    · rcases List.mem_append.mp ha with e | e
      · exact n a e
      · rw [List.mem_singleton.mp e]; exact hx0
    · rw [up_ne fun e => by subst e; exact xn ha]
    · rw [hR, List.drop_left' (by simp)]; exact hS
theorem lines_kept {δ : SD} (hd : ∀ d, (δ.set 3 (some d))[3]? = some (some d)) {M : Mp} {as : List Addr} {us : List (List Str)} (A : LnA c M as us) : ∃ bs, LnsAt c M bs (us.filter fun ts => !ts.isEmpty) ∧ (∀ b ∈ bs, b ∈ as) ∧ ∀ (acc : List Addr) (Qc : List D → Mp → Prop), acc.length + as.length ≤ sizeLine → Qc ((acc ++ bs).map .ref) M →
    compD (gName 3) (dNot (dTest (dMeth c.TextLine (Str.ofString "is_over") (sp_TextLine_is_over c) (dVar 3) dNil))) (dVar 3) (fun x => True) δ Qc (as.map .ref) (acc.map .ref) M := by
  induction A with
  | nil => exact ⟨[], .nil, fun _ h => h, fun acc Qc _ q => ⟨trivial, by simpa using q⟩⟩
  | @cons a L n ts as tss h new r ih =>
    obtain ⟨bs, h1, h2, h3⟩ := ih
    obtain ⟨lp, p, hM, hR⟩ := h.at_
    rw [lineC_eq] at hM
    have run : ∀ (K : Bool → Mp → Prop), K (!ts.isEmpty) M → dNot (dTest (dMeth c.TextLine (Str.ofString "is_over") (sp_TextLine_is_over c) (dVar 3) dNil)) (δ.set 3 (some (.ref a))) M K := fun K q => by
      simp [hd, hM]
      refine ⟨a, L, n, ts, rfl, h, ?_⟩
      cases hts : ts.isEmpty with
      | true => rw [hts] at q; exact .inr ⟨rfl, q⟩
      | false => rw [hts] at q; exact .inl ⟨rfl, q⟩
    by_cases e : ts = []
    · subst e
      refine ⟨bs, by simpa using h1, fun b hb => List.mem_cons_of_mem _ (h2 b hb), fun acc Qc hl q => ⟨trivial, ?_⟩⟩
      rw [s_gname]
      refine run _ ?_
      rw [if_neg (by simp)]
      exact h3 acc Qc (by rw [List.length_cons] at hl; omega) q
    · have e' : ts.isEmpty = false := by simpa using e
      refine ⟨a :: bs, ?_, fun b hb => ?_, fun acc Qc hl q => ⟨trivial, ?_⟩⟩
      · rw [List.filter_cons_of_pos (by simp [e'])]
        exact .cons h e (fun q => new (h2 a q)) h1
      · rcases List.mem_cons.mp hb with z | z
        · subst z; exact List.mem_cons_self
        · exact List.mem_cons_of_mem _ (h2 b z)
      · rw [List.length_cons] at hl
        rw [s_gname]
        refine run _ ?_
        rw [if_pos (by simp [e'])]
        refine ⟨.ref a, hd _, by simp; omega, ?_⟩
        have := h3 (acc ++ [a]) Qc (by simp; omega) (by simpa using q)
        simpa using this
theorem p_text_lines (ds : List D) (M : Mp) (Q : VD) (E : XD) (h : sp_text_lines c ds M Q E) : t_text_lines c (endsO Q) (startD N_text_lines ds) M := by
  obtain ⟨z, tss, rfl, ⟨hz, uss, hA, rfl⟩, q⟩ := h
  have hsl : (Txt.split z nl1).length ≤ sizeLine := Nat.le_trans (PyProof.Rows.split_le z nl1) hz
  simp [t_text_lines, startD, wipeD, enumD_eq]
  refine ⟨by decide, hz, ?_⟩
  refine lines_made c (M0 := M) (Txt.split z nl1) uss hA 0 [] [] M (Le.refl M) (by simp) .nil (by simpa using hsl) fun M' as l n A hl => ?_
  obtain ⟨bs, h1, h2, h3⟩ := lines_kept c (δ := [some (.str z), some (.lst (as.map .ref)), none, none]) (fun d => rfl) (by simpa using A)
  have := h3 [] (fun acc M2 => Out Q (.lst acc) M2) (by simpa using hl) (by simpa using out_of (q M' bs l (fun a ha => n a (h2 a ha)) (by simpa using h1)))
  simpa using this
end Ht
set_option Elab.async false
set_option linter.all false
set_option maxRecDepth 100000
namespace Ht
open PySem PySem.Spec PyProof.Rows L2
variable (c : Cs)
theorem line_eq' : sizeLine = 16777216 := sizeLine_eq
theorem Ln.next.trans {c : Cs} {M M1 M2 : Mp} {a : Addr} {L : Str} {n : Int} {ts us : List Str} (h1 : Ln.next c M a L n ts M1) (h2 : Ln.next c M1 a L n us M2) : Ln.next c M a L n us M2 := ⟨h2.1, fun x hx => (h2.2 x hx).trans (h1.2 x hx)⟩
theorem letters_glob : g_LETTERS = .str lettersS := rfl
theorem has_letter {M : Mp} (ch : Nat) : hasM M (.str ⟨#[ch]⟩) (.str lettersS) = some (decide (ch ∈ lettersS.cps.toList)) := rfl
theorem comp_signs {G : Mp → Prop} {te : DE_} {f : Nat → D} {δ : SD} {M : Mp} {Q : List D → Mp → Prop} {i : Nat} (z : Str) (hG : G M) (h3 : ∀ ch ∈ z.cps.toList, ∀ R : VD, R (f ch) M → te (δ.set i (some (.str ⟨#[ch]⟩))) M R) (hl : z.length ≤ sizeLine) (q : Q (z.cps.toList.map f) M) : compD (gName i) tYes te G δ Q (signsD z) [] M :=
  comp_name (enc := fun ch => .str ⟨#[ch]⟩) z.cps.toList [] hG h3 (by simpa [Str.length] using hl) (by simpa using q)
theorem map_bl (l : List Nat) (p : Nat → Bool) : l.map (fun ch => D.bl (p ch)) = (l.map p).map .bl := by simp
theorem p_is_word (ds : List D) (M : Mp) (Q : VD) (E : XD) (h : sp_is_word c ds M Q E) : t_is_word c (endsO Q) (startD N_is_word ds) M := by
  obtain ⟨z, rfl, hz, q⟩ := h
  simp [t_is_word, startD, s_lens hz, wipeD, letters_glob]
  have e : isWord z = (decide (0 < z.length) && (z.cps.toList.map fun ch => decide (ch ∈ lettersS.cps.toList)).all id) := by
    unfold isWord; simp [List.all_map]
  by_cases h0 : 0 < z.length
  · refine .inr ⟨h0, ?_⟩
    refine comp_signs (f := fun ch => .bl (decide (ch ∈ lettersS.cps.toList))) z trivial ?_ hz ?_
    · intro ch hc R r
      rw [s_op, s_var]
      refine ⟨_, rfl, ?_⟩
      rw [s_c, s_rIn]
      exact ⟨_, rfl, r⟩
    · rw [map_bl]
      refine ⟨_, rfl, ?_⟩
      rw [e, decide_eq_true h0, Bool.true_and] at q
      exact out_of q
  · refine .inl ⟨by omega, ?_⟩
    rw [e, decide_eq_false h0, Bool.false_and] at q
    exact out_of q
theorem Ln.tok {c : Cs} {M : Mp} {a : Addr} {L : Str} {n : Int} {t : Str} {ts : List Str} (h : Ln c M a L n (t :: ts)) : t.length ≤ sizeLine := by
  obtain ⟨lp, p, hM, hL, hp, hS⟩ := h.at_
  have := (sp_start hS).2.1
  omega
theorem p_take_word (ds : List D) (M : Mp) (Q : VD) (E : XD) (h : sp_take_word c ds M Q E) : t_take_word c (endsO Q) (startD N_take_word ds) M := by
  obtain ⟨a, L, n, t, ts, rfl, ⟨hw, hm⟩, hl, q⟩ := h
  obtain ⟨lp, p, hM, hR⟩ := id hl.at_
  rw [lineC_eq] at hM
  simp [t_take_word, startD, hM]
  refine ⟨a, L, n, t, ts, rfl, hl, fun M' nx => ?_⟩
  simp
  refine ⟨t, rfl, hl.tok, ?_⟩
  rw [hw, marks_eq]
  simp [hm]
  exact out_of (q M' nx)
theorem over_of {M : Mp} {a : Addr} {L : Str} {n : Int} {ts : List Str} (h : Ln c M a L n ts) {Q : VD} (q : Q (.bl ts.isEmpty) M) : sp_TextLine_is_over c [.ref a] M Q X0 := ⟨a, L, n, ts, rfl, h, q⟩
theorem next_of {M : Mp} {a : Addr} {L : Str} {n : Int} {ts : List Str} (h : Ln c M a L n ts) {Q : VD} (q : Q (.str (ts.headD Str.empty)) M) : sp_TextLine_next_token c [.ref a] M Q X0 := ⟨a, L, n, ts, rfl, h, q⟩
theorem Ln.cell {c : Cs} {M : Mp} {a : Addr} {L : Str} {n : Int} {ts : List Str} (h : Ln c M a L n ts) : ∃ lp p : Nat, M a = some (.ins c.TextLine (lineF n lp p L)) := by
  obtain ⟨lp, p, hM, _⟩ := h.at_
  exact ⟨lp, p, hM⟩
theorem out_line {M M' : Mp} {a : Addr} {L : Str} {n : Int} {ts ts' : List Str} {d : D} {Q : VD} (h0 : Ln c M a L n ts) (h : Ln c M' a L n ts') (k : ∀ b, b ≠ a → M b ≠ none → M' b = M b) (q : ∀ M2, Ln.next c M a L n ts' M2 → Q d M2) : Out Q d M' := by
  obtain ⟨lp, p, hM, r⟩ := h.at_
  refine out_le (M := up M a (lineC c n lp p L)) (fun b cl e => ?_) (q _ ⟨⟨lp, p, up_same, r⟩, fun b hb => up_ne hb⟩)
  by_cases hb : b = a
  · subst hb; rw [up_same] at e; rw [hM, ← e]
  · rw [up_ne hb] at e
    rw [k b hb (by rw [e]; simp), e]
theorem sp_count : ∀ {ts : List Str} {l : List Nat}, Sp l ts → ts.length ≤ l.length
  | [], _, _ => Nat.zero_le _
  | t :: ts, _, ⟨h1, h2, k, R, e, _, hS⟩ => by
    have := sp_count hS
    have h3 := List.length_pos_iff.mpr h1
    subst e
    simp only [List.length_append, List.length_cons]
    omega
theorem Ln.count {c : Cs} {M : Mp} {a : Addr} {L : Str} {n : Int} {ts : List Str} (h : Ln c M a L n ts) : ts.length ≤ sizeLine := by
  obtain ⟨lp, p, hM, hL, hp, hS⟩ := h.at_
  have h1 := sp_count hS
  have h2 := len_list L
  rw [List.length_drop] at h1
  omega
theorem p_take_words (ds : List D) (M : Mp) (Q : VD) (E : XD) (h : sp_take_words c ds M Q E) : t_take_words c (endsO Q) (startD N_take_words ds) M := by
  obtain ⟨a, L, n, ts, us, rfl, hu, hs, hl, q⟩ := h
  have big : us.length ≤ sizeLine := by
    have := hl.count
    rw [List.length_append] at this
    omega
  simp [t_take_words, startD]
  intro p np
  have hap : a ≠ p := fun e => hl.there (e ▸ np)
  refine while_rule (fun m δ M' => ∃ done rest, us = done ++ rest ∧ m = rest.length ∧ δ = [some (.ref a), some (.ref p)] ∧ Ln c M' a L n (rest ++ ts) ∧ M' p = some (.lst (done.map .str)) ∧ ∀ b, b ≠ a → b ≠ p → M' b = M b) ?_ (n := us.length) ⟨[], us, rfl, rfl, rfl, hl.move (up_ne hap), up_same, fun b h1 h2 => up_ne h2⟩
  rintro m δ M' ⟨done, rest, hd, rfl, rfl, hl', hp, hk⟩ nx hn
  obtain ⟨lp', p', hM'⟩ := hl'.cell
  simp [hM']
  refine over_of c hl' ?_
  have fin : rest = [] → ∃ es, lstM M' (.ref p) = some es ∧ Out Q (.tup es) M' := fun e => by
    subst e
    rw [List.append_nil] at hd
    subst hd
    refine ⟨_, s_lstr hp, out_line c hl hl' (fun b h1 h2 => hk b h1 fun e => h2 (e ▸ np)) fun M2 nx2 => q M2 nx2⟩
  cases hrt : rest ++ ts with
  | nil => exact .inr ⟨rfl, fin (List.append_eq_nil_iff.mp hrt).1⟩
  | cons u r =>
    refine .inl ⟨rfl, _, hM', rfl, ?_⟩
    rw [hrt] at hl'
    refine next_of c hl' ?_
    rw [marks_eq, s_hast]
    cases rest with
    | nil =>
      rw [List.nil_append] at hrt
      rcases hs with e | ⟨t, r', e, hm⟩
      · rw [e] at hrt; cases hrt
      · rw [e] at hrt; cases hrt
        exact .inr ⟨by simp [hm], fin rfl⟩
    | cons v rest =>
      cases hrt
      have hv : wordOk u := hu u (by rw [hd]; simp)
      refine .inl ⟨by simp [hv.2], s_tyr hp, a, L, n, u, rest ++ ts, rfl, hv, hl', fun M2 nx2 => ?_⟩
      have hp2 : M2 p = some (.lst (done.map .str)) := (nx2.2 p (Ne.symm hap)).trans hp
      dsimp only
      rw [s_cell hp2]
      simp
      have hb : done.length < sizeLine := by
        rw [hd] at big
        simp at big
        omega
      refine ⟨hb, hn rest.length _ _ (by simp) ⟨done ++ [u], rest, by rw [hd]; simp, rfl, rfl, nx2.1.move (up_ne hap), by rw [up_same]; simp, fun b h1 h2 => ?_⟩⟩
      rw [up_ne h2, nx2.2 b h1, hk b h1 h2]
theorem p_take_atom (ds : List D) (M : Mp) (Q : VD) (E : XD) (h : sp_take_atom c ds M Q E) : t_take_atom c (endsO Q) (startD N_take_atom ds) M := by
  obtain ⟨b, L, n, ts, a, rfl, ⟨hw, hu⟩, hs, hl, q⟩ := h
  simp [t_take_atom, startD]
  refine ⟨b, L, n, a.w, a.ws ++ ts, rfl, hw, hl, fun M1 n1 => ?_⟩
  simp
  refine ⟨b, L, n, ts, a.ws, rfl, hu, hs, n1.1, fun M2 n2 => ?_⟩
  rw [line_eq']
  refine ⟨by decide, out_of (q M2 ⟨n2.1, fun x hx => (n2.2 x hx).trans (n1.2 x hx)⟩)⟩
theorem rd_ok {p : Plain} (h : p.rd) : p.ok := by
  cases p with
  | fact n a => exact h.1
  | two n a b => exact h.1
theorem p_take_plain (ds : List D) (M : Mp) (Q : VD) (E : XD) (h : sp_take_plain c ds M Q E) : t_take_plain c (endsO Q) (startD N_take_plain ds) M := by
  obtain ⟨b, L, n, ts, p, rfl, hp, hs, hl, q⟩ := h
  obtain ⟨lp', p', hM'⟩ := hl.cell
  simp [t_take_plain, startD, hM']
  cases p with
  | fact nm a =>
    obtain ⟨hn, ha⟩ := hp
    refine ⟨b, L, n, nm, a.w :: a.ws ++ ts, four, rfl, by rcases hn with h | h <;> subst h <;> decide, hl, fun M1 n1 => ?_⟩
    have hn' : (decide (nm = "yes") || decide (nm = "no")) = true := by simpa using hn
    simp [hn', line_eq']
    refine ⟨b, L, n, ts, a, rfl, ha, hs, n1.1, fun M2 n2 => ?_⟩
    exact out_of (q M2 (n1.trans n2))
  | two nm x y =>
    obtain ⟨hn, hx, hy⟩ := hp
    refine ⟨b, L, n, nm, x :: y :: ts, four, rfl, by rcases hn with h | h <;> subst h <;> decide, hl, fun M1 n1 => ?_⟩
    have hn' : ¬ nm = "yes" ∧ ¬ nm = "no" := by rcases hn with h | h <;> subst h <;> decide
    simp [hn', line_eq']
    refine ⟨b, L, n, x, y :: ts, rfl, hx, n1.1, fun M2 n2 => ?_⟩
    simp
    refine ⟨b, L, n, y, ts, rfl, hy, n2.1, fun M3 n3 => ?_⟩
    exact out_of (q M3 ((n1.trans n2).trans n3))
def tailT (m : Str) (ps : List Plain) : List Str := if ps.isEmpty then [] else m :: rowToks m ps
theorem row_tail (m : Str) (p : Plain) (ps : List Plain) : rowToks m (p :: ps) = p.toks ++ tailT m ps := by
  cases ps with
  | nil => simp [rowToks, tailT]
  | cons q r => simp [rowToks, tailT]
theorem tail_stop {m : Str} (hm : m ∈ marks) (ps : List Plain) : Stop (tailT m ps) := by
  cases ps with
  | nil => exact .inl rfl
  | cons q r => exact .inr ⟨m, _, rfl, hm⟩
theorem p_take_row (ds : List D) (M : Mp) (Q : VD) (E : XD) (h : sp_take_row_of_plain c ds M Q E) : t_take_row_of_plain c (endsO Q) (startD N_take_row_of_plain ds) M := by
  obtain ⟨a, L, n, mark, p, ps, rfl, hm, hr, hl, q⟩ := h
  have big : (p :: ps).length ≤ sizeLine := by
    have h1 := hl.count
    have h2 : ∀ ps : List Plain, ps.length ≤ (rowToks mark ps).length := by
      intro ps
      induction ps with
      | nil => exact Nat.zero_le _
      | cons x r ih =>
        have h3 : 0 < x.toks.length := by cases x <;> simp [Plain.toks]
        rw [row_tail, List.length_append, List.length_cons]
        cases r with
        | nil => simp; omega
        | cons y r =>
          have : tailT mark (y :: r) = mark :: rowToks mark (y :: r) := rfl
          rw [this, List.length_cons (a := mark)]
          omega
    have := h2 (p :: ps)
    omega
  rw [row_tail] at hl
  simp [t_take_row_of_plain, startD]
  refine ⟨a, L, n, _, p, rfl, hr p List.mem_cons_self, tail_stop hm ps, hl, fun M1 n1 => ?_⟩
  rw [line_eq']
  refine ⟨by decide, fun x xn => ?_⟩
  have hax : a ≠ x := fun e => n1.1.there (e ▸ xn)
  have hnone : ∀ b, b ≠ a → M b ≠ none → b ≠ x := fun b h1 h2 e => by
    subst e
    rw [n1.2 b h1] at xn
    exact h2 xn
  refine while_rule (fun m δ M' => ∃ done rest, p :: ps = done ++ rest ∧ m = rest.length ∧ δ = [some (.ref a), some (.tup (four.map .str)), some (.str mark), some (.ref x)] ∧ Ln c M' a L n (tailT mark rest) ∧ M' x = some (.lst (done.map Plain.d)) ∧ ∀ b, b ≠ a → b ≠ x → M' b = M b) ?_ (n := ps.length) ⟨[p], ps, rfl, rfl, rfl, n1.1.move (up_ne hax), up_same, fun b h1 h2 => (up_ne h2).trans (n1.2 b h1)⟩
  rintro m δ M' ⟨done, rest, hd, rfl, rfl, hl', hp, hk⟩ nx hn
  obtain ⟨lp', p', hM'⟩ := hl'.cell
  simp [hM']
  refine over_of c hl' ?_
  cases rest with
  | nil =>
    rw [List.append_nil] at hd
    subst hd
    exact .inr ⟨rfl, _, s_lstr hp, out_line c hl hl' (fun b h1 h2 => hk b h1 (hnone b h1 h2)) fun M2 nx2 => by simpa using q M2 nx2⟩
  | cons r rest =>
    have et : tailT mark (r :: rest) = mark :: (r.toks ++ tailT mark rest) := by
      show mark :: rowToks mark (r :: rest) = _
      rw [row_tail]
    rw [et] at hl' ⊢
    refine .inl ⟨rfl, _, hM', rfl, next_of c hl' ?_⟩
    refine ⟨rfl, .inr ⟨by simp, _, hM', rfl, a, L, n, mark, _, rfl, hl', fun M2 n2 => ?_⟩⟩
    have hp2 : M2 x = some (.lst (done.map Plain.d)) := (n2.2 x (Ne.symm hax)).trans hp
    refine ⟨s_tyr hp2, a, L, n, _, r, rfl, hr r (by rw [hd]; simp), tail_stop hm rest, n2.1, fun M3 n3 => ?_⟩
    have hp3 : M3 x = some (.lst (done.map Plain.d)) := (n3.2 x (Ne.symm hax)).trans hp2
    dsimp only
    rw [s_cell hp3]
    simp
    refine ⟨?_, hn rest.length _ _ (by simp) ⟨done ++ [r], rest, by rw [hd]; simp, rfl, rfl, n3.1.move (up_ne hax), by rw [up_same]; simp, fun b h1 h2 => ?_⟩⟩
    · rw [hd] at big; simp at big; omega
    · rw [up_ne h2, n3.2 b h1, n2.2 b h1, hk b h1 h2]
theorem stop_nil : Stop [] := .inl rfl
theorem p_take_condition (ds : List D) (M : Mp) (Q : VD) (E : XD) (h : sp_take_condition c ds M Q E) : t_take_condition c (endsO Q) (startD N_take_condition ds) M := by
  obtain ⟨b, L, n, k, rfl, hk, hl, q⟩ := h
  obtain ⟨lp', p', hM'⟩ := hl.cell
  simp [t_take_condition, startD, hM']
  refine next_of c hl ?_
  cases k with
  | one p =>
    have hl2 : Ln c M b L n (p.toks ++ []) := by rw [List.append_nil]; exact hl
    have hn : ∃ nm r, p.toks = nm :: r ∧ nm ∈ four ∧ nm ≠ "either" := by
      cases p with
      | fact nm a => exact ⟨nm, _, rfl, by rcases hk.1 with h | h <;> subst h <;> decide, by rcases hk.1 with h | h <;> subst h <;> decide⟩
      | two nm x y => exact ⟨nm, _, rfl, by rcases hk.1 with h | h <;> subst h <;> decide, by rcases hk.1 with h | h <;> subst h <;> decide⟩
    obtain ⟨nm, r, e, h1, h2⟩ := hn
    have e2 : (Cond.toks (.one p)).headD Str.empty = nm := by show p.toks.headD _ = nm; rw [e]; rfl
    rw [e2]
    refine ⟨rfl, .inl ⟨by simp [h2], _, hM', rfl, next_of c hl ?_⟩⟩
    rw [e2, s_hast]
    refine .inr ⟨by simp [h1], b, L, n, [], p, rfl, hk, stop_nil, hl2, fun M' nx => out_of (q M' nx)⟩
  | either ps =>
    obtain ⟨p, r, e⟩ : ∃ p r, ps = p :: r := by
      cases ps with
      | nil => exact absurd rfl hk.1
      | cons p r => exact ⟨p, r, rfl⟩
    subst e
    refine ⟨rfl, .inr ⟨by simp [Cond.toks], _, hM', rfl, b, L, n, _, _, rfl, hl, fun M1 n1 => ?_⟩⟩
    refine ⟨b, L, n, "or", p, r, rfl, by decide, hk.2, n1.1, fun M2 n2 => ?_⟩
    rw [line_eq']
    exact ⟨by decide, out_of (q M2 (n1.trans n2))⟩
theorem p_take_effect (ds : List D) (M : Mp) (Q : VD) (E : XD) (h : sp_take_effect c ds M Q E) : t_take_effect c (endsO Q) (startD N_take_effect ds) M := by
  obtain ⟨b, L, n, e, rfl, ha, hw, hl, q⟩ := h
  obtain ⟨nm, a, w⟩ := e
  simp [t_take_effect, startD]
  have e0 : (Eff.mk nm a w).toks.tail = a.w :: a.ws ++ (if w.isEmpty then [] else ("when" : Str) :: rowToks "and" w) := rfl
  rw [e0] at hl
  cases w with
  | nil =>
    refine ⟨b, L, n, [], a, rfl, ha, stop_nil, by simpa using hl, fun M1 n1 => ?_⟩
    obtain ⟨lp', p', hM'⟩ := n1.1.cell
    simp [hM']
    refine over_of c n1.1 (.inr ⟨rfl, ?_⟩)
    rw [line_eq']
    exact ⟨by decide, out_of (q M1 n1)⟩
  | cons p r =>
    refine ⟨b, L, n, ("when" : Str) :: rowToks "and" (p :: r), a, rfl, ha, .inr ⟨"when", _, rfl, by decide⟩, by simpa using hl, fun M1 n1 => ?_⟩
    obtain ⟨lp', p', hM'⟩ := n1.1.cell
    simp [hM']
    refine over_of c n1.1 (.inl ⟨rfl, ?_⟩)
    rw [line_eq']
    refine ⟨_, hM', rfl, by decide, b, L, n, "when", _, ["when"], rfl, by decide, n1.1, fun M2 n2 => ?_⟩
    refine ⟨by decide, b, L, n, "and", p, r, rfl, by decide, hw, n2.1, fun M3 n3 => ?_⟩
    exact ⟨by decide, out_of (q M3 ((n1.trans n2).trans n3))⟩
theorem num_cps (m : Nat) : (toString (m : Int) : Str).cps.toList = (Nat.toDigits 10 m).map Char.toNat := PySem.W.KIN.signs_num m
theorem num_digits (m : Nat) : ∀ ch ∈ (toString (m : Int) : Str).cps.toList, 48 ≤ ch ∧ ch ≤ 57 := by
  intro ch hc
  rw [num_cps] at hc
  obtain ⟨x, hx, e⟩ := List.mem_map.mp hc
  have r := PyProof.Rows.digit_range (Nat.isDigit_of_mem_toDigits (by decide) (by decide) hx)
  rw [← e]; exact r
theorem num_ne (m : Nat) : (toString (m : Int) : Str).cps.toList ≠ [] := by
  rw [num_cps]
  intro e
  have h := PySem.toDigits_len_ge 10 m
  rw [List.map_eq_nil_iff.mp e] at h
  exact absurd h (by decide)
theorem num_back {i : Int} (h : numOk i) : PySem.intText? (toString i) = some i := by
  obtain ⟨h0, hl⟩ := h
  obtain ⟨m, rfl⟩ := Int.eq_ofNat_of_zero_le h0
  have e := intText_digits (x := (toString (m : Int) : Str)) (num_digits m) (num_ne m) (Nat.le_trans hl (by decide))
  rw [num_cps, PySem.W.KIN.val_back] at e
  exact e
theorem num_head : ∀ m : Nat, 0 < m → ∃ d r, 0 < d ∧ d < 10 ∧ Nat.toDigits 10 m = Nat.digitChar d :: r := by
  intro m
  induction m using Nat.strongRecOn with
  | _ m ih =>
    intro hm
    by_cases h : m < 10
    · exact ⟨m, [], hm, h, Nat.toDigits_of_lt_base h⟩
    · have t : Nat.toDigits 10 (m / 10) ++ Nat.toDigits 10 (m % 10) = Nat.toDigits 10 (10 * (m / 10) + m % 10) := Nat.toDigits_append_toDigits (by decide) (by omega) (Nat.mod_lt m (by decide))
      rw [Nat.div_add_mod] at t
      obtain ⟨d, r, h1, h2, e⟩ := ih (m / 10) (by omega) (by omega)
      rw [e] at t
      exact ⟨d, r ++ Nat.toDigits 10 (m % 10), h1, h2, t.symm⟩
theorem digit_ne0 : ∀ d : Nat, d < 10 → 0 < d → (Nat.digitChar d).toNat ≠ 48 := by decide
theorem str_ext {x y : Str} (h : x.cps.toList = y.cps.toList) : x = y := Str.ext' (Array.toList_inj.mp h)
theorem p_is_digits (ds : List D) (M : Mp) (Q : VD) (E : XD) (h : sp_is_digits c ds M Q E) : t_is_digits c (endsO Q) (startD N_is_digits ds) M := by
  obtain ⟨i, rfl, hi, q⟩ := h
  obtain ⟨h0, hl⟩ := hi
  obtain ⟨m, rfl⟩ := Int.eq_ofNat_of_zero_le h0
  have hd := num_digits m
  have hne := num_ne m
  have hz : (toString (m : Int) : Str).length ≤ sizeLine := by rw [line_eq']; omega
  have hh : (m = 0 ∧ (toString (m : Int) : Str) = ("0" : Str)) ∨ ∃ ch r, (toString (m : Int) : Str).cps.toList = ch :: r ∧ ch ≠ 48 := by
    by_cases e : m = 0
    · subst e; exact .inl ⟨rfl, rfl⟩
    · obtain ⟨d, r, h1, h2, e⟩ := num_head m (by omega)
      exact .inr ⟨_, _, by rw [num_cps, e]; rfl, digit_ne0 d h2 h1⟩
  generalize (toString (m : Int) : Str) = z at *
  have ze : ¬ z = ("" : Str) := fun e => by subst e; exact hne rfl
  simp [t_is_digits, startD, wipeD, ze]
  refine comp_signs (f := fun ch => .bl false) z trivial ?_ hz ?_
  · intro ch hc R r
    rw [s_op, s_var]
    refine ⟨_, rfl, ?_⟩
    rw [s_c, s_rNotIn]
    have hin : hasM M (.str ⟨#[ch]⟩) (.str ("0123456789" : Str)) = some (decide (ch ∈ ("0123456789" : Str).cps.toList)) := rfl
    refine ⟨_, hin, ?_⟩
    have h48 := hd ch hc
    have : decide (ch ∈ ("0123456789" : Str).cps.toList) = true := by
      have h58 : ∀ k : Nat, k < 58 → 48 ≤ k → k ∈ ("0123456789" : Str).cps.toList := by decide
      exact decide_eq_true (h58 ch (by omega) h48.1)
    rw [this]
    exact r
  · refine ⟨z.cps.toList.map fun _ => false, by simp, .inl ⟨by simp, ?_⟩⟩
    rcases hh with ⟨_, e⟩ | ⟨ch, r, e, hch⟩
    · exact .inr ⟨e, out_of q⟩
    · by_cases hz0 : z = ("0" : Str)
      · exact .inr ⟨hz0, out_of q⟩
      · refine .inl ⟨hz0, ?_⟩
        have h1 : atM M (.str z) (.int 0) = some (.str ⟨#[ch]⟩) := by
          have := s_ats (M := M) hz 0
          rw [show ((0 : Nat) : Int) = 0 from rfl, e] at this
          exact this
        refine ⟨_, h1, rfl, ?_⟩
        have : eqS (.str ⟨#[ch]⟩) (.str ("0" : Str)) = false := by
          rw [s_eqSs]
          refine decide_eq_false fun e2 => hch ?_
          have := congrArg (fun s : Str => s.cps.toList) e2
          have e3 : ("0" : Str).cps.toList = [48] := by decide
          simp only [e3] at this
          simpa using this
        rw [this]
        exact out_of q
theorem p_take_number (ds : List D) (M : Mp) (Q : VD) (E : XD) (h : sp_take_number c ds M Q E) : t_take_number c (endsO Q) (startD N_take_number ds) M := by
  obtain ⟨b, L, n, i, rfl, hi, hl, q⟩ := h
  obtain ⟨lp', p', hM'⟩ := hl.cell
  simp only [t_take_number]
  simp [startD, hM']
  refine ⟨b, L, n, _, [], rfl, hl, fun M1 n1 => ?_⟩
  simp
  refine ⟨i, rfl, hi, ?_⟩
  refine .inr ⟨rfl, i, ?_, out_of (q M1 n1)⟩
  show (if (toString i : Str).length ≤ 640 then PySem.intText? (toString i) else none) = some i
  rw [if_pos hi.2, num_back hi]
theorem p_take_cost (ds : List D) (M : Mp) (Q : VD) (E : XD) (h : sp_take_cost c ds M Q E) : t_take_cost c (endsO Q) (startD N_take_cost ds) M := by
  obtain ⟨b, L, n, k, rfl, hk, hl, q⟩ := h
  obtain ⟨lp', p', hM'⟩ := hl.cell
  simp [t_take_cost, startD, hM', line_eq']
  cases k with
  | num i =>
    refine next_of c hl ?_
    refine ⟨rfl, .inl ⟨?_, b, L, n, i, rfl, hk, hl, fun M' nx => out_of (q M' nx)⟩⟩
    rw [s_eqSs]
    refine decide_eq_false fun e => ?_
    obtain ⟨m, rfl⟩ := Int.eq_ofNat_of_zero_le hk.1
    have e2 : (toString (m : Int) : Str) = ("by" : Str) := e
    have := num_digits m 98 (by rw [e2]; decide)
    omega
  | by_ w ws =>
    refine next_of c hl ⟨rfl, .inr ⟨by rw [s_eqSs]; exact decide_eq_true rfl, _, hM', rfl, b, L, n, "by", w :: ws, rfl, hl, fun M1 n1 => ?_⟩⟩
    refine ⟨b, L, n, w, ws, rfl, hk.1, n1.1, fun M2 n2 => ?_⟩
    refine ⟨b, L, n, [], ws, rfl, hk.2, stop_nil, by rw [List.append_nil]; exact n2.1, fun M3 n3 => ?_⟩
    exact out_of (q M3 ((n1.trans n2).trans n3))
theorem p_take_variables (ds : List D) (M : Mp) (Q : VD) (E : XD) (h : sp_take_variables c ds M Q E) : t_take_variables c (endsO Q) (startD N_take_variables ds) M := by
  obtain ⟨a, L, n, vs, rfl, hv, hl, q⟩ := h
  have big : vs.length ≤ sizeLine := by
    have h1 := hl.count
    have h2 : (vs.flatMap fun p => [p.1, p.2]).length = vs.length * 2 := by
      clear hl hv h1 q
      induction vs with
      | nil => rfl
      | cons v r ih => rw [List.flatMap_cons, List.length_append, ih]; simp; omega
    omega
  simp [t_take_variables, startD]
  intro p np
  have hap : a ≠ p := fun e => hl.there (e ▸ np)
  refine while_rule (fun m δ M' => ∃ done rest X, vs = done ++ rest ∧ m = rest.length ∧ δ = [some (.ref a), some (.ref p), X] ∧ Ln c M' a L n (rest.flatMap fun p => [p.1, p.2]) ∧ M' p = some (.lst (done.map pairD)) ∧ ∀ b, b ≠ a → b ≠ p → M' b = M b) ?_ (n := vs.length) ⟨[], vs, none, rfl, rfl, rfl, hl.move (up_ne hap), up_same, fun b h1 h2 => up_ne h2⟩
  rintro m δ M' ⟨done, rest, X, hd, rfl, rfl, hl', hp, hk⟩ nx hn
  obtain ⟨lp', p', hM'⟩ := hl'.cell
  simp [hM']
  refine over_of c hl' ?_
  cases rest with
  | nil =>
    rw [List.append_nil] at hd
    subst hd
    exact .inr ⟨rfl, _, s_lstr hp, out_line c hl hl' (fun b h1 h2 => hk b h1 fun e => h2 (e ▸ np)) fun M2 nx2 => q M2 nx2⟩
  | cons v rest =>
    have hvv := hv v (by rw [hd]; simp)
    refine .inl ⟨rfl, a, L, n, v.1, _, rfl, hvv.1, hl', fun M1 n1 => ?_⟩
    have hp1 : M1 p = some (.lst (done.map pairD)) := (n1.2 p (Ne.symm hap)).trans hp
    refine ⟨s_tyr hp1, a, L, n, v.2, _, rfl, hvv.2, n1.1, fun M2 n2 => ?_⟩
    have hp2 : M2 p = some (.lst (done.map pairD)) := (n2.2 p (Ne.symm hap)).trans hp1
    dsimp only
    rw [s_cell hp2, line_eq']
    simp
    refine ⟨?_, hn rest.length _ _ (by simp) ⟨done ++ [v], rest, _, by rw [hd]; simp, rfl, rfl, n2.1.move (up_ne hap), by rw [up_same]; simp [pairD], fun b h1 h2 => ?_⟩⟩
    · rw [hd, line_eq'] at big; simp at big; omega
    · rw [up_ne h2, n2.2 b h1, n1.2 b h1, hk b h1 h2]
end Ht
set_option Elab.async false
set_option linter.all false
set_option maxRecDepth 100000
namespace Ht
open PySem PySem.Spec PyProof.Rows L2
variable (c : Cs)
section
variable (ak ar ad : Addr) (x y : D)
@[simp] theorem rk_1 : List.lookup ("read_kinds" : Str) (rdrF ak ar ad x) = some (D.ref ak) := rfl
@[simp] theorem rk_2 : List.lookup ("read_relations" : Str) (rdrF ak ar ad x) = some (D.ref ar) := rfl
@[simp] theorem rk_3 : List.lookup ("read_deeds" : Str) (rdrF ak ar ad x) = some (D.ref ad) := rfl
@[simp] theorem rk_4 : List.lookup ("open_deed" : Str) (rdrF ak ar ad x) = some x := rfl
@[simp] theorem rk_5 : noFld (rdrF ak ar ad x) ("known_words" : Str) := rfl
@[simp] theorem rk_6 : noFld (rdrF ak ar ad x) ("read_line" : Str) := rfl
@[simp] theorem rk_7 : noFld (rdrF ak ar ad x) ("told_domain" : Str) := rfl
@[simp] theorem rk_8 : putFD ("open_deed" : Str) y (rdrF ak ar ad x) = rdrF ak ar ad y := rfl
@[simp] theorem rk_9 : (rdrF ak ar ad x).length = 4 := rfl
end
theorem up_no {M : Mp} {a b : Addr} {cl : Cell} (h : up M a cl b = none) : b ≠ a ∧ M b = none := by
  by_cases e : b = a
  · subst e; rw [up_same] at h; cases h
  · rw [up_ne e] at h; exact ⟨e, h⟩
theorem up_some {M : Mp} {a b : Addr} {cl : Cell} (h : M b ≠ none) : up M a cl b ≠ none := by
  by_cases e : b = a
  · subst e; rw [up_same]; simp
  · rw [up_ne e]; exact h
theorem p_reader_init (ds : List D) (M : Mp) (Q : VD) (E : XD) (h : sp_DomainReader_init c ds M Q E) : t_DomainReader_init c (endsO Q) (startD N_DomainReader_init ds) M := by
  obtain ⟨r, rfl, hM, q⟩ := h
  simp [t_DomainReader_init, startD, hM]
  intro ak nk
  have hrk : r ≠ ak := fun e => by subst e; rw [hM] at nk; cases nk
  refine ⟨_, by rw [up_ne hrk]; exact hM, by show 0 < 1000; decide, fun ar nr => ?_⟩
  obtain ⟨n1, nr⟩ := up_no nr
  obtain ⟨n2, nr⟩ := up_no nr
  refine ⟨_, by rw [up_ne (Ne.symm n1), up_same], by show 1 < 1000; decide, fun ad nd => ?_⟩
  obtain ⟨m1, nd⟩ := up_no nd
  obtain ⟨m2, nd⟩ := up_no nd
  obtain ⟨_, nd⟩ := up_no nd
  obtain ⟨m3, nd⟩ := up_no nd
  refine ⟨_, by rw [up_ne (Ne.symm m1), up_same], by show 2 < 1000; decide, by show 3 < 1000; decide, out_of (q _ (fun b => b = r ∨ b = ak ∨ b = ar ∨ b = ad) ⟨ak, ar, ad, 0, 0, up_same, ?_, ?_, ?_, (fun _ _ _ _ e => by cases e), .inl rfl, .inr (.inl rfl), .inr (.inr (.inl rfl)), .inr (.inr (.inr rfl)), ?_, fun b hb => ?_⟩ (fun b hb => ?_) fun b h1 h2 => ?_)⟩
  · rw [up_ne (Ne.symm hrk), up_ne (Ne.symm m3), up_ne (Ne.symm hrk), up_ne (Ne.symm n2), up_ne (Ne.symm hrk), up_same]; rfl
  · rw [up_ne n1, up_ne (Ne.symm m2), up_ne n1, up_same]; rfl
  · rw [up_ne m1, up_same]; rfl
  · simp [hrk, Ne.symm n1, Ne.symm m1, Ne.symm n2, Ne.symm m3, Ne.symm m2]
  · rcases hb with e | e | e | e
    · rw [e, up_same]; simp
    · rw [e]; exact up_some (up_some (up_some (up_some (up_some (by rw [up_same]; simp)))))
    · rw [e]; exact up_some (up_some (up_some (by rw [up_same]; simp)))
    · rw [e]; exact up_some (by rw [up_same]; simp)
  · rcases hb with e | e | e | e <;> subst e
    · exact .inl rfl
    · exact .inr nk
    · exact .inr nr
    · exact .inr nd
  · have k1 : b ≠ ak := fun e => h2 (e ▸ nk)
    have k2 : b ≠ ar := fun e => h2 (e ▸ nr)
    have k3 : b ≠ ad := fun e => h2 (e ▸ nd)
    rw [up_ne h1, up_ne k3, up_ne h1, up_ne k2, up_ne h1, up_ne k1]
theorem p_known_words (ds : List D) (M : Mp) (Q : VD) (E : XD) (h : sp_DomainReader_known_words c ds M Q E) : t_DomainReader_known_words c (endsO Q) (startD N_DomainReader_known_words ds) M := by
  obtain ⟨r, F, ⟨ks, rs, dds, op⟩, rfl, ⟨ak, ar, ad, ac, ae, hM, hk, hr, hd, hop, _⟩, sm, q⟩ := h
  dsimp only at hM hk hr hd hop
  cases op with
  | some o =>
    obtain ⟨w, vs, cs, es⟩ := o
    obtain ⟨h1, h2, _⟩ := hop w vs cs es rfl
    have hop2 : opD ac ae (some (w, vs, cs, es)) = .tup [.str w, .tupP (vs.map pairD), .ref ac, .ref ae] := rfl
    simp [t_DomainReader_known_words, startD, hM, hop2, s_lenr h2, line_eq']
    by_cases he : es = []
    · subst he
      exact .inl ⟨rfl, out_of q⟩
    · have hn : 0 < es.length := List.length_pos_iff.mpr he
      have hk : known ⟨ks, rs, dds, some (w, vs, cs, es)⟩ = (["comes", "goes", "cost"] : List Str) := by simp [known, he]
      rw [hk] at q
      exact .inr ⟨by omega, out_of q⟩
  | none =>
    have hop2 : opD ac ae none = .non := rfl
    simp [t_DomainReader_known_words, startD, hM, hop2, s_lenr hr, s_lenr hd, line_eq']
    by_cases h1 : dds = []
    · subst h1
      by_cases h2 : rs = []
      · subst h2
        exact .inl ⟨rfl, .inl ⟨rfl, out_of q⟩⟩
      · have hn : 0 < rs.length := List.length_pos_iff.mpr h2
        have hk : known ⟨ks, rs, [], none⟩ = (["relation", "deed"] : List Str) := by simp [known, h2]
        rw [hk] at q
        exact .inl ⟨rfl, .inr ⟨by omega, out_of q⟩⟩
    · have hn : 0 < dds.length := List.length_pos_iff.mpr h1
      have hk : known ⟨ks, rs, dds, none⟩ = (["deed"] : List Str) := by simp [known, h1]
      rw [hk] at q
      exact .inr ⟨by omega, out_of q⟩
theorem RdAt.move {c : Cs} {F : Addr → Prop} {M M' : Mp} {r : Addr} {st : RSt} (h : RdAt c F M r st) (e : ∀ b, F b → M' b = M b) : RdAt c F M' r st := by
  obtain ⟨ak, ar, ad, ac, ae, hM, hk, hr, hd, hop, f1, f2, f3, f4, nd, fz⟩ := h
  refine ⟨ak, ar, ad, ac, ae, (e _ f1).trans hM, (e _ f2).trans hk, (e _ f3).trans hr, (e _ f4).trans hd, fun w vs cs es h => ?_, f1, f2, f3, f4, nd, fun b hb => by rw [e b hb]; exact fz b hb⟩
  obtain ⟨h1, h2, h3, h4, h5⟩ := hop w vs cs es h
  exact ⟨(e _ h3).trans h1, (e _ h4).trans h2, h3, h4, h5⟩
theorem lit_ne : (("relation" : Str) ≠ "kind") ∧ (("deed" : Str) ≠ "kind") ∧ (("deed" : Str) ≠ "relation") ∧ (("if" : Str) ≠ "kind") ∧ (("if" : Str) ≠ "relation") ∧ (("if" : Str) ≠ "deed") ∧
  (("cost" : Str) ≠ "kind") ∧ (("cost" : Str) ≠ "relation") ∧ (("cost" : Str) ≠ "deed") ∧ (("cost" : Str) ≠ "if") := by decide
theorem p_read_line (ds : List D) (M : Mp) (Q : VD) (E : XD) (h : sp_DomainReader_read_line c ds M Q E) : t_DomainReader_read_line c (endsO Q) (startD N_DomainReader_read_line ds) M := by
  obtain ⟨r, a, F, st, st', L, n, ts, rfl, hR, hF, hst, sm, hl, q⟩ := h
  obtain ⟨lp', p', hMa⟩ := hl.cell
  have hR0 := hR
  obtain ⟨ak, ar, ad, ac, ae, hM, hk, hr, hd, hop, f1, f2, f3, f4, nd, fz⟩ := hR
  have fra : ∀ b, F b → b ≠ a := fun b h e => hF (e ▸ h)
  simp [t_DomainReader_read_line, startD, hM, hMa]
  refine ⟨r, F, st, rfl, hR0, sm, ?_⟩
  have fin : ∀ M4 F', Ln c M4 a L n [] → RdAt c F' M4 r st' → (∀ b, F' b → F b ∨ M b = none) → (∀ b, ¬ F b → b ≠ a → M b ≠ none → M4 b = M b) → ∃ x, M4 a = some (.ins c.TextLine x) ∧ noFld x ("take_end" : Str) ∧ sp_TextLine_take_end c [.ref a] M4 (fun x M1 => Out Q .non M1) X0 := fun M4 F' h1 h2 h3 h4 => by
    obtain ⟨_, _, e⟩ := h1.cell
    exact ⟨_, e, rfl, a, L, n, rfl, h1, out_of (q M4 F' h2 h3 h4)⟩
  cases hst with
  | kind h1 h2 =>
    rename_i ks k
    dsimp only at hM hk hr hd
    refine ⟨a, L, n, "kind", _, known ⟨ks, [], [], none⟩, rfl, by show _ ∈ (["kind", "relation", "deed"] : List Str); decide, hl, fun M1 n1 => ?_⟩
    simp
    refine ⟨a, L, n, k.1, _, rfl, h1, n1.1, fun M2 n2 => ?_⟩
    have e2 : ∀ b, b ≠ a → M2 b = M b := fun b h => (n2.2 b h).trans (n1.2 b h)
    have hk2 := (e2 ak (fra ak f2)).trans hk
    obtain ⟨_, _, hMa2⟩ := n2.1.cell
    refine ⟨_, (e2 r (fra r f1)).trans hM, _, rfl, s_tyr hk2, _, hMa2, rfl, over_of c n2.1 ?_⟩
    have done : ∀ M3 v, Ln.next c M2 a L n [] M3 → v = optD k.2 → ∃ x, up M3 ak (.lst (ks.map kindD ++ [D.tup [D.str k.1, v]])) a = some (.ins c.TextLine x) ∧ noFld x ("take_end" : Str) ∧ sp_TextLine_take_end c [.ref a] (up M3 ak (.lst (ks.map kindD ++ [D.tup [D.str k.1, v]]))) (fun x M1 => Out Q .non M1) X0 := fun M3 v n3 ev => by
      subst ev
      have e3 : ∀ b, b ≠ a → M3 b = M b := fun b h => (n3.2 b h).trans (e2 b h)
      have hak := fra ak f2
      refine fin _ F (n3.1.move (up_ne (Ne.symm hak))) ⟨ak, ar, ad, 0, 0, ?_, ?_, ?_, ?_, (fun _ _ _ _ e => by cases e), f1, f2, f3, f4, nd, fun b hb => up_some (by rw [e3 b (fra b hb)]; exact fz b hb)⟩ (fun b h => .inl h) (fun b h1 h2 h3 => ?_)
      · simp at nd
        rw [up_ne nd.1.1, e3 r (fra r f1), hM]; rfl
      · rw [up_same]; simp [kindD]
      · simp at nd
        rw [up_ne (Ne.symm nd.2.1.1), e3 ar (fra ar f3), hr]
      · simp at nd
        rw [up_ne (Ne.symm nd.2.1.2), e3 ad (fra ad f4), hd]
      · rw [up_ne (fun e => h1 (by rw [e]; exact f2)), e3 b h2]
    obtain ⟨w, ab⟩ := k
    cases ab with
    | none =>
      refine .inr ⟨rfl, by rw [line_eq']; decide, ?_⟩
      rw [s_cell hk2, wC_some]
      have hb := sm.1
      dsimp only at hb
      refine ⟨by rw [line_eq']; simp; omega, done M2 _ ⟨n2.1, fun _ _ => rfl⟩ rfl⟩
    | some ab =>
      refine .inl ⟨rfl, a, L, n, ab, [], rfl, h2 ab rfl, n2.1, fun M3 n3 => ?_⟩
      have hk3 := (n3.2 ak (fra ak f2)).trans hk2
      refine ⟨by rw [line_eq']; decide, ?_⟩
      dsimp only
      rw [s_cell hk3, wC_some]
      have hb := sm.1
      dsimp only at hb
      exact ⟨by rw [line_eq']; simp; omega, done M3 _ n3 rfl⟩
  | rel h1 h2 =>
    rename_i ks rs k
    dsimp only at hM hk hr hd
    have hkn : ("relation" : Str) ∈ known ⟨ks, rs, [], none⟩ := by
      by_cases e : rs = []
      · subst e; show _ ∈ (["kind", "relation", "deed"] : List Str); decide
      · have : known ⟨ks, rs, [], none⟩ = (["relation", "deed"] : List Str) := by simp [known, e]
        rw [this]; decide
    refine ⟨a, L, n, "relation", _, _, rfl, hkn, hl, fun M1 n1 => ?_⟩
    have e1 : ∀ b, b ≠ a → M1 b = M b := n1.2
    have hr1 := (e1 ar (fra ar f3)).trans hr
    simp [lit_ne]
    refine ⟨_, (e1 r (fra r f1)).trans hM, _, rfl, s_tyr hr1, a, L, n, [], ⟨k.1, k.2⟩, rfl, ⟨h1, h2⟩, stop_nil, by rw [List.append_nil]; exact n1.1, fun M2 n2 => ?_⟩
    have e2 : ∀ b, b ≠ a → M2 b = M b := fun b h => (n2.2 b h).trans (e1 b h)
    have hr2 := (e2 ar (fra ar f3)).trans hr
    dsimp only
    rw [s_cell hr2, wC_some]
    have hb := sm.2.1
    dsimp only at hb
    simp at nd
    refine ⟨by rw [line_eq']; simp; omega, fin _ F (n2.1.move (up_ne (Ne.symm (fra ar f3)))) ⟨ak, ar, ad, 0, 0, ?_, ?_, ?_, ?_, (fun _ _ _ _ e => by cases e), f1, f2, f3, f4, by simpa using nd, fun b hb => up_some (by rw [e2 b (fra b hb)]; exact fz b hb)⟩ (fun b h => .inl h) (fun b h1 h2 h3 => ?_)⟩
    · rw [up_ne nd.1.2.1, e2 r (fra r f1), hM]; rfl
    · rw [up_ne nd.2.1.1, e2 ak (fra ak f2), hk]
    · rw [up_same]; simp [relD, Atom.d]
    · rw [up_ne (Ne.symm nd.2.2), e2 ad (fra ad f4), hd]
    · rw [up_ne (fun e => h1 (by rw [e]; exact f3)), e2 b h2]
  | deed h1 h2 =>
    rename_i ks rs dds w vs
    dsimp only at hM hk hr hd
    have hkn : ("deed" : Str) ∈ known ⟨ks, rs, dds, none⟩ := by
      by_cases e : dds = []
      · subst e
        by_cases e : rs = []
        · subst e; show _ ∈ (["kind", "relation", "deed"] : List Str); decide
        · have : known ⟨ks, rs, [], none⟩ = (["relation", "deed"] : List Str) := by simp [known, e]
          rw [this]; decide
      · have : known ⟨ks, rs, dds, none⟩ = (["deed"] : List Str) := by simp [known, e]
        rw [this]; decide
    refine ⟨a, L, n, "deed", _, _, rfl, hkn, hl, fun M1 n1 => ?_⟩
    simp [line_eq', lit_ne]
    refine ⟨a, L, n, w, _, rfl, h1, n1.1, fun M2 n2 => ?_⟩
    refine ⟨a, L, n, vs, rfl, h2, n2.1, fun M3 n3 => ?_⟩
    have e3 : ∀ b, b ≠ a → M3 b = M b := fun b h => (n3.2 b h).trans ((n2.2 b h).trans (n1.2 b h))
    intro ac nc ae ne
    obtain ⟨k1, ne⟩ := up_no ne
    have old : ∀ b, M b ≠ none → b ≠ a → b ≠ ac ∧ b ≠ ae := fun b hb hba => by
      refine ⟨fun e => ?_, fun e => ?_⟩
      · rw [← e, e3 b hba] at nc; exact hb nc
      · rw [← e, e3 b hba] at ne; exact hb ne
    have aac : a ≠ ac := fun e => n3.1.there (e ▸ nc)
    have aae : a ≠ ae := fun e => n3.1.there (e ▸ ne)
    have o1 := old r (by rw [hM]; simp) (fra r f1)
    have o2 := old ak (by rw [hk]; simp) (fra ak f2)
    have o3 := old ar (by rw [hr]; simp) (fra ar f3)
    have o4 := old ad (by rw [hd]; simp) (fra ad f4)
    have nd' := nd
    simp at nd
    have m1 : ∀ b, M b ≠ none → b ≠ a → b ≠ r → up (up (up M3 ac (.lst [])) ae (.lst [])) r (.ins c.DomainReader (rdrF ak ar ad (.tup [.str w, .tupP (vs.map pairD), .ref ac, .ref ae]))) b = M b := fun b h1 h2 h3 => by
      rw [up_ne h3, up_ne (old b h1 h2).2, up_ne (old b h1 h2).1, e3 b h2]
    have neu : ∀ b, M3 b = none → M b = none := fun b h => by
      by_cases e : b = a
      · subst e; exact absurd h n3.1.there
      · rw [← e3 b e]; exact h
    refine ⟨_, by rw [up_ne o1.2, up_ne o1.1, e3 r (fra r f1)]; exact hM, by simp, ?_⟩
    rw [rk_8]
    refine fin _ (fun b => F b ∨ b = ac ∨ b = ae) (n3.1.move ?_) ⟨ak, ar, ad, ac, ae, up_same, ?_, ?_, ?_, fun w' vs' cs' es' e => ?_, .inl f1, .inl f2, .inl f3, .inl f4, nd', fun b hb => ?_⟩ (fun b h => ?_) (fun b h1 h2 h3 => ?_)
    · rw [up_ne (Ne.symm (fra r f1)), up_ne aae, up_ne aac]
    · rw [m1 ak (by rw [hk]; simp) (fra ak f2) (Ne.symm nd.1.1), hk]
    · rw [m1 ar (by rw [hr]; simp) (fra ar f3) (Ne.symm nd.1.2.1), hr]
    · rw [m1 ad (by rw [hd]; simp) (fra ad f4) (Ne.symm nd.1.2.2), hd]
    · cases e
      refine ⟨by rw [up_ne (Ne.symm o1.1), up_ne (Ne.symm k1), up_same]; rfl, by rw [up_ne (Ne.symm o1.2), up_same]; rfl, .inr (.inl rfl), .inr (.inr rfl), ?_⟩
      simp [nd.1.1, nd.1.2.1, nd.1.2.2, nd.2.1.1, nd.2.1.2, nd.2.2, o1.1, o1.2, o2.1, o2.2, o3.1, o3.2, o4.1, o4.2, Ne.symm k1]
    · rcases hb with h | h | h
      · exact up_some (up_some (up_some (by rw [e3 b (fra b h)]; exact fz b h)))
      · rw [h]; exact up_some (up_some (by rw [up_same]; simp))
      · rw [h]; exact up_some (by rw [up_same]; simp)
    · rcases h with h | h | h
      · exact .inl h
      · subst h; exact .inr (neu _ nc)
      · subst h; exact .inr (neu _ ne)
    · exact m1 b h3 h2 fun e => h1 (e ▸ f1)
  | cond h1 =>
    rename_i ks rs dds w vs cs k
    dsimp only at hM hk hr hd
    obtain ⟨hc, he, f5, f6, nd6⟩ := hop w vs cs [] rfl
    refine ⟨a, L, n, "if", _, known ⟨ks, rs, dds, some (w, vs, cs, [])⟩, rfl, by show _ ∈ (["if", "comes", "goes", "cost"] : List Str); decide, hl, fun M1 n1 => ?_⟩
    have e1 : ∀ b, b ≠ a → M1 b = M b := n1.2
    have hc1 := (e1 ac (fra ac f5)).trans hc
    have hop2 : opD ac ae (some (w, vs, cs, [])) = .tup [.str w, .tupP (vs.map pairD), .ref ac, .ref ae] := rfl
    simp [line_eq', lit_ne]
    refine ⟨_, (e1 r (fra r f1)).trans hM, _, rfl, ?_⟩
    rw [hop2]
    simp
    refine ⟨s_tyr hc1, a, L, n, k, rfl, h1, n1.1, fun M2 n2 => ?_⟩
    have e2 : ∀ b, b ≠ a → M2 b = M b := fun b h => (n2.2 b h).trans (e1 b h)
    have hc2 := (e2 ac (fra ac f5)).trans hc
    dsimp only
    rw [s_cell hc2, wC_some]
    have hb := (sm.2.2.2 w vs cs [] rfl).2.1
    have nd6' := nd6
    simp at nd6
    refine ⟨by simp; omega, fin _ F (n2.1.move (up_ne (Ne.symm (fra ac f5)))) ⟨ak, ar, ad, ac, ae, ?_, ?_, ?_, ?_, fun w' vs' cs' es' e => ?_, f1, f2, f3, f4, nd, fun b hb => up_some (by rw [e2 b (fra b hb)]; exact fz b hb)⟩ (fun b h => .inl h) (fun b h1 h2 h3 => ?_)⟩
    · rw [up_ne nd6.1.2.2.2.1, e2 r (fra r f1), hM]; rfl
    · rw [up_ne nd6.2.1.2.2.1, e2 ak (fra ak f2), hk]
    · rw [up_ne nd6.2.2.1.2.1, e2 ar (fra ar f3), hr]
    · rw [up_ne nd6.2.2.2.1.1, e2 ad (fra ad f4), hd]
    · cases e
      exact ⟨by rw [up_same]; simp, by rw [up_ne (Ne.symm nd6.2.2.2.2), e2 ae (fra ae f6), he], f5, f6, nd6'⟩
    · rw [up_ne (fun e => h1 (by rw [e]; exact f5)), e2 b h2]
  | eff g1 g2 g3 =>
    rename_i ks rs dds w vs cs es e
    dsimp only at hM hk hr hd
    obtain ⟨hc, he, f5, f6, nd6⟩ := hop w vs cs es rfl
    have hkn : e.n ∈ known ⟨ks, rs, dds, some (w, vs, cs, es)⟩ := by
      by_cases e0 : es = []
      · subst e0
        show _ ∈ (["if", "comes", "goes", "cost"] : List Str)
        rcases g1 with h | h <;> rw [h] <;> decide
      · have : known ⟨ks, rs, dds, some (w, vs, cs, es)⟩ = (["comes", "goes", "cost"] : List Str) := by simp [known, e0]
        rw [this]
        rcases g1 with h | h <;> rw [h] <;> decide
    refine ⟨a, L, n, e.n, e.toks.tail, _, rfl, hkn, hl, fun M1 n1 => ?_⟩
    have e1 : ∀ b, b ≠ a → M1 b = M b := n1.2
    have he1 := (e1 ae (fra ae f6)).trans he
    have hop2 : opD ac ae (some (w, vs, cs, es)) = .tup [.str w, .tupP (vs.map pairD), .ref ac, .ref ae] := rfl
    have l1 : ¬ e.n = "kind" ∧ ¬ e.n = "relation" ∧ ¬ e.n = "deed" ∧ ¬ e.n = "if" ∧ ¬ e.n = "cost" := by
      rcases g1 with h | h <;> rw [h] <;> decide
    simp [line_eq', l1]
    refine ⟨_, (e1 r (fra r f1)).trans hM, _, rfl, ?_⟩
    rw [hop2]
    simp
    refine ⟨s_tyr he1, a, L, n, e, rfl, g2, g3, n1.1, fun M2 n2 => ?_⟩
    have e2 : ∀ b, b ≠ a → M2 b = M b := fun b h => (n2.2 b h).trans (e1 b h)
    have he2 := (e2 ae (fra ae f6)).trans he
    dsimp only
    rw [s_cell he2, wC_some]
    have hb := (sm.2.2.2 w vs cs es rfl).2.2
    have nd6' := nd6
    simp at nd6
    refine ⟨by simp; omega, fin _ F (n2.1.move (up_ne (Ne.symm (fra ae f6)))) ⟨ak, ar, ad, ac, ae, ?_, ?_, ?_, ?_, fun w' vs' cs' es' e => ?_, f1, f2, f3, f4, nd, fun b hb => up_some (by rw [e2 b (fra b hb)]; exact fz b hb)⟩ (fun b h => .inl h) (fun b h1 h2 h3 => ?_)⟩
    · rw [up_ne nd6.1.2.2.2.2, e2 r (fra r f1), hM]; rfl
    · rw [up_ne nd6.2.1.2.2.2, e2 ak (fra ak f2), hk]
    · rw [up_ne nd6.2.2.1.2.2, e2 ar (fra ar f3), hr]
    · rw [up_ne nd6.2.2.2.1.2, e2 ad (fra ad f4), hd]
    · cases e
      exact ⟨by rw [up_ne nd6.2.2.2.2, e2 ac (fra ac f5), hc], by rw [up_same]; simp, f5, f6, nd6'⟩
    · rw [up_ne (fun e => h1 (by rw [e]; exact f6)), e2 b h2]
  | cost g1 =>
    rename_i ks rs dds w vs cs es k
    dsimp only at hM hk hr hd
    obtain ⟨hc, he, f5, f6, nd6⟩ := hop w vs cs es rfl
    have hkn : ("cost" : Str) ∈ known ⟨ks, rs, dds, some (w, vs, cs, es)⟩ := by
      by_cases e0 : es = []
      · subst e0
        show _ ∈ (["if", "comes", "goes", "cost"] : List Str)
        decide
      · have : known ⟨ks, rs, dds, some (w, vs, cs, es)⟩ = (["comes", "goes", "cost"] : List Str) := by simp [known, e0]
        rw [this]; decide
    have htk : k.toks = ("cost" : Str) :: k.toks.tail := by cases k <;> rfl
    rw [htk] at hl
    refine ⟨a, L, n, "cost", k.toks.tail, _, rfl, hkn, hl, fun M1 n1 => ?_⟩
    have e1 : ∀ b, b ≠ a → M1 b = M b := n1.2
    have hop2 : opD ac ae (some (w, vs, cs, es)) = .tup [.str w, .tupP (vs.map pairD), .ref ac, .ref ae] := rfl
    have hd1 := (e1 ad (fra ad f4)).trans hd
    have hM1 := (e1 r (fra r f1)).trans hM
    rw [hop2] at hM1
    simp [line_eq', lit_ne, hM1, s_lstr ((e1 ac (fra ac f5)).trans hc), s_lstr ((e1 ae (fra ae f6)).trans he), s_tyr hd1]
    refine ⟨a, L, n, k, rfl, g1, n1.1, fun M2 n2 => ?_⟩
    have e2 : ∀ b, b ≠ a → M2 b = M b := fun b h => (n2.2 b h).trans (e1 b h)
    have hd2 := (e2 ad (fra ad f4)).trans hd
    have hM2 := (e2 r (fra r f1)).trans hM
    rw [hop2] at hM2
    dsimp only
    rw [s_cell hd2, wC_some]
    have hb := sm.2.2.1
    dsimp only at hb
    have nd' := nd
    simp at nd
    refine ⟨by simp; omega, _, by rw [up_ne nd.1.2.2]; exact hM2, by simp, ?_⟩
    rw [rk_8]
    refine fin _ F (n2.1.move ?_) ⟨ak, ar, ad, 0, 0, ?_, ?_, ?_, ?_, (fun _ _ _ _ e => by cases e), f1, f2, f3, f4, nd', fun b hb => up_some (up_some (by rw [e2 b (fra b hb)]; exact fz b hb))⟩ (fun b h => .inl h) (fun b h1 h2 h3 => ?_)
    · rw [up_ne (Ne.symm (fra r f1)), up_ne (Ne.symm (fra ad f4))]
    · rw [up_same]; rfl
    · rw [up_ne (Ne.symm nd.1.1), up_ne nd.2.1.2, e2 ak (fra ak f2), hk]
    · rw [up_ne (Ne.symm nd.1.2.1), up_ne nd.2.2, e2 ar (fra ar f3), hr]
    · rw [up_ne (Ne.symm nd.1.2.2), up_same]; simp [Deed.d]
    · rw [up_ne (fun e => h1 (by rw [e]; exact f1)), up_ne (fun e => h1 (by rw [e]; exact f4)), e2 b h2]
theorem p_told_domain (ds : List D) (M : Mp) (Q : VD) (E : XD) (h : sp_DomainReader_told_domain c ds M Q E) : t_DomainReader_told_domain c (endsO Q) (startD N_DomainReader_told_domain ds) M := by
  obtain ⟨r, z, F, x, rfl, ⟨ak, ar, ad, ac, ae, hM, hk, hr, hd, _⟩, sm, ok, q⟩ := h
  have hop2 : opD ac ae none = .non := rfl
  simp [t_DomainReader_told_domain, startD, hM, s_lstr hk, s_lstr hr, s_lstr hd, line_eq', hop2]
  exact ⟨x, rfl, sm, ok, _, hM, _, rfl, rfl, out_of q⟩
def Steps : RSt → List (List Str) → RSt → Prop
  | st, [], st' => st = st'
  | st, ts :: r, st' => ∃ s1, Step st ts s1 ∧ st.small ∧ Steps s1 r st'
theorem Steps.app : ∀ {a b c : RSt} {l m : List (List Str)}, Steps a l b → Steps b m c → Steps a (l ++ m) c
  | a, b, c, [], m, h, g => by
    have e : a = b := h
    subst e; exact g
  | a, b, c, ts :: r, m, ⟨s1, h1, h2, h4⟩, g => ⟨s1, h1, h2, Steps.app h4 g⟩
theorem steps_ks : ∀ (ks ks0 : List (Str × Option Str)), (ks0 ++ ks).length ≤ 1000 → (∀ k ∈ ks, wordOk k.1 ∧ ∀ a, k.2 = some a → wordOk a) → Steps ⟨ks0, [], [], none⟩ (ks.map kindLine) ⟨ks0 ++ ks, [], [], none⟩
  | [], ks0, _, _ => by simp [Steps]
  | k :: r, ks0, h, g => by
    have ih := steps_ks r (ks0 ++ [k]) (by simpa using h) fun x hx => g x (List.mem_cons_of_mem _ hx)
    refine ⟨_, .kind (g k List.mem_cons_self).1 (g k List.mem_cons_self).2, ⟨by simp at h ⊢; omega, by simp, by simp, fun _ _ _ _ e => by cases e⟩, by simpa using ih⟩
theorem steps_rs (ks : List (Str × Option Str)) (hk : ks.length ≤ 1000) : ∀ (rs rs0 : List (Str × List Str)), (rs0 ++ rs).length ≤ 1000 → (∀ k ∈ rs, wordOk k.1 ∧ ∀ u ∈ k.2, wordOk u) → Steps ⟨ks, rs0, [], none⟩ (rs.map relLine) ⟨ks, rs0 ++ rs, [], none⟩
  | [], rs0, _, _ => by simp [Steps]
  | k :: r, rs0, h, g => by
    have ih := steps_rs ks hk r (rs0 ++ [k]) (by simpa using h) fun x hx => g x (List.mem_cons_of_mem _ hx)
    have gk := g k List.mem_cons_self
    refine ⟨_, .rel gk.1 gk.2, ⟨hk, by simp at h ⊢; omega, by simp, fun _ _ _ _ e => by cases e⟩, by simpa using ih⟩
theorem steps_cs (ks : List (Str × Option Str)) (rs : List (Str × List Str)) (ds : List Deed) (w : Str) (vs : List (Str × Str)) (hk : ks.length ≤ 1000) (hr : rs.length ≤ 1000) (hd : ds.length ≤ 1000) (hv : vs.length ≤ 1000) : ∀ (cs cs0 : List Cond), (cs0 ++ cs).length ≤ 1000 → (∀ k ∈ cs, k.rd) → Steps ⟨ks, rs, ds, some (w, vs, cs0, [])⟩ (cs.map fun k => ("if" : Str) :: k.toks) ⟨ks, rs, ds, some (w, vs, cs0 ++ cs, [])⟩
  | [], cs0, _, _ => by simp [Steps]
  | k :: r, cs0, h, g => by
    have ih := steps_cs ks rs ds w vs hk hr hd hv r (cs0 ++ [k]) (by simpa using h) fun x hx => g x (List.mem_cons_of_mem _ hx)
    have gk := g k List.mem_cons_self
    refine ⟨_, .cond gk, ⟨hk, hr, hd, fun _ _ _ _ e => by cases e; exact ⟨hv, by simp at h ⊢; omega, by simp⟩⟩, by simpa using ih⟩
theorem steps_es (ks : List (Str × Option Str)) (rs : List (Str × List Str)) (ds : List Deed) (w : Str) (vs : List (Str × Str)) (cs : List Cond) (hk : ks.length ≤ 1000) (hr : rs.length ≤ 1000) (hd : ds.length ≤ 1000) (hv : vs.length ≤ 1000) (hc : cs.length ≤ 1000) : ∀ (es es0 : List Eff), (es0 ++ es).length ≤ 1000 → (∀ e ∈ es, (e.n = "comes" ∨ e.n = "goes") ∧ e.a.rd ∧ ∀ p ∈ e.when_, p.rd) → Steps ⟨ks, rs, ds, some (w, vs, cs, es0)⟩ (es.map Eff.toks) ⟨ks, rs, ds, some (w, vs, cs, es0 ++ es)⟩
  | [], es0, _, _ => by simp [Steps]
  | k :: r, es0, h, g => by
    have ih := steps_es ks rs ds w vs cs hk hr hd hv hc r (es0 ++ [k]) (by simpa using h) fun x hx => g x (List.mem_cons_of_mem _ hx)
    have gk := g k List.mem_cons_self
    exact ⟨_, .eff gk.1 gk.2.1 gk.2.2, ⟨hk, hr, hd, fun _ _ _ _ e => by cases e; exact ⟨hv, hc, by simp at h ⊢; omega⟩⟩, by simpa using ih⟩
theorem steps_deed (ks : List (Str × Option Str)) (rs : List (Str × List Str)) (ds : List Deed) (x : Deed) (hk : ks.length ≤ 1000) (hr : rs.length ≤ 1000) (hd : ds.length ≤ 1000) (sm : x.small) (rd : x.rd) : Steps ⟨ks, rs, ds, none⟩ x.lines ⟨ks, rs, ds ++ [x], none⟩ := by
  have hv := sm.vs
  have hc := sm.cs
  have he := sm.es
  have h1 := steps_cs ks rs ds x.w x.vs hk hr hd hv x.cs [] (by simpa using hc) rd.cs
  have h2 := steps_es ks rs ds x.w x.vs x.cs hk hr hd hv hc x.es [] (by simpa using he) rd.es
  have h3 : Steps ⟨ks, rs, ds, some (x.w, x.vs, x.cs, x.es)⟩ [x.c.toks] ⟨ks, rs, ds ++ [x], none⟩ := ⟨_, .cost rd.c, ⟨hk, hr, hd, fun _ _ _ _ e => by cases e; exact ⟨hv, hc, he⟩⟩, rfl⟩
  have h4 := (h1.app (by simpa using h2)).app h3
  show Steps _ (x.head :: (x.cs.map fun k => ("if" : Str) :: k.toks) ++ x.es.map Eff.toks ++ [x.c.toks]) _
  refine ⟨_, .deed rd.w rd.vs, ⟨hk, hr, hd, fun _ _ _ _ e => by cases e⟩, by simpa using h4⟩
theorem steps_ds (ks : List (Str × Option Str)) (rs : List (Str × List Str)) (hk : ks.length ≤ 1000) (hr : rs.length ≤ 1000) : ∀ (ds ds0 : List Deed), (ds0 ++ ds).length ≤ 1000 → (∀ d ∈ ds, d.small ∧ d.rd) → Steps ⟨ks, rs, ds0, none⟩ (ds.flatMap Deed.lines) ⟨ks, rs, ds0 ++ ds, none⟩
  | [], ds0, _, _ => by simp [Steps]
  | d :: r, ds0, h, g => by
    have gd := g d List.mem_cons_self
    have ih := steps_ds ks rs hk hr r (ds0 ++ [d]) (by simpa using h) fun x hx => g x (List.mem_cons_of_mem _ hx)
    have h1 := steps_deed ks rs ds0 d hk hr (by simp at h; omega) gd.1 gd.2
    have := h1.app ih
    simpa using this
theorem steps_dom (x : Dom) (sm : x.small) (rd : x.rd) : Steps .z x.lines ⟨x.ks, x.rs, x.ds, none⟩ := by
  have h1 := steps_ks x.ks [] (by simpa using sm.ks) rd.ks
  have h2 := steps_rs x.ks sm.ks x.rs [] (by simpa using sm.rs) rd.rs
  have h3 := steps_ds x.ks x.rs sm.ks sm.rs x.ds [] (by simpa using sm.ds) fun d hd => ⟨sm.d d hd, rd.ds d hd⟩
  rw [List.nil_append] at h1 h2 h3
  exact (h1.app h2).app h3
theorem LnsAt.move {c : Cs} {M M' : Mp} {as : List Addr} {tss : List (List Str)} (h : LnsAt c M as tss) (e : ∀ a ∈ as, M' a = M a) : LnsAt c M' as tss := by
  induction h with
  | nil => exact .nil
  | cons h ne new r ih => exact .cons (h.move (e _ List.mem_cons_self)) ne new (ih fun a ha => e a (List.mem_cons_of_mem _ ha))
theorem LnsAt.there {c : Cs} {M : Mp} {as : List Addr} {tss : List (List Str)} (h : LnsAt c M as tss) : ∀ a ∈ as, M a ≠ none := by
  induction h with
  | nil => intro a ha; cases ha
  | cons h ne new r ih =>
    intro b hb
    rcases List.mem_cons.mp hb with e | e
    · subst e; exact h.there
    · exact ih b e
theorem p_read_domain (ds : List D) (M : Mp) (Q : VD) (E : XD) (h : sp_read_domain c ds M Q E) : t_read_domain c (endsO Q) (startD N_read_domain ds) M := by
  obtain ⟨z, x, rfl, sm, ok, rd, hz, q⟩ := h
  simp [t_read_domain, startD]
  intro r nr
  refine ⟨r, rfl, up_same, fun M1 F R1 hF1 hM1 => ⟨rfl, z, x.lines, rfl, hz, fun M2 as l2 na LA => ?_⟩⟩
  simp
  have hMF : ∀ b, F b → M b = none := fun b hb => by
    rcases hF1 b hb with e | e
    · rw [e]; exact nr
    · exact (up_no e).2
  have hM1' : ∀ b, M b ≠ none → M1 b = M b := fun b hb => by
    have hbr : b ≠ r := fun e => hb (e ▸ nr)
    rw [hM1 b hbr (by rw [up_ne hbr]; exact hb), up_ne hbr]
  have keep2 : ∀ b, M1 b ≠ none → M2 b = M1 b := fun b hb => by
    cases e : M1 b with
    | none => exact absurd e hb
    | some cl => exact l2 b cl e
  have F1 : ∀ b, F b → M1 b ≠ none := by
    obtain ⟨_, _, _, _, _, _, _, _, _, _, _, _, _, _, _, fz⟩ := R1
    exact fz
  have R2 := R1.move fun b hb => keep2 b (F1 b hb)
  refine for_rule (enc := D.ref) (fun rest δ M' => ∃ F st tss X, δ = [some (.str z), some (.ref r), X] ∧ RdAt c F M' r st ∧ LnsAt c M' rest tss ∧ (∀ a ∈ rest, ¬ F a) ∧ Steps st tss ⟨x.ks, x.rs, x.ds, none⟩ ∧ (∀ b, M b ≠ none → M' b = M b) ∧ (∀ b, F b → M b = none) ∧ ∀ a ∈ rest, M a = none) ?_ ?_ as _ M2 ⟨F, .z, x.lines, none, rfl, R2, LA, fun a ha h => F1 a h (na a ha), steps_dom x sm rd, fun b hb => ?_, hMF, fun a ha => ?_⟩
  · rintro a rest δ M' ⟨F', st, tss, X, rfl, R', LA', nF, S, k1, k2, k3⟩
    refine ⟨trivial, fun nx hn => ?_⟩
    cases LA' with
    | @cons _ L n ts _ tss' hl ne new lr =>
      obtain ⟨s1, S1, sm1, S2⟩ := S
      have fz : ∀ b, F' b → M' b ≠ none := by
        obtain ⟨_, _, _, _, _, _, _, _, _, _, _, _, _, _, _, fz⟩ := R'
        exact fz
      obtain ⟨ak, ar, ad, ac, ae, hMr, _⟩ := id R'
      simp [hMr]
      refine ⟨r, a, F', st, s1, L, n, ts, rfl, R', nF a List.mem_cons_self, S1, sm1, hl, fun M3 F3 R3 g1 g2 => hn _ _ ⟨F3, s1, tss', _, rfl, R3, lr.move fun b hb => ?_, fun b hb hf => ?_, S2, fun b hb => ?_, fun b hb => ?_, fun b hb => k3 b (List.mem_cons_of_mem _ hb)⟩⟩
      · exact g2 b (nF b (List.mem_cons_of_mem _ hb)) (fun e => new (e ▸ hb)) (lr.there b hb)
      · rcases g1 b hf with e | e
        · exact nF b (List.mem_cons_of_mem _ hb) e
        · exact lr.there b hb e
      · have n1 : ¬ F' b := fun e => hb (k2 b e)
        have n2 : b ≠ a := fun e => hb (e ▸ k3 a List.mem_cons_self)
        rw [g2 b n1 n2 (by rw [k1 b hb]; exact hb), k1 b hb]
      · rcases g1 b hb with e | e
        · exact k2 b e
        · cases eb : M b with
          | none => rfl
          | some cl =>
            have := k1 b (by rw [eb]; simp)
            rw [e, eb] at this; cases this
  · rintro δ M' ⟨F', st, tss, X, rfl, R', LA', nF, S, k1, k2, k3⟩
    cases LA'
    have e : st = ⟨x.ks, x.rs, x.ds, none⟩ := S
    subst e
    obtain ⟨ak, ar, ad, ac, ae, hMr, _⟩ := id R'
    refine ⟨trivial, ?_⟩
    simp [hMr]
    refine ⟨r, z, F', x, rfl, R', sm, ok, out_le (fun b cl e => ?_) q⟩
    rw [k1 b (by rw [e]; simp), e]
  · rw [keep2 b (by rw [hM1' b hb]; exact hb), hM1' b hb]
  · cases e : M a with
    | none => rfl
    | some cl =>
      have := hM1' a (by rw [e]; simp)
      rw [na a ha, e] at this; cases this
end Ht
set_option Elab.async false
set_option linter.all false
set_option maxRecDepth 100000
namespace Ht
open PySem PySem.Spec PyProof.Rows L2
abbrev endsF (Q : VD) : EndsD := { nx := fun _ M' => Out Q .non M', rt := Out Q }
variable (c : Cs)
theorem lineE : sizeLine = 16777216 := sizeLine_eq
theorem val_toldD (t : Told) (w : Str) : valD (toldD t) (.inr w) = (t.lookup w).map fun l => .dic (setD l) := by
  induction t with
  | nil => rfl
  | cons p r ih =>
    obtain ⟨x, l⟩ := p
    unfold valD toldD at ih ⊢
    rw [List.map_cons, List.find?_cons, List.lookup_cons]
    by_cases e : x = w
    · subst e; simp
    · have e2 : (w == x) = false := by simpa using fun q => e q.symm
      have e3 : decide ((Sum.inr x : Key) = Sum.inr w) = false := by simpa using e
      simp only [e3, e2]
      exact ih
theorem val_setD (l : List Str) (w : Str) : (valD (setD l) (.inr w)).isSome = decide (w ∈ l) := by
  induction l with
  | nil => rfl
  | cons x r ih =>
    unfold valD setD at ih ⊢
    rw [List.map_cons, List.find?_cons]
    by_cases e : x = w
    · subst e; simp
    · have e3 : decide ((Sum.inr x : Key) = Sum.inr w) = false := by simpa using e
      have e4 : ¬ w = x := fun q => e q.symm
      simp only [e3]
      rw [ih]
      simp [e4]
theorem put_new {kvs : List (Key × D)} {k : Key} (h : (valD kvs k).isSome = false) (d : D) : putD kvs k d = kvs ++ [(k, d)] := by
  unfold putD
  rw [if_neg]
  intro q
  obtain ⟨kv, h1, h2⟩ := List.any_eq_true.mp q
  unfold valD at h
  have : (kvs.find? fun kv => decide (kv.1 = k)).isSome = true := List.find?_isSome.mpr ⟨kv, h1, h2⟩
  cases e : kvs.find? fun kv => decide (kv.1 = k) with
  | none => rw [e] at this; cases this
  | some v => rw [e] at h; cases h
theorem put_setD (l : List Str) (w : Str) : putD (setD l) (.inr w) (.bl true) = setD (if w ∈ l then l else l ++ [w]) := by
  by_cases h : w ∈ l
  · rw [if_pos h]
    unfold putD
    have h1 : (setD l).any (fun kv => decide (kv.1 = Sum.inr w)) = true := by
      rw [List.any_eq_true]
      exact ⟨(.inr w, .bl true), List.mem_map.mpr ⟨w, h, rfl⟩, by simp⟩
    rw [if_pos h1]
    unfold setD
    rw [List.map_map]
    refine List.map_congr_left fun x hx => ?_
    simp only [Function.comp]
    split <;> rfl
  · rw [if_neg h, put_new (by rw [val_setD]; simpa using h)]
    simp [setD]
theorem merge_setD : ∀ (m l : List Str), mergeD (setD l) (setD m) = setD (addAll l m)
  | [], l => rfl
  | x :: r, l => by
    show mergeD (putD (setD l) (.inr x) (.bl true)) (setD r) = setD (addAll (if x ∈ l then l else l ++ [x]) r)
    rw [put_setD, merge_setD r]
theorem addAll_len (l : List Str) : ∀ m : List Str, (addAll l m).length ≤ l.length + m.length := by
  intro m
  induction m generalizing l with
  | nil => exact Nat.le_refl _
  | cons x r ih =>
    show (addAll (if x ∈ l then l else l ++ [x]) r).length ≤ _
    have := ih (if x ∈ l then l else l ++ [x])
    split at this <;> rename_i h
    · rw [if_pos h, List.length_cons]; omega
    · rw [if_neg h, List.length_cons]; simp at this; omega
def TSmall (t : Told) (n : Nat) : Prop := t.length ≤ n ∧ ∀ p ∈ t, p.2.length ≤ n
theorem above_some (t : Told) (a : Str) : above t (some a) = (t.lookup a).getD [] := rfl
theorem above_small {t : Told} {n : Nat} (h : TSmall t n) (a : Option Str) : (above t a).length ≤ n := by
  cases a with
  | none => exact Nat.zero_le _
  | some a =>
    rw [above_some]
    cases e : t.lookup a with
    | none => exact Nat.zero_le _
    | some l =>
      have : (a, l) ∈ t := by
        clear h
        induction t with
        | nil => cases e
        | cons p r ih =>
          obtain ⟨x, m⟩ := p
          rw [List.lookup_cons] at e
          cases q : a == x with
          | true => rw [q] at e; cases e; rw [eq_of_beq q]; exact List.mem_cons_self
          | false => rw [q] at e; exact List.mem_cons_of_mem _ (ih e)
      exact h.2 _ this
theorem toldD_len (t : Told) : (toldD t).length = t.length := by simp [toldD]
theorem p_kinds_above (ds : List D) (M : Mp) (Q : VD) (E : XD) (h : sp_kinds_above c ds M Q E) : t_kinds_above c (endsF Q) (startD N_kinds_above ds) M := by
  obtain ⟨ks, rfl, hk, q⟩ := h
  simp [t_kinds_above, startD]
  intro p np
  refine for_rule (enc := kindD) (fun r δ M' => ∃ t n X Y, δ = [some (.tup (ks.map kindD)), some (.ref p), X, Y] ∧ M' = up M p (.dic (toldD t)) ∧ TSmall t n ∧ n + r.length ≤ 1000 ∧ kAbove [] ks = kAbove t r) ?_ ?_ ks _ _ ⟨[], 0, none, none, rfl, rfl, ⟨Nat.le_refl _, fun _ h => by cases h⟩, by omega, rfl⟩
  · rintro ⟨w, a⟩ r δ M' ⟨t, n, X, Y, rfl, rfl, ht, hn, e⟩
    refine ⟨trivial, fun nx hx => ?_⟩
    rw [List.length_cons] at hn
    have ha := above_small ht a
    have hg : getM (up M p (.dic (toldD t))) (.ref p) (optD a) (.dic []) = some (.dic (setD (above t a))) := by
      unfold getM
      rw [s_dicU]
      cases a with
      | none => rfl
      | some a =>
        show some ((valD (toldD t) (.inr a)).getD (.dic [])) = _
        rw [val_toldD, above_some]
        cases t.lookup a <;> rfl
    simp [kindD]
    refine ⟨_, hg, _, rfl, ?_, ?_⟩
    · rw [lineE]; simp [setD]; omega
    have e1 : mergeD [(Sum.inr w, D.bl true)] (setD (above t a)) = setD (addAll [w] (above t a)) := merge_setD (above t a) [w]
    refine ⟨by rw [toldD_len, lineE]; have := ht.1; omega, fun v hv => hx _ _ ⟨t, n + 1, _, _, rfl, rfl, ⟨by have := ht.1; omega, fun p hp => by have := ht.2 p hp; omega⟩, by omega, ?_⟩, fun hv => hx _ _ ⟨t ++ [(w, addAll [w] (above t a))], n + 1, _, _, rfl, ?_, ⟨by have := ht.1; simp; omega, fun p hp => ?_⟩, by omega, ?_⟩⟩
    · rw [e]
      show kAbove (if (t.lookup w).isSome then t else _) r = _
      rw [val_toldD] at hv
      cases h : t.lookup w with
      | none => rw [h] at hv; cases hv
      | some l => rfl
    · rw [e1, put_new (by rw [hv]; rfl)]
      simp [toldD]
    · rcases List.mem_append.mp hp with h | h
      · have := ht.2 p h; omega
      · rw [List.mem_singleton.mp h]
        have := addAll_len [w] (above t a)
        simp at this ⊢
        omega
    · rw [e]
      show kAbove (if (t.lookup w).isSome then t else _) r = _
      rw [val_toldD] at hv
      cases h : t.lookup w with
      | none => rfl
      | some l => rw [h] at hv; cases hv
  · rintro δ M' ⟨t, n, X, Y, rfl, rfl, ht, hn, e⟩
    refine ⟨trivial, ?_⟩
    simp
    have e : kAbove [] ks = t := e
    rw [e] at q
    exact out_dic (Le.up np) np up_same q
theorem enum_map {α : Type} (f : α → D) (k : Nat) : ∀ l : List α, enumF k (l.map f) = (l.zipIdx k).map fun p => .tup [.int (p.2 : Nat), f p.1]
  | [] => rfl
  | x :: r => by
    rw [List.map_cons, List.zipIdx_cons, List.map_cons]
    show _ :: enumF (k + 1) (r.map f) = _
    have ih := enum_map f (k + 1) r
    rw [ih]
theorem p_kind_fault (ds : List D) (M : Mp) (Q : VD) (E : XD) (h : sp_kind_fault c ds M Q E) : t_kind_fault c (endsF Q) (startD N_kind_fault ds) M := by
  obtain ⟨ks, rfl, hk, q⟩ := h
  simp [t_kind_fault, startD, enumD_eq]
  intro p np
  rw [enum_map]
  refine for_rule (fun r δ M' => ∃ ahead i rest X Y Z, δ = [some (.tup (ks.map kindD)), some (.ref p), X, Y, Z] ∧ M' = up M p (.dic (setD ahead)) ∧ r = rest.zipIdx i ∧ ahead.length + rest.length ≤ 1000 ∧ kindFault [] 0 ks = kindFault ahead i rest) ?_ ?_ (ks.zipIdx 0) _ _ ⟨[], 0, ks, none, none, none, rfl, rfl, rfl, by simpa using hk, rfl⟩
  · rintro ⟨⟨w, a⟩, j⟩ r δ M' ⟨ahead, i, rest, X, Y, Z, rfl, rfl, hr, hl, e⟩
    refine ⟨trivial, fun nx hx => ?_⟩
    cases rest with
    | nil => cases hr
    | cons k rest =>
      rw [List.zipIdx_cons] at hr
      cases hr
      rw [List.length_cons] at hl
      simp [kindD, s_hasr up_same, val_setD]
      have fin : ∀ b : Prop, kindFault ahead j ((w, a) :: rest) = some j → Out Q (.int (j : Nat)) (up M p (.dic (setD ahead))) := fun _ h => by
        rw [e, h] at q
        exact out_le (Le.up np) q
      by_cases h1 : w ∈ ahead
      · exact .inr ⟨h1, fin True (by unfold kindFault; rw [if_pos (.inl h1)])⟩
      · refine .inl ⟨h1, ?_⟩
        have go : kindFault ahead j ((w, a) :: rest) = kindFault (ahead ++ [w]) (j + 1) rest → ∃ M3, putM (up M p (.dic (setD ahead))) (.ref p) (.str w) (.bl true) = some M3 ∧ nx [some (.tup (ks.map kindD)), some (.ref p), some (.int (j : Nat)), some (.str w), some (optD a)] M3 := fun h => by
          have hb : (setD ahead).length < sizeLine := by rw [lineE]; simp [setD]; omega
          refine ⟨up M p (.dic (setD (ahead ++ [w]))), ?_, hx _ _ ⟨ahead ++ [w], j + 1, rest, _, _, _, rfl, rfl, rfl, by simp; omega, e.trans h⟩⟩
          have := put_setD ahead w
          rw [if_neg h1] at this
          simp [putM, hb, this]
        cases a with
        | none =>
          have := go (by rw [kindFault, if_neg (by simp [h1])])
          simpa [optD] using this
        | some a =>
          by_cases h2 : a ∈ ahead
          · have := go (by rw [kindFault, if_neg (by simp [h1, h2])])
            simpa [optD, h2, s_hasr up_same, val_setD] using this
          · have := fin True (by rw [kindFault, if_pos (.inr ⟨a, rfl, h2⟩)])
            simpa [optD, h2, s_hasr up_same, val_setD] using this
  · rintro δ M' ⟨ahead, i, rest, X, Y, Z, rfl, rfl, hr, hl, e⟩
    refine ⟨trivial, ?_⟩
    have : rest = [] := by
      cases rest with
      | nil => rfl
      | cons a b => rw [List.zipIdx_cons] at hr; cases hr
    subst this
    rw [e] at q
    simp
    exact out_le (Le.up np) q
theorem isSome_told (t : Told) (w : Str) : (valD (toldD t) (.inr w)).isSome = (t.lookup w).isSome := by
  rw [val_toldD]; cases t.lookup w <;> rfl
theorem put_ahead {ahead : List Str} {w : Str} {M : Mp} {p : Addr} (h : w ∉ ahead) (hl : ahead.length ≤ 1000) : putM (up M p (.dic (setD ahead))) (.ref p) (.str w) (.bl true) = some (up M p (.dic (setD (ahead ++ [w])))) := by
  have hb : (setD ahead).length < sizeLine := by rw [lineE]; simp [setD]; omega
  have := put_setD ahead w
  rw [if_neg h] at this
  simp [putM, hb, this]
theorem zip_nil {α : Type} {l : List α} {i : Nat} (h : ([] : List (α × Nat)) = l.zipIdx i) : l = [] := by
  cases l with
  | nil => rfl
  | cons a b => rw [List.zipIdx_cons] at h; cases h
theorem false_mem {α : Type} (l : List α) (f : α → Bool) : false ∈ l.map f ↔ ¬ ∀ x ∈ l, f x = true := by
  induction l with
  | nil => simp
  | cons a r ih =>
    rw [List.map_cons, List.mem_cons, ih, List.forall_mem_cons]
    cases f a <;> simp
theorem p_relation_fault (ds : List D) (M : Mp) (Q : VD) (E : XD) (h : sp_relation_fault c ds M Q E) : t_relation_fault c (endsF Q) (startD N_relation_fault ds) M := by
  obtain ⟨x, rfl, sm, q⟩ := h
  have hps := sm.ps
  have hrs := sm.rs
  simp [t_relation_fault, startD, enumD_eq, Dom.d]
  refine ⟨x.ks, rfl, sm.ks, ?_⟩
  simp
  intro p np
  rw [enum_map]
  generalize hdm : D.tup [.tup (x.ks.map kindD), .tupP (x.rs.map relD), .tup (x.ds.map Deed.d)] = dm
  generalize ht : kAbove [] x.ks = t at q ⊢
  refine for_rule (fun r δ M' => ∃ ahead i rest X Y Z, δ = [some dm, some (.dic (toldD t)), some (.ref p), X, Y, Z, none] ∧ M' = up M p (.dic (setD ahead)) ∧ r = rest.zipIdx i ∧ ahead.length + rest.length ≤ 1000 ∧ (∀ k ∈ rest, k.2.length ≤ 1000) ∧ relFault t [] 0 x.rs = relFault t ahead i rest) ?_ ?_ (x.rs.zipIdx 0) _ _ ⟨[], 0, x.rs, none, none, none, rfl, rfl, rfl, by simpa using hrs, hps, rfl⟩
  · rintro ⟨⟨w, ps⟩, j⟩ r δ M' ⟨ahead, i, rest, X, Y, Z, rfl, rfl, hr, hl, hps', e⟩
    refine ⟨trivial, fun nx hx => ?_⟩
    cases rest with
    | nil => cases hr
    | cons k rest =>
      rw [List.zipIdx_cons] at hr
      cases hr
      rw [List.length_cons] at hl
      have hpl := hps' (w, ps) List.mem_cons_self
      dsimp only at hpl
      simp [relD, s_hasr up_same, val_setD, wipeD]
      by_cases h1 : w ∈ ahead
      · refine .inr ⟨h1, ?_⟩
        rw [e, relFault, if_pos (.inl h1)] at q
        exact out_le (Le.up np) q
      · refine .inl ⟨h1, ?_⟩
        refine comp_name (f := fun k => .bl (t.lookup k).isSome) ps [] trivial ?_ (by rw [lineE]; simp; omega) ?_
        · intro k hk R r
          simp
          rw [val_toldD]
          cases hlk : t.lookup k <;> (rw [hlk] at r; simpa using r)
        · refine ⟨ps.map fun k => (t.lookup k).isSome, by simp, ?_⟩
          have hall : (false ∈ ps.map fun k => (t.lookup k).isSome) ↔ ¬ ∀ k ∈ ps, (t.lookup k).isSome = true := false_mem ps _
          by_cases h2 : ∀ k ∈ ps, (t.lookup k).isSome
          · refine .inr ⟨fun q => hall.mp q h2, _, put_ahead h1 (by omega), hx _ _ ⟨ahead ++ [w], j + 1, rest, _, _, _, rfl, rfl, rfl, by simp; omega, fun k hk => hps' k (List.mem_cons_of_mem _ hk), ?_⟩⟩
            rw [e, relFault, if_neg (fun q => q.elim h1 fun q => q h2)]
          · refine .inl ⟨hall.mpr h2, ?_⟩
            rw [e, relFault, if_pos (.inr h2)] at q
            exact out_le (Le.up np) q
  · rintro δ M' ⟨ahead, i, rest, X, Y, Z, rfl, rfl, hr, hl, hps', e⟩
    refine ⟨trivial, ?_⟩
    have := zip_nil hr
    subst this
    rw [e] at q
    simp
    exact out_le (Le.up np) q
theorem addAll_nodup (l m : List Str) : (addAll l m).length = l.length + m.length ↔ (m.Nodup ∧ ∀ x ∈ m, x ∉ l) := by
  induction m generalizing l with
  | nil => simp [addAll]
  | cons x r ih =>
    have e : addAll l (x :: r) = addAll (if x ∈ l then l else l ++ [x]) r := rfl
    rw [e]
    by_cases h : x ∈ l
    · rw [if_pos h]
      have := addAll_len l r
      constructor
      · intro q; rw [List.length_cons] at q; omega
      · intro q; exact absurd h (q.2 x List.mem_cons_self)
    · rw [if_neg h]
      have := ih (l ++ [x])
      rw [List.length_append, List.length_cons, List.length_nil] at this
      rw [List.length_cons, show l.length + (r.length + 1) = l.length + (0 + 1) + r.length by omega, this, List.nodup_cons]
      constructor
      · rintro ⟨h1, h2⟩
        refine ⟨⟨fun hx => h2 x hx (by simp), h1⟩, fun y hy => ?_⟩
        rcases List.mem_cons.mp hy with z | z
        · subst z; exact h
        · exact fun q => h2 y z (by simp [q])
      · rintro ⟨⟨h1, h2⟩, h3⟩
        refine ⟨h2, fun y hy q => ?_⟩
        rcases List.mem_append.mp q with z | z
        · exact h3 y (List.mem_cons_of_mem _ hy) z
        · rw [List.mem_singleton.mp z] at hy; exact h1 hy
theorem compK_words {G : Mp → Prop} {δ : SD} {M : Mp} {Qc : List (Key × D) → Mp → Prop} {i j : Nat} (hij : i ≠ j) (hi : i < δ.length) (hG : G M) : ∀ (vs : List (Str × Str)) (acc : List Str), acc.length + vs.length ≤ 2000 → Qc (setD (addAll acc (vs.map (·.1)))) M →
    compKD (gTup 2 (gCons (gName i) (gCons (gName j) gNil))) tYes (dVar i) (dC (.bl true)) G δ Qc (vs.map pairD) (setD acc) M
  | [], acc, _, q => ⟨hG, q⟩
  | v :: r, acc, hl, q => by
    rw [List.length_cons] at hl
    refine ⟨hG, ?_⟩
    rw [pairD, s_gtup]
    refine ⟨rfl, ?_⟩
    rw [s_gcons, s_gname, s_gcons, s_gname, s_gnil]
    refine ⟨rfl, ?_⟩
    rw [s_yes, if_pos rfl, s_var]
    refine ⟨.str v.1, ?_, .inr v.1, rfl, by rw [lineE]; simp [setD]; omega, ?_⟩
    · rw [List.getElem?_set_ne (Ne.symm hij), List.getElem?_set_self hi]
    · rw [put_setD]
      refine compK_words hij hi hG r _ ?_ q
      split <;> (try simp) <;> omega
theorem p_deed_fault (ds : List D) (M : Mp) (Q : VD) (E : XD) (h : sp_deed_fault c ds M Q E) : t_deed_fault c (endsF Q) (startD N_deed_fault ds) M := by
  obtain ⟨x, rfl, sm, q⟩ := h
  have hds := sm.ds
  have hvs : ∀ d ∈ x.ds, d.vs.length ≤ 1000 := fun d hd => (sm.d d hd).vs
  simp [t_deed_fault, startD, enumD_eq, Dom.d]
  refine ⟨x.ks, rfl, sm.ks, ?_⟩
  simp
  intro p np
  rw [enum_map]
  generalize hdm : D.tup [.tup (x.ks.map kindD), .tupP (x.rs.map relD), .tup (x.ds.map Deed.d)] = dm
  generalize ht : kAbove [] x.ks = t at q ⊢
  refine for_rule (fun r δ M' => ∃ ahead i rest X Y Z W V, δ = [some dm, some (.dic (toldD t)), some (.ref p), X, Y, Z, W, V, none, none] ∧ M' = up M p (.dic (setD ahead)) ∧ r = rest.zipIdx i ∧ ahead.length + rest.length ≤ 1000 ∧ (∀ k ∈ rest, k.vs.length ≤ 1000) ∧ deedFault t [] 0 x.ds = deedFault t ahead i rest) ?_ ?_ (x.ds.zipIdx 0) _ _ ⟨[], 0, x.ds, none, none, none, none, none, rfl, rfl, rfl, by simpa using hds, hvs, rfl⟩
  · rintro ⟨d, j⟩ r δ M' ⟨ahead, i, rest, X, Y, Z, W, V, rfl, rfl, hr, hl, hps', e⟩
    refine ⟨trivial, fun nx hx => ?_⟩
    cases rest with
    | nil => cases hr
    | cons k rest =>
      rw [List.zipIdx_cons] at hr
      cases hr
      rw [List.length_cons] at hl
      have hpl := hps' d List.mem_cons_self
      simp [Deed.d, wipeD]
      refine compK_words (i := 8) (j := 6) (by decide) (by simp) trivial d.vs [] (by simp; omega) ?_
      have hlen : (setD (addAll [] (d.vs.map (·.1)))).length = (addAll [] (d.vs.map (·.1))).length := by simp [setD]
      simp [s_hasr up_same, val_setD, wipeD, hlen]
      have hle := addAll_len [] (d.vs.map (·.1))
      have hnd := addAll_nodup [] (d.vs.map (·.1))
      rw [List.length_nil, Nat.zero_add, List.length_map] at hle hnd
      have hnd : (addAll [] (d.vs.map (·.1))).length = d.vs.length ↔ (d.vs.map (·.1)).Nodup := hnd.trans ⟨fun h => h.1, fun h => ⟨h, fun _ _ => by simp⟩⟩
      have out : deedFault t ahead j (d :: rest) = some j → Out Q (.int (j : Nat)) (up M p (.dic (setD ahead))) := fun h => by
        rw [e, h] at q
        exact out_le (Le.up np) q
      by_cases h1 : d.w ∈ ahead
      · exact .inr ⟨h1, out (by rw [deedFault, if_pos (.inl h1)])⟩
      refine .inl ⟨h1, ?_⟩
      by_cases h2 : (d.vs.map (·.1)).Nodup
      · refine .inl ⟨Nat.le_of_eq (hnd.mpr h2).symm, ?_⟩
        refine comp_pair (e1 := fun p => .str p.1) (e2 := fun p => .str p.2) (f := fun k => .bl (t.lookup k.2).isSome) d.vs [] (fun _ _ => rfl) trivial ?_ (by rw [lineE]; simp; omega) ?_
        · intro k hk R r
          simp
          rw [val_toldD]
          cases hlk : t.lookup k.2 <;> (rw [hlk] at r; simpa using r)
        · refine ⟨d.vs.map fun k => (t.lookup k.2).isSome, by simp, ?_⟩
          have hall := false_mem d.vs fun k => (t.lookup k.2).isSome
          by_cases h3 : ∀ k ∈ d.vs, (t.lookup k.2).isSome
          · refine .inr ⟨fun q => hall.mp q h3, _, put_ahead h1 (by omega), hx _ _ ⟨ahead ++ [d.w], j + 1, rest, _, _, _, _, _, rfl, rfl, rfl, by simp; omega, fun k hk => hps' k (List.mem_cons_of_mem _ hk), ?_⟩⟩
            rw [e, deedFault, if_neg (fun q => q.elim h1 fun q => q.elim (fun q => q h2) fun q => q h3)]
          · exact .inl ⟨hall.mpr h3, out (by rw [deedFault, if_pos (.inr (.inr h3))])⟩
      · have : (addAll [] (d.vs.map (·.1))).length < d.vs.length := Nat.lt_of_le_of_ne hle fun q => h2 (hnd.mp q)
        exact .inr ⟨this, out (by rw [deedFault, if_pos (.inr (.inl h2))])⟩
  · rintro δ M' ⟨ahead, i, rest, X, Y, Z, W, V, rfl, rfl, hr, hl, hps', e⟩
    refine ⟨trivial, ?_⟩
    have := zip_nil hr
    subst this
    rw [e] at q
    simp
    exact out_le (Le.up np) q
theorem not_either {p : Plain} (h : p.ok) : ∃ n r, p.d = .tup (.str n :: r) ∧ n ≠ "either" := by
  cases p with
  | fact n a => exact ⟨n, _, rfl, by rcases h with h | h <;> subst h <;> decide⟩
  | two n a b => exact ⟨n, _, rfl, by rcases h with h | h <;> subst h <;> decide⟩
theorem p_plain_of_condition (ds : List D) (M : Mp) (Q : VD) (E : XD) (h : sp_plain_of_condition c ds M Q E) : t_plain_of_condition c (endsF Q) (startD N_plain_of_condition ds) M := by
  obtain ⟨k, rfl, ok, q⟩ := h
  cases k with
  | one p =>
    obtain ⟨n, r, e, hn⟩ := not_either ok
    simp [t_plain_of_condition, startD, Cond.d, e, hn, lineE]
    rw [← e]
    exact out_of q
  | either ps =>
    simp [t_plain_of_condition, startD, Cond.d, lineE]
    exact out_of q
theorem sum_len {α β : Type} (l : List α) (f : α → List β) : ∀ x ∈ l, (f x).length ≤ (l.flatMap f).length := by
  intro x hx
  induction l with
  | nil => cases hx
  | cons a r ih =>
    rw [List.flatMap_cons, List.length_append]
    rcases List.mem_cons.mp hx with h | h
    · subst h; omega
    · have := ih h; omega
theorem p_plain_of_deed (ds : List D) (M : Mp) (Q : VD) (E : XD) (h : sp_plain_of_deed c ds M Q E) : t_plain_of_deed c (endsF Q) (startD N_plain_of_deed ds) M := by
  obtain ⟨x, rfl, sm, q⟩ := h
  have hps := sm.ps
  have hp : x.plains.length = (x.cs.flatMap Cond.plains).length + (x.es.flatMap (·.when_)).length := List.length_append
  simp [t_plain_of_deed, startD, Deed.d, wipeD]
  refine comp2_name (β := Plain) (enc1 := Plain.d) (f1 := fun _ y => y.d) (G1 := fun _ _ => True) Cond.plains x.cs [] trivial ?_ ?_ (by rw [lineE]; simp at hp ⊢; omega) ?_
  · intro k hk
    refine ⟨trivial, fun R r => ?_⟩
    simp
    exact ⟨k, rfl, sm.ok.1 k hk, by simpa using r⟩
  · intro k hk y hy R r
    simpa [wipeD] using r
  intro p np
  rw [List.nil_append]
  have e0 : (x.cs.flatMap fun k => k.plains.map Plain.d) = (x.cs.flatMap Cond.plains).map Plain.d := by rw [List.map_flatMap]
  rw [e0]
  generalize hdm : D.tup [D.str x.w, D.tupP (List.map pairD x.vs), D.tup (List.map Cond.d x.cs), D.tup (List.map Eff.d x.es), x.c.d] = dm
  refine for_rule (enc := Eff.d) (fun r δ M' => ∃ done X Y, δ = [some dm, some (.ref p), X, Y, none, none] ∧ M' = up M p (.lst ((x.cs.flatMap Cond.plains ++ done.flatMap (·.when_)).map Plain.d)) ∧ x.es = done ++ r) ?_ ?_ x.es _ _ ⟨[], none, none, by simp [← hdm], by simp, rfl⟩
  · rintro e r δ M' ⟨done, X, Y, rfl, rfl, he⟩
    refine ⟨trivial, fun nx hx => ?_⟩
    simp [Eff.d]
    refine ⟨?_, hx _ _ ⟨done ++ [e], _, _, rfl, by simp, by rw [he]; simp⟩⟩
    rw [he] at hp
    simp at hp
    rw [lineE]
    omega
  · rintro δ M' ⟨done, X, Y, rfl, rfl, he⟩
    rw [List.append_nil] at he
    subst he
    refine ⟨trivial, ?_⟩
    simp
    refine out_lst (Le.up np) np up_same ?_
    have : x.plains.map Plain.d = (x.cs.flatMap Cond.plains).map Plain.d ++ (x.es.flatMap (·.when_)).map Plain.d := by simp [Deed.plains]
    rw [this] at q
    simpa using q
def isFact : Plain → Bool
  | .fact _ _ => true
  | .two _ _ _ => false
def atD : Plain → D
  | .fact _ a => a.d
  | .two _ a _ => .str a
theorem facts_atoms : ∀ ps : List Plain, (ps.filter isFact).map atD = (ps.flatMap Plain.atoms).map Atom.d
  | [] => rfl
  | .fact n a :: r => by
    rw [List.filter_cons_of_pos rfl, List.map_cons, facts_atoms r]; rfl
  | .two n a b :: r => by
    rw [List.filter_cons_of_neg (by simp [isFact]), facts_atoms r]; rfl
theorem plains_ok {x : Deed} (sm : x.small) : ∀ p ∈ x.plains, p.ok := fun p hp => by
  rcases List.mem_append.mp hp with h | h
  · obtain ⟨k, hk, h⟩ := List.mem_flatMap.mp h
    have := sm.ok.1 k hk
    cases k with
    | one q => rw [List.mem_singleton.mp h]; exact this
    | either ps => exact this p h
  · obtain ⟨e, he, h⟩ := List.mem_flatMap.mp h
    exact sm.ok.2 e he p h
theorem p_atoms_of_deed (ds : List D) (M : Mp) (Q : VD) (E : XD) (h : sp_atoms_of_deed c ds M Q E) : t_atoms_of_deed c (endsF Q) (startD N_atoms_of_deed ds) M := by
  obtain ⟨x, rfl, sm, q⟩ := h
  have hps := sm.ps
  have hes := sm.es
  have hok := plains_ok sm
  simp [t_atoms_of_deed, startD, wipeD]
  refine ⟨x, rfl, sm, ?_⟩
  simp
  refine comp_name_if (f := atD) isFact x.plains [] trivial ?_ ?_ (by rw [lineE]; simp; omega) ?_
  · intro p hp K k
    have ok := hok p hp
    cases p with
    | fact n a =>
      have hn : (decide (n = "yes") || decide (n = "no")) = true := by simpa [Plain.ok] using ok
      have : n = "yes" ∨ n = "no" := ok
      simp [Plain.d, lineE]
      rcases this with h | h
      · subst h; simpa [isFact] using k
      · subst h; simpa [isFact] using k
    | two n a b =>
      have hn : ¬ n = "yes" ∧ ¬ n = "no" := by rcases ok with h | h <;> subst h <;> decide
      simp [Plain.d, lineE, hn]
      exact k
  · intro p hp hf R r
    cases p with
    | fact n a => simp [Plain.d]; exact r
    | two n a b => cases hf
  · rw [List.nil_append, facts_atoms]
    have hl : (x.plains.flatMap Plain.atoms).length ≤ x.plains.length := by
      generalize x.plains = ps
      induction ps with
      | nil => exact Nat.le_refl _
      | cons p r ih =>
        rw [List.flatMap_cons, List.length_append, List.length_cons]
        have h1 : p.atoms.length ≤ 1 := by cases p <;> simp [Plain.atoms]
        omega
    simp [Deed.d, lineE]
    refine comp_name (f := fun e => e.a.d) x.es [] trivial ?_ (by rw [lineE]; simp; omega) ?_
    · intro e he R r
      simpa [Eff.d] using r
    · simp
      refine ⟨?_, ?_⟩
      · have h2 : (List.map (fun a => a.atoms.length) x.plains).sum = (x.plains.flatMap Plain.atoms).length := by simp [List.length_flatMap]
        omega
      · have : x.atoms.map Atom.d = (x.plains.flatMap Plain.atoms).map Atom.d ++ (x.es.map fun e => e.a.d) := by simp [Deed.atoms]
        rw [this] at q
        simpa using out_of q
theorem val_pairs {α : Type} (f : α → D) (l : List (Str × α)) (w : Str) : valD (l.map fun p => ((.inr p.1 : Key), f p.2)) (.inr w) = (l.lookup w).map f := by
  induction l with
  | nil => rfl
  | cons p r ih =>
    obtain ⟨x, a⟩ := p
    unfold valD at ih ⊢
    rw [List.map_cons, List.find?_cons, List.lookup_cons]
    by_cases e : x = w
    · subst e; simp
    · have e2 : (w == x) = false := by simpa using fun q => e q.symm
      have e3 : decide ((Sum.inr x : Key) = Sum.inr w) = false := by simpa using e
      simp only [e3, e2]
      exact ih
theorem lookup_mem {α : Type} {l : List (Str × α)} {w : Str} {a : α} (h : l.lookup w = some a) : (w, a) ∈ l := by
  induction l with
  | nil => cases h
  | cons p r ih =>
    obtain ⟨x, m⟩ := p
    rw [List.lookup_cons] at h
    cases q : w == x with
    | true => rw [q] at h; cases h; rw [eq_of_beq q]; exact List.mem_cons_self
    | false => rw [q] at h; exact List.mem_cons_of_mem _ (ih h)
theorem merge_pairs {α : Type} (f : α → D) : ∀ (l acc : List (Str × α)), ((acc ++ l).map (·.1)).Nodup → mergeD (acc.map fun p => ((.inr p.1 : Key), f p.2)) (l.map fun p => ((.inr p.1 : Key), f p.2)) = (acc ++ l).map fun p => ((.inr p.1 : Key), f p.2)
  | [], acc, _ => by simp [mergeD]
  | p :: r, acc, h => by
    have hn : acc.lookup p.1 = none := by
      cases e : acc.lookup p.1 with
      | none => rfl
      | some a =>
        have := lookup_mem e
        rw [List.map_append, List.nodup_append] at h
        exact absurd rfl (h.2.2 p.1 (List.mem_map.mpr ⟨_, this, rfl⟩) p.1 (by simp))
    show mergeD (putD (acc.map fun p => ((.inr p.1 : Key), f p.2)) (.inr p.1) (f p.2)) (r.map fun p => ((.inr p.1 : Key), f p.2)) = _
    rw [put_new (by rw [val_pairs, hn]; rfl)]
    have := merge_pairs f r (acc ++ [p]) (by simpa using h)
    simpa using this
theorem pairs_rel (rs : List (Str × List Str)) : pairsD (rs.map relD) = some (rs.map fun p => ((.inr p.1 : Key), D.tup (p.2.map .str))) := by
  induction rs with
  | nil => rfl
  | cons r rs ih =>
    rw [List.map_cons, List.map_cons]
    show (match keyD (.str r.1), pairsD (rs.map relD) with | some k, some ps => some ((k, D.tup (r.2.map .str)) :: ps) | _, _ => none) = _
    rw [ih]; rfl
theorem pairs_var (vs : List (Str × Str)) : pairsD (vs.map pairD) = some (vs.map fun p => ((.inr p.1 : Key), D.str p.2)) := by
  induction vs with
  | nil => rfl
  | cons r rs ih =>
    rw [List.map_cons, List.map_cons]
    show (match keyD (.str r.1), pairsD (rs.map pairD) with | some k, some ps => some ((k, D.str r.2) :: ps) | _, _ => none) = _
    rw [ih]; rfl
theorem rel_nodup {t : Told} : ∀ {rs : List (Str × List Str)} {ahead : List Str} {i : Nat}, relFault t ahead i rs = none → (rs.map (·.1)).Nodup ∧ (∀ r ∈ rs, r.1 ∉ ahead) ∧ ∀ r ∈ rs, ∀ p ∈ r.2, (t.lookup p).isSome
  | [], _, _, _ => ⟨by simp, by simp, by simp⟩
  | (w, ps) :: r, ahead, i, h => by
    rw [relFault] at h
    split at h
    · cases h
    · rename_i h0
      rw [not_or] at h0
      obtain ⟨h1, h2, h3⟩ := rel_nodup h
      refine ⟨?_, ?_, ?_⟩
      · rw [List.map_cons, List.nodup_cons]
        refine ⟨fun hm => ?_, h1⟩
        obtain ⟨q, hq, e⟩ := List.mem_map.mp hm
        exact h2 q hq (by simp [e])
      · intro q hq
        rcases List.mem_cons.mp hq with e | e
        · subst e; exact h0.1
        · exact fun z => h2 q e (by simp [z])
      · intro q hq
        rcases List.mem_cons.mp hq with e | e
        · subst e; exact Classical.not_not.mp h0.2
        · exact h3 q e
theorem deed_nodup {t : Told} : ∀ {rs : List Deed} {ahead : List Str} {i : Nat}, deedFault t ahead i rs = none → ∀ d ∈ rs, (d.vs.map (·.1)).Nodup ∧ ∀ p ∈ d.vs, (t.lookup p.2).isSome
  | [], _, _, _ => by simp
  | d :: r, ahead, i, h => by
    rw [deedFault] at h
    split at h
    · cases h
    · rename_i h0
      rw [not_or, not_or] at h0
      have ih := deed_nodup h
      intro q hq
      rcases List.mem_cons.mp hq with e | e
      · subst e; exact ⟨Classical.not_not.mp h0.2.1, Classical.not_not.mp h0.2.2⟩
      · exact ih q e
theorem zip_strs (as bs : List Str) : zipD (as.map .str) (bs.map .str) = (as.zip bs).map pairD := by
  unfold zipD
  rw [List.zip_map, List.map_map]; rfl
open Classical in
theorem p_is_right_atom (ds : List D) (M : Mp) (Q : VD) (E : XD) (h : sp_is_right_atom c ds M Q E) : t_is_right_atom c (endsF Q) (startD N_is_right_atom ds) M := by
  obtain ⟨x, d, a, rfl, sm, pt, hd, hal, q⟩ := h
  obtain ⟨hn, _, _⟩ := rel_nodup pt.r
  obtain ⟨hvn, hvk⟩ := deed_nodup pt.d d hd
  have m1 := merge_pairs (fun ps : List Str => D.tup (ps.map .str)) x.rs [] (by simpa using hn)
  have m2 := merge_pairs D.str d.vs [] (by simpa using hvn)
  simp only [List.nil_append, List.map_nil] at m1 m2
  have d1 : dictM M (.tupP (x.rs.map relD)) = some (x.rs.map fun p => ((.inr p.1 : Key), D.tup (p.2.map .str))) := pairs_rel x.rs
  have d2 : dictM M (.tupP (d.vs.map pairD)) = some (d.vs.map fun p => ((.inr p.1 : Key), D.str p.2)) := pairs_var d.vs
  have v1 := val_pairs (fun ps : List Str => D.tup (ps.map .str)) x.rs a.w
  simp [t_is_right_atom, startD, Dom.d, Deed.d, Atom.d, d1, m1, v1]
  cases hl : x.rs.lookup a.w with
  | none =>
    have : ¬ atomOk x d a := fun ⟨ps, h, _⟩ => by rw [hl] at h; cases h
    rw [decide_eq_false this] at q
    simp
    exact out_of q
  | some ps =>
    have hpl := sm.ps _ (lookup_mem hl)
    dsimp only at hpl
    simp
    by_cases hlen : ps.length = a.ws.length
    · refine .inl ⟨by omega, _, d2, x.ks, rfl, sm.ks, ?_⟩
      rw [m2]
      refine ⟨rfl, ?_⟩
      rw [zip_strs]
      have fb : ∀ q : Str × Str, ∃ b : Bool, (b = true ↔ fits (kAbove [] x.ks) d.vs q.1 q.2) ∧ ∀ (δ : SD) (R : VD), δ[6]? = some (some (.str q.1)) → δ[7]? = some (some (.str q.2)) → δ[4]? = some (some (.dic (d.vs.map fun p => ((.inr p.1 : Key), D.str p.2)))) → δ[5]? = some (some (.dic (toldD (kAbove [] x.ks)))) → R (.bl b) M →
          dAndV (dOp rIn (dVar 6) (dVar 4)) (dOp rIn (dVar 7) (dOp rIx (dVar 5) (dOp rIx (dVar 4) (dVar 6)))) δ M R := by
        rintro ⟨w, p⟩
        have hv := val_pairs D.str d.vs w
        cases e : d.vs.lookup w with
        | none =>
          refine ⟨false, ⟨(fun h => by cases h), fun ⟨k, l, h, _⟩ => by rw [e] at h; cases h⟩, fun δ R h6 h7 h4 h5 r => ?_⟩
          simp [h6, h4, hv, e]
          exact r
        | some k =>
          obtain ⟨l, hl⟩ := Option.isSome_iff_exists.mp (hvk (w, k) (lookup_mem e))
          dsimp only at hl
          refine ⟨decide (p ∈ l), ⟨fun h => ⟨k, l, e, hl, of_decide_eq_true h⟩, fun ⟨k', l', h1, h2, h3⟩ => by rw [e] at h1; cases h1; rw [hl] at h2; cases h2; exact decide_eq_true h3⟩, fun δ R h6 h7 h4 h5 r => ?_⟩
          simp [h6, h4, h7, h5, hv, e, val_toldD, hl, val_setD]
          by_cases hp : p ∈ l
          · simpa [hp] using r
          · simpa [hp] using r
      refine comp_pair (e1 := fun q => .str q.1) (e2 := fun q => .str q.2) (f := fun q => .bl (Classical.choose (fb q))) (a.ws.zip ps) [] (fun _ _ => rfl) trivial ?_ (by rw [lineE]; simp; omega) ?_
      · intro q hq R r
        exact (Classical.choose_spec (fb q)).2 _ R rfl rfl rfl rfl r
      · refine ⟨(a.ws.zip ps).map fun q => Classical.choose (fb q), by simp, ?_⟩
        have hall : ((a.ws.zip ps).map fun q => Classical.choose (fb q)).all id = decide (atomOk x d a) := by
          rw [Bool.eq_iff_iff, decide_eq_true_iff, List.all_map, List.all_eq_true]
          constructor
          · intro h
            exact ⟨ps, hl, hlen, fun q hq => (Classical.choose_spec (fb q)).1.mp (h q hq)⟩
          · rintro ⟨ps', h1, h2, h3⟩ q hq
            rw [hl] at h1; cases h1
            exact (Classical.choose_spec (fb q)).1.mpr (h3 q hq)
        rw [hall]
        exact out_of q
    · have : ¬ atomOk x d a := fun ⟨ps', h, h2, _⟩ => by rw [hl] at h; cases h; exact hlen h2
      rw [decide_eq_false this] at q
      exact .inr ⟨by omega, out_of q⟩
theorem words_plains : ∀ ps : List Plain, ((ps.filter fun p => !isFact p).flatMap Plain.words) = ps.flatMap Plain.words
  | [] => rfl
  | .fact n a :: r => by
    rw [List.filter_cons_of_neg (by simp [isFact]), words_plains r]; rfl
  | .two n a b :: r => by
    rw [List.filter_cons_of_pos (by simp [isFact]), List.flatMap_cons, List.flatMap_cons, words_plains r]
open Classical in
theorem p_has_atom_fault (ds : List D) (M : Mp) (Q : VD) (E : XD) (h : sp_has_atom_fault c ds M Q E) : t_has_atom_fault c (endsF Q) (startD N_has_atom_fault ds) M := by
  obtain ⟨x, d, rfl, sm, pt, hd, q⟩ := h
  have ds := sm.d d hd
  have hps := ds.ps
  have hok := plains_ok ds
  obtain ⟨hvn, hvk⟩ := deed_nodup pt.d d hd
  have m2 := merge_pairs D.str d.vs [] (by simpa using hvn)
  simp only [List.nil_append, List.map_nil] at m2
  have d2 : dictM M (.tupP (d.vs.map pairD)) = some (d.vs.map fun p => ((.inr p.1 : Key), D.str p.2)) := pairs_var d.vs
  simp [t_has_atom_fault, startD, wipeD]
  refine ⟨d, rfl, ds, ?_⟩
  have hal : d.atoms.length ≤ 2000 := by
    have h1 : d.atoms.length = (d.plains.flatMap Plain.atoms).length + d.es.length := by simp [Deed.atoms]
    have h2 := ds.es
    have h3 : ∀ ps : List Plain, (ps.flatMap Plain.atoms).length ≤ ps.length := by
      intro ps
      induction ps with
      | nil => exact Nat.le_refl _
      | cons p r ih =>
        rw [List.flatMap_cons, List.length_append, List.length_cons]
        have h1 : p.atoms.length ≤ 1 := by cases p <;> simp [Plain.atoms]
        omega
    have := h3 d.plains
    omega
  simp
  refine comp_name (f := fun a => .bl (decide (atomOk x d a))) d.atoms [] trivial ?_ (by rw [lineE]; simp; omega) ?_
  · intro a ha R r
    simp
    exact ⟨x, d, a, rfl, sm, pt, hd, ds.as a ha, r⟩
  · refine ⟨d.atoms.map fun a => decide (atomOk x d a), by simp, ?_⟩
    have hall := false_mem d.atoms fun a => decide (atomOk x d a)
    by_cases h1 : ∀ a ∈ d.atoms, atomOk x d a
    · refine .inr ⟨fun z => hall.mp z fun a ha => decide_eq_true (h1 a ha), ?_⟩
      simp [Deed.d, d2, m2]
      refine ⟨d, rfl, ds, ?_⟩
      simp
      refine comp2_name_if (β := Str) (enc1 := .str) (f1 := fun _ w => .str w) (G1 := fun _ _ => True) (fun p => !isFact p) Plain.words trivial d.plains [] ?_ ?_ ?_ ?_ ?_
      · intro p hp K k
        have ok := hok p hp
        cases p with
        | fact n a =>
          have hn : ¬ n = "same" ∧ ¬ n = "unlike" := by rcases ok with h | h <;> subst h <;> decide
          simp [Plain.d, lineE, hn]
          simpa [isFact] using k
        | two n a b =>
          simp [Plain.d, lineE]
          rcases ok with h | h
          · subst h; simpa [isFact] using k
          · subst h; simpa [isFact] using k
      · intro p hp hf
        cases p with
        | fact n a => cases hf
        | two n a b =>
          refine ⟨trivial, fun R r => ?_⟩
          simp [Plain.d, cut_one]
          exact r
      · intro p hp hf y hy R r
        simpa [wipeD] using r
      · rw [words_plains]
        have h3 : ∀ ps : List Plain, (ps.flatMap Plain.words).length ≤ 2 * ps.length := by
          intro ps
          induction ps with
          | nil => exact Nat.le_refl _
          | cons p r ih =>
            rw [List.flatMap_cons, List.length_append, List.length_cons]
            have h1 : p.words.length ≤ 2 := by cases p <;> simp [Plain.words]
            omega
        have := h3 d.plains
        rw [lineE]; simp; simp at this; omega
      · rw [List.nil_append]
        have e : ((d.plains.filter fun p => !isFact p).flatMap fun p => p.words.map D.str) = (d.plains.flatMap Plain.words).map D.str := by
          rw [← words_plains, List.map_flatMap]
        rw [e]
        have hv := val_pairs D.str d.vs
        refine comp_name (f := fun w => .bl (d.vs.lookup w).isSome) (d.plains.flatMap Plain.words) [] trivial ?_ ?_ ?_
        · intro w hw R r
          have hvw := hv w
          cases hlk : d.vs.lookup w <;> (rw [hlk] at r hvw; simp [hvw]; exact r)
        · have h3 : ∀ ps : List Plain, (ps.flatMap Plain.words).length ≤ 2 * ps.length := by
            intro ps
            induction ps with
            | nil => exact Nat.le_refl _
            | cons p r ih =>
              rw [List.flatMap_cons, List.length_append, List.length_cons]
              have h1 : p.words.length ≤ 2 := by cases p <;> simp [Plain.words]
              omega
          have := h3 d.plains
          rw [lineE, List.length_nil]; omega
        · refine ⟨(d.plains.flatMap Plain.words).map fun w => (d.vs.lookup w).isSome, by simp, ?_⟩
          have hall2 := false_mem (d.plains.flatMap Plain.words) fun w => (d.vs.lookup w).isSome
          have hok2 : deedAtomsOk x d ↔ ∀ w ∈ d.plains.flatMap Plain.words, (d.vs.lookup w).isSome = true := by
            constructor
            · intro h w hw
              obtain ⟨p, hp, hw⟩ := List.mem_flatMap.mp hw
              exact h.2 p hp w hw
            · intro h
              exact ⟨h1, fun p hp w hw => h w (List.mem_flatMap.mpr ⟨p, hp, hw⟩)⟩
          by_cases h2 : ∀ w ∈ d.plains.flatMap Plain.words, (d.vs.lookup w).isSome = true
          · rw [decide_eq_true (hok2.mpr h2)] at q
            exact .inr ⟨fun z => hall2.mp z h2, out_of q⟩
          · rw [decide_eq_false fun z => h2 (hok2.mp z)] at q
            exact .inl ⟨hall2.mpr h2, out_of q⟩
    · refine .inl ⟨hall.mpr fun z => h1 fun a ha => of_decide_eq_true (z a ha), ?_⟩
      have : ¬ deedAtomsOk x d := fun h => h1 h.1
      rw [decide_eq_false this] at q
      exact out_of q
open Classical in
theorem p_has_cost_fault (ds : List D) (M : Mp) (Q : VD) (E : XD) (h : sp_has_cost_fault c ds M Q E) : t_has_cost_fault c (endsF Q) (startD N_has_cost_fault ds) M := by
  obtain ⟨d, rfl, ds, hvn, q⟩ := h
  have m2 := merge_pairs D.str d.vs [] (by simpa using hvn)
  simp only [List.nil_append, List.map_nil] at m2
  have d2 : dictM M (.tupP (d.vs.map pairD)) = some (d.vs.map fun p => ((.inr p.1 : Key), D.str p.2)) := pairs_var d.vs
  have hv := val_pairs D.str d.vs
  simp [t_has_cost_fault, startD, Deed.d]
  cases hc : d.c with
  | num i =>
    simp [Cost.d]
    by_cases h : costOk d
    · rw [decide_eq_true h] at q
      unfold costOk at h
      rw [hc] at h
      have h : 0 ≤ i := h
      rw [decide_eq_false (show ¬ i < 0 by omega)]
      exact out_of q
    · rw [decide_eq_false h] at q
      unfold costOk at h
      rw [hc] at h
      have h : ¬ 0 ≤ i := h
      rw [decide_eq_true (show i < 0 by omega)]
      exact out_of q
  | by_ w us =>
    have hco : costOk d ↔ ∀ w ∈ us, (d.vs.lookup w).isSome = true := by unfold costOk; rw [hc]
    simp [Cost.d, d2, m2, wipeD]
    have hl : us.length ≤ 100000 := by
      have h1 := ds.ln (Cost.toks (.by_ w us)) (by rw [← hc]; simp [Deed.lines])
      have h2 : (Cost.toks (.by_ w us)).length ≤ wt (Cost.toks (.by_ w us)) := by
        generalize Cost.toks (.by_ w us) = l
        induction l with
        | nil => exact Nat.zero_le _
        | cons t r ih =>
          show r.length + 1 ≤ (t.length + 1) + wt r
          omega
      have h3 : (Cost.toks (.by_ w us)).length = us.length + 3 := rfl
      omega
    refine comp_name (f := fun w => .bl (d.vs.lookup w).isSome) us [] trivial ?_ (by rw [lineE]; simp; omega) ?_
    · intro w hw R r
      have hvw := hv w
      cases hlk : d.vs.lookup w <;> (rw [hlk] at r hvw; simp [hvw]; exact r)
    · refine ⟨us.map fun w => (d.vs.lookup w).isSome, by simp, ?_⟩
      have hall2 := false_mem us fun w => (d.vs.lookup w).isSome
      by_cases h2 : ∀ w ∈ us, (d.vs.lookup w).isSome = true
      · rw [decide_eq_true (hco.mpr h2)] at q
        exact .inr ⟨fun z => hall2.mp z h2, out_of q⟩
      · rw [decide_eq_false fun z => h2 (hco.mp z)] at q
        exact .inl ⟨hall2.mpr h2, out_of q⟩
theorem p_first_index (ds : List D) (M : Mp) (Q : VD) (E : XD) (h : sp_first_index c ds M Q E) : t_first_index c (endsF Q) (startD N_first_index ds) M := by
  obtain ⟨bs, rfl, hl, q⟩ := h
  simp [t_first_index, startD, s_hasB]
  cases e : bs.findIdx? fun b => b with
  | none =>
    rw [e] at q
    have h := List.findIdx?_eq_none_iff.mp e
    have : true ∉ bs := fun hm => by have := h true hm; cases this
    exact .inl ⟨this, out_of q⟩
  | some j =>
    rw [e] at q
    have hm : true ∈ bs := by
      rw [List.findIdx?_eq_some_iff_getElem] at e
      obtain ⟨hj, ht, _⟩ := e
      rw [← ht]; exact List.getElem_mem hj
    exact .inr ⟨hm, bs, j, rfl, rfl, e, out_of q⟩
open Classical in
theorem p_first_fault (ds : List D) (M : Mp) (Q : VD) (E : XD) (h : sp_first_fault c ds M Q E) : t_first_fault c (endsF Q) (startD N_first_fault ds) M := by
  obtain ⟨x, f, rfl, sm, ok, q⟩ := h
  have hds := sm.ds
  have pt : x.part := ⟨ok.k, ok.r, ok.d⟩
  have costs : (x.ds.map fun d => decide (costOk d)).all id = true := by
    rw [List.all_map, List.all_eq_true]; exact fun d hd => decide_eq_true (ok.c d hd)
  have idx : ∀ n : Nat, (List.replicate n false).findIdx? (fun b => b) = none := by
    intro n; rw [List.findIdx?_eq_none_iff]; intro x hx; exact (List.mem_replicate.mp hx).2
  have d2 : ∃ d, atM M x.d (.int 2) = some d ∧ d = .tup (x.ds.map Deed.d) := ⟨_, rfl, rfl⟩
  simp [t_first_fault, startD]
  by_cases h1 : f = "kind"
  · refine .inr ⟨h1, _, rfl, x.ks, rfl, sm.ks, ?_⟩
    rw [ok.k]; exact out_of q
  refine .inl ⟨h1, ?_⟩
  by_cases h2 : f = "relation"
  · refine .inr ⟨h2, x, rfl, sm, ?_⟩
    rw [ok.r]; exact out_of q
  refine .inl ⟨h2, ?_⟩
  by_cases h3 : f = "deed"
  · refine .inr ⟨h3, x, rfl, sm, ?_⟩
    rw [ok.d]; exact out_of q
  refine .inl ⟨h3, .tup (x.ds.map Deed.d), rfl, ?_⟩
  simp [wipeD]
  refine comp_name (f := fun _ => .bl false) x.ds [] trivial ?_ (by rw [lineE]; simp; omega) ?_
  · intro d hd R r
    have hda := ok.a d hd
    have hdc := ok.c d hd
    by_cases h4 : f = "atom"
    · simp [h4]
      refine ⟨x, d, rfl, sm, pt, hd, ?_⟩
      rw [decide_eq_true hda]; exact r
    · simp [h4]
      refine ⟨d, rfl, sm.d d hd, (deed_nodup pt.d d hd).1, ?_⟩
      rw [decide_eq_true hdc]; exact r
  · refine ⟨List.replicate x.ds.length false, by simp [List.map_const'], by simp; omega, ?_⟩
    rw [idx]; exact out_of q
theorem p_check_domain (ds : List D) (M : Mp) (Q : VD) (E : XD) (h : sp_check_domain c ds M Q E) : t_check_domain c (endsF Q) (startD N_check_domain ds) M := by
  obtain ⟨x, rfl, sm, ok, q⟩ := h
  simp [t_check_domain, startD]
  refine ⟨by rw [lineE]; omega, x, _, rfl, sm, ok, rfl, x, _, rfl, sm, ok, rfl, x, _, rfl, sm, ok, rfl, x, _, rfl, sm, ok, rfl, x, _, rfl, sm, ok, rfl, ?_⟩
  exact out_of q
end Ht
set_option Elab.async false
set_option linter.all false
set_option maxRecDepth 100000
namespace Ht
open PySem PySem.Spec PyProof.Rows L2
abbrev endsL (Q : VD) : EndsD := { nx := fun _ M' => Out Q .non M', rt := Out Q }
variable (c : Cs)
theorem lineL : sizeLine = 16777216 := sizeLine_eq
theorem comp_inv {g : DG_} {tt : DT_} {te : DE_} {G : Mp → Prop} {δ : SD} {Q : List D → Mp → Prop} {α : Type} {enc : α → D} (Inv : List α → List D → Mp → Prop)
    (step : ∀ x r acc M, Inv (x :: r) acc M → G M ∧ ∀ nx : List D → Mp → Prop, (∀ acc' M', Inv r acc' M' → nx acc' M') → g (enc x) δ M fun δ2 M2 => tt δ2 M2 fun b M3 => if b = true then te δ2 M3 fun y M4 => acc.length < sizeLine ∧ nx (acc ++ [y]) M4 else nx acc M3)
    (last : ∀ acc M, Inv [] acc M → G M ∧ Q acc M) : ∀ (l : List α) (acc : List D) (M : Mp), Inv l acc M → compD g tt te G δ Q (l.map enc) acc M
  | [], acc, M, h => last acc M h
  | x :: r, acc, M, h => ⟨(step x r acc M h).1, (step x r acc M h).2 _ fun acc' M' q => comp_inv Inv step last r acc' M' q⟩
@[simp] theorem s_mulI {M : Mp} {Q : VD} (o : Bool) (i j : Int) : rMul o (.int i) (.int j) M Q = (CMul i j ∧ Q (.int (i * j)) M) := rfl
@[simp] theorem s_intI (i : Int) : intM (.int i) = some i := rfl
theorem cut_take (xs : List D) (k : Nat) : cutD xs none (some (k : Int)) = xs.take k := by
  unfold cutD
  rw [HT.sIx_nat, HT.sIx_none, Nat.sub_zero, List.drop_zero, ← List.take_eq_take_min]
theorem p__law_take (ds : List D) (M : Mp) (Q : VD) (E : XD) (h : sp__law_take c ds M Q E) : t__law_take c (endsL Q) (startD N__law_take ds) M := by
  obtain ⟨a, m, rfl, hm, ⟨ns, ha, hl⟩, q⟩ := h
  simp [t__law_take, startD, s_lenr ha, s_tyr ha]
  rcases List.eq_nil_or_concat ns with rfl | ⟨r, x, rfl⟩
  · refine .inr ⟨rfl, out_of (q M 0 (by omega) hm ⟨⟨[], ha, hl⟩, fun _ _ => rfl⟩)⟩
  · refine .inl ⟨by simp, ?_⟩
    rw [s_cell ha, wC_some]
    refine ⟨.int x, by simp, x, rfl, hm, out_of (q _ _ (Int.emod_nonneg _ (by omega)) (Int.emod_lt_of_pos _ hm) ⟨⟨r, ?_, by simp at hl; omega⟩, fun b hb => up_ne hb⟩)⟩
    rw [up_same]; simp
theorem p__law_pick (ds : List D) (M : Mp) (Q : VD) (E : XD) (h : sp__law_pick c ds M Q E) : t__law_pick c (endsL Q) (startD N__law_pick ds) M := by
  obtain ⟨a, row, xs, rfl, hd, ⟨hr, h0, hl⟩, q⟩ := h
  have e0 := hr M (fun _ _ => rfl)
  have el : lenM M row = some xs.length := by
    unfold lenM
    split
    · rename_i z; cases e0
    · rw [e0]
  simp [t__law_pick, startD]
  refine ⟨_, el, a, _, rfl, by omega, hd, fun M' i h1 h2 hn => ?_⟩
  obtain ⟨k, rfl⟩ := Int.eq_ofNat_of_zero_le h1
  have hk : k < xs.length := by omega
  have e1 := hr M' hn.2
  refine ⟨xs[k], ?_, out_of (q M' _ (List.getElem_mem hk) hn)⟩
  unfold atM
  split
  · cases e1
  · rw [e1]
    dsimp only
    rw [atI_nat, List.getElem?_eq_getElem hk]
theorem cut_take_none (xs : List D) : cutD xs none (some 63) = xs.take 63 := cut_take xs 63
theorem putM_lst {M : Mp} {a : Addr} {ds : List D} (h : M a = some (.lst ds)) {j : Nat} (hj : j < ds.length) (v : D) : putM M (.ref a) (.int (j : Int)) v = some (up M a (.lst (ds.set j v))) := by
  have ix : ixN ds.length (j : Int) = some j := by
    unfold ixN
    rw [if_pos (by omega), if_pos (by omega)]; rfl
  simp [putM, h, ix]
def DAt (M : Mp) (p p1 p2 : Addr) (cs ls ds : List Int) (M' : Mp) : Prop := M' p = some (.lst (cs.map .int)) ∧ M' p1 = some (.lst (ls.map .int)) ∧ M' p2 = some (.lst (ds.map .int)) ∧ ∀ b, M b ≠ none → M' b = M b
theorem draws_loop (ns : List Int) (M : Mp) (Q : VD) (p p1 p2 : Addr) (cs : List Int) (hn : M p = none) (hn1 : M p1 = none) (hn2 : M p2 = none) (n1 : p1 ≠ p) (n2 : p2 ≠ p) (n3 : p2 ≠ p1) (h0 : 0 < cs.length) (hc : cs.length ≤ 1000)
    (q : ∀ (p : Addr) (M' : Mp), M p = none → Dr M' p → (∀ (b : Addr), b ≠ p → M' b = M b) → Q (D.ref p) M') (M' : Mp) (h : DAt M p p1 p2 cs cs [] M') (T : DE_) (hT : T = dOp rPow (dC (.int 10)) (dC (.int 18))) :
    forD (gName 5) (dSeq (dSet (dOp rMod (dCB rInt (dCons (dVar 5) dNil)) (dCB rLen (dCons (dVar 2) dNil))) 6)
      (dIfS (dAnd (dTest (dOp rGe (dOp rIx (dVar 2) (dVar 6)) T)) (dTest (dOp rGt (dOp rIx (dVar 3) (dVar 6)) (dC (D.int 0)))))
        (dSeq (dDrop (dBM "list" rApp (dVar 4) (dCons (dOp rMod (dCB rInt (dCons (dOp rIx (dVar 3) (dVar 6)) dNil)) (dC (D.int 1000))) dNil)))
          (dAsg (dOp rDiv (dOp rIx (dVar 3) (dVar 6)) (dC (D.int 1000))) (gSub (dVar 3) (dVar 6))))
        (dSeq (dSet (dOp rMod (dCB rInt (dCons (dOp (rAdd false) (dOp (rAdd false) (dOp (rMul false) (dOp rIx (dVar 2) (dVar 6)) (dC (D.int 48271))) (dOp (rMul false) (dVar 5) (dC (D.int 69621)))) (dC (D.int 11))) dNil)) (dC (D.int 2147483647))) 7)
          (dDrop (dBM "list" rApp (dVar 4) (dCons (dOp rMod (dCB rInt (dCons (dOp (rAdd false) (dOp (rAdd false) (dOp (rMul false) (dVar 7) (dVar 7)) (dOp (rMul false) (dC (D.int 3)) (dVar 7))) (dVar 5)) dNil)) (dC (D.int 1000003))) dNil))))))
      { nx := dSeq (dDrop (dBM0 "list" rRev (dVar 4))) (dRet (dVar 4)) (endsL Q), rt := Out Q } (fun _ => True) (rangeD 0 900)
      [some (.scr ns), some (.int 900), some (.ref p), some (.ref p1), some (.ref p2), none, none, none, none] M' := by
  unfold rangeD
  refine for_rule (enc := fun i : Nat => .int (0 + i)) (fun r δ M' => ∃ ls ds X Y Z, δ = [some (.scr ns), some (.int 900), some (.ref p), some (.ref p1), some (.ref p2), X, Y, Z, none] ∧ DAt M p p1 p2 cs ls ds M' ∧ ls.length = cs.length ∧ ds.length + r.length ≤ 900 ∧ ∀ i ∈ r, i < 900) ?_ ?_ (List.range 900) _ _ ⟨cs, [], none, none, none, rfl, h, rfl, by simp, fun i hi => List.mem_range.mp hi⟩
  · rintro k r δ M1 ⟨ls, ds, X, Y, Z, rfl, ⟨d1, d2, d3, d4⟩, hl, hlen, hr⟩
    refine ⟨trivial, fun nx hx => ?_⟩
    have hk := hr k List.mem_cons_self
    rw [List.length_cons] at hlen
    have hcl : (cs.map D.int).length = cs.length := List.length_map _
    have fin : ∀ (x : Int) (ls' : List Int) (M2 : Mp) (Y Z : Option D), DAt M p p1 p2 cs ls' (ds ++ [x]) M2 → ls'.length = cs.length → nx [some (.scr ns), some (.int 900), some (.ref p), some (.ref p1), some (.ref p2), some (.int (k : Nat)), Y, Z, none] M2 := fun x ls' M2 Y Z h1 h2 => hx _ _ ⟨ls', ds ++ [x], _, _, _, rfl, h1, h2, by simp; omega, fun i hi => hr i (List.mem_cons_of_mem _ hi)⟩
    obtain ⟨j, hj⟩ : ∃ j : Nat, ((k : Nat) : Int) % ((cs.length : Nat) : Int) = (j : Nat) := Int.eq_ofNat_of_zero_le (Int.emod_nonneg _ (by omega))
    have hj2 : j < cs.length := by
      have := Int.emod_lt_of_pos ((k : Nat) : Int) (show (0 : Int) < (cs.length : Nat) by omega)
      omega
    have g1 : atI (cs.map D.int) (j : Int) = some (.int cs[j]) := by rw [atI_nat, List.getElem?_map, List.getElem?_eq_getElem hj2]; rfl
    have hj3 : j < ls.length := by omega
    have g2 : atI (ls.map D.int) (j : Int) = some (.int ls[j]) := by rw [atI_nat, List.getElem?_map, List.getElem?_eq_getElem hj3]; rfl
    have p3 : ∀ x : Int, DAt M p p1 p2 cs ls (ds ++ [x]) (up M1 p2 (.lst (ds.map .int ++ [.int x]))) := fun x =>
      ⟨by rw [up_ne n2.symm]; exact d1, by rw [up_ne n3.symm]; exact d2, by rw [up_same]; simp, fun b hb => by rw [up_ne (fun e => hb (by rw [e]; exact hn2))]; exact d4 b hb⟩
    simp [hj, s_lenr d1, s_atr d1, s_atr d2, g1, g2, hT, s_tyr d3]
    have mix : CMul cs[j] 48271 ∧ CMul (k : Nat) 69621 ∧ CMul ((cs[j] * 48271 + (k : Nat) * 69621 + 11) % 2147483647) ((cs[j] * 48271 + (k : Nat) * 69621 + 11) % 2147483647) ∧ CMul 3 ((cs[j] * 48271 + (k : Nat) * 69621 + 11) % 2147483647) ∧ wC (cellL M1 (D.ref p2)) fun a es =>
        es.length < sizeLine ∧ nx [some (D.scr ns), some (D.int 900), some (D.ref p), some (D.ref p1), some (D.ref p2), some (D.int (k : Nat)), some (D.int (j : Nat)), some (D.int ((cs[j] * 48271 + (k : Nat) * 69621 + 11) % 2147483647)), none]
          (up M1 a (Cell.lst (es ++ [D.int (((cs[j] * 48271 + (k : Nat) * 69621 + 11) % 2147483647 * ((cs[j] * 48271 + (k : Nat) * 69621 + 11) % 2147483647) + 3 * ((cs[j] * 48271 + (k : Nat) * 69621 + 11) % 2147483647) + (k : Nat)) % 1000003)]))) := by
      have h1 := Int.emod_nonneg (cs[j] * 48271 + (k : Nat) * 69621 + 11) (show (2147483647 : Int) ≠ 0 by decide)
      have h2 := Int.emod_lt_of_pos (cs[j] * 48271 + (k : Nat) * 69621 + 11) (show (0 : Int) < 2147483647 by decide)
      refine ⟨.inr (by omega), .inl (by omega), .inl (by omega), .inl (by omega), ?_⟩
      rw [s_cell d3, wC_some]
      exact ⟨by rw [lineL]; simp; omega, fin _ ls _ _ _ (p3 _) hl⟩
    refine ⟨by omega, ⟨by omega, by omega, by decide⟩, ?_⟩
    by_cases b1 : cs[j] < 1000000000000000000
    · exact .inl ⟨b1, mix⟩
    refine .inr ⟨by omega, ?_⟩
    by_cases b2 : ls[j] ≤ 0
    · exact .inl ⟨b2, mix⟩
    refine .inr ⟨by omega, ?_⟩
    rw [s_cell d3, wC_some]
    refine ⟨by rw [lineL]; simp; omega, .int ls[j], ?_, _, rfl, by unfold CDiv; omega, ?_⟩
    · rw [s_atr (show up M1 p2 _ p1 = _ from (up_ne n3.symm).trans d2)]; exact g2
    obtain ⟨q1, q2, q3, q4⟩ := p3 (ls[j] % 1000)
    refine ⟨up (up M1 p2 (.lst (ds.map .int ++ [.int (ls[j] % 1000)]))) p1 (.lst ((ls.map .int).set j (.int (ls[j] / 1000)))), ?_, fin (ls[j] % 1000) (ls.set j (ls[j] / 1000)) _ _ _ ⟨by rw [up_ne n1.symm]; exact q1, by rw [up_same, List.map_set], by rw [up_ne n3]; exact q3, fun b hb => by rw [up_ne (fun e => hb (by rw [e]; exact hn1))]; exact q4 b hb⟩ (by rw [List.length_set]; exact hl)⟩
    have := putM_lst q2 (j := j) (by rw [List.length_map]; exact hj3) (.int (ls[j] / 1000))
    exact this
  · rintro δ M1 ⟨ls, ds, X, Y, Z, rfl, ⟨d1, d2, d3, d4⟩, hl, hlen, hr⟩
    refine ⟨trivial, ?_⟩
    simp [s_tyr d3]
    rw [s_cell d3, wC_some]
    have le : Le (up M p2 (.lst (ds.map .int).reverse)) (up M1 p2 (.lst (ds.map .int).reverse)) := fun a c e => by
      by_cases ea : a = p2
      · subst ea; rw [up_same] at e ⊢; exact e
      · rw [up_ne ea] at e ⊢
        rw [d4 a (by rw [e]; simp)]; exact e
    exact out_le le (q _ _ hn2 ⟨ds.reverse, by rw [up_same]; simp, by simp at hlen ⊢; omega⟩ fun b hb => up_ne hb)
theorem p__law_draws (ds : List D) (M : Mp) (Q : VD) (E : XD) (h : sp__law_draws c ds M Q E) : t__law_draws c (endsL Q) (startD N__law_draws ds) M := by
  obtain ⟨ns, rfl, hl, q⟩ := h
  simp [t__law_draws, startD, rSl, cut_take_none]
  rw [List.take_of_length_le (by rw [List.length_map]; omega)]
  refine comp_name (f := fun i : Int => .int (i % 2 ^ 7200)) ns [] trivial ?_ (by rw [lineL]; simp; omega) ?_
  · intro x hx R r
    simp [intM, wipeD]
    exact ⟨⟨by omega, by omega, by decide⟩, Int.pow_pos (by decide), r⟩
  generalize hcs : ns.map (fun i : Int => i % 2 ^ 7200) = cs
  have e1 : (ns.map fun i : Int => D.int (i % 2 ^ 7200)) = cs.map D.int := by rw [← hcs, List.map_map]; rfl
  rw [List.nil_append, e1]
  have hcl : cs.length ≤ 63 := by rw [← hcs, List.length_map]; exact hl
  intro p hp
  have three : ∀ cs : List Int, 0 < cs.length → cs.length ≤ 1000 → ∀ p1, up M p (Cell.lst (cs.map .int)) p1 = none → ∀ p2, up (up M p (Cell.lst (cs.map .int))) p1 (Cell.lst (cs.map .int)) p2 = none →
      p1 ≠ p ∧ p2 ≠ p ∧ p2 ≠ p1 ∧ M p1 = none ∧ M p2 = none ∧ DAt M p p1 p2 cs cs [] (up (up (up M p (Cell.lst (cs.map .int))) p1 (Cell.lst (cs.map .int))) p2 (.lst [])) := by
    intro cs _ _ p1 h1 p2 h2
    have n1 : p1 ≠ p := fun e => by rw [e, up_same] at h1; cases h1
    have n3 : p2 ≠ p1 := fun e => by rw [e, up_same] at h2; cases h2
    rw [up_ne n3] at h2
    have n2 : p2 ≠ p := fun e => by rw [e, up_same] at h2; cases h2
    rw [up_ne n1] at h1
    rw [up_ne n2] at h2
    exact ⟨n1, n2, n3, h1, h2, by rw [up_ne n2.symm, up_ne n1.symm, up_same], by rw [up_ne n3.symm, up_same], by rw [up_same]; rfl, fun b hb => by rw [up_ne (fun e => hb (by rw [e]; exact h2)), up_ne (fun e => hb (by rw [e]; exact h1)), up_ne (fun e => hb (by rw [e]; exact hp))]⟩
  by_cases hz : cs = []
  · subst hz
    refine .inr ⟨rfl, by rw [lineL]; exact Nat.zero_lt_succ _, ?_⟩
    have t := three [0] (by decide) (by decide)
    intro p1 h1 p2 h2
    obtain ⟨n1, n2, n3, m1, m2, h⟩ := t p1 h1 p2 h2
    exact draws_loop ns M Q p p1 p2 [0] hp m1 m2 n1 n2 n3 (by decide) (by decide) q _ h _ rfl
  · refine .inl ⟨by simpa using hz, ?_⟩
    have hpos : 0 < cs.length := List.length_pos_iff.mpr hz
    have t := three cs hpos (by omega)
    intro p1 h1 p2 h2
    obtain ⟨n1, n2, n3, m1, m2, h⟩ := t p1 h1 p2 h2
    exact draws_loop ns M Q p p1 p2 cs hp m1 m2 n1 n2 n3 hpos (by omega) q _ h _ rfl
end Ht
set_option Elab.async false
set_option linter.all false
set_option maxRecDepth 100000
namespace Ht
open PySem PySem.Spec PyProof.Rows L2
variable (c : Cs)
section
variable {M : Mp}
@[simp] theorem i_st (x : Str) : isiM M (.str x) (.tup [.ty "tuple", .ty "list"]) = some false := by show kits "str" ["tuple", "list"] = _; decide +kernel
@[simp] theorem i_it (x : Int) : isiM M (.int x) (.tup [.ty "tuple", .ty "list"]) = some false := by show kits "int" ["tuple", "list"] = _; decide +kernel
@[simp] theorem i_nt : isiM M .non (.tup [.ty "tuple", .ty "list"]) = some false := by show kits "NoneType" ["tuple", "list"] = _; decide +kernel
@[simp] theorem i_tt (x : List D) : isiM M (.tup x) (.tup [.ty "tuple", .ty "list"]) = some true := by show kits "tuple" ["tuple", "list"] = _; decide +kernel
@[simp] theorem i_pt (x : List D) : isiM M (.tupP x) (.tup [.ty "tuple", .ty "list"]) = some true := by show kits "tuple" ["tuple", "list"] = _; decide +kernel
@[simp] theorem i_p1 (x : List D) : isiM M (.tupP x) (.ty "tuple") = some true := by show kits "tuple" ["tuple"] = _; decide +kernel
@[simp] theorem i_t2 (x : List D) : isiM M (.tup x) (.ty "list") = some false := by show kits "tuple" ["list"] = _; decide +kernel
@[simp] theorem i_p2 (x : List D) : isiM M (.tupP x) (.ty "list") = some false := by show kits "tuple" ["list"] = _; decide +kernel
@[simp] theorem i_sb (x : Str) : isiM M (.str x) (.ty "bool") = some false := by show kits "str" ["bool"] = _; decide +kernel
@[simp] theorem i_ib (x : Int) : isiM M (.int x) (.ty "bool") = some false := by show kits "int" ["bool"] = _; decide +kernel
@[simp] theorem i_nb : isiM M .non (.ty "bool") = some false := by show kits "NoneType" ["bool"] = _; decide +kernel
@[simp] theorem i_si (x : Str) : isiM M (.str x) (.ty "int") = some false := by show kits "str" ["int"] = _; decide +kernel
@[simp] theorem i_ni : isiM M .non (.ty "int") = some false := by show kits "NoneType" ["int"] = _; decide +kernel
@[simp] theorem i_is (x : Int) : isiM M (.int x) (.ty "str") = some false := by show kits "int" ["str"] = _; decide +kernel
@[simp] theorem i_ns : isiM M .non (.ty "str") = some false := by show kits "NoneType" ["str"] = _; decide +kernel
theorem has_no_false (n : Nat) : hasM M (.bl false) (.lst (List.replicate n (.bl true))) = some false := by
  have h : (List.replicate n (D.bl true)).all sc = true := by rw [List.all_eq_true]; intro x hx; rw [(List.mem_replicate.mp hx).2]; rfl
  unfold hasM
  simp only [s_seql, h, sc, and_self, if_true]
  congr 1
  unfold inD
  rw [Bool.eq_false_iff]
  intro h
  obtain ⟨x, hx, e⟩ := List.any_eq_true.mp h
  rw [(List.mem_replicate.mp hx).2] at e
  revert e
  decide
end
theorem p__law_same (n : Nat) (ds : List D) (M : Mp) (Q : VD) (E : XD) (h : sp__law_sameN (n + 1) c ds M Q E) : t__law_same c (sp__law_sameN n c) (endsL Q) (startD N__law_same ds) M := by
  obtain ⟨x, y, rfl, e, q⟩ := h
  cases e with
  | non =>
    simp [t__law_same, startD, lineL]
    exact ⟨by decide, out_of q⟩
  | int i =>
    simp [t__law_same, startD, lineL]
    exact out_of q
  | str i =>
    simp [t__law_same, startD, lineL]
    exact out_of q
  | seq hx hy ex ey hl small hh =>
    rename_i xs ys
    have main : ∀ (X Y : D), (X = .tup xs ∨ X = .tupP xs) → (Y = .tup ys ∨ Y = .tupP ys) → (∀ (i : Nat) (a b : D), xs[i]? = some a → ys[i]? = some b → Eqv n a b) → t__law_same c (sp__law_sameN n c) (endsL Q) (startD N__law_same [X, Y]) M := by
      intro X Y hX hY hh
      have last : compD (gName 2) tYes (dCall (sp__law_sameN n c) (dCons (dOp rIx (dVar 0) (dVar 2)) (dCons (dOp rIx (dVar 1) (dVar 2)) dNil))) (fun x => True) [some X, some Y, none]
          (fun acc M2 => hasM M2 (D.bl false) (D.lst acc) = some false ∧ Out Q (D.bl true) M2 ∨ hasM M2 (D.bl false) (D.lst acc) = some true ∧ Out Q (D.bl false) M2) (rangeD 0 ys.length) [] M := by
        unfold rangeD
        refine comp_name (enc := fun i : Nat => D.int (0 + i)) (f := fun _ => .bl true) (List.range ys.length) [] trivial ?_ (by rw [lineL]; simp; omega) ?_
        · intro i hi R r
          have hi := List.mem_range.mp hi
          have hi2 : i < xs.length := by omega
          simp
          have aX : atM M X (.int (i : Int)) = some xs[i] := by
            rcases hX with e | e <;> subst e <;> simp [atI_nat, hi2]
          have aY : atM M Y (.int (i : Int)) = some ys[i] := by
            rcases hY with e | e <;> subst e <;> simp [atI_nat, hi]
          exact ⟨_, aX, _, aY, _, _, rfl, hh i _ _ (List.getElem?_eq_getElem hi2) (List.getElem?_eq_getElem hi), r⟩
        · left
          rw [List.nil_append, List.map_const', List.length_range]
          exact ⟨has_no_false _, out_of q⟩
      rcases hX with e | e <;> rcases hY with e2 | e2 <;> subst e <;> subst e2 <;> simp [t__law_same, startD, lineL, wipeD, hl] <;> exact ⟨by omega, last⟩
    have tp : ∀ (x : D) (xs : List D), isTupD x = true → (∀ M, seqM M x = some xs) → x = .tup xs ∨ x = .tupP xs := by
      intro x xs h1 h2
      cases x with
      | tup l => exact .inl (by have := h2 M; simp at this; rw [this])
      | tupP l => exact .inr (by have := h2 M; simp at this; rw [this])
      | _ => cases h1
    exact main x y (tp x xs hx ex) (tp y ys hy ey) hh
@[simp] theorem s_mulL {M : Mp} {Q : VD} (ds : List D) (k : Int) : rMul false (.lst ds) (.int k) M Q = (-(2 ^ 63) ≤ k ∧ k < 2 ^ 63 ∧ ds.length * k.toNat ≤ sizeLine ∧ Q (.lst (List.replicate k.toNat ds).flatten) M) := by
  simp [rMul]
@[simp] theorem s_intB (b : Bool) : intM (.bl b) = some (if b then 1 else 0) := rfl
theorem p__law_plain_tokens (ds : List D) (M : Mp) (Q : VD) (E : XD) (h : sp__law_plain_tokens c ds M Q E) : t__law_plain_tokens c (endsL Q) (startD N__law_plain_tokens ds) M := by
  obtain ⟨p, rfl, ok, hl, q⟩ := h
  cases p with
  | fact n a =>
    have hn : ¬ n = "same" ∧ ¬ n = "unlike" := by rcases ok with h | h <;> subst h <;> decide
    simp [t__law_plain_tokens, startD, Plain.d, Atom.d, hn, lineL]
    simp [Plain.toks] at hl
    exact ⟨by omega, out_of q⟩
  | two n a b =>
    have hn : (decide (n = "same") || decide (n = "unlike")) = true := by simpa [Plain.ok] using ok
    simp [t__law_plain_tokens, startD, Plain.d, lineL]
    exact .inr ⟨by simpa using hn, out_of q⟩
theorem row_app (w : Str) (p : Plain) : ∀ done : List Plain, done ≠ [] → rowToks w (done ++ [p]) = rowToks w done ++ w :: p.toks
  | [], h => absurd rfl h
  | [a], _ => rfl
  | a :: b :: r, _ => by
    have ih := row_app w p (b :: r) (by simp)
    show a.toks ++ w :: rowToks w (b :: r ++ [p]) = _
    rw [ih]
    show _ = (a.toks ++ w :: rowToks w (b :: r)) ++ _
    simp
theorem row_pre (w : Str) : ∀ a b : List Plain, (rowToks w a).length ≤ (rowToks w (a ++ b)).length
  | [], b => Nat.zero_le _
  | [p], [] => Nat.le_refl _
  | [p], q :: r => by
    show p.toks.length ≤ (p.toks ++ w :: rowToks w (q :: r)).length
    rw [List.length_append]; omega
  | p :: q :: a, b => by
    have ih := row_pre w (q :: a) b
    show (p.toks ++ w :: rowToks w (q :: a)).length ≤ (p.toks ++ w :: rowToks w (q :: a ++ b)).length
    rw [List.length_append, List.length_append, List.length_cons, List.length_cons]
    omega
theorem toks_pos (p : Plain) : 0 < p.toks.length := by cases p <;> simp [Plain.toks]
theorem row_ne (w : Str) (ps : List Plain) (h : ps ≠ []) : rowToks w ps ≠ [] := by
  intro e
  cases ps with
  | nil => exact h rfl
  | cons p r =>
    have := row_pre w [p] r
    have h2 := toks_pos p
    have h3 : (rowToks w [p]).length = p.toks.length := rfl
    simp only [List.singleton_append, e, List.length_nil] at this
    omega
theorem p__law_joined_tokens (ds : List D) (M : Mp) (Q : VD) (E : XD) (h : sp__law_joined_tokens c ds M Q E) : t__law_joined_tokens c (endsL Q) (startD N__law_joined_tokens ds) M := by
  obtain ⟨ps, w, rfl, ok, hl, q⟩ := h
  simp [t__law_joined_tokens, startD]
  refine for_rule (enc := Plain.d) (fun r δ M' => ∃ done X, δ = [some (.tup (ps.map Plain.d)), some (.str w), some (.lst ((rowToks w done).map .str)), X] ∧ M' = M ∧ ps = done ++ r) ?_ ?_ ps _ _ ⟨[], none, rfl, rfl, rfl⟩
  · rintro p r δ M' ⟨done, X, rfl, rfl, hd⟩
    refine ⟨trivial, fun nx hx => ?_⟩
    have okp := ok p (by rw [hd]; simp)
    have l1 := row_pre w (done ++ [p]) r
    rw [List.append_assoc, List.singleton_append, ← hd] at l1
    have fin : nx [some (.tup (ps.map Plain.d)), some (.str w), some (.lst ((rowToks w (done ++ [p])).map .str)), some p.d] M' := hx _ _ ⟨done ++ [p], _, rfl, rfl, by rw [hd]; simp⟩
    by_cases h : done = []
    · subst h
      simp [rowToks]
      have e : rowToks w ([] ++ [p]) = p.toks := rfl
      rw [e] at fin l1
      refine ⟨by rw [lineL]; omega, p, rfl, okp, by omega, ?_⟩
      simp
      exact ⟨by rw [lineL]; omega, fin⟩
    · have hne := row_ne w done h
      rw [row_app w p done h] at fin l1
      rw [List.length_append, List.length_cons] at l1
      have hpos : 0 < (rowToks w done).length := List.length_pos_iff.mpr hne
      simp [hne, hpos]
      refine ⟨by rw [lineL]; omega, by rw [lineL]; omega, by rw [lineL]; omega, p, rfl, okp, by omega, ?_⟩
      simp
      exact ⟨by rw [lineL]; omega, by simpa using fin⟩
  · rintro δ M' ⟨done, X, rfl, rfl, hd⟩
    rw [List.append_nil] at hd
    subst hd
    refine ⟨trivial, ?_⟩
    simp
    exact out_of q
theorem p__law_condition_tokens (ds : List D) (M : Mp) (Q : VD) (E : XD) (h : sp__law_condition_tokens c ds M Q E) : t__law_condition_tokens c (endsL Q) (startD N__law_condition_tokens ds) M := by
  obtain ⟨k, rfl, ok, hl, q⟩ := h
  cases k with
  | one p =>
    have okp : p.ok := ok
    have e : t__law_condition_tokens c (endsL Q) (startD N__law_condition_tokens [p.d]) M = sp__law_plain_tokens c [p.d] M (Out Q) X0 := by
      cases p with
      | fact n a =>
        have hn : ¬ n = "either" := by rcases okp with h | h <;> subst h <;> decide
        simp [t__law_condition_tokens, startD, Plain.d, hn]
      | two n a b =>
        have hn : ¬ n = "either" := by rcases okp with h | h <;> subst h <;> decide
        simp [t__law_condition_tokens, startD, Plain.d, hn]
    show t__law_condition_tokens c (endsL Q) (startD N__law_condition_tokens [p.d]) M
    rw [e]
    exact ⟨p, rfl, okp, hl, out_of q⟩
  | either ps =>
    simp [t__law_condition_tokens, startD, Cond.d]
    have hl : (rowToks "or" ps).length + 1 ≤ 100000 := hl
    refine ⟨by rw [lineL]; omega, ps, _, rfl, ok, by omega, ?_⟩
    simp
    exact ⟨by rw [lineL]; omega, out_of q⟩
theorem p__law_text (ds : List D) (M : Mp) (Q : VD) (E : XD) (h : sp__law_text c ds M Q E) : t__law_text c (endsL Q) (startD N__law_text ds) M := by
  obtain ⟨ls, rfl, hl, hw, hs, q⟩ := h
  simp [t__law_text, startD, wipeD]
  refine comp_name (f := fun l => .str (joinSp l)) ls [] trivial ?_ (by rw [lineL]; simp; omega) ?_
  · intro l hm R r
    have := hw l hm
    have w := wt_sum l
    simp [rowD]
    refine ⟨l, rfl, ?_, r⟩
    rw [show (" " : Str).length = 1 from rfl]; omega
  · refine ⟨ls.map joinSp, by simp, ?_, out_of q⟩
    have h1 : ∀ ls : List (List Str), ((ls.map joinSp).map (·.length)).sum ≤ (ls.map wt).sum := by
      intro ls
      induction ls with
      | nil => exact Nat.le_refl _
      | cons l r ih =>
        have := wt_join l
        simp at ih ⊢; omega
    have := h1 ls
    rw [show ("\n" : Str).length = 1 from rfl, List.length_map]
    simp at this ⊢
    omega
theorem mem_addAll (x : Str) : ∀ m l : List Str, x ∈ addAll l m ↔ x ∈ l ∨ x ∈ m
  | [], l => by simp [addAll]
  | y :: r, l => by
    show x ∈ addAll (if y ∈ l then l else l ++ [y]) r ↔ _
    rw [mem_addAll x r]
    split <;> rename_i h
    · constructor
      · rintro (a | a)
        · exact .inl a
        · exact .inr (List.mem_cons_of_mem _ a)
      · rintro (a | a)
        · exact .inl a
        · rcases List.mem_cons.mp a with e | e
          · subst e; exact .inl h
          · exact .inr e
    · simp [or_assoc]
theorem look_app {α : Type} (x : Str) : ∀ a b : List (Str × α), (a ++ b).lookup x = (a.lookup x).or (b.lookup x)
  | [], b => by simp
  | (y, v) :: r, b => by
    rw [List.cons_append, List.lookup_cons, List.lookup_cons, look_app x r b]
    cases x == y <;> simp
theorem look_one {α : Type} (x y : Str) (v : α) : [(y, v)].lookup x = if x = y then some v else none := by
  rw [List.lookup_cons]
  by_cases e : x = y
  · rw [if_pos e, beq_iff_eq.mpr e]
  · rw [if_neg e, show (x == y) = false by simpa using e]; rfl
theorem above_keep (x : Str) (l : List Str) : ∀ (r : List (Str × Option Str)) (t : Told), t.lookup x = some l → (kAbove t r).lookup x = some l
  | [], t, h => h
  | (w, a) :: r, t, h => by
    show (kAbove (if (t.lookup w).isSome then t else t ++ [(w, addAll [w] (above t a))]) r).lookup x = _
    refine above_keep x l r _ ?_
    split
    · exact h
    · rw [look_app, h]; rfl
theorem above_facts : ∀ (r : List (Str × Option Str)) (t : Told) (ahead : List Str) (i : Nat), kindFault ahead i r = none → (∀ x, x ∈ ahead ↔ (t.lookup x).isSome = true) →
    ∀ k ∈ r, ∃ l, (kAbove t r).lookup k.1 = some l ∧ k.1 ∈ l ∧ ∀ b, k.2 = some b → ∃ l', (kAbove t r).lookup b = some l' ∧ ∀ x ∈ l', x ∈ l
  | [], _, _, _, _, _ => fun k h => by cases h
  | (w, a) :: r, t, ahead, i, h, ht => by
    rw [kindFault] at h
    split at h
    · cases h
    · rename_i h0
      rw [not_or] at h0
      have hw : (t.lookup w).isSome = false := by
        cases e : (t.lookup w).isSome with
        | false => rfl
        | true => exact absurd ((ht w).mpr e) h0.1
      have e : kAbove t ((w, a) :: r) = kAbove (t ++ [(w, addAll [w] (above t a))]) r := by
        show kAbove (if (t.lookup w).isSome then t else t ++ [(w, addAll [w] (above t a))]) r = _
        rw [if_neg (by rw [hw]; exact Bool.false_ne_true)]
      have hn : t.lookup w = none := by simpa using hw
      have self : (t ++ [(w, addAll [w] (above t a))]).lookup w = some (addAll [w] (above t a)) := by rw [look_app, hn, look_one, if_pos rfl]; rfl
      rw [e]
      intro k hk
      rcases List.mem_cons.mp hk with e1 | e1
      · subst e1
        refine ⟨_, above_keep _ _ r _ self, by rw [mem_addAll]; simp, fun b hb => ?_⟩
        have hb : a = some b := hb
        subst hb
        have hb2 : b ∈ ahead := by
          apply Classical.byContradiction
          intro q
          exact h0.2 ⟨b, rfl, q⟩
        obtain ⟨l', hl'⟩ := Option.isSome_iff_exists.mp ((ht b).mp hb2)
        refine ⟨l', above_keep _ _ r _ (by rw [look_app, hl']; rfl), fun x hx => ?_⟩
        rw [mem_addAll, above_some, hl']
        exact .inr hx
      · refine above_facts r _ (ahead ++ [w]) (i + 1) h (fun x => ?_) k e1
        rw [look_app, look_one, List.mem_append, ht x, List.mem_singleton]
        cases t.lookup x with
        | none => by_cases q : x = w <;> simp [q]
        | some v => simp
theorem kinds_nodup : ∀ (r : List (Str × Option Str)) (ahead : List Str) (i : Nat), kindFault ahead i r = none → (r.map (·.1)).Nodup ∧ (∀ k ∈ r, k.1 ∉ ahead) ∧ ∀ k ∈ r, ∀ b, k.2 = some b → b ∈ ahead ∨ b ∈ r.map (·.1)
  | [], _, _, _ => ⟨by simp, by simp, by simp⟩
  | (w, a) :: r, ahead, i, h => by
    rw [kindFault] at h
    split at h
    · cases h
    · rename_i h0
      rw [not_or] at h0
      obtain ⟨h1, h2, h3⟩ := kinds_nodup r _ _ h
      refine ⟨?_, ?_, ?_⟩
      · rw [List.map_cons, List.nodup_cons]
        refine ⟨fun hm => ?_, h1⟩
        obtain ⟨q, hq, e⟩ := List.mem_map.mp hm
        exact h2 q hq (by simp [e])
      · intro q hq
        rcases List.mem_cons.mp hq with e | e
        · subst e; exact h0.1
        · exact fun z => h2 q e (by simp [z])
      · intro q hq b hb
        rcases List.mem_cons.mp hq with e | e
        · subst e
          apply Classical.byContradiction
          intro z
          rw [not_or] at z
          exact h0.2 ⟨b, hb, z.1⟩
        · rcases h3 q e b hb with z | z
          · rcases List.mem_append.mp z with z | z
            · exact .inl z
            · right; rw [List.mem_singleton.mp z]; simp
          · right; rw [List.map_cons]; exact List.mem_cons_of_mem _ z
theorem pairs_kind (rs : List (Str × Option Str)) : pairsD (rs.map kindD) = some (rs.map fun p => ((.inr p.1 : Key), optD p.2)) := by
  induction rs with
  | nil => rfl
  | cons r rs ih =>
    rw [List.map_cons, List.map_cons]
    show (match keyD (.str r.1), pairsD (rs.map kindD) with | some k, some ps => some ((k, optD r.2) :: ps) | _, _ => none) = _
    rw [ih]; rfl
theorem look_key {α : Type} {l : List (Str × α)} {w : Str} (h : w ∈ l.map (·.1)) : ∃ a, l.lookup w = some a := by
  induction l with
  | nil => cases h
  | cons p r ih =>
    obtain ⟨x, v⟩ := p
    rw [List.lookup_cons]
    cases e : w == x with
    | true => exact ⟨v, rfl⟩
    | false =>
      rw [List.map_cons] at h
      rcases List.mem_cons.mp h with q | q
      · exact absurd q (by simpa using e)
      · exact ih q
theorem has_optS (M : Mp) (y p : Str) : hasM M (.str y) (.lst [.str p, .non]) = some (decide (y = p)) := by
  show hasM M (.str y) (.tup [.str p, .non]) = _
  rw [s_hasx y _ rfl, inD_cons]
  have : inD (.str y) [.non] = false := rfl
  rw [this, Bool.or_false]
theorem has_optN (M : Mp) (p : Str) : hasM M .non (.lst [.str p, .non]) = some true := by
  have h : [D.str p, D.non].all sc = true := rfl
  unfold hasM
  simp only [s_seql, h, sc, and_self, if_true]
  congr 1
theorem p__law_is_beneath (ds : List D) (M : Mp) (Q : VD) (E : XD) (h : sp__law_is_beneath c ds M Q E) : t__law_is_beneath c (endsL Q) (startD N__law_is_beneath ds) M := by
  obtain ⟨a, kd, ks, k, p, rfl, ⟨b, rfl, hb, hM, hl, h0, hf⟩, hk, q⟩ := h
  have facts := above_facts ks [] [] 0 hf (by simp)
  obtain ⟨nd, _, par⟩ := kinds_nodup ks [] 0 hf
  have m1 := merge_pairs optD ks [] (by simpa using nd)
  simp only [List.nil_append, List.map_nil] at m1
  have d1 : dictM M (.ref b) = some (ks.map fun p => ((.inr p.1 : Key), optD p.2)) := by
    simp [dictM, s_lstr hM, pairs_kind]
  simp [t__law_is_beneath, startD, s_lenr hM]
  refine ⟨by omega, ?_⟩
  unfold rangeD
  refine for_rule (enc := fun i : Nat => .int (0 + i)) (fun r δ M' => ∃ (h : Option Str) (X : Option D), δ = [some (.ref b), some (.str k), some (.str p), some (optD h), X] ∧ M' = M ∧ ∀ y, h = some y → y ∈ ks.map (·.1) ∧ ∀ l l', (kAbove [] ks).lookup k = some l → (kAbove [] ks).lookup y = some l' → ∀ x ∈ l', x ∈ l) ?_ ?_ (List.range ks.length) _ _ ⟨some k, none, rfl, rfl, fun y e => by cases e; exact ⟨hk, fun l l' h1 h2 => by rw [h1] at h2; cases h2; exact fun _ h => h⟩⟩
  · rintro i r δ M' ⟨h, X, rfl, rfl, hh⟩
    refine ⟨trivial, fun nx hx => ?_⟩
    cases h with
    | none =>
      simp [optD, has_optN, lineL]
      exact hx _ _ ⟨none, _, rfl, rfl, hh⟩
    | some y =>
      simp [optD, has_optS, lineL]
      by_cases e : y = p
      · exact .inr ⟨e, hx _ _ ⟨some y, _, rfl, rfl, hh⟩⟩
      · left
        refine ⟨e, ?_⟩
        obtain ⟨hy, hsub⟩ := hh y rfl
        obtain ⟨z, hz⟩ := look_key hy
        have hv := val_pairs optD ks y
        rw [hz] at hv
        rw [d1]
        simp
        rw [m1]
        refine ⟨_, hv, ?_⟩
        refine hx _ _ ⟨z, _, rfl, rfl, fun y' e' => ?_⟩
        subst e'
        have mem := lookup_mem hz
        refine ⟨(par _ mem y' rfl).resolve_left (by simp), fun l l' h1 h2 x hx => ?_⟩
        obtain ⟨l1, g1, g2, g3⟩ := facts _ mem
        obtain ⟨l2, g4, g5⟩ := g3 y' rfl
        rw [g4] at h2; cases h2
        exact hsub l l1 h1 g1 x (g5 x hx)
  · rintro δ M' ⟨h, X, rfl, rfl, hh⟩
    refine ⟨trivial, ?_⟩
    cases h with
    | none =>
      simp [optD]
      refine ⟨rfl, ?_⟩
      have : eqS .non (.str p) = false := by simp [eqS, sv]
      rw [this]
      exact out_of (q false fun e => by cases e)
    | some y =>
      simp [optD]
      refine out_of (q _ fun e => ?_)
      have e := of_decide_eq_true e
      subst e
      obtain ⟨hy, hsub⟩ := hh y rfl
      obtain ⟨z, hz⟩ := look_key hy
      obtain ⟨l1, g1, g2, g3⟩ := facts _ (lookup_mem hz)
      obtain ⟨zk, hzk⟩ := look_key hk
      obtain ⟨l, f1, f2, f3⟩ := facts _ (lookup_mem hzk)
      exact ⟨l, f1, hsub l l1 f1 g1 y g2⟩
end Ht
set_option Elab.async false
set_option linter.all false
set_option maxRecDepth 100000
namespace Ht
open PySem PySem.Spec PyProof.Rows L2
variable (c : Cs)
structure St (M : Mp) (a : Addr) (M' : Mp) : Prop where
  dr : Dr M' a
  keep : ∀ b, b ≠ a → M b ≠ none → M' b = M b
section
variable {M M' M2 : Mp} {a p : Addr}
theorem St.refl (h : Dr M a) : St M a M := ⟨h, fun _ _ _ => rfl⟩
theorem St.next (s : St M a M') (h : Dr.next M' a M2) : St M a M2 := ⟨h.1, fun b hb hn => (h.2 b hb).trans (s.keep b hb hn)⟩
theorem dr_ne (h : Dr M a) (hp : M p = none) : p ≠ a := by
  intro e
  obtain ⟨ns, h, _⟩ := h
  rw [e, h] at hp
  cases hp
theorem St.fresh (s : St M a M') (hp : M' p = none) : M p = none := by
  have ne := dr_ne s.dr hp
  cases e : M p with
  | none => rfl
  | some x => rw [s.keep p ne (by rw [e]; simp), e] at hp; cases hp
theorem St.put (s : St M a M') (ne : p ≠ a) (hp : M p = none) (x : Cell) : St M a (up M' p x) :=
  ⟨by obtain ⟨ns, h, hl⟩ := s.dr; exact ⟨ns, by rw [up_ne ne.symm]; exact h, hl⟩, fun b hb hn => by rw [up_ne (fun e => hn (by rw [e]; exact hp))]; exact s.keep b hb hn⟩
theorem St.new (s : St M a M') (hp : M' p = none) (x : Cell) : St M a (up M' p x) := s.put (dr_ne s.dr hp) (s.fresh hp) x
theorem St.trans (s : St M a M') (s2 : St M' a M2) : St M a M2 := ⟨s2.dr, fun b hb hn => (s2.keep b hb (by rw [s.keep b hb hn]; exact hn)).trans (s.keep b hb hn)⟩
theorem next_St (h : Dr.next M a M') : St M a M' := ⟨h.1, fun b hb _ => h.2 b hb⟩
theorem St.out {Q : VD} {d : D} (s : St M a M') (ha : Dr M a) (q : ∀ M0, Dr.next M a M0 → Q d M0) : Out Q d M' := by
  obtain ⟨ns, h, hl⟩ := s.dr
  refine out_le (M := up M a (.lst (ns.map .int))) (fun b x e => ?_) (q _ ⟨⟨ns, up_same, hl⟩, fun b hb => up_ne hb⟩)
  by_cases hb : b = a
  · subst hb; rw [up_same] at e; rw [h]; exact e
  · rw [up_ne hb] at e
    rw [s.keep b hb (by rw [e]; simp)]; exact e
theorem KsAt.st {kd : D} {ks : List (Str × Option Str)} (h : KsAt M a kd ks) (s : St M a M') : KsAt M' a kd ks := by
  obtain ⟨b, e, hb, hM, r⟩ := h
  exact ⟨b, e, hb, by rw [s.keep b hb (by rw [hM]; simp)]; exact hM, r⟩
theorem RsAt.st {kd : D} {ks : List (Str × List Str)} (h : RsAt M a kd ks) (s : St M a M') : RsAt M' a kd ks := by
  obtain ⟨b, e, hb, hM, r⟩ := h
  exact ⟨b, e, hb, by rw [s.keep b hb (by rw [hM]; simp)]; exact hM, r⟩
theorem KsAt.row {kd : D} {ks : List (Str × Option Str)} (h : KsAt M a kd ks) : RowAt M a kd (ks.map kindD) := by
  obtain ⟨b, rfl, hb, hM, h1, h2, h3⟩ := h
  exact ⟨fun M' hm => s_seqr (by rw [hm b hb]; exact hM), by rw [List.length_map]; exact h2, by rw [List.length_map]; omega⟩
theorem RsAt.row {kd : D} {ks : List (Str × List Str)} (h : RsAt M a kd ks) : RowAt M a kd (ks.map relD) := by
  obtain ⟨b, rfl, hb, hM, h1, h2, h3⟩ := h
  exact ⟨fun M' hm => s_seqr (by rw [hm b hb]; exact hM), by rw [List.length_map]; omega, by rw [List.length_map]; omega⟩
theorem row_lst {xs : List D} (h0 : 0 < xs.length) (h1 : xs.length ≤ 1000) : RowAt M a (.lst xs) xs := ⟨fun _ _ => rfl, h0, h1⟩
theorem row_tupP {xs : List D} (h0 : 0 < xs.length) (h1 : xs.length ≤ 1000) : RowAt M a (.tupP xs) xs := ⟨fun _ _ => rfl, h0, h1⟩
end
theorem mem_nodup_look {α : Type} : ∀ {l : List (Str × α)} {w : Str} {v : α}, (l.map (·.1)).Nodup → (w, v) ∈ l → l.lookup w = some v
  | [], _, _, _, h => by cases h
  | (x, u) :: r, w, v, hn, h => by
    rw [List.map_cons, List.nodup_cons] at hn
    rw [List.lookup_cons]
    rcases List.mem_cons.mp h with e | e
    · cases e; rw [beq_self_eq_true]
    · have : w ≠ x := fun q => hn.1 (by rw [← q]; exact List.mem_map.mpr ⟨_, e, rfl⟩)
      rw [show (w == x) = false by simpa using this]
      exact mem_nodup_look hn.2 e
theorem p__law_drawn_atom (ds : List D) (M : Mp) (Q : VD) (E : XD) (h : sp__law_drawn_atom c ds M Q E) : t__law_drawn_atom c (endsL Q) (startD N__law_drawn_atom ds) M := by
  obtain ⟨a, kd, rd, ks, rs, vs, rfl, hd, hk, hr, hv, q⟩ := h
  simp [t__law_drawn_atom, startD]
  refine ⟨a, rd, rs.map relD, rfl, hd, hr.row, fun M1 x hx hn => ?_⟩
  obtain ⟨⟨w, ps⟩, hm, rfl⟩ := List.mem_map.mp hx
  have s1 := next_St hn
  obtain ⟨b2, hrd, hb2, hM2, r1, r2, r3, r4, w1, r5⟩ := hr
  have hps : ps.length ≤ 3 := r3 _ hm
  have hlk : rs.lookup w = some ps := mem_nodup_look r4 hm
  have hvl := hv.1
  simp [relD, lineL]
  intro p hp
  refine for_rule (enc := D.str) (fun r δ M' => ∃ (done words : List Str) (X Y Z : Option D), δ = [some (.ref a), some kd, some rd, some (.tupP (vs.map pairD)), some (.str w), some (.tup (ps.map .str)), some (.ref p), X, Y, Z] ∧ St M a M' ∧ M' p = some (.lst (words.map .str)) ∧ ps = done ++ r ∧ words.length = done.length ∧ (∀ q ∈ words.zip done, fits (kAbove [] ks) vs q.1 q.2) ∧ ∀ w ∈ words, w ∈ vs.map (·.1)) ?_ ?_ ps _ _ ⟨[], [], none, none, none, rfl, s1.new hp _, up_same, rfl, rfl, by simp, by simp⟩
  · rintro pl r δ M' ⟨done, words, X, Y, Z, rfl, st, hpp, hps', hwl, hfit, hin⟩
    refine ⟨trivial, fun nx hx => ?_⟩
    simp [wipeD]
    have hpn : M p = none := s1.fresh hp
    have hpa : p ≠ a := dr_ne s1.dr hp
    refine comp_inv (enc := pairD) (fun r' acc M2 => ∃ sel : List (Str × Str), M2 = M' ∧ acc = sel.map (fun s => D.str s.1) ∧ (∀ s ∈ sel, s ∈ vs ∧ ∃ l, (kAbove [] ks).lookup s.2 = some l ∧ pl ∈ l) ∧ sel.length + r'.length ≤ 4 ∧ ∀ s ∈ r', s ∈ vs) ?_ ?_ vs _ _ ⟨[], rfl, rfl, by simp, by simpa using hvl, fun s h => h⟩
    · rintro s r' acc M2 ⟨sel, rfl, rfl, h1, h2, h3⟩
      refine ⟨trivial, fun nx2 hx2 => ?_⟩
      rw [List.length_cons] at h2
      have hs := h3 s List.mem_cons_self
      simp [pairD]
      refine ⟨a, kd, ks, s.2, pl, rfl, hk.st st, hv.2.2 s hs, fun b hb => ?_⟩
      cases b with
      | false =>
        simp
        exact hx2 _ _ ⟨sel, rfl, rfl, h1, by omega, fun s hs => h3 s (List.mem_cons_of_mem _ hs)⟩
      | true =>
        simp
        refine ⟨by rw [lineL]; omega, hx2 _ _ ⟨sel ++ [s], rfl, by simp, fun s' hs' => ?_, by simp; omega, fun s hs => h3 s (List.mem_cons_of_mem _ hs)⟩⟩
        rcases List.mem_append.mp hs' with e | e
        · exact h1 s' e
        · rw [List.mem_singleton.mp e]; exact ⟨hs, hb rfl⟩
    · rintro acc M2 ⟨sel, rfl, rfl, h1, h2, h3⟩
      refine ⟨trivial, ?_⟩
      simp
      by_cases hz : sel = []
      · subst hz
        right
        obtain ⟨st2, keep2⟩ := st
        refine ⟨rfl, relD (w1, []), ?_, .str w1, rfl, ?_⟩
        · rw [hrd, s_atr (ds := rs.map relD) (by rw [keep2 b2 hb2 (by rw [hM2]; simp)]; exact hM2)]
          simp [r5]
        · refine ⟨by rw [lineL]; omega, St.out ⟨st2, keep2⟩ hd fun M0 hM0 => q M0 ⟨w1, []⟩ ⟨⟨[], mem_nodup_look r4 (List.mem_of_getElem? r5), rfl, by simp⟩, by simp, by simp⟩ hM0⟩
      · left
        refine ⟨hz, s_tyr hpp, a, _, _, rfl, st.dr, row_lst (by simpa using List.length_pos_iff.mpr hz) (by simp; omega), fun M3 x hx3 hn3 => ?_⟩
        obtain ⟨s, hs, rfl⟩ := List.mem_map.mp hx3
        obtain ⟨hsv, l, hl1, hl2⟩ := h1 s hs
        have st3 := st.next hn3
        have hp3 : M3 p = some (.lst (words.map .str)) := by rw [hn3.2 p hpa]; exact hpp
        rw [s_cell hp3, wC_some]
        have hle : words.length ≤ ps.length := by rw [hps', hwl, List.length_append]; omega
        refine ⟨by rw [lineL, List.length_map]; omega, hx _ _ ⟨done ++ [pl], words ++ [s.1], _, _, _, rfl, st3.put hpa hpn _, by rw [up_same]; simp, by rw [hps']; simp, by simp [hwl], fun qq hq => ?_, fun w hw => ?_⟩⟩
        · rw [List.zip_append hwl] at hq
          rcases List.mem_append.mp hq with e | e
          · exact hfit qq e
          · rw [List.zip_cons_cons, List.zip_nil_left, List.mem_singleton] at e
            subst e
            exact ⟨s.2, l, mem_nodup_look hv.2.1 hsv, hl1, hl2⟩
        · rcases List.mem_append.mp hw with e | e
          · exact hin w e
          · rw [List.mem_singleton.mp e]; exact List.mem_map.mpr ⟨s, hsv, rfl⟩
  · rintro δ M' ⟨done, words, X, Y, Z, rfl, st, hpp, hps', hwl, hfit, hin⟩
    refine ⟨trivial, ?_⟩
    rw [List.append_nil] at hps'
    subst hps'
    simp [s_lstr hpp, lineL]
    exact st.out hd fun M0 hM0 => q M0 ⟨w, words⟩ ⟨⟨ps, hlk, hwl.symm, hfit⟩, by show words.length ≤ 3; omega, hin⟩ hM0
theorem p__law_drawn_plain (ds : List D) (M : Mp) (Q : VD) (E : XD) (h : sp__law_drawn_plain c ds M Q E) : t__law_drawn_plain c (endsL Q) (startD N__law_drawn_plain ds) M := by
  obtain ⟨a, kd, rd, ks, rs, vs, rfl, hd, hk, hr, hv, q⟩ := h
  have fact : ∀ M', St M a M' → sp__law_pick c [D.ref a, D.lst [D.str "yes", D.str "no"]] M' (fun x M1 => sp__law_drawn_atom c [D.ref a, kd, rd, D.tupP (List.map pairD vs)] M1 (fun x_1 M1 => 2 ≤ sizeLine ∧ Out Q (D.tup [x, x_1]) M1) X0) X0 := by
    intro M' st
    refine ⟨a, _, _, rfl, st.dr, row_lst (by decide) (by decide), fun M1 x hx hn => ?_⟩
    have st1 := st.next hn
    refine ⟨a, kd, rd, ks, rs, vs, rfl, st1.dr, hk.st st1, hr.st st1, hv, fun M2 y hy hn2 => ?_⟩
    have st2 := st1.next hn2
    refine ⟨by rw [lineL]; omega, ?_⟩
    have : ∃ n : Str, x = .str n ∧ (n = "yes" ∨ n = "no") := by
      rcases List.mem_cons.mp hx with e | e
      · exact ⟨_, e, .inl rfl⟩
      · exact ⟨_, List.mem_singleton.mp e, .inr rfl⟩
    obtain ⟨n, rfl, hn'⟩ := this
    exact st2.out hd fun M0 h0 => q M0 (.fact n y) ⟨hn', hy⟩ h0
  simp [t__law_drawn_plain, startD]
  by_cases hz : vs = []
  · exact .inl ⟨hz, by rw [lineL]; omega, fact M (St.refl hd)⟩
  · have hpos := List.length_pos_iff.mpr hz
    refine .inr ⟨hpos, a, 7, rfl, by decide, hd, fun M1 i h1 h2 hn => ?_⟩
    have st := next_St hn
    refine ⟨rfl, ?_⟩
    by_cases hi : i = 1
    · refine .inr ⟨by simp [hi], by rw [lineL]; omega, a, _, _, rfl, st.dr, row_lst (by decide) (by decide), fun M2 x hx hn2 => ?_⟩
      have st2 := st.next hn2
      obtain ⟨v, r, rfl⟩ := List.exists_cons_of_ne_nil hz
      refine ⟨pairD v, ⟨v.1, v.2, rfl, rfl⟩, .str v.1, rfl, a, _, _, rfl, st2.dr, row_tupP (by simp) (by have := hv.1; simp at this ⊢; omega), fun M3 y hy hn3 => ?_⟩
      have st3 := st2.next hn3
      obtain ⟨u, hu, rfl⟩ := List.mem_map.mp hy
      refine ⟨.str u.1, rfl, by rw [lineL]; omega, ?_⟩
      have : ∃ n : Str, x = .str n ∧ (n = "same" ∨ n = "unlike") := by
        rcases List.mem_cons.mp hx with e | e
        · exact ⟨_, e, .inl rfl⟩
        · exact ⟨_, List.mem_singleton.mp e, .inr rfl⟩
      obtain ⟨n, rfl, hn'⟩ := this
      exact st3.out hd fun M0 h0 => q M0 (.two n v.1 u.1) ⟨hn', by simp, List.mem_map.mpr ⟨u, hu, rfl⟩⟩ h0
    · exact .inl ⟨by simp [hi], by rw [lineL]; omega, fact M1 st⟩
end Ht
set_option Elab.async false
set_option linter.all false
set_option maxRecDepth 100000
namespace Ht
open PySem PySem.Spec PyProof.Rows L2
variable (c : Cs)
theorem s_addRL {M : Mp} {Q : VD} {p : Addr} {xs ys : List D} (h : M p = some (.lst xs)) : rAdd true (.ref p) (.lst ys) M Q = (xs.length + ys.length ≤ sizeLine ∧ ∀ p', M p' = none → Q (.ref p') (up M p' (.lst (xs ++ ys)))) := by
  simp [rAdd, lstM, h]
theorem pre_ln {ls : List (List Str)} {a b : List (List Str)} {n : Nat} (e : ls = a ++ b) (h : ls.length ≤ n) : a.length ≤ n := by rw [e, List.length_append] at h; omega
theorem p__law_domain_lines (ds : List D) (M : Mp) (Q : VD) (E : XD) (h : sp__law_domain_lines c ds M Q E) : t__law_domain_lines c (endsL Q) (startD N__law_domain_lines ds) M := by
  obtain ⟨x, rfl, sm, q⟩ := h
  have hks := sm.ks
  have hrs := sm.rs
  have hps := sm.ps
  have hn := sm.n
  simp [t__law_domain_lines, startD, Dom.d, wipeD]
  generalize hdm : D.tup [.tup (x.ks.map kindD), .tupP (x.rs.map relD), .tup (x.ds.map Deed.d)] = dm
  refine comp_name (f := fun k => rowD (kindLine k)) x.ks [] trivial ?_ (by rw [lineL]; simp; omega) ?_
  · rintro ⟨w, a⟩ hk R r
    cases a with
    | none =>
      simp [kindD, optD, wipeD, lineL]
      exact r
    | some a =>
      simp [kindD, optD, wipeD, lineL]
      exact r
  intro p hp
  refine comp_name (f := fun k => rowD (relLine k)) x.rs [] trivial ?_ (by rw [lineL]; simp; omega) ?_
  · rintro ⟨w, ps⟩ hr R r
    have := hps _ hr
    dsimp only at this
    simp [relD, lineL]
    exact ⟨by omega, r⟩
  rw [s_addRL up_same]
  refine ⟨by rw [lineL]; simp; omega, fun p1 hp1 => ?_⟩
  have hp1' : M p1 = none := by
    by_cases e : p1 = p
    · rw [e, up_same] at hp1; cases hp1
    · rw [up_ne e] at hp1; exact hp1
  have le1 : Le M (up (up M p (Cell.lst ([] ++ x.ks.map fun k => rowD (kindLine k)))) p1 (Cell.lst (([] ++ x.ks.map fun k => rowD (kindLine k)) ++ ([] ++ x.rs.map fun k => rowD (relLine k))))) := Le.trans (Le.up hp) (Le.up hp1)
  refine for_rule (enc := Deed.d) (fun r δ M' => ∃ done q1 X2 X3 X4 X5 X6 X7 X8 X9 X10 X11 X12, δ = [some dm, some (.ref q1), X2, X3, X4, X5, X6, X7, X8, X9, X10, X11, X12, none] ∧ M q1 = none ∧ Le M M' ∧ M' q1 = some (.lst ((x.ks.map kindLine ++ x.rs.map relLine ++ done.flatMap Deed.lines).map rowD)) ∧ x.ds = done ++ r) ?_ ?_ x.ds _ _ ⟨[], p1, none, none, none, none, none, none, none, none, none, none, none, rfl, hp1', le1, by rw [up_same]; simp; rfl, rfl⟩
  · rintro d r δ M' ⟨done, q1, X2, X3, X4, X5, X6, X7, X8, X9, X10, X11, X12, rfl, hq1, le, hM, hd⟩
    refine ⟨trivial, fun nx hx => ?_⟩
    have hdm : d ∈ x.ds := by rw [hd]; simp
    have sd := sm.d d hdm
    have hln := sd.ln
    have hln2 : ∀ l ∈ d.lines, l.length ≤ 100000 := fun l hl => Nat.le_trans (wt_len l) (hln l hl)
    have hall : x.lines = (x.ks.map kindLine ++ x.rs.map relLine ++ done.flatMap Deed.lines) ++ (d.lines ++ r.flatMap Deed.lines) := by simp [Dom.lines, hd]
    generalize hA : x.ks.map kindLine ++ x.rs.map relLine ++ done.flatMap Deed.lines = A at hM hall
    have hAn : A.length + d.lines.length ≤ 10000 := by
      have := congrArg List.length hall
      rw [List.length_append, List.length_append] at this
      omega
    have hdl : d.lines.length = 1 + d.cs.length + d.es.length + 1 := by simp [Deed.lines]; omega
    have hhead : d.head.length ≤ 100000 := hln2 _ (by simp [Deed.lines])
    simp [Deed.d, lineL]
    refine for_rule (enc := pairD) (fun r δ M'' => ∃ done2 X8, M'' = M' ∧ δ = [some dm, some (.ref q1), some (.str d.w), some (.tupP (d.vs.map pairD)), some (.tup (d.cs.map Cond.d)), some (.tup (d.es.map Eff.d)), some d.c.d, some (rowD ("deed" :: d.w :: done2.flatMap fun p => [p.1, p.2])), X8, X9, X10, X11, X12, none] ∧ d.vs = done2 ++ r) ?_ ?_ d.vs _ _ ⟨[], X8, rfl, rfl, rfl⟩
    · rintro v r2 δ M'' ⟨done2, X8, rfl, rfl, hv⟩
      refine ⟨trivial, fun nx2 hx2 => ?_⟩
      have : (("deed" : Str) :: d.w :: done2.flatMap fun p => [p.1, p.2]).length + 2 ≤ 100000 := by
        refine Nat.le_trans ?_ hhead
        simp [Deed.head, hv]
        omega
      simp [rowD, pairD, lineL]
      simp at this
      refine ⟨by omega, hx2 _ _ ⟨done2 ++ [v], some (pairD v), rfl, ?_, by rw [hv]; simp⟩⟩
      show _ = [some dm, some (.ref q1), some (.str d.w), some (.tupP (d.vs.map pairD)), some (.tup (d.cs.map Cond.d)), some (.tup (d.es.map Eff.d)), some d.c.d, some (rowD ("deed" :: d.w :: (done2 ++ [v]).flatMap fun p => [p.1, p.2])), some (.tup [.str v.1, .str v.2]), X9, X10, X11, X12, none]
      simp [rowD]
    rintro δ M'' ⟨done2, X8, rfl, rfl, hv⟩
    rw [List.append_nil] at hv
    subst hv
    refine ⟨trivial, ?_⟩
    simp [s_tyr hM]
    rw [s_cell hM, wC_some]
    refine ⟨by rw [lineL, List.length_map]; omega, ?_⟩
    refine comp_name (f := fun k => rowD ("if" :: k.toks)) d.cs [] trivial ?_ (by rw [lineL]; simp; omega) ?_
    · intro k hk R r
      have h1 : (("if" : Str) :: k.toks).length ≤ 100000 := hln2 _ (by simp [Deed.lines]; exact .inr (.inl ⟨k, hk, rfl⟩))
      rw [List.length_cons] at h1
      simp [wipeD, lineL]
      refine ⟨k, rfl, sd.ok.1 k hk, by omega, ?_⟩
      simp [lineL]
      exact ⟨by omega, r⟩
    rw [s_addRL up_same]
    refine ⟨by rw [lineL]; simp; omega, fun p2 hp2 => ?_⟩
    have hp2' : M'' p2 = none := by
      by_cases e : p2 = q1
      · rw [e, up_same] at hp2; cases hp2
      · rw [up_ne e] at hp2; exact hp2
    have hp2M : M p2 = none := Le.none le hp2'
    have le2 : Le M (up (up M'' q1 (Cell.lst (A.map rowD ++ [rowD ("deed" :: d.w :: d.vs.flatMap fun p => [p.1, p.2])]))) p2 (Cell.lst ((A.map rowD ++ [rowD ("deed" :: d.w :: d.vs.flatMap fun p => [p.1, p.2])]) ++ ([] ++ d.cs.map fun k => rowD ("if" :: k.toks))))) := fun b cc e => by
      rw [up_ne (fun q => by rw [q, hp2M] at e; cases e), up_ne (fun q => by rw [q, hq1] at e; cases e)]
      exact le b cc e
    refine for_rule (enc := Eff.d) (fun r δ M3 => ∃ done3 X9 X10 X11 X12, Le M M3 ∧ δ = [some dm, some (.ref p2), some (.str d.w), some (.tupP (d.vs.map pairD)), some (.tup (d.cs.map Cond.d)), some (.tup (d.es.map Eff.d)), some d.c.d, some (rowD ("deed" :: d.w :: d.vs.flatMap fun p => [p.1, p.2])), X8, X9, X10, X11, X12, none] ∧ M3 p2 = some (.lst ((A ++ d.head :: (d.cs.map fun k => "if" :: k.toks) ++ done3.map Eff.toks).map rowD)) ∧ d.es = done3 ++ r) ?_ ?_ d.es _ _ ⟨[], X9, X10, X11, X12, le2, rfl, by rw [up_same]; simp [Deed.head], rfl⟩
    · rintro e r2 δ M3 ⟨done3, X9, X10, X11, X12, le3, rfl, hM3, he⟩
      refine ⟨trivial, fun nx2 hx2 => ?_⟩
      have hem : e ∈ d.es := by rw [he]; simp
      have h1 : e.toks.length ≤ 100000 := hln2 _ (by simp [Deed.lines]; exact .inr (.inr (.inl ⟨e, hem, rfl⟩)))
      have h0 : done3.length ≤ d.es.length := by rw [he, List.length_append]; omega
      have okw := sd.ok.2 e hem
      have fin : ∀ (Y9 Y10 Y11 Y12 : Option D), nx2 [some dm, some (.ref p2), some (.str d.w), some (.tupP (d.vs.map pairD)), some (.tup (d.cs.map Cond.d)), some (.tup (d.es.map Eff.d)), some d.c.d, some (rowD ("deed" :: d.w :: d.vs.flatMap fun p => [p.1, p.2])), X8, Y9, Y10, Y11, Y12, none] (up M3 p2 (.lst ((A ++ d.head :: (d.cs.map fun k => "if" :: k.toks) ++ done3.map Eff.toks).map rowD ++ [rowD e.toks]))) := fun Y9 Y10 Y11 Y12 =>
        hx2 _ _ ⟨done3 ++ [e], Y9, Y10, Y11, Y12, fun b cc q => by rw [up_ne (fun z => by rw [z, hp2M] at q; cases q)]; exact le3 b cc q, rfl, by rw [up_same]; simp, by rw [he]; simp⟩
      have hcap : ((A ++ d.head :: (d.cs.map fun k => "if" :: k.toks) ++ done3.map Eff.toks).map rowD).length < sizeLine := by
        rw [lineL, List.length_map]; simp; omega
      obtain ⟨n, a, wh⟩ := e
      cases wh with
      | nil =>
        have et : Eff.toks ⟨n, a, []⟩ = n :: a.w :: a.ws := by simp [Eff.toks]
        rw [et] at h1
        simp at h1
        simp [Eff.d, Atom.d, lineL]
        refine ⟨[], _, rfl, by simp, by simp [rowToks], ?_⟩
        simp [rowToks, s_tyr hM3, lineL]
        refine ⟨by omega, by omega, ?_⟩
        rw [s_cell hM3, wC_some]
        have := fin (some (.str n)) (some a.d) (some (.tup [])) (some (.lst []))
        rw [et] at this
        refine ⟨by rw [← lineL]; exact hcap, by simpa [rowD, Atom.d] using this⟩
      | cons p ps =>
        have et : Eff.toks ⟨n, a, p :: ps⟩ = n :: a.w :: a.ws ++ ("when" : Str) :: rowToks "and" (p :: ps) := by simp [Eff.toks]
        rw [et] at h1
        simp at h1
        simp [Eff.d, Atom.d, lineL]
        refine ⟨p :: ps, _, rfl, okw, by omega, ?_⟩
        simp [s_tyr hM3, lineL]
        refine ⟨by omega, by omega, by omega, ?_⟩
        rw [s_cell hM3, wC_some]
        have := fin (some (.str n)) (some a.d) (some (.tup ((p :: ps).map Plain.d))) (some (.lst ((("when" : Str) :: rowToks "and" (p :: ps)).map .str)))
        rw [et] at this
        refine ⟨by rw [← lineL]; exact hcap, by simpa [rowD, Atom.d] using this⟩
    rintro δ M3 ⟨done3, X9, X10, X11, X12, le3, rfl, hM3, he⟩
    rw [List.append_nil] at he
    subst he
    refine ⟨trivial, ?_⟩
    have hl : d.lines = d.head :: (d.cs.map fun k => "if" :: k.toks) ++ d.es.map Eff.toks ++ [d.c.toks] := rfl
    have h1 : d.c.toks.length ≤ 100000 := hln2 _ (by rw [hl]; simp)
    have fin : ∀ X12, nx [some dm, some (.ref p2), some (.str d.w), some (.tupP (d.vs.map pairD)), some (.tup (d.cs.map Cond.d)), some (.tup (d.es.map Eff.d)), some d.c.d, some (rowD ("deed" :: d.w :: d.vs.flatMap fun p => [p.1, p.2])), X8, X9, X10, X11, X12, none] (up M3 p2 (.lst ((A ++ d.lines).map rowD))) := fun X12 =>
      hx _ _ ⟨done ++ [d], p2, _, _, _, _, _, _, _, _, _, _, _, rfl, hp2M, fun b cc e => by rw [up_ne (fun q => by rw [q, hp2M] at e; cases e)]; exact le3 b cc e, by rw [up_same, ← hA]; simp, by rw [hd]; simp⟩
    cases hc : d.c with
    | num i =>
      rw [hc] at fin
      have := sd.c i hc
      simp [hc, Cost.d, s_tyr hM3, lineL]
      refine ⟨this, ?_⟩
      rw [s_cell hM3, wC_some]
      refine ⟨by rw [List.length_map]; simp; omega, ?_⟩
      rw [hl, hc] at fin
      simpa [Cost.d, Cost.toks, rowD] using fin _
    | by_ w us =>
      rw [hc] at fin h1
      simp [Cost.toks] at h1
      simp [hc, Cost.d, s_tyr hM3, lineL]
      refine ⟨by omega, ?_⟩
      rw [s_cell hM3, wC_some]
      refine ⟨by rw [List.length_map]; simp; omega, ?_⟩
      rw [hl, hc] at fin
      simpa [Cost.d, Cost.toks, rowD] using fin _
  · rintro δ M' ⟨done, q1, X2, X3, X4, X5, X6, X7, X8, X9, X10, X11, X12, rfl, hq1, le, hM, hd⟩
    rw [List.append_nil] at hd
    refine ⟨trivial, ?_⟩
    simp
    refine out_lst le hq1 hM ?_
    rw [← hd]
    exact q
end Ht
set_option Elab.async false
set_option linter.all false
set_option maxRecDepth 100000
namespace Ht
open PySem PySem.Spec PyProof.Rows L2
variable (c : Cs)
theorem St.outL {M M' : Mp} {a p : Addr} {Q : VD} {es : List D} (s : St M a M') (ha : Dr M a) (hp : M p = none) (hM : M' p = some (.lst es)) (q : ∀ M0, Dr.next M a M0 → Q (.lst es) M0) : Out Q (.ref p) M' := by
  obtain ⟨ns, h, hl⟩ := s.dr
  have pa : p ≠ a := dr_ne ha hp
  refine out_lst (M := up M a (.lst (ns.map .int))) (fun b x e => ?_) (by rw [up_ne pa]; exact hp) hM (q _ ⟨⟨ns, up_same, hl⟩, fun b hb => up_ne hb⟩)
  by_cases hb : b = a
  · subst hb; rw [up_same] at e; rw [h]; exact e
  · rw [up_ne hb] at e
    rw [s.keep b hb (by rw [e]; simp)]; exact e
def abc : Str := "abcdefghijklmnopqrstuvwxyz"
theorem abc_all : ∀ ch ∈ abc.cps.toList, ch ∈ lettersS.cps.toList := by decide +kernel
theorem abc_len : abc.cps.toList.length = 26 := by decide +kernel
def allL (w : Str) : Prop := ∀ ch ∈ w.cps.toList, ch ∈ lettersS.cps.toList
theorem app_list (x y : Str) : (x ++ y).cps.toList = x.cps.toList ++ y.cps.toList := by
  show (x.cps ++ y.cps).toList = _
  exact Array.toList_append
theorem join_all : ∀ ys : List Str, (∀ y ∈ ys, allL y ∧ y.length = 1) → allL (Txt.join ("" : Str) ys) ∧ (Txt.join ("" : Str) ys).length = ys.length
  | [], _ => ⟨fun ch h => (by cases h), rfl⟩
  | [y], h => by
    have := h y (by simp)
    have e : Txt.join ("" : Str) [y] = y := by unfold Txt.join; rfl
    rw [e]; exact this
  | y :: z :: r, h => by
    have ih := join_all (z :: r) fun x hx => h x (List.mem_cons_of_mem _ hx)
    have hy := h y (by simp)
    rw [join_two]
    have e2 : ∀ a b : Str, (a ++ b).length = a.length + b.length := fun a b => by
      show (a.cps ++ b.cps).size = _
      exact Array.size_append
    refine ⟨fun ch hc => ?_, ?_⟩
    · rw [app_list, app_list] at hc
      rcases List.mem_append.mp hc with hc | hc
      · rcases List.mem_append.mp hc with hc | hc
        · exact hy.1 ch hc
        · cases hc
      · exact ih.1 ch hc
    · rw [e2, e2, ih.2, hy.2]
      have : (Str.ofString "").length = 0 := rfl
      rw [this, List.length_cons, List.length_cons, List.length_cons]; omega
theorem word_of {w : Str} (h : allL w) (h0 : 0 < w.length) : isWord w = true := by
  unfold isWord
  rw [decide_eq_true h0, Bool.true_and, List.all_eq_true]
  exact fun ch hc => decide_eq_true (h ch hc)
theorem zs_list (k : Int) : (repS ("z" : Str) k).cps.toList = List.replicate k.toNat 122 := by
  unfold repS
  have : ("z" : Str).cps.toList = [122] := by decide
  rw [this]
  simp
theorem marks_z : ∀ t ∈ marks, ∃ ch ∈ t.cps.toList, ch ≠ 122 := by decide +kernel
theorem p__law_plain_words (ds : List D) (M : Mp) (Q : VD) (E : XD) (h : sp__law_plain_words c ds M Q E) : t__law_plain_words c (endsL Q) (startD N__law_plain_words ds) M := by
  obtain ⟨a, rfl, hd, q⟩ := h
  simp [t__law_plain_words, startD]
  intro p hp
  unfold rangeD
  have pa := dr_ne hd hp
  refine for_rule (enc := fun i : Nat => .int (0 + i)) (fun r δ M' => ∃ (ws : List Str) (X Y Z : Option D), δ = [some (.ref a), some (.int 27), some (.ref p), X, Y, Z, none, none] ∧ St M a M' ∧ M' p = some (.lst (ws.map .str)) ∧ ws.length + r.length = 27 ∧ ws.Nodup ∧ ∀ w ∈ ws, wordOk w ∧ w.length ≤ 14 + ws.length) ?_ ?_ (List.range 27) _ _ ⟨[], none, none, none, rfl, (St.refl hd).put pa hp _, up_same, by simp, by simp, by simp⟩
  · rintro k r δ M' ⟨ws, X, Y, Z, rfl, st, hM, hl, hn, hw⟩
    refine ⟨trivial, fun nx hx => ?_⟩
    rw [List.length_cons] at hl
    simp [lineL]
    refine ⟨a, 3, rfl, by decide, st.dr, fun M1 i h1 h2 hn1 => ?_⟩
    have st1 := st.next hn1
    have hM1 : M1 p = some (.lst (ws.map .str)) := (hn1.2 p pa).trans hM
    refine ⟨a, _, _, rfl, st1.dr, row_lst (by decide) (by decide), fun M2 x hx2 hn2 => ?_⟩
    have st2 := st1.next hn2
    have hM2 : M2 p = some (.lst (ws.map .str)) := (hn2.2 p pa).trans hM1
    obtain ⟨j, rfl, j0, j1⟩ : ∃ j : Int, x = .int j ∧ 0 ≤ j ∧ j ≤ 11 := by
      simp at hx2
      rcases hx2 with e | e | e <;> exact ⟨_, e, by decide, by decide⟩
    obtain ⟨n, hn3⟩ : ∃ n : Nat, 1 + i + j = (n : Nat) := Int.eq_ofNat_of_zero_le (by omega)
    simp [wipeD, hn3]
    refine ⟨by omega, ?_⟩
    unfold rangeD
    have fin : ∀ (w : Str) (M3 : Mp) (x : D), St M a M3 → M3 p = some (.lst (ws.map .str)) → wordOk w → w.length ≤ 14 + (ws.length + 1) → w ∉ ws → nx [some (.ref a), some (.int 27), some (.ref p), some (.int k), some x, some (.str w), none, none] (up M3 p (.lst (ws.map .str ++ [.str w]))) := fun w M3 x s3 h3 ok hwl hni =>
      hx _ _ ⟨ws ++ [w], _, _, _, rfl, s3.put pa hp _, by rw [up_same]; simp, by simp; omega, by
        rw [List.nodup_append]
        exact ⟨hn, by simp, fun a ha b hb e => hni (by rw [List.mem_singleton.mp hb] at e; rw [← e]; exact ha)⟩, fun w' hw' => by
        rw [List.length_append, List.length_singleton]
        rcases List.mem_append.mp hw' with e | e
        · exact ⟨(hw w' e).1, by have := (hw w' e).2; omega⟩
        · rw [List.mem_singleton.mp e]; exact ⟨ok, hwl⟩⟩
    refine comp_inv (enc := fun i : Nat => .int (0 + i)) (fun r acc M3 => ∃ ys : List Str, acc = ys.map .str ∧ St M a M3 ∧ M3 p = some (.lst (ws.map .str)) ∧ ys.length + r.length = n ∧ ∀ y ∈ ys, allL y ∧ y.length = 1) ?_ ?_ (List.range n) _ _ ⟨[], rfl, st2, hM2, by simp, by simp⟩
    · rintro u r2 acc M3 ⟨ys, rfl, s3, h3, hl3, hy⟩
      refine ⟨trivial, fun nx2 hx3 => ?_⟩
      rw [List.length_cons] at hl3
      simp
      refine ⟨a, 26, rfl, by decide, s3.dr, fun M4 v v1 v2 hn4 => ?_⟩
      obtain ⟨v, rfl⟩ := Int.eq_ofNat_of_zero_le v1
      have hv : v < abc.cps.toList.length := by rw [abc_len]; omega
      have e4 : atM M4 (.str abc) (.int (v : Int)) = some (.str ⟨#[abc.cps.toList[v]]⟩) := by
        unfold atM
        dsimp only
        rw [if_pos (by rw [lineL]; decide), atI_nat, List.getElem?_eq_getElem hv]; rfl
      refine ⟨_, e4, by rw [lineL]; omega, hx3 _ _ ⟨ys ++ [⟨#[abc.cps.toList[v]]⟩], by rw [List.map_append]; rfl, s3.next hn4, (hn4.2 p pa).trans h3, by simp; omega, fun y hy' => ?_⟩⟩
      rcases List.mem_append.mp hy' with e | e
      · exact hy y e
      · rw [List.mem_singleton.mp e]
        refine ⟨fun ch hc => ?_, rfl⟩
        have : ch = abc.cps.toList[v] := by
          have hc' : ch ∈ [abc.cps.toList[v]] := hc
          exact List.mem_singleton.mp hc'
        rw [this]
        exact abc_all _ (List.getElem_mem hv)
    · rintro acc M3 ⟨ys, rfl, s3, h3, hl3, hy⟩
      rw [List.length_nil, Nat.add_zero] at hl3
      obtain ⟨ha, hlen⟩ := join_all ys hy
      have hsum : (ys.map fun x => x.length).sum = ys.length := by
        clear hl3 ha hlen
        induction ys with
        | nil => rfl
        | cons y r ih =>
          have := (hy y (by simp)).2
          have := ih fun z hz => hy z (List.mem_cons_of_mem _ hz)
          simp; omega
      refine ⟨trivial, ys, rfl, by rw [hsum, show (Str.ofString "").length = 0 from rfl]; omega, ?_⟩
      generalize hwd : Txt.join (Str.ofString "") ys = w at ha hlen ⊢
      have hadd : ∀ R : VD, rAdd false (D.ref p) (D.lst (marks.map .str)) M3 R = (ws.length + 9 ≤ sizeLine ∧ R (.lst ((ws ++ marks).map .str)) M3) := fun R => by
        have : marks.length = 9 := rfl
        simp [rAdd, lstM, h3, this]
      have hadd := hadd
      show rAdd false (D.ref p) (D.lst (marks.map .str)) M3 _
      rw [hadd]
      refine ⟨by rw [lineL]; omega, ?_⟩
      rw [s_hasl]
      simp [s_tyr h3, -List.map_append]
      have hwlen : w.length = n := hlen.trans hl3
      have lens : ∀ x ∈ ws, x.length ≤ 41 := fun x hx => by have := (hw x hx).2; omega
      by_cases hin : w ∈ ws ++ marks
      · right
        refine ⟨List.mem_append.mp hin, ?_⟩
        rw [s_walkr h3, wI_some]
        refine comp_name (f := fun x : Str => .int x.length) ws [] h3 ?_ (by rw [lineL]; simp; omega) ?_
        · intro x hx R r
          have := lens x hx
          simp
          rw [s_lens (by rw [lineL]; omega)]
          exact ⟨_, rfl, r⟩
        · rw [List.nil_append]
          refine ⟨by simp; omega, .inr ⟨_, 5 :: ws.map fun x => (x.length : Int), rfl, by simp, by simp, fun m hm hmax => ?_⟩⟩
          have hm5 : 5 ≤ m := hmax 5 (by simp)
          have hm41 : m ≤ 14 + ws.length := by
            rcases List.mem_cons.mp hm with e | e
            · omega
            · obtain ⟨x, hx, e⟩ := List.mem_map.mp e
              have := (hw x hx).2; omega
          obtain ⟨m, rfl⟩ := Int.eq_ofNat_of_zero_le (show 0 ≤ m by omega)
          show (1 + (m : Int)) ≤ 16777216 ∧ -(2 ^ 63) ≤ 1 + (m : Int) ∧ (Str.ofString "z").length * (1 + (m : Int)).toNat ≤ 16777216 ∧ _
          have e1 : (Str.ofString "z").length = 1 := rfl
          refine ⟨by omega, by omega, by rw [e1]; omega, s_tyr h3, ?_⟩
          rw [s_cell h3, wC_some]
          refine ⟨by rw [List.length_map]; omega, ?_⟩
          generalize hz : repS (Str.ofString "z") (1 + (m : Int)) = z
          have hzl : z.cps.toList = List.replicate (m + 1) 122 := by
            rw [← hz]
            have := zs_list (1 + (m : Int))
            rw [show (1 + (m : Int)).toNat = m + 1 by omega] at this
            exact this
          have hzn : z.length = m + 1 := by
            have : z.cps.toList.length = m + 1 := by rw [hzl, List.length_replicate]
            simpa [Str.length] using this
          refine fin z M3 _ s3 h3 ⟨word_of (fun ch hc => ?_) (by omega), fun hmk => ?_⟩ (by omega) fun hzw => ?_
          · rw [hzl] at hc
            rw [(List.mem_replicate.mp hc).2]; decide
          · obtain ⟨ch, hc, hne⟩ := marks_z z hmk
            rw [hzl] at hc
            exact hne (List.mem_replicate.mp hc).2
          · have := hmax z.length (List.mem_cons_of_mem _ (List.mem_map.mpr ⟨z, hzw, rfl⟩))
            omega
      · left
        have hin2 : w ∉ ws ∧ w ∉ marks := by
          rw [List.mem_append, not_or] at hin; exact hin
        refine ⟨hin2, ?_⟩
        rw [s_cell h3, wC_some]
        exact ⟨by rw [List.length_map]; omega, fin w M3 _ s3 h3 ⟨word_of ha (by omega), hin2.2⟩ (by omega) hin2.1⟩
  · rintro δ M' ⟨ws, X, Y, Z, rfl, st, hM, hl, hn, hw⟩
    refine ⟨trivial, ?_⟩
    simp
    rw [List.length_nil, Nat.add_zero] at hl
    exact st.outL hd hp hM fun M0 h0 => q M0 ws hl hn (fun w hw' => ⟨(hw w hw').1, by have := (hw w hw').2; unfold shortW; omega⟩) h0
end Ht
set_option Elab.async false
set_option linter.all false
set_option maxRecDepth 100000
namespace Ht
open PySem PySem.Spec PyProof.Rows L2
variable (c : Cs)
theorem cut_drop1 (xs : List D) : cutD xs (some 1) none = xs.drop 1 := by
  cases xs with
  | nil => rfl
  | cons x r => rw [cut_one]; rfl
theorem range_at {m x : Nat} {done r : List Nat} (h : List.range m = done ++ x :: r) : x = done.length ∧ x < m := by
  have h1 : (List.range m)[done.length]? = some x := by rw [h]; simp
  have h2 : done.length < m := by
    have := congrArg List.length h
    simp at this; omega
  rw [List.getElem?_range h2] at h1
  cases h1
  exact ⟨rfl, h2⟩
theorem next_refl {M : Mp} {a : Addr} (h : Dr M a) : Dr.next M a M := ⟨h, fun _ _ => rfl⟩
theorem next_trans {M M1 M2 : Mp} {a : Addr} (h : Dr.next M a M1) (h2 : Dr.next M1 a M2) : Dr.next M a M2 := ⟨h2.1, fun b hb => (h2.2 b hb).trans (h.2 b hb)⟩
theorem plains_comp {δ : SD} {M M3 : Mp} {a : Addr} {kd rd : D} {ks : List (Str × Option Str)} {rs : List (Str × List Str)} {vs : List (Str × Str)} {Qc : List D → Mp → Prop} (n : Nat) (hn : n ≤ 4)
    (g0 : δ[0]? = some (some (.ref a))) (g2 : δ[2]? = some (some kd)) (g3 : δ[3]? = some (some rd)) (g6 : δ[6]? = some (some (.tupP (vs.map pairD))))
    (s3 : St M a M3) (hk : KsAt M a kd ks) (hr : RsAt M a rd rs) (hv : VsOk ks vs)
    (q : ∀ (ps : List Plain) M4, ps.length = n → (∀ p ∈ ps, PlainIn ks rs vs p) → Dr.next M3 a M4 → Qc (ps.map Plain.d) M4) :
    compD (gName 15) tYes (dCall (sp__law_drawn_plain c) (dCons (dVar 0) (dCons (dVar 2) (dCons (dVar 3) (dCons (dVar 6) dNil))))) (fun _ => True) δ Qc (rangeD 0 n) [] M3 := by
  unfold rangeD
  refine comp_inv (enc := fun i : Nat => .int (0 + i)) (fun r acc M4 => ∃ ps : List Plain, acc = ps.map Plain.d ∧ Dr.next M3 a M4 ∧ ps.length + r.length = n ∧ ∀ p ∈ ps, PlainIn ks rs vs p) ?_ ?_ (List.range n) _ _ ⟨[], rfl, next_refl s3.dr, by simp, by simp⟩
  · rintro x r acc M4 ⟨ps, rfl, h1, h2, h3⟩
    refine ⟨trivial, fun nx hnx => ?_⟩
    rw [List.length_cons] at h2
    have st := s3.next h1
    have b0 : (δ.set 15 (some (.int (0 + (x : Nat)))))[0]? = some (some (.ref a)) := by rw [List.getElem?_set_ne (by decide)]; exact g0
    have b2 : (δ.set 15 (some (.int (0 + (x : Nat)))))[2]? = some (some kd) := by rw [List.getElem?_set_ne (by decide)]; exact g2
    have b3 : (δ.set 15 (some (.int (0 + (x : Nat)))))[3]? = some (some rd) := by rw [List.getElem?_set_ne (by decide)]; exact g3
    have b6 : (δ.set 15 (some (.int (0 + (x : Nat)))))[6]? = some (some (.tupP (vs.map pairD))) := by rw [List.getElem?_set_ne (by decide)]; exact g6
    rw [s_gname, s_yes, if_pos rfl, s_call]
    simp only [s_cons, s_var, s_nil]
    refine ⟨_, b0, _, b2, _, b3, _, b6, a, kd, rd, ks, rs, vs, rfl, st.dr, hk.st st, hr.st st, hv, fun M5 p hp hn5 => ?_⟩
    refine ⟨by rw [lineL, List.length_map]; omega, hnx _ _ ⟨ps ++ [p], by simp, next_trans h1 hn5, by simp; omega, fun p' hp' => ?_⟩⟩
    rcases List.mem_append.mp hp' with e | e
    · exact h3 p' e
    · rw [List.mem_singleton.mp e]; exact hp
  · rintro acc M4 ⟨ps, rfl, h1, h2, h3⟩
    exact ⟨trivial, q ps M4 (by simpa using h2) h3 h1⟩
theorem p__law_wide_deed (ds : List D) (M : Mp) (Q : VD) (E : XD) (h : sp__law_wide_deed c ds M Q E) : t__law_wide_deed c (endsL Q) (startD N__law_wide_deed ds) M := by
  obtain ⟨a, kd, rd, ks, rs, w, ws, rfl, hd, hk, hr, hw, q⟩ := h
  have hwl := hw.1
  have at_ : ∀ i : Nat, i < 27 → ∃ t, ws[i]? = some t := fun i hi => ⟨_, List.getElem?_eq_getElem (by omega)⟩
  simp [t__law_wide_deed, startD, lineL]
  refine ⟨a, 5, rfl, by decide, hd, fun M1 m h1 h2 hn1 => ?_⟩
  have st1 := next_St hn1
  obtain ⟨m, rfl⟩ := Int.eq_ofNat_of_zero_le h1
  simp [wipeD]
  refine ⟨by omega, ?_⟩
  unfold rangeD
  refine comp_inv (enc := fun i : Nat => .int (0 + i)) (fun r acc M3 => ∃ (vs : List (Str × Str)) (done : List Nat), acc = vs.map pairD ∧ St M a M3 ∧ List.range m = done ++ r ∧ done.length = vs.length ∧ vs.map (·.1) = (ws.drop 22).take vs.length ∧ ∀ p ∈ vs, p.2 ∈ ks.map (·.1)) ?_ ?_ (List.range m) _ _ ⟨[], [], rfl, st1, rfl, rfl, rfl, by simp⟩
  · rintro x r acc M3 ⟨vs, done, rfl, s3, hrg, hdl, hvn, hvk⟩
    obtain ⟨hx, hxm⟩ := range_at hrg
    refine ⟨trivial, fun nx hnx => ?_⟩
    obtain ⟨t, ht⟩ := at_ (22 + x) (by omega)
    simp
    refine ⟨.str t, ?_, a, _, _, rfl, s3.dr, (hk.st s3).row, fun M4 y hy hn4 => ?_⟩
    · show atI _ _ = _
      rw [show (22 + (x : Int)) = ((22 + x : Nat) : Int) by omega, atI_nat, List.getElem?_map, ht]; rfl
    · obtain ⟨kk, hkk, rfl⟩ := List.mem_map.mp hy
      refine ⟨.str kk.1, rfl, by rw [lineL]; omega, by rw [lineL]; omega, hnx _ _ ⟨vs ++ [(t, kk.1)], done ++ [x], by rw [List.map_append]; rfl, s3.next hn4, by rw [hrg]; simp, by simp [hdl], ?_, fun p hp => ?_⟩⟩
      · rw [List.map_append, hvn, List.length_append, List.length_singleton, List.take_add_one]
        congr 1
        rw [List.getElem?_drop, ← hdl, ← hx, ht]; rfl
      · rcases List.mem_append.mp hp with e | e
        · exact hvk p e
        · rw [List.mem_singleton.mp e]; exact List.mem_map.mpr ⟨kk, hkk, rfl⟩
  rintro acc M3 ⟨vs, done, rfl, s3, hrg, hdl, hvn, hvk⟩
  rw [List.append_nil] at hrg
  have hvl : vs.length = m := by rw [← hdl, ← hrg, List.length_range]
  have hvs : VsOk ks vs := ⟨by omega, by rw [hvn, hvl]; exact (List.take_sublist_take_left (show m ≤ 4 by omega)).nodup hw.2.2.2.2.2, hvk⟩
  refine ⟨trivial, ?_⟩
  simp
  intro p7 hp7
  have n7 := s3.fresh hp7
  have a7 := dr_ne s3.dr hp7
  have s7 := s3.new hp7 (.lst [])
  refine ⟨a, 4, rfl, by decide, s7.dr, fun M4 m4 h3 h4 hn4 => ?_⟩
  have s4 := s7.next hn4
  have e7 : M4 p7 = some (.lst []) := by rw [hn4.2 p7 a7, up_same]
  obtain ⟨m4, rfl⟩ := Int.eq_ofNat_of_zero_le h3
  simp
  refine ⟨by omega, ?_⟩
  have e6 : ∀ i : Nat, i < 27 → ∃ t, ws[i]? = some t := at_
  obtain ⟨w26, hw26⟩ := at_ 26 (by omega)
  try unfold rangeD
  try simp only [Int.zero_add]
  refine for_rule (enc := fun i : Nat => .int (i : Nat)) (fun r δ M' => ∃ (cs : List Cond) (X8 X9 : Option D), δ = [some (.ref a), some (.lst (ws.map .str)), some kd, some rd, some (.str w), some (.int m), some (.tupP (vs.map pairD)), some (.ref p7), X8, X9, none, none, none, none, none, none, none] ∧ St M a M' ∧ M' p7 = some (.lst (cs.map Cond.d)) ∧ cs.length + r.length ≤ 3 ∧ ∀ k ∈ cs, (∃ p, k = .one p ∧ PlainIn ks rs vs p) ∨ ∃ ps, k = .either ps ∧ ps ≠ [] ∧ ps.length ≤ 3 ∧ ∀ p ∈ ps, PlainIn ks rs vs p) ?_ ?_ (List.range m4) _ _ ⟨[], none, none, rfl, s4, e7, by simp; omega, by simp⟩
  · rintro x r δ M5 ⟨cs, X8, X9, rfl, s5, h7, hl, hc⟩
    refine ⟨trivial, fun nx hnx => ?_⟩
    rw [List.length_cons] at hl
    simp
    refine ⟨a, 3, rfl, by decide, s5.dr, fun M6 m6 h5 h6 hn6 => ?_⟩
    have s6 := s5.next hn6
    have i7 : M6 p7 = some (.lst (cs.map Cond.d)) := (hn6.2 p7 a7).trans h7
    obtain ⟨m6, rfl⟩ := Int.eq_ofNat_of_zero_le h5
    simp [wipeD]
    refine ⟨by omega, by omega, ?_⟩
    have en : (1 + (m6 : Int)).toNat = m6 + 1 := by omega
    rw [en]
    refine plains_comp c (m6 + 1) (by omega) rfl rfl rfl rfl s6 hk hr hvs fun ps M8 hpl hpin hn8 => ?_
    have s8 := s6.next hn8
    have j7 : M8 p7 = some (.lst (cs.map Cond.d)) := (hn8.2 p7 a7).trans i7
    obtain ⟨p0, pr, rfl⟩ : ∃ p r, ps = p :: r := by cases ps with | nil => cases hpl | cons p r => exact ⟨p, r, rfl⟩
    simp [s_tyr j7, lineL]
    refine ⟨a, _, _, rfl, s8.dr, row_lst (by simp) (by simp), fun M9 y hy hn9 => ?_⟩
    have s9 := s8.next hn9
    have k7 : M9 p7 = some (.lst (cs.map Cond.d)) := (hn9.2 p7 a7).trans j7
    dsimp only
    rw [s_cell k7, wC_some]
    have hk : ∃ k : Cond, y = k.d ∧ ((∃ p, k = .one p ∧ PlainIn ks rs vs p) ∨ ∃ ps, k = .either ps ∧ ps ≠ [] ∧ ps.length ≤ 3 ∧ ∀ p ∈ ps, PlainIn ks rs vs p) := by
      rcases List.mem_cons.mp hy with e | e
      · exact ⟨.one p0, e, .inl ⟨p0, rfl, hpin p0 List.mem_cons_self⟩⟩
      · exact ⟨.either (p0 :: pr), List.mem_singleton.mp e, .inr ⟨_, rfl, by simp, by omega, hpin⟩⟩
    obtain ⟨k, rfl, hk⟩ := hk
    refine ⟨by rw [List.length_map]; omega, hnx _ _ ⟨cs ++ [k], _, _, rfl, s9.put a7 n7 _, by rw [up_same]; simp, by simp; omega, fun k' hk' => ?_⟩⟩
    rcases List.mem_append.mp hk' with e | e
    · exact hc k' e
    · rw [List.mem_singleton.mp e]; exact hk
  rintro δ M5 ⟨cs, X8, X9, rfl, s5, h7, hl, hc⟩
  refine ⟨trivial, ?_⟩
  simp
  intro p10 hp10
  have n10 := s5.fresh hp10
  have a10 := dr_ne s5.dr hp10
  have d710 : p7 ≠ p10 := fun e => by rw [e, hp10] at h7; cases h7
  have s10 := s5.new hp10 (.lst [])
  refine ⟨a, 4, rfl, by decide, s10.dr, fun M6 m6 h5 h6 hn6 => ?_⟩
  have s6 := s10.next hn6
  have e10 : M6 p10 = some (.lst []) := by rw [hn6.2 p10 a10, up_same]
  have i7 : M6 p7 = some (.lst (cs.map Cond.d)) := by rw [hn6.2 p7 a7, up_ne d710]; exact h7
  obtain ⟨m6, rfl⟩ := Int.eq_ofNat_of_zero_le h5
  simp
  refine ⟨by omega, ?_⟩
  try unfold rangeD
  try simp only [Int.zero_add]
  refine for_rule (enc := fun i : Nat => .int (i : Nat)) (fun r δ M' => ∃ (es : List Eff) (X8 X9 X11 X12 : Option D), δ = [some (.ref a), some (.lst (ws.map .str)), some kd, some rd, some (.str w), some (.int m), some (.tupP (vs.map pairD)), some (.ref p7), X8, X9, some (.ref p10), X11, X12, none, none, none, none] ∧ St M a M' ∧ M' p7 = some (.lst (cs.map Cond.d)) ∧ M' p10 = some (.lst (es.map Eff.d)) ∧ es.length + r.length ≤ 3 ∧ ∀ e ∈ es, (e.n = "comes" ∨ e.n = "goes") ∧ AtomIn ks rs vs e.a ∧ e.when_.length ≤ 3 ∧ ∀ p ∈ e.when_, PlainIn ks rs vs p) ?_ ?_ (List.range m6) _ _ ⟨[], X8, X9, none, none, rfl, s6, i7, e10, by simp; omega, by simp⟩
  · rintro x r δ M7 ⟨es, X8, X9, X11, X12, rfl, s7, h7, h10, hl2, he⟩
    refine ⟨trivial, fun nx hnx => ?_⟩
    rw [List.length_cons] at hl2
    simp [lineL]
    refine ⟨a, _, _, rfl, s7.dr, row_lst (by decide) (by decide), fun M8 y hy hn8 => ?_⟩
    have s8 := s7.next hn8
    obtain ⟨n8, rfl, h38⟩ : ∃ n : Nat, y = .int n ∧ n ≤ 3 := by
      simp at hy
      rcases hy with e | e | e
      · exact ⟨0, e, by decide⟩
      · exact ⟨1, e, by decide⟩
      · exact ⟨3, e, by decide⟩
    simp [wipeD]
    refine ⟨by omega, ?_⟩
    refine plains_comp c n8 (by omega) rfl rfl rfl rfl s8 hk hr hvs fun ps M9 hpl hpin hn9 => ?_
    have s9 := s8.next hn9
    refine ⟨a, kd, rd, ks, rs, vs, rfl, s9.dr, hk.st s9, hr.st s9, hvs, fun MA at2 hat hnA => ?_⟩
    have sA := s9.next hnA
    have hnB := next_trans hn8 (next_trans hn9 hnA)
    have j10 : MA p10 = some (.lst (es.map Eff.d)) := (hnB.2 p10 a10).trans h10
    simp [s_tyr j10, lineL]
    refine ⟨a, _, _, rfl, sA.dr, row_lst (by decide) (by decide), fun MB y hy hnC => ?_⟩
    have sB := sA.next hnC
    have hnD := next_trans hnB hnC
    have k10 : MB p10 = some (.lst (es.map Eff.d)) := (hnD.2 p10 a10).trans h10
    have k7 : MB p7 = some (.lst (cs.map Cond.d)) := (hnD.2 p7 a7).trans h7
    obtain ⟨nm, rfl, hnm⟩ : ∃ n : Str, y = .str n ∧ (n = "comes" ∨ n = "goes") := by
      rcases List.mem_cons.mp hy with e | e
      · exact ⟨_, e, .inl rfl⟩
      · exact ⟨_, List.mem_singleton.mp e, .inr rfl⟩
    dsimp only
    rw [s_cell k10, wC_some]
    refine ⟨by rw [List.length_map]; omega, hnx _ _ ⟨es ++ [⟨nm, at2, ps⟩], _, _, _, _, rfl, sB.put a10 n10 _, by rw [up_ne d710]; exact k7, by rw [up_same]; simp [Eff.d], by simp; omega, fun e' he' => ?_⟩⟩
    rcases List.mem_append.mp he' with e | e
    · exact he e' e
    · rw [List.mem_singleton.mp e]; exact ⟨hnm, hat, by show ps.length ≤ 3; omega, hpin⟩
  rintro δ M7 ⟨es, X8, X9, X11, X12, rfl, s7, h7, h10, hl2, he⟩
  refine ⟨trivial, ?_⟩
  simp [wipeD]
  refine comp_name (f := fun v : Str × Str => .str v.1) vs [] trivial ?_ (by rw [lineL]; simp; omega) ?_
  · intro v hv R r
    simpa [pairD] using r
  simp
  have hat : atI (ws.map D.str) 26 = some (.str w26) := by
    rw [show (26 : Int) = ((26 : Nat) : Int) from rfl, atI_nat, List.getElem?_map, hw26]; rfl
  refine ⟨⟨by decide, by decide, by decide⟩, _, hat, by rw [lineL]; omega, _, hat, by rw [lineL]; omega, by rw [lineL]; omega, a, _, _, rfl, s7.dr, row_lst (by simp) (by simp), fun M8 y hy hn8 => ?_⟩
  have s8 := s7.next hn8
  have f7 : M8 p7 = some (.lst (cs.map Cond.d)) := (hn8.2 p7 a7).trans h7
  have f10 : M8 p10 = some (.lst (es.map Eff.d)) := (hn8.2 p10 a10).trans h10
  have hcost : ∃ k : Cost, y = k.d ∧ ((∃ i, k = .num i ∧ (i = 0 ∨ i = 1 ∨ i = 30 ∨ i = 10 ^ 59 + 7)) ∨ ∃ w us, k = .by_ w us ∧ ws[26]? = some w ∧ us.length ≤ 4 ∧ ∀ u ∈ us, u ∈ vs.map (·.1)) := by
    have hv4 := hvs.1
    rcases List.mem_cons.mp hy with e | hy
    · exact ⟨.num 1, e, .inl ⟨1, rfl, by simp⟩⟩
    rcases List.mem_cons.mp hy with e | hy
    · exact ⟨.num 0, e, .inl ⟨0, rfl, by simp⟩⟩
    rcases List.mem_cons.mp hy with e | hy
    · exact ⟨.num 100000000000000000000000000000000000000000000000000000000007, e, .inl ⟨_, rfl, .inr (.inr (.inr (by decide)))⟩⟩
    rcases List.mem_cons.mp hy with e | hy
    · refine ⟨.by_ w26 ((vs.map (·.1)).drop 1), ?_, .inr ⟨w26, _, rfl, hw26, by simp; omega, fun u hu => List.mem_of_mem_drop hu⟩⟩
      rw [e, cut_drop1]; simp [Cost.d]; rfl
    rcases List.mem_cons.mp hy with e | hy
    · exact ⟨.by_ w26 [], e, .inr ⟨w26, [], rfl, hw26, by simp, by simp⟩⟩
    · exact ⟨.num 30, List.mem_singleton.mp hy, .inl ⟨30, rfl, by simp⟩⟩
  obtain ⟨k, rfl, hkc⟩ := hcost
  rw [List.length_nil, Nat.add_zero] at hl hl2
  refine ⟨_, s_lstr f7, _, s_lstr f10, by rw [lineL]; omega, ?_⟩
  exact s8.out hd fun M0 h0 => q M0 ⟨w, vs, cs, es, k⟩ rfl ⟨hvs, hvn, hl, hc, hl2, he, hkc⟩ h0
end Ht
set_option Elab.async false
set_option linter.all false
set_option maxRecDepth 100000
namespace Ht
open PySem PySem.Spec PyProof.Rows L2
abbrev sg (L : Str) : List Nat := L.cps.toList
theorem tokOk_pos {t : Str} (h : tokOk t) : 0 < (sg t).length := List.length_pos_iff.mpr h.1
theorem sp_one {t : Str} (h : tokOk t) : Sp (sg t) [t] := ⟨h.1, h.2.1, 0, [], by simp, fun _ => rfl, rfl⟩
theorem sp_trail : ∀ {ts : List Str} {R : List Nat} (j : Nat), ts ≠ [] → Sp R ts → Sp (R ++ List.replicate j 32) ts
  | [], _, _, h, _ => absurd rfl h
  | [t], R, j, _, ⟨h1, h2, k, R', e, hk, hs⟩ => by
    have : R' = [] := hs
    subst this
    refine ⟨h1, h2, k + j, [], ?_, fun _ => rfl, rfl⟩
    rw [e, List.append_nil, List.append_nil, List.append_assoc, List.replicate_append_replicate]
  | t :: u :: r, R, j, _, ⟨h1, h2, k, R', e, hk, hs⟩ => by
    refine ⟨h1, h2, k, R' ++ List.replicate j 32, ?_, fun h0 => ?_, sp_trail j (by simp) hs⟩
    · rw [e]; simp
    · have := hk h0
      subst this
      obtain ⟨h3, _, k', R'', e', _⟩ := hs
      exfalso
      have := congrArg List.length e'
      have h4 := List.length_pos_iff.mpr h3
      simp at this; simp at h4; omega
theorem sp_snoc {t : Str} (ht : tokOk t) : ∀ {ts : List Str} {R : List Nat} (j : Nat), ts ≠ [] → Sp R ts → Sp (R ++ List.replicate (j + 1) 32 ++ sg t) (ts ++ [t])
  | [], _, _, h, _ => absurd rfl h
  | [u], R, j, _, ⟨h1, h2, k, R', e, hk, hs⟩ => by
    have : R' = [] := hs
    subst this
    refine ⟨h1, h2, k + (j + 1), sg t, ?_, fun h0 => by omega, sp_one ht⟩
    rw [e, List.append_nil, List.append_assoc (sg u), List.replicate_append_replicate]
  | u :: v :: r, R, j, _, ⟨h1, h2, k, R', e, hk, hs⟩ => by
    refine ⟨h1, h2, k, R' ++ List.replicate (j + 1) 32 ++ sg t, ?_, fun h0 => ?_, sp_snoc ht j (by simp) hs⟩
    · rw [e]; simp
    · have := hk h0
      subst this
      obtain ⟨h3, _, k', R'', e', _⟩ := hs
      exfalso
      have := congrArg List.length e'
      have h4 := List.length_pos_iff.mpr h3
      simp at this; simp at h4; omega
structure Bld (T : Str) (done : List Str) (n : Nat) : Prop where
  sp : ∃ k R, sg T = List.replicate k 32 ++ R ∧ Sp R done
  nl : 10 ∉ sg T
  len : T.length ≤ n
theorem len_sg (T : Str) : (sg T).length = T.length := by simp [Str.length]
theorem sps_list (k : Int) : sg (repS (" " : Str) k) = List.replicate k.toNat 32 := by
  show (repS (" " : Str) k).cps.toList = _
  unfold repS
  have : (" " : Str).cps.toList = [32] := by decide
  rw [this]
  simp
theorem Bld.start (k : Int) (n : Nat) (h : k.toNat ≤ n) : Bld (repS (" " : Str) k) [] n :=
  ⟨⟨k.toNat, [], by rw [sps_list]; simp, rfl⟩, by rw [sps_list]; intro h; have := (List.mem_replicate.mp h).2; omega, by rw [← len_sg, sps_list]; simpa using h⟩
theorem sg_app (x y : Str) : sg (x ++ y) = sg x ++ sg y := by
  show (x.cps ++ y.cps).toList = _
  exact Array.toList_append
theorem Bld.tok {T t : Str} {done : List Str} {n m : Nat} (b : Bld T done n) (ht : tokOk t) (k : Int) (hk : done ≠ [] → 1 ≤ k) (hm : n + k.toNat + t.length ≤ m) : Bld (T ++ repS (" " : Str) k ++ t) (done ++ [t]) m := by
  obtain ⟨⟨k0, R, e, hs⟩, hn, hl⟩ := b
  have e2 : sg (T ++ repS (" " : Str) k ++ t) = sg T ++ List.replicate k.toNat 32 ++ sg t := by rw [sg_app, sg_app, sps_list]
  refine ⟨?_, ?_, ?_⟩
  · cases done with
    | nil =>
      have : R = [] := hs
      subst this
      refine ⟨k0 + k.toNat, sg t, ?_, sp_one ht⟩
      rw [e2, e, List.append_nil, List.replicate_append_replicate]
    | cons u r =>
      have := hk (by simp)
      obtain ⟨j, hj⟩ : ∃ j, k.toNat = j + 1 := ⟨k.toNat - 1, by omega⟩
      refine ⟨k0, R ++ List.replicate (j + 1) 32 ++ sg t, ?_, sp_snoc ht j (by simp) hs⟩
      rw [e2, e, hj]; simp
  · rw [e2]
    intro h
    rcases List.mem_append.mp h with h | h
    · rcases List.mem_append.mp h with h | h
      · exact hn h
      · have := (List.mem_replicate.mp h).2; omega
    · exact ht.2.2 h
  · rw [← len_sg, e2, List.length_append, List.length_append, len_sg, len_sg, List.length_replicate]; omega
theorem Bld.fin {T : Str} {done : List Str} {n m : Nat} (b : Bld T done n) (k : Int) (hm : n + k.toNat ≤ m) : Bld (T ++ repS (" " : Str) k) done m := by
  obtain ⟨⟨k0, R, e, hs⟩, hn, hl⟩ := b
  have e2 : sg (T ++ repS (" " : Str) k) = sg T ++ List.replicate k.toNat 32 := by rw [sg_app, sps_list]
  refine ⟨?_, ?_, ?_⟩
  · by_cases h : done = []
    · subst h
      have : R = [] := hs
      subst this
      exact ⟨k0 + k.toNat, [], by rw [e2, e, List.append_nil, List.append_nil, List.replicate_append_replicate], rfl⟩
    · exact ⟨k0, _, by rw [e2, e, List.append_assoc], sp_trail _ h hs⟩
  · rw [e2]
    intro h
    rcases List.mem_append.mp h with h | h
    · exact hn h
    · have := (List.mem_replicate.mp h).2; omega
  · rw [← len_sg, e2, List.length_append, len_sg, List.length_replicate]; omega
theorem Bld.spaced {T : Str} {ts : List Str} {n : Nat} (b : Bld T ts n) (h : n ≤ sizeLine) : Spaced T ts := ⟨Nat.le_trans b.len h, b.sp⟩
structure RowsB (rows : List Str) (tss : List (List Str)) (n : Nat) : Prop where
  ex : ∃ uss, All2 Spaced rows uss ∧ tss = uss.filter fun ts => !ts.isEmpty
  nl : ∀ r ∈ rows, 10 ∉ sg r
  len : (rows.map (·.length)).sum + rows.length ≤ n
theorem All2.snoc {α β : Type} {R : α → β → Prop} {as : List α} {bs : List β} {a : α} {b : β} (h : All2 R as bs) (r : R a b) : All2 R (as ++ [a]) (bs ++ [b]) := by
  induction h with
  | nil => exact .cons r .nil
  | cons h1 _ ih => exact .cons h1 ih
theorem RowsB.snoc {rows : List Str} {tss : List (List Str)} {n : Nat} (b : RowsB rows tss n) {T : Str} {ts : List Str} (s : Spaced T ts) (hn : 10 ∉ sg T) (m : Nat) (hm : n + T.length + 1 ≤ m) : RowsB (rows ++ [T]) (if ts = [] then tss else tss ++ [ts]) m := by
  obtain ⟨⟨uss, h1, h2⟩, h3, h4⟩ := b
  refine ⟨⟨uss ++ [ts], h1.snoc s, ?_⟩, fun r hr => ?_, ?_⟩
  · rw [List.filter_append, ← h2]
    cases ts with
    | nil => simp
    | cons t r => simp
  · rcases List.mem_append.mp hr with h | h
    · exact h3 r h
    · rw [List.mem_singleton.mp h]; exact hn
  · simp; omega
theorem rowsB_nil : RowsB [] [] 0 := ⟨⟨[], .nil, rfl⟩, by simp, by simp⟩
theorem len_joinNl (rows : List Str) : (Txt.join nl1 rows).length ≤ (rows.map (·.length)).sum + rows.length := by
  have := len_join nl1 rows
  have e : nl1.length = 1 := rfl
  rw [e] at this; omega
theorem RowsB.rows {rows : List Str} {tss : List (List Str)} {n : Nat} (b : RowsB rows tss n) (h : n + 2 ≤ sizeLine) : Rows (Txt.join nl1 rows) tss := by
  obtain ⟨⟨uss, h1, h2⟩, h3, h4⟩ := b
  have hl := len_joinNl rows
  refine ⟨by omega, ?_⟩
  cases rows with
  | nil =>
    cases h1
    refine ⟨[[]], ?_, by rw [h2]; rfl⟩
    have : Txt.split (Txt.join nl1 []) nl1 = [Str.empty] := by decide +kernel
    rw [this]
    exact .cons ⟨by show 0 ≤ _; omega, 0, [], rfl, rfl⟩ .nil
  | cons r rs =>
    refine ⟨uss, ?_, h2⟩
    have := TL.split_join (y := nl1) (s := 10) (S := []) rfl (by decide +kernel) (parts := r :: rs) (by simp) h3
    rw [this]
    exact h1
theorem spaced_join : ∀ {ts : List Str}, (∀ t ∈ ts, tokOk t) → ts ≠ [] → Sp (sg (joinSp ts)) ts
  | [], _, h => absurd rfl h
  | [t], ht, _ => sp_one (ht t (by simp))
  | t :: u :: r, ht, _ => by
    have ih := spaced_join (ts := u :: r) (fun x hx => ht x (List.mem_cons_of_mem _ hx)) (by simp)
    have h := ht t (by simp)
    refine ⟨h.1, h.2.1, 1, sg (joinSp (u :: r)), ?_, fun h => by omega, ih⟩
    rw [joinSp_cons t (by simp), sg_app, sg_app]
    rfl
theorem nl_join : ∀ {ts : List Str}, (∀ t ∈ ts, tokOk t) → 10 ∉ sg (joinSp ts)
  | [], _ => by intro h; cases h
  | [t], ht => (ht t (by simp)).2.2
  | t :: u :: r, ht => by
    have ih := nl_join (ts := u :: r) (fun x hx => ht x (List.mem_cons_of_mem _ hx))
    have h := ht t (by simp)
    rw [joinSp_cons t (by simp), sg_app, sg_app]
    intro hm
    rcases List.mem_append.mp hm with hm | hm
    · rcases List.mem_append.mp hm with hm | hm
      · exact h.2.2 hm
      · revert hm; decide
    · exact ih hm
theorem rowsB_join : ∀ {ls : List (List Str)}, (∀ l ∈ ls, wt l ≤ 100000 ∧ l ≠ [] ∧ ∀ t ∈ l, tokOk t) → RowsB (ls.map joinSp) ls ((ls.map wt).sum + ls.length)
  | [], _ => rowsB_nil
  | l :: r, h => by
    have ih := rowsB_join (ls := r) fun x hx => h x (List.mem_cons_of_mem _ hx)
    obtain ⟨h1, h2, h3⟩ := h l (by simp)
    obtain ⟨⟨uss, i1, i2⟩, i3, i4⟩ := ih
    have hw := wt_join l
    refine ⟨⟨l :: uss, .cons ⟨by rw [line_eq]; omega, 0, _, rfl, spaced_join h3 h2⟩ i1, ?_⟩, fun x hx => ?_, ?_⟩
    · rw [i2]
      cases l with
      | nil => exact absurd rfl h2
      | cons t r => simp
    · rcases List.mem_cons.mp hx with e | e
      · rw [e]; exact nl_join h3
      · exact i3 x e
    · simp at i4 ⊢; omega
theorem rows_join {ls : List (List Str)} (h : ∀ l ∈ ls, wt l ≤ 100000 ∧ l ≠ [] ∧ ∀ t ∈ l, tokOk t) (hl : ls.length ≤ 10000) (hs : (ls.map wt).sum ≤ 1000000) : Rows (joinNl (ls.map joinSp)) ls :=
  (rowsB_join h).rows (by rw [line_eq]; omega)
end Ht
set_option Elab.async false
set_option linter.all false
set_option maxRecDepth 100000
namespace Ht
open PySem PySem.Spec PyProof.Rows L2
variable (c : Cs)
theorem s_mulS {M : Mp} {Q : VD} (x : Str) (k : Int) : rMul false (.str x) (.int k) M Q = (k ≤ 16777216 ∧ -(2 ^ 63) ≤ k ∧ x.length * k.toNat ≤ 16777216 ∧ Q (.str (repS x k)) M) := (rfl)
theorem one_len : (Str.ofString " ").length = 1 := rfl
def rowCap (done : List (List Str)) : Nat := (done.map fun l => 3 * wt l + 20).sum
theorem rowCap_app (a b : List (List Str)) : rowCap (a ++ b) = rowCap a + rowCap b := by simp [rowCap]
theorem rowCap_eq (a : List (List Str)) : rowCap a = 3 * (a.map wt).sum + 20 * a.length := by
  induction a with
  | nil => rfl
  | cons l r ih => simp [rowCap] at ih ⊢; omega
theorem blank_ok (k : Int) (h : k ≤ 2) : Spaced (repS (Str.ofString " ") k) [] ∧ 10 ∉ sg (repS (Str.ofString " ") k) ∧ (repS (Str.ofString " ") k).length ≤ 2 := by
  have b := Bld.start k 2 (by omega)
  exact ⟨b.spaced (by rw [line_eq]; omega), b.nl, b.len⟩
theorem pick_nat {x : D} {l : List Nat} (h : x ∈ l.map fun n => D.int (n : Nat)) {b : Nat} (hb : ∀ n ∈ l, n ≤ b) : ∃ n : Nat, x = .int n ∧ n ≤ b := by
  obtain ⟨n, hn, e⟩ := List.mem_map.mp h
  exact ⟨n, e.symm, hb n hn⟩
theorem p__law_spread (ds : List D) (M : Mp) (Q : VD) (E : XD) (h : sp__law_spread c ds M Q E) : t__law_spread c (endsL Q) (startD N__law_spread ds) M := by
  obtain ⟨a, ls, rfl, hd, hl, hw, hs, q⟩ := h
  simp [t__law_spread, startD, lineL]
  intro p2 hp2 p3 hp3
  have a2 := dr_ne hd hp2
  have s2 := (St.refl hd).put a2 hp2 (.lst [])
  have d23 : p3 ≠ p2 := fun e => by rw [e, up_same] at hp3; cases hp3
  have hp3' : M p3 = none := by rw [up_ne d23] at hp3; exact hp3
  have a3 := dr_ne hd hp3'
  have s3 := s2.put a3 hp3' (.lst [])
  generalize hlsd : D.lst (ls.map rowD) = lsd
  refine for_rule (enc := rowD) (fun r δ M' => ∃ (done : List (List Str)) (rows : List Str) (told : List D) (X4 X5 X6 X7 X8 : Option D), δ = [some (.ref a), some lsd, some (.ref p2), some (.ref p3), X4, X5, X6, X7, X8] ∧ St M a M' ∧ M' p2 = some (.lst (rows.map .str)) ∧ M' p3 = some (.lst told) ∧ ls = done ++ r ∧ told.length = done.length ∧ RowsB rows done (rowCap done)) ?_ ?_ ls _ _ ⟨[], [], [], none, none, none, none, none, rfl, s3, by rw [up_ne d23.symm, up_same]; rfl, up_same, rfl, rfl, rowsB_nil⟩
  · rintro l r δ M1 ⟨done, rows, told, X4, X5, X6, X7, X8, rfl, st1, h2, h3, hdn, htl, hrb⟩
    refine ⟨trivial, fun nx hnx => ?_⟩
    have hlm : l ∈ ls := by rw [hdn]; simp
    obtain ⟨hwl, hne, htok⟩ := hw l hlm
    have hcap : rowCap done + (3 * wt l + 20) ≤ 3300000 := by
      have e1 := rowCap_eq ls
      have e2 : rowCap ls = rowCap done + (3 * wt l + 20) + rowCap r := by rw [hdn, rowCap_app]; simp [rowCap]; omega
      omega
    have hdl : done.length ≤ 10000 := by rw [hdn, List.length_append] at hl; omega
    simp [lineL]
    refine ⟨a, _, _, rfl, st1.dr, row_lst (by simp) (by simp), fun M2 x hx hn2 => ?_⟩
    have st2 := st1.next hn2
    obtain ⟨n, rfl, hn⟩ := pick_nat (l := [0, 0, 0, 1, 0, 2]) hx (b := 2) (by decide)
    simp
    refine ⟨by omega, ?_⟩
    try unfold rangeD
    try simp only [Int.zero_add]
    refine for_rule (enc := fun i : Nat => .int (i : Nat)) (fun r2 δ M' => ∃ (rows : List Str) (X5 : Option D), δ = [some (.ref a), some lsd, some (.ref p2), some (.ref p3), some (rowD l), X5, X6, X7, X8] ∧ St M a M' ∧ M' p2 = some (.lst (rows.map .str)) ∧ M' p3 = some (.lst told) ∧ r2.length ≤ 2 ∧ RowsB rows done (rowCap done + 3 * (2 - r2.length))) ?_ ?_ (List.range n) _ _ ⟨rows, X5, rfl, st2, (hn2.2 p2 a2).trans h2, (hn2.2 p3 a3).trans h3, by simpa using hn, ⟨hrb.ex, hrb.nl, by have := hrb.len; omega⟩⟩
    · rintro k r2 δ M3 ⟨rows, X5, rfl, st3, g2, g3, hr2, hb⟩
      refine ⟨trivial, fun nx2 hnx2 => ?_⟩
      rw [List.length_cons] at hr2 hb
      simp [s_tyr g2]
      refine ⟨a, 3, rfl, by decide, st3.dr, fun M4 i i1 i2 hn4 => ?_⟩
      have st4 := st3.next hn4
      have f2 : M4 p2 = some (.lst (rows.map .str)) := (hn4.2 p2 a2).trans g2
      have f3 : M4 p3 = some (.lst told) := (hn4.2 p3 a3).trans g3
      obtain ⟨b1, b2, b3⟩ := blank_ok i (by omega)
      dsimp only
      rw [s_mulS, one_len]
      refine ⟨by omega, by omega, by omega, ?_⟩
      rw [s_cell f2, wC_some]
      have hrl : rows.length ≤ 3300000 := by have := hb.len; omega
      refine ⟨by rw [List.length_map, lineL]; omega, hnx2 _ _ ⟨rows ++ [repS (Str.ofString " ") i], _, rfl, st4.put a2 hp2 _, by rw [up_same]; simp, by rw [up_ne d23]; exact f3, by omega, ?_⟩⟩
      have := hb.snoc b1 b2 (rowCap done + 3 * (2 - r2.length)) (by omega)
      simpa using this
    rintro δ M3 ⟨rows, X5, rfl, st3, g2, g3, hr2, hb⟩
    refine ⟨trivial, ?_⟩
    simp [lineL]
    refine ⟨a, _, _, rfl, st3.dr, row_lst (by simp) (by simp), fun M4 x hx hn4 => ?_⟩
    have st4 := st3.next hn4
    obtain ⟨n4, rfl, hn4'⟩ := pick_nat (l := [0, 0, 2]) hx (b := 2) (by decide)
    dsimp only
    rw [s_mulS, one_len]
    refine ⟨by omega, by omega, by omega, ?_⟩
    intro p7 hp7
    have n7 := st4.fresh hp7
    have a7 := dr_ne st4.dr hp7
    have f2 : M4 p2 = some (.lst (rows.map .str)) := (hn4.2 p2 a2).trans g2
    have f3 : M4 p3 = some (.lst told) := (hn4.2 p3 a3).trans g3
    have d72 : p7 ≠ p2 := fun e => by rw [e, f2] at hp7; cases hp7
    have d73 : p7 ≠ p3 := fun e => by rw [e, f3] at hp7; cases hp7
    have b0 : Bld (repS (Str.ofString " ") (n4 : Int)) [] (2 + 3 * wt []) := Bld.start _ _ (by show _ ≤ 2 + 3 * 0; omega)
    have hwl3 : l.length ≤ wt l := wt_len l
    simp [rowD]
    refine for_rule (enc := D.str) (fun r3 δ M' => ∃ (dn : List Str) (T : Str) (pl : List Int) (X8 : Option D), δ = [some (.ref a), some lsd, some (.ref p2), some (.ref p3), some (.lst (l.map .str)), X5, some (.str T), some (.ref p7), X8] ∧ St M a M' ∧ M' p2 = some (.lst (rows.map .str)) ∧ M' p3 = some (.lst told) ∧ M' p7 = some (.lst (pl.map .int)) ∧ pl.length = dn.length ∧ l = dn ++ r3 ∧ Bld T dn (2 + 3 * wt dn)) ?_ ?_ l _ _ ⟨[], _, [], X8, rfl, st4.put a7 n7 _, by rw [up_ne d72.symm]; exact f2, by rw [up_ne d73.symm]; exact f3, up_same, rfl, rfl, b0⟩
    · rintro t r3 δ M5 ⟨dn, T, pl, X8, rfl, st5, k2, k3, k7, hpl, hl3, hb3⟩
      refine ⟨trivial, fun nx3 hnx3 => ?_⟩
      have ht := htok t (by rw [hl3]; simp)
      have hwt : wt l = wt dn + (t.length + 1 + wt r3) := by rw [hl3, wt_app, wt_cons]
      have hTl := hb3.len
      have hdn : dn.length ≤ wt dn := wt_len dn
      simp [s_lenr k7, lineL]
      refine ⟨a, _, _, rfl, st5.dr, row_lst (by simp) (by simp), fun M6 x hx hn6 => ?_⟩
      have st6 := st5.next hn6
      have m2 : M6 p2 = some (.lst (rows.map .str)) := (hn6.2 p2 a2).trans k2
      have m3 : M6 p3 = some (.lst told) := (hn6.2 p3 a3).trans k3
      have m7 : M6 p7 = some (.lst (pl.map .int)) := (hn6.2 p7 a7).trans k7
      obtain ⟨n6, rfl, hn6'⟩ := pick_nat (l := [0, 0, 2]) hx (b := 2) (by decide)
      obtain ⟨kk, hkk, hk1, hk2⟩ : ∃ kk : Nat, (if 0 < pl.length then 1 else 0 : Int) + (n6 : Int) = (kk : Nat) ∧ kk ≤ 3 ∧ (dn ≠ [] → 1 ≤ kk) := by
        by_cases h : pl = []
        · refine ⟨n6, by simp [h], by omega, fun hd => ?_⟩
          exfalso
          apply hd
          rw [h] at hpl
          exact List.length_eq_zero_iff.mp hpl.symm
        · exact ⟨1 + n6, by rw [if_pos (List.length_pos_iff.mpr h)]; omega, by omega, fun _ => by omega⟩
      have hB := hb3.fin (kk : Int) (m := 2 + 3 * wt dn + kk) (by omega)
      have hC := hb3.tok ht (kk : Int) (fun h => by have := hk2 h; omega) (m := 2 + 3 * wt (dn ++ [t])) (by rw [wt_app]; show _ ≤ 2 + 3 * (wt dn + (t.length + 1 + wt [])); omega)
      have hBl := hB.len
      have hCl := hC.len
      have hCw : wt (dn ++ [t]) ≤ wt l := by rw [wt_app, hwt]; show wt dn + (t.length + 1 + 0) ≤ _; omega
      rw [len_app] at hBl hCl
      rw [len_app] at hCl
      have hz : (repS (Str.ofString " ") (kk : Int)).length ≤ 16000000 := by omega
      dsimp only
      rw [s_addI, hkk]
      rw [s_mulS, one_len]
      refine ⟨by omega, by omega, by omega, ?_⟩
      rw [s_addS]
      refine ⟨by rw [lineL]; omega, s_tyr m7, (T ++ repS (Str.ofString " ") (kk : Int)).length, s_lens (by rw [lineL, len_app]; omega), ?_⟩
      rw [s_cell m7, wC_some]
      refine ⟨by rw [List.length_map]; omega, ?_⟩
      rw [s_addS]
      refine ⟨by rw [lineL, len_app]; omega, hnx3 _ _ ⟨dn ++ [t], _, pl ++ [((T ++ repS (Str.ofString " ") (kk : Int)).length : Int)], _, rfl, st6.put a7 n7 _, by rw [up_ne d72.symm]; exact m2, by rw [up_ne d73.symm]; exact m3, by rw [up_same]; simp, by simp [hpl], by rw [hl3]; simp, hC⟩⟩
    · rintro δ M5 ⟨dn, T, pl, X8, rfl, st5, k2, k3, k7, hpl, hl3, hb3⟩
      refine ⟨trivial, ?_⟩
      rw [List.append_nil] at hl3
      subst hl3
      have hTl := hb3.len
      simp [lineL]
      refine ⟨a, _, _, rfl, st5.dr, row_lst (by simp) (by simp), fun M6 x hx hn6 => ?_⟩
      have st6 := st5.next hn6
      have m2 : M6 p2 = some (.lst (rows.map .str)) := (hn6.2 p2 a2).trans k2
      have m3 : M6 p3 = some (.lst told) := (hn6.2 p3 a3).trans k3
      obtain ⟨n6, rfl, hn6'⟩ := pick_nat (l := [0, 0, 1]) hx (b := 1) (by decide)
      dsimp only
      rw [s_mulS, one_len]
      refine ⟨by omega, by omega, by omega, ?_⟩
      have hfin := hb3.fin (n6 : Int) (m := 3 + 3 * wt l) (by omega)
      have hfl := hfin.len
      have hfl' := hfl
      rw [len_app] at hfl'
      have hrl : rows.length ≤ 3300000 := by have := hb.len; omega
      have e3 : told.length ≤ 10000 := by omega
      rw [s_addS]
      refine ⟨by rw [lineL]; omega, s_tyr m3, rows.length, by rw [s_lenr m2, List.length_map], _, s_lens (by rw [lineL]; omega), ?_⟩
      rw [s_cell m3, wC_some]
      have up2 : ∀ x, up M6 p3 x p2 = some (.lst (rows.map .str)) := fun x => by rw [up_ne d23.symm]; exact m2
      refine ⟨by omega, s_tyr (up2 _), ?_⟩
      rw [s_cell (up2 _), wC_some]
      refine ⟨by rw [List.length_map]; omega, hnx _ _ ⟨done ++ [l], rows ++ [T ++ repS (Str.ofString " ") (n6 : Int)], told ++ [.lst [.int rows.length, .ref p7, .int (T ++ repS (Str.ofString " ") (n6 : Int)).length]], _, _, _, _, _, rfl, (st6.put a3 hp3' _).put a2 hp2 _, by rw [up_same]; simp, by rw [up_ne d23, up_same], by rw [hdn]; simp, by simp [htl], ?_⟩⟩
      have hr := hb.snoc (hfin.spaced (by rw [lineL]; omega)) hfin.nl (rowCap (done ++ [l])) (by rw [rowCap_app]; simp [rowCap] at *; omega)
      rw [if_neg hne] at hr
      exact hr
  · rintro δ M1 ⟨done, rows, told, X4, X5, X6, X7, X8, rfl, st1, h2, h3, hdn, htl, hrb⟩
    refine ⟨trivial, ?_⟩
    rw [List.append_nil] at hdn
    subst hdn
    have hcap := rowCap_eq ls
    simp [lineL]
    refine ⟨a, _, _, rfl, st1.dr, row_lst (by simp) (by simp), fun M2 x hx hn2 => ?_⟩
    have st2 := st1.next hn2
    obtain ⟨n, rfl, hn⟩ := pick_nat (l := [0, 0, 1]) hx (b := 1) (by decide)
    dsimp only
    refine ⟨n, rfl, by omega, by omega, ?_⟩
    rw [Int.toNat_natCast]
    unfold rangeD
    simp only [Int.zero_add]
    refine for_rule (enc := fun i : Nat => .int (i : Nat)) (fun r2 δ M' => ∃ (rows : List Str) (X5 : Option D), δ = [some (.ref a), some lsd, some (.ref p2), some (.ref p3), X4, X5, X6, X7, X8] ∧ St M a M' ∧ M' p2 = some (.lst (rows.map .str)) ∧ r2.length ≤ 1 ∧ RowsB rows ls (rowCap ls + 3 * (1 - r2.length))) ?_ ?_ (List.range n) _ _ ⟨rows, X5, rfl, st2, (hn2.2 p2 a2).trans h2, by simpa using hn, ⟨hrb.ex, hrb.nl, by have := hrb.len; omega⟩⟩
    · rintro k r2 δ M3 ⟨rows, X5, rfl, st3, g2, hr2, hb⟩
      refine ⟨trivial, fun nx2 hnx2 => ?_⟩
      rw [List.length_cons] at hr2 hb
      have hrl : rows.length ≤ 3300000 := by have := hb.len; omega
      simp [s_tyr g2]
      rw [s_cell g2, wC_some]
      refine ⟨by rw [List.length_map, lineL]; omega, hnx2 _ _ ⟨rows ++ [Str.ofString "  "], _, rfl, st3.put a2 hp2 _, by rw [up_same]; simp, by omega, ?_⟩⟩
      have := hb.snoc (T := Str.ofString "  ") (ts := []) ⟨by rw [lineL]; decide, 2, [], by decide, rfl⟩ (by decide) (rowCap ls + 3 * (1 - r2.length)) (by show _ + 2 + 1 ≤ _; omega)
      simpa using this
    rintro δ M3 ⟨rows, X5, rfl, st3, g2, hr2, hb⟩
    refine ⟨trivial, ?_⟩
    have hrl : rows.length ≤ 3300000 := by have := hb.len; omega
    have hlen := hb.len
    simp [s_lenr g2]
    have hj := len_joinNl rows
    refine ⟨rows, s_seqr g2, by rw [show (Str.ofString "\n").length = 1 from rfl]; omega, ?_⟩
    have hz := hb.rows (by rw [lineL]; omega)
    exact .inl ⟨1, _, rfl, by rw [lineL]; omega, st3.out hd fun M0 h0 => q M0 _ _ hz h0⟩
end Ht
set_option Elab.async false
set_option linter.all false
set_option maxRecDepth 100000
namespace Ht
open PySem PySem.Spec PyProof.Rows L2
theorem kf_snoc {w : Str} {a : Option Str} : ∀ (ks : List (Str × Option Str)) (ah : List Str) (i : Nat), kindFault ah i ks = none → w ∉ ah → w ∉ ks.map (·.1) → (∀ x, a = some x → x ∈ ah ∨ x ∈ ks.map (·.1)) → kindFault ah i (ks ++ [(w, a)]) = none
  | [], ah, i, _, h1, _, h3 => by
    show kindFault ah i [(w, a)] = none
    rw [kindFault, if_neg]
    · rfl
    · rw [not_or]
      refine ⟨h1, fun ⟨x, e, hx⟩ => hx ?_⟩
      rcases h3 x e with h | h
      · exact h
      · cases h
  | (v, b) :: r, ah, i, h, h1, h2, h3 => by
    rw [kindFault] at h
    split at h
    · cases h
    · rename_i h0
      show kindFault ah i ((v, b) :: (r ++ [(w, a)])) = none
      rw [kindFault, if_neg h0]
      rw [List.map_cons, List.mem_cons, not_or] at h2
      refine kf_snoc r _ _ h ?_ h2.2 fun x e => ?_
      · rw [List.mem_append, not_or]
        exact ⟨h1, by simpa using h2.1⟩
      · rcases h3 x e with q | q
        · exact .inl (List.mem_append.mpr (.inl q))
        · rw [List.map_cons] at q
          rcases List.mem_cons.mp q with q | q
          · exact .inl (List.mem_append.mpr (.inr (by simp [q])))
          · exact .inr q
theorem rf_none {t : Told} : ∀ (rs : List (Str × List Str)) (ah : List Str) (i : Nat), (rs.map (·.1)).Nodup → (∀ r ∈ rs, r.1 ∉ ah) → (∀ r ∈ rs, ∀ p ∈ r.2, (t.lookup p).isSome) → relFault t ah i rs = none
  | [], _, _, _, _, _ => rfl
  | (w, ps) :: r, ah, i, h1, h2, h3 => by
    rw [List.map_cons, List.nodup_cons] at h1
    rw [relFault, if_neg]
    · refine rf_none r _ _ h1.2 (fun q hq => ?_) fun q hq => h3 q (List.mem_cons_of_mem _ hq)
      rw [List.mem_append, not_or]
      exact ⟨h2 q (List.mem_cons_of_mem _ hq), fun e => h1.1 (by rw [← List.mem_singleton.mp e]; exact List.mem_map.mpr ⟨q, hq, rfl⟩)⟩
    · rw [not_or]
      exact ⟨h2 _ List.mem_cons_self, fun z => z (h3 _ List.mem_cons_self)⟩
theorem df_none {t : Told} : ∀ (rs : List Deed) (ah : List Str) (i : Nat), (rs.map (·.w)).Nodup → (∀ r ∈ rs, r.w ∉ ah) → (∀ r ∈ rs, (r.vs.map (·.1)).Nodup ∧ ∀ p ∈ r.vs, (t.lookup p.2).isSome) → deedFault t ah i rs = none
  | [], _, _, _, _, _ => rfl
  | d :: r, ah, i, h1, h2, h3 => by
    rw [List.map_cons, List.nodup_cons] at h1
    have h := h3 d List.mem_cons_self
    rw [deedFault, if_neg]
    · refine df_none r _ _ h1.2 (fun q hq => ?_) fun q hq => h3 q (List.mem_cons_of_mem _ hq)
      rw [List.mem_append, not_or]
      exact ⟨h2 q (List.mem_cons_of_mem _ hq), fun e => h1.1 (by rw [← List.mem_singleton.mp e]; exact List.mem_map.mpr ⟨q, hq, rfl⟩)⟩
    · rw [not_or, not_or]
      exact ⟨h2 _ List.mem_cons_self, fun z => z h.1, fun z => z h.2⟩
theorem known_in {ks : List (Str × Option Str)} (h : kindFault [] 0 ks = none) {k : Str} (hk : k ∈ ks.map (·.1)) : ((kAbove [] ks).lookup k).isSome := by
  obtain ⟨p, hp, rfl⟩ := List.mem_map.mp hk
  obtain ⟨l, h1, _⟩ := above_facts ks [] [] 0 h (fun x => by simp) p hp
  rw [h1]; rfl
structure Parts (ws : List Str) (x : Dom) : Prop where
  w : WordsOk ws
  k1 : 0 < x.ks.length
  k2 : x.ks.length ≤ 6
  kn : x.ks.map (·.1) = ws.take x.ks.length
  kf : kindFault [] 0 x.ks = none
  r1 : 2 ≤ x.rs.length
  r2 : x.rs.length ≤ 8
  rn : x.rs.map (·.1) = (ws.drop 6).take x.rs.length
  rp : ∀ r ∈ x.rs, r.2.length ≤ 3 ∧ ∀ p ∈ r.2, p ∈ x.ks.map (·.1)
  d1 : x.ds.length ≤ 3
  dn : x.ds.map (·.w) = (ws.drop 14).take x.ds.length
  dd : ∀ d ∈ x.ds, DeedIn x.ks x.rs ws d
section
variable {ws : List Str} {x : Dom} (P : Parts ws x)
include P
theorem Parts.kw {k : Str} (h : k ∈ x.ks.map (·.1)) : k ∈ ws := by rw [P.kn] at h; exact List.mem_of_mem_take h
theorem Parts.rw_ {k : Str} (h : k ∈ x.rs.map (·.1)) : k ∈ ws := by rw [P.rn] at h; exact List.mem_of_mem_drop (List.mem_of_mem_take h)
theorem Parts.dw {k : Str} (h : k ∈ x.ds.map (·.w)) : k ∈ ws := by rw [P.dn] at h; exact List.mem_of_mem_drop (List.mem_of_mem_take h)
theorem Parts.vw {d : Deed} (hd : d ∈ x.ds) {v : Str} (h : v ∈ d.vs.map (·.1)) : v ∈ ws := by
  have := (P.dd d hd).2.1
  rw [this] at h; exact List.mem_of_mem_drop (List.mem_of_mem_take h)
theorem Parts.aw {d : Deed} (hd : d ∈ x.ds) {a : Atom} (ha : AtomIn x.ks x.rs d.vs a) : a.w ∈ ws ∧ (∀ u ∈ a.ws, u ∈ ws) ∧ a.ws.length ≤ 3 := by
  obtain ⟨⟨ps, h1, _⟩, h2, h3⟩ := ha
  exact ⟨P.rw_ (List.mem_map.mpr ⟨_, lookup_mem h1, rfl⟩), fun u hu => P.vw hd (h3 u hu), h2⟩
theorem Parts.ok : x.ok := by
  have hk := fun {k : Str} (h : k ∈ x.ks.map (·.1)) => known_in P.kf h
  have rn : (x.rs.map (·.1)).Nodup := by rw [P.rn]; exact (List.take_sublist_take_left P.r2).nodup P.w.2.2.2.1
  have dn : (x.ds.map (·.w)).Nodup := by rw [P.dn]; exact (List.take_sublist_take_left P.d1).nodup P.w.2.2.2.2.1
  have vs : ∀ d ∈ x.ds, (d.vs.map (·.1)).Nodup ∧ ∀ p ∈ d.vs, p.2 ∈ x.ks.map (·.1) := fun d hd => (P.dd d hd).1.2
  have look : ∀ d ∈ x.ds, ∀ w ∈ d.vs.map (·.1), (d.vs.lookup w).isSome := fun d hd w hw => by
    obtain ⟨a, h⟩ := look_key hw
    rw [h]; rfl
  have at_ : ∀ (d : Deed), d ∈ x.ds → ∀ a, AtomIn x.ks x.rs d.vs a → atomOk x d a := fun d _ a ha => ha.1
  have plains : ∀ d ∈ x.ds, ∀ p ∈ d.plains, PlainIn x.ks x.rs d.vs p := fun d hd p hp => by
    obtain ⟨_, _, _, hc, _, he, _⟩ := P.dd d hd
    unfold Deed.plains at hp
    rcases List.mem_append.mp hp with hp | hp
    · obtain ⟨k, hk, hp⟩ := List.mem_flatMap.mp hp
      rcases hc k hk with ⟨q, rfl, hq⟩ | ⟨qs, rfl, _, _, hq⟩
      · rw [List.mem_singleton.mp (show p ∈ [q] from hp)]; exact hq
      · exact hq p hp
    · obtain ⟨e, he', hp⟩ := List.mem_flatMap.mp hp
      exact (he e he').2.2.2 p hp
  refine ⟨P.kf, rf_none _ _ _ rn (by simp) fun r hr p hp => hk ((P.rp r hr).2 p hp), df_none _ _ _ dn (by simp) fun d hd => ⟨(vs d hd).1, fun p hp => hk ((vs d hd).2 p hp)⟩, fun d hd => ⟨fun a ha => ?_, fun p hp w hw => ?_⟩, fun d hd => ?_⟩
  · unfold Deed.atoms at ha
    rcases List.mem_append.mp ha with ha | ha
    · obtain ⟨p, hp, ha⟩ := List.mem_flatMap.mp ha
      have hq := plains d hd p hp
      cases p with
      | fact n b => rw [List.mem_singleton.mp (show a ∈ [b] from ha)]; exact at_ d hd _ hq.2
      | two n a b => cases ha
    · obtain ⟨e, he, rfl⟩ := List.mem_map.mp ha
      exact at_ d hd _ ((P.dd d hd).2.2.2.2.2.1 e he).2.1
  · have hq := plains d hd p hp
    cases p with
    | fact n b => cases hw
    | two n a b =>
      refine look d hd w ?_
      rcases List.mem_cons.mp (show w ∈ [a, b] from hw) with e | e
      · rw [e]; exact hq.2.1
      · rw [List.mem_singleton.mp e]; exact hq.2.2
  · unfold costOk
    rcases (P.dd d hd).2.2.2.2.2.2 with ⟨i, e, h⟩ | ⟨w, us, e, _, _, h⟩
    · rw [e]
      show 0 ≤ i
      rcases h with h | h | h | h <;> rw [h] <;> decide
    · rw [e]
      exact fun u hu => look d hd u (h u hu)
def shortL (n : Nat) (l : List Str) : Prop := (∀ t ∈ l, t.length ≤ 64) ∧ l.length ≤ n
omit P in
theorem wt_short {n : Nat} {l : List Str} (h : shortL n l) : wt l ≤ 65 * n := by
  obtain ⟨h1, h2⟩ := h
  have : ∀ l : List Str, (∀ t ∈ l, t.length ≤ 64) → wt l ≤ 65 * l.length := by
    intro l
    induction l with
    | nil => intro _; exact Nat.le_refl _
    | cons t r ih =>
      intro h
      have a := h t List.mem_cons_self
      have b := ih fun u hu => h u (List.mem_cons_of_mem _ hu)
      rw [wt_cons, List.length_cons]; omega
  have := this l h1
  omega
omit P in
theorem shortL.cons {n : Nat} {t : Str} {l : List Str} (ht : t.length ≤ 64) (h : shortL n l) : shortL (n + 1) (t :: l) := ⟨fun u hu => by
  rcases List.mem_cons.mp hu with e | e
  · rw [e]; exact ht
  · exact h.1 u e, by rw [List.length_cons]; have := h.2; omega⟩
omit P in
theorem shortL.app {n m : Nat} {a b : List Str} (h : shortL n a) (h2 : shortL m b) : shortL (n + m) (a ++ b) := ⟨fun u hu => by
  rcases List.mem_append.mp hu with e | e
  · exact h.1 u e
  · exact h2.1 u e, by rw [List.length_append]; have := h.2; have := h2.2; omega⟩
omit P in
theorem shortL.mono {n m : Nat} {l : List Str} (h : shortL n l) (k : n ≤ m) : shortL m l := ⟨h.1, Nat.le_trans h.2 k⟩
omit P in
theorem shortL.nil : shortL 0 [] := ⟨by simp, by simp⟩
theorem Parts.short {t : Str} (h : t ∈ ws) : t.length ≤ 64 := (P.w.2.1 t h).2
theorem Parts.sw {n : Nat} {l : List Str} (h : ∀ t ∈ l, t ∈ ws) (hl : l.length ≤ n) : shortL n l := ⟨fun t ht => P.short (h t ht), hl⟩
omit P in
theorem kw_len : ∀ t ∈ (["kind", "relation", "deed", "if", "comes", "goes", "cost", "by", "either", "or", "and", "when", "yes", "no", "same", "unlike"] : List Str), t.length ≤ 64 := by decide +kernel
theorem Parts.spl {d : Deed} (hd : d ∈ x.ds) {p : Plain} (hp : PlainIn x.ks x.rs d.vs p) : shortL 5 p.toks := by
  cases p with
  | fact n a =>
    obtain ⟨h1, h2, h3⟩ := P.aw hd hp.2
    have hn : n.length ≤ 64 := by rcases hp.1 with e | e <;> rw [e] <;> decide +kernel
    exact .cons hn (.cons (P.short h1) (P.sw h2 h3))
  | two n a b =>
    have hn : n.length ≤ 64 := by rcases hp.1 with e | e <;> rw [e] <;> decide +kernel
    exact (shortL.cons hn (.cons (P.short (P.vw hd hp.2.1)) (.cons (P.short (P.vw hd hp.2.2)) .nil))).mono (by omega)
theorem Parts.srow {d : Deed} (hd : d ∈ x.ds) {m : Str} (hm : m.length ≤ 64) : ∀ {ps : List Plain}, (∀ p ∈ ps, PlainIn x.ks x.rs d.vs p) → shortL (6 * ps.length) (rowToks m ps)
  | [], _ => .nil
  | [p], h => (P.spl hd (h p (by simp))).mono (by simp)
  | p :: q :: r, h => by
    have ih := Parts.srow hd hm (ps := q :: r) fun u hu => h u (List.mem_cons_of_mem _ hu)
    exact ((P.spl hd (h p (by simp))).app (.cons hm ih)).mono (by simp; omega)
theorem Parts.scost {d : Deed} (hd : d ∈ x.ds) : shortL 8 d.c.toks := by
  rcases (P.dd d hd).2.2.2.2.2.2 with ⟨i, e, h⟩ | ⟨w, us, e, hw, hl, h⟩
  · rw [e]
    have : (toString i : Str).length ≤ 64 := by rcases h with h | h | h | h <;> rw [h] <;> decide +kernel
    exact (shortL.cons (by decide +kernel) (.cons this .nil)).mono (by omega)
  · rw [e]
    exact (shortL.cons (by decide +kernel) (.cons (by decide +kernel) (.cons (P.short (List.mem_of_getElem? hw)) (P.sw (fun u hu => P.vw hd (h u hu)) hl)))).mono (by omega)
theorem Parts.sdeed {d : Deed} (hd : d ∈ x.ds) : (∀ l ∈ d.lines, shortL 30 l) ∧ d.lines.length ≤ 8 := by
  obtain ⟨hv, hvn, hc1, hc, he1, he, _⟩ := P.dd d hd
  constructor
  · intro l hl
    unfold Deed.lines at hl
    rcases List.mem_append.mp hl with hl | hl
    · rcases List.mem_append.mp hl with hl | hl
      · rcases List.mem_cons.mp hl with e | hl
        · rw [e]
          have hvk : ∀ t ∈ d.vs.flatMap (fun p => [p.1, p.2]), t ∈ ws := fun t ht => by
            obtain ⟨p, hp, ht⟩ := List.mem_flatMap.mp ht
            rcases List.mem_cons.mp ht with e | e
            · rw [e]; exact P.vw hd (List.mem_map.mpr ⟨p, hp, rfl⟩)
            · rw [List.mem_singleton.mp e]; exact P.kw (hv.2.2 p hp)
          have hlen : (d.vs.flatMap fun p => [p.1, p.2]).length ≤ 8 := by
            have := hv.1
            have e : ∀ l : List (Str × Str), (l.flatMap fun p => [p.1, p.2]).length = 2 * l.length := by
              intro l
              induction l with
              | nil => rfl
              | cons a r ih => simp at ih ⊢; omega
            rw [e]; omega
          exact (shortL.cons (by decide +kernel) (.cons (P.short (P.dw (List.mem_map.mpr ⟨d, hd, rfl⟩))) (P.sw hvk hlen))).mono (by omega)
        · obtain ⟨k, hk, rfl⟩ := List.mem_map.mp hl
          rcases hc k hk with ⟨p, rfl, hp⟩ | ⟨ps, rfl, _, hl3, hp⟩
          · exact (shortL.cons (by decide +kernel) (P.spl hd hp)).mono (by omega)
          · exact (shortL.cons (by decide +kernel) (.cons (by decide +kernel) (P.srow hd (by decide +kernel) hp))).mono (by omega)
      · obtain ⟨e, he', rfl⟩ := List.mem_map.mp hl
        obtain ⟨h1, h2, h3, h4⟩ := he e he'
        obtain ⟨a1, a2, a3⟩ := P.aw hd h2
        have hn : e.n.length ≤ 64 := by rcases h1 with e | e <;> rw [e] <;> decide +kernel
        have h5 : shortL 20 (if e.when_.isEmpty then [] else ("when" : Str) :: rowToks "and" e.when_) := by
          split
          · exact shortL.nil.mono (by omega)
          · exact (shortL.cons (by decide +kernel) (P.srow hd (by decide +kernel) h4)).mono (by omega)
        exact ((shortL.cons hn (.cons (P.short a1) (P.sw a2 a3))).app h5).mono (by omega)
    · rw [List.mem_singleton.mp hl]; exact (P.scost hd).mono (by omega)
  · simp [Deed.lines]; omega
end
end Ht
set_option Elab.async false
set_option linter.all false
set_option maxRecDepth 100000
namespace Ht
open PySem PySem.Spec PyProof.Rows L2
theorem wok_tok {t : Str} (h : isWord t = true) : tokOk t := by
  unfold isWord at h
  obtain ⟨h1, h2⟩ := Bool.and_eq_true_iff.mp h
  have h1 := of_decide_eq_true h1
  rw [List.all_eq_true] at h2
  refine ⟨fun e => ?_, fun e => ?_, fun e => ?_⟩
  · rw [← len_list, e] at h1; exact absurd h1 (by simp)
  · have := of_decide_eq_true (h2 _ e)
    revert this; decide +kernel
  · have := of_decide_eq_true (h2 _ e)
    revert this; decide +kernel
theorem kw_tok : ∀ t ∈ (["kind", "relation", "deed", "if", "comes", "goes", "cost", "by", "either", "or", "and", "when", "yes", "no", "same", "unlike"] : List Str), tokOk t := by
  have : ∀ t ∈ (["kind", "relation", "deed", "if", "comes", "goes", "cost", "by", "either", "or", "and", "when", "yes", "no", "same", "unlike"] : List Str), t.cps.toList ≠ [] ∧ 32 ∉ t.cps.toList ∧ 10 ∉ t.cps.toList := by decide +kernel
  exact this
theorem sum_const_le {α : Type} (f : α → Nat) (k : Nat) : ∀ l : List α, (∀ a ∈ l, f a ≤ k) → (l.map f).sum ≤ k * l.length
  | [], _ => Nat.zero_le _
  | a :: r, h => by
    have h1 := h a List.mem_cons_self
    have h2 := sum_const_le f k r fun b hb => h b (List.mem_cons_of_mem _ hb)
    rw [List.map_cons, List.sum_cons, List.length_cons, Nat.mul_succ]; omega
theorem flat_le {α β : Type} (f : α → List β) (k : Nat) : ∀ l : List α, (∀ a ∈ l, (f a).length ≤ k) → (l.flatMap f).length ≤ k * l.length
  | [], _ => Nat.zero_le _
  | a :: r, h => by
    have h1 := h a List.mem_cons_self
    have h2 := flat_le f k r fun b hb => h b (List.mem_cons_of_mem _ hb)
    rw [List.flatMap_cons, List.length_append, List.length_cons, Nat.mul_succ]; omega
theorem PlainIn.ok {ks : List (Str × Option Str)} {rs : List (Str × List Str)} {vs : List (Str × Str)} {p : Plain} (h : PlainIn ks rs vs p) : p.ok := by
  cases p with
  | fact n a => exact h.1
  | two n a b => exact h.1
section
variable {ws : List Str} {x : Dom} (P : Parts ws x)
include P
theorem Parts.dsmall {d : Deed} (hd : d ∈ x.ds) : d.small := by
  obtain ⟨hv, hvn, hc1, hc, he1, he, hcost⟩ := P.dd d hd
  obtain ⟨hl, hl2⟩ := P.sdeed hd
  have ha : ∀ a ∈ d.atoms, a.ws.length ≤ 3 := fun a ha => by
    unfold Deed.atoms at ha
    rcases List.mem_append.mp ha with ha | ha
    · obtain ⟨p, hp, ha⟩ := List.mem_flatMap.mp ha
      have hq : PlainIn x.ks x.rs d.vs p := by
        unfold Deed.plains at hp
        rcases List.mem_append.mp hp with hp | hp
        · obtain ⟨k, hk, hp⟩ := List.mem_flatMap.mp hp
          rcases hc k hk with ⟨q, rfl, hq⟩ | ⟨qs, rfl, _, _, hq⟩
          · rw [List.mem_singleton.mp (show p ∈ [q] from hp)]; exact hq
          · exact hq p hp
        · obtain ⟨e, he', hp⟩ := List.mem_flatMap.mp hp
          exact (he e he').2.2.2 p hp
      cases p with
      | fact n b => rw [List.mem_singleton.mp (show a ∈ [b] from ha)]; exact hq.2.2.1
      | two n a b => cases ha
    · obtain ⟨e, he', rfl⟩ := List.mem_map.mp ha
      exact (he e he').2.1.2.1
  refine ⟨by have := hv.1; omega, by omega, by omega, ?_, fun a h => by have := ha a h; omega, fun l h => by have := wt_short (hl l h); omega, ⟨fun k hk => ?_, fun e he' p hp => ((he e he').2.2.2 p hp).ok⟩, fun ps hps => ?_, fun i e => ?_⟩
  · have h1 := flat_le Cond.plains 3 d.cs fun k hk => by
      rcases hc k hk with ⟨q, rfl, hq⟩ | ⟨qs, rfl, _, h3, hq⟩
      · show 1 ≤ 3; omega
      · exact h3
    have h2 := flat_le (fun e : Eff => e.when_) 3 d.es fun e he' => (he e he').2.2.1
    unfold Deed.plains
    rw [List.length_append]; omega
  · rcases hc k hk with ⟨q, rfl, hq⟩ | ⟨qs, rfl, _, h3, hq⟩
    · exact hq.ok
    · exact fun p hp => (hq p hp).ok
  · rcases hc _ hps with ⟨q, e, hq⟩ | ⟨qs, e, h, h3, hq⟩
    · cases e
    · cases e; exact h
  · rcases hcost with ⟨j, e2, h⟩ | ⟨w, us, e2, _⟩
    · rw [e] at e2; cases e2
      rcases h with h | h | h | h <;> rw [h] <;> decide +kernel
    · rw [e] at e2; cases e2
theorem Parts.slines : (∀ l ∈ x.lines, shortL 30 l) ∧ x.lines.length ≤ 40 := by
  constructor
  · intro l hl
    unfold Dom.lines at hl
    rcases List.mem_append.mp hl with hl | hl
    · rcases List.mem_append.mp hl with hl | hl
      · obtain ⟨⟨w, a⟩, hk, rfl⟩ := List.mem_map.mp hl
        have hw := P.short (P.kw (List.mem_map.mpr ⟨_, hk, rfl⟩))
        cases a with
        | none => exact (shortL.cons (by decide +kernel) (.cons hw .nil)).mono (by omega)
        | some a =>
          have ha : a ∈ x.ks.map (·.1) := by
            rcases (kinds_nodup x.ks [] 0 P.kf).2.2 _ hk a rfl with h | h
            · cases h
            · exact h
          exact (shortL.cons (by decide +kernel) (.cons hw (.cons (P.short (P.kw ha)) .nil))).mono (by omega)
      · obtain ⟨⟨w, ps⟩, hr, rfl⟩ := List.mem_map.mp hl
        have hw := P.short (P.rw_ (List.mem_map.mpr ⟨_, hr, rfl⟩))
        obtain ⟨h1, h2⟩ := P.rp _ hr
        exact (shortL.cons (by decide +kernel) (.cons hw (P.sw (fun t ht => P.kw (h2 t ht)) h1))).mono (by omega)
    · obtain ⟨d, hd, hl⟩ := List.mem_flatMap.mp hl
      exact (P.sdeed hd).1 l hl
  · have := flat_le Deed.lines 8 x.ds fun d hd => (P.sdeed hd).2
    have := P.k2; have := P.r2; have := P.d1
    unfold Dom.lines
    rw [List.length_append, List.length_append, List.length_map, List.length_map]; omega
theorem Parts.small : x.small := by
  obtain ⟨h1, h2⟩ := P.slines
  have hw : ∀ l ∈ x.lines, wt l ≤ 1950 := fun l hl => by have := wt_short (h1 l hl); omega
  have := sum_const_le wt 1950 x.lines hw
  exact ⟨by have := P.k2; omega, by have := P.r2; omega, by have := P.d1; omega, fun r hr => by have := (P.rp r hr).1; omega, fun d hd => P.dsmall hd, by omega, fun l hl => by have := hw l hl; omega, by omega⟩
theorem Parts.wok {t : Str} (h : t ∈ ws) : wordOk t := (P.w.2.1 t h).1
theorem Parts.ard {d : Deed} (hd : d ∈ x.ds) {a : Atom} (ha : AtomIn x.ks x.rs d.vs a) : a.rd := by
  obtain ⟨h1, h2, _⟩ := P.aw hd ha
  exact ⟨P.wok h1, fun u hu => P.wok (h2 u hu)⟩
theorem Parts.prd {d : Deed} (hd : d ∈ x.ds) {p : Plain} (hp : PlainIn x.ks x.rs d.vs p) : p.rd := by
  cases p with
  | fact n a => exact ⟨hp.1, P.ard hd hp.2⟩
  | two n a b => exact ⟨hp.1, P.wok (P.vw hd hp.2.1), P.wok (P.vw hd hp.2.2)⟩
theorem Parts.rd : x.rd := by
  refine ⟨fun k hk => ⟨P.wok (P.kw (List.mem_map.mpr ⟨k, hk, rfl⟩)), fun a ha => ?_⟩, fun r hr => ⟨P.wok (P.rw_ (List.mem_map.mpr ⟨r, hr, rfl⟩)), fun u hu => P.wok (P.kw ((P.rp r hr).2 u hu))⟩, fun d hd => ?_⟩
  · rcases (kinds_nodup x.ks [] 0 P.kf).2.2 _ hk a ha with h | h
    · cases h
    · exact P.wok (P.kw h)
  · obtain ⟨hv, hvn, hc1, hc, he1, he, hcost⟩ := P.dd d hd
    refine ⟨P.wok (P.dw (List.mem_map.mpr ⟨d, hd, rfl⟩)), fun p hp => ⟨P.wok (P.vw hd (List.mem_map.mpr ⟨p, hp, rfl⟩)), P.wok (P.kw (hv.2.2 p hp))⟩, fun k hk => ?_, fun e he' => ⟨(he e he').1, P.ard hd (he e he').2.1, fun p hp => P.prd hd ((he e he').2.2.2 p hp)⟩, ?_⟩
    · rcases hc k hk with ⟨q, rfl, hq⟩ | ⟨qs, rfl, h, _, hq⟩
      · exact P.prd hd hq
      · exact ⟨h, fun p hp => P.prd hd (hq p hp)⟩
    · rcases hcost with ⟨i, e, h⟩ | ⟨w, us, e, hw, _, h⟩
      · rw [e]
        show numOk i
        rcases h with h | h | h | h <;> rw [h] <;> exact ⟨by decide, by decide +kernel⟩
      · rw [e]; exact ⟨P.wok (List.mem_of_getElem? hw), fun u hu => P.wok (P.vw hd (h u hu))⟩
end
theorem num_tok {i : Int} (h : 0 ≤ i) : tokOk (toString i) := by
  obtain ⟨n, rfl⟩ := Int.eq_ofNat_of_zero_le h
  have e : (toString (n : Int) : Str).cps.toList = TL.numL n := TL.tl_num n
  exact ⟨by rw [e]; exact TL.numL_ne n, by rw [e]; exact TL.numL_free (by omega), by rw [e]; exact TL.numL_free (by omega)⟩
theorem Atom.rd.tok {a : Atom} (h : a.rd) : ∀ t ∈ a.w :: a.ws, tokOk t := fun t ht => by
  rcases List.mem_cons.mp ht with e | e
  · rw [e]; exact wok_tok h.1.1
  · exact wok_tok (h.2 t e).1
theorem Plain.rd.tok {p : Plain} (h : p.rd) : ∀ t ∈ p.toks, tokOk t := fun t ht => by
  cases p with
  | fact n a =>
    rcases List.mem_cons.mp (show t ∈ n :: a.w :: a.ws from ht) with e | e
    · rw [e]; rcases h.1 with e | e <;> rw [e] <;> exact kw_tok _ (by decide +kernel)
    · exact h.2.tok t e
  | two n a b =>
    rcases List.mem_cons.mp (show t ∈ [n, a, b] from ht) with e | e
    · rw [e]; rcases h.1 with e | e <;> rw [e] <;> exact kw_tok _ (by decide +kernel)
    rcases List.mem_cons.mp e with e | e
    · rw [e]; exact wok_tok h.2.1.1
    · rw [List.mem_singleton.mp e]; exact wok_tok h.2.2.1
theorem row_tok {m : Str} (hm : tokOk m) : ∀ {ps : List Plain}, (∀ p ∈ ps, p.rd) → ∀ t ∈ rowToks m ps, tokOk t
  | [], _, t, h => by cases h
  | [p], h, t, ht => (h p (by simp)).tok t ht
  | p :: q :: r, h, t, ht => by
    rcases List.mem_append.mp (show t ∈ p.toks ++ m :: rowToks m (q :: r) from ht) with e | e
    · exact (h p (by simp)).tok t e
    · rcases List.mem_cons.mp e with e | e
      · rw [e]; exact hm
      · exact row_tok hm (ps := q :: r) (fun u hu => h u (List.mem_cons_of_mem _ hu)) t e
theorem Dom.rd.tok {x : Dom} (h : x.rd) : ∀ l ∈ x.lines, l ≠ [] ∧ ∀ t ∈ l, tokOk t := fun l hl => by
  have kw : ∀ {t : Str}, t ∈ (["kind", "relation", "deed", "if", "comes", "goes", "cost", "by", "either", "or", "and", "when", "yes", "no", "same", "unlike"] : List Str) → tokOk t := fun h => kw_tok _ h
  have cons : ∀ {t : Str} {r : List Str}, tokOk t → (∀ u ∈ r, tokOk u) → t :: r ≠ [] ∧ ∀ u ∈ t :: r, tokOk u := fun h1 h2 => ⟨by simp, fun u hu => by
    rcases List.mem_cons.mp hu with e | e
    · rw [e]; exact h1
    · exact h2 u e⟩
  unfold Dom.lines at hl
  rcases List.mem_append.mp hl with hl | hl
  · rcases List.mem_append.mp hl with hl | hl
    · obtain ⟨⟨w, a⟩, hk, rfl⟩ := List.mem_map.mp hl
      obtain ⟨h1, h2⟩ := h.ks _ hk
      cases a with
      | none => exact cons (kw (by decide +kernel)) (cons (wok_tok h1.1) (by simp)).2
      | some a => exact cons (kw (by decide +kernel)) (cons (wok_tok h1.1) (cons (wok_tok (h2 a rfl).1) (by simp)).2).2
    · obtain ⟨⟨w, ps⟩, hr, rfl⟩ := List.mem_map.mp hl
      obtain ⟨h1, h2⟩ := h.rs _ hr
      exact cons (kw (by decide +kernel)) (cons (wok_tok h1.1) fun u hu => wok_tok (h2 u hu).1).2
  · obtain ⟨d, hd, hl⟩ := List.mem_flatMap.mp hl
    have D := h.ds d hd
    unfold Deed.lines at hl
    rcases List.mem_append.mp hl with hl | hl
    · rcases List.mem_append.mp hl with hl | hl
      · rcases List.mem_cons.mp hl with e | hl
        · rw [e]
          refine cons (kw (by decide +kernel)) (cons (wok_tok D.w.1) fun u hu => ?_).2
          obtain ⟨p, hp, ht⟩ := List.mem_flatMap.mp hu
          rcases List.mem_cons.mp ht with e | e
          · rw [e]; exact wok_tok (D.vs p hp).1.1
          · rw [List.mem_singleton.mp e]; exact wok_tok (D.vs p hp).2.1
        · obtain ⟨k, hk, rfl⟩ := List.mem_map.mp hl
          have hk := D.cs k hk
          refine cons (kw (by decide +kernel)) ?_
          cases k with
          | one p => exact Plain.rd.tok hk
          | either ps => exact (cons (kw (by decide +kernel)) (row_tok (kw (by decide +kernel)) hk.2)).2
      · obtain ⟨e, he, rfl⟩ := List.mem_map.mp hl
        obtain ⟨h1, h2, h3⟩ := D.es e he
        have hn : tokOk e.n := by rcases h1 with e | e <;> rw [e] <;> exact kw (by decide +kernel)
        refine cons hn fun u hu => ?_
        rcases List.mem_append.mp (show u ∈ (e.a.w :: e.a.ws) ++ _ from hu) with q | q
        · exact h2.tok u q
        · split at q
          · cases q
          · exact (cons (kw (by decide +kernel)) (row_tok (kw (by decide +kernel)) h3)).2 u q
    · rw [List.mem_singleton.mp hl]
      have hc := D.c
      cases e : d.c with
      | num i =>
        rw [e] at hc
        have hc : numOk i := hc
        exact cons (kw (by decide +kernel)) (cons (num_tok hc.1) (by simp)).2
      | by_ w us =>
        rw [e] at hc
        exact cons (kw (by decide +kernel)) (cons (kw (by decide +kernel)) (cons (wok_tok hc.1.1) fun u hu => wok_tok (hc.2 u hu).1).2).2
theorem eqv_tup {n : Nat} {xs ys : List D} (hl : xs.length = ys.length) (small : xs.length ≤ 1000) (h : ∀ (i : Nat) (a b : D), xs[i]? = some a → ys[i]? = some b → Eqv n a b) : Eqv (n + 1) (.tup xs) (.tup ys) := .seq rfl rfl (fun _ => rfl) (fun _ => rfl) hl small h
theorem eqv_map {α : Type} {n : Nat} {f : α → D} {l : List α} (h : ∀ a ∈ l, Eqv n (f a) (f a)) (small : l.length ≤ 1000) : Eqv (n + 1) (.tup (l.map f)) (.tup (l.map f)) := eqv_tup rfl (by simpa using small) fun i a b ha hb => by
  rw [ha] at hb; cases hb
  obtain ⟨x, hx, rfl⟩ := List.mem_map.mp (List.mem_of_getElem? ha)
  exact h x hx
theorem eqv_mapP {α : Type} {n : Nat} {f : α → D} {l : List α} (h : ∀ a ∈ l, Eqv n (f a) (f a)) (small : l.length ≤ 1000) : Eqv (n + 1) (.tupP (l.map f)) (.tupP (l.map f)) := .seq rfl rfl (fun _ => rfl) (fun _ => rfl) rfl (by simpa using small) fun i a b ha hb => by
  rw [ha] at hb; cases hb
  obtain ⟨x, hx, rfl⟩ := List.mem_map.mp (List.mem_of_getElem? ha)
  exact h x hx
theorem eqv_lit {n : Nat} {xs : List D} (h : ∀ a ∈ xs, Eqv n a a) (small : xs.length ≤ 1000) : Eqv (n + 1) (.tup xs) (.tup xs) := eqv_tup rfl small fun i a b ha hb => by
  rw [ha] at hb; cases hb
  exact h a (List.mem_of_getElem? ha)
theorem eqv_strs {n : Nat} {l : List Str} (small : l.length ≤ 1000) : Eqv (n + 1) (.tup (l.map .str)) (.tup (l.map .str)) := eqv_map (fun a _ => .str a) small
theorem eqv_atom {n : Nat} {a : Atom} (h : a.ws.length ≤ 1000) : Eqv (n + 2) a.d a.d := eqv_lit (by
  intro x hx
  rcases List.mem_cons.mp hx with e | e
  · rw [e]; exact .str _
  · rw [List.mem_singleton.mp e]; exact eqv_strs h) (by simp)
theorem eqv_plain {n : Nat} {p : Plain} (h : ∀ a ∈ p.atoms, a.ws.length ≤ 1000) : Eqv (n + 3) p.d p.d := by
  cases p with
  | fact m a =>
    refine eqv_lit (fun x hx => ?_) (by simp)
    rcases List.mem_cons.mp hx with e | e
    · rw [e]; exact .str _
    · rw [List.mem_singleton.mp e]; exact eqv_atom (h a (by simp [Plain.atoms]))
  | two m a b =>
    refine eqv_lit (fun x hx => ?_) (by simp)
    rcases List.mem_cons.mp hx with e | hx
    · rw [e]; exact .str _
    rcases List.mem_cons.mp hx with e | e
    · rw [e]; exact .str _
    · rw [List.mem_singleton.mp e]; exact .str _
theorem eqv_cond {n : Nat} {k : Cond} (h : ∀ p ∈ k.plains, ∀ a ∈ p.atoms, a.ws.length ≤ 1000) (hl : k.plains.length ≤ 1000) : Eqv (n + 5) k.d k.d := by
  cases k with
  | one p => exact eqv_plain (n := n + 2) (h p (by simp [Cond.plains]))
  | either ps =>
    refine eqv_lit (n := n + 4) (fun x hx => ?_) (by simp)
    rcases List.mem_cons.mp hx with e | e
    · rw [e]; exact .str _
    · rw [List.mem_singleton.mp e]; exact eqv_map (n := n + 3) (fun p hp => eqv_plain (h p hp)) hl
theorem eqv_deed {n : Nat} {d : Deed} (s : d.small) (hc : ∀ w us, d.c = .by_ w us → us.length ≤ 1000) : Eqv (n + 7) d.d d.d := by
  have hat : ∀ p ∈ d.plains, ∀ a ∈ p.atoms, a.ws.length ≤ 1000 := fun p hp a ha => s.as a (List.mem_append.mpr (.inl (List.mem_flatMap.mpr ⟨p, hp, ha⟩)))
  have hpl := s.ps
  refine eqv_lit (n := n + 6) (fun x hx => ?_) (by simp)
  rcases List.mem_cons.mp hx with e | hx
  · rw [e]; exact .str _
  rcases List.mem_cons.mp hx with e | hx
  · rw [e]
    refine eqv_mapP (n := n + 5) (fun p _ => ?_) s.vs
    refine eqv_lit (n := n + 4) (fun x hx => ?_) (by simp)
    rcases List.mem_cons.mp hx with e | e
    · rw [e]; exact .str _
    · rw [List.mem_singleton.mp e]; exact .str _
  rcases List.mem_cons.mp hx with e | hx
  · rw [e]
    refine eqv_map (n := n + 5) (fun k hk => ?_) s.cs
    have sub : ∀ p ∈ k.plains, p ∈ d.plains := fun p hp => List.mem_append.mpr (.inl (List.mem_flatMap.mpr ⟨k, hk, hp⟩))
    refine eqv_cond (fun p hp => hat p (sub p hp)) ?_
    have h1 := sum_len d.cs Cond.plains k hk
    unfold Deed.plains at hpl
    rw [List.length_append] at hpl; omega
  rcases List.mem_cons.mp hx with e | hx
  · rw [e]
    refine eqv_map (n := n + 5) (fun ef he => ?_) s.es
    refine eqv_lit (n := n + 4) (fun x hx => ?_) (by simp)
    rcases List.mem_cons.mp hx with e | hx
    · rw [e]; exact .str _
    rcases List.mem_cons.mp hx with e | e
    · rw [e]; exact eqv_atom (n := n + 2) (s.as _ (List.mem_append.mpr (.inr (List.mem_map.mpr ⟨ef, he, rfl⟩))))
    · rw [List.mem_singleton.mp e]
      refine eqv_map (n := n + 3) (fun p hp => eqv_plain (hat p (List.mem_append.mpr (.inr (List.mem_flatMap.mpr ⟨ef, he, hp⟩))))) ?_
      have h1 := sum_len d.es (fun e => e.when_) ef he
      unfold Deed.plains at hpl
      rw [List.length_append] at hpl; omega
  · rw [List.mem_singleton.mp hx]
    cases e : d.c with
    | num i => exact .int _
    | by_ w us =>
      refine eqv_lit (n := n + 5) (fun x hx => ?_) (by simp)
      rcases List.mem_cons.mp hx with e | hx
      · rw [e]; exact .str _
      rcases List.mem_cons.mp hx with e | e2
      · rw [e]; exact .str _
      · rw [List.mem_singleton.mp e2]; exact eqv_strs (n := n + 4) (hc w us e)
theorem eqv_dom {n : Nat} {x : Dom} (s : x.small) (hc : ∀ d ∈ x.ds, ∀ w us, d.c = .by_ w us → us.length ≤ 1000) : Eqv (n + 9) x.d x.d := by
  refine eqv_lit (n := n + 8) (fun y hy => ?_) (by simp)
  rcases List.mem_cons.mp hy with e | hy
  · rw [e]
    refine eqv_map (n := n + 7) (fun k _ => ?_) s.ks
    refine eqv_lit (n := n + 6) (fun x hx => ?_) (by simp)
    rcases List.mem_cons.mp hx with e | e
    · rw [e]; exact .str _
    · rw [List.mem_singleton.mp e]
      cases k.2 with
      | none => exact .non
      | some a => exact .str a
  rcases List.mem_cons.mp hy with e | hy
  · rw [e]
    refine eqv_mapP (n := n + 7) (fun r hr => ?_) s.rs
    refine eqv_lit (n := n + 6) (fun x hx => ?_) (by simp)
    rcases List.mem_cons.mp hx with e | e
    · rw [e]; exact .str _
    · rw [List.mem_singleton.mp e]; exact eqv_strs (n := n + 5) (s.ps r hr)
  · rw [List.mem_singleton.mp hy]
    exact eqv_map (n := n + 7) (fun d hd => eqv_deed (s.d d hd) (hc d hd)) s.ds
theorem Parts.drawn {ws : List Str} {x : Dom} (P : Parts ws x) : Drawn x := ⟨P.small, P.ok, P.rd, P.d1, eqv_dom (n := 11) P.small fun d hd w us e => by
  rcases (P.dd d hd).2.2.2.2.2.2 with ⟨i, e2, _⟩ | ⟨w2, us2, e2, _, hl, _⟩
  · rw [e] at e2; cases e2
  · rw [e] at e2; cases e2; omega⟩
end Ht
set_option Elab.async false
set_option linter.all false
set_option maxRecDepth 100000
namespace Ht
open PySem PySem.Spec PyProof.Rows L2
variable (c : Cs)
theorem p__law_wide_domain (ds : List D) (M : Mp) (Q : VD) (E : XD) (h : sp__law_wide_domain c ds M Q E) : t__law_wide_domain c (endsL Q) (startD N__law_wide_domain ds) M := by
  obtain ⟨a, ws, rfl, hd, hw, q⟩ := h
  have hwl := hw.1
  have at_ : ∀ i : Nat, i < 27 → ∃ t, ws[i]? = some t := fun i hi => ⟨_, List.getElem?_eq_getElem (by omega)⟩
  have atw : ∀ (i : Nat) (t : Str), ws[i]? = some t → atI (ws.map D.str) (i : Int) = some (.str t) := fun i t h => by rw [atI_nat, List.getElem?_map, h]; rfl
  simp [t__law_wide_domain, startD, lineL]
  intro p2 hp2
  have a2 := dr_ne hd hp2
  have s2 := (St.refl hd).put a2 hp2 (.lst [])
  refine ⟨a, 6, rfl, by decide, s2.dr, fun M1 m h1 h2 hn1 => ?_⟩
  have st1 := s2.next hn1
  obtain ⟨m, rfl⟩ := Int.eq_ofNat_of_zero_le h1
  simp
  refine ⟨by omega, by omega, ?_⟩
  have en : (1 + (m : Int)).toNat = m + 1 := by omega
  rw [en]
  unfold rangeD
  simp only [Int.zero_add]
  refine for_rule (enc := fun i : Nat => .int (i : Nat)) (fun r δ M' => ∃ (ks : List (Str × Option Str)) (done : List Nat) (X3 : Option D), δ = [some (.ref a), some (.lst (ws.map .str)), some (.ref p2), X3, none, none, none] ∧ St M a M' ∧ M' p2 = some (.lst (ks.map kindD)) ∧ List.range (m + 1) = done ++ r ∧ done.length = ks.length ∧ ks.map (·.1) = ws.take ks.length ∧ kindFault [] 0 ks = none) ?_ ?_ (List.range (m + 1)) _ _ ⟨[], [], none, rfl, st1, by rw [hn1.2 p2 a2, up_same]; rfl, rfl, rfl, rfl, rfl⟩
  · rintro x r δ M2 ⟨ks, done, X3, rfl, st2, hM2, hrg, hdl, hkn, hkf⟩
    obtain ⟨hx, hxm⟩ := range_at hrg
    refine ⟨trivial, fun nx hnx => ?_⟩
    obtain ⟨t, ht⟩ := at_ x (by omega)
    simp [s_tyr hM2, lineL]
    refine ⟨_, atw x t ht, _, rfl, _, _, rfl, rfl, by rw [cut_take]; simp [lineL]; omega, a, _, _, rfl, st2.dr, row_lst (by simp) (by simp [cut_take]; omega), fun M3 y hy hn3 => ?_⟩
    have st3 := st2.next hn3
    have hM3 : M3 p2 = some (.lst (ks.map kindD)) := (hn3.2 p2 a2).trans hM2
    rw [cut_take] at hy
    obtain ⟨o, rfl, ho⟩ : ∃ o : Option Str, y = optD o ∧ ∀ z, o = some z → z ∈ ws.take x := by
      rcases List.mem_cons.mp hy with e | e
      · exact ⟨none, e, fun z h => by cases h⟩
      · rw [← List.map_take] at e
        obtain ⟨z, hz, e⟩ := List.mem_map.mp e
        exact ⟨some z, e.symm, fun y h => by cases h; exact hz⟩
    dsimp only
    rw [s_cell hM3, wC_some]
    have hkl : ks.length = x := by omega
    have hnew : t ∉ ks.map (·.1) := by
      rw [hkn, hkl]
      intro hm
      have hnd : (ws.take (x + 1)).Nodup := (List.take_sublist_take_left (show x + 1 ≤ 6 by omega)).nodup hw.2.2.1
      rw [List.take_add_one, ht] at hnd
      exact (List.nodup_append.mp hnd).2.2 t hm t (by simp) rfl
    refine ⟨by rw [List.length_map]; omega, hnx _ _ ⟨ks ++ [(t, o)], done ++ [x], _, rfl, st3.put a2 hp2 _, by rw [up_same]; simp; rfl, by rw [hrg]; simp, by simp [hdl], ?_, ?_⟩⟩
    · rw [List.map_append, hkn, List.length_append, List.length_singleton, List.take_add_one, hkl, ht]; rfl
    · exact kf_snoc ks [] 0 hkf (by simp) hnew fun z hz => .inr (by rw [hkn, hkl]; exact ho z hz)
  rintro δ M2 ⟨ks, done, X3, rfl, st2, hM2, hrg, hdl, hkn, hkf⟩
  rw [List.append_nil] at hrg
  have hkl : ks.length = m + 1 := by rw [← hdl, ← hrg, List.length_range]
  refine ⟨trivial, ?_⟩
  simp
  intro p4 hp4
  have n4 := st2.fresh hp4
  have a4 := dr_ne st2.dr hp4
  have d24 : p2 ≠ p4 := fun e => by rw [← e, hM2] at hp4; cases hp4
  have s4 := st2.put a4 n4 (.lst [])
  have hks : ∀ {M'}, M' p2 = some (.lst (ks.map kindD)) → KsAt M' a (.ref p2) ks := fun h => ⟨p2, rfl, a2, h, by omega, by omega, hkf⟩
  refine ⟨a, 7, rfl, by decide, s4.dr, fun M3 m3 h3 h4 hn3 => ?_⟩
  have st3 := s4.next hn3
  obtain ⟨m3, rfl⟩ := Int.eq_ofNat_of_zero_le h3
  simp
  refine ⟨by omega, by omega, ?_⟩
  have en3 : (2 + (m3 : Int)).toNat = m3 + 2 := by omega
  rw [en3]
  unfold rangeD
  simp only [Int.zero_add]
  refine for_rule (enc := fun i : Nat => .int (i : Nat)) (fun r δ M' => ∃ (rs : List (Str × List Str)) (done : List Nat) (X3 : Option D), δ = [some (.ref a), some (.lst (ws.map .str)), some (.ref p2), X3, some (.ref p4), none, none] ∧ St M a M' ∧ M' p2 = some (.lst (ks.map kindD)) ∧ M' p4 = some (.lst (rs.map relD)) ∧ List.range (m3 + 2) = done ++ r ∧ done.length = rs.length ∧ rs.map (·.1) = (ws.drop 6).take rs.length ∧ ∀ r ∈ rs, r.2.length ≤ 3 ∧ ∀ p ∈ r.2, p ∈ ks.map (·.1)) ?_ ?_ (List.range (m3 + 2)) _ _ ⟨[], [], X3, rfl, st3, by rw [hn3.2 p2 a2, up_ne d24]; exact hM2, by rw [hn3.2 p4 a4, up_same]; rfl, rfl, rfl, rfl, by simp⟩
  · rintro x r δ M4 ⟨rs, done, X3, rfl, st4, hM4, hR4, hrg, hdl, hrn, hrp⟩
    obtain ⟨hx, hxm⟩ := range_at hrg
    refine ⟨trivial, fun nx hnx => ?_⟩
    obtain ⟨t, ht⟩ := at_ (6 + x) (by omega)
    simp [s_tyr hR4, lineL, wipeD]
    have hat : atI (ws.map D.str) (6 + (x : Int)) = some (.str t) := by
      rw [show (6 + (x : Int)) = ((6 + x : Nat) : Int) by omega]; exact atw _ _ ht
    refine ⟨_, hat, a, 4, rfl, by decide, st4.dr, fun M5 m5 h5 h6 hn5 => ?_⟩
    have st5 := st4.next hn5
    have hM5 : M5 p2 = some (.lst (ks.map kindD)) := (hn5.2 p2 a2).trans hM4
    have hR5 : M5 p4 = some (.lst (rs.map relD)) := (hn5.2 p4 a4).trans hR4
    obtain ⟨m5, rfl⟩ := Int.eq_ofNat_of_zero_le h5
    simp
    refine ⟨by omega, ?_⟩
    try unfold rangeD
    try simp only [Int.zero_add]
    refine comp_inv (enc := fun i : Nat => .int (i : Nat)) (fun r2 acc M6 => ∃ ps : List Str, acc = ps.map .str ∧ St M a M6 ∧ M6 p2 = some (.lst (ks.map kindD)) ∧ M6 p4 = some (.lst (rs.map relD)) ∧ ps.length + r2.length = m5 ∧ ∀ p ∈ ps, p ∈ ks.map (·.1)) ?_ ?_ (List.range m5) _ _ ⟨[], rfl, st5, hM5, hR5, by simp, by simp⟩
    · rintro k r2 acc M6 ⟨ps, rfl, st6, hM6, hR6, hpl, hpk⟩
      refine ⟨trivial, fun nx2 hnx2 => ?_⟩
      rw [List.length_cons] at hpl
      simp
      refine ⟨a, _, _, rfl, st6.dr, (hks hM6).row, fun M7 y hy hn7 => ?_⟩
      obtain ⟨kk, hkk, rfl⟩ := List.mem_map.mp hy
      refine ⟨.str kk.1, rfl, by rw [lineL]; omega, hnx2 _ _ ⟨ps ++ [kk.1], by simp, st6.next hn7, (hn7.2 p2 a2).trans hM6, (hn7.2 p4 a4).trans hR6, by simp; omega, fun p hp => ?_⟩⟩
      rcases List.mem_append.mp hp with e | e
      · exact hpk p e
      · rw [List.mem_singleton.mp e]; exact List.mem_map.mpr ⟨kk, hkk, rfl⟩
    · rintro acc M6 ⟨ps, rfl, st6, hM6, hR6, hpl, hpk⟩
      rw [List.length_nil, Nat.add_zero] at hpl
      refine ⟨trivial, ?_⟩
      rw [s_cell hR6, wC_some]
      refine ⟨by rw [List.length_map]; omega, hnx _ _ ⟨rs ++ [(t, ps)], done ++ [x], _, rfl, st6.put a4 n4 _, by rw [up_ne d24]; exact hM6, by rw [up_same]; simp [relD], by rw [hrg]; simp, by simp [hdl], ?_, fun r' hr' => ?_⟩⟩
      · rw [List.map_append, hrn, List.length_append, List.length_singleton, List.take_add_one]
        congr 1
        rw [List.getElem?_drop, ← hdl, ← hx, ht]; rfl
      · rcases List.mem_append.mp hr' with e | e
        · exact hrp r' e
        · rw [List.mem_singleton.mp e]; exact ⟨by show ps.length ≤ 3; omega, hpk⟩
  rintro δ M4 ⟨rs, done2, X3', rfl, st4, hM4, hR4, hrg2, hdl2, hrn, hrp⟩
  rw [List.append_nil] at hrg2
  have hrl : rs.length = m3 + 2 := by rw [← hdl2, ← hrg2, List.length_range]
  refine ⟨trivial, ?_⟩
  obtain ⟨r0, r1, rr, rfl⟩ : ∃ r0 r1 rr, rs = r0 :: r1 :: rr := by
    cases rs with
    | nil => simp at hrl
    | cons r0 rs => cases rs with
      | nil => simp at hrl
      | cons r1 rr => exact ⟨r0, r1, rr, rfl⟩
  simp [s_atr hR4]
  have hput := putM_lst hR4 (j := 1) (by simp) (D.tup [.str r1.1, .tup []])
  refine ⟨.str r1.1, rfl, by rw [lineL]; omega, _, hput, ?_⟩
  have st5 := st4.put a4 n4 (.lst ((List.map relD (r0 :: r1 :: rr)).set 1 (D.tup [.str r1.1, .tup []])))
  have e5 : (List.map relD (r0 :: r1 :: rr)).set 1 (D.tup [.str r1.1, .tup []]) = (r0 :: (r1.1, []) :: rr).map relD := rfl
  rw [e5] at st5 ⊢
  generalize hM5 : up M4 p4 (.lst ((r0 :: (r1.1, []) :: rr).map relD)) = M5 at st5 ⊢
  have hR5 : M5 p4 = some (.lst ((r0 :: (r1.1, []) :: rr).map relD)) := by rw [← hM5, up_same]
  have hK5 : M5 p2 = some (.lst (ks.map kindD)) := by rw [← hM5, up_ne d24]; exact hM4
  have hrn' : (r0 :: (r1.1, []) :: rr).map (·.1) = (ws.drop 6).take (r0 :: (r1.1, ([] : List Str)) :: rr).length := hrn
  have hrl' : (r0 :: (r1.1, ([] : List Str)) :: rr).length = m3 + 2 := hrl
  have hrp' : ∀ r ∈ r0 :: (r1.1, []) :: rr, r.2.length ≤ 3 ∧ ∀ p ∈ r.2, p ∈ ks.map (·.1) := fun r hr => by
    rcases List.mem_cons.mp hr with e | hr
    · rw [e]; exact hrp r0 (by simp)
    rcases List.mem_cons.mp hr with e | hr
    · rw [e]; exact ⟨Nat.zero_le _, fun p hp => by cases hp⟩
    · exact hrp r (by simp [hr])
  have h1' : (r0 :: (r1.1, ([] : List Str)) :: rr)[1]? = some (r1.1, []) := rfl
  generalize r0 :: (r1.1, ([] : List Str)) :: rr = rs at *
  have hrs : ∀ {M'}, M' p4 = some (.lst (rs.map relD)) → RsAt M' a (.ref p4) rs := fun h => ⟨p4, rfl, a4, h, by omega, by omega, fun r hr => (hrp' r hr).1, by rw [hrn']; exact (List.take_sublist_take_left (show rs.length ≤ 8 by omega)).nodup hw.2.2.2.1, ⟨r1.1, h1'⟩⟩
  refine ⟨a, 4, rfl, by decide, st5.dr, fun M6 m6 h5 h6 hn6 => ?_⟩
  have st6 := st5.next hn6
  obtain ⟨m6, rfl⟩ := Int.eq_ofNat_of_zero_le h5
  dsimp only
  refine ⟨m6, rfl, by omega, by omega, ?_⟩
  rw [Int.toNat_natCast]
  unfold rangeD
  simp only [Int.zero_add]
  simp only [wipeD, List.foldl]
  refine comp_inv (enc := fun i : Nat => .int (i : Nat)) (fun r acc M7 => ∃ (xs : List Deed) (done : List Nat), acc = xs.map Deed.d ∧ St M a M7 ∧ M7 p2 = some (.lst (ks.map kindD)) ∧ M7 p4 = some (.lst (rs.map relD)) ∧ List.range m6 = done ++ r ∧ done.length = xs.length ∧ xs.map (·.w) = (ws.drop 14).take xs.length ∧ ∀ d ∈ xs, DeedIn ks rs ws d) ?_ ?_ (List.range m6) _ _ ⟨[], [], rfl, st6, (hn6.2 p2 a2).trans hK5, (hn6.2 p4 a4).trans hR5, rfl, rfl, rfl, by simp⟩
  · rintro x r acc M7 ⟨xs, done, rfl, st7, hK7, hR7, hrg, hdl, hxn, hxd⟩
    obtain ⟨hx, hxm⟩ := range_at hrg
    refine ⟨trivial, fun nx hnx => ?_⟩
    obtain ⟨t, ht⟩ := at_ (14 + x) (by omega)
    have hat : atI (ws.map D.str) (14 + (x : Int)) = some (.str t) := by
      rw [show (14 + (x : Int)) = ((14 + x : Nat) : Int) by omega]; exact atw _ _ ht
    simp
    refine ⟨_, hat, a, .ref p2, .ref p4, ks, rs, t, ws, rfl, st7.dr, hks hK7, hrs hR7, hw, fun M8 d hdw hdi hn8 => ?_⟩
    refine ⟨by rw [lineL]; omega, hnx _ _ ⟨xs ++ [d], done ++ [x], by simp, st7.next hn8, (hn8.2 p2 a2).trans hK7, (hn8.2 p4 a4).trans hR7, by rw [hrg]; simp, by simp [hdl], ?_, fun d' hd' => ?_⟩⟩
    · rw [List.map_append, hxn, List.length_append, List.length_singleton, List.take_add_one]
      congr 1
      rw [List.getElem?_drop, ← hdl, ← hx, ht, List.map_singleton, hdw]; rfl
    · rcases List.mem_append.mp hd' with e | e
      · exact hxd d' e
      · rw [List.mem_singleton.mp e]; exact hdi
  · rintro acc M7 ⟨xs, done, rfl, st7, hK7, hR7, hrg, hdl, hxn, hxd⟩
    rw [List.append_nil] at hrg
    have hxl : xs.length = m6 := by rw [← hdl, ← hrg, List.length_range]
    refine ⟨trivial, _, s_lstr hK7, _, s_lstr hR7, by rw [lineL]; omega, ?_⟩
    exact st7.out hd fun M0 h0 => q M0 ⟨ks, rs, xs⟩ (Parts.drawn (ws := ws) ⟨hw, by show 0 < ks.length; omega, by show ks.length ≤ 6; omega, hkn, hkf, by show 2 ≤ rs.length; omega, by show rs.length ≤ 8; omega, hrn', hrp', by show xs.length ≤ 3; omega, hxn, hxd⟩) h0
end Ht
set_option Elab.async false
set_option linter.all false
set_option maxRecDepth 100000
namespace Ht
open PySem PySem.Spec PyProof.Rows L2
variable (c : Cs)
theorem p__law_same0 (spR : SpD) (ds : List D) (M : Mp) (Q : VD) (E : XD) (h : sp__law_sameN 0 c ds M Q E) : t__law_same c spR (endsL Q) (startD N__law_same ds) M := by
  obtain ⟨x, y, rfl, e, q⟩ := h
  cases e with
  | non =>
    simp [t__law_same, startD, lineL]
    exact ⟨by decide, out_of q⟩
  | int i =>
    simp [t__law_same, startD, lineL]
    exact out_of q
  | str i =>
    simp [t__law_same, startD, lineL]
    exact out_of q
theorem law_says (ns : List Int) (h : ns.length ≤ 63) (Q : VD) (q : ∀ M, Q (.bl true) M) : sp_law c [.scr ns] (fun _ => none) Q X0 := ⟨ns, rfl, h, q _⟩
def t_lawB : DS_ := (dSeq (dSet (dCall (sp__law_wide_domain c) (dCons (dVar 1) (dCons (dVar 2) (dNil)))) 3) (dSeq (dSet (dCall (sp__law_text c) (dCons (dCall (sp__law_domain_lines c) (dCons (dVar 3) (dNil))) (dNil))) 4) (dSeq (dIfS (dOr (dNot (dTest (dCall (sp__law_same c) (dCons (dCall (sp_write_domain c) (dCons (dVar 3) (dNil))) (dCons (dVar 4) (dNil)))))) (dNot (dTest (dCall (sp__law_same c) (dCons (dCall (sp_read_domain c) (dCons (dVar 4) (dNil))) (dCons (dVar 3) (dNil))))))) (dRet (dC (.bl false))) (dNext)) (dSeq (dFor (dRange1 (dC (.int 2))) (gName 5) (dIfS (dNot (dTest (dCall (sp__law_same c) (dCons (dCall (sp_read_domain c) (dCons (dOp rIx (dCall (sp__law_spread c) (dCons (dVar 1) (dCons (dCall (sp__law_domain_lines c) (dCons (dVar 3) (dNil))) (dNil)))) (dC (.int 0))) (dNil))) (dCons (dVar 3) (dNil)))))) (dRet (dC (.bl false))) (dNext))) (dSeq (dSet (dTup (dCons (dTup (dNil)) (dCons (dTup (dNil)) (dCons (dTup (dNil)) (dNil))))) 6) (dRet (dAndV (dCall (sp__law_same c) (dCons (dCall (sp_write_domain c) (dCons (dVar 6) (dNil))) (dCons (dC (.str "")) (dNil)))) (dCall (sp__law_same c) (dCons (dCall (sp_read_domain c) (dCons (dC (.str " \n\n")) (dNil))) (dCons (dVar 6) (dNil)))))))))))
theorem t_law_eq : t_law c = dSeq (dSet (dCall (sp__law_draws c) (dCons (dVar 0) (dCons (dC (.int 900)) (dNil)))) 1) (dSeq (dSet (dCall (sp__law_plain_words c) (dCons (dVar 1) (dCons (dC (.int 27)) (dNil)))) 2) (dSeq (dIfS (dTest (dOp rEqS (dCall (sp__law_take c) (dCons (dVar 1) (dCons (dC (.int 2)) (dNil)))) (dC (.int 1)))) (dSet (dOp (rAdd false) (dOp (rAdd false) (dOp (rAdd false) (dOp (rAdd false) (dSl false (dVar 2) (dNoPart) (dPart (dC (.int 14)))) (dSl false (dVar 2) (dNoPart) (dPart (dC (.int 3))))) (dSl false (dVar 2) (dNoPart) (dPart (dC (.int 5))))) (dLst (dCons (dC (.str "kind")) (dCons (dC (.str "deed")) (dCons (dC (.str "cost")) (dCons (dC (.str "if")) (dNil))))))) (dLst (dCons (dC (.str "comes")) (dNil)))) 2) (dNext)) (t_lawB c))) := rfl
def noDom : Dom := ⟨[], [], []⟩
theorem noDom_small : noDom.small := ⟨by decide, by decide, by decide, fun r h => by (cases h), fun d h => by (cases h), by decide, fun l h => by (cases h), by decide⟩
theorem noDom_ok : noDom.ok := ⟨rfl, rfl, rfl, fun d h => by (cases h), fun d h => by (cases h)⟩
theorem noDom_rd : noDom.rd := ⟨fun d h => by (cases h), fun d h => by (cases h), fun d h => by (cases h)⟩
theorem rows_nothing : Rows (Str.ofString " \n\n") noDom.lines := by
  refine ⟨by rw [lineL]; decide, [[], [], []], ?_, rfl⟩
  have : Txt.split (Str.ofString " \n\n") nl1 = [Str.ofString " ", Str.empty, Str.empty] := by decide +kernel
  rw [this]
  exact .cons ⟨by rw [lineL]; decide, 1, [], by decide, rfl⟩ (.cons ⟨by rw [lineL]; decide, 0, [], by decide, rfl⟩ (.cons ⟨by rw [lineL]; decide, 0, [], by decide, rfl⟩ .nil))
theorem lawB (ns : List Int) (p : Addr) (ws : List Str) (M0 M : Mp) (Q : VD) (hp0 : M0 p = none) (st : ∀ b, b ≠ p → M0 b ≠ none → M b = M0 b) (hd : Dr M p) (hw : WordsOk ws) (q : Q (.bl true) M0) :
    t_lawB c (endsL Q) [some (.scr ns), some (.ref p), some (.lst (ws.map .str)), none, none, none, none] M := by
  simp [t_lawB]
  refine ⟨p, ws, rfl, hd, hw, fun M1 x dr hn1 => ?_⟩
  obtain ⟨sm, ok, rd, hdl, eqv⟩ := dr
  have htok := rd.tok
  have hrows : Rows (joinNl (x.lines.map joinSp)) x.lines := rows_join (fun l hl => ⟨sm.ln l hl, (htok l hl).1, (htok l hl).2⟩) sm.n sm.all
  refine ⟨x, rfl, sm, x.lines, rfl, sm.n, sm.ln, sm.all, ?_⟩
  simp
  refine ⟨x, _, _, _, rfl, rfl, rfl, rfl, sm, .str _, .str _, rfl, .str _, .inr ⟨rfl, _, x, rfl, sm, ok, rd, hrows, x.d, x.d, rfl, eqv, .inr ⟨rfl, ?_⟩⟩⟩
  have s1 : ∀ b, b ≠ p → M0 b ≠ none → M1 b = M0 b := fun b hb h => (hn1.2 b hb).trans (st b hb h)
  have hd1 := hn1.1
  unfold rangeD
  refine for_rule (enc := fun i : Nat => .int (0 + i)) (fun r δ M' => ∃ X5, δ = [some (.scr ns), some (.ref p), some (.lst (ws.map .str)), some x.d, some (.str (joinNl (x.lines.map joinSp))), X5, none] ∧ Dr M' p ∧ ∀ b, b ≠ p → M0 b ≠ none → M' b = M0 b) ?_ ?_ (List.range 2) _ _ ⟨none, rfl, hd1, s1⟩
  · rintro k r δ M2 ⟨X5, rfl, hd2, s2⟩
    refine ⟨trivial, fun nx hnx => ?_⟩
    simp
    refine ⟨x, rfl, sm, p, x.lines, rfl, hd2, sm.n, fun l hl => ⟨sm.ln l hl, (htok l hl).1, (htok l hl).2⟩, sm.all, fun M3 z r3 hz hn3 => ?_⟩
    refine ⟨.str z, by simp, z, x, rfl, sm, ok, rd, hz, x.d, x.d, rfl, eqv, .inr ⟨rfl, hnx _ _ ⟨_, rfl, hn3.1, fun b hb h => (hn3.2 b hb).trans (s2 b hb h)⟩⟩⟩
  · rintro δ M2 ⟨X5, rfl, hd2, s2⟩
    refine ⟨trivial, ?_⟩
    simp
    refine ⟨by rw [lineL]; omega, noDom, _, _, _, rfl, rfl, rfl, rfl, noDom_small, .str _, .str _, rfl, .str _, .inr ⟨rfl, ?_⟩⟩
    refine ⟨_, noDom, rfl, noDom_small, noDom_ok, noDom_rd, rows_nothing, noDom.d, _, rfl, ?_, ?_⟩
    · refine .seq rfl rfl (fun _ => rfl) (fun _ => rfl) rfl (by decide) fun i a b ha hb => ?_
      have e0 : ∀ X Y : D, (X = .tup [] ∨ X = .tupP []) → Y = .tup [] → Eqv 19 X Y := fun X Y h1 h2 => by
        subst h2
        rcases h1 with h1 | h1 <;> subst h1 <;> exact .seq rfl rfl (fun _ => rfl) (fun _ => rfl) rfl (by decide) fun i a b ha hb => by cases ha
      match i, ha, hb with
      | 0, ha, hb => cases ha; cases hb; exact e0 _ _ (.inl rfl) rfl
      | 1, ha, hb => cases ha; cases hb; exact e0 _ _ (.inr rfl) rfl
      | 2, ha, hb => cases ha; cases hb; exact e0 _ _ (.inl rfl) rfl
      | _ + 3, ha, hb => cases hb
    · refine out_le (M := M0) (fun b cc e => ?_) q
      rw [s2 b (fun h => by rw [h, hp0] at e; cases e) (by rw [e]; simp)]; exact e
theorem s_slL {M : Mp} {Q : VD} (xs : List D) (lo hi : Option Int) : rSl false (.lst xs) lo hi M Q = Q (.lst (cutD xs lo hi)) M := propext ⟨fun ⟨_, e, h⟩ => by cases e; exact h, fun h => ⟨_, rfl, h⟩⟩
theorem p_law (ds : List D) (M : Mp) (Q : VD) (E : XD) (h : sp_law c ds M Q E) : t_law c (endsL Q) (startD N_law ds) M := by
  obtain ⟨ns, rfl, hl, q⟩ := h
  rw [t_law_eq]
  simp [startD]
  refine ⟨ns, rfl, hl, fun p M1 hp hd hk => ?_⟩
  refine ⟨p, rfl, hd, fun M2 ws hwl hnd hw hn2 => ?_⟩
  refine ⟨p, 2, rfl, by decide, hn2.1, fun M3 i h1 h2 hn3 => ?_⟩
  refine ⟨rfl, ?_⟩
  have st : ∀ b, b ≠ p → M b ≠ none → M3 b = M b := fun b hb _ => (hn3.2 b hb).trans ((hn2.2 b hb).trans (hk b hb))
  have hw1 : WordsOk ws := ⟨hwl, hw, hnd.sublist (List.take_sublist _ _), hnd.sublist ((List.take_sublist _ _).trans (List.drop_sublist _ _)), hnd.sublist ((List.take_sublist _ _).trans (List.drop_sublist _ _)), hnd.sublist ((List.take_sublist _ _).trans (List.drop_sublist _ _))⟩
  by_cases h : i = 1
  · right
    refine ⟨by rw [h]; rfl, ?_⟩
    have c14 : cutD (ws.map D.str) none (some 14) = (ws.take 14).map .str := by rw [show (14 : Int) = ((14 : Nat) : Int) from rfl, cut_take, List.map_take]
    have c3 : cutD (ws.map D.str) none (some 3) = (ws.take 3).map .str := by rw [show (3 : Int) = ((3 : Nat) : Int) from rfl, cut_take, List.map_take]
    have c5 : cutD (ws.map D.str) none (some 5) = (ws.take 5).map .str := by rw [show (5 : Int) = ((5 : Nat) : Int) from rfl, cut_take, List.map_take]
    have l14 : (ws.take 14).length = 14 := by rw [List.length_take]; omega
    have l3 : (ws.take 3).length = 3 := by rw [List.length_take]; omega
    have l5 : (ws.take 5).length = 5 := by rw [List.length_take]; omega
    simp only [s_slL, s_addL, c14, c3, c5]
    refine ⟨by simp [lineL, hwl], by simp [lineL, hwl], by rw [lineL]; omega, by simp [lineL, hwl], by rw [lineL]; omega, by simp [lineL, hwl], ?_⟩
    have e : ((List.map D.str (List.take 14 ws) ++ List.map D.str (List.take 3 ws) ++ List.map D.str (List.take 5 ws)) ++ [D.str (Str.ofString "kind"), D.str (Str.ofString "deed"), D.str (Str.ofString "cost"), D.str (Str.ofString "if")]) ++ [D.str (Str.ofString "comes")] = (((ws.take 14 ++ ws.take 3 ++ ws.take 5) ++ (["kind", "deed", "cost", "if"] : List Str)) ++ (["comes"] : List Str)).map D.str := by simp
    rw [e]
    refine lawB c ns p _ M M3 Q hp st hn3.1 ⟨by simp [hwl], ?_, ?_, ?_, ?_, ?_⟩ q
    · intro w hw'
      have kwo : ∀ w ∈ (["kind", "deed", "cost", "if", "comes"] : List Str), (isWord w = true ∧ w ∉ marks) ∧ w.length ≤ 64 := by decide +kernel
      simp only [List.mem_append] at hw'
      rcases hw' with (((h | h) | h) | h) | h
      · exact hw w (List.mem_of_mem_take h)
      · exact hw w (List.mem_of_mem_take h)
      · exact hw w (List.mem_of_mem_take h)
      · exact kwo w (by revert h; simp; rintro (h | h | h | h) <;> simp [h])
      · exact kwo w (by revert h; simp; intro h; simp [h])
    · simpa [List.take_append, hwl, List.take_take] using hw1.2.2.1
    · have := hw1.2.2.2.1
      simpa [List.take_append, List.drop_append, hwl, List.take_take, List.drop_take] using this
    · have : (ws.take 3).Nodup := hnd.sublist (List.take_sublist _ _)
      simpa [List.take_append, List.drop_append, hwl, List.take_take, List.drop_take] using this
    · have : (["kind", "deed", "cost", "if"] : List Str).Nodup := by decide +kernel
      simpa [List.take_append, List.drop_append, hwl, List.take_take, List.drop_take] using this
  · left
    exact ⟨by simpa using h, lawB c ns p ws M M3 Q hp st hn3.1 hw1 q⟩
end Ht
set_option Elab.async false
set_option linter.all false
set_option maxRecDepth 100000
set_option maxHeartbeats 4000000
namespace Ht
open PySem PySem.Spec PyProof.Rows L2
def dd_is_word : He.DefD := ⟨("is_word", none), "is_word", "is_word", defArgs s_is_word, defBody s_is_word, defScope s_is_word, [], []⟩
def dd_kinds_above : He.DefD := ⟨("kinds_above", none), "kinds_above", "kinds_above", defArgs s_kinds_above, defBody s_kinds_above, defScope s_kinds_above, [], []⟩
def dd_kind_fault : He.DefD := ⟨("kind_fault", none), "kind_fault", "kind_fault", defArgs s_kind_fault, defBody s_kind_fault, defScope s_kind_fault, [], []⟩
def dd_relation_fault : He.DefD := ⟨("relation_fault", none), "relation_fault", "relation_fault", defArgs s_relation_fault, defBody s_relation_fault, defScope s_relation_fault, [], []⟩
def dd_deed_fault : He.DefD := ⟨("deed_fault", none), "deed_fault", "deed_fault", defArgs s_deed_fault, defBody s_deed_fault, defScope s_deed_fault, [], []⟩
def dd_plain_of_condition : He.DefD := ⟨("plain_of_condition", none), "plain_of_condition", "plain_of_condition", defArgs s_plain_of_condition, defBody s_plain_of_condition, defScope s_plain_of_condition, [], []⟩
def dd_plain_of_deed : He.DefD := ⟨("plain_of_deed", none), "plain_of_deed", "plain_of_deed", defArgs s_plain_of_deed, defBody s_plain_of_deed, defScope s_plain_of_deed, [], []⟩
def dd_atoms_of_deed : He.DefD := ⟨("atoms_of_deed", none), "atoms_of_deed", "atoms_of_deed", defArgs s_atoms_of_deed, defBody s_atoms_of_deed, defScope s_atoms_of_deed, [], []⟩
def dd_is_right_atom : He.DefD := ⟨("is_right_atom", none), "is_right_atom", "is_right_atom", defArgs s_is_right_atom, defBody s_is_right_atom, defScope s_is_right_atom, [], []⟩
def dd_has_atom_fault : He.DefD := ⟨("has_atom_fault", none), "has_atom_fault", "has_atom_fault", defArgs s_has_atom_fault, defBody s_has_atom_fault, defScope s_has_atom_fault, [], []⟩
def dd_has_cost_fault : He.DefD := ⟨("has_cost_fault", none), "has_cost_fault", "has_cost_fault", defArgs s_has_cost_fault, defBody s_has_cost_fault, defScope s_has_cost_fault, [], []⟩
def dd_first_index : He.DefD := ⟨("first_index", none), "first_index", "first_index", defArgs s_first_index, defBody s_first_index, defScope s_first_index, [], []⟩
def dd_check_domain : He.DefD := ⟨("check_domain", none), "check_domain", "check_domain", defArgs s_check_domain, defBody s_check_domain, defScope s_check_domain, [], []⟩
def dd_first_fault : He.DefD := ⟨("first_fault", none), "first_fault", "first_fault", defArgs s_first_fault, defBody s_first_fault, defScope s_first_fault, [], []⟩
def dd_TextLine_init : He.DefD := ⟨("TextLine", some "__init__"), "__init__", "TextLine.__init__", defArgs s_TextLine_init, defBody s_TextLine_init, defScope s_TextLine_init, [], []⟩
def dd_TextLine_skip_spaces : He.DefD := ⟨("TextLine", some "skip_spaces"), "skip_spaces", "TextLine.skip_spaces", defArgs s_TextLine_skip_spaces, defBody s_TextLine_skip_spaces, defScope s_TextLine_skip_spaces, [], []⟩
def dd_TextLine_is_over : He.DefD := ⟨("TextLine", some "is_over"), "is_over", "TextLine.is_over", defArgs s_TextLine_is_over, defBody s_TextLine_is_over, defScope s_TextLine_is_over, [], []⟩
def dd_TextLine_next_token : He.DefD := ⟨("TextLine", some "next_token"), "next_token", "TextLine.next_token", defArgs s_TextLine_next_token, defBody s_TextLine_next_token, defScope s_TextLine_next_token, [], []⟩
def dd_TextLine_take_token : He.DefD := ⟨("TextLine", some "take_token"), "take_token", "TextLine.take_token", defArgs s_TextLine_take_token, defBody s_TextLine_take_token, defScope s_TextLine_take_token, [], []⟩
def dd_TextLine_refuse_last : He.DefD := ⟨("TextLine", some "refuse_last"), "refuse_last", "TextLine.refuse_last", defArgs s_TextLine_refuse_last, defBody s_TextLine_refuse_last, defScope s_TextLine_refuse_last, [], []⟩
def dd_TextLine_take_one_of : He.DefD := ⟨("TextLine", some "take_one_of"), "take_one_of", "TextLine.take_one_of", defArgs s_TextLine_take_one_of, defBody s_TextLine_take_one_of, defScope s_TextLine_take_one_of, [], []⟩
def dd_TextLine_take_end : He.DefD := ⟨("TextLine", some "take_end"), "take_end", "TextLine.take_end", defArgs s_TextLine_take_end, defBody s_TextLine_take_end, defScope s_TextLine_take_end, [], []⟩
def dd_text_lines : He.DefD := ⟨("text_lines", none), "text_lines", "text_lines", defArgs s_text_lines, defBody s_text_lines, defScope s_text_lines, [], []⟩
def dd_line_count : He.DefD := ⟨("line_count", none), "line_count", "line_count", defArgs s_line_count, defBody s_line_count, defScope s_line_count, [], []⟩
def dd_write_plain : He.DefD := ⟨("write_plain", none), "write_plain", "write_plain", defArgs s_write_plain, defBody s_write_plain, defScope s_write_plain, [], []⟩
def dd_write_condition : He.DefD := ⟨("write_condition", none), "write_condition", "write_condition", defArgs s_write_condition, defBody s_write_condition, defScope s_write_condition, [], []⟩
def dd_write_effect : He.DefD := ⟨("write_effect", none), "write_effect", "write_effect", defArgs s_write_effect, defBody s_write_effect, defScope s_write_effect, [], []⟩
def dd_deed_lines : He.DefD := ⟨("deed_lines", none), "deed_lines", "deed_lines", defArgs s_deed_lines, defBody s_deed_lines, defScope s_deed_lines, [], []⟩
def dd_write_domain : He.DefD := ⟨("write_domain", none), "write_domain", "write_domain", defArgs s_write_domain, defBody s_write_domain, defScope s_write_domain, [], []⟩
def dd_take_word : He.DefD := ⟨("take_word", none), "take_word", "take_word", defArgs s_take_word, defBody s_take_word, defScope s_take_word, [], []⟩
def dd_take_words : He.DefD := ⟨("take_words", none), "take_words", "take_words", defArgs s_take_words, defBody s_take_words, defScope s_take_words, [], []⟩
def dd_take_atom : He.DefD := ⟨("take_atom", none), "take_atom", "take_atom", defArgs s_take_atom, defBody s_take_atom, defScope s_take_atom, [], []⟩
def dd_take_plain : He.DefD := ⟨("take_plain", none), "take_plain", "take_plain", defArgs s_take_plain, defBody s_take_plain, defScope s_take_plain, [], []⟩
def dd_take_row_of_plain : He.DefD := ⟨("take_row_of_plain", none), "take_row_of_plain", "take_row_of_plain", defArgs s_take_row_of_plain, defBody s_take_row_of_plain, defScope s_take_row_of_plain, [], []⟩
def dd_take_condition : He.DefD := ⟨("take_condition", none), "take_condition", "take_condition", defArgs s_take_condition, defBody s_take_condition, defScope s_take_condition, [], []⟩
def dd_take_effect : He.DefD := ⟨("take_effect", none), "take_effect", "take_effect", defArgs s_take_effect, defBody s_take_effect, defScope s_take_effect, [], []⟩
def dd_take_number : He.DefD := ⟨("take_number", none), "take_number", "take_number", defArgs s_take_number, defBody s_take_number, defScope s_take_number, [], []⟩
def dd_is_digits : He.DefD := ⟨("is_digits", none), "is_digits", "is_digits", defArgs s_is_digits, defBody s_is_digits, defScope s_is_digits, [], []⟩
def dd_take_cost : He.DefD := ⟨("take_cost", none), "take_cost", "take_cost", defArgs s_take_cost, defBody s_take_cost, defScope s_take_cost, [], []⟩
def dd_take_variables : He.DefD := ⟨("take_variables", none), "take_variables", "take_variables", defArgs s_take_variables, defBody s_take_variables, defScope s_take_variables, [], []⟩
def dd_DomainReader_init : He.DefD := ⟨("DomainReader", some "__init__"), "__init__", "DomainReader.__init__", defArgs s_DomainReader_init, defBody s_DomainReader_init, defScope s_DomainReader_init, [], []⟩
def dd_DomainReader_known_words : He.DefD := ⟨("DomainReader", some "known_words"), "known_words", "DomainReader.known_words", defArgs s_DomainReader_known_words, defBody s_DomainReader_known_words, defScope s_DomainReader_known_words, [], []⟩
def dd_DomainReader_read_line : He.DefD := ⟨("DomainReader", some "read_line"), "read_line", "DomainReader.read_line", defArgs s_DomainReader_read_line, defBody s_DomainReader_read_line, defScope s_DomainReader_read_line, [], []⟩
def dd_DomainReader_told_domain : He.DefD := ⟨("DomainReader", some "told_domain"), "told_domain", "DomainReader.told_domain", defArgs s_DomainReader_told_domain, defBody s_DomainReader_told_domain, defScope s_DomainReader_told_domain, [], []⟩
def dd_read_domain : He.DefD := ⟨("read_domain", none), "read_domain", "read_domain", defArgs s_read_domain, defBody s_read_domain, defScope s_read_domain, [], []⟩
def dd__law_draws : He.DefD := ⟨("_law_draws", none), "_law_draws", "_law_draws", defArgs s__law_draws, defBody s__law_draws, defScope s__law_draws, [], []⟩
def dd__law_take : He.DefD := ⟨("_law_take", none), "_law_take", "_law_take", defArgs s__law_take, defBody s__law_take, defScope s__law_take, [], []⟩
def dd__law_pick : He.DefD := ⟨("_law_pick", none), "_law_pick", "_law_pick", defArgs s__law_pick, defBody s__law_pick, defScope s__law_pick, [], []⟩
def dd__law_same : He.DefD := ⟨("_law_same", none), "_law_same", "_law_same", defArgs s__law_same, defBody s__law_same, defScope s__law_same, [], []⟩
def dd__law_plain_words : He.DefD := ⟨("_law_plain_words", none), "_law_plain_words", "_law_plain_words", defArgs s__law_plain_words, defBody s__law_plain_words, defScope s__law_plain_words, [], []⟩
def dd__law_is_beneath : He.DefD := ⟨("_law_is_beneath", none), "_law_is_beneath", "_law_is_beneath", defArgs s__law_is_beneath, defBody s__law_is_beneath, defScope s__law_is_beneath, [], []⟩
def dd__law_drawn_atom : He.DefD := ⟨("_law_drawn_atom", none), "_law_drawn_atom", "_law_drawn_atom", defArgs s__law_drawn_atom, defBody s__law_drawn_atom, defScope s__law_drawn_atom, [], []⟩
def dd__law_drawn_plain : He.DefD := ⟨("_law_drawn_plain", none), "_law_drawn_plain", "_law_drawn_plain", defArgs s__law_drawn_plain, defBody s__law_drawn_plain, defScope s__law_drawn_plain, [], []⟩
def dd__law_plain_tokens : He.DefD := ⟨("_law_plain_tokens", none), "_law_plain_tokens", "_law_plain_tokens", defArgs s__law_plain_tokens, defBody s__law_plain_tokens, defScope s__law_plain_tokens, [], []⟩
def dd__law_joined_tokens : He.DefD := ⟨("_law_joined_tokens", none), "_law_joined_tokens", "_law_joined_tokens", defArgs s__law_joined_tokens, defBody s__law_joined_tokens, defScope s__law_joined_tokens, [], []⟩
def dd__law_condition_tokens : He.DefD := ⟨("_law_condition_tokens", none), "_law_condition_tokens", "_law_condition_tokens", defArgs s__law_condition_tokens, defBody s__law_condition_tokens, defScope s__law_condition_tokens, [], []⟩
def dd__law_domain_lines : He.DefD := ⟨("_law_domain_lines", none), "_law_domain_lines", "_law_domain_lines", defArgs s__law_domain_lines, defBody s__law_domain_lines, defScope s__law_domain_lines, [], []⟩
def dd__law_text : He.DefD := ⟨("_law_text", none), "_law_text", "_law_text", defArgs s__law_text, defBody s__law_text, defScope s__law_text, [], []⟩
def dd__law_spread : He.DefD := ⟨("_law_spread", none), "_law_spread", "_law_spread", defArgs s__law_spread, defBody s__law_spread, defScope s__law_spread, [], []⟩
def dd__law_wide_deed : He.DefD := ⟨("_law_wide_deed", none), "_law_wide_deed", "_law_wide_deed", defArgs s__law_wide_deed, defBody s__law_wide_deed, defScope s__law_wide_deed, [], []⟩
def dd__law_wide_domain : He.DefD := ⟨("_law_wide_domain", none), "_law_wide_domain", "_law_wide_domain", defArgs s__law_wide_domain, defBody s__law_wide_domain, defScope s__law_wide_domain, [], []⟩
def dd_law : He.DefD := ⟨("law", none), "law", "law", defArgs s_law, defBody s_law, defScope s_law, [], []⟩
def fnD : List He.DefD := [dd_is_word, dd_kinds_above, dd_kind_fault, dd_relation_fault, dd_deed_fault, dd_plain_of_condition, dd_plain_of_deed, dd_atoms_of_deed, dd_is_right_atom, dd_has_atom_fault, dd_has_cost_fault, dd_first_index, dd_check_domain, dd_first_fault, dd_TextLine_init, dd_TextLine_skip_spaces, dd_TextLine_is_over, dd_TextLine_next_token, dd_TextLine_take_token, dd_TextLine_refuse_last, dd_TextLine_take_one_of, dd_TextLine_take_end, dd_text_lines, dd_line_count, dd_write_plain, dd_write_condition, dd_write_effect, dd_deed_lines, dd_write_domain, dd_take_word, dd_take_words, dd_take_atom, dd_take_plain, dd_take_row_of_plain, dd_take_condition, dd_take_effect, dd_take_number, dd_is_digits, dd_take_cost, dd_take_variables, dd_DomainReader_init, dd_DomainReader_known_words, dd_DomainReader_read_line, dd_DomainReader_told_domain, dd_read_domain, dd__law_draws, dd__law_take, dd__law_pick, dd__law_same, dd__law_plain_words, dd__law_is_beneath, dd__law_drawn_atom, dd__law_drawn_plain, dd__law_plain_tokens, dd__law_joined_tokens, dd__law_condition_tokens, dd__law_domain_lines, dd__law_text, dd__law_spread, dd__law_wide_deed, dd__law_wide_domain, dd_law]
def faD : List He.Fa := [.free "len", .free "isinstance", .free "all", .free "any", .free "max", .free "tuple", .free "list", .free "dict", .free "int", .free "str", .free "bool", .free "enumerate", .free "zip", .free "range", .glo "is_word", .glo "kinds_above", .glo "kind_fault", .glo "relation_fault", .glo "deed_fault", .glo "plain_of_condition", .glo "plain_of_deed", .glo "atoms_of_deed", .glo "is_right_atom", .glo "has_atom_fault", .glo "has_cost_fault", .glo "first_index", .glo "check_domain", .glo "first_fault", .glo "TextLine", .mkr "TextLine", .meth "TextLine" "skip_spaces", .meth "TextLine" "is_over", .meth "TextLine" "next_token", .meth "TextLine" "take_token", .meth "TextLine" "refuse_last", .meth "TextLine" "take_one_of", .meth "TextLine" "take_end", .glo "text_lines", .glo "line_count", .glo "write_plain", .glo "write_condition", .glo "write_effect", .glo "deed_lines", .glo "write_domain", .glo "take_word", .glo "take_words", .glo "take_atom", .glo "take_plain", .glo "take_row_of_plain", .glo "take_condition", .glo "take_effect", .glo "take_number", .glo "is_digits", .glo "take_cost", .glo "take_variables", .glo "DomainReader", .mkr "DomainReader", .meth "DomainReader" "known_words", .meth "DomainReader" "read_line", .meth "DomainReader" "told_domain", .glo "read_domain", .glo "_law_draws", .glo "_law_take", .glo "_law_pick", .glo "_law_same", .glo "_law_plain_words", .glo "_law_is_beneath", .glo "_law_drawn_atom", .glo "_law_drawn_plain", .glo "_law_plain_tokens", .glo "_law_joined_tokens", .glo "_law_condition_tokens", .glo "_law_domain_lines", .glo "_law_text", .glo "_law_spread", .glo "_law_wide_deed", .glo "_law_wide_domain", .glo "law", .cls "DomainReader", .noat "DomainReader" "read_kinds", .noat "DomainReader" "read_relations", .noat "DomainReader" "read_deeds", .noat "DomainReader" "open_deed", .cls "TextLine", .noat "TextLine" "line_number", .noat "TextLine" "line_text", .noat "TextLine" "last_place", .noat "TextLine" "line_place", .str "LETTERS" "abcdefghijklmnopqrstuvwxyz", .glo "MARKS"]
def exD (K : PySem.W.Frag) : Bool := tupS "MARKS" ["when", "and", "or", "either", "yes", "no", "same", "unlike", "by"] K
def csOf (K : PySem.W.Frag) : Cs where
  DomainReader := He.ga K "DomainReader"
  TextLine := He.ga K "TextLine"
section
variable {P : Program} {w : World} {K : PySem.W.Frag} {h : Heap} {mg : Str → Option Value} {base : Heap}
theorem bltD (X : K.In h) (G : h.Ns mainGlobals mg) (c : SaysX faD fnD exD K) : Blt mg where
  len := He.free_ok X G (c.d.fact 0 (f := .free "len") rfl)
  isi := He.free_ok X G (c.d.fact 1 (f := .free "isinstance") rfl)
  all := He.free_ok X G (c.d.fact 2 (f := .free "all") rfl)
  any := He.free_ok X G (c.d.fact 3 (f := .free "any") rfl)
  max := He.free_ok X G (c.d.fact 4 (f := .free "max") rfl)
  tup := He.free_ok X G (c.d.fact 5 (f := .free "tuple") rfl)
  lst := He.free_ok X G (c.d.fact 6 (f := .free "list") rfl)
  dic := He.free_ok X G (c.d.fact 7 (f := .free "dict") rfl)
  int := He.free_ok X G (c.d.fact 8 (f := .free "int") rfl)
  str := He.free_ok X G (c.d.fact 9 (f := .free "str") rfl)
  bool := He.free_ok X G (c.d.fact 10 (f := .free "bool") rfl)
  enu := He.free_ok X G (c.d.fact 11 (f := .free "enumerate") rfl)
  zip := He.free_ok X G (c.d.fact 12 (f := .free "zip") rfl)
  ran := He.free_ok X G (c.d.fact 13 (f := .free "range") rfl)
theorem glbD (X : K.In h) (G : h.Ns mainGlobals mg) (c : SaysX faD fnD exD K) : Glb K mg where
  LETTERS := glob_str X G (c.d.fact 88 (f := .str "LETTERS" "abcdefghijklmnopqrstuvwxyz") rfl)
  MARKS := glob_tup X G (ws := ["when", "and", "or", "either", "yes", "no", "same", "unlike", "by"]) (c.d.fact 89 (f := .glo "MARKS") rfl) (c.x)
theorem cfD (c : SaysX faD fnD exD K) : Cfacts K (csOf K) where
  cDomainReader := He.cls_ok (c.d.fact 78 (f := .cls "DomainReader") rfl)
  nDomainReader_read_kinds := He.noat_ok (c.d.fact 79 (f := .noat "DomainReader" "read_kinds") rfl)
  nDomainReader_read_relations := He.noat_ok (c.d.fact 80 (f := .noat "DomainReader" "read_relations") rfl)
  nDomainReader_read_deeds := He.noat_ok (c.d.fact 81 (f := .noat "DomainReader" "read_deeds") rfl)
  nDomainReader_open_deed := He.noat_ok (c.d.fact 82 (f := .noat "DomainReader" "open_deed") rfl)
  cTextLine := He.cls_ok (c.d.fact 83 (f := .cls "TextLine") rfl)
  nTextLine_line_number := He.noat_ok (c.d.fact 84 (f := .noat "TextLine" "line_number") rfl)
  nTextLine_line_text := He.noat_ok (c.d.fact 85 (f := .noat "TextLine" "line_text") rfl)
  nTextLine_last_place := He.noat_ok (c.d.fact 86 (f := .noat "TextLine" "last_place") rfl)
  nTextLine_line_place := He.noat_ok (c.d.fact 87 (f := .noat "TextLine" "line_place") rfl)
theorem L_is_word (X : K.In h) (G : h.Ns mainGlobals mg) (c : SaysX faD fnD exD K) : Fn P w K mg base 1 "is_word" ["part"] (sp_is_word (csOf K)) := by
  obtain ⟨fd, D⟩ : ∃ fd, FnP K "is_word" "is_word" s_is_word (He.ga K "is_word") fd := c.d.def_ 0 (d := dd_is_word) rfl
  exact fn_def (He.glo_ok X G (c.d.fact 14 (f := .glo "is_word") rfl)) D sc_is_word (by intro ds M Q E h; (repeat (obtain ⟨_, h⟩ := h)) <;> subst_vars <;> rfl) (fun _ _ _ _ _ _ us hl => match us, hl with | [_], _ => rfl) (fun cdv A outer s H E hr => d_is_word (bltD X G c) (glbD X G c) (cfD c)  hr) (fun ds M Q E h => p_is_word (csOf K) ds M Q E h)
theorem L_kinds_above (X : K.In h) (G : h.Ns mainGlobals mg) (c : SaysX faD fnD exD K) : Fn P w K mg base 1 "kinds_above" ["kinds"] (sp_kinds_above (csOf K)) := by
  obtain ⟨fd, D⟩ : ∃ fd, FnP K "kinds_above" "kinds_above" s_kinds_above (He.ga K "kinds_above") fd := c.d.def_ 1 (d := dd_kinds_above) rfl
  exact fn_def (He.glo_ok X G (c.d.fact 15 (f := .glo "kinds_above") rfl)) D sc_kinds_above (by intro ds M Q E h; (repeat (obtain ⟨_, h⟩ := h)) <;> subst_vars <;> rfl) (fun _ _ _ _ _ _ us hl => match us, hl with | [_], _ => rfl) (fun cdv A outer s H E hr => d_kinds_above (bltD X G c) (glbD X G c) (cfD c)  hr) (fun ds M Q E h => p_kinds_above (csOf K) ds M Q E h)
theorem L_kind_fault (X : K.In h) (G : h.Ns mainGlobals mg) (c : SaysX faD fnD exD K) : Fn P w K mg base 1 "kind_fault" ["kinds"] (sp_kind_fault (csOf K)) := by
  obtain ⟨fd, D⟩ : ∃ fd, FnP K "kind_fault" "kind_fault" s_kind_fault (He.ga K "kind_fault") fd := c.d.def_ 2 (d := dd_kind_fault) rfl
  exact fn_def (He.glo_ok X G (c.d.fact 16 (f := .glo "kind_fault") rfl)) D sc_kind_fault (by intro ds M Q E h; (repeat (obtain ⟨_, h⟩ := h)) <;> subst_vars <;> rfl) (fun _ _ _ _ _ _ us hl => match us, hl with | [_], _ => rfl) (fun cdv A outer s H E hr => d_kind_fault (bltD X G c) (glbD X G c) (cfD c)  hr) (fun ds M Q E h => p_kind_fault (csOf K) ds M Q E h)
theorem L_relation_fault (X : K.In h) (G : h.Ns mainGlobals mg) (c : SaysX faD fnD exD K) (F_kinds_above : Fn P w K mg base 1 "kinds_above" ["kinds"] (sp_kinds_above (csOf K))) : Fn P w K mg base 2 "relation_fault" ["domain"] (sp_relation_fault (csOf K)) := by
  obtain ⟨fd, D⟩ : ∃ fd, FnP K "relation_fault" "relation_fault" s_relation_fault (He.ga K "relation_fault") fd := c.d.def_ 3 (d := dd_relation_fault) rfl
  exact fn_def (He.glo_ok X G (c.d.fact 17 (f := .glo "relation_fault") rfl)) D sc_relation_fault (by intro ds M Q E h; (repeat (obtain ⟨_, h⟩ := h)) <;> subst_vars <;> rfl) (fun _ _ _ _ _ _ us hl => match us, hl with | [_], _ => rfl) (fun cdv A outer s H E hr => d_relation_fault (bltD X G c) (glbD X G c) (cfD c) F_kinds_above hr) (fun ds M Q E h => p_relation_fault (csOf K) ds M Q E h)
theorem L_deed_fault (X : K.In h) (G : h.Ns mainGlobals mg) (c : SaysX faD fnD exD K) (F_kinds_above : Fn P w K mg base 1 "kinds_above" ["kinds"] (sp_kinds_above (csOf K))) : Fn P w K mg base 2 "deed_fault" ["domain"] (sp_deed_fault (csOf K)) := by
  obtain ⟨fd, D⟩ : ∃ fd, FnP K "deed_fault" "deed_fault" s_deed_fault (He.ga K "deed_fault") fd := c.d.def_ 4 (d := dd_deed_fault) rfl
  exact fn_def (He.glo_ok X G (c.d.fact 18 (f := .glo "deed_fault") rfl)) D sc_deed_fault (by intro ds M Q E h; (repeat (obtain ⟨_, h⟩ := h)) <;> subst_vars <;> rfl) (fun _ _ _ _ _ _ us hl => match us, hl with | [_], _ => rfl) (fun cdv A outer s H E hr => d_deed_fault (bltD X G c) (glbD X G c) (cfD c) F_kinds_above hr) (fun ds M Q E h => p_deed_fault (csOf K) ds M Q E h)
theorem L_plain_of_condition (X : K.In h) (G : h.Ns mainGlobals mg) (c : SaysX faD fnD exD K) : Fn P w K mg base 1 "plain_of_condition" ["condition"] (sp_plain_of_condition (csOf K)) := by
  obtain ⟨fd, D⟩ : ∃ fd, FnP K "plain_of_condition" "plain_of_condition" s_plain_of_condition (He.ga K "plain_of_condition") fd := c.d.def_ 5 (d := dd_plain_of_condition) rfl
  exact fn_def (He.glo_ok X G (c.d.fact 19 (f := .glo "plain_of_condition") rfl)) D sc_plain_of_condition (by intro ds M Q E h; (repeat (obtain ⟨_, h⟩ := h)) <;> subst_vars <;> rfl) (fun _ _ _ _ _ _ us hl => match us, hl with | [_], _ => rfl) (fun cdv A outer s H E hr => d_plain_of_condition (bltD X G c) (glbD X G c) (cfD c)  hr) (fun ds M Q E h => p_plain_of_condition (csOf K) ds M Q E h)
theorem L_plain_of_deed (X : K.In h) (G : h.Ns mainGlobals mg) (c : SaysX faD fnD exD K) (F_plain_of_condition : Fn P w K mg base 1 "plain_of_condition" ["condition"] (sp_plain_of_condition (csOf K))) : Fn P w K mg base 2 "plain_of_deed" ["deed"] (sp_plain_of_deed (csOf K)) := by
  obtain ⟨fd, D⟩ : ∃ fd, FnP K "plain_of_deed" "plain_of_deed" s_plain_of_deed (He.ga K "plain_of_deed") fd := c.d.def_ 6 (d := dd_plain_of_deed) rfl
  exact fn_def (He.glo_ok X G (c.d.fact 20 (f := .glo "plain_of_deed") rfl)) D sc_plain_of_deed (by intro ds M Q E h; (repeat (obtain ⟨_, h⟩ := h)) <;> subst_vars <;> rfl) (fun _ _ _ _ _ _ us hl => match us, hl with | [_], _ => rfl) (fun cdv A outer s H E hr => d_plain_of_deed (bltD X G c) (glbD X G c) (cfD c) F_plain_of_condition hr) (fun ds M Q E h => p_plain_of_deed (csOf K) ds M Q E h)
theorem L_atoms_of_deed (X : K.In h) (G : h.Ns mainGlobals mg) (c : SaysX faD fnD exD K) (F_plain_of_deed : Fn P w K mg base 2 "plain_of_deed" ["deed"] (sp_plain_of_deed (csOf K))) : Fn P w K mg base 3 "atoms_of_deed" ["deed"] (sp_atoms_of_deed (csOf K)) := by
  obtain ⟨fd, D⟩ : ∃ fd, FnP K "atoms_of_deed" "atoms_of_deed" s_atoms_of_deed (He.ga K "atoms_of_deed") fd := c.d.def_ 7 (d := dd_atoms_of_deed) rfl
  exact fn_def (He.glo_ok X G (c.d.fact 21 (f := .glo "atoms_of_deed") rfl)) D sc_atoms_of_deed (by intro ds M Q E h; (repeat (obtain ⟨_, h⟩ := h)) <;> subst_vars <;> rfl) (fun _ _ _ _ _ _ us hl => match us, hl with | [_], _ => rfl) (fun cdv A outer s H E hr => d_atoms_of_deed (bltD X G c) (glbD X G c) (cfD c) F_plain_of_deed hr) (fun ds M Q E h => p_atoms_of_deed (csOf K) ds M Q E h)
theorem L_is_right_atom (X : K.In h) (G : h.Ns mainGlobals mg) (c : SaysX faD fnD exD K) (F_kinds_above : Fn P w K mg base 1 "kinds_above" ["kinds"] (sp_kinds_above (csOf K))) : Fn P w K mg base 2 "is_right_atom" ["domain", "deed", "atom"] (sp_is_right_atom (csOf K)) := by
  obtain ⟨fd, D⟩ : ∃ fd, FnP K "is_right_atom" "is_right_atom" s_is_right_atom (He.ga K "is_right_atom") fd := c.d.def_ 8 (d := dd_is_right_atom) rfl
  exact fn_def (He.glo_ok X G (c.d.fact 22 (f := .glo "is_right_atom") rfl)) D sc_is_right_atom (by intro ds M Q E h; (repeat (obtain ⟨_, h⟩ := h)) <;> subst_vars <;> rfl) (fun _ _ _ _ _ _ us hl => match us, hl with | [_, _, _], _ => rfl) (fun cdv A outer s H E hr => d_is_right_atom (bltD X G c) (glbD X G c) (cfD c) F_kinds_above hr) (fun ds M Q E h => p_is_right_atom (csOf K) ds M Q E h)
theorem L_has_atom_fault (X : K.In h) (G : h.Ns mainGlobals mg) (c : SaysX faD fnD exD K) (F_atoms_of_deed : Fn P w K mg base 3 "atoms_of_deed" ["deed"] (sp_atoms_of_deed (csOf K))) (F_is_right_atom : Fn P w K mg base 2 "is_right_atom" ["domain", "deed", "atom"] (sp_is_right_atom (csOf K))) (F_plain_of_deed : Fn P w K mg base 2 "plain_of_deed" ["deed"] (sp_plain_of_deed (csOf K))) : Fn P w K mg base 4 "has_atom_fault" ["domain", "deed"] (sp_has_atom_fault (csOf K)) := by
  obtain ⟨fd, D⟩ : ∃ fd, FnP K "has_atom_fault" "has_atom_fault" s_has_atom_fault (He.ga K "has_atom_fault") fd := c.d.def_ 9 (d := dd_has_atom_fault) rfl
  exact fn_def (He.glo_ok X G (c.d.fact 23 (f := .glo "has_atom_fault") rfl)) D sc_has_atom_fault (by intro ds M Q E h; (repeat (obtain ⟨_, h⟩ := h)) <;> subst_vars <;> rfl) (fun _ _ _ _ _ _ us hl => match us, hl with | [_, _], _ => rfl) (fun cdv A outer s H E hr => d_has_atom_fault (bltD X G c) (glbD X G c) (cfD c) F_atoms_of_deed F_is_right_atom F_plain_of_deed hr) (fun ds M Q E h => p_has_atom_fault (csOf K) ds M Q E h)
theorem L_has_cost_fault (X : K.In h) (G : h.Ns mainGlobals mg) (c : SaysX faD fnD exD K) : Fn P w K mg base 1 "has_cost_fault" ["deed"] (sp_has_cost_fault (csOf K)) := by
  obtain ⟨fd, D⟩ : ∃ fd, FnP K "has_cost_fault" "has_cost_fault" s_has_cost_fault (He.ga K "has_cost_fault") fd := c.d.def_ 10 (d := dd_has_cost_fault) rfl
  exact fn_def (He.glo_ok X G (c.d.fact 24 (f := .glo "has_cost_fault") rfl)) D sc_has_cost_fault (by intro ds M Q E h; (repeat (obtain ⟨_, h⟩ := h)) <;> subst_vars <;> rfl) (fun _ _ _ _ _ _ us hl => match us, hl with | [_], _ => rfl) (fun cdv A outer s H E hr => d_has_cost_fault (bltD X G c) (glbD X G c) (cfD c)  hr) (fun ds M Q E h => p_has_cost_fault (csOf K) ds M Q E h)
theorem L_first_index (X : K.In h) (G : h.Ns mainGlobals mg) (c : SaysX faD fnD exD K) : Fn P w K mg base 1 "first_index" ["flags"] (sp_first_index (csOf K)) := by
  obtain ⟨fd, D⟩ : ∃ fd, FnP K "first_index" "first_index" s_first_index (He.ga K "first_index") fd := c.d.def_ 11 (d := dd_first_index) rfl
  exact fn_def (He.glo_ok X G (c.d.fact 25 (f := .glo "first_index") rfl)) D sc_first_index (by intro ds M Q E h; (repeat (obtain ⟨_, h⟩ := h)) <;> subst_vars <;> rfl) (fun _ _ _ _ _ _ us hl => match us, hl with | [_], _ => rfl) (fun cdv A outer s H E hr => d_first_index (bltD X G c) (glbD X G c) (cfD c)  hr) (fun ds M Q E h => p_first_index (csOf K) ds M Q E h)
theorem L_check_domain (X : K.In h) (G : h.Ns mainGlobals mg) (c : SaysX faD fnD exD K) (F_first_fault : Fn P w K mg base 5 "first_fault" ["domain", "fault"] (sp_first_fault (csOf K))) : Fn P w K mg base 6 "check_domain" ["domain"] (sp_check_domain (csOf K)) := by
  obtain ⟨fd, D⟩ : ∃ fd, FnP K "check_domain" "check_domain" s_check_domain (He.ga K "check_domain") fd := c.d.def_ 12 (d := dd_check_domain) rfl
  exact fn_def (He.glo_ok X G (c.d.fact 26 (f := .glo "check_domain") rfl)) D sc_check_domain (by intro ds M Q E h; (repeat (obtain ⟨_, h⟩ := h)) <;> subst_vars <;> rfl) (fun _ _ _ _ _ _ us hl => match us, hl with | [_], _ => rfl) (fun cdv A outer s H E hr => d_check_domain (bltD X G c) (glbD X G c) (cfD c) F_first_fault hr) (fun ds M Q E h => p_check_domain (csOf K) ds M Q E h)
theorem L_first_fault (X : K.In h) (G : h.Ns mainGlobals mg) (c : SaysX faD fnD exD K) (F_deed_fault : Fn P w K mg base 2 "deed_fault" ["domain"] (sp_deed_fault (csOf K))) (F_first_index : Fn P w K mg base 1 "first_index" ["flags"] (sp_first_index (csOf K))) (F_has_atom_fault : Fn P w K mg base 4 "has_atom_fault" ["domain", "deed"] (sp_has_atom_fault (csOf K))) (F_has_cost_fault : Fn P w K mg base 1 "has_cost_fault" ["deed"] (sp_has_cost_fault (csOf K))) (F_kind_fault : Fn P w K mg base 1 "kind_fault" ["kinds"] (sp_kind_fault (csOf K))) (F_relation_fault : Fn P w K mg base 2 "relation_fault" ["domain"] (sp_relation_fault (csOf K))) : Fn P w K mg base 5 "first_fault" ["domain", "fault"] (sp_first_fault (csOf K)) := by
  obtain ⟨fd, D⟩ : ∃ fd, FnP K "first_fault" "first_fault" s_first_fault (He.ga K "first_fault") fd := c.d.def_ 13 (d := dd_first_fault) rfl
  exact fn_def (He.glo_ok X G (c.d.fact 27 (f := .glo "first_fault") rfl)) D sc_first_fault (by intro ds M Q E h; (repeat (obtain ⟨_, h⟩ := h)) <;> subst_vars <;> rfl) (fun _ _ _ _ _ _ us hl => match us, hl with | [_, _], _ => rfl) (fun cdv A outer s H E hr => d_first_fault (bltD X G c) (glbD X G c) (cfD c) F_deed_fault F_first_index F_has_atom_fault F_has_cost_fault F_kind_fault F_relation_fault hr) (fun ds M Q E h => p_first_fault (csOf K) ds M Q E h)
theorem L_TextLine_init (X : K.In h) (G : h.Ns mainGlobals mg) (c : SaysX faD fnD exD K) (F_TextLine_skip_spaces : Mt P w K mg base 1 (csOf K).TextLine "skip_spaces" ["self"] (sp_TextLine_skip_spaces (csOf K))) : Mkr P w K mg base 2 "TextLine" (csOf K).TextLine ["self", "number", "text"] (sp_TextLine_init (csOf K)) := by
  obtain ⟨fd, D⟩ : ∃ fd, FnP K "__init__" "TextLine.__init__" s_TextLine_init (He.ma K (He.ga K "TextLine") "__init__") fd := c.d.def_ 14 (d := dd_TextLine_init) rfl
  exact mk_def (He.glo_ok X G (c.d.fact 28 (f := .glo "TextLine") rfl)) (He.mkr_ok (c.d.fact 29 (f := .mkr "TextLine") rfl)) D sc_TextLine_init (by intro ds M Q E h; (repeat (obtain ⟨_, h⟩ := h)) <;> subst_vars <;> rfl) (fun _ _ _ _ _ _ us hl => match us, hl with | [_, _, _], _ => rfl) (fun cdv A outer s H E hr => d_TextLine_init (bltD X G c) (glbD X G c) (cfD c) F_TextLine_skip_spaces hr) (fun ds M Q E h => p_init (csOf K) ds M Q E h)
theorem L_TextLine_skip_spaces (X : K.In h) (G : h.Ns mainGlobals mg) (c : SaysX faD fnD exD K) : Mt P w K mg base 1 (csOf K).TextLine "skip_spaces" ["self"] (sp_TextLine_skip_spaces (csOf K)) := by
  obtain ⟨fd, D⟩ : ∃ fd, FnP K "skip_spaces" "TextLine.skip_spaces" s_TextLine_skip_spaces (He.ma K (He.ga K "TextLine") "skip_spaces") fd := c.d.def_ 15 (d := dd_TextLine_skip_spaces) rfl
  exact mt_def (He.meth_ok (c.d.fact 30 (f := .meth "TextLine" "skip_spaces") rfl)) D sc_TextLine_skip_spaces (by intro ds M Q E h; (repeat (obtain ⟨_, h⟩ := h)) <;> subst_vars <;> rfl) (fun _ _ _ _ _ _ us hl => match us, hl with | [_], _ => rfl) (fun cdv A outer s H E hr => d_TextLine_skip_spaces (bltD X G c) (glbD X G c) (cfD c)  hr) (fun ds M Q E h => p_skip (csOf K) ds M Q E h)
theorem L_TextLine_is_over (X : K.In h) (G : h.Ns mainGlobals mg) (c : SaysX faD fnD exD K) : Mt P w K mg base 1 (csOf K).TextLine "is_over" ["self"] (sp_TextLine_is_over (csOf K)) := by
  obtain ⟨fd, D⟩ : ∃ fd, FnP K "is_over" "TextLine.is_over" s_TextLine_is_over (He.ma K (He.ga K "TextLine") "is_over") fd := c.d.def_ 16 (d := dd_TextLine_is_over) rfl
  exact mt_def (He.meth_ok (c.d.fact 31 (f := .meth "TextLine" "is_over") rfl)) D sc_TextLine_is_over (by intro ds M Q E h; (repeat (obtain ⟨_, h⟩ := h)) <;> subst_vars <;> rfl) (fun _ _ _ _ _ _ us hl => match us, hl with | [_], _ => rfl) (fun cdv A outer s H E hr => d_TextLine_is_over (bltD X G c) (glbD X G c) (cfD c)  hr) (fun ds M Q E h => p_is_over (csOf K) ds M Q E h)
theorem L_TextLine_next_token (X : K.In h) (G : h.Ns mainGlobals mg) (c : SaysX faD fnD exD K) : Mt P w K mg base 1 (csOf K).TextLine "next_token" ["self"] (sp_TextLine_next_token (csOf K)) := by
  obtain ⟨fd, D⟩ : ∃ fd, FnP K "next_token" "TextLine.next_token" s_TextLine_next_token (He.ma K (He.ga K "TextLine") "next_token") fd := c.d.def_ 17 (d := dd_TextLine_next_token) rfl
  exact mt_def (He.meth_ok (c.d.fact 32 (f := .meth "TextLine" "next_token") rfl)) D sc_TextLine_next_token (by intro ds M Q E h; (repeat (obtain ⟨_, h⟩ := h)) <;> subst_vars <;> rfl) (fun _ _ _ _ _ _ us hl => match us, hl with | [_], _ => rfl) (fun cdv A outer s H E hr => d_TextLine_next_token (bltD X G c) (glbD X G c) (cfD c)  hr) (fun ds M Q E h => p_next_token (csOf K) ds M Q E h)
theorem L_TextLine_take_token (X : K.In h) (G : h.Ns mainGlobals mg) (c : SaysX faD fnD exD K) (F_TextLine_next_token : Mt P w K mg base 1 (csOf K).TextLine "next_token" ["self"] (sp_TextLine_next_token (csOf K))) (F_TextLine_refuse_last : Mt P w K mg base 1 (csOf K).TextLine "refuse_last" ["self"] (sp_TextLine_refuse_last (csOf K))) (F_TextLine_skip_spaces : Mt P w K mg base 1 (csOf K).TextLine "skip_spaces" ["self"] (sp_TextLine_skip_spaces (csOf K))) : Mt P w K mg base 2 (csOf K).TextLine "take_token" ["self"] (sp_TextLine_take_token (csOf K)) := by
  obtain ⟨fd, D⟩ : ∃ fd, FnP K "take_token" "TextLine.take_token" s_TextLine_take_token (He.ma K (He.ga K "TextLine") "take_token") fd := c.d.def_ 18 (d := dd_TextLine_take_token) rfl
  exact mt_def (He.meth_ok (c.d.fact 33 (f := .meth "TextLine" "take_token") rfl)) D sc_TextLine_take_token (by intro ds M Q E h; (repeat (obtain ⟨_, h⟩ := h)) <;> subst_vars <;> rfl) (fun _ _ _ _ _ _ us hl => match us, hl with | [_], _ => rfl) (fun cdv A outer s H E hr => d_TextLine_take_token (bltD X G c) (glbD X G c) (cfD c) F_TextLine_next_token F_TextLine_refuse_last F_TextLine_skip_spaces hr) (fun ds M Q E h => p_take_token (csOf K) ds M Q E h)
theorem L_TextLine_refuse_last (X : K.In h) (G : h.Ns mainGlobals mg) (c : SaysX faD fnD exD K) : Mt P w K mg base 1 (csOf K).TextLine "refuse_last" ["self"] (sp_TextLine_refuse_last (csOf K)) := by
  obtain ⟨fd, D⟩ : ∃ fd, FnP K "refuse_last" "TextLine.refuse_last" s_TextLine_refuse_last (He.ma K (He.ga K "TextLine") "refuse_last") fd := c.d.def_ 19 (d := dd_TextLine_refuse_last) rfl
  exact mt_def (He.meth_ok (c.d.fact 34 (f := .meth "TextLine" "refuse_last") rfl)) D sc_TextLine_refuse_last (by intro ds M Q E h; (repeat (obtain ⟨_, h⟩ := h)) <;> subst_vars <;> rfl) (fun _ _ _ _ _ _ us hl => match us, hl with | [_], _ => rfl) (fun cdv A outer s H E hr => d_TextLine_refuse_last (bltD X G c) (glbD X G c) (cfD c)  hr) (fun ds M Q E h => h.elim)
theorem L_TextLine_take_one_of (X : K.In h) (G : h.Ns mainGlobals mg) (c : SaysX faD fnD exD K) (F_TextLine_refuse_last : Mt P w K mg base 1 (csOf K).TextLine "refuse_last" ["self"] (sp_TextLine_refuse_last (csOf K))) (F_TextLine_take_token : Mt P w K mg base 2 (csOf K).TextLine "take_token" ["self"] (sp_TextLine_take_token (csOf K))) : Mt P w K mg base 3 (csOf K).TextLine "take_one_of" ["self", "known"] (sp_TextLine_take_one_of (csOf K)) := by
  obtain ⟨fd, D⟩ : ∃ fd, FnP K "take_one_of" "TextLine.take_one_of" s_TextLine_take_one_of (He.ma K (He.ga K "TextLine") "take_one_of") fd := c.d.def_ 20 (d := dd_TextLine_take_one_of) rfl
  exact mt_def (He.meth_ok (c.d.fact 35 (f := .meth "TextLine" "take_one_of") rfl)) D sc_TextLine_take_one_of (by intro ds M Q E h; (repeat (obtain ⟨_, h⟩ := h)) <;> subst_vars <;> rfl) (fun _ _ _ _ _ _ us hl => match us, hl with | [_, _], _ => rfl) (fun cdv A outer s H E hr => d_TextLine_take_one_of (bltD X G c) (glbD X G c) (cfD c) F_TextLine_refuse_last F_TextLine_take_token hr) (fun ds M Q E h => p_take_one_of (csOf K) ds M Q E h)
theorem L_TextLine_take_end (X : K.In h) (G : h.Ns mainGlobals mg) (c : SaysX faD fnD exD K) (F_TextLine_is_over : Mt P w K mg base 1 (csOf K).TextLine "is_over" ["self"] (sp_TextLine_is_over (csOf K))) (F_TextLine_refuse_last : Mt P w K mg base 1 (csOf K).TextLine "refuse_last" ["self"] (sp_TextLine_refuse_last (csOf K))) : Mt P w K mg base 2 (csOf K).TextLine "take_end" ["self"] (sp_TextLine_take_end (csOf K)) := by
  obtain ⟨fd, D⟩ : ∃ fd, FnP K "take_end" "TextLine.take_end" s_TextLine_take_end (He.ma K (He.ga K "TextLine") "take_end") fd := c.d.def_ 21 (d := dd_TextLine_take_end) rfl
  exact mt_def (He.meth_ok (c.d.fact 36 (f := .meth "TextLine" "take_end") rfl)) D sc_TextLine_take_end (by intro ds M Q E h; (repeat (obtain ⟨_, h⟩ := h)) <;> subst_vars <;> rfl) (fun _ _ _ _ _ _ us hl => match us, hl with | [_], _ => rfl) (fun cdv A outer s H E hr => d_TextLine_take_end (bltD X G c) (glbD X G c) (cfD c) F_TextLine_is_over F_TextLine_refuse_last hr) (fun ds M Q E h => p_take_end (csOf K) ds M Q E h)
theorem L_text_lines (X : K.In h) (G : h.Ns mainGlobals mg) (c : SaysX faD fnD exD K) (F_TextLine_init : Mkr P w K mg base 2 "TextLine" (csOf K).TextLine ["self", "number", "text"] (sp_TextLine_init (csOf K))) (F_TextLine_is_over : Mt P w K mg base 1 (csOf K).TextLine "is_over" ["self"] (sp_TextLine_is_over (csOf K))) : Fn P w K mg base 4 "text_lines" ["text"] (sp_text_lines (csOf K)) := by
  obtain ⟨fd, D⟩ : ∃ fd, FnP K "text_lines" "text_lines" s_text_lines (He.ga K "text_lines") fd := c.d.def_ 22 (d := dd_text_lines) rfl
  exact fn_def (He.glo_ok X G (c.d.fact 37 (f := .glo "text_lines") rfl)) D sc_text_lines (by intro ds M Q E h; (repeat (obtain ⟨_, h⟩ := h)) <;> subst_vars <;> rfl) (fun _ _ _ _ _ _ us hl => match us, hl with | [_], _ => rfl) (fun cdv A outer s H E hr => d_text_lines (bltD X G c) (glbD X G c) (cfD c) F_TextLine_init F_TextLine_is_over hr) (fun ds M Q E h => p_text_lines (csOf K) ds M Q E h)
theorem L_line_count (X : K.In h) (G : h.Ns mainGlobals mg) (c : SaysX faD fnD exD K) : Fn P w K mg base 1 "line_count" ["text"] (sp_line_count (csOf K)) := by
  obtain ⟨fd, D⟩ : ∃ fd, FnP K "line_count" "line_count" s_line_count (He.ga K "line_count") fd := c.d.def_ 23 (d := dd_line_count) rfl
  exact fn_def (He.glo_ok X G (c.d.fact 38 (f := .glo "line_count") rfl)) D sc_line_count (by intro ds M Q E h; (repeat (obtain ⟨_, h⟩ := h)) <;> subst_vars <;> rfl) (fun _ _ _ _ _ _ us hl => match us, hl with | [_], _ => rfl) (fun cdv A outer s H E hr => d_line_count (bltD X G c) (glbD X G c) (cfD c)  hr) (fun ds M Q E h => h.elim)
theorem L_write_plain (X : K.In h) (G : h.Ns mainGlobals mg) (c : SaysX faD fnD exD K) : Fn P w K mg base 1 "write_plain" ["plain"] (sp_write_plain (csOf K)) := by
  obtain ⟨fd, D⟩ : ∃ fd, FnP K "write_plain" "write_plain" s_write_plain (He.ga K "write_plain") fd := c.d.def_ 24 (d := dd_write_plain) rfl
  exact fn_def (He.glo_ok X G (c.d.fact 39 (f := .glo "write_plain") rfl)) D sc_write_plain (by intro ds M Q E h; (repeat (obtain ⟨_, h⟩ := h)) <;> subst_vars <;> rfl) (fun _ _ _ _ _ _ us hl => match us, hl with | [_], _ => rfl) (fun cdv A outer s H E hr => d_write_plain (bltD X G c) (glbD X G c) (cfD c)  hr) (fun ds M Q E h => p_write_plain (csOf K) ds M Q E h)
theorem L_write_condition (X : K.In h) (G : h.Ns mainGlobals mg) (c : SaysX faD fnD exD K) (F_write_plain : Fn P w K mg base 1 "write_plain" ["plain"] (sp_write_plain (csOf K))) : Fn P w K mg base 2 "write_condition" ["condition"] (sp_write_condition (csOf K)) := by
  obtain ⟨fd, D⟩ : ∃ fd, FnP K "write_condition" "write_condition" s_write_condition (He.ga K "write_condition") fd := c.d.def_ 25 (d := dd_write_condition) rfl
  exact fn_def (He.glo_ok X G (c.d.fact 40 (f := .glo "write_condition") rfl)) D sc_write_condition (by intro ds M Q E h; (repeat (obtain ⟨_, h⟩ := h)) <;> subst_vars <;> rfl) (fun _ _ _ _ _ _ us hl => match us, hl with | [_], _ => rfl) (fun cdv A outer s H E hr => d_write_condition (bltD X G c) (glbD X G c) (cfD c) F_write_plain hr) (fun ds M Q E h => p_write_condition (csOf K) ds M Q E h)
theorem L_write_effect (X : K.In h) (G : h.Ns mainGlobals mg) (c : SaysX faD fnD exD K) (F_write_plain : Fn P w K mg base 1 "write_plain" ["plain"] (sp_write_plain (csOf K))) : Fn P w K mg base 2 "write_effect" ["effect"] (sp_write_effect (csOf K)) := by
  obtain ⟨fd, D⟩ : ∃ fd, FnP K "write_effect" "write_effect" s_write_effect (He.ga K "write_effect") fd := c.d.def_ 26 (d := dd_write_effect) rfl
  exact fn_def (He.glo_ok X G (c.d.fact 41 (f := .glo "write_effect") rfl)) D sc_write_effect (by intro ds M Q E h; (repeat (obtain ⟨_, h⟩ := h)) <;> subst_vars <;> rfl) (fun _ _ _ _ _ _ us hl => match us, hl with | [_], _ => rfl) (fun cdv A outer s H E hr => d_write_effect (bltD X G c) (glbD X G c) (cfD c) F_write_plain hr) (fun ds M Q E h => p_write_effect (csOf K) ds M Q E h)
theorem L_deed_lines (X : K.In h) (G : h.Ns mainGlobals mg) (c : SaysX faD fnD exD K) (F_write_condition : Fn P w K mg base 2 "write_condition" ["condition"] (sp_write_condition (csOf K))) (F_write_effect : Fn P w K mg base 2 "write_effect" ["effect"] (sp_write_effect (csOf K))) : Fn P w K mg base 3 "deed_lines" ["deed"] (sp_deed_lines (csOf K)) := by
  obtain ⟨fd, D⟩ : ∃ fd, FnP K "deed_lines" "deed_lines" s_deed_lines (He.ga K "deed_lines") fd := c.d.def_ 27 (d := dd_deed_lines) rfl
  exact fn_def (He.glo_ok X G (c.d.fact 42 (f := .glo "deed_lines") rfl)) D sc_deed_lines (by intro ds M Q E h; (repeat (obtain ⟨_, h⟩ := h)) <;> subst_vars <;> rfl) (fun _ _ _ _ _ _ us hl => match us, hl with | [_], _ => rfl) (fun cdv A outer s H E hr => d_deed_lines (bltD X G c) (glbD X G c) (cfD c) F_write_condition F_write_effect hr) (fun ds M Q E h => p_deed_lines (csOf K) ds M Q E h)
theorem L_write_domain (X : K.In h) (G : h.Ns mainGlobals mg) (c : SaysX faD fnD exD K) (F_deed_lines : Fn P w K mg base 3 "deed_lines" ["deed"] (sp_deed_lines (csOf K))) : Fn P w K mg base 4 "write_domain" ["domain"] (sp_write_domain (csOf K)) := by
  obtain ⟨fd, D⟩ : ∃ fd, FnP K "write_domain" "write_domain" s_write_domain (He.ga K "write_domain") fd := c.d.def_ 28 (d := dd_write_domain) rfl
  exact fn_def (He.glo_ok X G (c.d.fact 43 (f := .glo "write_domain") rfl)) D sc_write_domain (by intro ds M Q E h; (repeat (obtain ⟨_, h⟩ := h)) <;> subst_vars <;> rfl) (fun _ _ _ _ _ _ us hl => match us, hl with | [_], _ => rfl) (fun cdv A outer s H E hr => d_write_domain (bltD X G c) (glbD X G c) (cfD c) F_deed_lines hr) (fun ds M Q E h => p_write_domain (csOf K) ds M Q E h)
theorem L_take_word (X : K.In h) (G : h.Ns mainGlobals mg) (c : SaysX faD fnD exD K) (F_TextLine_refuse_last : Mt P w K mg base 1 (csOf K).TextLine "refuse_last" ["self"] (sp_TextLine_refuse_last (csOf K))) (F_TextLine_take_token : Mt P w K mg base 2 (csOf K).TextLine "take_token" ["self"] (sp_TextLine_take_token (csOf K))) (F_is_word : Fn P w K mg base 1 "is_word" ["part"] (sp_is_word (csOf K))) : Fn P w K mg base 3 "take_word" ["line"] (sp_take_word (csOf K)) := by
  obtain ⟨fd, D⟩ : ∃ fd, FnP K "take_word" "take_word" s_take_word (He.ga K "take_word") fd := c.d.def_ 29 (d := dd_take_word) rfl
  exact fn_def (He.glo_ok X G (c.d.fact 44 (f := .glo "take_word") rfl)) D sc_take_word (by intro ds M Q E h; (repeat (obtain ⟨_, h⟩ := h)) <;> subst_vars <;> rfl) (fun _ _ _ _ _ _ us hl => match us, hl with | [_], _ => rfl) (fun cdv A outer s H E hr => d_take_word (bltD X G c) (glbD X G c) (cfD c) F_TextLine_refuse_last F_TextLine_take_token F_is_word hr) (fun ds M Q E h => p_take_word (csOf K) ds M Q E h)
theorem L_take_words (X : K.In h) (G : h.Ns mainGlobals mg) (c : SaysX faD fnD exD K) (F_TextLine_is_over : Mt P w K mg base 1 (csOf K).TextLine "is_over" ["self"] (sp_TextLine_is_over (csOf K))) (F_TextLine_next_token : Mt P w K mg base 1 (csOf K).TextLine "next_token" ["self"] (sp_TextLine_next_token (csOf K))) (F_take_word : Fn P w K mg base 3 "take_word" ["line"] (sp_take_word (csOf K))) : Fn P w K mg base 4 "take_words" ["line"] (sp_take_words (csOf K)) := by
  obtain ⟨fd, D⟩ : ∃ fd, FnP K "take_words" "take_words" s_take_words (He.ga K "take_words") fd := c.d.def_ 30 (d := dd_take_words) rfl
  exact fn_def (He.glo_ok X G (c.d.fact 45 (f := .glo "take_words") rfl)) D sc_take_words (by intro ds M Q E h; (repeat (obtain ⟨_, h⟩ := h)) <;> subst_vars <;> rfl) (fun _ _ _ _ _ _ us hl => match us, hl with | [_], _ => rfl) (fun cdv A outer s H E hr => d_take_words (bltD X G c) (glbD X G c) (cfD c) F_TextLine_is_over F_TextLine_next_token F_take_word hr) (fun ds M Q E h => p_take_words (csOf K) ds M Q E h)
theorem L_take_atom (X : K.In h) (G : h.Ns mainGlobals mg) (c : SaysX faD fnD exD K) (F_take_word : Fn P w K mg base 3 "take_word" ["line"] (sp_take_word (csOf K))) (F_take_words : Fn P w K mg base 4 "take_words" ["line"] (sp_take_words (csOf K))) : Fn P w K mg base 5 "take_atom" ["line"] (sp_take_atom (csOf K)) := by
  obtain ⟨fd, D⟩ : ∃ fd, FnP K "take_atom" "take_atom" s_take_atom (He.ga K "take_atom") fd := c.d.def_ 31 (d := dd_take_atom) rfl
  exact fn_def (He.glo_ok X G (c.d.fact 46 (f := .glo "take_atom") rfl)) D sc_take_atom (by intro ds M Q E h; (repeat (obtain ⟨_, h⟩ := h)) <;> subst_vars <;> rfl) (fun _ _ _ _ _ _ us hl => match us, hl with | [_], _ => rfl) (fun cdv A outer s H E hr => d_take_atom (bltD X G c) (glbD X G c) (cfD c) F_take_word F_take_words hr) (fun ds M Q E h => p_take_atom (csOf K) ds M Q E h)
theorem L_take_plain (X : K.In h) (G : h.Ns mainGlobals mg) (c : SaysX faD fnD exD K) (F_TextLine_take_one_of : Mt P w K mg base 3 (csOf K).TextLine "take_one_of" ["self", "known"] (sp_TextLine_take_one_of (csOf K))) (F_take_atom : Fn P w K mg base 5 "take_atom" ["line"] (sp_take_atom (csOf K))) (F_take_word : Fn P w K mg base 3 "take_word" ["line"] (sp_take_word (csOf K))) : Fn P w K mg base 6 "take_plain" ["line", "names"] (sp_take_plain (csOf K)) := by
  obtain ⟨fd, D⟩ : ∃ fd, FnP K "take_plain" "take_plain" s_take_plain (He.ga K "take_plain") fd := c.d.def_ 32 (d := dd_take_plain) rfl
  exact fn_def (He.glo_ok X G (c.d.fact 47 (f := .glo "take_plain") rfl)) D sc_take_plain (by intro ds M Q E h; (repeat (obtain ⟨_, h⟩ := h)) <;> subst_vars <;> rfl) (fun _ _ _ _ _ _ us hl => match us, hl with | [_, _], _ => rfl) (fun cdv A outer s H E hr => d_take_plain (bltD X G c) (glbD X G c) (cfD c) F_TextLine_take_one_of F_take_atom F_take_word hr) (fun ds M Q E h => p_take_plain (csOf K) ds M Q E h)
theorem L_take_row_of_plain (X : K.In h) (G : h.Ns mainGlobals mg) (c : SaysX faD fnD exD K) (F_TextLine_is_over : Mt P w K mg base 1 (csOf K).TextLine "is_over" ["self"] (sp_TextLine_is_over (csOf K))) (F_TextLine_next_token : Mt P w K mg base 1 (csOf K).TextLine "next_token" ["self"] (sp_TextLine_next_token (csOf K))) (F_TextLine_take_token : Mt P w K mg base 2 (csOf K).TextLine "take_token" ["self"] (sp_TextLine_take_token (csOf K))) (F_take_plain : Fn P w K mg base 6 "take_plain" ["line", "names"] (sp_take_plain (csOf K))) : Fn P w K mg base 7 "take_row_of_plain" ["line", "names", "mark"] (sp_take_row_of_plain (csOf K)) := by
  obtain ⟨fd, D⟩ : ∃ fd, FnP K "take_row_of_plain" "take_row_of_plain" s_take_row_of_plain (He.ga K "take_row_of_plain") fd := c.d.def_ 33 (d := dd_take_row_of_plain) rfl
  exact fn_def (He.glo_ok X G (c.d.fact 48 (f := .glo "take_row_of_plain") rfl)) D sc_take_row_of_plain (by intro ds M Q E h; (repeat (obtain ⟨_, h⟩ := h)) <;> subst_vars <;> rfl) (fun _ _ _ _ _ _ us hl => match us, hl with | [_, _, _], _ => rfl) (fun cdv A outer s H E hr => d_take_row_of_plain (bltD X G c) (glbD X G c) (cfD c) F_TextLine_is_over F_TextLine_next_token F_TextLine_take_token F_take_plain hr) (fun ds M Q E h => p_take_row (csOf K) ds M Q E h)
theorem L_take_condition (X : K.In h) (G : h.Ns mainGlobals mg) (c : SaysX faD fnD exD K) (F_TextLine_next_token : Mt P w K mg base 1 (csOf K).TextLine "next_token" ["self"] (sp_TextLine_next_token (csOf K))) (F_TextLine_take_one_of : Mt P w K mg base 3 (csOf K).TextLine "take_one_of" ["self", "known"] (sp_TextLine_take_one_of (csOf K))) (F_TextLine_take_token : Mt P w K mg base 2 (csOf K).TextLine "take_token" ["self"] (sp_TextLine_take_token (csOf K))) (F_take_plain : Fn P w K mg base 6 "take_plain" ["line", "names"] (sp_take_plain (csOf K))) (F_take_row_of_plain : Fn P w K mg base 7 "take_row_of_plain" ["line", "names", "mark"] (sp_take_row_of_plain (csOf K))) : Fn P w K mg base 8 "take_condition" ["line", "names"] (sp_take_condition (csOf K)) := by
  obtain ⟨fd, D⟩ : ∃ fd, FnP K "take_condition" "take_condition" s_take_condition (He.ga K "take_condition") fd := c.d.def_ 34 (d := dd_take_condition) rfl
  exact fn_def (He.glo_ok X G (c.d.fact 49 (f := .glo "take_condition") rfl)) D sc_take_condition (by intro ds M Q E h; (repeat (obtain ⟨_, h⟩ := h)) <;> subst_vars <;> rfl) (fun _ _ _ _ _ _ us hl => match us, hl with | [_, _], _ => rfl) (fun cdv A outer s H E hr => d_take_condition (bltD X G c) (glbD X G c) (cfD c) F_TextLine_next_token F_TextLine_take_one_of F_TextLine_take_token F_take_plain F_take_row_of_plain hr) (fun ds M Q E h => p_take_condition (csOf K) ds M Q E h)
theorem L_take_effect (X : K.In h) (G : h.Ns mainGlobals mg) (c : SaysX faD fnD exD K) (F_TextLine_is_over : Mt P w K mg base 1 (csOf K).TextLine "is_over" ["self"] (sp_TextLine_is_over (csOf K))) (F_TextLine_take_one_of : Mt P w K mg base 3 (csOf K).TextLine "take_one_of" ["self", "known"] (sp_TextLine_take_one_of (csOf K))) (F_take_atom : Fn P w K mg base 5 "take_atom" ["line"] (sp_take_atom (csOf K))) (F_take_row_of_plain : Fn P w K mg base 7 "take_row_of_plain" ["line", "names", "mark"] (sp_take_row_of_plain (csOf K))) : Fn P w K mg base 8 "take_effect" ["line", "name"] (sp_take_effect (csOf K)) := by
  obtain ⟨fd, D⟩ : ∃ fd, FnP K "take_effect" "take_effect" s_take_effect (He.ga K "take_effect") fd := c.d.def_ 35 (d := dd_take_effect) rfl
  exact fn_def (He.glo_ok X G (c.d.fact 50 (f := .glo "take_effect") rfl)) D sc_take_effect (by intro ds M Q E h; (repeat (obtain ⟨_, h⟩ := h)) <;> subst_vars <;> rfl) (fun _ _ _ _ _ _ us hl => match us, hl with | [_, _], _ => rfl) (fun cdv A outer s H E hr => d_take_effect (bltD X G c) (glbD X G c) (cfD c) F_TextLine_is_over F_TextLine_take_one_of F_take_atom F_take_row_of_plain hr) (fun ds M Q E h => p_take_effect (csOf K) ds M Q E h)
theorem L_take_number (X : K.In h) (G : h.Ns mainGlobals mg) (c : SaysX faD fnD exD K) (F_TextLine_refuse_last : Mt P w K mg base 1 (csOf K).TextLine "refuse_last" ["self"] (sp_TextLine_refuse_last (csOf K))) (F_TextLine_take_token : Mt P w K mg base 2 (csOf K).TextLine "take_token" ["self"] (sp_TextLine_take_token (csOf K))) (F_is_digits : Fn P w K mg base 1 "is_digits" ["token"] (sp_is_digits (csOf K))) : Fn P w K mg base 3 "take_number" ["line"] (sp_take_number (csOf K)) := by
  obtain ⟨fd, D⟩ : ∃ fd, FnP K "take_number" "take_number" s_take_number (He.ga K "take_number") fd := c.d.def_ 36 (d := dd_take_number) rfl
  exact fn_def (He.glo_ok X G (c.d.fact 51 (f := .glo "take_number") rfl)) D sc_take_number (by intro ds M Q E h; (repeat (obtain ⟨_, h⟩ := h)) <;> subst_vars <;> rfl) (fun _ _ _ _ _ _ us hl => match us, hl with | [_], _ => rfl) (fun cdv A outer s H E hr => d_take_number (bltD X G c) (glbD X G c) (cfD c) F_TextLine_refuse_last F_TextLine_take_token F_is_digits hr) (fun ds M Q E h => p_take_number (csOf K) ds M Q E h)
theorem L_is_digits (X : K.In h) (G : h.Ns mainGlobals mg) (c : SaysX faD fnD exD K) : Fn P w K mg base 1 "is_digits" ["token"] (sp_is_digits (csOf K)) := by
  obtain ⟨fd, D⟩ : ∃ fd, FnP K "is_digits" "is_digits" s_is_digits (He.ga K "is_digits") fd := c.d.def_ 37 (d := dd_is_digits) rfl
  exact fn_def (He.glo_ok X G (c.d.fact 52 (f := .glo "is_digits") rfl)) D sc_is_digits (by intro ds M Q E h; (repeat (obtain ⟨_, h⟩ := h)) <;> subst_vars <;> rfl) (fun _ _ _ _ _ _ us hl => match us, hl with | [_], _ => rfl) (fun cdv A outer s H E hr => d_is_digits (bltD X G c) (glbD X G c) (cfD c)  hr) (fun ds M Q E h => p_is_digits (csOf K) ds M Q E h)
theorem L_take_cost (X : K.In h) (G : h.Ns mainGlobals mg) (c : SaysX faD fnD exD K) (F_TextLine_next_token : Mt P w K mg base 1 (csOf K).TextLine "next_token" ["self"] (sp_TextLine_next_token (csOf K))) (F_TextLine_take_token : Mt P w K mg base 2 (csOf K).TextLine "take_token" ["self"] (sp_TextLine_take_token (csOf K))) (F_take_number : Fn P w K mg base 3 "take_number" ["line"] (sp_take_number (csOf K))) (F_take_word : Fn P w K mg base 3 "take_word" ["line"] (sp_take_word (csOf K))) (F_take_words : Fn P w K mg base 4 "take_words" ["line"] (sp_take_words (csOf K))) : Fn P w K mg base 5 "take_cost" ["line"] (sp_take_cost (csOf K)) := by
  obtain ⟨fd, D⟩ : ∃ fd, FnP K "take_cost" "take_cost" s_take_cost (He.ga K "take_cost") fd := c.d.def_ 38 (d := dd_take_cost) rfl
  exact fn_def (He.glo_ok X G (c.d.fact 53 (f := .glo "take_cost") rfl)) D sc_take_cost (by intro ds M Q E h; (repeat (obtain ⟨_, h⟩ := h)) <;> subst_vars <;> rfl) (fun _ _ _ _ _ _ us hl => match us, hl with | [_], _ => rfl) (fun cdv A outer s H E hr => d_take_cost (bltD X G c) (glbD X G c) (cfD c) F_TextLine_next_token F_TextLine_take_token F_take_number F_take_word F_take_words hr) (fun ds M Q E h => p_take_cost (csOf K) ds M Q E h)
theorem L_take_variables (X : K.In h) (G : h.Ns mainGlobals mg) (c : SaysX faD fnD exD K) (F_TextLine_is_over : Mt P w K mg base 1 (csOf K).TextLine "is_over" ["self"] (sp_TextLine_is_over (csOf K))) (F_take_word : Fn P w K mg base 3 "take_word" ["line"] (sp_take_word (csOf K))) : Fn P w K mg base 4 "take_variables" ["line"] (sp_take_variables (csOf K)) := by
  obtain ⟨fd, D⟩ : ∃ fd, FnP K "take_variables" "take_variables" s_take_variables (He.ga K "take_variables") fd := c.d.def_ 39 (d := dd_take_variables) rfl
  exact fn_def (He.glo_ok X G (c.d.fact 54 (f := .glo "take_variables") rfl)) D sc_take_variables (by intro ds M Q E h; (repeat (obtain ⟨_, h⟩ := h)) <;> subst_vars <;> rfl) (fun _ _ _ _ _ _ us hl => match us, hl with | [_], _ => rfl) (fun cdv A outer s H E hr => d_take_variables (bltD X G c) (glbD X G c) (cfD c) F_TextLine_is_over F_take_word hr) (fun ds M Q E h => p_take_variables (csOf K) ds M Q E h)
theorem L_DomainReader_init (X : K.In h) (G : h.Ns mainGlobals mg) (c : SaysX faD fnD exD K) : Mkr P w K mg base 1 "DomainReader" (csOf K).DomainReader ["self"] (sp_DomainReader_init (csOf K)) := by
  obtain ⟨fd, D⟩ : ∃ fd, FnP K "__init__" "DomainReader.__init__" s_DomainReader_init (He.ma K (He.ga K "DomainReader") "__init__") fd := c.d.def_ 40 (d := dd_DomainReader_init) rfl
  exact mk_def (He.glo_ok X G (c.d.fact 55 (f := .glo "DomainReader") rfl)) (He.mkr_ok (c.d.fact 56 (f := .mkr "DomainReader") rfl)) D sc_DomainReader_init (by intro ds M Q E h; (repeat (obtain ⟨_, h⟩ := h)) <;> subst_vars <;> rfl) (fun _ _ _ _ _ _ us hl => match us, hl with | [_], _ => rfl) (fun cdv A outer s H E hr => d_DomainReader_init (bltD X G c) (glbD X G c) (cfD c)  hr) (fun ds M Q E h => p_reader_init (csOf K) ds M Q E h)
theorem L_DomainReader_known_words (X : K.In h) (G : h.Ns mainGlobals mg) (c : SaysX faD fnD exD K) : Mt P w K mg base 1 (csOf K).DomainReader "known_words" ["self"] (sp_DomainReader_known_words (csOf K)) := by
  obtain ⟨fd, D⟩ : ∃ fd, FnP K "known_words" "DomainReader.known_words" s_DomainReader_known_words (He.ma K (He.ga K "DomainReader") "known_words") fd := c.d.def_ 41 (d := dd_DomainReader_known_words) rfl
  exact mt_def (He.meth_ok (c.d.fact 57 (f := .meth "DomainReader" "known_words") rfl)) D sc_DomainReader_known_words (by intro ds M Q E h; (repeat (obtain ⟨_, h⟩ := h)) <;> subst_vars <;> rfl) (fun _ _ _ _ _ _ us hl => match us, hl with | [_], _ => rfl) (fun cdv A outer s H E hr => d_DomainReader_known_words (bltD X G c) (glbD X G c) (cfD c)  hr) (fun ds M Q E h => p_known_words (csOf K) ds M Q E h)
theorem L_DomainReader_read_line (X : K.In h) (G : h.Ns mainGlobals mg) (c : SaysX faD fnD exD K) (F_DomainReader_known_words : Mt P w K mg base 1 (csOf K).DomainReader "known_words" ["self"] (sp_DomainReader_known_words (csOf K))) (F_TextLine_is_over : Mt P w K mg base 1 (csOf K).TextLine "is_over" ["self"] (sp_TextLine_is_over (csOf K))) (F_TextLine_take_end : Mt P w K mg base 2 (csOf K).TextLine "take_end" ["self"] (sp_TextLine_take_end (csOf K))) (F_TextLine_take_one_of : Mt P w K mg base 3 (csOf K).TextLine "take_one_of" ["self", "known"] (sp_TextLine_take_one_of (csOf K))) (F_take_atom : Fn P w K mg base 5 "take_atom" ["line"] (sp_take_atom (csOf K))) (F_take_condition : Fn P w K mg base 8 "take_condition" ["line", "names"] (sp_take_condition (csOf K))) (F_take_cost : Fn P w K mg base 5 "take_cost" ["line"] (sp_take_cost (csOf K))) (F_take_effect : Fn P w K mg base 8 "take_effect" ["line", "name"] (sp_take_effect (csOf K))) (F_take_variables : Fn P w K mg base 4 "take_variables" ["line"] (sp_take_variables (csOf K))) (F_take_word : Fn P w K mg base 3 "take_word" ["line"] (sp_take_word (csOf K))) : Mt P w K mg base 9 (csOf K).DomainReader "read_line" ["self", "line"] (sp_DomainReader_read_line (csOf K)) := by
  obtain ⟨fd, D⟩ : ∃ fd, FnP K "read_line" "DomainReader.read_line" s_DomainReader_read_line (He.ma K (He.ga K "DomainReader") "read_line") fd := c.d.def_ 42 (d := dd_DomainReader_read_line) rfl
  exact mt_def (He.meth_ok (c.d.fact 58 (f := .meth "DomainReader" "read_line") rfl)) D sc_DomainReader_read_line (by intro ds M Q E h; (repeat (obtain ⟨_, h⟩ := h)) <;> subst_vars <;> rfl) (fun _ _ _ _ _ _ us hl => match us, hl with | [_, _], _ => rfl) (fun cdv A outer s H E hr => d_DomainReader_read_line (bltD X G c) (glbD X G c) (cfD c) F_DomainReader_known_words F_TextLine_is_over F_TextLine_take_end F_TextLine_take_one_of F_take_atom F_take_condition F_take_cost F_take_effect F_take_variables F_take_word hr) (fun ds M Q E h => p_read_line (csOf K) ds M Q E h)
theorem L_DomainReader_told_domain (X : K.In h) (G : h.Ns mainGlobals mg) (c : SaysX faD fnD exD K) (F_check_domain : Fn P w K mg base 6 "check_domain" ["domain"] (sp_check_domain (csOf K))) (F_line_count : Fn P w K mg base 1 "line_count" ["text"] (sp_line_count (csOf K))) : Mt P w K mg base 7 (csOf K).DomainReader "told_domain" ["self", "text"] (sp_DomainReader_told_domain (csOf K)) := by
  obtain ⟨fd, D⟩ : ∃ fd, FnP K "told_domain" "DomainReader.told_domain" s_DomainReader_told_domain (He.ma K (He.ga K "DomainReader") "told_domain") fd := c.d.def_ 43 (d := dd_DomainReader_told_domain) rfl
  exact mt_def (He.meth_ok (c.d.fact 59 (f := .meth "DomainReader" "told_domain") rfl)) D sc_DomainReader_told_domain (by intro ds M Q E h; (repeat (obtain ⟨_, h⟩ := h)) <;> subst_vars <;> rfl) (fun _ _ _ _ _ _ us hl => match us, hl with | [_, _], _ => rfl) (fun cdv A outer s H E hr => d_DomainReader_told_domain (bltD X G c) (glbD X G c) (cfD c) F_check_domain F_line_count hr) (fun ds M Q E h => p_told_domain (csOf K) ds M Q E h)
theorem L_read_domain (X : K.In h) (G : h.Ns mainGlobals mg) (c : SaysX faD fnD exD K) (F_DomainReader_init : Mkr P w K mg base 1 "DomainReader" (csOf K).DomainReader ["self"] (sp_DomainReader_init (csOf K))) (F_DomainReader_read_line : Mt P w K mg base 9 (csOf K).DomainReader "read_line" ["self", "line"] (sp_DomainReader_read_line (csOf K))) (F_DomainReader_told_domain : Mt P w K mg base 7 (csOf K).DomainReader "told_domain" ["self", "text"] (sp_DomainReader_told_domain (csOf K))) (F_text_lines : Fn P w K mg base 4 "text_lines" ["text"] (sp_text_lines (csOf K))) : Fn P w K mg base 10 "read_domain" ["text"] (sp_read_domain (csOf K)) := by
  obtain ⟨fd, D⟩ : ∃ fd, FnP K "read_domain" "read_domain" s_read_domain (He.ga K "read_domain") fd := c.d.def_ 44 (d := dd_read_domain) rfl
  exact fn_def (He.glo_ok X G (c.d.fact 60 (f := .glo "read_domain") rfl)) D sc_read_domain (by intro ds M Q E h; (repeat (obtain ⟨_, h⟩ := h)) <;> subst_vars <;> rfl) (fun _ _ _ _ _ _ us hl => match us, hl with | [_], _ => rfl) (fun cdv A outer s H E hr => d_read_domain (bltD X G c) (glbD X G c) (cfD c) F_DomainReader_init F_DomainReader_read_line F_DomainReader_told_domain F_text_lines hr) (fun ds M Q E h => p_read_domain (csOf K) ds M Q E h)
theorem L__law_draws (X : K.In h) (G : h.Ns mainGlobals mg) (c : SaysX faD fnD exD K) : Fn P w K mg base 1 "_law_draws" ["script", "many"] (sp__law_draws (csOf K)) := by
  obtain ⟨fd, D⟩ : ∃ fd, FnP K "_law_draws" "_law_draws" s__law_draws (He.ga K "_law_draws") fd := c.d.def_ 45 (d := dd__law_draws) rfl
  exact fn_def (He.glo_ok X G (c.d.fact 61 (f := .glo "_law_draws") rfl)) D sc__law_draws (by intro ds M Q E h; (repeat (obtain ⟨_, h⟩ := h)) <;> subst_vars <;> rfl) (fun _ _ _ _ _ _ us hl => match us, hl with | [_, _], _ => rfl) (fun cdv A outer s H E hr => d__law_draws (bltD X G c) (glbD X G c) (cfD c)  hr) (fun ds M Q E h => p__law_draws (csOf K) ds M Q E h)
theorem L__law_take (X : K.In h) (G : h.Ns mainGlobals mg) (c : SaysX faD fnD exD K) : Fn P w K mg base 1 "_law_take" ["draws", "many"] (sp__law_take (csOf K)) := by
  obtain ⟨fd, D⟩ : ∃ fd, FnP K "_law_take" "_law_take" s__law_take (He.ga K "_law_take") fd := c.d.def_ 46 (d := dd__law_take) rfl
  exact fn_def (He.glo_ok X G (c.d.fact 62 (f := .glo "_law_take") rfl)) D sc__law_take (by intro ds M Q E h; (repeat (obtain ⟨_, h⟩ := h)) <;> subst_vars <;> rfl) (fun _ _ _ _ _ _ us hl => match us, hl with | [_, _], _ => rfl) (fun cdv A outer s H E hr => d__law_take (bltD X G c) (glbD X G c) (cfD c)  hr) (fun ds M Q E h => p__law_take (csOf K) ds M Q E h)
theorem L__law_pick (X : K.In h) (G : h.Ns mainGlobals mg) (c : SaysX faD fnD exD K) (F__law_take : Fn P w K mg base 1 "_law_take" ["draws", "many"] (sp__law_take (csOf K))) : Fn P w K mg base 2 "_law_pick" ["draws", "row"] (sp__law_pick (csOf K)) := by
  obtain ⟨fd, D⟩ : ∃ fd, FnP K "_law_pick" "_law_pick" s__law_pick (He.ga K "_law_pick") fd := c.d.def_ 47 (d := dd__law_pick) rfl
  exact fn_def (He.glo_ok X G (c.d.fact 63 (f := .glo "_law_pick") rfl)) D sc__law_pick (by intro ds M Q E h; (repeat (obtain ⟨_, h⟩ := h)) <;> subst_vars <;> rfl) (fun _ _ _ _ _ _ us hl => match us, hl with | [_, _], _ => rfl) (fun cdv A outer s H E hr => d__law_pick (bltD X G c) (glbD X G c) (cfD c) F__law_take hr) (fun ds M Q E h => p__law_pick (csOf K) ds M Q E h)
theorem L__law_same (X : K.In h) (G : h.Ns mainGlobals mg) (c : SaysX faD fnD exD K) : ∀ n : Nat, Fn P w K mg base (n + 1) "_law_same" ["actual", "due"] (sp__law_sameN n (csOf K))
  | 0 => by
    obtain ⟨fd, D⟩ : ∃ fd, FnP K "_law_same" "_law_same" s__law_same (He.ga K "_law_same") fd := c.d.def_ 48 (d := dd__law_same) rfl
    exact fn_def (He.glo_ok X G (c.d.fact 64 (f := .glo "_law_same") rfl)) D sc__law_same (by intro ds M Q E h; (repeat (obtain ⟨_, h⟩ := h)) <;> subst_vars <;> rfl) (fun _ _ _ _ _ _ us hl => match us, hl with | [_, _], _ => rfl) (fun cdv A outer s H E hr => d__law_same (spR := fun _ _ _ _ => False) (bltD X G c) (glbD X G c) (cfD c) (no_fn (He.glo_ok X G (c.d.fact 64 (f := .glo "_law_same") rfl)) D sc__law_same (fun _ _ _ _ _ _ us hl => match us, hl with | [_, _], _ => rfl)) hr) (fun ds M Q E h => p__law_same0 (csOf K) _ ds M Q E h)
  | n + 1 => by
    obtain ⟨fd, D⟩ : ∃ fd, FnP K "_law_same" "_law_same" s__law_same (He.ga K "_law_same") fd := c.d.def_ 48 (d := dd__law_same) rfl
    have ih := L__law_same X G c n
    exact fn_def (He.glo_ok X G (c.d.fact 64 (f := .glo "_law_same") rfl)) D sc__law_same (by intro ds M Q E h; (repeat (obtain ⟨_, h⟩ := h)) <;> subst_vars <;> rfl) (fun _ _ _ _ _ _ us hl => match us, hl with | [_, _], _ => rfl) (fun cdv A outer s H E hr => d__law_same (bltD X G c) (glbD X G c) (cfD c) ih hr) (fun ds M Q E h => p__law_same (csOf K) n ds M Q E h)
theorem L__law_plain_words (X : K.In h) (G : h.Ns mainGlobals mg) (c : SaysX faD fnD exD K) (F__law_pick : Fn P w K mg base 2 "_law_pick" ["draws", "row"] (sp__law_pick (csOf K))) (F__law_take : Fn P w K mg base 1 "_law_take" ["draws", "many"] (sp__law_take (csOf K))) : Fn P w K mg base 3 "_law_plain_words" ["draws", "many"] (sp__law_plain_words (csOf K)) := by
  obtain ⟨fd, D⟩ : ∃ fd, FnP K "_law_plain_words" "_law_plain_words" s__law_plain_words (He.ga K "_law_plain_words") fd := c.d.def_ 49 (d := dd__law_plain_words) rfl
  exact fn_def (He.glo_ok X G (c.d.fact 65 (f := .glo "_law_plain_words") rfl)) D sc__law_plain_words (by intro ds M Q E h; (repeat (obtain ⟨_, h⟩ := h)) <;> subst_vars <;> rfl) (fun _ _ _ _ _ _ us hl => match us, hl with | [_, _], _ => rfl) (fun cdv A outer s H E hr => d__law_plain_words (bltD X G c) (glbD X G c) (cfD c) F__law_pick F__law_take hr) (fun ds M Q E h => p__law_plain_words (csOf K) ds M Q E h)
theorem L__law_is_beneath (X : K.In h) (G : h.Ns mainGlobals mg) (c : SaysX faD fnD exD K) : Fn P w K mg base 1 "_law_is_beneath" ["kinds", "kind", "above"] (sp__law_is_beneath (csOf K)) := by
  obtain ⟨fd, D⟩ : ∃ fd, FnP K "_law_is_beneath" "_law_is_beneath" s__law_is_beneath (He.ga K "_law_is_beneath") fd := c.d.def_ 50 (d := dd__law_is_beneath) rfl
  exact fn_def (He.glo_ok X G (c.d.fact 66 (f := .glo "_law_is_beneath") rfl)) D sc__law_is_beneath (by intro ds M Q E h; (repeat (obtain ⟨_, h⟩ := h)) <;> subst_vars <;> rfl) (fun _ _ _ _ _ _ us hl => match us, hl with | [_, _, _], _ => rfl) (fun cdv A outer s H E hr => d__law_is_beneath (bltD X G c) (glbD X G c) (cfD c)  hr) (fun ds M Q E h => p__law_is_beneath (csOf K) ds M Q E h)
theorem L__law_drawn_atom (X : K.In h) (G : h.Ns mainGlobals mg) (c : SaysX faD fnD exD K) (F__law_is_beneath : Fn P w K mg base 1 "_law_is_beneath" ["kinds", "kind", "above"] (sp__law_is_beneath (csOf K))) (F__law_pick : Fn P w K mg base 2 "_law_pick" ["draws", "row"] (sp__law_pick (csOf K))) : Fn P w K mg base 3 "_law_drawn_atom" ["draws", "kinds", "relations", "variables"] (sp__law_drawn_atom (csOf K)) := by
  obtain ⟨fd, D⟩ : ∃ fd, FnP K "_law_drawn_atom" "_law_drawn_atom" s__law_drawn_atom (He.ga K "_law_drawn_atom") fd := c.d.def_ 51 (d := dd__law_drawn_atom) rfl
  exact fn_def (He.glo_ok X G (c.d.fact 67 (f := .glo "_law_drawn_atom") rfl)) D sc__law_drawn_atom (by intro ds M Q E h; (repeat (obtain ⟨_, h⟩ := h)) <;> subst_vars <;> rfl) (fun _ _ _ _ _ _ us hl => match us, hl with | [_, _, _, _], _ => rfl) (fun cdv A outer s H E hr => d__law_drawn_atom (bltD X G c) (glbD X G c) (cfD c) F__law_is_beneath F__law_pick hr) (fun ds M Q E h => p__law_drawn_atom (csOf K) ds M Q E h)
theorem L__law_drawn_plain (X : K.In h) (G : h.Ns mainGlobals mg) (c : SaysX faD fnD exD K) (F__law_drawn_atom : Fn P w K mg base 3 "_law_drawn_atom" ["draws", "kinds", "relations", "variables"] (sp__law_drawn_atom (csOf K))) (F__law_pick : Fn P w K mg base 2 "_law_pick" ["draws", "row"] (sp__law_pick (csOf K))) (F__law_take : Fn P w K mg base 1 "_law_take" ["draws", "many"] (sp__law_take (csOf K))) : Fn P w K mg base 4 "_law_drawn_plain" ["draws", "kinds", "relations", "variables"] (sp__law_drawn_plain (csOf K)) := by
  obtain ⟨fd, D⟩ : ∃ fd, FnP K "_law_drawn_plain" "_law_drawn_plain" s__law_drawn_plain (He.ga K "_law_drawn_plain") fd := c.d.def_ 52 (d := dd__law_drawn_plain) rfl
  exact fn_def (He.glo_ok X G (c.d.fact 68 (f := .glo "_law_drawn_plain") rfl)) D sc__law_drawn_plain (by intro ds M Q E h; (repeat (obtain ⟨_, h⟩ := h)) <;> subst_vars <;> rfl) (fun _ _ _ _ _ _ us hl => match us, hl with | [_, _, _, _], _ => rfl) (fun cdv A outer s H E hr => d__law_drawn_plain (bltD X G c) (glbD X G c) (cfD c) F__law_drawn_atom F__law_pick F__law_take hr) (fun ds M Q E h => p__law_drawn_plain (csOf K) ds M Q E h)
theorem L__law_plain_tokens (X : K.In h) (G : h.Ns mainGlobals mg) (c : SaysX faD fnD exD K) : Fn P w K mg base 1 "_law_plain_tokens" ["plain"] (sp__law_plain_tokens (csOf K)) := by
  obtain ⟨fd, D⟩ : ∃ fd, FnP K "_law_plain_tokens" "_law_plain_tokens" s__law_plain_tokens (He.ga K "_law_plain_tokens") fd := c.d.def_ 53 (d := dd__law_plain_tokens) rfl
  exact fn_def (He.glo_ok X G (c.d.fact 69 (f := .glo "_law_plain_tokens") rfl)) D sc__law_plain_tokens (by intro ds M Q E h; (repeat (obtain ⟨_, h⟩ := h)) <;> subst_vars <;> rfl) (fun _ _ _ _ _ _ us hl => match us, hl with | [_], _ => rfl) (fun cdv A outer s H E hr => d__law_plain_tokens (bltD X G c) (glbD X G c) (cfD c)  hr) (fun ds M Q E h => p__law_plain_tokens (csOf K) ds M Q E h)
theorem L__law_joined_tokens (X : K.In h) (G : h.Ns mainGlobals mg) (c : SaysX faD fnD exD K) (F__law_plain_tokens : Fn P w K mg base 1 "_law_plain_tokens" ["plain"] (sp__law_plain_tokens (csOf K))) : Fn P w K mg base 2 "_law_joined_tokens" ["plains", "word"] (sp__law_joined_tokens (csOf K)) := by
  obtain ⟨fd, D⟩ : ∃ fd, FnP K "_law_joined_tokens" "_law_joined_tokens" s__law_joined_tokens (He.ga K "_law_joined_tokens") fd := c.d.def_ 54 (d := dd__law_joined_tokens) rfl
  exact fn_def (He.glo_ok X G (c.d.fact 70 (f := .glo "_law_joined_tokens") rfl)) D sc__law_joined_tokens (by intro ds M Q E h; (repeat (obtain ⟨_, h⟩ := h)) <;> subst_vars <;> rfl) (fun _ _ _ _ _ _ us hl => match us, hl with | [_, _], _ => rfl) (fun cdv A outer s H E hr => d__law_joined_tokens (bltD X G c) (glbD X G c) (cfD c) F__law_plain_tokens hr) (fun ds M Q E h => p__law_joined_tokens (csOf K) ds M Q E h)
theorem L__law_condition_tokens (X : K.In h) (G : h.Ns mainGlobals mg) (c : SaysX faD fnD exD K) (F__law_joined_tokens : Fn P w K mg base 2 "_law_joined_tokens" ["plains", "word"] (sp__law_joined_tokens (csOf K))) (F__law_plain_tokens : Fn P w K mg base 1 "_law_plain_tokens" ["plain"] (sp__law_plain_tokens (csOf K))) : Fn P w K mg base 3 "_law_condition_tokens" ["condition"] (sp__law_condition_tokens (csOf K)) := by
  obtain ⟨fd, D⟩ : ∃ fd, FnP K "_law_condition_tokens" "_law_condition_tokens" s__law_condition_tokens (He.ga K "_law_condition_tokens") fd := c.d.def_ 55 (d := dd__law_condition_tokens) rfl
  exact fn_def (He.glo_ok X G (c.d.fact 71 (f := .glo "_law_condition_tokens") rfl)) D sc__law_condition_tokens (by intro ds M Q E h; (repeat (obtain ⟨_, h⟩ := h)) <;> subst_vars <;> rfl) (fun _ _ _ _ _ _ us hl => match us, hl with | [_], _ => rfl) (fun cdv A outer s H E hr => d__law_condition_tokens (bltD X G c) (glbD X G c) (cfD c) F__law_joined_tokens F__law_plain_tokens hr) (fun ds M Q E h => p__law_condition_tokens (csOf K) ds M Q E h)
theorem L__law_domain_lines (X : K.In h) (G : h.Ns mainGlobals mg) (c : SaysX faD fnD exD K) (F__law_condition_tokens : Fn P w K mg base 3 "_law_condition_tokens" ["condition"] (sp__law_condition_tokens (csOf K))) (F__law_joined_tokens : Fn P w K mg base 2 "_law_joined_tokens" ["plains", "word"] (sp__law_joined_tokens (csOf K))) : Fn P w K mg base 4 "_law_domain_lines" ["domain"] (sp__law_domain_lines (csOf K)) := by
  obtain ⟨fd, D⟩ : ∃ fd, FnP K "_law_domain_lines" "_law_domain_lines" s__law_domain_lines (He.ga K "_law_domain_lines") fd := c.d.def_ 56 (d := dd__law_domain_lines) rfl
  exact fn_def (He.glo_ok X G (c.d.fact 72 (f := .glo "_law_domain_lines") rfl)) D sc__law_domain_lines (by intro ds M Q E h; (repeat (obtain ⟨_, h⟩ := h)) <;> subst_vars <;> rfl) (fun _ _ _ _ _ _ us hl => match us, hl with | [_], _ => rfl) (fun cdv A outer s H E hr => d__law_domain_lines (bltD X G c) (glbD X G c) (cfD c) F__law_condition_tokens F__law_joined_tokens hr) (fun ds M Q E h => p__law_domain_lines (csOf K) ds M Q E h)
theorem L__law_text (X : K.In h) (G : h.Ns mainGlobals mg) (c : SaysX faD fnD exD K) : Fn P w K mg base 1 "_law_text" ["lines"] (sp__law_text (csOf K)) := by
  obtain ⟨fd, D⟩ : ∃ fd, FnP K "_law_text" "_law_text" s__law_text (He.ga K "_law_text") fd := c.d.def_ 57 (d := dd__law_text) rfl
  exact fn_def (He.glo_ok X G (c.d.fact 73 (f := .glo "_law_text") rfl)) D sc__law_text (by intro ds M Q E h; (repeat (obtain ⟨_, h⟩ := h)) <;> subst_vars <;> rfl) (fun _ _ _ _ _ _ us hl => match us, hl with | [_], _ => rfl) (fun cdv A outer s H E hr => d__law_text (bltD X G c) (glbD X G c) (cfD c)  hr) (fun ds M Q E h => p__law_text (csOf K) ds M Q E h)
theorem L__law_spread (X : K.In h) (G : h.Ns mainGlobals mg) (c : SaysX faD fnD exD K) (F__law_pick : Fn P w K mg base 2 "_law_pick" ["draws", "row"] (sp__law_pick (csOf K))) (F__law_take : Fn P w K mg base 1 "_law_take" ["draws", "many"] (sp__law_take (csOf K))) : Fn P w K mg base 3 "_law_spread" ["draws", "lines"] (sp__law_spread (csOf K)) := by
  obtain ⟨fd, D⟩ : ∃ fd, FnP K "_law_spread" "_law_spread" s__law_spread (He.ga K "_law_spread") fd := c.d.def_ 58 (d := dd__law_spread) rfl
  exact fn_def (He.glo_ok X G (c.d.fact 74 (f := .glo "_law_spread") rfl)) D sc__law_spread (by intro ds M Q E h; (repeat (obtain ⟨_, h⟩ := h)) <;> subst_vars <;> rfl) (fun _ _ _ _ _ _ us hl => match us, hl with | [_, _], _ => rfl) (fun cdv A outer s H E hr => d__law_spread (bltD X G c) (glbD X G c) (cfD c) F__law_pick F__law_take hr) (fun ds M Q E h => p__law_spread (csOf K) ds M Q E h)
theorem L__law_wide_deed (X : K.In h) (G : h.Ns mainGlobals mg) (c : SaysX faD fnD exD K) (F__law_drawn_atom : Fn P w K mg base 3 "_law_drawn_atom" ["draws", "kinds", "relations", "variables"] (sp__law_drawn_atom (csOf K))) (F__law_drawn_plain : Fn P w K mg base 4 "_law_drawn_plain" ["draws", "kinds", "relations", "variables"] (sp__law_drawn_plain (csOf K))) (F__law_pick : Fn P w K mg base 2 "_law_pick" ["draws", "row"] (sp__law_pick (csOf K))) (F__law_take : Fn P w K mg base 1 "_law_take" ["draws", "many"] (sp__law_take (csOf K))) : Fn P w K mg base 5 "_law_wide_deed" ["draws", "words", "kinds", "relations", "word"] (sp__law_wide_deed (csOf K)) := by
  obtain ⟨fd, D⟩ : ∃ fd, FnP K "_law_wide_deed" "_law_wide_deed" s__law_wide_deed (He.ga K "_law_wide_deed") fd := c.d.def_ 59 (d := dd__law_wide_deed) rfl
  exact fn_def (He.glo_ok X G (c.d.fact 75 (f := .glo "_law_wide_deed") rfl)) D sc__law_wide_deed (by intro ds M Q E h; (repeat (obtain ⟨_, h⟩ := h)) <;> subst_vars <;> rfl) (fun _ _ _ _ _ _ us hl => match us, hl with | [_, _, _, _, _], _ => rfl) (fun cdv A outer s H E hr => d__law_wide_deed (bltD X G c) (glbD X G c) (cfD c) F__law_drawn_atom F__law_drawn_plain F__law_pick F__law_take hr) (fun ds M Q E h => p__law_wide_deed (csOf K) ds M Q E h)
theorem L__law_wide_domain (X : K.In h) (G : h.Ns mainGlobals mg) (c : SaysX faD fnD exD K) (F__law_pick : Fn P w K mg base 2 "_law_pick" ["draws", "row"] (sp__law_pick (csOf K))) (F__law_take : Fn P w K mg base 1 "_law_take" ["draws", "many"] (sp__law_take (csOf K))) (F__law_wide_deed : Fn P w K mg base 5 "_law_wide_deed" ["draws", "words", "kinds", "relations", "word"] (sp__law_wide_deed (csOf K))) : Fn P w K mg base 6 "_law_wide_domain" ["draws", "words"] (sp__law_wide_domain (csOf K)) := by
  obtain ⟨fd, D⟩ : ∃ fd, FnP K "_law_wide_domain" "_law_wide_domain" s__law_wide_domain (He.ga K "_law_wide_domain") fd := c.d.def_ 60 (d := dd__law_wide_domain) rfl
  exact fn_def (He.glo_ok X G (c.d.fact 76 (f := .glo "_law_wide_domain") rfl)) D sc__law_wide_domain (by intro ds M Q E h; (repeat (obtain ⟨_, h⟩ := h)) <;> subst_vars <;> rfl) (fun _ _ _ _ _ _ us hl => match us, hl with | [_, _], _ => rfl) (fun cdv A outer s H E hr => d__law_wide_domain (bltD X G c) (glbD X G c) (cfD c) F__law_pick F__law_take F__law_wide_deed hr) (fun ds M Q E h => p__law_wide_domain (csOf K) ds M Q E h)
theorem law_all (X : K.In h) (G : h.Ns mainGlobals mg) (c : SaysX faD fnD exD K) {f : Addr} {fd : FuncData} (D : FnP K "law" "law" s_law f fd) : FnOk P w K mg base CX0 22 f fd ["script"] (UpSp K (sp_law (csOf K))) := by
  have F__law_plain_tokens : Fn P w K mg base 1 "_law_plain_tokens" ["plain"] (sp__law_plain_tokens (csOf K)) := L__law_plain_tokens X G c
  have F__law_joined_tokens : Fn P w K mg base 2 "_law_joined_tokens" ["plains", "word"] (sp__law_joined_tokens (csOf K)) := L__law_joined_tokens X G c F__law_plain_tokens
  have F__law_condition_tokens : Fn P w K mg base 3 "_law_condition_tokens" ["condition"] (sp__law_condition_tokens (csOf K)) := L__law_condition_tokens X G c F__law_joined_tokens F__law_plain_tokens
  have F__law_domain_lines : Fn P w K mg base 4 "_law_domain_lines" ["domain"] (sp__law_domain_lines (csOf K)) := L__law_domain_lines X G c F__law_condition_tokens F__law_joined_tokens
  have F__law_draws : Fn P w K mg base 1 "_law_draws" ["script", "many"] (sp__law_draws (csOf K)) := L__law_draws X G c
  have F__law_take : Fn P w K mg base 1 "_law_take" ["draws", "many"] (sp__law_take (csOf K)) := L__law_take X G c
  have F__law_pick : Fn P w K mg base 2 "_law_pick" ["draws", "row"] (sp__law_pick (csOf K)) := L__law_pick X G c F__law_take
  have F__law_plain_words : Fn P w K mg base 3 "_law_plain_words" ["draws", "many"] (sp__law_plain_words (csOf K)) := L__law_plain_words X G c F__law_pick F__law_take
  have F__law_same : Fn P w K mg base 21 "_law_same" ["actual", "due"] (sp__law_same (csOf K)) := L__law_same X G c  20
  have F__law_spread : Fn P w K mg base 3 "_law_spread" ["draws", "lines"] (sp__law_spread (csOf K)) := L__law_spread X G c F__law_pick F__law_take
  have F__law_text : Fn P w K mg base 1 "_law_text" ["lines"] (sp__law_text (csOf K)) := L__law_text X G c
  have F__law_is_beneath : Fn P w K mg base 1 "_law_is_beneath" ["kinds", "kind", "above"] (sp__law_is_beneath (csOf K)) := L__law_is_beneath X G c
  have F__law_drawn_atom : Fn P w K mg base 3 "_law_drawn_atom" ["draws", "kinds", "relations", "variables"] (sp__law_drawn_atom (csOf K)) := L__law_drawn_atom X G c F__law_is_beneath F__law_pick
  have F__law_drawn_plain : Fn P w K mg base 4 "_law_drawn_plain" ["draws", "kinds", "relations", "variables"] (sp__law_drawn_plain (csOf K)) := L__law_drawn_plain X G c F__law_drawn_atom F__law_pick F__law_take
  have F__law_wide_deed : Fn P w K mg base 5 "_law_wide_deed" ["draws", "words", "kinds", "relations", "word"] (sp__law_wide_deed (csOf K)) := L__law_wide_deed X G c F__law_drawn_atom F__law_drawn_plain F__law_pick F__law_take
  have F__law_wide_domain : Fn P w K mg base 6 "_law_wide_domain" ["draws", "words"] (sp__law_wide_domain (csOf K)) := L__law_wide_domain X G c F__law_pick F__law_take F__law_wide_deed
  have F_DomainReader_init : Mkr P w K mg base 1 "DomainReader" (csOf K).DomainReader ["self"] (sp_DomainReader_init (csOf K)) := L_DomainReader_init X G c
  have F_DomainReader_known_words : Mt P w K mg base 1 (csOf K).DomainReader "known_words" ["self"] (sp_DomainReader_known_words (csOf K)) := L_DomainReader_known_words X G c
  have F_TextLine_is_over : Mt P w K mg base 1 (csOf K).TextLine "is_over" ["self"] (sp_TextLine_is_over (csOf K)) := L_TextLine_is_over X G c
  have F_TextLine_refuse_last : Mt P w K mg base 1 (csOf K).TextLine "refuse_last" ["self"] (sp_TextLine_refuse_last (csOf K)) := L_TextLine_refuse_last X G c
  have F_TextLine_take_end : Mt P w K mg base 2 (csOf K).TextLine "take_end" ["self"] (sp_TextLine_take_end (csOf K)) := L_TextLine_take_end X G c F_TextLine_is_over F_TextLine_refuse_last
  have F_TextLine_next_token : Mt P w K mg base 1 (csOf K).TextLine "next_token" ["self"] (sp_TextLine_next_token (csOf K)) := L_TextLine_next_token X G c
  have F_TextLine_skip_spaces : Mt P w K mg base 1 (csOf K).TextLine "skip_spaces" ["self"] (sp_TextLine_skip_spaces (csOf K)) := L_TextLine_skip_spaces X G c
  have F_TextLine_take_token : Mt P w K mg base 2 (csOf K).TextLine "take_token" ["self"] (sp_TextLine_take_token (csOf K)) := L_TextLine_take_token X G c F_TextLine_next_token F_TextLine_refuse_last F_TextLine_skip_spaces
  have F_TextLine_take_one_of : Mt P w K mg base 3 (csOf K).TextLine "take_one_of" ["self", "known"] (sp_TextLine_take_one_of (csOf K)) := L_TextLine_take_one_of X G c F_TextLine_refuse_last F_TextLine_take_token
  have F_is_word : Fn P w K mg base 1 "is_word" ["part"] (sp_is_word (csOf K)) := L_is_word X G c
  have F_take_word : Fn P w K mg base 3 "take_word" ["line"] (sp_take_word (csOf K)) := L_take_word X G c F_TextLine_refuse_last F_TextLine_take_token F_is_word
  have F_take_words : Fn P w K mg base 4 "take_words" ["line"] (sp_take_words (csOf K)) := L_take_words X G c F_TextLine_is_over F_TextLine_next_token F_take_word
  have F_take_atom : Fn P w K mg base 5 "take_atom" ["line"] (sp_take_atom (csOf K)) := L_take_atom X G c F_take_word F_take_words
  have F_take_plain : Fn P w K mg base 6 "take_plain" ["line", "names"] (sp_take_plain (csOf K)) := L_take_plain X G c F_TextLine_take_one_of F_take_atom F_take_word
  have F_take_row_of_plain : Fn P w K mg base 7 "take_row_of_plain" ["line", "names", "mark"] (sp_take_row_of_plain (csOf K)) := L_take_row_of_plain X G c F_TextLine_is_over F_TextLine_next_token F_TextLine_take_token F_take_plain
  have F_take_condition : Fn P w K mg base 8 "take_condition" ["line", "names"] (sp_take_condition (csOf K)) := L_take_condition X G c F_TextLine_next_token F_TextLine_take_one_of F_TextLine_take_token F_take_plain F_take_row_of_plain
  have F_is_digits : Fn P w K mg base 1 "is_digits" ["token"] (sp_is_digits (csOf K)) := L_is_digits X G c
  have F_take_number : Fn P w K mg base 3 "take_number" ["line"] (sp_take_number (csOf K)) := L_take_number X G c F_TextLine_refuse_last F_TextLine_take_token F_is_digits
  have F_take_cost : Fn P w K mg base 5 "take_cost" ["line"] (sp_take_cost (csOf K)) := L_take_cost X G c F_TextLine_next_token F_TextLine_take_token F_take_number F_take_word F_take_words
  have F_take_effect : Fn P w K mg base 8 "take_effect" ["line", "name"] (sp_take_effect (csOf K)) := L_take_effect X G c F_TextLine_is_over F_TextLine_take_one_of F_take_atom F_take_row_of_plain
  have F_take_variables : Fn P w K mg base 4 "take_variables" ["line"] (sp_take_variables (csOf K)) := L_take_variables X G c F_TextLine_is_over F_take_word
  have F_DomainReader_read_line : Mt P w K mg base 9 (csOf K).DomainReader "read_line" ["self", "line"] (sp_DomainReader_read_line (csOf K)) := L_DomainReader_read_line X G c F_DomainReader_known_words F_TextLine_is_over F_TextLine_take_end F_TextLine_take_one_of F_take_atom F_take_condition F_take_cost F_take_effect F_take_variables F_take_word
  have F_kinds_above : Fn P w K mg base 1 "kinds_above" ["kinds"] (sp_kinds_above (csOf K)) := L_kinds_above X G c
  have F_deed_fault : Fn P w K mg base 2 "deed_fault" ["domain"] (sp_deed_fault (csOf K)) := L_deed_fault X G c F_kinds_above
  have F_first_index : Fn P w K mg base 1 "first_index" ["flags"] (sp_first_index (csOf K)) := L_first_index X G c
  have F_plain_of_condition : Fn P w K mg base 1 "plain_of_condition" ["condition"] (sp_plain_of_condition (csOf K)) := L_plain_of_condition X G c
  have F_plain_of_deed : Fn P w K mg base 2 "plain_of_deed" ["deed"] (sp_plain_of_deed (csOf K)) := L_plain_of_deed X G c F_plain_of_condition
  have F_atoms_of_deed : Fn P w K mg base 3 "atoms_of_deed" ["deed"] (sp_atoms_of_deed (csOf K)) := L_atoms_of_deed X G c F_plain_of_deed
  have F_is_right_atom : Fn P w K mg base 2 "is_right_atom" ["domain", "deed", "atom"] (sp_is_right_atom (csOf K)) := L_is_right_atom X G c F_kinds_above
  have F_has_atom_fault : Fn P w K mg base 4 "has_atom_fault" ["domain", "deed"] (sp_has_atom_fault (csOf K)) := L_has_atom_fault X G c F_atoms_of_deed F_is_right_atom F_plain_of_deed
  have F_has_cost_fault : Fn P w K mg base 1 "has_cost_fault" ["deed"] (sp_has_cost_fault (csOf K)) := L_has_cost_fault X G c
  have F_kind_fault : Fn P w K mg base 1 "kind_fault" ["kinds"] (sp_kind_fault (csOf K)) := L_kind_fault X G c
  have F_relation_fault : Fn P w K mg base 2 "relation_fault" ["domain"] (sp_relation_fault (csOf K)) := L_relation_fault X G c F_kinds_above
  have F_first_fault : Fn P w K mg base 5 "first_fault" ["domain", "fault"] (sp_first_fault (csOf K)) := L_first_fault X G c F_deed_fault F_first_index F_has_atom_fault F_has_cost_fault F_kind_fault F_relation_fault
  have F_check_domain : Fn P w K mg base 6 "check_domain" ["domain"] (sp_check_domain (csOf K)) := L_check_domain X G c F_first_fault
  have F_line_count : Fn P w K mg base 1 "line_count" ["text"] (sp_line_count (csOf K)) := L_line_count X G c
  have F_DomainReader_told_domain : Mt P w K mg base 7 (csOf K).DomainReader "told_domain" ["self", "text"] (sp_DomainReader_told_domain (csOf K)) := L_DomainReader_told_domain X G c F_check_domain F_line_count
  have F_TextLine_init : Mkr P w K mg base 2 "TextLine" (csOf K).TextLine ["self", "number", "text"] (sp_TextLine_init (csOf K)) := L_TextLine_init X G c F_TextLine_skip_spaces
  have F_text_lines : Fn P w K mg base 4 "text_lines" ["text"] (sp_text_lines (csOf K)) := L_text_lines X G c F_TextLine_init F_TextLine_is_over
  have F_read_domain : Fn P w K mg base 10 "read_domain" ["text"] (sp_read_domain (csOf K)) := L_read_domain X G c F_DomainReader_init F_DomainReader_read_line F_DomainReader_told_domain F_text_lines
  have F_write_plain : Fn P w K mg base 1 "write_plain" ["plain"] (sp_write_plain (csOf K)) := L_write_plain X G c
  have F_write_condition : Fn P w K mg base 2 "write_condition" ["condition"] (sp_write_condition (csOf K)) := L_write_condition X G c F_write_plain
  have F_write_effect : Fn P w K mg base 2 "write_effect" ["effect"] (sp_write_effect (csOf K)) := L_write_effect X G c F_write_plain
  have F_deed_lines : Fn P w K mg base 3 "deed_lines" ["deed"] (sp_deed_lines (csOf K)) := L_deed_lines X G c F_write_condition F_write_effect
  have F_write_domain : Fn P w K mg base 4 "write_domain" ["domain"] (sp_write_domain (csOf K)) := L_write_domain X G c F_deed_lines
  exact fn_okD D sc_law (by intro ds M Q E h; (repeat (obtain ⟨_, h⟩ := h)) <;> subst_vars <;> rfl) (fun cdv A outer s H E hr => d_law (bltD X G c) (glbD X G c) (cfD c) F__law_domain_lines F__law_draws F__law_plain_words F__law_same F__law_spread F__law_take F__law_text F__law_wide_domain F_read_domain F_write_domain hr) (fun ds M Q E h => p_law (csOf K) ds M Q E h)
end
abbrev RR : PySem.W.OpenRow := PySem.W.OpenLaw.row PySem.Challenge.rw_planbyworths_k80_domains_written_and_rea
abbrev hkD : PySem.W.Hook := hookX 5 faD fnD exD
def obD (s : PySem.W.SharedT) : He.AlD := obsXG 5 faD fnD exD (HandSHeadRun.getT s)
theorem obD_eq (s : PySem.W.SharedT) : obD s = hkD.obs s.abs := obsXG_eq (HandSHeadRun.getT_eq s)
def loose0 : List PySem.Str := ["LETTERS", "is_word", "PlanError", "NoDomain", "BadText", "kinds_above", "kind_fault", "relation_fault", "deed_fault", "plain_of_condition", "plain_of_deed", "atoms_of_deed", "is_right_atom", "has_atom_fault", "has_cost_fault", "first_index", "check_domain", "first_fault", "TextLine", "text_lines", "line_count", "MARKS", "write_plain", "write_condition"]
def loose1 : List PySem.Str := ["write_effect", "deed_lines", "write_domain", "take_word", "take_words", "take_atom", "take_plain", "take_row_of_plain", "take_condition", "take_effect", "take_number", "is_digits", "take_cost", "take_variables", "DomainReader", "read_domain", "_law_draws", "_law_take", "_law_pick", "_law_same", "_law_plain_words", "_law_is_beneath", "_law_drawn_atom", "_law_drawn_plain"]
def loose2 : List PySem.Str := ["_law_plain_tokens", "_law_joined_tokens", "_law_condition_tokens", "_law_domain_lines", "_law_text", "_law_spread", "_law_wide_deed", "_law_wide_domain"]
def looseD : List PySem.Str := loose0 ++ loose1 ++ loose2
theorem runD (w : World) : HandSHeadRun.RunEq RR (PySem.W.view RR.prog [62]) hkD obD 20000 looseD w := by
  intro os
  kernel_rfl
theorem factsD {P : Program} {w : World} {K : PySem.W.Frag} {h : Heap} {mg : Str → Option Value} {f : Addr} (X : K.In h) (G : h.Ns mainGlobals mg) (hfa : mg ("law" : Str) = some (.ref f)) (c : SaysX faD fnD exD K) :
    ∃ fd : FuncData, (∀ (s : Shared) (v : Value), BindsTo s fd ⟨[v], []⟩ [("script", v)]) ∧ ∀ base : Heap, K.In base → base.Ns mainGlobals mg → FnOk P w K mg base CX0 22 f fd ["script"] (UpSp K (sp_law (csOf K))) := by
  obtain ⟨fd, D⟩ := c.d.def_ 61 (d := dd_law) rfl
  have e := hfa.symm.trans (He.glo_ok X G (c.d.fact 77 (f := .glo "law") rfl))
  cases e
  have b := FunD.bindsA (ps := ["script"]) D fun _ _ _ _ _ _ us hl => match us, hl with | [_], _ => rfl
  exact ⟨fd, fun s v => b s [v] rfl, fun base _ _ => law_all X G c D⟩
end Ht
open PySem PySem.W PySem.Calls PyProof.Rows
theorem PySem.Challenge.cw_planbyworths_k80_domains_written_and_rea_holds : PySem.Challenge.rw_planbyworths_k80_domains_written_and_rea.Holds := by
  w_on; o_law
  refine HandSHeadRun.head_any (r := OpenLaw.row PySem.Challenge.rw_planbyworths_k80_domains_written_and_rea) (q := view (OpenLaw.row PySem.Challenge.rw_planbyworths_k80_domains_written_and_rea).prog [62]) (H := Ht.hkD) (ob := Ht.obD) (M := 20000) (loose := Ht.looseD) (d := HandSHeadRun.topDef (OpenLaw.row PySem.Challenge.rw_planbyworths_k80_domains_written_and_rea).prog 62) (kwd := []) Ht.obD_eq
    (by kernel_rfl) (fun s => by kernel_rfl) Ht.runD (by kernel_rfl) (by kernel_rfl) (by kernel_rfl) (by rfl) (by first | assumption | decide +kernel) (by decide +kernel) ⟨rfl, rfl, rfl, rfl, rfl, by decide +kernel⟩ ?hw ?hc
  case hw => w_witness2
  case hc =>
    refine L2.walk_ofE (l := PySem.Challenge.rw_planbyworths_k80_domains_written_and_rea) (n := 63) (k := 22) (x := "script") (CX := L2.CX0) rfl (by decide) (by kernel_rfl) ⟨rfl, by decide, by decide⟩ ?F (fun _ _ _ _ z => z)
    intro w mg fa h Y G hmg0
    obtain ⟨K, KX, c⟩ := Y
    have gLaw : mg ("law" : PySem.Str) = some (.ref fa) := by
      have e : (HandSHeadRun.topDef (OpenLaw.row PySem.Challenge.rw_planbyworths_k80_domains_written_and_rea).prog 62).name = ("law" : PySem.Str) := by kernel_rfl
      rw [← e]
      exact hmg0
    obtain ⟨fd, hb, hF⟩ := Ht.factsD (P := (PySem.Challenge.rw_planbyworths_k80_domains_written_and_rea).prog) (w := w) KX G gLaw c
    exact ⟨K, fd, Ht.UpSp K (Ht.sp_law (Ht.csOf K)), KX, hb, fun H a ns hl _ hS => Ht.law_ask (Ht.law_says (Ht.csOf K)) H a ns hl hS, hF⟩
