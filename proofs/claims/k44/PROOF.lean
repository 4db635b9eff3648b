import PyProof.Rows.All
import Wide.All
import OpenK.AllK
import Wide.FinOn
import HandS.ForSpec
import HandS.ForMost
import HandS.TryMany
import HandS.ExcIs
import HandS.Gcd
import HandS.Wide
import HandS.IsInst
import HandS.Deep
import HandS.Walk
import HandS.TupAny
import HandS.Style
import HandS.TupLe
import HandS.Small
import HandS.Comp
import HandS.Text
import HandS.Iter
import HandS.RaiseMore
import HandS.Zip
import HandS.FStr
import HandS.DictComp
import PySem.Challenge.RW_juststeps_k44_whole_texts_of_images
set_option Elab.async false
set_option linter.all false
set_option maxRecDepth 100000
set_option maxHeartbeats 4000000
/-! MP: a small evaluator for a part of Python over deep values, and what it says of the model. Part A: values, states, relations. -/
namespace MP
open PySem PySem.Spec PyProof.Rows L2

/-- a mutable thing's content -/
inductive Ob where
  | lst (xs : List PyData)
  | dic (kvs : List (Key × PyData))
/-- what a slot or a field holds: data (never changed any more), a box, or a thing that only this place knows -/
inductive W where
  | d (x : PyData)
  | ref (b : Nat)
  | own (c : Ob)
  | exn (c : Str)
inductive Box where
  | ctr (c : Ob)
  | inst (cls : Str) (fs : List (Str × W))
structure S where
  rho : List (Option W)
  mem : List Box
structure Ex where
  cls : Str
  flds : List (Str × PyData)
inductive Res (α : Type) where
  | ok (a : α) (s : S)
  | raise (e : Ex) (s : S)
  | stuck
abbrev EM (α : Type) := S → Res α
def rb {α β : Type} (r : Res α) (f : α → S → Res β) : Res β :=
  match r with
  | .ok a s => f a s
  | .raise e s => .raise e s
  | .stuck => .stuck
def eb {α β : Type} (m : EM α) (f : α → EM β) : EM β := fun s => rb (m s) f
def er {α : Type} (a : α) : EM α := fun s => .ok a s
def es {α : Type} : EM α := fun _ => .stuck

/-- a place -/
inductive Pl where
  | slot (i : Nat)
  | box (b : Nat)
  | fld (b : Nat) (f : Str)
  deriving DecidableEq
/-- ghosts: the frozen addresses, where the places' things stand, the exception that is handled -/
structure Gh where
  F : Addr → Prop
  ad : Pl → Option Addr
  ex : Option (Addr × Str)

/-! ### data -/
def KT (K : PySem.W.Frag) (a : Addr) (xs : List V) : Prop := ∃ (o : Obj) (its : Array Value) (n : Nat), K.lookup a = some o ∧ o.cls = .type "tuple" ∧ o.data = .seq its n ∧ its.size ≤ sizeLine ∧ Vals xs its.toList
def KL (K : PySem.W.Frag) (a : Addr) (xs : List V) : Prop := ∃ (o : Obj) (its : Array Value) (n : Nat), K.lookup a = some o ∧ o.cls = .type "list" ∧ o.dict = none ∧ o.data = .seq its n ∧ its.size ≤ sizeLine ∧ Vals xs its.toList
def LAt (K : PySem.W.Frag) (F : Addr → Prop) (H : Hp) (a : Addr) (xs : List V) : Prop := (F a ∧ Rd H a (.lst xs)) ∨ KL K a xs
def TAt (K : PySem.W.Frag) (F : Addr → Prop) (H : Hp) (a : Addr) (xs : List V) : Prop := (F a ∧ Rd H a (.tup xs)) ∨ KT K a xs
theorem LAt.sq {K : PySem.W.Frag} {F : Addr → Prop} {H : Hp} {a : Addr} {xs : List V} (h : LAt K F H a xs) : SqL K H a xs := h.imp (·.2) id
theorem TAt.sq {K : PySem.W.Frag} {F : Addr → Prop} {H : Hp} {a : Addr} {xs : List V} (h : TAt K F H a xs) : SqT K H a xs := h.imp (·.2) id
mutual
inductive RD (K : PySem.W.Frag) (F : Addr → Prop) (H : Hp) : PyData → V → Prop
  | none : RD K F H .none .non
  | bool (b : Bool) : RD K F H (.bool b) (.bl b)
  | int (i : Int) : RD K F H (.int i) (.int i)
  | str (x : Str) : RD K F H (.str x) (.str x)
  | list {a : Addr} {vs : List V} {ds : List PyData} : LAt K F H a vs → RDs K F H ds vs → RD K F H (.list ds) (.ref a)
  | tuple {a : Addr} {vs : List V} {ds : List PyData} : TAt K F H a vs → RDs K F H ds vs → RD K F H (.tuple ds) (.ref a)
  | dict {a : Addr} {kvs : List (Key × V)} {ds : List (PyData × PyData)} : F a ∧ H a = some (.dK kvs) → RDkv K F H ds kvs → RD K F H (.dict ds) (.ref a)
inductive RDs (K : PySem.W.Frag) (F : Addr → Prop) (H : Hp) : List PyData → List V → Prop
  | nil : RDs K F H [] []
  | cons {d : PyData} {ds : List PyData} {v : V} {vs : List V} : RD K F H d v → RDs K F H ds vs → RDs K F H (d :: ds) (v :: vs)
inductive RDkv (K : PySem.W.Frag) (F : Addr → Prop) (H : Hp) : List (PyData × PyData) → List (Key × V) → Prop
  | nil : RDkv K F H [] []
  | consI {i : Int} {d : PyData} {ds : List (PyData × PyData)} {v : V} {kvs : List (Key × V)} : RD K F H d v → RDkv K F H ds kvs → RDkv K F H ((.int i, d) :: ds) ((.inl i, v) :: kvs)
  | consS {x : Str} {d : PyData} {ds : List (PyData × PyData)} {v : V} {kvs : List (Key × V)} : RD K F H d v → RDkv K F H ds kvs → RDkv K F H ((.str x, d) :: ds) ((.inr x, v) :: kvs)
end
section
variable {K : PySem.W.Frag} {F F' : Addr → Prop} {H H' : Hp}
theorem LAt.mono (hF : ∀ a, F a → F' a ∧ H' a = H a) {a : Addr} {xs : List V} (h : LAt K F H a xs) : LAt K F' H' a xs := by
  rcases h with ⟨f, h⟩ | h
  · refine .inl ⟨(hF a f).1, ?_⟩
    unfold Rd at h ⊢
    rw [(hF a f).2]
    exact h
  · exact .inr h
theorem TAt.mono (hF : ∀ a, F a → F' a ∧ H' a = H a) {a : Addr} {xs : List V} (h : TAt K F H a xs) : TAt K F' H' a xs := by
  rcases h with ⟨f, h⟩ | h
  · refine .inl ⟨(hF a f).1, ?_⟩
    unfold Rd at h ⊢
    rw [(hF a f).2]
    exact h
  · exact .inr h
mutual
theorem RD.mono (hF : ∀ a, F a → F' a ∧ H' a = H a) : ∀ {d : PyData} {v : V}, RD K F H d v → RD K F' H' d v
  | _, _, .none => .none
  | _, _, .bool b => .bool b
  | _, _, .int i => .int i
  | _, _, .str x => .str x
  | _, _, .list h1 h2 => .list (h1.mono hF) (RDs.mono hF h2)
  | _, _, .tuple h1 h2 => .tuple (h1.mono hF) (RDs.mono hF h2)
  | _, _, .dict h1 h2 => .dict ⟨(hF _ h1.1).1, by rw [(hF _ h1.1).2]; exact h1.2⟩ (RDkv.mono hF h2)
theorem RDs.mono (hF : ∀ a, F a → F' a ∧ H' a = H a) : ∀ {ds : List PyData} {vs : List V}, RDs K F H ds vs → RDs K F' H' ds vs
  | _, _, .nil => .nil
  | _, _, .cons h1 h2 => .cons (RD.mono hF h1) (RDs.mono hF h2)
theorem RDkv.mono (hF : ∀ a, F a → F' a ∧ H' a = H a) : ∀ {ds : List (PyData × PyData)} {vs : List (Key × V)}, RDkv K F H ds vs → RDkv K F' H' ds vs
  | _, _, .nil => .nil
  | _, _, .consI h1 h2 => .consI (RD.mono hF h1) (RDkv.mono hF h2)
  | _, _, .consS h1 h2 => .consS (RD.mono hF h1) (RDkv.mono hF h2)
end
theorem RDs.length : ∀ {ds : List PyData} {vs : List V}, RDs K F H ds vs → vs.length = ds.length
  | _, _, .nil => rfl
  | _, _, .cons _ h => by rw [List.length_cons, List.length_cons, RDs.length h]
theorem RDs.get : ∀ {ds : List PyData} {vs : List V} {i : Nat} {d : PyData}, RDs K F H ds vs → ds[i]? = some d → ∃ v, vs[i]? = some v ∧ RD K F H d v
  | _, _, _, _, .nil, e => by simp at e
  | _, _, 0, _, .cons h _, e => by simp at e; subst e; exact ⟨_, rfl, h⟩
  | _, _, i + 1, d, .cons _ h, e => by
    obtain ⟨v, h1, h2⟩ := RDs.get (i := i) (d := d) h (by simpa using e)
    exact ⟨v, by simpa using h1, h2⟩
theorem RDs.getV : ∀ {ds : List PyData} {vs : List V} {i : Nat} {v : V}, RDs K F H ds vs → vs[i]? = some v → ∃ d, ds[i]? = some d ∧ RD K F H d v
  | _, _, _, _, .nil, e => by simp at e
  | _, _, 0, _, .cons h _, e => by simp at e; subst e; exact ⟨_, rfl, h⟩
  | _, _, i + 1, d, .cons _ h, e => by
    obtain ⟨v, h1, h2⟩ := RDs.getV (i := i) (v := d) h (by simpa using e)
    exact ⟨v, by simpa using h1, h2⟩
theorem RDs.append : ∀ {ds es : List PyData} {vs us : List V}, RDs K F H ds vs → RDs K F H es us → RDs K F H (ds ++ es) (vs ++ us)
  | _, _, _, _, .nil, h => h
  | _, _, _, _, .cons a b, h => .cons a (RDs.append b h)
theorem RDs.set {d : PyData} {v : V} (r : RD K F H d v) : ∀ {ds : List PyData} {vs : List V} (i : Nat), RDs K F H ds vs → RDs K F H (ds.set i d) (vs.set i v)
  | _, _, _, .nil => .nil
  | _, _, 0, .cons _ t => .cons r t
  | _, _, i + 1, .cons q t => .cons q (RDs.set r i t)
theorem RDs.take : ∀ {ds : List PyData} {vs : List V} (n : Nat), RDs K F H ds vs → RDs K F H (ds.take n) (vs.take n)
  | _, _, 0, _ => .nil
  | _, _, _ + 1, .nil => .nil
  | _, _, n + 1, .cons r t => .cons r (RDs.take n t)
theorem RDs.drop : ∀ {ds : List PyData} {vs : List V} (n : Nat), RDs K F H ds vs → RDs K F H (ds.drop n) (vs.drop n)
  | _, _, 0, h => h
  | _, _, _ + 1, .nil => .nil
  | _, _, n + 1, .cons r t => RDs.drop n t
-- without a dict in it
mutual
theorem RD.dp : ∀ {d : PyData} {v : V}, RD K F H d v → d.canLay0 = true → Dp K H v d
  | _, _, .none, _ => .non
  | _, _, .bool b, _ => .bl b
  | _, _, .int i, _ => .int i
  | _, _, .str x, _ => .str x
  | _, _, .list h1 h2, c => .lst h1.sq (RDs.dp h2 (by simpa [PyData.canLay0] using c))
  | _, _, .tuple h1 h2, c => .tup h1.sq (RDs.dp h2 (by simpa [PyData.canLay0] using c))
  | _, _, .dict h1 h2, c => by simp [PyData.canLay0] at c
theorem RDs.dp : ∀ {ds : List PyData} {vs : List V}, RDs K F H ds vs → PyData.canLayAll0 ds = true → DpAll K H vs ds
  | _, _, .nil, _ => .nil
  | _, _, .cons h1 h2, c => by
    rw [PyData.canLayAll0, Bool.and_eq_true] at c
    exact .cons (RD.dp h1 c.1) (RDs.dp h2 c.2)
end
/-- a dict's pairs -/
def RKV (K : PySem.W.Frag) (F : Addr → Prop) (H : Hp) : List (Key × PyData) → List (Key × V) → Prop := Paired fun p q => p.1 = q.1 ∧ RD K F H p.2 q.2
theorem RKV.mono (hF : ∀ a, F a → F' a ∧ H' a = H a) {ds : List (Key × PyData)} {vs : List (Key × V)} (h : RKV K F H ds vs) : RKV K F' H' ds vs := Paired.mapP h fun _ _ z => ⟨z.1, z.2.mono hF⟩
def keyD : Key → PyData
  | .inl i => .int i
  | .inr x => .str x
theorem RKV.kv : ∀ {ds : List (Key × PyData)} {vs : List (Key × V)}, RKV K F H ds vs → RDkv K F H (ds.map fun p => (keyD p.1, p.2)) vs
  | _, _, .nil => .nil
  | (.inl i, d) :: ds, (.inl j, v) :: vs, .cons ⟨e, h⟩ t => by
    cases e
    exact .consI h (RKV.kv t)
  | (.inr i, d) :: ds, (.inr j, v) :: vs, .cons ⟨e, h⟩ t => by
    cases e
    exact .consS h (RKV.kv t)
  | (.inl i, d) :: ds, (.inr j, v) :: vs, .cons ⟨e, h⟩ t => by cases e
  | (.inr i, d) :: ds, (.inl j, v) :: vs, .cons ⟨e, h⟩ t => by cases e
/-- a thing's content stands at p -/
def RO (K : PySem.W.Frag) (F : Addr → Prop) (H : Hp) : Ob → Addr → Prop
  | .lst xs, p => ∃ vs, H p = some (.lst vs) ∧ RDs K F H xs vs
  | .dic kvs, p => ∃ vs, H p = some (.dK vs) ∧ RKV K F H kvs vs
/-- what freezes -/
def Ob.data : Ob → PyData
  | .lst xs => .list xs
  | .dic kvs => .dict (kvs.map fun p => (keyD p.1, p.2))
theorem RO.mono (hF : ∀ a, F a → F' a ∧ H' a = H a) {c : Ob} {p : Addr} (e : H' p = H p) (h : RO K F H c p) : RO K F' H' c p := by
  cases c with
  | lst xs => obtain ⟨vs, h1, h2⟩ := h; exact ⟨vs, e.trans h1, h2.mono hF⟩
  | dic xs => obtain ⟨vs, h1, h2⟩ := h; exact ⟨vs, e.trans h1, h2.mono hF⟩
theorem RO.there {c : Ob} {p : Addr} (h : RO K F H c p) : ∃ o, H p = some o := by
  cases c with
  | lst xs => obtain ⟨vs, h1, h2⟩ := h; exact ⟨_, h1⟩
  | dic xs => obtain ⟨vs, h1, h2⟩ := h; exact ⟨_, h1⟩
theorem RO.rd {c : Ob} {p : Addr} (f : F p) (h : RO K F H c p) : RD K F H c.data (.ref p) := by
  cases c with
  | lst xs => obtain ⟨vs, h1, h2⟩ := h; exact .list (.inl ⟨f, .inl h1⟩) h2
  | dic xs => obtain ⟨vs, h1, h2⟩ := h; exact .dict ⟨f, h1⟩ h2.kv
end

/-! ### states -/
/-- a place's thing -/
def RP (K : PySem.W.Frag) (G : Gh) (H : Hp) (pl : Pl) : W → V → Prop
  | .d x, v => RD K G.F H x v
  | .ref b, v => ∃ p, v = .ref p ∧ G.ad (.box b) = some p
  | .own c, v => ∃ p, v = .ref p ∧ G.ad pl = some p ∧ RO K G.F H c p
  | .exn c, v => ∃ a, v = .ref a ∧ G.ex = some (a, c)
/-- what an expression hands on: no thing of its own -/
def RW (K : PySem.W.Frag) (G : Gh) (H : Hp) : W → V → Prop
  | .d x, v => RD K G.F H x v
  | .ref b, v => ∃ p, v = .ref p ∧ G.ad (.box b) = some p
  | .own _, _ => False
  | .exn _, _ => False
/-- a class's address by its name; the exception that is handled -/
structure CA where
  cl : Str → Addr → Prop
  ex : Option (Addr × Str)
/-- a field's box is older than the thing itself -/
def older (b : Nat) : W → Prop
  | .ref c => c < b
  | .exn _ => False
  | _ => True
def RB (K : PySem.W.Frag) (CL : CA) (G : Gh) (H : Hp) (b : Nat) : Box → Addr → Prop
  | .ctr c, p => RO K G.F H c p
  | .inst cls fs, p => ∃ C dx vfs, CL.cl cls C ∧ H p = some (.ins C dx vfs) ∧ vfs.map (·.1) = fs.map (·.1) ∧ ∀ f w, fs.lookup f = some w → ∃ v, vfs.lookup f = some v ∧ RP K G H (.fld b f) w v ∧ older b w
structure SR (K : PySem.W.Frag) (CL : CA) (G : Gh) (s : S) (σ : L2.St) (H : Hp) : Prop where
  len : s.rho.length = σ.length
  slots : ∀ i w, s.rho[i]? = some (some w) → ∃ v, σ[i]? = some (some v) ∧ RP K G H (.slot i) w v
  boxes : ∀ b c, s.mem[b]? = some c → ∃ p, G.ad (.box b) = some p ∧ RB K CL G H b c p
  inj : ∀ pl pl' p, G.ad pl = some p → G.ad pl' = some p → pl = pl'
  live : ∀ pl p, G.ad pl = some p → ∃ o, H p = some o
  fz : ∀ p, G.F p → (∃ o, H p = some o) ∧ ∀ pl, G.ad pl ≠ some p
  bx : ∀ b p, G.ad (.box b) = some p → b < s.mem.length
  fd : ∀ b f p, G.ad (.fld b f) = some p → b < s.mem.length
  exq : G.ex = CL.ex
/-- what happens between two states -/
structure Fut (G : Gh) (H : Hp) (n : Nat) (G' : Gh) (H' : Hp) (n' : Nat) : Prop where
  fr : ∀ a, G.F a → G'.F a
  oth : ∀ a o, H a = some o → (∀ pl, G.ad pl ≠ some a) → H' a = some o
  there : ∀ a o, H a = some o → ∃ o', H' a = some o'
  newF : ∀ a, G'.F a → G.F a ∨ H a = none ∨ ∃ pl, G.ad pl = some a
  newA : ∀ pl a, G'.ad pl = some a → H a = none ∨ ∃ pl0, G.ad pl0 = some a
  box : ∀ b p, b < n → G.ad (.box b) = some p → G'.ad (.box b) = some p
  le : n ≤ n'
  ex : G'.ex = G.ex
theorem Fut.refl {G : Gh} {H : Hp} {n : Nat} : Fut G H n G H n :=
  ⟨fun _ h => h, fun _ _ h _ => h, fun _ o h => ⟨o, h⟩, fun _ h => .inl h, fun pl _ h => .inr ⟨pl, h⟩, fun _ _ _ h => h, Nat.le_refl _, rfl⟩
theorem none_or {H : Hp} (a : Addr) : H a = Option.none ∨ ∃ o, H a = some o := by
  cases h : H a with
  | none => exact Or.inl rfl
  | some o => exact Or.inr ⟨o, rfl⟩
theorem Fut.back {G G' : Gh} {H H' : Hp} {n n' : Nat} (f : Fut G H n G' H' n') {a : Addr} (h : H' a = none) : H a = none := by
  rcases none_or (H := H) a with e | ⟨o, e⟩
  · exact e
  · obtain ⟨o', e'⟩ := f.there a o e
    rw [h] at e'
    cases e'
theorem Fut.trans {G G1 G2 : Gh} {H H1 H2 : Hp} {n n1 n2 : Nat} (a : Fut G H n G1 H1 n1) (b : Fut G1 H1 n1 G2 H2 n2) : Fut G H n G2 H2 n2 where
  fr := fun x h => b.fr x (a.fr x h)
  oth := fun x o h hn => by
    refine b.oth x o (a.oth x o h hn) fun pl e => ?_
    rcases a.newA pl x e with z | ⟨pl0, z⟩
    · rw [h] at z; cases z
    · exact hn pl0 z
  there := fun x o h => by
    obtain ⟨o1, h1⟩ := a.there x o h
    exact b.there x o1 h1
  newF := fun x h => by
    rcases b.newF x h with h | h | ⟨pl, h⟩
    · exact a.newF x h
    · exact .inr (.inl (a.back h))
    · rcases a.newA pl x h with z | z
      · exact .inr (.inl z)
      · exact .inr (.inr z)
  newA := fun pl x h => by
    rcases b.newA pl x h with z | ⟨pl0, z⟩
    · exact .inl (a.back z)
    · exact a.newA pl0 x z
  box := fun i p hi h => b.box i p (Nat.lt_of_lt_of_le hi a.le) (a.box i p hi h)
  le := Nat.le_trans a.le b.le
  ex := b.ex.trans a.ex
section
variable {K : PySem.W.Frag} {CL : CA} {G G' : Gh} {H H' : Hp} {s : S} {σ : L2.St} {n n' : Nat}
/-- frozen things stand still -/
theorem Fut.mono (S : SR K CL G s σ H) (f : Fut G H n G' H' n') : ∀ a, G.F a → G'.F a ∧ H' a = H a := fun a h => by
  obtain ⟨⟨o, e⟩, ne⟩ := S.fz a h
  exact ⟨f.fr a h, by rw [f.oth a o e ne, e]⟩
theorem Fut.rd (S : SR K CL G s σ H) (f : Fut G H n G' H' n') {d : PyData} {v : V} (h : RD K G.F H d v) : RD K G'.F H' d v := h.mono (f.mono S)
theorem SR.boxlt (S : SR K CL G s σ H) {b : Nat} {c : Box} (h : s.mem[b]? = some c) : b < s.mem.length := (List.getElem?_eq_some_iff.mp h).1
end
end MP
/-! Part B: how states change. -/
namespace MP
open PySem PySem.Spec PyProof.Rows L2
section
variable {K : PySem.W.Frag} {CL : CA} {G G' : Gh} {H H' : Hp} {s : S} {σ : L2.St} {n n' : Nat} {p : Addr} {o : HO}
theorem upd_ext (h : H p = none) : ∀ a u, H a = some u → upd H p o a = some u := fun a u e => by
  rw [upd_ne (ne_of_none e h)]
  exact e
theorem RP.ext (x : ∀ a u, H a = some u → H' a = some u) (hl : ∀ a, G.F a → ∃ o, H a = some o) {pl : Pl} {w : W} {v : V} (hlv : ∀ pl p, G.ad pl = some p → ∃ o, H p = some o) (h : RP K G H pl w v) : RP K G H' pl w v := by
  have hF : ∀ a, G.F a → G.F a ∧ H' a = H a := fun a f => by
    obtain ⟨u, e⟩ := hl a f
    exact ⟨f, by rw [x a u e, e]⟩
  cases w with
  | exn c => exact h
  | d y => exact RD.mono hF h
  | ref b => exact h
  | own c =>
    obtain ⟨q, e1, e2, e3⟩ := h
    obtain ⟨u, e⟩ := hlv _ _ e2
    exact ⟨q, e1, e2, e3.mono hF (by rw [x q u e, e])⟩
/-- the heap grows -/
theorem SR.ext (S : SR K CL G s σ H) (x : ∀ a u, H a = some u → H' a = some u) : SR K CL G s σ H' := by
  have hl : ∀ a, G.F a → ∃ o, H a = some o := fun a f => (S.fz a f).1
  have hF : ∀ a, G.F a → G.F a ∧ H' a = H a := fun a f => by
    obtain ⟨u, e⟩ := hl a f
    exact ⟨f, by rw [x a u e, e]⟩
  refine ⟨S.len, fun i w e => ?_, fun b c e => ?_, S.inj, fun pl q e => ?_, fun q f => ?_, ?_, ?_, ?_⟩
  · obtain ⟨v, h1, h2⟩ := S.slots i w e
    exact ⟨v, h1, h2.ext x hl S.live⟩
  · obtain ⟨q, h1, h2⟩ := S.boxes b c e
    refine ⟨q, h1, ?_⟩
    obtain ⟨u, eu⟩ := S.live _ _ h1
    cases c with
    | ctr c => exact RO.mono hF (by rw [x q u eu, eu]) h2
    | inst cls fs =>
      obtain ⟨C, dx, vfs, g1, g2, g3, g4⟩ := h2
      refine ⟨C, dx, vfs, g1, x _ _ g2, g3, fun f w hw => ?_⟩
      obtain ⟨v, k1, k2, g9⟩ := g4 f w hw
      exact ⟨v, k1, k2.ext x hl S.live, g9⟩
  · obtain ⟨u, eu⟩ := S.live _ _ e
    exact ⟨u, x _ _ eu⟩
  · obtain ⟨⟨u, eu⟩, hn⟩ := S.fz q f
    exact ⟨⟨u, x _ _ eu⟩, hn⟩
  · exact S.bx
  · exact S.fd
  · exact S.exq
theorem Fut.ext (x : ∀ a u, H a = some u → H' a = some u) (h : n ≤ n') : Fut G H n G H' n' :=
  ⟨fun _ h => h, fun a o e _ => x a o e, fun a o e => ⟨o, x a o e⟩, fun _ h => .inl h, fun pl _ h => .inr ⟨pl, h⟩, fun _ _ _ h => h, h, rfl⟩
/-- an address more that is frozen -/
def Gh.addF (G : Gh) (p : Addr) : Gh := ⟨fun a => G.F a ∨ a = p, G.ad, G.ex⟩
theorem RP.addF {pl : Pl} {w : W} {v : V} (h : RP K G H pl w v) : RP K (G.addF p) H pl w v := by
  have hF : ∀ a, G.F a → (G.addF p).F a ∧ H a = H a := fun a f => ⟨.inl f, rfl⟩
  cases w with
  | exn c => exact h
  | d y => exact RD.mono hF h
  | ref b => exact h
  | own c =>
    obtain ⟨q, e1, e2, e3⟩ := h
    exact ⟨q, e1, e2, e3.mono hF rfl⟩
theorem SR.addF (S : SR K CL G s σ H) (hp : ∃ o, H p = some o) (hn : ∀ pl, G.ad pl ≠ some p) : SR K CL (G.addF p) s σ H := by
  have hF : ∀ a, G.F a → (G.addF p).F a ∧ H a = H a := fun a f => ⟨.inl f, rfl⟩
  refine ⟨S.len, fun i w e => ?_, fun b c e => ?_, S.inj, S.live, fun q f => ?_, S.bx, S.fd, S.exq⟩
  · obtain ⟨v, h1, h2⟩ := S.slots i w e
    exact ⟨v, h1, h2.addF⟩
  · obtain ⟨q, h1, h2⟩ := S.boxes b c e
    refine ⟨q, h1, ?_⟩
    cases c with
    | ctr c => exact RO.mono hF rfl h2
    | inst cls fs =>
      obtain ⟨C, dx, vfs, g1, g2, g3, g4⟩ := h2
      refine ⟨C, dx, vfs, g1, g2, g3, fun f w hw => ?_⟩
      obtain ⟨v, k1, k2, g9⟩ := g4 f w hw
      exact ⟨v, k1, k2.addF, g9⟩
  · rcases f with f | f
    · exact S.fz q f
    · subst f
      exact ⟨hp, hn⟩
theorem Fut.addF (x : ∀ a u, H a = some u → H' a = some u) (h : H p = none) (hn : n ≤ n') : Fut G H n (G.addF p) H' n' :=
  ⟨fun _ h => .inl h, fun a o e _ => x a o e, fun a o e => ⟨o, x a o e⟩, fun a f => by
    rcases f with f | f
    · exact .inl f
    · rw [f]; exact .inr (.inl h), fun pl _ h => .inr ⟨pl, h⟩, fun _ _ _ h => h, hn, rfl⟩
theorem SR.notIn (S : SR K CL G s σ H) (h : H p = none) : ∀ pl, G.ad pl ≠ some p := fun pl e => by
  obtain ⟨u, eu⟩ := S.live _ _ e
  rw [h] at eu
  cases eu
/-- a fresh thing, frozen at once -/
theorem SR.fresh (S : SR K CL G s σ H) (h : H p = none) : SR K CL (G.addF p) s σ (upd H p o) ∧ Fut G H n (G.addF p) (upd H p o) n :=
  ⟨(S.ext (upd_ext h)).addF ⟨o, upd_same⟩ (S.notIn h), Fut.addF (upd_ext h) h (Nat.le_refl _)⟩
/-- a fresh thing that nobody knows -/
theorem SR.junk (S : SR K CL G s σ H) (h : H p = none) : SR K CL G s σ (upd H p o) ∧ Fut G H n G (upd H p o) n := ⟨S.ext (upd_ext h), Fut.ext (upd_ext h) (Nat.le_refl _)⟩
/-! ### places change -/
def Gh.put (G : Gh) (pl : Pl) (a : Option Addr) : Gh := ⟨G.F, fun q => if q = pl then a else G.ad q, G.ex⟩
theorem Gh.put_same {pl : Pl} {a : Option Addr} : (G.put pl a).ad pl = a := by simp [Gh.put]
theorem Gh.put_ne {pl q : Pl} {a : Option Addr} (h : q ≠ pl) : (G.put pl a).ad q = G.ad q := by simp [Gh.put, h]
theorem Gh.put_none {pl q : Pl} {x : Addr} (h : (G.put pl none).ad q = some x) : q ≠ pl ∧ G.ad q = some x := by
  by_cases e : q = pl
  · subst e
    rw [Gh.put_same] at h
    cases h
  · rw [Gh.put_ne e] at h
    exact ⟨e, h⟩
theorem RP.put {pl q : Pl} {a : Option Addr} {w : W} {v : V} (hq : q ≠ pl) (hb : ∀ b, pl ≠ .box b) (h : RP K G H q w v) : RP K (G.put pl a) H q w v := by
  cases w with
  | exn c => exact h
  | d y => exact h
  | ref b =>
    obtain ⟨x, e1, e2⟩ := h
    exact ⟨x, e1, by rw [Gh.put_ne (fun z => hb b z.symm)]; exact e2⟩
  | own c =>
    obtain ⟨x, e1, e2, e3⟩ := h
    exact ⟨x, e1, by rw [Gh.put_ne hq]; exact e2, e3⟩
/-- a slot is stored; what stood there is let go -/
theorem SR.set (S : SR K CL G s σ H) {i : Nat} {w : W} {v : V} (h : RW K G H w v) (hi : i < σ.length) :
    SR K CL (G.put (.slot i) none) { s with rho := s.rho.set i (some w) } (σ.set i (some v)) H ∧ ∀ {n : Nat}, Fut G H n (G.put (.slot i) none) H n := by
  have hb : ∀ b, Pl.slot i ≠ .box b := fun b z => by cases z
  refine ⟨⟨by simpa using S.len, fun j w' e => ?_, fun b c e => ?_, fun pl pl' x e1 e2 => ?_, fun pl x e => ?_, fun x f => ?_, fun b x e => S.bx b x (Gh.put_none e).2, fun b f x e => S.fd b f x (Gh.put_none e).2, S.exq⟩, fun {n} => ⟨fun _ h => h, fun a o e _ => e, fun a o e => ⟨o, e⟩, fun _ h => .inl h, fun pl x h => .inr ⟨pl, (Gh.put_none h).2⟩, fun b x _ e => by rw [Gh.put_ne (fun z => hb b z.symm)]; exact e, Nat.le_refl _, rfl⟩⟩
  · by_cases hj : j = i
    · subst hj
      rw [List.getElem?_set_self (by rw [S.len]; exact hi)] at e
      cases e
      refine ⟨v, List.getElem?_set_self hi, ?_⟩
      cases w with
      | exn c => exact h.elim
      | d y => exact h
      | ref b =>
        obtain ⟨x, e1, e2⟩ := h
        exact ⟨x, e1, by rw [Gh.put_ne (fun z => hb b z.symm)]; exact e2⟩
      | own c => exact h.elim
    · rw [List.getElem?_set_ne (Ne.symm hj)] at e
      obtain ⟨v', h1, h2⟩ := S.slots j w' e
      refine ⟨v', by rw [List.getElem?_set_ne (Ne.symm hj)]; exact h1, h2.put (fun z => hj (by cases z; rfl)) hb⟩
  · obtain ⟨q, h1, h2⟩ := S.boxes b c e
    refine ⟨q, by rw [Gh.put_ne (fun z => hb b z.symm)]; exact h1, ?_⟩
    cases c with
    | ctr c => exact h2
    | inst cls fs =>
      obtain ⟨C, dx, vfs, g1, g2, g3, g4⟩ := h2
      refine ⟨C, dx, vfs, g1, g2, g3, fun f w hw => ?_⟩
      obtain ⟨v, k1, k2, g9⟩ := g4 f w hw
      exact ⟨v, k1, k2.put (fun z => by cases z) hb, g9⟩
  · exact S.inj pl pl' x (Gh.put_none e1).2 (Gh.put_none e2).2
  · exact S.live pl x (Gh.put_none e).2
  · exact ⟨(S.fz x f).1, fun pl e => (S.fz x f).2 pl (Gh.put_none e).2⟩
/-- a slot becomes a thing's only place -/
theorem SR.setOwn (S : SR K CL G s σ H) {i : Nat} {c : Ob} (h : RO K G.F H c p) (hf : ¬ G.F p) (hn : ∀ pl, G.ad pl ≠ some p) (hi : i < σ.length) :
    SR K CL (G.put (.slot i) (some p)) { s with rho := s.rho.set i (some (.own c)) } (σ.set i (some (.ref p))) H := by
  have hb : ∀ b, Pl.slot i ≠ .box b := fun b z => by cases z
  have ad' : ∀ {q : Pl} {x : Addr}, (G.put (.slot i) (some p)).ad q = some x → (q = .slot i ∧ x = p) ∨ (q ≠ .slot i ∧ G.ad q = some x) := fun {q x} e => by
    by_cases z : q = .slot i
    · subst z
      rw [Gh.put_same] at e
      cases e
      exact .inl ⟨rfl, rfl⟩
    · rw [Gh.put_ne z] at e
      exact .inr ⟨z, e⟩
  refine ⟨by simpa using S.len, fun j w' e => ?_, fun b c e => ?_, fun pl pl' x e1 e2 => ?_, fun pl x e => ?_, fun x f => ?_, fun b x e => ?_, fun b f x e => ?_, S.exq⟩
  · by_cases hj : j = i
    · subst hj
      rw [List.getElem?_set_self (by rw [S.len]; exact hi)] at e
      cases e
      exact ⟨.ref p, List.getElem?_set_self hi, p, rfl, Gh.put_same, h⟩
    · rw [List.getElem?_set_ne (Ne.symm hj)] at e
      obtain ⟨v', h1, h2⟩ := S.slots j w' e
      refine ⟨v', by rw [List.getElem?_set_ne (Ne.symm hj)]; exact h1, h2.put (fun z => hj (by cases z; rfl)) hb⟩
  · obtain ⟨q, h1, h2⟩ := S.boxes b c e
    refine ⟨q, by rw [Gh.put_ne (fun z => hb b z.symm)]; exact h1, ?_⟩
    cases c with
    | ctr c => exact h2
    | inst cls fs =>
      obtain ⟨C, dx, vfs, g1, g2, g3, g4⟩ := h2
      refine ⟨C, dx, vfs, g1, g2, g3, fun f w hw => ?_⟩
      obtain ⟨v, k1, k2, g9⟩ := g4 f w hw
      exact ⟨v, k1, k2.put (fun z => by cases z) hb, g9⟩
  · rcases ad' e1 with ⟨a1, a2⟩ | ⟨a1, a2⟩ <;> rcases ad' e2 with ⟨b1, b2⟩ | ⟨b1, b2⟩
    · rw [a1, b1]
    · subst a2; exact absurd b2 (hn _)
    · subst b2; exact absurd a2 (hn _)
    · exact S.inj pl pl' x a2 b2
  · rcases ad' e with ⟨a1, a2⟩ | ⟨a1, a2⟩
    · subst a2; exact h.there
    · exact S.live pl x a2
  · refine ⟨(S.fz x f).1, fun pl e => ?_⟩
    rcases ad' e with ⟨a1, a2⟩ | ⟨a1, a2⟩
    · subst a2; exact hf f
    · exact (S.fz x f).2 pl a2
  · rcases ad' e with ⟨a1, a2⟩ | ⟨a1, a2⟩
    · cases a1
    · exact S.bx b x a2
  · rcases ad' e with ⟨a1, a2⟩ | ⟨a1, a2⟩
    · cases a1
    · exact S.fd b f x a2
theorem Fut.setOwn {i : Nat} (h : H p = none ∨ ∃ pl, G.ad pl = some p) : Fut G H n (G.put (.slot i) (some p)) H n :=
  ⟨fun _ h => h, fun a o e _ => e, fun a o e => ⟨o, e⟩, fun _ h => .inl h, fun pl x e => by
    by_cases z : pl = .slot i
    · subst z
      rw [Gh.put_same] at e
      cases e
      exact h
    · rw [Gh.put_ne z] at e
      exact .inr ⟨pl, e⟩, fun b x _ e => by rw [Gh.put_ne (fun z => by cases z)]; exact e, Nat.le_refl _, rfl⟩
/-- an own slot's thing freezes -/
theorem SR.freeze (S : SR K CL G s σ H) {i : Nat} {c : Ob} (e : s.rho[i]? = some (some (.own c))) : ∃ p, σ[i]? = some (some (.ref p)) ∧
    SR K CL ((G.put (.slot i) none).addF p) { s with rho := s.rho.set i (some (.d c.data)) } σ H ∧ RD K ((G.put (.slot i) none).addF p).F H c.data (.ref p) ∧ ∀ {n : Nat}, Fut G H n ((G.put (.slot i) none).addF p) H n := by
  obtain ⟨v, hv, p, rfl, ha, ho⟩ := S.slots i _ e
  have hi : i < σ.length := (List.getElem?_eq_some_iff.mp hv).1
  refine ⟨p, hv, ?_⟩
  have hF : ∀ a, G.F a → ((G.put (.slot i) none).addF p).F a ∧ H a = H a := fun a f => ⟨.inl f, rfl⟩
  have rd : RD K ((G.put (.slot i) none).addF p).F H c.data (.ref p) := RO.rd (.inr rfl) (ho.mono hF rfl)
  refine ⟨?_, rd, fun {n} => ⟨fun _ h => .inl h, fun a o e _ => e, fun a o e => ⟨o, e⟩, fun a f => ?_, fun pl x h => .inr ⟨pl, (Gh.put_none (G := G) h).2⟩, fun b x _ e => by
      show (G.put (.slot i) none).ad (.box b) = some x
      rw [Gh.put_ne (fun z => by cases z)]; exact e, Nat.le_refl _, rfl⟩⟩
  · -- first let go, then frozen, then stored
    have hb : ∀ b, Pl.slot i ≠ .box b := fun b z => by cases z
    have hnp : ∀ pl, (G.put (.slot i) none).ad pl ≠ some p := fun pl z => by
      obtain ⟨z1, z2⟩ := Gh.put_none z
      exact z1 (S.inj _ _ _ z2 ha)
    refine ⟨by simpa using S.len, fun j w' e' => ?_, fun b c' e' => ?_, fun pl pl' x e1 e2 => ?_, fun pl x e1 => ?_, fun x f => ?_, fun b x e => S.bx b x (Gh.put_none (show (G.put (.slot i) none).ad (.box b) = some x from e)).2, fun b f x e => S.fd b f x (Gh.put_none (show (G.put (.slot i) none).ad (.fld b f) = some x from e)).2, S.exq⟩
    · by_cases hj : j = i
      · subst hj
        rw [List.getElem?_set_self (by rw [S.len]; exact hi)] at e'
        cases e'
        exact ⟨.ref p, hv, rd⟩
      · rw [List.getElem?_set_ne (Ne.symm hj)] at e'
        obtain ⟨v', h1, h2⟩ := S.slots j w' e'
        exact ⟨v', h1, (h2.put (fun z => hj (by cases z; rfl)) hb).addF⟩
    · obtain ⟨q, h1, h2⟩ := S.boxes b c' e'
      refine ⟨q, by show (G.put (.slot i) none).ad (.box b) = some q; rw [Gh.put_ne (fun z => hb b z.symm)]; exact h1, ?_⟩
      cases c' with
      | ctr c' => exact RO.mono hF rfl h2
      | inst cls fs =>
        obtain ⟨C, dx, vfs, g1, g2, g3, g4⟩ := h2
        refine ⟨C, dx, vfs, g1, g2, g3, fun f w hw => ?_⟩
        obtain ⟨v, k1, k2, g9⟩ := g4 f w hw
        exact ⟨v, k1, (k2.put (fun z => by cases z) hb).addF, g9⟩
    · exact S.inj pl pl' x (Gh.put_none (G := G) e1).2 (Gh.put_none (G := G) e2).2
    · exact S.live pl x (Gh.put_none (G := G) e1).2
    · rcases f with f | f
      · exact ⟨(S.fz x f).1, fun pl e1 => (S.fz x f).2 pl (Gh.put_none (G := G) e1).2⟩
      · subst f
        exact ⟨S.live _ _ ha, hnp⟩
  · rcases f with f | f
    · exact .inl f
    · rw [f]; exact .inr (.inr ⟨_, ha⟩)
end
end MP
/-! Part C: contents change; boxes. -/
namespace MP
open PySem PySem.Spec PyProof.Rows L2
section
variable {K : PySem.W.Frag} {CL : CA} {G G' : Gh} {H H' : Hp} {s : S} {σ : L2.St} {n n' : Nat} {p : Addr} {o : HO}
/-- a thing at an owned address is rewritten: all that leans on other addresses stands -/
theorem RP.wr (S : SR K CL G s σ H) {pl q : Pl} (ha : G.ad pl = some p) (hq : q ≠ pl) {w : W} {v : V} (h : RP K G H q w v) : RP K G (upd H p o) q w v := by
  have hF : ∀ a, G.F a → G.F a ∧ upd H p o a = H a := fun a f => ⟨f, upd_ne fun z => (S.fz a f).2 pl (by rw [z]; exact ha)⟩
  cases w with
  | exn c => exact h
  | d y => exact RD.mono hF h
  | ref b => exact h
  | own c =>
    obtain ⟨x, e1, e2, e3⟩ := h
    exact ⟨x, e1, e2, e3.mono hF (upd_ne fun z => hq (S.inj _ _ x e2 (by rw [z]; exact ha)))⟩
theorem Fut.wr {pl : Pl} (ha : G.ad pl = some p) : Fut G H n G (upd H p o) n :=
  ⟨fun _ h => h, fun a u e hn => by rw [upd_ne (fun z => hn pl (by rw [z]; exact ha))]; exact e, fun a u e => by
    by_cases z : a = p
    · exact ⟨o, by rw [z]; exact upd_same⟩
    · exact ⟨u, by rw [upd_ne z]; exact e⟩, fun _ h => .inl h, fun pl _ h => .inr ⟨pl, h⟩, fun _ _ _ h => h, Nat.le_refl _, rfl⟩
/-- the thing of a slot's own gets another content -/
theorem SR.writeSlot (S : SR K CL G s σ H) {i : Nat} {c c' : Ob} (e : s.rho[i]? = some (some (.own c))) (hv : σ[i]? = some (some (.ref p))) (h : RO K G.F (upd H p o) c' p) :
    SR K CL G { s with rho := s.rho.set i (some (.own c')) } σ (upd H p o) ∧ Fut G H n G (upd H p o) n := by
  obtain ⟨v, hv', q, e1, ha, ho⟩ := S.slots i _ e
  rw [hv] at hv'
  cases hv'
  cases e1
  have hi : i < σ.length := (List.getElem?_eq_some_iff.mp hv).1
  refine ⟨⟨by simpa using S.len, fun j w' e' => ?_, fun b c' e' => ?_, S.inj, fun pl x e1 => ?_, fun x f => ?_, S.bx, S.fd, S.exq⟩, Fut.wr ha⟩
  · by_cases hj : j = i
    · subst hj
      rw [List.getElem?_set_self (by rw [S.len]; exact hi)] at e'
      cases e'
      exact ⟨.ref p, hv, p, rfl, ha, h⟩
    · rw [List.getElem?_set_ne (Ne.symm hj)] at e'
      obtain ⟨v', h1, h2⟩ := S.slots j w' e'
      exact ⟨v', h1, h2.wr S ha fun z => hj (by cases z; rfl)⟩
  · obtain ⟨q, h1, h2⟩ := S.boxes b c' e'
    refine ⟨q, h1, ?_⟩
    have hF : ∀ a, G.F a → G.F a ∧ L2.upd H p o a = H a := fun a f => ⟨f, upd_ne fun z => by subst z; exact (S.fz _ f).2 _ ha⟩
    have hqp : q ≠ p := fun z => by
      have := S.inj _ _ q h1 (by rw [z]; exact ha)
      cases this
    cases c' with
    | ctr c' => exact RO.mono hF (upd_ne hqp) h2
    | inst cls fs =>
      obtain ⟨C, dx, vfs, g1, g2, g3, g4⟩ := h2
      refine ⟨C, dx, vfs, g1, by rw [upd_ne hqp]; exact g2, g3, fun f w hw => ?_⟩
      obtain ⟨v, k1, k2, g9⟩ := g4 f w hw
      exact ⟨v, k1, k2.wr S ha (fun z => by cases z), g9⟩
  · by_cases z : x = p
    · exact ⟨o, by rw [z]; exact upd_same⟩
    · rw [upd_ne z]; exact S.live pl x e1
  · rw [upd_ne fun z => by subst z; exact (S.fz _ f).2 _ ha]
    exact S.fz x f
/-- a box's content is rewritten -/
theorem SR.writeBox (S : SR K CL G s σ H) {b : Nat} {c c' : Ob} (e : s.mem[b]? = some (.ctr c)) (ha : G.ad (.box b) = some p) (h : RO K G.F (upd H p o) c' p) :
    SR K CL G { s with mem := s.mem.set b (.ctr c') } σ (upd H p o) ∧ Fut G H n G (upd H p o) n := by
  have hb : b < s.mem.length := S.boxlt e
  have hF : ∀ a, G.F a → G.F a ∧ L2.upd H p o a = H a := fun a f => ⟨f, upd_ne fun z => by subst z; exact (S.fz _ f).2 _ ha⟩
  refine ⟨⟨S.len, fun j w' e' => ?_, fun b' c'' e' => ?_, S.inj, fun pl x e1 => ?_, fun x f => ?_, fun b' x e => by simpa using S.bx b' x e, fun b' f x e => by simpa using S.fd b' f x e, S.exq⟩, Fut.wr ha⟩
  · obtain ⟨v', h1, h2⟩ := S.slots j w' e'
    exact ⟨v', h1, h2.wr S ha fun z => by cases z⟩
  · by_cases hj : b' = b
    · subst hj
      rw [List.getElem?_set_self hb] at e'
      cases e'
      exact ⟨p, ha, h⟩
    · rw [List.getElem?_set_ne (Ne.symm hj)] at e'
      obtain ⟨q, h1, h2⟩ := S.boxes b' c'' e'
      refine ⟨q, h1, ?_⟩
      have hqp : q ≠ p := fun z => by
        have := S.inj _ _ q h1 (by rw [z]; exact ha)
        cases this
        exact hj rfl
      cases c'' with
      | ctr c' => exact RO.mono hF (upd_ne hqp) h2
      | inst cls fs =>
        obtain ⟨C, dx, vfs, g1, g2, g3, g4⟩ := h2
        refine ⟨C, dx, vfs, g1, by rw [upd_ne hqp]; exact g2, g3, fun f w hw => ?_⟩
        obtain ⟨v, k1, k2, g9⟩ := g4 f w hw
        exact ⟨v, k1, k2.wr S ha (fun z => by cases z), g9⟩
  · by_cases z : x = p
    · exact ⟨o, by rw [z]; exact upd_same⟩
    · rw [upd_ne z]; exact S.live pl x e1
  · rw [(hF x f).2]
    exact S.fz x f
/-- what stands where nobody looks is let go -/
theorem SR.drop (S : SR K CL G s σ H) {pl : Pl} (h1 : ∀ i, pl = .slot i → ∀ c, s.rho[i]? ≠ some (some (.own c))) (h2 : ∀ b, pl ≠ .box b) (h3 : ∀ b f, pl ≠ .fld b f) : SR K CL (G.put pl none) s σ H := by
  refine ⟨S.len, fun j w' e' => ?_, fun b c e' => ?_, fun pl pl' x e1 e2 => S.inj pl pl' x (Gh.put_none e1).2 (Gh.put_none e2).2, fun pl x e => S.live pl x (Gh.put_none e).2, fun x f => ⟨(S.fz x f).1, fun pl e => (S.fz x f).2 pl (Gh.put_none e).2⟩, fun b x e => S.bx b x (Gh.put_none e).2, fun b f x e => S.fd b f x (Gh.put_none e).2, S.exq⟩
  · obtain ⟨v, k1, k2⟩ := S.slots j w' e'
    refine ⟨v, k1, ?_⟩
    by_cases hj : Pl.slot j = pl
    · subst hj
      cases w' with
      | exn c => exact k2
      | d y => exact k2
      | ref b =>
        obtain ⟨x, e1, e2⟩ := k2
        exact ⟨x, e1, by rw [Gh.put_ne (fun z => by cases z)]; exact e2⟩
      | own c => exact absurd e' (h1 j rfl c)
    · exact k2.put hj h2
  · obtain ⟨q, k1, k2⟩ := S.boxes b c e'
    refine ⟨q, by rw [Gh.put_ne (Ne.symm (h2 b))]; exact k1, ?_⟩
    cases c with
    | ctr c => exact k2
    | inst cls fs =>
      obtain ⟨C, dx, vfs, g1, g2, g3, g4⟩ := k2
      refine ⟨C, dx, vfs, g1, g2, g3, fun f w hw => ?_⟩
      obtain ⟨v, l1, l2, g9⟩ := g4 f w hw
      exact ⟨v, l1, l2.put (Ne.symm (h3 b f)) h2, g9⟩
/-- a new box with a thing in it that no place has -/
theorem SR.newBox (S : SR K CL G s σ H) {c : Ob} (h : RO K G.F H c p) (hf : ¬ G.F p) (hn : ∀ pl, G.ad pl ≠ some p) :
    SR K CL (G.put (.box s.mem.length) (some p)) { s with mem := s.mem ++ [.ctr c] } σ H := by
  have ad' : ∀ {q : Pl} {x : Addr}, (G.put (.box s.mem.length) (some p)).ad q = some x → (q = .box s.mem.length ∧ x = p) ∨ (q ≠ .box s.mem.length ∧ G.ad q = some x) := fun {q x} e => by
    by_cases z : q = .box s.mem.length
    · subst z
      rw [Gh.put_same] at e
      cases e
      exact .inl ⟨rfl, rfl⟩
    · rw [Gh.put_ne z] at e
      exact .inr ⟨z, e⟩
  have rp : ∀ {q : Pl} {w : W} {v : V}, q ≠ .box s.mem.length → RP K G H q w v → RP K (G.put (.box s.mem.length) (some p)) H q w v := fun {q w v} hq h => by
    cases w with
    | exn c => exact h
    | d y => exact h
    | ref b =>
      obtain ⟨x, e1, e2⟩ := h
      exact ⟨x, e1, by rw [Gh.put_ne (fun z => by cases z; exact absurd (S.bx _ _ e2) (Nat.lt_irrefl _))]; exact e2⟩
    | own c =>
      obtain ⟨x, e1, e2, e3⟩ := h
      exact ⟨x, e1, by rw [Gh.put_ne hq]; exact e2, e3⟩
  refine ⟨S.len, fun j w' e => ?_, fun b c e => ?_, fun pl pl' x e1 e2 => ?_, fun pl x e => ?_, fun x f => ?_, fun b x e => ?_, fun b f x e => ?_, S.exq⟩
  · obtain ⟨v', h1, h2⟩ := S.slots j w' e
    exact ⟨v', h1, rp (fun z => by cases z) h2⟩
  · by_cases hb : b < s.mem.length
    · have e : (s.mem ++ [.ctr _])[b]? = some c := e
      rw [List.getElem?_append_left hb] at e
      obtain ⟨q, h1, h2⟩ := S.boxes b c e
      refine ⟨q, by rw [Gh.put_ne (fun z => by cases z; exact absurd hb (Nat.lt_irrefl _))]; exact h1, ?_⟩
      cases c with
      | ctr c => exact h2
      | inst cls fs =>
        obtain ⟨C, dx, vfs, g1, g2, g3, g4⟩ := h2
        refine ⟨C, dx, vfs, g1, g2, g3, fun f w hw => ?_⟩
        obtain ⟨v, k1, k2, g9⟩ := g4 f w hw
        exact ⟨v, k1, rp (fun z => by cases z) k2, g9⟩
    · have e : (s.mem ++ [.ctr _])[b]? = some c := e
      rw [List.getElem?_append_right (Nat.le_of_not_lt hb)] at e
      have hz : b - s.mem.length = 0 := by
        by_cases z : b - s.mem.length = 0
        · exact z
        · rw [List.getElem?_eq_none (by simp; omega)] at e
          cases e
      rw [hz] at e
      cases e
      have hb' : b = s.mem.length := by omega
      subst hb'
      exact ⟨p, Gh.put_same, h⟩
  · rcases ad' e1 with ⟨a1, a2⟩ | ⟨a1, a2⟩ <;> rcases ad' e2 with ⟨b1, b2⟩ | ⟨b1, b2⟩
    · rw [a1, b1]
    · subst a2; exact absurd b2 (hn _)
    · subst b2; exact absurd a2 (hn _)
    · exact S.inj pl pl' x a2 b2
  · rcases ad' e with ⟨a1, a2⟩ | ⟨a1, a2⟩
    · subst a2; exact h.there
    · exact S.live pl x a2
  · refine ⟨(S.fz x f).1, fun pl e => ?_⟩
    rcases ad' e with ⟨a1, a2⟩ | ⟨a1, a2⟩
    · subst a2; exact hf f
    · exact (S.fz x f).2 pl a2
  · rcases ad' e with ⟨a1, a2⟩ | ⟨a1, a2⟩
    · cases a1; simp
    · have := S.bx b x a2
      simp; omega
  · rcases ad' e with ⟨a1, a2⟩ | ⟨a1, a2⟩
    · cases a1
    · have := S.fd b f x a2
      simp; omega
theorem Fut.newBox (h : H p = none ∨ ∃ pl, G.ad pl = some p) (hn : n = s.mem.length) : Fut G H n (G.put (.box n) (some p)) H (n + 1) :=
  ⟨fun _ h => h, fun a o e _ => e, fun a o e => ⟨o, e⟩, fun _ h => .inl h, fun pl x e => by
    by_cases z : pl = .box n
    · subst z
      rw [Gh.put_same] at e
      cases e
      exact h
    · rw [Gh.put_ne z] at e
      exact .inr ⟨pl, e⟩, fun b x hb e => by rw [Gh.put_ne (fun z => by cases z; exact absurd hb (Nat.lt_irrefl _))]; exact e, Nat.le_succ _, rfl⟩
theorem Fut.drop {pl : Pl} (h : ∀ b, pl ≠ .box b) : Fut G H n (G.put pl none) H n :=
  ⟨fun _ h => h, fun a o e _ => e, fun a o e => ⟨o, e⟩, fun _ h => .inl h, fun pl x e => .inr ⟨pl, (Gh.put_none e).2⟩, fun b x _ e => by rw [Gh.put_ne (Ne.symm (h b))]; exact e, Nat.le_refl _, rfl⟩
/-- a slot's own thing moves into a new box -/
theorem SR.box (S : SR K CL G s σ H) {i : Nat} {c : Ob} (e : s.rho[i]? = some (some (.own c))) : ∃ p G', σ[i]? = some (some (.ref p)) ∧ G'.ad (.box s.mem.length) = some p ∧
    SR K CL G' { rho := s.rho.set i (some (.ref s.mem.length)), mem := s.mem ++ [.ctr c] } σ H ∧ Fut G H s.mem.length G' H (s.mem.length + 1) := by
  obtain ⟨v, hv, p, rfl, ha, ho⟩ := S.slots i _ e
  have hi : i < σ.length := (List.getElem?_eq_some_iff.mp hv).1
  have hi' : i < s.rho.length := (List.getElem?_eq_some_iff.mp e).1
  -- the slot forgets, its place is let go, the box is new, the slot holds the box
  have S1 : SR K CL G { s with rho := s.rho.set i none } σ H := by
    refine ⟨by simpa using S.len, fun j w' e' => ?_, S.boxes, S.inj, S.live, S.fz, S.bx, S.fd, S.exq⟩
    by_cases hj : j = i
    · subst hj
      rw [List.getElem?_set_self hi'] at e'
      cases e'
    · rw [List.getElem?_set_ne (Ne.symm hj)] at e'
      exact S.slots j w' e'
  have S2 := S1.drop (pl := .slot i) (fun j ej c' e' => by
    cases ej
    rw [List.getElem?_set_self hi'] at e'
    cases e') (fun b z => by cases z) (fun b f z => by cases z)
  have hnp : ∀ pl, (G.put (.slot i) none).ad pl ≠ some p := fun pl z => by
    obtain ⟨z1, z2⟩ := Gh.put_none z
    exact z1 (S.inj _ _ _ z2 ha)
  have S3 := S2.newBox (c := c) ho (fun f => (S.fz p f).2 _ ha) hnp
  refine ⟨p, _, hv, Gh.put_same, ⟨by simpa using S.len, fun j w' e' => ?_, S3.boxes, S3.inj, S3.live, S3.fz, S3.bx, S3.fd, S3.exq⟩, ?_⟩
  · by_cases hj : j = i
    · subst hj
      have e' : (s.rho.set j (some (.ref s.mem.length)))[j]? = some (some w') := e'
      rw [List.getElem?_set_self hi'] at e'
      cases e'
      exact ⟨.ref p, hv, p, rfl, Gh.put_same⟩
    · have e' : (s.rho.set i (some (.ref s.mem.length)))[j]? = some (some w') := e'
      rw [List.getElem?_set_ne (Ne.symm hj)] at e'
      exact S3.slots j w' (by show (s.rho.set i none)[j]? = _; rw [List.getElem?_set_ne (Ne.symm hj)]; exact e')
  · refine ⟨fun _ h => h, fun a o e _ => e, fun a o e => ⟨o, e⟩, fun _ h => .inl h, fun pl x e' => ?_, fun b x hb e' => ?_, Nat.le_succ _, rfl⟩
    · by_cases y : pl = .box s.mem.length
      · subst y
        rw [Gh.put_same] at e'
        cases e'
        exact .inr ⟨_, ha⟩
      · rw [Gh.put_ne y] at e'
        exact .inr ⟨pl, (Gh.put_none e').2⟩
    · rw [Gh.put_ne (fun z => by cases z; exact absurd hb (Nat.lt_irrefl _)), Gh.put_ne (fun z => by cases z)]
      exact e'
end
end MP
/-! Part D: readings; operands; pure operations; calls. -/
namespace MP
open PySem PySem.Spec PyProof.Rows L2

/-! ### what grows -/
structure Grow (F F' : Addr → Prop) (H H' : Hp) : Prop where
  x : ∀ a u, H a = some u → H' a = some u
  f : ∀ a, F a → F' a
  n : ∀ a, F' a → F a ∨ (H a = none ∧ ∃ o, H' a = some o)
theorem Grow.refl {F : Addr → Prop} {H : Hp} : Grow F F H H := ⟨fun _ _ h => h, fun _ h => h, fun _ h => .inl h⟩
theorem Grow.one {F : Addr → Prop} {H : Hp} {p : Addr} {o : HO} (h : H p = none) : Grow F (fun a => F a ∨ a = p) H (upd H p o) :=
  ⟨upd_ext h, fun _ h => .inl h, fun a f => by
    rcases f with f | f
    · exact .inl f
    · subst f; exact .inr ⟨h, o, upd_same⟩⟩
theorem Grow.junk {F : Addr → Prop} {H : Hp} {p : Addr} {o : HO} (h : H p = none) : Grow F F H (upd H p o) := ⟨upd_ext h, fun _ h => h, fun a f => .inl f⟩
theorem Grow.trans {F F1 F2 : Addr → Prop} {H H1 H2 : Hp} (a : Grow F F1 H H1) (b : Grow F1 F2 H1 H2) : Grow F F2 H H2 :=
  ⟨fun x u e => b.x x u (a.x x u e), fun x f => b.f x (a.f x f), fun x f => by
    rcases b.n x f with f | ⟨f, o, e⟩
    · rcases a.n x f with f | ⟨f, o, e⟩
      · exact .inl f
      · exact .inr ⟨f, o, b.x x o e⟩
    · refine .inr ⟨?_, o, e⟩
      rcases none_or (H := H) x with z | ⟨u, z⟩
      · exact z
      · rw [a.x x u z] at f; cases f⟩
section
variable {K : PySem.W.Frag} {CL : CA} {G G' : Gh} {H H' : Hp} {s : S} {σ : L2.St} {n n' : Nat} {p : Addr} {o : HO} {F F' : Addr → Prop}
theorem Grow.keep (g : Grow F F' H H') (hl : ∀ a, F a → ∃ o, H a = some o) : ∀ a, F a → F' a ∧ H' a = H a := fun a f => by
  obtain ⟨u, e⟩ := hl a f
  exact ⟨g.f a f, by rw [g.x a u e, e]⟩
theorem SR.liveF (S : SR K CL G s σ H) : ∀ a, G.F a → ∃ o, H a = some o := fun a f => (S.fz a f).1
theorem SR.grow (S : SR K CL G s σ H) (g : Grow G.F F' H H') : SR K CL ⟨F', G.ad, G.ex⟩ s σ H' ∧ ∀ {n : Nat}, Fut G H n ⟨F', G.ad, G.ex⟩ H' n := by
  have S1 := S.ext g.x
  have hF : ∀ a, G.F a → F' a ∧ H' a = H' a := fun a f => ⟨g.f a f, rfl⟩
  have rp : ∀ {pl : Pl} {w : W} {v : V}, RP K G H' pl w v → RP K ⟨F', G.ad, G.ex⟩ H' pl w v := fun {pl w v} h => by
    cases w with
    | exn c => exact h
    | d y => exact RD.mono hF h
    | ref b => exact h
    | own c =>
      obtain ⟨q, e1, e2, e3⟩ := h
      exact ⟨q, e1, e2, e3.mono hF rfl⟩
  refine ⟨⟨S1.len, fun i w e => ?_, fun b c e => ?_, S1.inj, S1.live, fun q f => ?_, S1.bx, S1.fd, S1.exq⟩, fun {n} => ⟨g.f, fun a u e _ => g.x a u e, fun a u e => ⟨u, g.x a u e⟩, fun a f => ?_, fun pl a e => .inr ⟨pl, e⟩, fun _ _ _ h => h, Nat.le_refl _, rfl⟩⟩
  · obtain ⟨v, h1, h2⟩ := S1.slots i w e
    exact ⟨v, h1, rp h2⟩
  · obtain ⟨q, h1, h2⟩ := S1.boxes b c e
    refine ⟨q, h1, ?_⟩
    cases c with
    | ctr c => exact RO.mono hF rfl h2
    | inst cls fs =>
      obtain ⟨C, dx, vfs, g1, g2, g3, g4⟩ := h2
      refine ⟨C, dx, vfs, g1, g2, g3, fun f w hw => ?_⟩
      obtain ⟨v, k1, k2, g9⟩ := g4 f w hw
      exact ⟨v, k1, rp k2, g9⟩
  · rcases g.n q f with f | ⟨f, o, e⟩
    · exact S1.fz q f
    · exact ⟨⟨o, e⟩, S.notIn f⟩
  · rcases g.n a f with f | ⟨f, o, e⟩
    · exact .inl f
    · exact .inr (.inl f)
end

/-! ### a value as it stands now -/
inductive View (K : PySem.W.Frag) (F : Addr → Prop) (H : Hp) : PyData → V → Prop
  | none : View K F H .none .non
  | bool (b : Bool) : View K F H (.bool b) (.bl b)
  | int (i : Int) : View K F H (.int i) (.int i)
  | str (x : Str) : View K F H (.str x) (.str x)
  | list {a : Addr} {vs : List V} {ds : List PyData} : SqL K H a vs → RDs K F H ds vs → View K F H (.list ds) (.ref a)
  | tuple {a : Addr} {vs : List V} {ds : List PyData} : TAt K F H a vs → RDs K F H ds vs → View K F H (.tuple ds) (.ref a)
  | dict {a : Addr} {kvs : List (Key × V)} {ds : List (PyData × PyData)} : H a = some (.dK kvs) → RDkv K F H ds kvs → View K F H (.dict ds) (.ref a)
theorem RD.view {K : PySem.W.Frag} {F : Addr → Prop} {H : Hp} : ∀ {d : PyData} {v : V}, RD K F H d v → View K F H d v
  | _, _, .none => .none
  | _, _, .bool b => .bool b
  | _, _, .int i => .int i
  | _, _, .str x => .str x
  | _, _, .list h1 h2 => .list h1.sq h2
  | _, _, .tuple h1 h2 => .tuple h1 h2
  | _, _, .dict h1 h2 => .dict h1.2 h2
theorem RO.view {K : PySem.W.Frag} {F : Addr → Prop} {H : Hp} {c : Ob} {p : Addr} (h : RO K F H c p) : View K F H c.data (.ref p) := by
  cases c with
  | lst xs => obtain ⟨vs, h1, h2⟩ := h; exact .list (.inl (.inl h1)) h2
  | dic xs => obtain ⟨vs, h1, h2⟩ := h; exact .dict h1 h2.kv
theorem View.dp {K : PySem.W.Frag} {F : Addr → Prop} {H : Hp} : ∀ {d : PyData} {v : V}, View K F H d v → d.canLay0 = true → Dp K H v d
  | _, _, .none, _ => .non
  | _, _, .bool b, _ => .bl b
  | _, _, .int i, _ => .int i
  | _, _, .str x, _ => .str x
  | _, _, .list h1 h2, c => .lst h1 (RDs.dp h2 (by simpa [PyData.canLay0] using c))
  | _, _, .tuple h1 h2, c => .tup h1.sq (RDs.dp h2 (by simpa [PyData.canLay0] using c))
  | _, _, .dict h1 h2, c => by simp [PyData.canLay0] at c

/-! ### readings -/
abbrev Rel (α β : Type) := Gh → L2.St → Hp → α → β → Prop
def RX (CL : CA) (x : Ex) (cls : Value) (d : Option Addr) : Prop := x.flds = [] ∧ d = none ∧ ∃ C, cls = .ref C ∧ CL.cl x.cls C
def Post (K : PySem.W.Frag) (CL : CA) {α β : Type} (R : Rel α β) (Wx : WX) (G : Gh) (n : Nat) (σ : L2.St) (H : Hp) (r : Res α) (Q : β → Hp → Prop) : Prop :=
  match r with
  | .ok a s' => ∀ G' H' b, Fut G H n G' H' s'.mem.length → SR K CL G' s' σ H' → R G' σ H' a b → Q b H'
  | .raise x s' => ∀ G' H' cls d, Fut G H n G' H' s'.mem.length → SR K CL G' s' σ H' → RX CL x cls d → Wx cls d σ H'
  | .stuck => False
def tOf (K : PySem.W.Frag) (CL : CA) {α β : Type} (R : Rel α β) (Wx : WX) (m : EM α) : L2.St → Hp → (β → Hp → Prop) → Prop :=
  fun σ H Q => ∃ G s, SR K CL G s σ H ∧ Post K CL R Wx G s.mem.length σ H (m s) Q
section
variable {K : PySem.W.Frag} {CL : CA} {G G1 : Gh} {H H1 : Hp} {s s1 : S} {σ : L2.St} {n n1 : Nat} {α β γ δ : Type} {R : Rel α β} {R' : Rel γ δ} {Wx : WX}
theorem Post.later {r : Res α} {Q : β → Hp → Prop} (f : Fut G H n G1 H1 n1) (h : Post K CL R Wx G n σ H r Q) : Post K CL R Wx G1 n1 σ H1 r Q := by
  cases r with
  | ok a s' => exact fun G' H' b f' S' r' => h G' H' b (f.trans f') S' r'
  | raise x s' => exact fun G' H' cls d f' S' r' => h G' H' cls d (f.trans f') S' r'
  | stuck => exact h
/-- a part, then the rest -/
theorem Post.bind {m : EM α} {f : α → EM γ} {Q : δ → Hp → Prop} (h : Post K CL R' Wx G n σ H (eb m f s) Q) :
    Post K CL R Wx G n σ H (m s) (fun b H1 => ∃ G1 s1 a, Fut G H n G1 H1 s1.mem.length ∧ SR K CL G1 s1 σ H1 ∧ R G1 σ H1 a b ∧ Post K CL R' Wx G1 s1.mem.length σ H1 (f a s1) Q) := by
  unfold eb rb at h
  cases e : m s with
  | ok a s' =>
    rw [e] at h
    exact fun G' H' b f' S' r' => ⟨G', s', a, f', S', r', Post.later f' h⟩
  | raise x s' =>
    rw [e] at h
    exact h
  | stuck =>
    rw [e] at h
    exact h
theorem tOf.bind {m : EM α} {f : α → EM γ} {Q : δ → Hp → Prop} (h : tOf K CL R' Wx (eb m f) σ H Q) :
    tOf K CL R Wx m σ H (fun b H1 => ∃ G1 s1 a, SR K CL G1 s1 σ H1 ∧ R G1 σ H1 a b ∧ Post K CL R' Wx G1 s1.mem.length σ H1 (f a s1) Q) := by
  obtain ⟨G, s, S, h⟩ := h
  refine ⟨G, s, S, ?_⟩
  have h2 := Post.bind (R := R) h
  cases e : m s with
  | ok a s' =>
    rw [e] at h2
    intro G' H' b f' S' r'
    obtain ⟨G1, s1, a1, k1, k2, k3, k4⟩ := h2 G' H' b f' S' r'
    exact ⟨G1, s1, a1, k2, k3, k4⟩
  | raise x s' =>
    rw [e] at h2
    exact h2
  | stuck =>
    rw [e] at h2
    exact h2
/-- at a state that is known -/
theorem Post.here {a : α} {b : β} {Q : β → Hp → Prop} (S : SR K CL G s σ H) (r : R G σ H a b) (h : Post K CL R Wx G s.mem.length σ H (.ok a s) Q) : Q b H := h G H b Fut.refl S r
end

/-! ### operands -/
inductive Opd where
  | var (i : Nat)
  | ex (m : EM W)
inductive Tok where
  | slot (i : Nat)
  | val (x : PyData)
def evD (m : EM W) : EM PyData := eb m fun w => match w with
  | .d x => er x
  | _ => es
def opd : Opd → EM Tok
  | .var i => fun s => match s.rho[i]? with
    | some (some _) => .ok (.slot i) s
    | _ => .stuck
  | .ex m => eb (evD m) fun x => er (.val x)
def resolve (s : S) : Tok → Option PyData
  | .val x => some x
  | .slot i => match s.rho[i]? with
    | some (some (.d x)) => some x
    | some (some (.own c)) => some c.data
    | some (some (.ref b)) => match s.mem[b]? with
      | some (.ctr c) => some c.data
      | _ => none
    | _ => none
def rWs (K : PySem.W.Frag) : Rel W V := fun G _ H w v => RW K G H w v
def rDs (K : PySem.W.Frag) : Rel PyData V := fun G _ H w v => RD K G.F H w v
def rTok (K : PySem.W.Frag) : Rel Tok V := fun G σ H t v => match t with
  | .slot i => σ[i]? = some (some v)
  | .val x => RD K G.F H x v
section
variable {K : PySem.W.Frag} {CL : CA} {G G1 : Gh} {H H1 : Hp} {s s1 : S} {σ : L2.St} {n n1 : Nat} {Wx : WX}
theorem rTok_later (S : SR K CL G s σ H) (f : Fut G H n G1 H1 n1) {t : Tok} {v : V} (h : rTok K G σ H t v) : rTok K G1 σ H1 t v := by
  cases t with
  | slot i => exact h
  | val x => exact f.rd S h
theorem resolve_view (S : SR K CL G s σ H) {t : Tok} {v : V} {x : PyData} (h : rTok K G σ H t v) (e : resolve s t = some x) : View K G.F H x v := by
  cases t with
  | val y =>
    cases e
    exact RD.view h
  | slot i =>
    unfold resolve at e
    have h : σ[i]? = some (some v) := h
    cases q : s.rho[i]? with
    | none => simp only [q] at e; cases e
    | some o =>
      cases o with
      | none => simp only [q] at e; cases e
      | some w =>
        obtain ⟨v', hv, hr⟩ := S.slots i w q
        rw [h] at hv
        cases hv
        cases w with
        | exn c => simp only [q] at e; cases e
        | d y =>
          simp only [q] at e
          cases e
          exact RD.view hr
        | own c =>
          simp only [q] at e
          cases e
          obtain ⟨p, rfl, _, ho⟩ := hr
          exact ho.view
        | ref b =>
          simp only [q] at e
          obtain ⟨p, rfl, ha⟩ := hr
          cases q2 : s.mem[b]? with
          | none => simp only [q2] at e; cases e
          | some bx =>
            cases bx with
            | inst c f => simp only [q2] at e; cases e
            | ctr c =>
              simp only [q2] at e
              cases e
              obtain ⟨p', ha', hb⟩ := S.boxes b _ q2
              rw [ha] at ha'
              cases ha'
              exact RO.view hb
end
end MP
/-! Part E: combinators of expressions and their soundness. -/
namespace MP
open PySem PySem.Spec PyProof.Rows L2
section
variable {K : PySem.W.Frag} {CL : CA} {G G1 : Gh} {H H1 : Hp} {s s1 : S} {σ : L2.St} {n n1 : Nat} {α β γ δ : Type} {R : Rel α β} {Wx : WX} {X : Cx}
theorem Post.mono {r : Res α} {Q Q' : β → Hp → Prop} (h : Post K CL R Wx G n σ H r Q) (q : ∀ b H, Q b H → Q' b H) : Post K CL R Wx G n σ H r Q' := by
  cases r with
  | ok a s' => exact fun G' H' b f' S' r' => q _ _ (h G' H' b f' S' r')
  | raise x s' => exact h
  | stuck => exact h
theorem tOf.mono {m : EM α} {Q Q' : β → Hp → Prop} (h : tOf K CL R Wx m σ H Q) (q : ∀ b H, Q b H → Q' b H) : tOf K CL R Wx m σ H Q' := by
  obtain ⟨G, s, S, h⟩ := h
  exact ⟨G, s, S, h.mono q⟩
theorem pe_imp {e : Expr} {t t' : TE} (h : PE X e t) (i : ∀ σ H Q, t' σ H Q → t σ H Q) : PE X e t' := ⟨fun pins s σ H Q I q => h.run pins s σ H Q I (i σ H Q q)⟩
theorem pt_imp {e : Expr} {t t' : TT} (h : PT X e t) (i : ∀ σ H Q, t' σ H Q → t σ H Q) : PT X e t' := ⟨fun pins s σ H Q I q => h.run pins s σ H Q I (i σ H Q q)⟩
theorem pa_imp {e : List Expr} {t t' : TA} (h : PA X e t) (i : ∀ σ H Q, t' σ H Q → t σ H Q) : PA X e t' := ⟨fun pos pins s σ H Q I q => h.run pos pins s σ H Q I (i σ H Q q)⟩
theorem ps_imp {e : Stmt} {t t' : TS} (h : PS X e t) (i : ∀ D σ H, t' D σ H → t D σ H) : PS X e t' := ⟨fun pins s σ H D I q => h.run pins s σ H D I (i D σ H q)⟩
theorem pss_imp {e : List Stmt} {t t' : TS} (h : PSs X e t) (i : ∀ D σ H, t' D σ H → t D σ H) : PSs X e t' := ⟨fun pins s σ H D I q => h.run pins s σ H D I (i D σ H q)⟩
/-- an expression's judgement over the evaluator -/
abbrev JE (CL : CA) (X : Cx) (Wx : WX) (e : Expr) (m : EM W) : Prop := PE X e (tOf X.K CL (rWs X.K) Wx m)
abbrev JO (CL : CA) (X : Cx) (Wx : WX) (e : Expr) (o : Opd) : Prop := PE X e (tOf X.K CL (rTok X.K) Wx (opd o))
def rBs : Rel Bool Bool := fun _ _ _ a b => a = b
abbrev JT (CL : CA) (X : Cx) (Wx : WX) (e : Expr) (m : EM Bool) : Prop := PT X e (tOf X.K CL rBs Wx m)

/-! constants, names -/
theorem je_const {e : Expr} {d : PyData} {v : V} (h : PE X e (tC v)) (r : ∀ F H, RD X.K F H d v) : JE CL X Wx e (er (.d d)) := pe_imp h fun σ H Q q => by
  obtain ⟨G, s, S, q⟩ := q
  exact Post.here (R := rWs X.K) (a := W.d d) S (r _ _) q
def cVar (i : Nat) : EM W := fun s => match s.rho[i]? with
  | some (some (.own c)) => .ok (.d c.data) { s with rho := s.rho.set i (some (.d c.data)) }
  | some (some (.d x)) => .ok (.d x) s
  | some (some (.ref b)) => .ok (.ref b) s
  | _ => .stuck
theorem je_var {i : Nat} {x : Str} {pos : Pos} (h : PE X (.Name x pos) (tVar i)) : JE CL X Wx (.Name x pos) (cVar i) := pe_imp h fun σ H Q q => by
  obtain ⟨G, s, S, q⟩ := q
  unfold cVar at q
  cases e : s.rho[i]? with
  | none => rw [e] at q; exact q.elim
  | some o =>
    cases o with
    | none => rw [e] at q; exact q.elim
    | some w =>
      rw [e] at q
      obtain ⟨v, hv, hr⟩ := S.slots i w e
      refine ⟨v, hv, ?_⟩
      cases w with
      | exn c => exact q.elim
      | d y => exact Post.here (R := rWs X.K) (a := W.d y) S hr q
      | ref b => exact Post.here (R := rWs X.K) (a := W.ref b) S hr q
      | own c =>
        obtain ⟨p, hv', S', rd, f⟩ := S.freeze e
        rw [hv] at hv'
        cases hv'
        exact q _ _ _ f S' rd
theorem jo_var {i : Nat} {x : Str} {pos : Pos} (h : PE X (.Name x pos) (tVar i)) : JO CL X Wx (.Name x pos) (.var i) := pe_imp h fun σ H Q q => by
  obtain ⟨G, s, S, q⟩ := q
  unfold opd at q
  cases e : s.rho[i]? with
  | none => simp only [e] at q; exact q.elim
  | some o =>
    cases o with
    | none => simp only [e] at q; exact q.elim
    | some w =>
      simp only [e] at q
      obtain ⟨v, hv, hr⟩ := S.slots i w e
      exact ⟨v, hv, Post.here (R := rTok X.K) (a := Tok.slot i) S hv q⟩
theorem jd_of {e : Expr} {m : EM W} (h : JE CL X Wx e m) : PE X e (tOf X.K CL (rDs X.K) Wx (evD m)) := pe_imp h fun σ H Q q => by
  refine (tOf.bind (R := rWs X.K) q).mono fun v H1 ⟨G1, s1, w, S1, r, q⟩ => ?_
  cases w with
  | exn c => exact q.elim
  | d y => exact Post.here (R := rDs X.K) S1 r q
  | ref b => exact q.elim
  | own c => exact q.elim
theorem jo_ex {e : Expr} {m : EM W} (h : JE CL X Wx e m) : JO CL X Wx e (.ex m) := pe_imp (jd_of h) fun σ H Q q => by
  refine (tOf.bind (R := rDs X.K) q).mono fun v H1 ⟨G1, s1, w, S1, r, q⟩ => ?_
  exact Post.here (R := rTok X.K) (a := Tok.val w) S1 r q

/-! two operands -/
def cP2 (f : PyData → PyData → Option PyData) (a b : Opd) : EM W := eb (opd a) fun ta => eb (opd b) fun tb => fun s =>
  match resolve s ta with
  | some x => match resolve s tb with
    | some y => match f x y with
      | some z => .ok (.d z) s
      | none => .stuck
    | none => .stuck
  | none => .stuck
def Op2 (K : PySem.W.Frag) (r : R2) (f : PyData → PyData → Option PyData) : Prop :=
  ∀ (F : Addr → Prop) (H : Hp) (dx dy : PyData) (vx vy : V) (z : PyData) (Q : VK), (∀ a, F a → ∃ o, H a = some o) → View K F H dx vx → View K F H dy vy → f dx dy = some z →
    (∀ F' H' v, Grow F F' H H' → RD K F' H' z v → Q v H') → r vx vy H Q
theorem Op2.or {r r' : R2} {f f' : PyData → PyData → Option PyData} (h : Op2 K r f) (h' : Op2 K r' f') : Op2 K (fun x y H Q => r x y H Q ∨ r' x y H Q) (fun x y => (f x y).or (f' x y)) := by
  intro F H dx dy vx vy z Q hl v1 v2 e q
  have e : (f dx dy).or (f' dx dy) = some z := e
  cases e1 : f dx dy with
  | some z' =>
    rw [e1] at e
    cases e
    exact .inl (h F H dx dy vx vy z Q hl v1 v2 e1 q)
  | none =>
    rw [e1] at e
    exact .inr (h' F H dx dy vx vy z Q hl v1 v2 e q)
theorem fin_grow {Q : VK} {z : PyData} (S : SR K CL G s σ H) (q : Post K CL (rWs K) Wx G s.mem.length σ H (.ok (.d z) s) Q) : ∀ F' H' v, Grow G.F F' H H' → RD K F' H' z v → Q v H' := fun F' H' v g r => by
  obtain ⟨S', f⟩ := S.grow g
  exact q _ _ _ f S' r
theorem cP2_ok {r : R2} {f : PyData → PyData → Option PyData} (ho : Op2 K r f) {a b : Opd} {Q : VK} (q : tOf K CL (rWs K) Wx (cP2 f a b) σ H Q) :
    tOf K CL (rTok K) Wx (opd a) σ H (fun x H1 => tOf K CL (rTok K) Wx (opd b) σ H1 fun y H2 => r x y H2 Q) := by
  refine (tOf.bind (R := rTok K) q).mono fun v H1 ⟨G1, s1, ta, S1, r1, q⟩ => ?_
  refine ⟨G1, s1, S1, ?_⟩
  refine (Post.bind (R := rTok K) q).mono fun u H2 ⟨G2, s2, tb, f2, S2, r2, q⟩ => ?_
  have r1 := rTok_later S1 f2 r1
  cases e1 : resolve s2 ta with
  | none => simp only [e1] at q; exact q.elim
  | some x =>
    cases e2 : resolve s2 tb with
    | none => simp only [e1, e2] at q; exact q.elim
    | some y =>
      cases e3 : f x y with
      | none => simp only [e1, e2, e3] at q; exact q.elim
      | some z =>
        simp only [e1, e2, e3] at q
        exact ho G2.F H2 x y v u z Q S2.liveF (resolve_view S2 r1 e1) (resolve_view S2 r2 e2) e3 (fin_grow S2 q)
theorem je_bin {r : R2} {f : PyData → PyData → Option PyData} {op : Operator} {a b : Expr} {oa ob : Opd} {pos : Pos} (ho : Op2 X.K r f) (hr : OpR X (binaryOp op) r) (ha : JO CL X Wx a oa) (hb : JO CL X Wx b ob) : JE CL X Wx (.BinOp a op b pos) (cP2 f oa ob) :=
  pe_imp (pe_op hr ha hb) fun _ _ _ q => cP2_ok ho q
theorem je_cmp {r : R2} {f : PyData → PyData → Option PyData} {op : CmpOp} {a b : Expr} {oa ob : Opd} {pos : Pos} (ho : Op2 X.K r f) (hr : OpR X (compareOp op) r) (hm : behindInMarks op b = false) (ha : JO CL X Wx a oa) (hb : JO CL X Wx b ob) : JE CL X Wx (.Compare a [op] [b] pos) (cP2 f oa ob) :=
  pe_imp (pe_cmpR hr ha hb hm) fun _ _ _ q => cP2_ok ho q
def toB : W → EM Bool
  | .d (.bool b) => er b
  | _ => es
theorem tTest_ok {m : EM W} {Q : Bool → Hp → Prop} (q : tOf K CL rBs Wx (eb m toB) σ H Q) : tOf K CL (rWs K) Wx m σ H (fun x H' => ∃ k, x = .bl k ∧ Q k H') := by
  refine (tOf.bind (R := rWs K) q).mono fun v H1 ⟨G1, s1, w, S1, r, q⟩ => ?_
  cases w with
  | exn c => exact q.elim
  | ref b => exact q.elim
  | own c => exact q.elim
  | d y =>
    have r : RD K G1.F H1 y v := r
    cases y with
    | bool b =>
      cases r
      exact ⟨b, rfl, Post.here (R := rBs) S1 rfl q⟩
    | none => exact q.elim
    | int i => exact q.elim
    | str i => exact q.elim
    | list i => exact q.elim
    | tuple i => exact q.elim
    | dict i => exact q.elim
theorem jt_cmp {r : R2} {f : PyData → PyData → Option PyData} {op : CmpOp} {a b : Expr} {oa ob : Opd} {pos : Pos} (ho : Op2 X.K r f) (hr : OpR X (compareOp op) r) (hm : behindInMarks op b = false) (ha : JO CL X Wx a oa) (hb : JO CL X Wx b ob) : JT CL X Wx (.Compare a [op] [b] pos) (eb (cP2 f oa ob) toB) :=
  pt_imp (pt_cmpR hr ha hb hm) fun _ _ _ q => cP2_ok ho (tTest_ok q)
/-- a op b op' c -/
def cCh (f f' : PyData → PyData → Option PyData) (a b c : Opd) : EM W := eb (opd a) fun ta => eb (opd b) fun tb => fun s =>
  match resolve s ta with
  | some x => match resolve s tb with
    | some y => match f x y with
      | some (.bool true) => eb (opd c) (fun tc => fun s => match resolve s tb with
          | some y => match resolve s tc with
            | some z => match f' y z with
              | some w => .ok (.d w) s
              | none => .stuck
            | none => .stuck
          | none => .stuck) s
      | some (.bool false) => .ok (.d (.bool false)) s
      | _ => .stuck
    | none => .stuck
  | none => .stuck
theorem cCh_ok {r r' : R2} {f f' : PyData → PyData → Option PyData} (ho : Op2 K r f) (ho' : Op2 K r' f') {a b c : Opd} {Q : VK} (q : tOf K CL (rWs K) Wx (cCh f f' a b c) σ H Q) :
    tChain r r' (tOf K CL (rTok K) Wx (opd a)) (tOf K CL (rTok K) Wx (opd b)) (tOf K CL (rTok K) Wx (opd c)) σ H Q := by
  refine (tOf.bind (R := rTok K) q).mono fun v H1 ⟨G1, s1, ta, S1, r1, q⟩ => ?_
  refine ⟨G1, s1, S1, ?_⟩
  refine (Post.bind (R := rTok K) q).mono fun u H2 ⟨G2, s2, tb, f2, S2, r2, q⟩ => ?_
  have r1 := rTok_later S1 f2 r1
  cases e1 : resolve s2 ta with
  | none => simp only [e1] at q; exact q.elim
  | some x =>
    cases e2 : resolve s2 tb with
    | none => simp only [e1, e2] at q; exact q.elim
    | some y =>
      cases e3 : f x y with
      | none => simp only [e1, e2, e3] at q; exact q.elim
      | some z =>
        refine ho G2.F H2 x y v u z _ S2.liveF (resolve_view S2 r1 e1) (resolve_view S2 r2 e2) e3 fun F' H' w g rz => ?_
        obtain ⟨S3, f3⟩ := S2.grow g
        cases z with
        | bool k =>
          cases rz
          refine ⟨k, rfl, ?_⟩
          cases k with
          | false =>
            simp only [e1, e2, e3] at q
            rw [if_neg Bool.false_ne_true]
            exact q _ _ _ f3 S3 (RD.bool false)
          | true =>
            simp only [e1, e2, e3] at q
            rw [if_pos rfl]
            refine ⟨_, s2, S3, ?_⟩
            refine (Post.bind (R := rTok K) (Post.later f3 q)).mono fun w H4 ⟨G4, s4, tc, f4, S4, r4, q⟩ => ?_
            have r2 := rTok_later S3 f4 (rTok_later S2 (f3 (n := 0)) r2)
            cases e4 : resolve s4 tb with
            | none => simp only [e4] at q; exact q.elim
            | some y' =>
              cases e5 : resolve s4 tc with
              | none => simp only [e4, e5] at q; exact q.elim
              | some z' =>
                cases e6 : f' y' z' with
                | none => simp only [e4, e5, e6] at q; exact q.elim
                | some w' =>
                  simp only [e4, e5, e6] at q
                  exact ho' G4.F H4 y' z' u w w' Q S4.liveF (resolve_view S4 r2 e4) (resolve_view S4 r4 e5) e6 (fin_grow S4 q)
        | none => simp only [e1, e2, e3] at q; exact q.elim
        | int i => simp only [e1, e2, e3] at q; exact q.elim
        | str i => simp only [e1, e2, e3] at q; exact q.elim
        | list i => simp only [e1, e2, e3] at q; exact q.elim
        | tuple i => simp only [e1, e2, e3] at q; exact q.elim
        | dict i => simp only [e1, e2, e3] at q; exact q.elim
/-! one operand -/
def cP1 (f : PyData → Option PyData) (a : Opd) : EM W := eb (opd a) fun ta => fun s =>
  match resolve s ta with
  | some x => match f x with
    | some z => .ok (.d z) s
    | none => .stuck
  | none => .stuck
def Op1 (K : PySem.W.Frag) (r : V → Hp → VK → Prop) (f : PyData → Option PyData) : Prop :=
  ∀ (F : Addr → Prop) (H : Hp) (dx : PyData) (vx : V) (z : PyData) (Q : VK), (∀ a, F a → ∃ o, H a = some o) → View K F H dx vx → f dx = some z →
    (∀ F' H' v, Grow F F' H H' → RD K F' H' z v → Q v H') → r vx H Q
theorem cP1_ok {r : V → Hp → VK → Prop} {f : PyData → Option PyData} (ho : Op1 K r f) {a : Opd} {Q : VK} (q : tOf K CL (rWs K) Wx (cP1 f a) σ H Q) :
    tOf K CL (rTok K) Wx (opd a) σ H (fun x H1 => r x H1 Q) := by
  refine (tOf.bind (R := rTok K) q).mono fun v H1 ⟨G1, s1, ta, S1, r1, q⟩ => ?_
  cases e1 : resolve s1 ta with
  | none => simp only [e1] at q; exact q.elim
  | some x =>
    cases e3 : f x with
    | none => simp only [e1, e3] at q; exact q.elim
    | some z =>
      simp only [e1, e3] at q
      exact ho G1.F H1 x v z Q S1.liveF (resolve_view S1 r1 e1) e3 (fin_grow S1 q)
theorem je_un {r : V → Hp → VK → Prop} {f : PyData → Option PyData} {op : UnaryOp} {a : Expr} {oa : Opd} {pos : Pos} (ho : Op1 X.K r f) (hr : UnR X (unaryOp op) r) (ha : JO CL X Wx a oa) : JE CL X Wx (.UnaryOp op a pos) (cP1 f oa) :=
  pe_imp (pe_un hr ha) fun _ _ _ q => cP1_ok ho q
/-! tests -/
def cNot (m : EM Bool) : EM Bool := eb m fun b => er (!b)
theorem jt_not {a : Expr} {m : EM Bool} {pos : Pos} (h : JT CL X Wx a m) : JT CL X Wx (.UnaryOp .Not a pos) (cNot m) := pt_imp (pt_not h) fun σ H Q q => by
  refine (tOf.bind (R := rBs) q).mono fun v H1 ⟨G1, s1, w, S1, r, q⟩ => ?_
  subst r
  exact Post.here (R := rBs) S1 rfl q
abbrev JW (CL : CA) (X : Cx) (Wx : WX) (e : Expr) (m : EM Bool) : Prop := PW X e (tOf X.K CL rBs Wx m)
theorem pw_imp {e : Expr} {t t' : TT} (h : PW X e t) (i : ∀ σ H Q, t' σ H Q → t σ H Q) : PW X e t' := ⟨fun w pins s σ H Q I q => h.run w pins s σ H Q I (i σ H Q q)⟩
def cAnd (a b : EM Bool) : EM Bool := eb a fun k => if k = true then b else er false
def cOr (a b : EM Bool) : EM Bool := eb a fun k => if k = true then er true else b
theorem jw_and {a b : Expr} {rest : List Expr} {ma mb : EM Bool} {pos : Pos} (ha : JT CL X Wx a ma) (hb : JW CL X Wx (.BoolOp .And (b :: rest) pos) mb) : JW CL X Wx (.BoolOp .And (a :: b :: rest) pos) (cAnd ma mb) := pw_imp (pw_and ha hb) fun σ H Q q => by
  refine (tOf.bind (R := rBs) q).mono fun v H1 ⟨G1, s1, w, S1, r, q⟩ => ?_
  subst r
  cases w with
  | true => exact ⟨G1, s1, S1, q⟩
  | false => exact Post.here (R := rBs) S1 rfl q
theorem jw_or {a b : Expr} {rest : List Expr} {ma mb : EM Bool} {pos : Pos} (ha : JT CL X Wx a ma) (hb : JW CL X Wx (.BoolOp .Or (b :: rest) pos) mb) : JW CL X Wx (.BoolOp .Or (a :: b :: rest) pos) (cOr ma mb) := pw_imp (pw_or ha hb) fun σ H Q q => by
  refine (tOf.bind (R := rBs) q).mono fun v H1 ⟨G1, s1, w, S1, r, q⟩ => ?_
  subst r
  cases w with
  | true => exact Post.here (R := rBs) S1 rfl q
  | false => exact ⟨G1, s1, S1, q⟩
/-- the same as values that are truths -/
def cAndV (a b : EM W) : EM W := eb (eb a toB) fun k => if k = true then b else er (.d (.bool false))
def cOrV (a b : EM W) : EM W := eb (eb a toB) fun k => if k = true then er (.d (.bool true)) else b
def cNotV (a : EM W) : EM W := eb (eb a toB) fun k => er (.d (.bool (!k)))
theorem tTestV {m : EM W} {f : Bool → EM W} {Q : VK} (q : tOf K CL (rWs K) Wx (eb (eb m toB) f) σ H Q) :
    tOf K CL (rWs K) Wx m σ H (fun x H1 => ∃ c, x = .bl c ∧ ∃ G1 s1, SR K CL G1 s1 σ H1 ∧ Post K CL (rWs K) Wx G1 s1.mem.length σ H1 (f c s1) Q) := by
  refine (tTest_ok (tOf.bind (R := rBs) q)).mono fun v H1 ⟨k, e, G1, s1, w, S1, r, q⟩ => ?_
  subst r
  exact ⟨w, e, G1, s1, S1, q⟩
theorem je_and {a b : Expr} {rest : List Expr} {ma mb : EM W} {pos : Pos} (ha : JE CL X Wx a ma) (hb : JE CL X Wx (.BoolOp .And (b :: rest) pos) mb) : JE CL X Wx (.BoolOp .And (a :: b :: rest) pos) (cAndV ma mb) := pe_imp (pe_and ha hb) fun σ H Q q => by
  refine (tTestV q).mono fun v H1 ⟨c, e, G1, s1, S1, q⟩ => ⟨c, e, ?_⟩
  cases c with
  | true => exact ⟨G1, s1, S1, q⟩
  | false => exact Post.here (R := rWs X.K) (a := W.d (.bool false)) S1 (RD.bool false) q
theorem je_or {a b : Expr} {rest : List Expr} {ma mb : EM W} {pos : Pos} (ha : JE CL X Wx a ma) (hb : JE CL X Wx (.BoolOp .Or (b :: rest) pos) mb) : JE CL X Wx (.BoolOp .Or (a :: b :: rest) pos) (cOrV ma mb) := pe_imp (pe_or ha hb) fun σ H Q q => by
  refine (tTestV q).mono fun v H1 ⟨c, e, G1, s1, S1, q⟩ => ⟨c, e, ?_⟩
  cases c with
  | true => exact Post.here (R := rWs X.K) (a := W.d (.bool true)) S1 (RD.bool true) q
  | false => exact ⟨G1, s1, S1, q⟩
theorem je_not {a : Expr} {ma : EM W} {pos : Pos} (ha : JE CL X Wx a ma) : JE CL X Wx (.UnaryOp .Not a pos) (cNotV ma) := pe_imp (pe_not ha) fun σ H Q q => by
  refine (tTestV q).mono fun v H1 ⟨c, e, G1, s1, S1, q⟩ => ⟨c, e, ?_⟩
  exact Post.here (R := rWs X.K) (a := W.d (.bool (!c))) S1 (RD.bool _) q
def cIf (c : EM Bool) (a b : EM W) : EM W := eb c fun k => if k = true then a else b
theorem je_if {c a b : Expr} {mc : EM Bool} {ma mb : EM W} {pos : Pos} (hc : JT CL X Wx c mc) (ha : JE CL X Wx a ma) (hb : JE CL X Wx b mb) : JE CL X Wx (.IfExp c a b pos) (cIf mc ma mb) := pe_imp (pe_ifExp hc ha hb) fun σ H Q q => by
  refine (tOf.bind (R := rBs) q).mono fun v H1 ⟨G1, s1, w, S1, r, q⟩ => ?_
  subst r
  cases w with
  | true => exact ⟨G1, s1, S1, q⟩
  | false => exact ⟨G1, s1, S1, q⟩
/-- an operand's truth -/
def truth : PyData → Option Bool
  | .none => some false
  | .bool b => some b
  | .int i => some (i != 0)
  | .str x => if x.length ≤ 1000000 then some ((x.length : Int) != 0) else none
  | .list xs => some (!xs.isEmpty)
  | .tuple xs => some (!xs.isEmpty)
  | .dict xs => some (!xs.isEmpty)
def cTru (a : Opd) : EM Bool := eb (opd a) fun ta => fun s =>
  match resolve s ta with
  | some x => match truth x with
    | some z => .ok z s
    | none => .stuck
  | none => .stuck
theorem RDs.isEmpty {F : Addr → Prop} : ∀ {ds : List PyData} {vs : List V}, RDs K F H ds vs → vs.isEmpty = ds.isEmpty
  | _, _, .nil => rfl
  | _, _, .cons _ _ => rfl
theorem RDkv.isEmpty {F : Addr → Prop} : ∀ {ds : List (PyData × PyData)} {vs : List (Key × V)}, RDkv K F H ds vs → vs.isEmpty = ds.isEmpty
  | _, _, .nil => rfl
  | _, _, .consI _ _ => rfl
  | _, _, .consS _ _ => rfl
theorem million : (1000000 : Nat) ≤ sizeLine := by decide
theorem truth_ok {F : Addr → Prop} {d : PyData} {v : V} {k : Bool} (h : View K F H d v) (e : truth d = some k) : TruV K v H k := by
  cases h with
  | none => cases e; rfl
  | bool b => cases e; rfl
  | int i => cases e; rfl
  | str x =>
    have e : (if x.length ≤ 1000000 then some ((x.length : Int) != 0) else none) = some k := e
    by_cases hl : x.length ≤ 1000000
    · rw [if_pos hl] at e
      cases e; exact ⟨Nat.le_trans hl million, rfl⟩
    · rw [if_neg hl] at e
      cases e
  | list h1 h2 => cases e; exact .inl ⟨_, h1, by rw [h2.isEmpty]⟩
  | tuple h1 h2 => cases e; exact .inr (.inl ⟨_, h1.sq, by rw [h2.isEmpty]⟩)
  | dict h1 h2 => cases e; exact .inr (.inr ⟨_, h1, by rw [h2.isEmpty]⟩)
theorem jt_tru {a : Expr} {o : Opd} (h : JO CL X Wx a o) (he : ∀ whole, isTrue a X.env whole = (do let v ← whole; standAt a.pos; holding [v] (truthy v))) : JT CL X Wx a (cTru o) := pt_imp (pt_truth h he) fun σ H Q q => by
  refine (tOf.bind (R := rTok X.K) q).mono fun v H1 ⟨G1, s1, ta, S1, r1, q⟩ => ?_
  cases e1 : resolve s1 ta with
  | none => simp only [e1] at q; exact q.elim
  | some x =>
    cases e3 : truth x with
    | none => simp only [e1, e3] at q; exact q.elim
    | some z =>
      simp only [e1, e3] at q
      exact ⟨z, truth_ok (resolve_view S1 r1 e1) e3, Post.here (R := rBs) S1 rfl q⟩
end
end MP
/-! Part F: argument lists, displays, new things, calls of defs. -/
namespace MP
open PySem PySem.Spec PyProof.Rows L2
section
variable {K : PySem.W.Frag} {CL : CA} {G G1 G' : Gh} {H H1 H' : Hp} {s s1 : S} {σ : L2.St} {n n1 n' : Nat} {α β γ δ : Type} {R : Rel α β} {Wx : WX} {X : Cx} {p : Addr}
theorem SR.notF (S : SR K CL G s σ H) (h : H p = none) : ¬ G.F p := fun x => by
  obtain ⟨u, e⟩ := S.liveF p x
  rw [h] at e
  cases e
/-! ### lists of parts -/
def cList {α : Type} : List (EM α) → EM (List α)
  | [] => er []
  | m :: ms => eb m fun w => eb (cList ms) fun ws => er (w :: ws)
def rL {α β : Type} (R : Rel α β) : Rel (List α) (List β) := fun G σ H as bs => Paired (R G σ H) as bs
/-- a relation that lasts -/
structure Lasts (K : PySem.W.Frag) (CL : CA) {α β : Type} (R : Rel α β) : Prop where
  go : ∀ {G G1 : Gh} {H H1 : Hp} {s : S} {σ : L2.St} {n1 : Nat} {a : α} {b : β}, SR K CL G s σ H → Fut G H s.mem.length G1 H1 n1 → R G σ H a b → R G1 σ H1 a b
theorem lasts_Ws : Lasts K CL (rWs K) := ⟨fun {G G1 H H1 s σ n1 a b} S f r => by
  cases a with
  | exn c => exact r.elim
  | d y => exact f.rd S r
  | ref b =>
    obtain ⟨p, e1, e2⟩ := r
    exact ⟨p, e1, f.box _ _ (S.bx _ _ e2) e2⟩
  | own c => exact r.elim⟩
theorem lasts_Ds : Lasts K CL (rDs K) := ⟨fun S f r => f.rd S r⟩
theorem lasts_Tok : Lasts K CL (rTok K) := ⟨fun S f r => rTok_later S f r⟩
inductive JA (CL : CA) (R : Rel α V) (X : Cx) (Wx : WX) : List Expr → List (EM α) → Prop
  | nil : JA CL R X Wx [] []
  | cons {e : Expr} {es : List Expr} {m : EM α} {ms : List (EM α)} (h : PE X e (tOf X.K CL R Wx m)) (hs : starEach (e :: es) X.env = (false, eval e X.env) :: starEach es X.env) (t : JA CL R X Wx es ms) : JA CL R X Wx (e :: es) (m :: ms)
theorem JA.pa {R : Rel α V} (hl : Lasts X.K CL R) : ∀ {es : List Expr} {ms : List (EM α)}, JA CL R X Wx es ms → PA X es (tOf X.K CL (rL R) Wx (cList ms))
  | _, _, .nil => pa_imp pa_nil fun σ H Q q => by
    obtain ⟨G, s, S, q⟩ := q
    exact Post.here (R := rL R) (a := []) S .nil q
  | _, _, .cons h hs t => pa_imp (pa_cons h (JA.pa hl t) hs) fun σ H Q q => by
    refine (tOf.bind (R := R) q).mono fun v H1 ⟨G1, s1, w, S1, r, q⟩ => ?_
    refine ⟨G1, s1, S1, ?_⟩
    refine (Post.bind (R := rL R) q).mono fun vs H2 ⟨G2, s2, ws, f2, S2, r2, q⟩ => ?_
    exact Post.here (R := rL R) S2 (.cons (hl.go S1 f2 r) r2) q
theorem JA.noStar {R : Rel α V} : ∀ {es : List Expr} {ms : List (EM α)} {pos : Pos}, JA CL R X Wx es ms → (backTo pos (starEach es X.env)).any (·.1) = false
  | _, _, _, .nil => rfl
  | _, _, pos, .cons h hs t => by
    rw [hs]
    show (false || _) = false
    rw [Bool.false_or]
    exact JA.noStar (pos := pos) t
theorem rds_of {F : Addr → Prop} : ∀ {ds : List PyData} {vs : List V}, Paired (fun d v => RD K F H d v) ds vs → RDs K F H ds vs
  | _, _, .nil => .nil
  | _, _, .cons r t => .cons r (rds_of t)
theorem ja_ds {es : List Expr} {ms : List (EM W)} (h : JA CL (rWs X.K) X Wx es ms) : JA CL (rDs X.K) X Wx es (ms.map evD) := by
  induction h with
  | nil => exact .nil
  | cons h hs t ih => exact .cons (jd_of h) hs ih
/-! ### displays -/
def cTup (ms : List (EM W)) : EM W := eb (cList (ms.map evD)) fun xs => if xs.length ≤ 1000000 then er (.d (.tuple xs)) else es
theorem je_tup {es : List Expr} {ms : List (EM W)} {k : Nat} {pos : Pos} (h : JA CL (rWs X.K) X Wx es ms) : JE CL X Wx (.Tuple es k pos) (cTup ms) := pe_imp (pe_tup ((ja_ds h).pa lasts_Ds)) fun σ H Q q => by
  refine (tOf.bind (R := rL (rDs X.K)) q).mono fun vs H1 ⟨G1, s1, xs, S1, r, q⟩ => ?_
  by_cases hl : xs.length ≤ 1000000
  · rw [if_pos hl] at q
    have r := rds_of r
    refine ⟨by rw [r.length]; exact Nat.le_trans hl million, fun p hp => ?_⟩
    have g : Grow G1.F (fun a => G1.F a ∨ a = p) H1 (upd H1 p (.tup vs)) := Grow.one hp
    refine fin_grow S1 q _ _ _ g (.tuple (.inl ⟨.inr rfl, .inl upd_same⟩) (r.mono fun a f => g.keep S1.liveF a f))
  · rw [if_neg hl] at q
    exact q.elim
/-- a new thing that no place has yet; H0: the heap ahead of it -/
def rNew (K : PySem.W.Frag) (H0 : Hp) : Rel Ob V := fun G _ H c v => ∃ p, v = .ref p ∧ RO K G.F H c p ∧ ¬ G.F p ∧ (∀ pl, G.ad pl ≠ some p) ∧ H0 p = none
abbrev JN (CL : CA) (X : Cx) (Wx : WX) (e : Expr) (m : EM Ob) : Prop := PE X e (fun σ H Q => tOf X.K CL (rNew X.K H) Wx m σ H Q)
theorem Fut.new_addF (f : Fut G H n G' H' n') (h : H p = none) : Fut G H n (G'.addF p) H' n' :=
  ⟨fun a x => .inl (f.fr a x), f.oth, f.there, fun a x => by
    rcases x with x | x
    · exact f.newF a x
    · subst x; exact .inr (.inl h), f.newA, f.box, f.le, f.ex⟩
theorem Fut.new_slot (f : Fut G H n G' H' n') (h : H p = none) {i : Nat} : Fut G H n (G'.put (.slot i) (some p)) H' n' :=
  ⟨f.fr, f.oth, f.there, f.newF, fun pl x e => by
    by_cases z : pl = .slot i
    · subst z
      rw [Gh.put_same] at e
      cases e
      exact .inl h
    · rw [Gh.put_ne z] at e
      exact f.newA pl x e, fun b x hb e => by rw [Gh.put_ne (fun z => by cases z)]; exact f.box b x hb e, f.le, f.ex⟩
theorem Fut.new_box (f : Fut G H n G' H' n') (h : H p = none) : Fut G H n (G'.put (.box n') (some p)) H' (n' + 1) :=
  ⟨f.fr, f.oth, f.there, f.newF, fun pl x e => by
    by_cases z : pl = .box n'
    · subst z
      rw [Gh.put_same] at e
      cases e
      exact .inl h
    · rw [Gh.put_ne z] at e
      exact f.newA pl x e, fun b x hb e => by rw [Gh.put_ne (fun z => by cases z; exact absurd (Nat.lt_of_lt_of_le hb f.le) (Nat.lt_irrefl _))]; exact f.box b x hb e, Nat.le_succ_of_le f.le, f.ex⟩
/-- frozen as soon as it is made -/
def cFrz (m : EM Ob) : EM W := eb m fun c => er (.d c.data)
theorem je_frz {e : Expr} {m : EM Ob} (h : JN CL X Wx e m) : JE CL X Wx e (cFrz m) := pe_imp h fun σ H Q q => by
  obtain ⟨G, s, S, q⟩ := q
  refine ⟨G, s, S, ?_⟩
  unfold cFrz eb rb at q
  cases e1 : m s with
  | stuck => rw [e1] at q; exact q.elim
  | raise x s' => rw [e1] at q; exact q
  | ok c s' =>
    rw [e1] at q
    intro G' H' v f S' r
    obtain ⟨p, rfl, ho, hf, hn, h0⟩ := r
    exact q _ _ _ (f.new_addF h0) (S'.addF ho.there hn) (RO.rd (.inr rfl) (ho.mono (fun a x => ⟨.inl x, rfl⟩) rfl))
/-- put into a new box -/
def cBoxN (m : EM Ob) : EM W := eb m fun c s => .ok (.ref s.mem.length) { s with mem := s.mem ++ [.ctr c] }
theorem je_boxN {e : Expr} {m : EM Ob} (h : JN CL X Wx e m) : JE CL X Wx e (cBoxN m) := pe_imp h fun σ H Q q => by
  obtain ⟨G, s, S, q⟩ := q
  refine ⟨G, s, S, ?_⟩
  unfold cBoxN eb rb at q
  cases e1 : m s with
  | stuck => rw [e1] at q; exact q.elim
  | raise x s' => rw [e1] at q; exact q
  | ok c s' =>
    rw [e1] at q
    intro G' H' v f S' r
    obtain ⟨p, rfl, ho, hf, hn, h0⟩ := r
    exact q _ _ _ (by simpa using f.new_box h0) (S'.newBox ho hf hn) ⟨p, rfl, Gh.put_same⟩
/-- an own slot's thing handed on in a box -/
def cBoxV (i : Nat) : EM W := fun s => match s.rho[i]? with
  | some (some (.own c)) => .ok (.ref s.mem.length) { rho := s.rho.set i (some (.ref s.mem.length)), mem := s.mem ++ [.ctr c] }
  | some (some (.d x)) => .ok (.d x) s
  | some (some (.ref b)) => .ok (.ref b) s
  | _ => .stuck
theorem je_boxV {i : Nat} {x : Str} {pos : Pos} (h : PE X (.Name x pos) (tVar i)) : JE CL X Wx (.Name x pos) (cBoxV i) := pe_imp h fun σ H Q q => by
  obtain ⟨G, s, S, q⟩ := q
  unfold cBoxV at q
  cases e : s.rho[i]? with
  | none => rw [e] at q; exact q.elim
  | some o =>
    cases o with
    | none => rw [e] at q; exact q.elim
    | some w =>
      rw [e] at q
      obtain ⟨v, hv, hr⟩ := S.slots i w e
      refine ⟨v, hv, ?_⟩
      cases w with
      | exn c => exact q.elim
      | d y => exact Post.here (R := rWs X.K) (a := W.d y) S hr q
      | ref b => exact Post.here (R := rWs X.K) (a := W.ref b) S hr q
      | own c =>
        obtain ⟨p, G', hv', hb, S', f⟩ := S.box e
        rw [hv] at hv'
        cases hv'
        exact q _ _ _ (by simpa using f) S' ⟨p, rfl, hb⟩
def cLst (ms : List (EM W)) : EM Ob := eb (cList (ms.map evD)) fun xs => if xs.length ≤ 1000000 then er (.lst xs) else es
theorem tNew_tail {m : EM α} {f : α → EM Ob} {R : Rel α β} {Q : VK} (q : tOf K CL (rNew K H) Wx (eb m f) σ H Q) :
    tOf K CL R Wx m σ H (fun b H1 => ∃ G s G1 s1 a, SR K CL G s σ H ∧ Fut G H s.mem.length G1 H1 s1.mem.length ∧ SR K CL G1 s1 σ H1 ∧ R G1 σ H1 a b ∧ Post K CL (rNew K H) Wx G s.mem.length σ H (f a s1) Q) := by
  obtain ⟨G, s, S, h⟩ := q
  refine ⟨G, s, S, ?_⟩
  unfold eb rb at h
  cases e : m s with
  | ok a s' =>
    rw [e] at h
    exact fun G' H' b f' S' r' => ⟨G, s, G', s', a, S, f', S', r', h⟩
  | raise x s' =>
    rw [e] at h
    exact h
  | stuck =>
    rw [e] at h
    exact h
theorem jn_lst {es : List Expr} {ms : List (EM W)} {pos : Pos} (h : JA CL (rWs X.K) X Wx es ms) : JN CL X Wx (.List es pos) (cLst ms) := pe_imp (pe_lst ((ja_ds h).pa lasts_Ds)) fun σ H Q q => by
  refine (tNew_tail (R := rL (rDs X.K)) q).mono fun vs H1 ⟨G, s, G1, s1, xs, S, f, S1, r, q⟩ => ?_
  by_cases hl : xs.length ≤ 1000000
  · rw [if_pos hl] at q
    have r := rds_of r
    refine ⟨by rw [r.length]; exact Nat.le_trans hl million, fun p hp => ?_⟩
    obtain ⟨S2, f2⟩ := S1.junk (o := .lst vs) hp (n := s1.mem.length)
    exact q _ _ _ (f.trans f2) S2 ⟨p, rfl, ⟨vs, upd_same, r.mono fun a x => (Grow.junk hp).keep S1.liveF a x⟩, S1.notF hp, S1.notIn hp, f.back hp⟩
  · rw [if_neg hl] at q
    exact q.elim

/-! ### calls of defs -/
abbrev Call := Str → List W → List Box → Res W
def rArg (K : PySem.W.Frag) (G : Gh) (H : Hp) (ws : List W) (vs : List V) : Prop := Paired (RW K G H) ws vs
/-- what a def promises -/
def spF (K : PySem.W.Frag) (CL : CA) (np : Nat) (c : List W → List Box → Res W) : Sp := fun vs H Q E => ∃ (G : Gh) (ws : List W) (mem : List Box), vs.length = np ∧ SR K CL G ⟨[], mem⟩ [] H ∧ (∀ i, G.ad (.slot i) = none) ∧ rArg K G H ws vs ∧
  match c ws mem with
  | .ok w s' => ∀ G' H' v, Fut G H mem.length G' H' s'.mem.length → SR K CL G' ⟨[], s'.mem⟩ [] H' → RW K G' H' w v → Q v H'
  | .raise x s' => ∀ G' H' cls d, Fut G H mem.length G' H' s'.mem.length → SR K CL G' ⟨[], s'.mem⟩ [] H' → RX CL x cls d → E cls d H'
  | .stuck => False
def Gh.enter (G : Gh) : Gh := ⟨G.F, fun pl => match pl with
  | .slot _ => none
  | pl => G.ad pl, G.ex⟩
theorem Gh.enter_some {pl : Pl} {a : Addr} (h : G.enter.ad pl = some a) : G.ad pl = some a ∧ ∀ i, pl ≠ .slot i := by
  cases pl with
  | slot i => cases h
  | box b => exact ⟨h, fun i z => nomatch z⟩
  | fld b f => exact ⟨h, fun i z => nomatch z⟩
theorem RP.enter {pl : Pl} (hp : ∀ i, pl ≠ .slot i) {w : W} {v : V} (h : RP K G H pl w v) : RP K G.enter H pl w v := by
  cases w with
  | exn c => exact h
  | d y => exact h
  | ref b => exact h
  | own c =>
    obtain ⟨q, e1, e2, e3⟩ := h
    refine ⟨q, e1, ?_, e3⟩
    cases pl with
    | slot i => exact absurd rfl (hp i)
    | box b => exact e2
    | fld b f => exact e2
theorem SR.enter (S : SR K CL G s σ H) : SR K CL G.enter ⟨[], s.mem⟩ [] H := by
  refine ⟨rfl, fun i w e => by simp at e, fun b c e => ?_, fun pl pl' x e1 e2 => S.inj pl pl' x (Gh.enter_some e1).1 (Gh.enter_some e2).1, fun pl x e => S.live pl x (Gh.enter_some e).1, fun x f => ⟨(S.fz x f).1, fun pl e => (S.fz x f).2 pl (Gh.enter_some e).1⟩, S.bx, S.fd, S.exq⟩
  obtain ⟨q, h1, h2⟩ := S.boxes b c e
  refine ⟨q, h1, ?_⟩
  cases c with
  | ctr c => exact h2
  | inst cls fs =>
    obtain ⟨C, dx, vfs, g1, g2, g3, g4⟩ := h2
    refine ⟨C, dx, vfs, g1, g2, g3, fun f w hw => ?_⟩
    obtain ⟨v, k1, k2, g9⟩ := g4 f w hw
    exact ⟨v, k1, k2.enter (fun i z => by cases z), g9⟩
def Gh.leave (G G' : Gh) : Gh := ⟨G'.F, fun pl => match pl with
  | .slot i => G.ad (.slot i)
  | pl => G'.ad pl, G.ex⟩
theorem Gh.leave_some {pl : Pl} {a : Addr} (h : (G.leave G').ad pl = some a) : (∃ i, pl = .slot i ∧ G.ad (.slot i) = some a) ∨ ((∀ i, pl ≠ .slot i) ∧ G'.ad pl = some a) := by
  cases pl with
  | slot i => exact .inl ⟨i, rfl, h⟩
  | box b => exact .inr ⟨fun i z => (nomatch z), h⟩
  | fld b f => exact .inr ⟨fun i z => (nomatch z), h⟩
/-- back from a call: the callee knew nothing of the slots -/
theorem SR.leave {mem' : List Box} (S : SR K CL G s σ H) (f : Fut G.enter H s.mem.length G' H' mem'.length) (S' : SR K CL G' ⟨[], mem'⟩ [] H') :
    SR K CL (G.leave G') { s with mem := mem' } σ H' ∧ Fut G H s.mem.length (G.leave G') H' mem'.length := by
  -- a slot's own address is strange to the callee
  have strange : ∀ {i : Nat} {a : Addr}, G.ad (.slot i) = some a → (∀ pl, G.enter.ad pl ≠ some a) ∧ (∀ pl, G'.ad pl ≠ some a) ∧ ¬ G'.F a ∧ H' a = H a := fun {i a} e => by
    obtain ⟨o, ho⟩ := S.live _ _ e
    have h1 : ∀ pl, G.enter.ad pl ≠ some a := fun pl e' => by
      obtain ⟨z1, z2⟩ := Gh.enter_some e'
      exact z2 i (S.inj _ _ _ z1 e)
    refine ⟨h1, fun pl e' => ?_, fun x => ?_, ?_⟩
    · rcases f.newA pl a e' with z | ⟨pl0, z⟩
      · rw [ho] at z; cases z
      · exact h1 pl0 z
    · rcases f.newF a x with z | z | ⟨pl0, z⟩
      · exact (S.fz a z).2 _ e
      · rw [ho] at z; cases z
      · exact h1 pl0 z
    · rw [f.oth a o ho h1, ho]
  have hF : ∀ a, G.F a → (G.leave G').F a ∧ H' a = H a := fun a x => by
    obtain ⟨⟨o, e⟩, ne⟩ := S.fz a x
    exact ⟨f.fr a x, by rw [f.oth a o e fun pl z => ne pl (Gh.enter_some z).1, e]⟩
  have rp : ∀ {pl : Pl} {w : W} {v : V}, (∀ i, pl ≠ .slot i) → RP K G' H' pl w v → RP K (G.leave G') H' pl w v := fun {pl w v} hp h => by
    cases w with
    | exn c =>
      obtain ⟨a, e1, e2⟩ := h
      exact ⟨a, e1, f.ex.symm.trans e2⟩
    | d y => exact h
    | ref b => exact h
    | own c =>
      obtain ⟨q, e1, e2, e3⟩ := h
      refine ⟨q, e1, ?_, e3⟩
      cases pl with
      | slot i => exact absurd rfl (hp i)
      | box b => exact e2
      | fld b f => exact e2
  refine ⟨⟨S.len, fun i w e => ?_, fun b c e => ?_, fun pl pl' x e1 e2 => ?_, fun pl x e => ?_, fun x h => ?_, fun b x e => S'.bx b x e, fun b g x e => S'.fd b g x e, S.exq⟩, ⟨f.fr, fun a o e hn => f.oth a o e fun pl z => hn pl (Gh.enter_some z).1, f.there, fun a x => ?_, fun pl x e => ?_, fun b x hb e => f.box b x hb e, f.le, rfl⟩⟩
  · obtain ⟨v, h1, h2⟩ := S.slots i w e
    refine ⟨v, h1, ?_⟩
    cases w with
    | exn c => exact h2
    | d y => exact RD.mono hF h2
    | ref b =>
      obtain ⟨q, e1, e2⟩ := h2
      exact ⟨q, e1, f.box b q (S.bx _ _ e2) e2⟩
    | own c =>
      obtain ⟨q, e1, e2, e3⟩ := h2
      exact ⟨q, e1, e2, e3.mono hF (strange e2).2.2.2⟩
  · obtain ⟨q, h1, h2⟩ := S'.boxes b c e
    refine ⟨q, h1, ?_⟩
    cases c with
    | ctr c => exact h2
    | inst cls fs =>
      obtain ⟨C, dx, vfs, g1, g2, g3, g4⟩ := h2
      refine ⟨C, dx, vfs, g1, g2, g3, fun f w hw => ?_⟩
      obtain ⟨v, k1, k2, g9⟩ := g4 f w hw
      exact ⟨v, k1, rp (fun i z => by cases z) k2, g9⟩
  · rcases Gh.leave_some e1 with ⟨i, rfl, a2⟩ | ⟨a1, a2⟩ <;> rcases Gh.leave_some e2 with ⟨j, rfl, b2⟩ | ⟨b1, b2⟩
    · exact S.inj _ _ x a2 b2
    · exact absurd b2 ((strange a2).2.1 _)
    · exact absurd a2 ((strange b2).2.1 _)
    · exact S'.inj _ _ x a2 b2
  · rcases Gh.leave_some e with ⟨i, rfl, a2⟩ | ⟨a1, a2⟩
    · rw [(strange a2).2.2.2]; exact S.live _ _ a2
    · exact S'.live _ _ a2
  · refine ⟨(S'.fz x h).1, fun pl e => ?_⟩
    rcases Gh.leave_some e with ⟨i, rfl, a2⟩ | ⟨a1, a2⟩
    · exact (strange a2).2.2.1 h
    · exact (S'.fz x h).2 _ a2
  · rcases f.newF a x with z | z | ⟨pl0, z⟩
    · exact .inl z
    · exact .inr (.inl z)
    · exact .inr (.inr ⟨pl0, (Gh.enter_some z).1⟩)
  · rcases Gh.leave_some e with ⟨i, rfl, a2⟩ | ⟨a1, a2⟩
    · exact .inr ⟨_, a2⟩
    · rcases f.newA pl x a2 with z | ⟨pl0, z⟩
      · exact .inl z
      · exact .inr ⟨pl0, (Gh.enter_some z).1⟩
def doCall (c : Call) (f : Str) (ws : List W) : EM W := fun s => match c f ws s.mem with
  | .ok w s' => .ok w { s with mem := s'.mem }
  | .raise x s' => .raise x { s with mem := s'.mem }
  | .stuck => .stuck
def cCall (c : Call) (f : Str) (ms : List (EM W)) : EM W := eb (cList ms) fun ws => doCall c f ws
theorem doCall_ok {c : Call} {f : Str} {ws : List W} {vs : List V} {np : Nat} {Q : VK} (S : SR K CL G s σ H) (hn : vs.length = np) (r : rL (rWs K) G σ H ws vs) (q : Post K CL (rWs K) Wx G s.mem.length σ H (doCall c f ws s) Q) :
    spF K CL np (c f) vs H Q (WE Wx σ) := by
  refine ⟨G.enter, ws, s.mem, hn, S.enter, fun i => rfl, ?_, ?_⟩
  · refine Paired.mapP r fun w v h => ?_
    cases w with
    | exn c => exact h.elim
    | d y => exact h
    | ref b => exact h
    | own c => exact h.elim
  · unfold doCall at q
    cases e : c f ws s.mem with
    | stuck => rw [e] at q; exact q.elim
    | ok w s' =>
      simp only [e] at q
      intro G' H' v f' S' r'
      obtain ⟨S2, f2⟩ := S.leave f' S'
      refine q _ _ _ f2 S2 ?_
      cases w with
      | exn c => exact r'.elim
      | d y => exact r'
      | ref b => exact r'
      | own c => exact r'.elim
    | raise x s' =>
      simp only [e] at q
      intro G' H' cls d f' S' r'
      obtain ⟨S2, f2⟩ := S.leave f' S'
      exact q _ _ cls d f2 S2 r'
/-- keywords' values in the parameters' order -/
def kwOrd {α : Type} (ks ps : List Str) (ws : List α) : List α := ps.filterMap fun p => (ks.zip ws).lookup p
theorem look_paired {R : α → β → Prop} {p : Str} : ∀ {ks : List Str} {ws : List α} {vs : List β}, Paired R ws vs → ((ks.zip ws).lookup p = none ∧ (ks.zip vs).lookup p = none) ∨ ∃ w v, (ks.zip ws).lookup p = some w ∧ (ks.zip vs).lookup p = some v ∧ R w v
  | [], _, _, _ => .inl ⟨rfl, rfl⟩
  | _ :: _, _, _, .nil => .inl ⟨rfl, rfl⟩
  | k :: ks, _, _, .cons (a := a) (b := b) h t => by
    rw [List.zip_cons_cons, List.zip_cons_cons, List.lookup_cons, List.lookup_cons]
    cases p == k with
    | true => exact .inr ⟨a, b, rfl, rfl, h⟩
    | false => exact look_paired t
theorem kwOrd_paired {R : α → β → Prop} {ks : List Str} {ws : List α} {vs : List β} (h : Paired R ws vs) : ∀ {ps : List Str}, Paired R (kwOrd ks ps ws) (kwOrd ks ps vs)
  | [] => .nil
  | p :: ps => by
    unfold kwOrd
    rw [List.filterMap_cons, List.filterMap_cons]
    rcases look_paired (p := p) (ks := ks) h with ⟨e1, e2⟩ | ⟨w, v, e1, e2, r⟩
    · rw [e1, e2]; exact kwOrd_paired h
    · rw [e1, e2]; exact .cons r (kwOrd_paired h)
theorem paired_any : ∀ {ws : List α} {vs : List β}, ws.length = vs.length → Paired (fun _ _ => True) ws vs
  | [], [], _ => .nil
  | [], _ :: _, h => by cases h
  | _ :: _, [], h => by cases h
  | _ :: ws, _ :: vs, h => .cons trivial (paired_any (Nat.succ.inj h))
theorem kwOrd_len {ks ps : List Str} {ws : List α} {vs : List β} (h : ws.length = vs.length) : (kwOrd ks ps ws).length = (kwOrd ks ps vs).length := Paired.length (kwOrd_paired (paired_any h))
theorem kwOrd_vals {ks ps : List Str} {vs : List V} {us : List Value} (h : Vals vs us) : Vals (kwOrd ks ps vs) (kwOrd ks ps us) := by
  have a : ∀ {vs : List V} {us : List Value}, Vals vs us → Paired RelV vs us := by
    intro vs us h
    induction h with
    | nil => exact .nil
    | cons r _ ih => exact .cons r ih
  have b : ∀ {vs : List V} {us : List Value}, Paired RelV vs us → Vals vs us := by
    intro vs us h
    induction h with
    | nil => exact .nil
    | cons r _ ih => exact .cons r ih
  exact b (kwOrd_paired (a h))
/-- a call with keywords alone -/
def KwIn (fd : FuncData) (ps ks : List Str) : Prop := ∀ ws : List Value, ws.length = ks.length → bindArgs fd ⟨[], ks.zip ws⟩ = pure (ps.zip (kwOrd ks ps ws))
/-- what is known of a def of the module -/
structure FnIn (K : PySem.W.Frag) (CL : CA) (P : Program) (w : World) (mg : Str → Option Value) (base : Heap) (k : Nat) (f : Str) (ps : List Str) (kws : List (List Str)) (c : List W → List Box → Res W) : Prop where
  is : ∃ (a : Addr) (fd : FuncData), mg f = some (.ref a) ∧ PySem.W.keepIn K (.ref a) = true ∧ Binds K fd ps [] ∧ FnOk P w K mg base (L2.CX P w) k a fd ps (spF K CL ps.length c) ∧ ∀ ks ∈ kws, KwIn fd ps ks
theorem cList_len {α : Type} : ∀ {ms : List (EM α)} {s : S} {ws : List α} {s' : S}, cList ms s = .ok ws s' → ws.length = ms.length := by
  intro ms
  induction ms with
  | nil => intro s ws s' e; cases e; rfl
  | cons m ms ih =>
    intro s ws s' e
    unfold cList eb rb at e
    cases e1 : m s with
    | stuck => rw [e1] at e; cases e
    | raise x t => rw [e1] at e; cases e
    | ok w t =>
      rw [e1] at e
      simp only [eb, rb] at e
      cases e2 : cList ms t with
      | stuck => rw [e2] at e; cases e
      | raise x t => rw [e2] at e; cases e
      | ok w' t' =>
        rw [e2] at e
        cases e
        show w'.length + 1 = ms.length + 1
        rw [ih e2]
/-- the keywords of a call -/
inductive JKw (CL : CA) (X : Cx) (Wx : WX) : List Keyword → List Str → List (EM W) → Prop
  | nil : JKw CL X Wx [] [] []
  | cons {n : Str} {e : Expr} {kp : Pos} {kws : List Keyword} {ns : List Str} {m : EM W} {ms : List (EM W)} (h : JE CL X Wx e m) (t : JKw CL X Wx kws ns ms) : JKw CL X Wx (⟨some n, e, kp⟩ :: kws) (n :: ns) (m :: ms)
theorem JKw.pk : ∀ {kws : List Keyword} {ns : List Str} {ms : List (EM W)}, JKw CL X Wx kws ns ms → PK X kws (tOf X.K CL (rL (rWs X.K)) Wx (cList ms))
  | _, _, _, .nil => ⟨fun pos pins s σ H Q I q => pk_nil.run pos pins s σ H Q I (by
    obtain ⟨G, s, S, q⟩ := q
    exact Post.here (R := rL (rWs X.K)) (a := []) S .nil q)⟩
  | _, _, _, .cons h t => ⟨fun pos pins s σ H Q I q => (pk_cons h t.pk).run pos pins s σ H Q I (by
    refine (tOf.bind (R := rWs X.K) q).mono fun v H1 ⟨G1, s1, w, S1, r, q⟩ => ?_
    refine ⟨G1, s1, S1, ?_⟩
    refine (Post.bind (R := rL (rWs X.K)) q).mono fun vs H2 ⟨G2, s2, ws, f2, S2, r2, q⟩ => ?_
    exact Post.here (R := rL (rWs X.K)) S2 (.cons (lasts_Ws.go S1 f2 r) r2) q)⟩
theorem JKw.names : ∀ {kws : List Keyword} {ns : List Str} {ms : List (EM W)} {pos : Pos}, JKw CL X Wx kws ns ms → (backToKw pos (keywordEach kws X.env)).all (·.1.isSome) = true ∧ (backToKw pos (keywordEach kws X.env)).filterMap (·.1) = ns ∧ (backToKw pos (keywordEach kws X.env)).any (·.1.isNone) = false ∧ ns.length = ms.length
  | _, _, _, _, .nil => ⟨rfl, rfl, rfl, rfl⟩
  | _, _, _, pos, .cons (n := n) (ns := ns) (ms := ms) (m := m) h t => by
    obtain ⟨h1, h2, h3, h4⟩ := t.names (pos := pos)
    exact ⟨h1, congrArg (n :: ·) h2, h3, congrArg (· + 1) h4⟩
def cCallK (c : Call) (f : Str) (ks ps : List Str) (ms : List (EM W)) : EM W := eb (cList ms) fun ws => doCall c f (kwOrd ks ps ws)
theorem run_kw {CX : CXT} {k : Nat} {f : Addr} {fd : FuncData} {ps ks : List Str} {sp : Sp} {E : L2.St → XK} {pins : List (Addr × Obj)} {s : Shared} {Q : VK} {ws : List Value} {zs : List V} (F : FnOk X.prog X.w X.K X.mg X.base CX k f fd ps sp) (hr : Room k X.A) (hb : KwIn fd ps ks) (hx : PassesAt CX X σ (E σ))
    (I : Inv X pins σ H s) (r : Vals zs ws) (hl : zs.length = ks.length) (h : sp (kwOrd ks ps zs) H Q (E σ)) : wpAny (model X.prog X.w) X.A (call (.ref f) [] (ks.zip ws)) (EP X pins σ Q) X.xe s := by
  refine wpAny_call (codeAny_mono (F.run X.A X.stack s H ⟨[], ks.zip ws⟩ (kwOrd ks ps ws) (kwOrd ks ps zs) Q (E σ) hr I.env0 (.of_eq (hb ws (r.length.symm.trans hl))) (kwOrd_vals r) h) fun r s' hq => ?_)
  cases r with
  | error e => exact hx pins H s e s' I hq
  | ok fl =>
    cases fl with
    | ret u => exact I.after hq
    | next => exact False.elim hq
    | brk => exact False.elim hq
    | cont => exact False.elim hq
theorem paired_len {R : α → β → Prop} {as : List α} {bs : List β} (h : Paired R as bs) : as.length = bs.length := Paired.length h
theorem je_callK {c : Call} {f : Str} {ps ks : List Str} {fks : List (List Str)} {k : Nat} {kws : List Keyword} {ms : List (EM W)} {p pos : Pos} (F : FnIn X.K CL X.prog X.w X.mg X.base k f ps fks (c f)) (hr : Room k X.A) (hg : Gl X f) (tk : Takes X Wx) (hd : (f == ("__debug__" : Str)) = false)
    (h : JKw CL X Wx kws ks ms) (hk : ks ∈ fks) (hln : (kwOrd ks ps ks).length = ps.length) : JE CL X Wx (.Call (.Name f p) [] kws pos) (cCallK c f ks ps ms) := by
  obtain ⟨a, fd, m1, m2, m3, m4, m5⟩ := F.is
  obtain ⟨h1, h2, h3, h4⟩ := h.names (pos := pos)
  refine ⟨fun pins sh σ H Q I q => ?_⟩
  refine wpAny_Call_Name_kw (ld_glob I hg m1 ?_ hd)
  refine PySem.W.callWith_KW0 (h₀ := X.base) I.ok.mod.kin m2 h1 ?_ (by rw [h3]; rfl)
  refine thn (h.pk.run pos pins sh σ H (fun zs H2 => zs.length = ks.length ∧ spF X.K CL ps.length (c f) (kwOrd ks ps zs) H2 Q (WE Wx σ)) I ?_) fun ws s2 ⟨zs, H2, I2, rz, l2, q2⟩ => ⟨I2.kIn, ?_⟩
  · obtain ⟨G, s, S, q⟩ := q
    refine ⟨G, s, S, ?_⟩
    unfold cCallK eb rb at q
    cases e1 : cList ms s with
    | stuck => rw [e1] at q; exact q.elim
    | raise x t => rw [e1] at q; exact q
    | ok ws t =>
      rw [e1] at q
      intro G' H' vs f' S' r'
      have l : vs.length = ks.length := by rw [← Paired.length r', cList_len e1, h4]
      exact ⟨l, doCall_ok S' ((kwOrd_len l).trans hln) (kwOrd_paired r') (Post.later f' q)⟩
  · rw [h2]
    exact run_kw (E := WE Wx) m4 hr (m5 ks hk) (passAt tk σ) I2 rz l2 q2
theorem je_call {c : Call} {f : Str} {ps : List Str} {fks : List (List Str)} {k : Nat} {e : Expr} {es : List Expr} {ms : List (EM W)} {p pos : Pos} (F : FnIn X.K CL X.prog X.w X.mg X.base k f ps fks (c f)) (hr : Room k X.A) (hg : Gl X f) (tk : Takes X Wx) (hd : (f == ("__debug__" : Str)) = false)
    (h : JA CL (rWs X.K) X Wx (e :: es) ms) (hln : ms.length = ps.length) : JE CL X Wx (.Call (.Name f p) (e :: es) [] pos) (cCall c f ms) := by
  obtain ⟨a, fd, m1, m2, m3, m4, _⟩ := F.is
  have hs : starEach (e :: es) X.env = (false, eval e X.env) :: starEach es X.env := by cases h; assumption
  have ht : (backTo pos (starEach es X.env)).any (·.1) = false := by
    cases h with
    | cons _ _ t => exact t.noStar
  refine pe_imp (pe_callS m4 hr hg m1 m2 m3 (fun σ => passAt tk σ) (h.pa lasts_Ws) hd hs ht) fun σ H Q q => ?_
  obtain ⟨G, s, S, q⟩ := q
  refine ⟨G, s, S, ?_⟩
  unfold cCall eb rb at q
  cases e1 : cList ms s with
  | stuck => rw [e1] at q; exact q.elim
  | raise x t => rw [e1] at q; exact q
  | ok ws t =>
    rw [e1] at q
    intro G' H' vs f' S' r'
    exact doCall_ok S' (by rw [← Paired.length r', cList_len e1, hln]) r' (Post.later f' q)
end
end MP
/-! Part G: operators. -/
namespace MP
open PySem PySem.Spec PyProof.Rows L2
section
variable {X : Cx} {pins : List (Addr × Obj)} {σ : L2.St} {H : Hp} {s : Shared}
/-- a list that may be read -/
theorem Inv.lstR {a : Addr} {xs : List V} (I : Inv X pins σ H s) (h : Rd H a (.lst xs)) : xs.length ≤ sizeLine ∧ ∃ (its : List Value) (n : Nat), Vals xs its ∧ xs.length = its.length ∧ s.heap.get? a = some { cls := .type "list", data := .seq its.toArray n } := by
  obtain ⟨z, its, n, r, e⟩ := h.ok I.hok
  exact ⟨z, its, n, r, r.length, e⟩
def rCatL (K : PySem.W.Frag) : R2 := fun x y H Q => ∃ l b xs zs, x = .ref l ∧ y = .ref b ∧ SqL K H l xs ∧ SqL K H b zs ∧ xs.length + zs.length ≤ sizeLine ∧ ∀ p, H p = none → Q (.ref p) (upd H p (.lst (xs ++ zs)))
theorem op_catL : OpR X (binaryOp .Add) (rCatL X.K) := by
  intro pins s σ H x y v u Q I rx ry h
  obtain ⟨l, b, xs, zs, rfl, rfl, hH, hB, hz, q⟩ := h
  cases rx
  cases ry
  obtain ⟨its, r, ⟨⟨cls, dd, data, sl⟩, n, ho, hc, hd, hs⟩, hl⟩ := I.list hH
  obtain ⟨its2, r2, ⟨⟨cls2, dd2, data2, sl2⟩, n2, ho2, hc2, hd2, hs2⟩, hl2⟩ := I.list hB
  simp only at hc hs hc2 hs2
  subst hc hs hc2 hs2
  have ea : its.toArray ++ its2.toArray = (its ++ its2).toArray := by simp
  refine concat_meets ⟨_, ho, rfl⟩ ⟨_, ho2, rfl⟩ noFill_list_add seq_list_add PySem.F.slot_list_add PySem.F.entry_list_add (PySem.F.args_list_add_2 _ _) (list_addW l b its.toArray its2.toArray n n2 dd dd2 sl sl2 (by rw [List.size_toArray, List.size_toArray, ← r.length, ← r2.length]; exact hz)) ⟨ho, ho2, ?_⟩
  rw [ea]
  exact ⟨.ref _, _, I.lnew (t' := s.toks) (r.append r2) (by rw [List.length_append]; omega), rfl, q _ I.fresh⟩
/-- * of ints, together below a hundred million bits -/
def CMulG (i j : Int) : Prop := i.natAbs.log2 + j.natAbs.log2 < 100000000
theorem CMulG.ok {i j : Int} (h : CMulG i j) : IntMulOk i j := by
  have b : ∀ x : Int, Builtin.Int.intBits x ≤ x.natAbs.log2 + 1 := fun x => by
    unfold Builtin.Int.intBits
    split <;> omega
  have h1 := b i
  have h2 := b j
  have h3 : i.natAbs.log2 + j.natAbs.log2 < 100000000 := h
  have e : bitsLine = 134217728 := by decide
  unfold IntMulOk
  intro z
  rw [Bool.and_eq_true] at z
  have z2 := z.2
  unfold Builtin.Int.intTooBig at z2
  have z3 := of_decide_eq_true z2
  rw [e] at z3
  omega
theorem op_mulG : OpR X (binaryOp .Mult) (rI CMulG fun i j => .int (i * j)) := opI fun _ _ _ _ _ _ _ hc q => mul_int q hc.ok
end

/-! ### + -/
def fAdd : PyData → PyData → Option PyData
  | .int i, .int j => some (.int (i + j))
  | .int i, .bool k => some (.int (i + b2i k))
  | .str a, .str b => if a.length + b.length ≤ 1000000 then some (.str (a ++ b)) else none
  | .list a, .list b => if a.length + b.length ≤ 1000000 then some (.list (a ++ b)) else none
  | .tuple a, .tuple b => if a.length + b.length ≤ 1000000 then some (.tuple (a ++ b)) else none
  | _, _ => none
def rIB : R2 := fun x y H Q => ∃ i k, x = .int i ∧ y = .bl k ∧ Q (.int (i + b2i k)) H
def rStr2 : R2 := fun x y H Q => ∃ i j, x = .str i ∧ y = .str j ∧ i.length + j.length ≤ sizeLine ∧ Q (.str (i ++ j)) H
def rAdd (K : PySem.W.Frag) : R2 := fun x y H Q => rI0 (fun i j => .int (i + j)) x y H Q ∨ rIB x y H Q ∨ rStr2 x y H Q ∨ rCatL K x y H Q ∨ rCatA K x y H Q
theorem op_addA {X : Cx} : OpR X (binaryOp .Add) (rAdd X.K) := op_add.or (OpR.or (r := rIB) op_add_ib (OpR.or (r := rStr2) op_add_str (OpR.or op_catL op_catA)))
theorem ok_add {K : PySem.W.Frag} : Op2 K (rAdd K) fAdd := by
  intro F H dx dy vx vy z Q hl v1 v2 e q
  cases v1 with
  | none => cases e
  | bool b => cases e
  | dict _ _ => cases e
  | int i =>
    cases v2 with
    | int j => cases e; exact .inl ⟨i, j, rfl, rfl, q _ _ _ .refl (.int _)⟩
    | bool k => cases e; exact .inr (.inl ⟨i, k, rfl, rfl, q _ _ _ .refl (.int _)⟩)
    | none => cases e
    | str x => cases e
    | list _ _ => cases e
    | tuple _ _ => cases e
    | dict _ _ => cases e
  | str a =>
    cases v2 with
    | str b =>
      have e : (if a.length + b.length ≤ 1000000 then some (PyData.str (a ++ b)) else none) = some z := e
      by_cases h : a.length + b.length ≤ 1000000
      · rw [if_pos h] at e
        cases e
        exact .inr (.inr (.inl ⟨a, b, rfl, rfl, Nat.le_trans h million, q _ _ _ .refl (.str _)⟩))
      · rw [if_neg h] at e; cases e
    | int j => cases e
    | bool k => cases e
    | none => cases e
    | list _ _ => cases e
    | tuple _ _ => cases e
    | dict _ _ => cases e
  | @list a vs xs h1 h2 =>
    cases v2 with
    | @list b us ys g1 g2 =>
      have e : (if xs.length + ys.length ≤ 1000000 then some (PyData.list (xs ++ ys)) else none) = some z := e
      by_cases h : xs.length + ys.length ≤ 1000000
      · rw [if_pos h] at e
        cases e
        refine .inr (.inr (.inr (.inl ⟨a, b, vs, us, rfl, rfl, h1, g1, by rw [h2.length, g2.length]; exact Nat.le_trans h million, fun p hp => ?_⟩)))
        have g := Grow.one (F := F) (o := .lst (vs ++ us)) hp
        exact q _ _ _ g (.list (.inl ⟨.inr rfl, .inl upd_same⟩) ((h2.append g2).mono fun a f => g.keep hl a f))
      · rw [if_neg h] at e; cases e
    | int j => cases e
    | bool k => cases e
    | none => cases e
    | str _ => cases e
    | tuple _ _ => cases e
    | dict _ _ => cases e
  | @tuple a vs xs h1 h2 =>
    cases v2 with
    | @tuple b us ys g1 g2 =>
      have e : (if xs.length + ys.length ≤ 1000000 then some (PyData.tuple (xs ++ ys)) else none) = some z := e
      by_cases h : xs.length + ys.length ≤ 1000000
      · rw [if_pos h] at e
        cases e
        refine .inr (.inr (.inr (.inr ⟨a, b, vs, us, rfl, rfl, h1.sq, g1.sq, by rw [h2.length, g2.length]; exact Nat.le_trans h million, fun z => ?_, fun z1 z2 => ?_, fun z1 z2 p hp => ?_⟩)))
        · subst z
          cases h2
          exact q _ _ _ .refl (.tuple g1 g2)
        · subst z2
          cases g2
          have q2 := q F H (.ref a) .refl
          rw [List.append_nil] at q2
          exact q2 (.tuple h1 h2)
        · have g := Grow.one (F := F) (o := .tup (vs ++ us)) hp
          exact q _ _ _ g (.tuple (.inl ⟨.inr rfl, .inl upd_same⟩) ((h2.append g2).mono fun a f => g.keep hl a f))
      · rw [if_neg h] at e; cases e
    | int j => cases e
    | bool k => cases e
    | none => cases e
    | str _ => cases e
    | list _ _ => cases e
    | dict _ _ => cases e
/-! ### ints -/
/-- two ints in, by a partial function -/
def fI (g : Int → Int → Option PyData) : PyData → PyData → Option PyData
  | .int i, .int j => g i j
  | _, _ => none
theorem ok_fI {K : PySem.W.Frag} {r : R2} {g : Int → Int → Option PyData} (h : ∀ i j z H Q, g i j = some z → (∀ v, (∀ F H, RD K F H z v) → Q v H) → r (.int i) (.int j) H Q) : Op2 K r (fI g) := by
  intro F H dx dy vx vy z Q hl v1 v2 e q
  cases v1 with
  | int i =>
    cases v2 with
    | int j => exact h i j z H Q e fun v r => q _ _ _ .refl (r _ _)
    | none => cases e
    | bool b => cases e
    | str b => cases e
    | dict _ _ => cases e
    | list _ _ => cases e
    | tuple _ _ => cases e
  | none => cases e
  | bool b => cases e
  | str b => cases e
  | dict _ _ => cases e
  | list _ _ => cases e
  | tuple _ _ => cases e
def fSub := fI fun i j => some (.int (i - j))
theorem ok_sub {K : PySem.W.Frag} : Op2 K (rI0 fun i j => .int (i - j)) fSub := ok_fI fun i j z H Q e q => by
  cases e
  exact ⟨i, j, rfl, rfl, q _ fun _ _ => .int _⟩
def mulOk (i j : Int) : Bool := decide (i.natAbs < 18446744073709551616) || decide (j.natAbs < 18446744073709551616) || decide (i.natAbs.log2 + j.natAbs.log2 < 100000000)
def fMul := fI fun i j => if mulOk i j = true then some (.int (i * j)) else none
def rMul : R2 := fun x y H Q => rI CMul (fun i j => .int (i * j)) x y H Q ∨ rI CMulG (fun i j => .int (i * j)) x y H Q
theorem op_mulA {X : Cx} : OpR X (binaryOp .Mult) rMul := op_mul.or op_mulG
theorem ok_mul {K : PySem.W.Frag} : Op2 K rMul fMul := ok_fI fun i j z H Q e q => by
  by_cases h : mulOk i j = true
  · rw [if_pos h] at e
    cases e
    unfold mulOk at h
    rw [Bool.or_eq_true, Bool.or_eq_true] at h
    rcases h with (h | h) | h
    · have h := of_decide_eq_true h
      exact .inl ⟨i, j, rfl, rfl, .inl ⟨by omega, by omega⟩, q _ fun _ _ => .int _⟩
    · have h := of_decide_eq_true h
      exact .inl ⟨i, j, rfl, rfl, .inr ⟨by omega, by omega⟩, q _ fun _ _ => .int _⟩
    · have h : i.natAbs.log2 + j.natAbs.log2 < 100000000 := of_decide_eq_true h
      exact .inr ⟨i, j, rfl, rfl, h, q _ fun _ _ => .int _⟩
  · rw [if_neg h] at e; cases e
def fDiv := fI fun i j => if 0 < j ∧ j.natAbs.log2 < 9000 then some (.int (i / j)) else none
theorem ok_div {K : PySem.W.Frag} : Op2 K (rI CDivW fun i j => .int (i / j)) fDiv := ok_fI fun i j z H Q e q => by
  by_cases h : 0 < j ∧ j.natAbs.log2 < 9000
  · rw [if_pos h] at e
    cases e
    exact ⟨i, j, rfl, rfl, h, q _ fun _ _ => .int _⟩
  · rw [if_neg h] at e; cases e
def fMod := fI fun i j => if 0 < j then some (.int (i % j)) else none
theorem ok_mod {K : PySem.W.Frag} : Op2 K (rI (fun _ j => 0 < j) fun i j => .int (i % j)) fMod := ok_fI fun i j z H Q e q => by
  by_cases h : 0 < j
  · rw [if_pos h] at e
    cases e
    exact ⟨i, j, rfl, rfl, h, q _ fun _ _ => .int _⟩
  · rw [if_neg h] at e; cases e
def fPow := fI fun i j => if 0 ≤ j ∧ j ≤ 1000000 ∧ i.natAbs < 18446744073709551616 then some (.int (i ^ j.toNat)) else none
theorem ok_pow {K : PySem.W.Frag} : Op2 K (rI CPow fun i j => .int (i ^ j.toNat)) fPow := ok_fI fun i j z H Q e q => by
  by_cases h : 0 ≤ j ∧ j ≤ 1000000 ∧ i.natAbs < 18446744073709551616
  · rw [if_pos h] at e
    cases e
    exact ⟨i, j, rfl, rfl, h, q _ fun _ _ => .int _⟩
  · rw [if_neg h] at e; cases e
def fCmpI (g : Int → Int → Bool) := fI fun i j => some (.bool (g i j))
theorem ok_cmpI {K : PySem.W.Frag} {g : Int → Int → Bool} : Op2 K (rI0 fun i j => .bl (g i j)) (fCmpI g) := ok_fI fun i j z H Q e q => by
  cases e
  exact ⟨i, j, rfl, rfl, q _ fun _ _ => .bool _⟩
def fNeg : PyData → Option PyData
  | .int i => some (.int (-i))
  | _ => none
theorem ok_neg {K : PySem.W.Frag} : Op1 K (rU fun i => .int (-i)) fNeg := by
  intro F H dx vx z Q hl v1 e q
  cases v1 with
  | int i => cases e; exact ⟨i, rfl, q _ _ _ .refl (.int _)⟩
  | none => cases e
  | bool b => cases e
  | str b => cases e
  | dict _ _ => cases e
  | list _ _ => cases e
  | tuple _ _ => cases e
/-! ### == -/
def scalD : PyData → PyData → Bool
  | .none, .none => true | .none, .int _ => true | .int _, .none => true | .none, .bool _ => true | .bool _, .none => true | .none, .str _ => true | .str _, .none => true
  | .int _, .int _ => true | .bool _, .bool _ => true | .str _, .str _ => true
  | .int _, .str _ => true | .str _, .int _ => true | .bool _, .str _ => true | .str _, .bool _ => true
  | _, _ => false
def fEq (x y : PyData) : Option PyData := if scalD x y = true then some (.bool (PyData.eqv x y)) else if (SeqAt.shaped x && SeqAt.shaped y) = true then some (.bool (PyData.eqv x y)) else none
def fNe (x y : PyData) : Option PyData := if scalD x y = true then some (.bool (!PyData.eqv x y)) else if (SeqAt.shaped x && SeqAt.shaped y) = true then some (.bool (!PyData.eqv x y)) else none
theorem scal_ok {K : PySem.W.Frag} {F : Addr → Prop} {H : Hp} {dx dy : PyData} {vx vy : V} (v1 : View K F H dx vx) (v2 : View K F H dy vy) (h : scalD dx dy = true) : scal vx vy = true ∧ decide (vx = vy) = PyData.eqv dx dy := by
  cases v1 with
  | none => cases v2 <;> first | (cases h; done) | (refine ⟨rfl, ?_⟩; first | (simp [PyData.eqv]; done) | simp only [PyData.eqv, Bool.beq_eq_decide_eq, V.bl.injEq, V.int.injEq, V.str.injEq])
  | bool b => cases v2 <;> first | (cases h; done) | (refine ⟨rfl, ?_⟩; first | (simp [PyData.eqv]; done) | simp only [PyData.eqv, Bool.beq_eq_decide_eq, V.bl.injEq, V.int.injEq, V.str.injEq])
  | int b => cases v2 <;> first | (cases h; done) | (refine ⟨rfl, ?_⟩; first | (simp [PyData.eqv]; done) | simp only [PyData.eqv, Bool.beq_eq_decide_eq, V.bl.injEq, V.int.injEq, V.str.injEq])
  | str b => cases v2 <;> first | (cases h; done) | (refine ⟨rfl, ?_⟩; first | (simp [PyData.eqv]; done) | simp only [PyData.eqv, Bool.beq_eq_decide_eq, V.bl.injEq, V.int.injEq, V.str.injEq])
  | dict _ _ => cases v2 <;> cases h
  | list _ _ => cases v2 <;> cases h
  | tuple _ _ => cases v2 <;> cases h
def rEqA (K : PySem.W.Frag) : R2 := fun x y H Q => rEq x y H Q ∨ rEqD K x y H Q
def rNeA (K : PySem.W.Frag) : R2 := fun x y H Q => rNe x y H Q ∨ rNeD K x y H Q
theorem op_eqA {X : Cx} (hu : X.A.units + 64 < cLine) : OpR X (compareOp .Eq) (rEqA X.K) := op_eq.or (op_eqD hu)
theorem op_neA {X : Cx} (hu : X.A.units + 64 < cLine) : OpR X (compareOp .NotEq) (rNeA X.K) := op_ne.or (op_neD hu)
theorem ok_eq {K : PySem.W.Frag} : Op2 K (rEqA K) fEq := by
  intro F H dx dy vx vy z Q hl v1 v2 e q
  unfold fEq at e
  by_cases h : scalD dx dy = true
  · rw [if_pos h] at e
    cases e
    obtain ⟨h1, h2⟩ := scal_ok v1 v2 h
    exact .inl ⟨h1, by rw [h2]; exact q _ _ _ .refl (.bool _)⟩
  · rw [if_neg h] at e
    by_cases h' : (SeqAt.shaped dx && SeqAt.shaped dy) = true
    · rw [if_pos h'] at e
      cases e
      rw [Bool.and_eq_true] at h'
      exact .inr ⟨dx, dy, v1.dp (SeqAt.canLay_of_shaped h'.1), v2.dp (SeqAt.canLay_of_shaped h'.2), h'.1, h'.2, q _ _ _ .refl (.bool _)⟩
    · rw [if_neg h'] at e; cases e
theorem ok_ne {K : PySem.W.Frag} : Op2 K (rNeA K) fNe := by
  intro F H dx dy vx vy z Q hl v1 v2 e q
  unfold fNe at e
  by_cases h : scalD dx dy = true
  · rw [if_pos h] at e
    cases e
    obtain ⟨h1, h2⟩ := scal_ok v1 v2 h
    exact .inl ⟨h1, by rw [h2]; exact q _ _ _ .refl (.bool _)⟩
  · rw [if_neg h] at e
    by_cases h' : (SeqAt.shaped dx && SeqAt.shaped dy) = true
    · rw [if_pos h'] at e
      cases e
      rw [Bool.and_eq_true] at h'
      exact .inr ⟨dx, dy, v1.dp (SeqAt.canLay_of_shaped h'.1), v2.dp (SeqAt.canLay_of_shaped h'.2), h'.1, h'.2, q _ _ _ .refl (.bool _)⟩
    · rw [if_neg h'] at e; cases e
/-! ### is None -/
def isN : PyData → Bool
  | .none => true
  | _ => false
def fIsN (x y : PyData) : Option PyData := match y with
  | .none => some (.bool (isN x))
  | _ => none
def fNotN (x y : PyData) : Option PyData := match y with
  | .none => some (.bool (!isN x))
  | _ => none
theorem isN_ok {K : PySem.W.Frag} {F : Addr → Prop} {H : Hp} {dx : PyData} {vx : V} (v1 : View K F H dx vx) : decide (vx = .non) = isN dx := by
  cases v1 <;> simp [isN]
theorem ok_isN {K : PySem.W.Frag} : Op2 K (fun x y H Q => y = .non ∧ Q (.bl (decide (x = .non))) H) fIsN := by
  intro F H dx dy vx vy z Q hl v1 v2 e q
  cases v2 with
  | none => cases e; exact ⟨rfl, by rw [isN_ok v1]; exact q _ _ _ .refl (.bool _)⟩
  | int i => cases e
  | bool b => cases e
  | str b => cases e
  | dict _ _ => cases e
  | list _ _ => cases e
  | tuple _ _ => cases e
theorem ok_notN {K : PySem.W.Frag} : Op2 K (fun x y H Q => y = .non ∧ Q (.bl (!decide (x = .non))) H) fNotN := by
  intro F H dx dy vx vy z Q hl v1 v2 e q
  cases v2 with
  | none => cases e; exact ⟨rfl, by rw [isN_ok v1]; exact q _ _ _ .refl (.bool _)⟩
  | int i => cases e
  | bool b => cases e
  | str b => cases e
  | dict _ _ => cases e
  | list _ _ => cases e
  | tuple _ _ => cases e
end MP
/-! Part H: subscripts, built-in functions, isinstance. -/
namespace MP
open PySem PySem.Spec PyProof.Rows L2
/-! ### places -/
theorem atI_rds {K : PySem.W.Frag} {F : Addr → Prop} {H : Hp} {ds : List PyData} {vs : List V} (h : RDs K F H ds vs) {i : Int} {d : PyData} (e : atI ds i = some d) : ∃ v, atI vs i = some v ∧ RD K F H d v := by
  unfold atI at e ⊢
  rw [h.length]
  cases e1 : ixN ds.length i with
  | none => rw [e1] at e; cases e
  | some j =>
    rw [e1] at e
    exact h.get (i := j) e
/-- an item of a list, a tuple, a text, a dict -/
def keyOf : PyData → Option Key
  | .int i => some (.inl i)
  | .str x => some (.inr x)
  | _ => none
def dLook (kvs : List (PyData × PyData)) (k : Key) : Option PyData := (kvs.find? fun p => decide (keyOf p.1 = some k)).map (·.2)
def fIx : PyData → PyData → Option PyData
  | .list xs, .int i => atI xs i
  | .tuple xs, .int i => atI xs i
  | .str x, .int i => if x.length ≤ 1000000 then (atI x.cps.toList i).map fun c => .str ⟨#[c]⟩ else none
  | .dict kvs, k => match keyOf k with
    | some k => dLook kvs k
    | none => none
  | _, _ => none
def rIxD : R2 := fun x y H Q => ∃ a v, x = .ref a ∧ DGet H a y (some v) ∧ Q v H
theorem ix_dic {X : Cx} (hu : X.A.units + 1 < cLine) : IxR X rIxD := by
  intro value slice pins s σ H x y v u Q I rx ry h hs
  obtain ⟨a, w, rfl, g, q⟩ := h
  cases rx
  have hT := dict_typeIs I g
  unfold subscriptTail
  refine wpAny_bind ?_
  rw [getitemInPython_of_ne hT.not_modules]
  refine wpAny_bind (wpAny_specialOf hT PySem.F.slot_dict_getitem.lookup ?_)
  have fin : wpAny (model X.prog X.w) X.A (subscripted slice false (.ref a) u) (fun r s₃ => wpAny (model X.prog X.w) X.A (letTemporaryGo value (.ref a) r >>= fun _ => pure r) (EP X pins σ Q) X.xe s₃) X.xe s := by
    rw [hs]
    exact wpAny_operating (wpAny_mono (d_getItem (E := X.xe) (Q := EP X pins σ Q) hu I g ry fun w' s3 I3 rw' => ⟨w, H, I3, rw', q⟩) (fun r s₃ h₃ => wpAny_bind (wpAny_letTemporaryGo (wpAny_pure h₃))) fun _ _ x => x)
  first
    | exact wpAny_pure (wpAny_bind fin)
    | exact wpAny_bind (wpAny_pure (wpAny_bind fin))
    | exact wpAny_bind fin
theorem rdkv_look {K : PySem.W.Frag} {F : Addr → Prop} {H : Hp} {k : Key} {d : PyData} : ∀ {ds : List (PyData × PyData)} {kvs : List (Key × V)}, RDkv K F H ds kvs → dLook ds k = some d → ∃ v, valV kvs k = some v ∧ RD K F H d v
  | _, _, .nil, e => by cases e
  | _, _, .consI (i := i) (d := d') (ds := ds) (v := v) (kvs := kvs) h1 h2, e => by
    unfold dLook at e
    rw [List.find?_cons] at e
    by_cases q : (Sum.inl i : Key) = k
    · have hd : decide (keyOf (PyData.int i) = some k) = true := decide_eq_true (by rw [← q]; rfl)
      rw [hd] at e
      cases e
      exact ⟨v, valV_pos (p := (Sum.inl i, v)) q, h1⟩
    · have hd : decide (keyOf (PyData.int i) = some k) = false := decide_eq_false (fun z => q (Option.some.inj z))
      rw [hd] at e
      obtain ⟨v', e1, e2⟩ := rdkv_look h2 e
      exact ⟨v', by rw [valV_neg (p := (Sum.inl i, v)) q]; exact e1, e2⟩
  | _, _, .consS (x := i) (d := d') (ds := ds) (v := v) (kvs := kvs) h1 h2, e => by
    unfold dLook at e
    rw [List.find?_cons] at e
    by_cases q : (Sum.inr i : Key) = k
    · have hd : decide (keyOf (PyData.str i) = some k) = true := decide_eq_true (by rw [← q]; rfl)
      rw [hd] at e
      cases e
      exact ⟨v, valV_pos (p := (Sum.inr i, v)) q, h1⟩
    · have hd : decide (keyOf (PyData.str i) = some k) = false := decide_eq_false (fun z => q (Option.some.inj z))
      rw [hd] at e
      obtain ⟨v', e1, e2⟩ := rdkv_look h2 e
      exact ⟨v', by rw [valV_neg (p := (Sum.inr i, v)) q]; exact e1, e2⟩
def rIxA (K : PySem.W.Frag) : R2 := fun x y H Q => rIx K x y H Q ∨ rIxD x y H Q
theorem ix_A {X : Cx} (hu : X.A.units + 1 < cLine) : IxR X (rIxA X.K) := ix_seq.or (ix_dic hu)
theorem ok_ix {K : PySem.W.Frag} : Op2 K (rIxA K) fIx := by
  intro F H dx dy vx vy z Q hl v1 v2 e q
  cases v1 with
  | none => cases e
  | bool b => cases e
  | int b => cases e
  | str x =>
    cases v2 with
    | int i =>
      have e : (if x.length ≤ 1000000 then (atI x.cps.toList i).map fun c => PyData.str ⟨#[c]⟩ else Option.none) = some z := e
      by_cases h : x.length ≤ 1000000
      · rw [if_pos h] at e
        cases e1 : atI x.cps.toList i with
        | none => rw [e1] at e; cases e
        | some c =>
          rw [e1] at e
          cases e
          exact .inl (.inr (.inr ⟨x, i, c, rfl, rfl, Nat.le_trans h million, e1, q _ _ _ .refl (.str _)⟩))
      · rw [if_neg h] at e; cases e
    | none => cases e
    | bool b => cases e
    | str b => cases e
    | dict _ _ => cases e
    | list _ _ => cases e
    | tuple _ _ => cases e
  | @list a vs xs h1 h2 =>
    cases v2 with
    | int i =>
      obtain ⟨v, e1, e2⟩ := atI_rds h2 (show atI xs i = some z from e)
      exact .inl (.inl ⟨a, vs, i, v, rfl, rfl, h1, e1, q _ _ _ .refl e2⟩)
    | none => cases e
    | bool b => cases e
    | str b => cases e
    | dict _ _ => cases e
    | list _ _ => cases e
    | tuple _ _ => cases e
  | @tuple a vs xs h1 h2 =>
    cases v2 with
    | int i =>
      obtain ⟨v, e1, e2⟩ := atI_rds h2 (show atI xs i = some z from e)
      exact .inl (.inr (.inl ⟨a, vs, i, v, rfl, rfl, h1.sq, e1, q _ _ _ .refl e2⟩))
    | none => cases e
    | bool b => cases e
    | str b => cases e
    | dict _ _ => cases e
    | list _ _ => cases e
    | tuple _ _ => cases e
  | @dict a kvs ds h1 h2 =>
    cases v2 with
    | int i =>
      obtain ⟨v, e1, e2⟩ := rdkv_look h2 (show dLook ds (.inl i) = some z from e)
      exact .inr ⟨a, v, rfl, by rw [← e1]; exact DGet.k (k := .inl i) h1, q _ _ _ .refl e2⟩
    | str i =>
      obtain ⟨v, e1, e2⟩ := rdkv_look h2 (show dLook ds (.inr i) = some z from e)
      exact .inr ⟨a, v, rfl, by rw [← e1]; exact DGet.k (k := .inr i) h1, q _ _ _ .refl e2⟩
    | none => cases e
    | bool b => cases e
    | dict _ _ => cases e
    | list _ _ => cases e
    | tuple _ _ => cases e
section
variable {K : PySem.W.Frag} {CL : CA} {G G1 : Gh} {H H1 : Hp} {s s1 : S} {σ : L2.St} {n n1 : Nat} {α β γ δ : Type} {R : Rel α β} {Wx : WX} {X : Cx}
theorem je_ix {a b : Expr} {oa ob : Opd} {pos : Pos} (hu : X.A.units + 1 < cLine) (hs : PlainIx b) (ha : JO CL X Wx a oa) (hb : JO CL X Wx b ob) : JE CL X Wx (.Subscript a b pos) (cP2 fIx oa ob) :=
  pe_imp (pe_ix (ix_A hu) ha hb hs) fun _ _ _ q => cP2_ok ok_ix q
/-! ### built-in functions of operands -/
def resolves (s : S) : List Tok → Option (List PyData)
  | [] => some []
  | t :: ts => match resolve s t with
    | some x => match resolves s ts with
      | some xs => some (x :: xs)
      | none => none
    | none => none
def cPN (f : List PyData → Option PyData) (os : List Opd) : EM W := eb (cList (os.map opd)) fun ts s => match resolves s ts with
  | some xs => match f xs with
    | some z => .ok (.d z) s
    | none => .stuck
  | none => .stuck
def OpN (K : PySem.W.Frag) (r : List V → Hp → VK → Prop) (f : List PyData → Option PyData) : Prop :=
  ∀ (F : Addr → Prop) (H : Hp) (ds : List PyData) (vs : List V) (z : PyData) (Q : VK), (∀ a, F a → ∃ o, H a = some o) → Paired (View K F H) ds vs → f ds = some z →
    (∀ F' H' v, Grow F F' H H' → RD K F' H' z v → Q v H') → r vs H Q
theorem resolves_view (S : SR K CL G s σ H) : ∀ {ts : List Tok} {vs : List V} {xs : List PyData}, rL (rTok K) G σ H ts vs → resolves s ts = some xs → Paired (View K G.F H) xs vs
  | _, _, _, .nil, e => by cases e; exact .nil
  | t :: ts, _, _, .cons r rs, e => by
    unfold resolves at e
    cases e1 : resolve s t with
    | none => simp only [e1] at e; cases e
    | some x =>
      cases e2 : resolves s ts with
      | none => simp only [e1, e2] at e; cases e
      | some xs =>
        simp only [e1, e2] at e
        cases e
        exact .cons (resolve_view S r e1) (resolves_view S rs e2)
inductive JOs (CL : CA) (X : Cx) (Wx : WX) : List Expr → List Opd → Prop
  | nil : JOs CL X Wx [] []
  | cons {e : Expr} {es : List Expr} {o : Opd} {os : List Opd} (h : JO CL X Wx e o) (hs : starEach (e :: es) X.env = (false, eval e X.env) :: starEach es X.env) (t : JOs CL X Wx es os) : JOs CL X Wx (e :: es) (o :: os)
theorem JOs.ja {es : List Expr} {os : List Opd} (h : JOs CL X Wx es os) : JA CL (rTok X.K) X Wx es (os.map opd) := by
  induction h with
  | nil => exact .nil
  | cons h hs t ih => exact .cons h hs ih
theorem cPN_ok {r : List V → Hp → VK → Prop} {f : List PyData → Option PyData} (ho : OpN K r f) {os : List Opd} {Q : VK} (q : tOf K CL (rWs K) Wx (cPN f os) σ H Q) :
    tOf K CL (rL (rTok K)) Wx (cList (os.map opd)) σ H (fun vs H1 => r vs H1 Q) := by
  refine (tOf.bind (R := rL (rTok K)) q).mono fun vs H1 ⟨G1, s1, ts, S1, r1, q⟩ => ?_
  cases e1 : resolves s1 ts with
  | none => simp only [e1] at q; exact q.elim
  | some x =>
    cases e3 : f x with
    | none => simp only [e1, e3] at q; exact q.elim
    | some z =>
      simp only [e1, e3] at q
      exact ho G1.F H1 x vs z Q S1.liveF (resolves_view S1 r1 e1) e3 (fin_grow S1 q)
theorem je_fnB {r : List V → Hp → VK → Prop} {f : List PyData → Option PyData} {x : Str} {id : String} {p pos : Pos} {e : Expr} {es : List Expr} {os : List Opd} (ho : OpN X.K r f) (hc : CallR X (.builtin id) r) (hg : Gl X x) (hm : X.mg x = none) (hv : bootBuiltins x = some (.builtin id)) (hn : x ≠ "__name__") (hdb : (x == ("__debug__" : Str)) = false)
    (h : JOs CL X Wx (e :: es) os) : JE CL X Wx (.Call (.Name x p) (e :: es) [] pos) (cPN f os) := by
  have hs : starEach (e :: es) X.env = (false, eval e X.env) :: starEach es X.env := by cases h; assumption
  have ht : (backTo pos (starEach es X.env)).any (·.1) = false := by
    cases h with
    | cons _ _ t => exact t.ja.noStar
  exact pe_imp (pe_callB hc hg hm hv (h.ja.pa lasts_Tok) hn hdb hs ht) fun _ _ _ q => cPN_ok ho q
theorem je_fnT {r : List V → Hp → VK → Prop} {f : List PyData → Option PyData} {x : Str} {id : String} {p pos : Pos} {e : Expr} {es : List Expr} {os : List Opd} (ho : OpN X.K r f) (hc : CallR X (.type id) r) (hg : Gl X x) (hm : X.mg x = none) (hv : bootBuiltins x = some (.type id)) (hn : x ≠ "__name__") (hdb : (x == ("__debug__" : Str)) = false)
    (h : JOs CL X Wx (e :: es) os) : JE CL X Wx (.Call (.Name x p) (e :: es) [] pos) (cPN f os) := by
  have hs : starEach (e :: es) X.env = (false, eval e X.env) :: starEach es X.env := by cases h; assumption
  have ht : (backTo pos (starEach es X.env)).any (·.1) = false := by
    cases h with
    | cons _ _ t => exact t.ja.noStar
  exact pe_imp (pe_callTy hc hg hm hv (h.ja.pa lasts_Tok) hn hdb hs ht) fun _ _ _ q => cPN_ok ho q
theorem je_fnI {r : List V → Hp → VK → Prop} {f : List PyData → Option PyData} {x : Str} {id : String} {p pos : Pos} {e : Expr} {es : List Expr} {os : List Opd} (ho : OpN X.K r f) (hc : CallR X (.builtin id) r) (hg : Gl X x) (hm : X.mg x = some (.builtin id)) (hdb : (x == ("__debug__" : Str)) = false)
    (h : JOs CL X Wx (e :: es) os) : JE CL X Wx (.Call (.Name x p) (e :: es) [] pos) (cPN f os) := by
  have hs : starEach (e :: es) X.env = (false, eval e X.env) :: starEach es X.env := by cases h; assumption
  have ht : (backTo pos (starEach es X.env)).any (·.1) = false := by
    cases h with
    | cons _ _ t => exact t.ja.noStar
  exact pe_imp (pe_callBfun hc hg hm (h.ja.pa lasts_Tok) hdb hs ht) fun _ _ _ q => cPN_ok ho q
end
/-- one argument -/
def f1 (g : PyData → Option PyData) : List PyData → Option PyData
  | [x] => g x
  | _ => none
theorem ok_f1 {K : PySem.W.Frag} {r : List V → Hp → VK → Prop} {g : PyData → Option PyData} (h : Op1 K (fun v H Q => r [v] H Q) g) : OpN K r (f1 g) := by
  intro F H ds vs z Q hl v e q
  cases v with
  | nil => cases e
  | cons v1 t =>
    cases t with
    | nil => exact h F H _ _ z Q hl v1 e q
    | cons _ _ => cases e
def f2 (g : PyData → PyData → Option PyData) : List PyData → Option PyData
  | [x, y] => g x y
  | _ => none
theorem ok_f2 {K : PySem.W.Frag} {r : List V → Hp → VK → Prop} {g : PyData → PyData → Option PyData} (h : Op2 K (fun v u H Q => r [v, u] H Q) g) : OpN K r (f2 g) := by
  intro F H ds vs z Q hl v e q
  cases v with
  | nil => cases e
  | cons v1 t =>
    cases t with
    | nil => cases e
    | cons v2 t =>
      cases t with
      | nil => exact h F H _ _ _ _ z Q hl v1 v2 e q
      | cons _ _ => cases e
def fLen : PyData → Option PyData
  | .str x => if x.length ≤ 1000000 then some (.int x.length) else none
  | .list xs => some (.int xs.length)
  | .tuple xs => some (.int xs.length)
  | _ => none
theorem ok_len {K : PySem.W.Frag} : OpN K (fun xs H Q => ∃ x n, xs = [x] ∧ LenV K x H n ∧ Q (.int n) H) (f1 fLen) := ok_f1 fun F H dx vx z Q hl v1 e q => by
  cases v1 with
  | none => cases e
  | bool b => cases e
  | int b => cases e
  | dict _ _ => cases e
  | str x =>
    have e : (if x.length ≤ 1000000 then some (PyData.int x.length) else Option.none) = some z := e
    by_cases h : x.length ≤ 1000000
    · rw [if_pos h] at e
      cases e
      exact ⟨_, _, rfl, ⟨Nat.le_trans h million, rfl⟩, q _ _ _ .refl (.int _)⟩
    · rw [if_neg h] at e; cases e
  | list h1 h2 => cases e; exact ⟨_, _, rfl, .inl ⟨_, h1, h2.length.symm⟩, q _ _ _ .refl (.int _)⟩
  | tuple h1 h2 => cases e; exact ⟨_, _, rfl, .inr ⟨_, h1.sq, h2.length.symm⟩, q _ _ _ .refl (.int _)⟩
def fAbs : PyData → Option PyData
  | .int i => some (.int (if i < 0 then -i else i))
  | _ => none
theorem ok_abs {K : PySem.W.Frag} : OpN K (fun xs H Q => ∃ i, xs = [.int i] ∧ Q (.int (if i < 0 then -i else i)) H) (f1 fAbs) := ok_f1 fun F H dx vx z Q hl v1 e q => by
  cases v1 with
  | int b => cases e; exact ⟨b, rfl, q _ _ _ .refl (.int _)⟩
  | none => cases e
  | bool b => cases e
  | str b => cases e
  | dict _ _ => cases e
  | list _ _ => cases e
  | tuple _ _ => cases e
def fInt : PyData → Option PyData
  | .int i => some (.int i)
  | .bool k => some (.int (if k then 1 else 0))
  | _ => none
theorem ok_int {K : PySem.W.Frag} : OpN K (fun xs H Q => (∃ i, xs = [.int i] ∧ Q (.int i) H) ∨ ∃ k, xs = [.bl k] ∧ Q (.int (if k then 1 else 0)) H) (f1 fInt) := ok_f1 fun F H dx vx z Q hl v1 e q => by
  cases v1 with
  | int b => cases e; exact .inl ⟨b, rfl, q _ _ _ .refl (.int _)⟩
  | bool b => cases e; exact .inr ⟨b, rfl, q _ _ _ .refl (.int _)⟩
  | none => cases e
  | str b => cases e
  | dict _ _ => cases e
  | list _ _ => cases e
  | tuple _ _ => cases e
def fGcd : PyData → PyData → Option PyData := fI fun a b => some (.int ((Nat.gcd a.natAbs b.natAbs : Nat) : Int))
theorem ok_gcd {K : PySem.W.Frag} : OpN K rGcd (f2 fGcd) := ok_f2 (ok_fI fun i j z H Q e q => by
  cases e
  exact ⟨i, j, rfl, q _ fun _ _ => .int _⟩)
def fTupleOf : PyData → Option PyData
  | .list xs => some (.tuple xs)
  | .tuple xs => some (.tuple xs)
  | _ => none
theorem ok_tupleOf {K : PySem.W.Frag} : OpN K (fun xs H Q => ∃ p ys, xs = [.ref p] ∧ ((SqL K H p ys ∧ ∀ l, H l = none → Q (.ref l) (upd H l (.tup ys))) ∨ (SqT K H p ys ∧ Q (.ref p) H))) (f1 fTupleOf) := ok_f1 fun F H dx vx z Q hl v1 e q => by
  cases v1 with
  | list h1 h2 =>
    cases e
    refine ⟨_, _, rfl, .inl ⟨h1, fun l hp => ?_⟩⟩
    exact q _ _ _ (Grow.one hp) (.tuple (.inl ⟨.inr rfl, .inl upd_same⟩) (h2.mono fun a f => (Grow.one hp).keep hl a f))
  | tuple h1 h2 => cases e; exact ⟨_, _, rfl, .inr ⟨h1.sq, q _ _ _ .refl (.tuple h1 h2)⟩⟩
  | none => cases e
  | bool b => cases e
  | int b => cases e
  | str b => cases e
  | dict _ _ => cases e
def allB : List PyData → Option (List Bool)
  | [] => some []
  | .bool b :: r => match allB r with
    | some bs => some (b :: bs)
    | none => none
  | _ => none
theorem allB_ok {K : PySem.W.Frag} {F : Addr → Prop} {H : Hp} : ∀ {ds : List PyData} {vs : List V} {bs : List Bool}, RDs K F H ds vs → allB ds = some bs → vs = bs.map V.bl
  | _, _, _, .nil, e => by cases e; rfl
  | _, _, bs, .cons (d := d) (ds := ds) h1 h2, e => by
    cases h1 with
    | bool b =>
      unfold allB at e
      cases e2 : allB ds with
      | none => simp only [e2] at e; cases e
      | some bs' =>
        simp only [e2] at e
        cases e
        rw [allB_ok h2 e2]
        rfl
    | none => cases e
    | int b => cases e
    | str b => cases e
    | dict _ _ => cases e
    | list _ _ => cases e
    | tuple _ _ => cases e
def fAll : PyData → Option PyData
  | .list xs => (allB xs).map fun bs => .bool (bs.all id)
  | _ => none
def fAny : PyData → Option PyData
  | .list xs => (allB xs).map fun bs => .bool (bs.any id)
  | _ => none
theorem ok_all {K : PySem.W.Frag} : OpN K (rAll K) (f1 fAll) := ok_f1 fun F H dx vx z Q hl v1 e q => by
  cases v1 with
  | @list a vs xs h1 h2 =>
    have e : (allB xs).map (fun bs => PyData.bool (bs.all id)) = some z := e
    cases e1 : allB xs with
    | none => rw [e1] at e; cases e
    | some bs =>
      rw [e1] at e
      cases e
      exact ⟨a, bs, rfl, by rw [← allB_ok h2 e1]; exact h1, q _ _ _ .refl (.bool _)⟩
  | tuple h1 h2 => cases e
  | none => cases e
  | bool b => cases e
  | int b => cases e
  | str b => cases e
  | dict _ _ => cases e
theorem ok_any {K : PySem.W.Frag} : OpN K (rAny K) (f1 fAny) := ok_f1 fun F H dx vx z Q hl v1 e q => by
  cases v1 with
  | @list a vs xs h1 h2 =>
    have e : (allB xs).map (fun bs => PyData.bool (bs.any id)) = some z := e
    cases e1 : allB xs with
    | none => rw [e1] at e; cases e
    | some bs =>
      rw [e1] at e
      cases e
      exact ⟨a, bs, rfl, by rw [← allB_ok h2 e1]; exact h1, q _ _ _ .refl (.bool _)⟩
  | tuple h1 h2 => cases e
  | none => cases e
  | bool b => cases e
  | int b => cases e
  | str b => cases e
  | dict _ _ => cases e
/-! ### isinstance with a built-in class -/
inductive Ty where
  | int | bool | str | tuple | list | dict
  deriving DecidableEq
def Ty.name : Ty → String
  | .int => "int" | .bool => "bool" | .str => "str" | .tuple => "tuple" | .list => "list" | .dict => "dict"
def isT : Ty → PyData → Bool
  | .int, .int _ => true | .int, .bool _ => true | .bool, .bool _ => true | .str, .str _ => true
  | .tuple, .tuple _ => true | .list, .list _ => true | .dict, .dict _ => true
  | _, _ => false
def tyN : PyData → String
  | .none => "NoneType" | .bool _ => "bool" | .int _ => "int" | .str _ => "str" | .list _ => "list" | .tuple _ => "tuple" | .dict _ => "dict"
def isTN (T : Ty) (n : String) : Bool := match T with
  | .int => n == "int" || n == "bool"
  | T => n == T.name
theorem isT_isTN (T : Ty) (d : PyData) : isT T d = isTN T (tyN d) := by
  cases T <;> cases d <;> first | rfl | decide
theorem kit_all (T : Ty) (d : PyData) : kitB (tyN d) T.name = some (isT T d) := by
  rw [isT_isTN]
  cases T <;> cases d <;> (show kitB _ _ = some (MP.isTN _ _); simp only [tyN, Ty.name]; decide +kernel)
theorem view_ty {K : PySem.W.Frag} {F : Addr → Prop} {H : Hp} {d : PyData} {v : V} (h : View K F H d v) : TyX K H v (.type (tyN d)) := by
  cases h with
  | none => exact .base .non
  | bool b => exact .base (.bl b)
  | int b => exact .base (.int b)
  | str b => exact .base (.str b)
  | list h1 h2 =>
    rcases h1 with (h | ⟨o, h⟩) | ⟨o, its, n, h1, h2, h3⟩
    · exact .base (.lst h)
    · exact .base (.frz h)
    · exact .kList h1 h2
  | tuple h1 h2 =>
    rcases h1 with ⟨f, h | ⟨o, h⟩⟩ | ⟨o, its, n, h1, h2, h3⟩
    · exact .base (.tup h)
    · exact .fTuple h
    · exact .kTuple h1 h2
  | dict h1 h2 => exact .base (.dK h1)
def fIsi (T : Ty) (d : PyData) : Option PyData := some (.bool (isT T d))
theorem je_isi {CL : CA} {Wx : WX} {X : Cx} {T : Ty} {x tn : Str} {p p2 pos : Pos} {e : Expr} {o : Opd} (hg : Gl X x) (hm : X.mg x = none) (hv : bootBuiltins x = some (.builtin "isinstance")) (hn : x ≠ "__name__") (hdb : (x == ("__debug__" : Str)) = false)
    (tg : Gl X tn) (tm : X.mg tn = none) (tv : bootBuiltins tn = some (.type T.name)) (tnn : tn ≠ "__name__") (tdb : (tn == ("__debug__" : Str)) = false) (h : JO CL X Wx e o) (hs : starEach (e :: [.Name tn p2]) X.env = (false, eval e X.env) :: starEach [.Name tn p2] X.env) :
    JE CL X Wx (.Call (.Name x p) (e :: [.Name tn p2]) [] pos) (cP1 (fIsi T) o) :=
  pe_imp (pe_callB call_isi hg hm hv (pa_cons h (pa_cons (pe_bltn (v := .ty T.name) tg tm tv rfl tnn tdb) pa_nil) hs) hn hdb hs) fun σ H Q q => by
    refine (cP1_ok (r := fun v H Q => rIsi X.K [v, .ty T.name] H Q) ?_ q).mono fun v H1 q => q
    intro F H dx vx z Q hl v1 e q
    cases e
    exact ⟨vx, .ty T.name, _, _, isT T dx, rfl, .ty _, view_ty v1, kit_ty (kit_all T dx), q _ _ _ .refl (.bool _)⟩
end MP
/-! Part I: statements. -/
namespace MP
open PySem PySem.Spec PyProof.Rows L2
inductive Fl where
  | next | brk | cont
  | ret (w : W)
def PostS (K : PySem.W.Frag) (CL : CA) (Wx : WX) (D : Ends) (G : Gh) (n : Nat) (H : Hp) (r : Res Fl) : Prop :=
  match r with
  | .ok .next s' => ∀ G' σ' H', Fut G H n G' H' s'.mem.length → SR K CL G' s' σ' H' → D.nx σ' H'
  | .ok .brk s' => ∀ G' σ' H', Fut G H n G' H' s'.mem.length → SR K CL G' s' σ' H' → D.bk σ' H'
  | .ok .cont s' => ∀ G' σ' H', Fut G H n G' H' s'.mem.length → SR K CL G' s' σ' H' → D.ct σ' H'
  | .ok (.ret w) s' => ∀ G' σ' v H', Fut G H n G' H' s'.mem.length → SR K CL G' s' σ' H' → RW K G' H' w v → D.rt v H'
  | .raise x s' => ∀ G' σ' H' cls d, Fut G H n G' H' s'.mem.length → SR K CL G' s' σ' H' → RX CL x cls d → Wx cls d σ' H'
  | .stuck => False
def tsOf (K : PySem.W.Frag) (CL : CA) (Wx : WX) (m : EM Fl) : TS := fun D σ H => ∃ G s, SR K CL G s σ H ∧ PostS K CL Wx D G s.mem.length H (m s)
section
variable {K : PySem.W.Frag} {CL : CA} {G G1 G' : Gh} {H H1 H' : Hp} {s s1 : S} {σ : L2.St} {n n1 n' : Nat} {α β γ δ : Type} {R : Rel α β} {Wx : WX} {X : Cx} {p : Addr} {D D' : Ends}
theorem PostS.later {r : Res Fl} (f : Fut G H n G1 H1 n1) (h : PostS K CL Wx D G n H r) : PostS K CL Wx D G1 n1 H1 r := by
  cases r with
  | ok a s' =>
    cases a with
    | next => exact fun G' σ' H' f' S' => h G' σ' H' (f.trans f') S'
    | brk => exact fun G' σ' H' f' S' => h G' σ' H' (f.trans f') S'
    | cont => exact fun G' σ' H' f' S' => h G' σ' H' (f.trans f') S'
    | ret w => exact fun G' σ' v H' f' S' r => h G' σ' v H' (f.trans f') S' r
  | raise x s' => exact fun G' σ' H' cls d f' S' r => h G' σ' H' cls d (f.trans f') S' r
  | stuck => exact h
/-- an expression, then the rest of a statement -/
theorem PostS.bind {m : EM α} {f : α → EM Fl} (h : PostS K CL Wx D G n H (eb m f s)) (S0 : ∀ G' H', Fut G H n G' H' n' → True) :
    Post K CL R Wx G n σ H (m s) (fun b H1 => ∃ G1 s1 a, Fut G H n G1 H1 s1.mem.length ∧ SR K CL G1 s1 σ H1 ∧ R G1 σ H1 a b ∧ PostS K CL Wx D G1 s1.mem.length H1 (f a s1)) := by
  unfold eb rb at h
  cases e : m s with
  | ok a s' =>
    rw [e] at h
    exact fun G' H' b f' S' r' => ⟨G', s', a, f', S', r', PostS.later f' h⟩
  | raise x s' =>
    rw [e] at h
    exact fun G' H' cls d f' S' r' => h G' σ H' cls d f' S' r'
  | stuck =>
    rw [e] at h
    exact h
theorem tsOf.bind {m : EM α} {f : α → EM Fl} (h : tsOf K CL Wx (eb m f) D σ H) :
    tOf K CL R Wx m σ H (fun b H1 => ∃ G1 s1 a, SR K CL G1 s1 σ H1 ∧ R G1 σ H1 a b ∧ PostS K CL Wx D G1 s1.mem.length H1 (f a s1)) := by
  obtain ⟨G, s, S, h⟩ := h
  refine ⟨G, s, S, ?_⟩
  have h2 := PostS.bind (R := R) (σ := σ) (n' := 0) h fun _ _ _ => trivial
  exact h2.mono fun b H1 ⟨G1, s1, a, k1, k2, k3, k4⟩ => ⟨G1, s1, a, k2, k3, k4⟩
abbrev JS (CL : CA) (X : Cx) (Wx : WX) (st : Stmt) (m : EM Fl) : Prop := PS X st (tsOf X.K CL Wx m)
abbrev JB (CL : CA) (X : Cx) (Wx : WX) (st : List Stmt) (m : EM Fl) : Prop := PSs X st (tsOf X.K CL Wx m)
def sSeq (a b : EM Fl) : EM Fl := eb a fun f => match f with
  | .next => b
  | f => er f
theorem PostS.seq {a b : EM Fl} (h : PostS K CL Wx D G n H (sSeq a b s)) : PostS K CL Wx { D with nx := tsOf K CL Wx b D } G n H (a s) := by
  unfold sSeq eb rb at h
  cases e : a s with
  | stuck => rw [e] at h; exact h
  | raise x s' => rw [e] at h; exact h
  | ok f s' =>
    rw [e] at h
    cases f with
    | next => exact fun G' σ' H' f' S' => ⟨G', s', S', PostS.later f' h⟩
    | brk => exact h
    | cont => exact h
    | ret w => exact h
theorem jb_nil : JB CL X Wx [] (er .next) := pss_imp pss_nil fun D σ H q => by
  obtain ⟨G, s, S, q⟩ := q
  exact q G σ H Fut.refl S
theorem jb_cons {st : Stmt} {rest : List Stmt} {a b : EM Fl} (h : JS CL X Wx st a) (t : JB CL X Wx rest b) : JB CL X Wx (st :: rest) (sSeq a b) := pss_imp (pss_cons h t) fun D σ H q => by
  obtain ⟨G, s, S, q⟩ := q
  exact ⟨G, s, S, PostS.seq q⟩
theorem jb_one {st : Stmt} {a : EM Fl} (h : JS CL X Wx st a) : JB CL X Wx [st] a := pss_one h
/-! simple statements -/
theorem js_pass {pos : Pos} : JS CL X Wx (.Pass pos) (er .next) := ps_imp ps_pass fun D σ H q => by
  obtain ⟨G, s, S, q⟩ := q
  exact q G σ H Fut.refl S
theorem js_break {pos : Pos} : JS CL X Wx (.Break pos) (er .brk) := ps_imp ps_break fun D σ H q => by
  obtain ⟨G, s, S, q⟩ := q
  exact q G σ H Fut.refl S
theorem js_continue {pos : Pos} : JS CL X Wx (.Continue pos) (er .cont) := ps_imp ps_continue fun D σ H q => by
  obtain ⟨G, s, S, q⟩ := q
  exact q G σ H Fut.refl S
theorem js_doc {x : Str} {j : Nat} {pos pos' : Pos} : JS CL X Wx (.Expr (.Constant (.str x) j pos) pos') (er .next) := ps_imp ps_doc fun D σ H q => by
  obtain ⟨G, s, S, q⟩ := q
  exact q G σ H Fut.refl S
def sExpr (m : EM W) : EM Fl := eb m fun _ => er .next
theorem js_expr {e : Expr} {m : EM W} {pos : Pos} (h : JE CL X Wx e m) (hs : swapsWith e none pos.line X.env = pure false) : JS CL X Wx (.Expr e pos) (sExpr m) := ps_imp (ps_expr h hs) fun D σ H q => by
  refine (tsOf.bind (R := rWs X.K) q).mono fun v H1 ⟨G1, s1, w, S1, r, q⟩ => ?_
  exact q G1 σ H1 Fut.refl S1
def sRet (m : EM W) : EM Fl := eb m fun w => er (.ret w)
theorem js_ret {e : Expr} {m : EM W} {pos : Pos} (h : JE CL X Wx e m) : JS CL X Wx (.Return (some e) pos) (sRet m) := ps_imp (ps_ret h) fun D σ H q => by
  refine (tsOf.bind (R := rWs X.K) q).mono fun v H1 ⟨G1, s1, w, S1, r, q⟩ => ?_
  exact q G1 σ v H1 Fut.refl S1 r
theorem js_retN {pos : Pos} : JS CL X Wx (.Return none pos) (er (.ret (.d .none))) := ps_imp ps_retN fun D σ H q => by
  obtain ⟨G, s, S, q⟩ := q
  exact q G σ _ H Fut.refl S RD.none
def sIf (c : EM Bool) (a b : EM Fl) : EM Fl := eb c fun k => if k = true then a else b
theorem js_if {c : Expr} {as bs : List Stmt} {mc : EM Bool} {a b : EM Fl} {pos : Pos} (hc : JT CL X Wx c mc) (ha : JB CL X Wx as a) (hb : JB CL X Wx bs b) : JS CL X Wx (.If c as bs pos) (sIf mc a b) := ps_imp (ps_if hc ha hb) fun D σ H q => by
  refine (tsOf.bind (R := rBs) q).mono fun v H1 ⟨G1, s1, w, S1, r, q⟩ => ?_
  subst r
  cases w with
  | true => exact ⟨G1, s1, S1, q⟩
  | false => exact ⟨G1, s1, S1, q⟩
/-! stores -/
def setS (i : Nat) (w : W) : EM Unit := fun s => if i < s.rho.length then .ok () { s with rho := s.rho.set i (some w) } else .stuck
def sSet (i : Nat) (m : EM W) : EM Fl := eb m fun w => eb (setS i w) fun _ => er .next
theorem setS_ok {i : Nat} {w : W} {v : V} {k : EM Fl} (S : SR K CL G s σ H) (r : RW K G H w v) (q : PostS K CL Wx D G s.mem.length H (eb (setS i w) (fun _ => k) s)) :
    ∃ G' s', SR K CL G' s' (σ.set i (some v)) H ∧ s'.mem = s.mem ∧ G'.F = G.F ∧ PostS K CL Wx D G' s'.mem.length H (k s') := by
  unfold eb rb setS at q
  by_cases hi : i < s.rho.length
  · rw [if_pos hi] at q
    obtain ⟨S', f⟩ := S.set (i := i) r (by rw [← S.len]; exact hi)
    exact ⟨_, _, S', rfl, rfl, PostS.later (f (n := s.mem.length)) q⟩
  · rw [if_neg hi] at q
    exact q.elim
theorem js_set {i : Nat} {x : Str} {e : Expr} {m : EM W} {pos pos' : Pos} (hN : X.N.Nodup) (hi : X.N[i]? = some x) (hx : Loc X.env.scope x) (h : JE CL X Wx e m) (hs : swapsWith e (some (.Name x pos')) pos.line X.env = pure false) (hf : X.fn x = true ∨ X.env.scope.names.lookup x = some .local) :
    JS CL X Wx (.Assign [.Name x pos'] e pos) (sSet i m) := ps_imp (ps_set hN hi hx h hs hf) fun D σ H q => by
  refine (tsOf.bind (R := rWs X.K) q).mono fun v H1 ⟨G1, s1, w, S1, r, q⟩ => ?_
  obtain ⟨G', s', S', em, eF, q'⟩ := setS_ok S1 r q
  exact q' G' _ H1 Fut.refl S'
/-- a new thing gets its place -/
def setN (i : Nat) (c : Ob) : EM Unit := fun s => if i < s.rho.length then .ok () { s with rho := s.rho.set i (some (.own c)) } else .stuck
def sSetN (i : Nat) (m : EM Ob) : EM Fl := eb m fun c => eb (setN i c) fun _ => er .next
theorem setN_imp {i : Nat} {m : EM Ob} (q : tsOf K CL Wx (sSetN i m) D σ H) : tOf K CL (rNew K H) Wx m σ H (fun x H1 => gName i x σ H1 D.nx) := by
  obtain ⟨G, s, S, q⟩ := q
  refine ⟨G, s, S, ?_⟩
  unfold sSetN eb rb at q
  cases e1 : m s with
  | stuck => rw [e1] at q; exact q.elim
  | raise x s' => rw [e1] at q; exact fun G' H' cls d f' S' r' => q G' σ H' cls d f' S' r'
  | ok c s' =>
    rw [e1] at q
    intro G' H' v f S' r
    obtain ⟨p, rfl, ho, hf', hn, h0⟩ := r
    simp only [eb, rb, setN] at q
    by_cases hi' : i < s'.rho.length
    · rw [if_pos hi'] at q
      exact q _ _ _ (f.new_slot h0) (S'.setOwn ho hf' hn (by rw [← S'.len]; exact hi'))
    · rw [if_neg hi'] at q
      exact q.elim
theorem js_setN {i : Nat} {x : Str} {e : Expr} {m : EM Ob} {pos pos' : Pos} (hN : X.N.Nodup) (hi : X.N[i]? = some x) (hx : Loc X.env.scope x) (h : JN CL X Wx e m) (hs : swapsWith e (some (.Name x pos')) pos.line X.env = pure false) (hf : X.fn x = true ∨ X.env.scope.names.lookup x = some .local) :
    JS CL X Wx (.Assign [.Name x pos'] e pos) (sSetN i m) := ps_imp (ps_set hN hi hx h hs hf) fun D σ H q => setN_imp q
/-- name op= e -/
def sAug (i : Nat) (f : PyData → PyData → Option PyData) (b : Opd) : EM Fl := eb (cP2 f (.var i) b) fun w => eb (setS i w) fun _ => er .next
theorem js_aug {i : Nat} {x : Str} {e : Expr} {o : Opd} {op : Operator} {r : R2} {f : PyData → PyData → Option PyData} {pos pos' : Pos} (hN : X.N.Nodup) (hi : X.N[i]? = some x) (hx : Loc X.env.scope x) (h : JO CL X Wx e o) (hr : OpR X (inplaceOp op) r) (ho : Op2 X.K r f) (hf : X.fn x = true ∨ X.env.scope.names.lookup x = some .local) :
    JS CL X Wx (.AugAssign (.Name x pos') op e pos) (sAug i f o) := ps_imp (ps_aug hN hi hx h hr hf) fun D σ H q => by
  have q := tsOf.bind (R := rWs X.K) q
  have q := cP2_ok (Q := fun z H2 => D.nx (σ.set i (some z)) H2) ho (q.mono fun v H1 ⟨G1, s1, w, S1, r, q⟩ => by
    obtain ⟨G', s', S', em, eF, q'⟩ := setS_ok S1 r q
    exact q' G' _ H1 Fut.refl S')
  obtain ⟨G, s, S, q⟩ := q
  unfold opd at q
  cases e1 : s.rho[i]? with
  | none => simp only [e1] at q; exact q.elim
  | some o =>
    cases o with
    | none => simp only [e1] at q; exact q.elim
    | some w =>
      simp only [e1] at q
      obtain ⟨v, hv, hr⟩ := S.slots i w e1
      exact ⟨v, hv, Post.here (R := rTok X.K) (a := Tok.slot i) S hv q⟩
/-- a, b, .. = e -/
def setAll : List Nat → List PyData → EM Unit
  | [], [] => er ()
  | i :: is, x :: xs => eb (setS i (.d x)) fun _ => setAll is xs
  | _, _ => es
def sTup (is : List Nat) (m : EM W) : EM Fl := eb (evD m) fun d => match d with
  | .tuple xs => eb (setAll is xs) fun _ => er .next
  | _ => es
/-- names in a row as targets -/
inductive JTg (X : Cx) : List Expr → List Nat → Prop
  | nil : JTg X [] []
  | cons {i : Nat} {x : Str} {pos : Pos} {es : List Expr} {is : List Nat} (hi : X.N[i]? = some x) (hx : Loc X.env.scope x) (hf : X.fn x = true ∨ X.env.scope.names.lookup x = some .local) (t : JTg X es is) : JTg X (.Name x pos :: es) (i :: is)
def gNames : List Nat → TGs
  | [] => gNil
  | i :: is => gCons (gName i) (gNames is)
theorem JTg.pgs (hN : X.N.Nodup) : ∀ {es : List Expr} {is : List Nat}, JTg X es is → PGs X es (gNames is)
  | _, _, .nil => pgs_nil
  | _, _, .cons hi hx hf t => pgs_cons (pg_name hN hi hx hf) (t.pgs hN)
theorem JTg.len : ∀ {es : List Expr} {is : List Nat}, JTg X es is → (assignEach es X.env).length = is.length ∧ (assignEach es X.env).findIdx? (·.1) = none
  | _, _, .nil => ⟨rfl, rfl⟩
  | _, _, .cons (x := x) (pos := pos) (es := es) hi hx hf t => by
    have h : assignEach (.Name x pos :: es) X.env = (false, assign (.Name x pos) X.env) :: assignEach es X.env := rfl
    rw [h]
    refine ⟨by rw [List.length_cons, List.length_cons, t.len.1], ?_⟩
    rw [List.findIdx?_cons]
    simp [t.len.2]
theorem setAll_ok {k : EM Fl} : ∀ {is : List Nat} {xs : List PyData} {vs : List V} {G : Gh} {s : S} {σ : L2.St}, SR K CL G s σ H → RDs K G.F H xs vs → PostS K CL Wx D G s.mem.length H (eb (setAll is xs) (fun _ => k) s) →
    gNames is vs σ H (fun σ' H' => ∃ G' s', SR K CL G' s' σ' H' ∧ s'.mem = s.mem ∧ PostS K CL Wx D G' s'.mem.length H' (k s')) := by
  intro is
  induction is with
  | nil =>
    intro xs vs G s σ S r q
    cases r with
    | nil => exact ⟨rfl, G, s, S, rfl, q⟩
    | cons _ _ => exact q.elim
  | cons i is ih =>
    intro xs vs G s σ S r q
    cases r with
    | nil => exact q.elim
    | @cons d ds v vs r rs =>
      refine ⟨v, vs, rfl, ?_⟩
      unfold setAll at q
      have e : eb (eb (setS i (.d d)) fun _ => setAll is ds) (fun _ => k) s = eb (setS i (.d d)) (fun _ => eb (setAll is ds) fun _ => k) s := by
        unfold eb rb
        cases setS i (.d d) s <;> rfl
      rw [e] at q
      obtain ⟨G', s', S', em, eF, q'⟩ := setS_ok S (w := .d d) r q
      have r' : RDs K G'.F H ds vs := by rw [eF]; exact rs
      have h := ih S' r' q'
      rw [em] at h
      exact h
theorem js_tup {es : List Expr} {is : List Nat} {k : Nat} {e : Expr} {m : EM W} {pos pos' : Pos} (hN : X.N.Nodup) (hc : X.calm = true) (ht : JTg X es is) (h : JE CL X Wx e m) (hs : swapsWithSole [.Tuple es k pos'] e pos.line X.env = pure false) (hw : swappedStores [.Tuple es k pos'] e X.env = pure none) :
    JS CL X Wx (.Assign [.Tuple es k pos'] e pos) (sTup is m) :=
  ps_imp (ps_asg (jd_of h) (pg_tup (n := is.length) hc (ht.pgs hN) ht.len.1 ht.len.2) hs hw rfl) fun D σ H q => by
    refine (tsOf.bind (R := rDs X.K) q).mono fun v H1 ⟨G1, s1, d, S1, r, q⟩ => ?_
    cases d with
    | none => exact q.elim
    | bool _ => exact q.elim
    | int _ => exact q.elim
    | str _ => exact q.elim
    | list _ => exact q.elim
    | dict _ => exact q.elim
    | tuple xs =>
      have r : RD X.K G1.F H1 (.tuple xs) v := r
      cases r with
      | @tuple a vs _ h1 h2 =>
        have hl : vs.length = is.length := by
          have ln : ∀ (is : List Nat) (xs : List PyData) (s : S) (G : Gh), PostS X.K CL Wx D G s.mem.length H1 (eb (setAll is xs) (fun _ => er .next) s) → xs.length = is.length := by
            intro is
            induction is with
            | nil =>
              intro xs s G q
              cases xs with
              | nil => rfl
              | cons _ _ => exact q.elim
            | cons i is ih =>
              intro xs s G q
              cases xs with
              | nil => exact q.elim
              | cons x xs =>
                unfold setAll eb rb setS at q
                by_cases hi : i < s.rho.length
                · rw [if_pos hi] at q
                  rw [List.length_cons, List.length_cons, ih xs { s with rho := s.rho.set i (some (.d x)) } G q]
                · rw [if_neg hi] at q
                  exact q.elim
          rw [h2.length, ln is xs s1 G1 q]
        refine ⟨a, vs, rfl, h1.sq, hl, ?_⟩
        have z := setAll_ok S1 h2 q
        have mono : ∀ (is : List Nat) (vs : List V) (σ : L2.St) (Q Q' : L2.St → Hp → Prop), (∀ σ H, Q σ H → Q' σ H) → gNames is vs σ H1 Q → gNames is vs σ H1 Q' := by
          intro is
          induction is with
          | nil => exact fun vs σ Q Q' i h => ⟨h.1, i _ _ h.2⟩
          | cons j is ih =>
            intro vs σ Q Q' i h
            obtain ⟨v, r, e, h⟩ := h
            exact ⟨v, r, e, ih r _ Q Q' i h⟩
        exact mono is vs σ _ _ (fun σ' H' ⟨G', s', S', em, q'⟩ => q' G' σ' H' Fut.refl S') z

/-! ### things that change -/
/-- what stands in slot i's thing, and another content for it -/
def modSlot {α : Type} (i : Nat) (g : Ob → Option (Ob × α)) : EM α := fun s => match s.rho[i]? with
  | some (some (.own c)) => match g c with
    | some (c', a) => .ok a { s with rho := s.rho.set i (some (.own c')) }
    | none => .stuck
  | some (some (.ref b)) => match s.mem[b]? with
    | some (.ctr c) => match g c with
      | some (c', a) => .ok a { s with mem := s.mem.set b (.ctr c') }
      | none => .stuck
    | _ => .stuck
  | _ => .stuck
/-- the slot holds a list of its own or in a box -/
def isLst (i : Nat) (s : S) : Bool := match s.rho[i]? with
  | some (some (.own (.lst _))) => true
  | some (some (.ref b)) => match s.mem[b]? with
    | some (.ctr (.lst _)) => true
    | _ => false
  | _ => false
theorem isLst_ok {i : Nat} {v : V} (S : SR K CL G s σ H) (hv : σ[i]? = some (some v)) (h : isLst i s = true) : ∃ p vs, v = .ref p ∧ H p = some (.lst vs) := by
  unfold isLst at h
  cases e : s.rho[i]? with
  | none => simp [e] at h
  | some o =>
    cases o with
    | none => simp [e] at h
    | some w =>
      obtain ⟨v', hv', hr⟩ := S.slots i w e
      rw [hv] at hv'
      cases hv'
      cases w with
      | exn c => simp [e] at h
      | d y => simp [e] at h
      | own c =>
        cases c with
        | dic _ => simp [e] at h
        | lst xs =>
          obtain ⟨p, rfl, _, vs, h1, h2⟩ := hr
          exact ⟨p, vs, rfl, h1⟩
      | ref b =>
        obtain ⟨p, rfl, ha⟩ := hr
        cases e2 : s.mem[b]? with
        | none => simp [e, e2] at h
        | some bx =>
          cases bx with
          | inst c f => simp [e, e2] at h
          | ctr c =>
            cases c with
            | dic _ => simp [e, e2] at h
            | lst xs =>
              obtain ⟨p', ha', vs, h1, h2⟩ := S.boxes b _ e2
              rw [ha] at ha'
              cases ha'
              exact ⟨p, vs, rfl, h1⟩
/-- the rule of such a change: what is found, and what must be shown of the new content -/
theorem modSlot_ok {α : Type} {i : Nat} {g : Ob → Option (Ob × α)} {v : V} (S : SR K CL G s σ H) (hv : σ[i]? = some (some v)) : modSlot i g s = .stuck ∨
    ∃ p c c' a s', v = .ref p ∧ (∀ o a, G.F a → G.F a ∧ upd H p o a = H a) ∧ RO K G.F H c p ∧ g c = some (c', a) ∧ modSlot i g s = .ok a s' ∧ s'.mem.length = s.mem.length ∧
      ∀ o, RO K G.F (upd H p o) c' p → SR K CL G s' σ (upd H p o) ∧ Fut G H s.mem.length G (upd H p o) s'.mem.length := by
  unfold modSlot
  cases e : s.rho[i]? with
  | none => exact .inl rfl
  | some o =>
    cases o with
    | none => exact .inl rfl
    | some w =>
      obtain ⟨v', hv', hr⟩ := S.slots i w e
      rw [hv] at hv'
      cases hv'
      cases w with
      | exn c => exact .inl rfl
      | d y => exact .inl rfl
      | own c =>
        obtain ⟨p, rfl, ha, ho⟩ := hr
        cases e2 : g c with
        | none => simp only [e2]; exact .inl trivial
        | some ca =>
          obtain ⟨c', a⟩ := ca
          simp only [e2]
          exact .inr ⟨p, c, c', a, _, rfl, fun o a f => ⟨f, upd_ne fun z => by subst z; exact (S.fz _ f).2 _ ha⟩, ho, e2, rfl, rfl, fun o h => S.writeSlot e hv h⟩
      | ref b =>
        obtain ⟨p, rfl, ha⟩ := hr
        cases e1 : s.mem[b]? with
        | none => simp only [e1]; exact .inl trivial
        | some bx =>
          cases bx with
          | inst _ _ => simp only [e1]; exact .inl trivial
          | ctr c =>
            obtain ⟨p', ha', hb⟩ := S.boxes b _ e1
            rw [ha] at ha'
            cases ha'
            cases e2 : g c with
            | none => simp only [e1, e2]; exact .inl trivial
            | some ca =>
              obtain ⟨c', a⟩ := ca
              simp only [e1, e2]
              exact .inr ⟨p, c, c', a, _, rfl, fun o a f => ⟨f, upd_ne fun z => by subst z; exact (S.fz _ f).2 _ ha⟩, hb, e2, rfl, by simp, fun o h => by
                have z := S.writeBox (n := s.mem.length) e1 ha h
                exact ⟨z.1, by simpa using z.2⟩⟩
end
end MP
/-! Part J: lists and dicts change. -/
namespace MP
open PySem PySem.Spec PyProof.Rows L2
section
variable {K : PySem.W.Frag} {CL : CA} {G G1 G' : Gh} {H H1 H' : Hp} {s s1 : S} {σ : L2.St} {n n1 n' : Nat} {α β γ δ : Type} {R : Rel α β} {Wx : WX} {X : Cx} {p : Addr} {D D' : Ends}
/-- an expression, then the rest of one, from a state that is known -/
theorem tOf_at {m : EM α} {Q : β → Hp → Prop} (S : SR K CL G s σ H) (h : Post K CL R Wx G s.mem.length σ H (m s) Q) : tOf K CL R Wx m σ H Q := ⟨G, s, S, h⟩
/-! xs.append(e) -/
def gApp (x : PyData) : Ob → Option (Ob × W)
  | .lst xs => if xs.length < 1000000 then some (.lst (xs ++ [x]), .d .none) else none
  | _ => none
def cApp (i : Nat) (m : EM W) : EM W := fun s => if isLst i s = true then eb (evD m) (fun x => modSlot i (gApp x)) s else .stuck
theorem je_app {i : Nat} {x : Str} {e : Expr} {m : EM W} {p0 apos cpos : Pos} (hv : PE X (.Name x p0) (tVar i)) (h : JE CL X Wx e m)
    (hfew : ((backTo cpos (starEach (e :: []) X.env)).all (fun x => !x.1) && (backToKw cpos (keywordEach [] X.env)).all (fun x => x.1.isSome) && decide ((e :: []).length + ([] : List Keyword).length + (if ([] : List Keyword).isEmpty then 0 else 1) < 30)) = true)
    (hline : (apos.endLine == cpos.line) = true) (hs : starEach (e :: []) X.env = (false, eval e X.env) :: starEach [] X.env) :
    JE CL X Wx (.Call (.Attribute (.Name x p0) "append" apos) [e] [] cpos) (cApp i m) :=
  pe_imp (pe_bm PySem.F.plainAttrs_list PySem.F.slot_list_append PySem.F.type_list_append mt_append hv (pa_cons (jd_of h) pa_nil hs) rfl hfew hline hs rfl) fun σ H Q q => by
    obtain ⟨G, s, S, q⟩ := q
    unfold cApp at q
    by_cases hl : isLst i s = true
    · rw [if_pos hl] at q
      have hsome : ∃ v, σ[i]? = some (some v) := by
        unfold isLst at hl
        cases e : s.rho[i]? with
        | none => simp [e] at hl
        | some o =>
          cases o with
          | none => simp [e] at hl
          | some w =>
            obtain ⟨v, hv, _⟩ := S.slots i w e
            exact ⟨v, hv⟩
      obtain ⟨v, hv⟩ := hsome
      obtain ⟨p, vs0, rfl, hp⟩ := isLst_ok S hv hl
      refine ⟨_, hv, .inl ⟨rfl, vs0, .inl (.inl hp)⟩, ?_⟩
      refine tOf_at S ((Post.bind (R := rDs X.K) q).mono fun u H1 ⟨G1, s1, d, f1, S1, r1, q⟩ => ?_)
      rcases modSlot_ok (g := gApp d) S1 hv with z | ⟨p', c, c', a, s', e1, hF, ho, e2, e3, e4, k⟩
      · rw [z] at q; exact q.elim
      · cases e1
        rw [e3] at q
        cases c with
        | dic _ => cases e2
        | lst xs =>
          have e2 : (if xs.length < 1000000 then some (Ob.lst (xs ++ [d]), W.d .none) else none) = some (c', a) := e2
          by_cases hz : xs.length < 1000000
          · rw [if_pos hz] at e2
            cases e2
            obtain ⟨us, hu, ru⟩ := ho
            refine ⟨p, us, u, rfl, rfl, hu, by rw [ru.length]; exact Nat.lt_of_lt_of_le hz million, ?_⟩
            obtain ⟨S2, f2⟩ := k (.lst (us ++ [u])) ⟨us ++ [u], upd_same, (ru.append (.cons r1 .nil)).mono (hF _)⟩
            exact q _ _ _ f2 S2 RD.none
          · rw [if_neg hz] at e2; cases e2
    · rw [if_neg hl] at q; exact q.elim
/-! xs.pop() -/
def gPop : Ob → Option (Ob × W)
  | .lst xs => match xs[xs.length - 1]? with
    | some x => some (.lst xs.dropLast, .d x)
    | none => none
  | _ => none
def cPop (i : Nat) : EM W := fun s => if isLst i s = true then modSlot i gPop s else .stuck
theorem RDs.dropLast {F : Addr → Prop} : ∀ {ds : List PyData} {vs : List V}, RDs K F H ds vs → RDs K F H ds.dropLast vs.dropLast
  | _, _, .nil => .nil
  | _, _, .cons _ .nil => .nil
  | _, _, .cons a (.cons b t) => .cons a (RDs.dropLast (.cons b t))
theorem lst_some {i : Nat} (S : SR K CL G s σ H) (hl : isLst i s = true) : ∃ v, σ[i]? = some (some v) := by
  unfold isLst at hl
  cases e : s.rho[i]? with
  | none => simp [e] at hl
  | some o =>
    cases o with
    | none => simp [e] at hl
    | some w =>
      obtain ⟨v, hv, _⟩ := S.slots i w e
      exact ⟨v, hv⟩
theorem je_pop {i : Nat} {x : Str} {p0 apos cpos : Pos} (hv : PE X (.Name x p0) (tVar i)) (hline : (apos.endLine == cpos.line) = true) :
    JE CL X Wx (.Call (.Attribute (.Name x p0) "pop" apos) [] [] cpos) (cPop i) :=
  pe_imp (pe_bm0 PySem.F.plainAttrs_list PySem.F.slot_list_pop PySem.F.type_list_pop mt_pop hv rfl hline) fun σ H Q q => by
    obtain ⟨G, s, S, q⟩ := q
    unfold cPop at q
    by_cases hl : isLst i s = true
    · rw [if_pos hl] at q
      obtain ⟨v, hv⟩ := lst_some S hl
      obtain ⟨p, vs0, rfl, hp⟩ := isLst_ok S hv hl
      refine ⟨_, hv, .inl ⟨rfl, vs0, .inl (.inl hp)⟩, ?_⟩
      rcases modSlot_ok (g := gPop) S hv with z | ⟨p', c, c', a, s', e1, hF, ho, e2, e3, e4, k⟩
      · rw [z] at q; exact q.elim
      · cases e1
        rw [e3] at q
        cases c with
        | dic _ => cases e2
        | lst xs =>
          have e2 : (match xs[xs.length - 1]? with | some x => some (Ob.lst xs.dropLast, W.d x) | none => none) = some (c', a) := e2
          cases e5 : xs[xs.length - 1]? with
          | none => rw [e5] at e2; cases e2
          | some x =>
            rw [e5] at e2
            cases e2
            obtain ⟨us, hu, ru⟩ := ho
            obtain ⟨y, hy, ry⟩ := ru.get e5
            refine ⟨p, us, y, rfl, rfl, hu, by rw [ru.length]; exact hy, ?_⟩
            obtain ⟨S2, f2⟩ := k (.lst us.dropLast) ⟨us.dropLast, upd_same, ru.dropLast.mono (hF _)⟩
            exact q _ _ _ f2 S2 (RD.mono (hF _) ry)
    · rw [if_neg hl] at q; exact q.elim
/-! x[i] = e -/
def putD (kvs : List (Key × PyData)) (k : Key) (x : PyData) : List (Key × PyData) :=
  if (kvs.any fun kv => decide (kv.1 = k)) = true then kvs.map (fun kv => if kv.1 = k then (kv.1, x) else kv) else kvs ++ [(k, x)]
theorem RKV.any {F : Addr → Prop} {k : Key} : ∀ {ds : List (Key × PyData)} {vs : List (Key × V)}, RKV K F H ds vs → (vs.any fun kv => decide (kv.1 = k)) = ds.any fun kv => decide (kv.1 = k)
  | _, _, .nil => rfl
  | _, _, .cons h t => by rw [List.any_cons, List.any_cons, h.1, RKV.any t]
theorem RKV.map {F : Addr → Prop} {k : Key} {x : PyData} {v : V} (r : RD K F H x v) : ∀ {ds : List (Key × PyData)} {vs : List (Key × V)}, RKV K F H ds vs → RKV K F H (ds.map fun kv => if kv.1 = k then (kv.1, x) else kv) (vs.map fun kv => if kv.1 = k then (kv.1, v) else kv)
  | _, _, .nil => .nil
  | _, _, .cons (a := a) (b := b) h t => by
    refine .cons ?_ (RKV.map r t)
    dsimp only
    by_cases e : a.1 = k
    · rw [if_pos e, if_pos (h.1 ▸ e)]; exact ⟨h.1, r⟩
    · rw [if_neg e, if_neg (h.1 ▸ e)]; exact h
theorem RKV.snoc {F : Addr → Prop} {k : Key} {x : PyData} {v : V} (r : RD K F H x v) : ∀ {ds : List (Key × PyData)} {vs : List (Key × V)}, RKV K F H ds vs → RKV K F H (ds ++ [(k, x)]) (vs ++ [(k, v)])
  | _, _, .nil => .cons ⟨rfl, r⟩ .nil
  | _, _, .cons h t => .cons h (RKV.snoc r t)
theorem RKV.put {F : Addr → Prop} {k : Key} {x : PyData} {v : V} (r : RD K F H x v) {ds : List (Key × PyData)} {vs : List (Key × V)} (h : RKV K F H ds vs) : RKV K F H (putD ds k x) (putK vs k v) := by
  unfold putD putK
  rw [h.any]
  by_cases e : (ds.any fun kv => decide (kv.1 = k)) = true
  · rw [if_pos e, if_pos e]; exact h.map r
  · rw [if_neg e, if_neg e]; exact h.snoc r
theorem RKV.length {F : Addr → Prop} : ∀ {ds : List (Key × PyData)} {vs : List (Key × V)}, RKV K F H ds vs → vs.length = ds.length
  | _, _, .nil => rfl
  | _, _, .cons _ t => by rw [List.length_cons, List.length_cons, RKV.length t]
def gPut (k x : PyData) : Ob → Option (Ob × Unit)
  | .lst xs => match k with
    | .int i => match ixN xs.length i with
      | some j => some (.lst (xs.set j x), ())
      | none => none
    | _ => none
  | .dic kvs => match keyOf k with
    | some k => if kvs.length < 1000000 then some (.dic (putD kvs k x), ()) else none
    | none => none
def rPut : TSet := fun o i v H Q => rSetL o i v H Q ∨ rSetD o i v H Q
theorem set_any (hu : X.A.units + 1 < cLine) : PSet X rPut := fun pins s σ H o i v ov iv u Q I ro ri rv h => by
  rcases h with h | h
  · exact set_list pins s σ H o i v ov iv u Q I ro ri rv h
  · exact set_dict hu pins s σ H o i v ov iv u Q I ro ri rv h
theorem key_view {F : Addr → Prop} {d : PyData} {v : V} {k : Key} (h : View K F H d v) (e : keyOf d = some k) : v = kV k := by
  cases h <;> first | (cases e; rfl) | cases e
/-- the store, at the values -/
theorem put_ok {i : Nat} {kd x : PyData} {vo vi vx : V} {Q : Hp → Prop} {f : Unit → EM α} (S : SR K CL G s σ H) (hv : σ[i]? = some (some vo)) (ri : View K G.F H kd vi) (rx : RD K G.F H x vx)
    (q : ∀ G1 s1 H1, SR K CL G1 s1 σ H1 → Fut G H s.mem.length G1 H1 s1.mem.length → modSlot i (gPut kd x) s = .ok () s1 → Q H1) (hq : modSlot i (gPut kd x) s ≠ .stuck) : rPut vo vi vx H Q := by
  rcases modSlot_ok (g := gPut kd x) S hv with z | ⟨p', c, c', a, s', e1, hF, ho, e2, e3, e4, k⟩
  · exact absurd z hq
  · subst e1
    cases c with
    | lst xs =>
      cases ri with
      | int j0 =>
        have e2 : (match ixN xs.length j0 with | some j => some (Ob.lst (xs.set j x), ()) | none => none) = some (c', a) := e2
        cases e5 : ixN xs.length j0 with
        | none => rw [e5] at e2; cases e2
        | some j =>
          rw [e5] at e2
          cases e2
          obtain ⟨us, hu, ru⟩ := ho
          obtain ⟨S2, f2⟩ := k (.lst (us.set j vx)) ⟨us.set j vx, upd_same, (ru.set rx j).mono (hF _)⟩
          exact .inl ⟨p', us, j0, j, rfl, rfl, hu, by rw [ru.length]; exact e5, q _ _ _ S2 f2 e3⟩
      | none => cases e2
      | bool _ => cases e2
      | str _ => cases e2
      | list _ _ => cases e2
      | tuple _ _ => cases e2
      | dict _ _ => cases e2
    | dic kvs =>
      have e2 : (match keyOf kd with | some k => if kvs.length < 1000000 then some (Ob.dic (putD kvs k x), ()) else none | none => none) = some (c', a) := e2
      cases e5 : keyOf kd with
      | none => rw [e5] at e2; cases e2
      | some k0 =>
        simp only [e5] at e2
        by_cases hz : kvs.length < 1000000
        · rw [if_pos hz] at e2
          cases e2
          obtain ⟨us, hu, ru⟩ := ho
          have ek := key_view ri e5
          subst ek
          obtain ⟨S2, f2⟩ := k (.dK (putK us k0 vx)) ⟨putK us k0 vx, upd_same, (ru.put rx).mono (hF _)⟩
          exact .inr ⟨p', _, rfl, DPut.k hu (by rw [ru.length]; exact Nat.lt_of_lt_of_le hz million), q _ _ _ S2 f2 e3⟩
        · rw [if_neg hz] at e2; cases e2
theorem opd_slot {i : Nat} {f : Tok → EM Fl} (S : SR K CL G s σ H) (q : PostS K CL Wx D G s.mem.length H (eb (opd (.var i)) f s)) : ∃ vo, σ[i]? = some (some vo) ∧ PostS K CL Wx D G s.mem.length H (f (.slot i) s) := by
  unfold eb rb opd at q
  cases e : s.rho[i]? with
  | none => simp only [e] at q; exact q.elim
  | some o =>
    cases o with
    | none => simp only [e] at q; exact q.elim
    | some w =>
      simp only [e] at q
      obtain ⟨v, hv, hr⟩ := S.slots i w e
      exact ⟨v, hv, q⟩
def sPut (i : Nat) (j : Opd) (m : EM W) : EM Fl := eb (evD m) fun x => eb (opd (.var i)) fun _ => eb (opd j) fun tj => fun s => match resolve s tj with
  | some k => eb (modSlot i (gPut k x)) (fun _ => er .next) s
  | none => .stuck
theorem opd_var {i : Nat} {Q : V → Hp → Prop} (q : tOf K CL (rTok K) Wx (opd (.var i)) σ H Q) : tVar i σ H Q := by
  obtain ⟨G, s, S, q⟩ := q
  unfold opd at q
  cases e : s.rho[i]? with
  | none => simp only [e] at q; exact q.elim
  | some o =>
    cases o with
    | none => simp only [e] at q; exact q.elim
    | some w =>
      simp only [e] at q
      obtain ⟨v, hv, hr⟩ := S.slots i w e
      exact ⟨v, hv, Post.here (R := rTok K) (a := Tok.slot i) S hv q⟩
theorem js_put {i : Nat} {x : Str} {b e : Expr} {o : Opd} {m : EM W} {p0 p1 pos : Pos} (hu : X.A.units + 1 < cLine) (hv : PE X (.Name x p0) (tVar i)) (hb : JO CL X Wx b o) (h : JE CL X Wx e m)
    (ha : ∀ v, assign (.Subscript (.Name x p0) b p1) X.env v = (do
      let ov ← holding [v] (eval (.Name x p0) X.env)
      let iv ← holding [v, ov] (eval b X.env)
      standAt p1
      holding [v, ov, iv] (setItem ov iv v)
      release [v, ov, iv] [])) (hs : swapsWithSole [.Subscript (.Name x p0) b p1] e pos.line X.env = pure false) (hw : swappedStores [.Subscript (.Name x p0) b p1] e X.env = pure none) :
    JS CL X Wx (.Assign [.Subscript (.Name x p0) b p1] e pos) (sPut i o m) :=
  ps_imp (ps_asg (jd_of h) (pg_sub hv hb (set_any hu) ha) hs hw rfl) fun D σ H q => by
    refine (tsOf.bind (R := rDs X.K) q).mono fun vx H1 ⟨G1, s1, d, S1, rx, q⟩ => ?_
    have hv0 := opd_slot S1 q
    obtain ⟨vo, hvo, q⟩ := hv0
    refine ⟨vo, hvo, tOf_at S1 ((PostS.bind (R := rTok X.K) (σ := σ) (n' := 0) q fun _ _ _ => trivial).mono fun vi H2 ⟨G2, s2, tj, f2, S2, r2, q⟩ => ?_)⟩
    cases e1 : resolve s2 tj with
    | none => simp only [e1] at q; exact q.elim
    | some k =>
      simp only [e1] at q
      refine put_ok (f := fun _ => er ()) S2 hvo (resolve_view S2 r2 e1) (f2.rd S1 rx) (fun G3 s3 H3 S3 f3 e3 => ?_) fun z => ?_
      · unfold eb rb at q
        rw [e3] at q
        exact q G3 σ H3 f3 S3
      · unfold eb rb at q
        rw [z] at q
        exact q
/-! x[i] op= e -/
def rGetA (K : PySem.W.Frag) : V → V → Hp → VK → Prop := fun x y H Q => (rIxL K x y H Q) ∨ rIxD x y H Q
theorem get_list : PGet X (rIxL X.K) := by
  intro pins s σ H o i ov iv Q I ro ri h
  obtain ⟨p, xs, k, z, rfl, rfl, hq, he, q⟩ := h
  cases ro
  obtain ⟨t, rfl⟩ := ri
  obtain ⟨its, r, pl, hz⟩ := I.list hq
  obtain ⟨j, h1, h2, h3, h4, h5⟩ := atI_get he
  obtain ⟨w, ew, rw'⟩ := r.get h2
  have hl := r.length
  have hn := line63
  have fin : EP X pins σ Q w s := ⟨z, H, I, rw', q⟩
  by_cases h0 : 0 ≤ k
  · have hj : k.toNat = j := by
      rw [seqIndex_of h0 h5] at h1
      exact Option.some.inj h1
    exact wpAny_getItem_list pl.isList h0 (by omega) (by rw [hj]; simpa using ew) fin
  · have hj : (k + (its.toArray.size : Int)).toNat = j := by
      rw [seqIndex_neg (by omega) h4] at h1
      rw [List.size_toArray, ← hl]
      exact Option.some.inj h1
    exact wpAny_getItem_list_neg pl.isList (by omega) (by rw [List.size_toArray] <;> omega) (by omega) (by rw [hj]; simpa using ew) fin
theorem get_any (hu : X.A.units + 1 < cLine) : PGet X (rGetA X.K) := fun pins s σ H o i ov iv Q I ro ri h => by
  rcases h with h | ⟨a, v, rfl, g, q⟩
  · exact get_list pins s σ H o i ov iv Q I ro ri h
  · cases ro
    exact d_getItem hu I g ri fun w' s3 I3 rw' => ⟨v, H, I3, rw', q⟩
/-- what is read for it: the list's or the dict's item -/
def fGet : PyData → PyData → Option PyData
  | .list xs, .int i => atI xs i
  | .dict kvs, k => match keyOf k with
    | some k => dLook kvs k
    | none => none
  | _, _ => none
theorem ok_get : Op2 K (rGetA K) fGet := by
  intro F H dx dy vx vy z Q hl v1 v2 e q
  cases v1 with
  | none => cases e
  | bool b => cases e
  | int b => cases e
  | str x => cases e
  | tuple _ _ => cases e
  | @list a vs xs h1 h2 =>
    cases v2 with
    | int i =>
      obtain ⟨v, e1, e2⟩ := atI_rds h2 (show atI xs i = some z from e)
      exact .inl ⟨a, vs, i, v, rfl, rfl, h1, e1, q _ _ _ .refl e2⟩
    | none => cases e
    | bool b => cases e
    | str b => cases e
    | dict _ _ => cases e
    | list _ _ => cases e
    | tuple _ _ => cases e
  | @dict a kvs ds h1 h2 =>
    cases v2 with
    | int i =>
      obtain ⟨v, e1, e2⟩ := rdkv_look h2 (show dLook ds (.inl i) = some z from e)
      exact .inr ⟨a, v, rfl, by rw [← e1]; exact DGet.k (k := .inl i) h1, q _ _ _ .refl e2⟩
    | str i =>
      obtain ⟨v, e1, e2⟩ := rdkv_look h2 (show dLook ds (.inr i) = some z from e)
      exact .inr ⟨a, v, rfl, by rw [← e1]; exact DGet.k (k := .inr i) h1, q _ _ _ .refl e2⟩
    | none => cases e
    | bool b => cases e
    | dict _ _ => cases e
    | list _ _ => cases e
    | tuple _ _ => cases e
def sAugIx (i : Nat) (j : Opd) (f : PyData → PyData → Option PyData) (b : Opd) : EM Fl := eb (opd (.var i)) fun tx => eb (opd j) fun tj => fun s =>
  match resolve s tx with
  | some x => match resolve s tj with
    | some k => match fGet x k with
      | some y => eb (opd b) (fun tb s => match resolve s tb with
        | some z => match f y z with
          | some w => match resolve s tj with
            | some k => eb (modSlot i (gPut k w)) (fun _ => er .next) s
            | none => .stuck
          | none => .stuck
        | none => .stuck) s
      | none => .stuck
    | none => .stuck
  | none => .stuck
theorem js_augix {i : Nat} {x : Str} {b e : Expr} {oj o : Opd} {op : Operator} {r : R2} {f : PyData → PyData → Option PyData} {p0 p1 pos : Pos} (hu : X.A.units + 1 < cLine) (hv : PE X (.Name x p0) (tVar i)) (hb : JO CL X Wx b oj) (h : JO CL X Wx e o) (hr : OpR X (inplaceOp op) r) (ho : Op2 X.K r f)
    (ha : ∀ ov iv new, augStore b ov iv new = (do holding [new, ov, iv] (setItem ov iv new); release [new, ov, iv] []; pure .next)) :
    JS CL X Wx (.AugAssign (.Subscript (.Name x p0) b p1) op e pos) (sAugIx i oj f o) :=
  ps_imp (ps_augS hv hb (get_any hu) h hr (set_any hu) ha) fun D σ H q => by
    obtain ⟨G1, s1, S1, q⟩ := q
    have hv0 := opd_slot S1 q
    obtain ⟨vo, hvo, q⟩ := hv0
    have r1 : rTok X.K G1 σ H (.slot i) vo := hvo
    generalize (Tok.slot i) = tx at r1 q
    refine ⟨vo, hvo, ?_⟩
    refine tOf_at S1 ((PostS.bind (R := rTok X.K) (σ := σ) (n' := 0) q fun _ _ _ => trivial).mono fun vi H2 ⟨G2, s2, tj, f2, S2, r2, q⟩ => ?_)
    have r1 := rTok_later S1 f2 r1
    cases e1 : resolve s2 tx with
    | none => simp only [e1] at q; exact q.elim
    | some dx =>
      cases e2 : resolve s2 tj with
      | none => simp only [e1, e2] at q; exact q.elim
      | some k =>
        cases e3 : fGet dx k with
        | none => simp only [e1, e2, e3] at q; exact q.elim
        | some y =>
          simp only [e1, e2, e3] at q
          refine ok_get G2.F H2 dx k vo vi y _ S2.liveF (resolve_view S2 r1 e1) (resolve_view S2 r2 e2) e3 fun F' H' vy g ry => ?_
          obtain ⟨S3, f3⟩ := S2.grow g
          refine tOf_at S3 ((PostS.bind (R := rTok X.K) (σ := σ) (n' := 0) (PostS.later f3 q) fun _ _ _ => trivial).mono fun vz H4 ⟨G4, s4, tb, f4, S4, r4, q⟩ => ?_)
          have r2 := rTok_later S3 f4 (rTok_later S2 (f3 (n := 0)) r2)
          have ry := f4.rd S3 ry
          cases e4 : resolve s4 tb with
          | none => simp only [e4] at q; exact q.elim
          | some z =>
            cases e5 : f y z with
            | none => simp only [e4, e5] at q; exact q.elim
            | some w =>
              cases e6 : resolve s4 tj with
              | none => simp only [e4, e5, e6] at q; exact q.elim
              | some k' =>
                simp only [e4, e5, e6] at q
                refine ho G4.F H4 y z vy vz w _ S4.liveF ry.view (resolve_view S4 r4 e4) e5 fun F5 H5 vw g5 rw5 => ?_
                obtain ⟨S5, f5⟩ := S4.grow g5
                have r2 := rTok_later S4 (f5 (n := 0)) r2
                have ri : View X.K F5 H5 k' vi := by
                  have z := resolve_view S5 r2 e6
                  exact z
                refine put_ok (f := fun _ => er ()) S5 hvo ri rw5 (fun G6 s6 H6 S6 f6 e7 => ?_) fun z => ?_
                · unfold eb rb at q
                  rw [e7] at q
                  exact q G6 σ H6 (f5.trans f6) S6
                · unfold eb rb at q
                  rw [z] at q
                  exact q
end
end MP
/-! Part K: loops. -/
namespace MP
open PySem PySem.Spec PyProof.Rows L2
section
variable {K : PySem.W.Frag} {CL : CA} {G G1 G' : Gh} {H H1 H' : Hp} {s s1 : S} {σ : L2.St} {n n1 n' : Nat} {α β γ δ : Type} {R : Rel α β} {Wx : WX} {X : Cx} {p : Addr} {D D' : Ends}
/-! ### targets -/
def TgS (K : PySem.W.Frag) (CL : CA) (g : TG) (t : PyData → EM Unit) : Prop := ∀ (G : Gh) (s : S) (σ : L2.St) (H : Hp) (d : PyData) (v : V) (Q : L2.St → Hp → Prop) (s' : S), SR K CL G s σ H → RD K G.F H d v → t d s = .ok () s' →
  (∀ G' σ', SR K CL G' s' σ' H → (∀ {n : Nat}, Fut G H n G' H n) → s'.mem = s.mem → Q σ' H) → g v σ H Q
def tgName (i : Nat) : PyData → EM Unit := fun x => setS i (.d x)
theorem tg_name {i : Nat} : TgS K CL (gName i) (tgName i) := by
  intro G s σ H d v Q s' S r e q
  unfold tgName setS at e
  by_cases hi : i < s.rho.length
  · rw [if_pos hi] at e
    cases e
    obtain ⟨S', f⟩ := S.set (i := i) (w := .d d) r (by rw [← S.len]; exact hi)
    exact q _ _ S' f rfl
  · rw [if_neg hi] at e; cases e
def tgTup (is : List Nat) : PyData → EM Unit := fun d => match d with
  | .tuple xs => if xs.length = is.length then setAll is xs else es
  | _ => es
theorem tgAll_ok : ∀ (is : List Nat) (xs : List PyData) (vs : List V) (G : Gh) (s s' : S) (σ : L2.St) (Q : L2.St → Hp → Prop), SR K CL G s σ H → RDs K G.F H xs vs → setAll is xs s = .ok () s' →
    (∀ G' σ', SR K CL G' s' σ' H → (∀ {n : Nat}, Fut G H n G' H n) → s'.mem = s.mem → Q σ' H) → gNames is vs σ H Q := by
  intro is
  induction is with
  | nil =>
    intro xs vs G s s' σ Q S r e q
    cases r with
    | nil => cases e; exact ⟨rfl, q G σ S Fut.refl rfl⟩
    | cons _ _ => cases e
  | cons i is ih =>
    intro xs vs G s s' σ Q S r e q
    cases r with
    | nil => cases e
    | @cons d ds v vs r rs =>
      refine ⟨v, vs, rfl, ?_⟩
      unfold setAll eb rb at e
      cases e1 : setS i (.d d) s with
      | stuck => rw [e1] at e; cases e
      | raise x t => rw [e1] at e; cases e
      | ok u t =>
        rw [e1] at e
        refine tg_name (i := i) G s σ H d v _ t S r e1 fun G1 σ1 S1 f1 m1 => ?_
        exact ih ds vs G1 t s' σ1 Q S1 (rs.mono (f1 (n := 0).mono S)) e fun G2 σ2 S2 f2 m2 => q G2 σ2 S2 (f1.trans f2) (m2.trans m1)
theorem tg_tup {is : List Nat} : TgS K CL (gTup K is.length (gNames is)) (tgTup is) := by
  intro G s σ H d v Q s' S r e q
  unfold tgTup at e
  cases r with
  | none => cases e
  | bool b => cases e
  | int b => cases e
  | str x => cases e
  | list _ _ => cases e
  | dict _ _ => cases e
  | @tuple a vs xs h1 h2 =>
    have e : (if xs.length = is.length then setAll is xs else es) s = .ok () s' := e
    by_cases hl : xs.length = is.length
    · rw [if_pos hl] at e
      exact ⟨a, vs, rfl, h1.sq, by rw [h2.length, hl], tgAll_ok is xs vs G s s' σ Q S h2 e q⟩
    · rw [if_neg hl] at e; cases e
/-! ### what is walked -/
structure ItOk (K : PySem.W.Frag) (F : Addr → Prop) (H : Hp) (xs : List PyData) (J : It) : Prop where
  go : ∀ (F' : Addr → Prop) (H' : Hp), (∀ a, F a → F' a ∧ H' a = H a) → ∀ i, i < xs.length → J.go i H'
  stop : ∀ (F' : Addr → Prop) (H' : Hp), (∀ a, F a → F' a ∧ H' a = H a) → J.stop xs.length H'
  yld : ∀ (F' : Addr → Prop) (H' : Hp), (∀ a, F a → F' a ∧ H' a = H a) → (∀ a, F' a → ∃ o, H' a = some o) → ∀ i v H'' d, J.yld i H' v H'' → xs[i]? = some d → ∃ F'', Grow F' F'' H' H'' ∧ RD K F'' H'' d v
def rIt (K : PySem.W.Frag) : Rel (List PyData) It := fun G _ H xs J => ItOk K G.F H xs J
abbrev JI (CL : CA) (X : Cx) (Wx : WX) (tg e : Expr) (src : EM (List PyData)) : Prop := PI X tg e (tOf X.K CL (rIt X.K) Wx src)
theorem pi_imp {tg e : Expr} {t t' : TI} (h : PI X tg e t) (i : ∀ σ H Q, t' σ H Q → t σ H Q) : PI X tg e t' := ⟨fun pins s σ H Q I q => h.run pins s σ H Q I (i σ H Q q)⟩
theorem it_list {F : Addr → Prop} {a : Addr} {vs : List V} {xs : List PyData} (h1 : LAt K F H a vs) (h2 : RDs K F H xs vs) : ItOk K F H xs (Itl K a) where
  go := fun F' H' hF i hi => by
    obtain ⟨v, hv⟩ : ∃ v, vs[i]? = some v := ⟨_, List.getElem?_eq_getElem (by rw [h2.length]; exact hi)⟩
    exact ⟨vs, v, (h1.mono hF).sq, hv⟩
  stop := fun F' H' hF => ⟨vs, (h1.mono hF).sq, by rw [h2.length]; exact Nat.le_refl _⟩
  yld := fun F' H' hF hl i v H'' d y e => by
    obtain ⟨rfl, y⟩ := y
    obtain ⟨u, hu, r⟩ := h2.get e
    rw [y vs (h1.mono hF).sq] at hu
    cases hu
    exact ⟨F', .refl, r.mono hF⟩
theorem it_tup {F : Addr → Prop} {a : Addr} {vs : List V} {xs : List PyData} (h1 : TAt K F H a vs) (h2 : RDs K F H xs vs) : ItOk K F H xs (Itt K a) where
  go := fun F' H' hF i hi => by
    obtain ⟨v, hv⟩ : ∃ v, vs[i]? = some v := ⟨_, List.getElem?_eq_getElem (by rw [h2.length]; exact hi)⟩
    exact ⟨vs, v, (h1.mono hF).sq, hv⟩
  stop := fun F' H' hF => ⟨vs, (h1.mono hF).sq, by rw [h2.length]; exact Nat.le_refl _⟩
  yld := fun F' H' hF hl i v H'' d y e => by
    obtain ⟨rfl, y⟩ := y
    obtain ⟨u, hu, r⟩ := h2.get e
    rw [y vs (h1.mono hF).sq] at hu
    cases hu
    exact ⟨F', .refl, r.mono hF⟩
/-- a list or a tuple, whichever comes -/
def iSeq (K : PySem.W.Frag) (tl : TE) : TI := fun σ H R => tl σ H fun x H1 => ∃ a, x = .ref a ∧ (((∃ xs, SqL K H1 a xs) ∧ R (Itl K a) H1) ∨ ((∃ xs, SqT K H1 a xs) ∧ R (Itt K a) H1))
theorem pi_seq {tg l : Expr} {tl : TE} (hl : PE X l tl) : PI X tg l (iSeq X.K tl) := by
  refine ⟨fun pins s σ H R I h => ?_⟩
  refine thn (hl.run pins s σ H _ I h) fun v s1 ⟨x, H1, I1, r1, q1⟩ => ?_
  obtain ⟨a, e, q⟩ := q1
  subst e
  cases r1
  have fp : ∀ b ∈ [s1.heap.objs.size], FpOk X pins H1 b := fun b hb => by
    have e : b = s1.heap.objs.size := by simpa using hb
    subst e
    exact I1.fpOk (Nat.le_refl _) (I1.hok.fresh (Nat.le_refl _))
  rcases q with ⟨⟨xs, hq⟩, q⟩ | ⟨⟨xs, hq⟩, q⟩
  · obtain ⟨its, rv, p, hz⟩ := I1.list hq
    refine wpAny_pyIter_list p.isList ?_
    exact ⟨s1.heap.objs.size, [s1.heap.objs.size], _, _, H1, rfl, I1.kept (t' := s1.toks) fun b o e => Heap.get?_push_of_some _ e, turn_list a _, ⟨_, Heap.get?_push_size _ rfl, rfl, rfl⟩, fp, q⟩
  · obtain ⟨its, rv, p, hz⟩ := I1.tuple hq
    refine wpAny_pyIter_tuple (show s1.heap.IsTuple a its.toArray from p) ?_
    exact ⟨s1.heap.objs.size, [s1.heap.objs.size], _, _, H1, rfl, I1.kept (t' := s1.toks) fun b o e => Heap.get?_push_of_some _ e, turn_tuple a _, ⟨_, Heap.get?_push_size _ rfl, rfl, rfl⟩, fp, q⟩
def srcSeq (m : EM W) : EM (List PyData) := eb (evD m) fun d => match d with
  | .list xs => er xs
  | .tuple xs => er xs
  | _ => es
theorem ji_seq {tg e : Expr} {m : EM W} (h : JE CL X Wx e m) : JI CL X Wx tg e (srcSeq m) := pi_imp (pi_seq (jd_of h)) fun σ H R q => by
  refine (tOf.bind (R := rDs X.K) q).mono fun v H1 ⟨G1, s1, d, S1, r, q⟩ => ?_
  have r : RD X.K G1.F H1 d v := r
  cases r with
  | none => exact q.elim
  | bool b => exact q.elim
  | int b => exact q.elim
  | str x => exact q.elim
  | dict _ _ => exact q.elim
  | @list a vs xs h1 h2 => exact ⟨a, rfl, .inl ⟨⟨vs, h1.sq⟩, Post.here (R := rIt X.K) S1 (it_list h1 h2) q⟩⟩
  | @tuple a vs xs h1 h2 => exact ⟨a, rfl, .inr ⟨⟨vs, h1.sq⟩, Post.here (R := rIt X.K) S1 (it_tup h1 h2) q⟩⟩
/-- range -/
def rangeD (lo : Int) (n : Nat) : List PyData := (List.range n).map fun (i : Nat) => .int (lo + i)
theorem it_range {F : Addr → Prop} {lo : Int} {n : Nat} : ItOk K F H (rangeD lo n) (Itr lo n) where
  go := fun F' H' hF i hi => by
    show i < n
    simpa [rangeD] using hi
  stop := fun F' H' hF => by
    show n ≤ (rangeD lo n).length
    simp [rangeD]
  yld := fun F' H' hF hl i v H'' d y e => by
    obtain ⟨rfl, rfl⟩ := y
    refine ⟨F', .refl, ?_⟩
    have hi : i < n := by
      by_cases hi : i < n
      · exact hi
      · rw [List.getElem?_eq_none (by simp [rangeD]; omega)] at e; cases e
    unfold rangeD at e
    rw [List.getElem?_map, List.getElem?_range hi] at e
    cases e
    exact .int _
/-- range's bounds, decided classically: the kernel must never reckon with them -/
noncomputable def rg1 (j : Int) : EM (List PyData) := @ite _ (-4611686018427387904 ≤ j ∧ j < 4611686018427387904) (Classical.propDecidable _) (er (rangeD 0 j.toNat)) es
noncomputable def rg2 (i j : Int) : EM (List PyData) := @ite _ ((-4611686018427387904 ≤ i ∧ i < 4611686018427387904) ∧ -4611686018427387904 ≤ j ∧ j < 4611686018427387904) (Classical.propDecidable _) (er (rangeD i (j - i).toNat)) es
theorem rg1_v {j : Int} (h1 : -1000000 ≤ j) (h2 : j ≤ 1000000) : rg1 j = er (rangeD 0 j.toNat) := if_pos ⟨by omega, by omega⟩
theorem rg1_n {n : Nat} (h : n ≤ 1000000) : rg1 (n : Int) = er (rangeD 0 n) := by rw [rg1_v (by omega) (by omega), Int.toNat_natCast]
theorem rg2_v {i j : Int} (h1 : -1000000 ≤ i) (h2 : i ≤ 1000000) (h3 : -1000000 ≤ j) (h4 : j ≤ 1000000) : rg2 i j = er (rangeD i (j - i).toNat) := if_pos ⟨⟨by omega, by omega⟩, by omega, by omega⟩
noncomputable def srcR1 (m : EM W) : EM (List PyData) := eb (evD m) fun d => match d with
  | .int j => rg1 j
  | _ => es
theorem ji_range1 {tg a : Expr} {m : EM W} {p0 pos : Pos} (hg : Gl X "range") (hm : X.mg "range" = none) (h : JE CL X Wx a m) (hs : starEach [a] X.env = [(false, eval a X.env)]) : JI CL X Wx tg (.Call (.Name "range" p0) [a] [] pos) (srcR1 m) :=
  pi_imp (pi_range1 hg hm (pa_cons (jd_of h) pa_nil hs) hs) fun σ H R q => by
    refine (tOf.bind (R := rDs X.K) q).mono fun v H1 ⟨G1, s1, d, S1, r, q⟩ => ?_
    have r : RD X.K G1.F H1 d v := r
    cases r with
    | none => exact q.elim
    | bool b => exact q.elim
    | str x => exact q.elim
    | dict _ _ => exact q.elim
    | list _ _ => exact q.elim
    | tuple _ _ => exact q.elim
    | int j =>
      have q : Post X.K CL (rIt X.K) Wx G1 s1.mem.length σ H1 (rg1 j s1) R := q
      unfold rg1 at q
      by_cases hj : -4611686018427387904 ≤ j ∧ j < 4611686018427387904
      · rw [if_pos hj] at q
        exact ⟨j, rfl, hj.1, hj.2, Post.here (R := rIt X.K) S1 it_range q⟩
      · rw [if_neg hj] at q; exact q.elim
noncomputable def srcR2 (m m' : EM W) : EM (List PyData) := eb (evD m) fun d => eb (evD m') fun d' => match d, d' with
  | .int i, .int j => rg2 i j
  | _, _ => es
theorem ji_range2 {tg a b : Expr} {m m' : EM W} {p0 pos : Pos} (hg : Gl X "range") (hm : X.mg "range" = none) (h : JE CL X Wx a m) (h' : JE CL X Wx b m') (hs : starEach [a, b] X.env = [(false, eval a X.env), (false, eval b X.env)]) (hs2 : starEach [b] X.env = [(false, eval b X.env)]) :
    JI CL X Wx tg (.Call (.Name "range" p0) [a, b] [] pos) (srcR2 m m') :=
  pi_imp (pi_range2 hg hm (pa_cons (jd_of h) (pa_cons (jd_of h') pa_nil hs2) (by rw [hs, hs2])) hs hs2) fun σ H R q => by
    refine (tOf.bind (R := rDs X.K) q).mono fun v H1 ⟨G1, s1, d, S1, r, q⟩ => ?_
    refine tOf_at S1 ((Post.bind (R := rDs X.K) q).mono fun v2 H2 ⟨G2, s2, d', f2, S2, r2, q⟩ => ?_)
    have r : RD X.K G2.F H2 d v := f2.rd S1 r
    have r2 : RD X.K G2.F H2 d' v2 := r2
    cases r with
    | int i =>
      cases r2 with
      | int j =>
        have q : Post X.K CL (rIt X.K) Wx G2 s2.mem.length σ H2 (rg2 i j s2) R := q
        unfold rg2 at q
        by_cases hj : (-4611686018427387904 ≤ i ∧ i < 4611686018427387904) ∧ -4611686018427387904 ≤ j ∧ j < 4611686018427387904
        · rw [if_pos hj] at q
          exact ⟨i, j, rfl, ⟨hj.1.1, hj.1.2, hj.2.1, hj.2.2⟩, Post.here (R := rIt X.K) S2 it_range q⟩
        · rw [if_neg hj] at q; exact q.elim
      | none => exact q.elim
      | bool b => exact q.elim
      | str x => exact q.elim
      | dict _ _ => exact q.elim
      | list _ _ => exact q.elim
      | tuple _ _ => exact q.elim
    | none => exact q.elim
    | bool b => exact q.elim
    | str x => exact q.elim
    | dict _ _ => exact q.elim
    | list _ _ => exact q.elim
    | tuple _ _ => exact q.elim
/-! ### for -/
def forL (t : PyData → EM Unit) (body : EM Fl) : List PyData → EM Fl
  | [] => er .next
  | x :: xs => eb (t x) fun _ => eb body fun f => match f with
    | .next => forL t body xs
    | .cont => forL t body xs
    | .brk => er .next
    | .ret w => er (.ret w)
def sFor (t : PyData → EM Unit) (src : EM (List PyData)) (body : EM Fl) : EM Fl := eb src fun xs => forL t body xs
theorem noRaise {t : PyData → EM Unit} (h : ∀ d s x s', t d s ≠ .raise x s') {d : PyData} {s : S} {f : Unit → EM Fl} (q : PostS K CL Wx D G n H (eb (t d) f s)) : ∃ s', t d s = .ok () s' ∧ PostS K CL Wx D G n H (f () s') := by
  unfold eb rb at q
  cases e : t d s with
  | stuck => rw [e] at q; exact q.elim
  | raise x s' => exact absurd e (h d s x s')
  | ok u s' => rw [e] at q; exact ⟨s', rfl, q⟩
theorem js_for {tg iter : Expr} {body : List Stmt} {g : TG} {t : PyData → EM Unit} {src : EM (List PyData)} {mb : EM Fl} {pos : Pos} (hp : PassesOwn (model X.prog X.w) X.A X.env X.xe) (hc : X.calm = true) (hi : JI CL X Wx tg iter src) (hg : PG X tg g) (ht : TgS X.K CL g t) (hnr : ∀ d s x s', t d s ≠ .raise x s') (hb : JB CL X Wx body mb)
    (hs : ∀ x, foldedSetIterable iter X.env x = pure x) : JS CL X Wx (.For tg iter body [] pos) (sFor t src mb) := ps_imp (ps_for hp hc hi hg hb hs) fun D σ H q => by
  refine (tsOf.bind (R := rIt X.K) q).mono fun J H1 ⟨G1, s1, xs, S1, io, q⟩ => ?_
  have io : ItOk X.K G1.F H1 xs J := io
  refine ⟨fun i m σ' H' => ∃ G' s', SR X.K CL G' s' σ' H' ∧ Fut G1 H1 s1.mem.length G' H' s'.mem.length ∧ i + m = xs.length ∧ PostS X.K CL Wx D G' s'.mem.length H' (forL t mb (xs.drop i) s'),
    ⟨xs.length, G1, s1, S1, Fut.refl, by omega, q⟩, fun i m σ' H' hW => ?_⟩
  obtain ⟨G', s', S', f', em, q⟩ := hW
  have hF := f'.mono S1
  by_cases hlt : i < xs.length
  · refine .inr ⟨io.go G'.F H' hF i hlt, fun σ2 H2 => ∃ G2 s2, SR X.K CL G2 s2 σ2 H2 ∧ Fut G1 H1 s1.mem.length G2 H2 s2.mem.length ∧ PostS X.K CL Wx D G2 s2.mem.length H2 (forL t mb (xs.drop (i + 1)) s2), fun σ2 H2 ⟨G2, s2, S2, f2, q2⟩ => ⟨m - 1, by omega, G2, s2, S2, f2, by omega, q2⟩, fun v H2 y => ?_⟩
    obtain ⟨d, hd⟩ : ∃ d, xs[i]? = some d := ⟨_, List.getElem?_eq_getElem hlt⟩
    obtain ⟨F2, gr, rd⟩ := io.yld G'.F H' hF S'.liveF i v H2 d y hd
    obtain ⟨S2, f2⟩ := S'.grow gr
    have ed : xs.drop i = d :: xs.drop (i + 1) := by
      rw [List.drop_eq_getElem_cons hlt]
      rw [List.getElem?_eq_getElem hlt] at hd
      cases hd
      rfl
    rw [ed] at q
    unfold forL at q
    obtain ⟨s3, e3, q⟩ := noRaise hnr q
    refine ht _ s' σ' H2 d v _ s3 S2 rd e3 fun G3 σ3 S3 f3 m3 => ⟨G3, s3, S3, ?_⟩
    have f13 : Fut G1 H1 s1.mem.length G3 H2 s3.mem.length := by
      have z := (f'.trans (f2 (n := s'.mem.length))).trans (f3 (n := s'.mem.length))
      rw [m3]
      exact z
    have q : PostS X.K CL Wx D G3 s3.mem.length H2 (eb mb (fun f => match f with
        | .next => forL t mb (xs.drop (i + 1))
        | .cont => forL t mb (xs.drop (i + 1))
        | .brk => er .next
        | .ret w => er (.ret w)) s3) := by
      have z := PostS.later ((f2 (n := s'.mem.length)).trans (f3 (n := s'.mem.length))) q
      rw [m3]
      exact z
    unfold eb rb at q
    cases e : mb s3 with
    | stuck => rw [e] at q; exact q
    | raise x s4 => rw [e] at q; exact q
    | ok fl s4 =>
      rw [e] at q
      cases fl with
      | next => exact fun G4 σ4 H4 f4 S4 => ⟨G4, s4, S4, f13.trans f4, PostS.later f4 q⟩
      | cont => exact fun G4 σ4 H4 f4 S4 => ⟨G4, s4, S4, f13.trans f4, PostS.later f4 q⟩
      | brk => exact q
      | ret w => exact q
  · have ei : i = xs.length := by omega
    subst ei
    refine .inl ⟨io.stop G'.F H' hF, ?_⟩
    rw [List.drop_length] at q
    exact q G' σ' H' Fut.refl S'
/-! ### while -/
def whileN (c : EM Bool) (body : EM Fl) : Nat → EM Fl
  | 0 => es
  | n + 1 => eb c fun k => if k = true then eb body fun f => match f with
      | .next => whileN c body n
      | .cont => whileN c body n
      | .brk => er .next
      | .ret w => er (.ret w)
    else er .next
open Classical in
noncomputable def sWhile (c : EM Bool) (body : EM Fl) : EM Fl := fun s => if h : ∃ n, whileN c body n s ≠ .stuck then whileN c body h.choose s else .stuck
theorem js_while {c : Expr} {body : List Stmt} {mc : EM Bool} {mb : EM Fl} {pos : Pos} (hp : PassesOwn (model X.prog X.w) X.A X.env X.xe) (hc : JT CL X Wx c mc) (hb : JB CL X Wx body mb) : JS CL X Wx (.While c body [] pos) (sWhile mc mb) := ps_imp (ps_while hp hc hb) fun D σ H q => by
  obtain ⟨G, s, S, q⟩ := q
  unfold sWhile at q
  by_cases h : ∃ n, whileN mc mb n s ≠ .stuck
  · rw [dif_pos h] at q
    refine ⟨fun m σ' H' => ∃ G' s', SR X.K CL G' s' σ' H' ∧ PostS X.K CL Wx D G' s'.mem.length H' (whileN mc mb m s'), ⟨h.choose, G, s, S, q⟩, fun m σ' H' hW => ?_⟩
    obtain ⟨G', s', S', q⟩ := hW
    cases m with
    | zero => exact q.elim
    | succ m =>
      unfold whileN at q
      refine tOf_at S' ((PostS.bind (R := rBs) (σ := σ') (n' := 0) q fun _ _ _ => trivial).mono fun b H2 ⟨G2, s2, k, f2, S2, r2, q⟩ => ?_)
      subst r2
      cases k with
      | false => rw [if_neg Bool.false_ne_true] at q ⊢; exact q G2 σ' H2 Fut.refl S2
      | true =>
        rw [if_pos rfl] at q ⊢
        refine ⟨fun σ3 H3 => ∃ G3 s3, SR X.K CL G3 s3 σ3 H3 ∧ PostS X.K CL Wx D G3 s3.mem.length H3 (whileN mc mb m s3), fun σ3 H3 w => ⟨m, Nat.lt_succ_self m, w⟩, G2, s2, S2, ?_⟩
        unfold eb rb at q
        cases e : mb s2 with
        | stuck => rw [e] at q; exact q
        | raise x s4 => rw [e] at q; exact q
        | ok fl s4 =>
          rw [e] at q
          cases fl with
          | next => exact fun G4 σ4 H4 f4 S4 => ⟨G4, s4, S4, PostS.later f4 q⟩
          | cont => exact fun G4 σ4 H4 f4 S4 => ⟨G4, s4, S4, PostS.later f4 q⟩
          | brk => exact q
          | ret w => exact q
  · rw [dif_neg h] at q; exact q.elim
end
end MP
/-! Part L: exceptions. -/
namespace MP
open PySem PySem.Spec PyProof.Rows L2
/-! ### several clauses, with names or without -/
/-- what the clauses wish of an exception, one after the other -/
def wMA (K : PySem.W.Frag) (Wo : WX) (D : Ends) : List (Value × Option Nat × (Addr → Value → Option Addr → TS)) → WX
  | [] => Wo
  | (c, none, ts) :: r => fun k d σ H => ∃ b, PySem.W.exmOne K k c = some b ∧ (b = true → ∀ a, H a = none → ts a k d D σ H) ∧ (b = false → wMA K Wo D r k d σ H)
  | (c, some i, ts) :: r => fun k d σ H => ∃ b, PySem.W.exmOne K k c = some b ∧
      (b = true → ∀ a, H a = none → ts a k d { nx := fun σ' H' => D.nx (σ'.set i none) H', rt := D.rt, bk := fun σ' H' => D.bk (σ'.set i none) H', ct := fun σ' H' => D.ct (σ'.set i none) H' } (σ.set i (some (.ref a))) H) ∧ (b = false → wMA K Wo D r k d σ H)
inductive HdA (X : Cx) : List ExceptHandler → List (Value × Option Nat × (Addr → Value → Option Addr → TS)) → Prop
  | nil : HdA X [] []
  | plain {x : Str} {c : Value} {ts : Addr → Value → Option Addr → TS} {b0 : Stmt} {su : List Stmt} {np hp : Pos} {hs : List ExceptHandler} {l : List (Value × Option Nat × (Addr → Value → Option Addr → TS))} (hc : Names X x c)
      (hsu : ∀ (a : Addr) (oe : Obj) (k : Value) (d : Option Addr) (pn : List (Addr × Obj)), Zc k d oe → (∃ vs, oe.data = .fields vs) → PSs (X.suite a ((a, oe) :: pn)) (b0 :: su) (ts a k d)) (r : HdA X hs l) :
      HdA X (.ExceptHandler (some (.Name x np)) none (b0 :: su) hp :: hs) ((c, none, ts) :: l)
  | named {x n : Str} {i : Nat} {c : Value} {ts : Addr → Value → Option Addr → TS} {b0 : Stmt} {su : List Stmt} {np hp : Pos} {hs : List ExceptHandler} {l : List (Value × Option Nat × (Addr → Value → Option Addr → TS))} (hN : X.N.Nodup) (hi : X.N[i]? = some n) (hln : X.env.kindOf n = some .local) (hc : Names X x c)
      (hsu : ∀ (a : Addr) (oe : Obj) (k : Value) (d : Option Addr) (pn : List (Addr × Obj)), Zc k d oe → (∃ vs, oe.data = .fields vs) → PSs (X.suite a ((a, oe) :: pn)) (b0 :: su) (ts a k d)) (r : HdA X hs l) :
      HdA X (.ExceptHandler (some (.Name x np)) (some n) (b0 :: su) hp :: hs) ((c, some i, ts) :: l)
section
variable {X : Cx} {body : List Stmt} {h0 : ExceptHandler} {hs : List ExceptHandler} {l : List (Value × Option Nat × (Addr → Value → Option Addr → TS))} {pos : Pos} {tb : WX → TS} {Wo : WX}
theorem ps_tryA (hst : X.stack = X.env :: X.outer) (hfr : X.env.frame = some X.env.locals) (tk : Takes X Wo)
    (hb : ∀ (W : WX) (pn : List (Addr × Obj)) (xe : Value → Shared → Prop), Takes (X.tr pn xe) W → PassesOwn (model X.prog X.w) X.A X.env xe → PSs (X.tr pn xe) body (tb W))
    (hh : HdA X (h0 :: hs) l) : PS X (.Try body (h0 :: hs) [] [] pos) (fun D σ H => tb (wMA X.K Wo D l) D σ H) := by
  constructor
  intro pins s σ H D I h
  have xok := I.ok
  have fr0 : X.A.frames = some (X.env :: X.outer) := xok.frames.trans (congrArg some hst)
  apply wpAny_Try_except
  let look : Value → Shared → Prop := fun e s₁ => wpAny (model X.prog X.w) X.A (noteFrame e X.env) (fun _ s₂ => wpAny (model X.prog X.w) X.A (setFlight e none) (fun _ s₃ => wpAny (model X.prog X.w) X.A (handleBy e X.env (h0 :: hs)) (SP X pins D) X.xe s₃) X.xe s₂) X.xe s₁
  have takes : Takes (X.tr (X.pn ++ pins) look) (wMA X.K Wo D l) := by
    intro u s' xx
    obtain ⟨a, B, sI, pins', σ', H', k, d, rfl, J0, nb, up, sky, na, os, ag, wish⟩ := xx
    have J : Inv X pins σ' H' sI := J0.ofTry xok
    rw [show (X.tr (X.pn ++ pins) look).stack = X.env :: X.outer from hst] at sky
    show wpAny (model X.prog X.w) X.A (noteFrame (.ref a) X.env) _ _ _
    refine Sky.land Zc.steady fr0 hfr sky fun h3 fl3 up3 => ?_
    have J3 : Inv X pins σ' H' { s' with heap := h3 } := J.landed nb fl3.1 (up.trans up3) os ag
    obtain ⟨o3, f3, g3, z3, d3⟩ := fl3.there
    have noFrame : a ∉ frs (X.env :: X.outer) := fun hm => by
      obtain ⟨_, o', e', hnf⟩ := fl3.2.2.1.mem hm
      rw [g3] at e'
      cases e'
      exact hnf _ d3
    have nLoc : a ≠ X.env.locals := fun z => noFrame (List.mem_filterMap.mpr ⟨X.env, List.mem_cons_self, hfr.trans (congrArg some z.symm)⟩)
    have nOut : a ∉ X.fs := fun hm => by
      obtain ⟨e, he, q⟩ := List.mem_filterMap.mp hm
      exact noFrame (List.mem_filterMap.mpr ⟨e, List.mem_cons_of_mem _ he, q⟩)
    have S3 := J3.suite g3 d3 na nLoc nOut
    have go : ∀ {hs' : List ExceptHandler} {l' : List (Value × Option Nat × (Addr → Value → Option Addr → TS))}, HdA X hs' l' → wMA X.K Wo D l' k d σ' H' → wpAny (model X.prog X.w) X.A (handleBy (.ref a) X.env hs') (SP X pins D) X.xe { s' with heap := h3 } := by
      intro hs' l' hk
      have tst : ∀ {x : Str} {np : Pos} {c : Value} {Q : Value → Shared → Prop} {E : Value → Shared → Prop}, Names X x c → Q c { s' with heap := h3 } → wpAny (model X.prog X.w) (X.A.mark (some (.ref a))) (eval (.Name x np) X.env) Q E { s' with heap := h3 } := fun {x np c Q E} hc q => by
        obtain ⟨hg, hdb, hm | ⟨hm, hv, hnn⟩⟩ := hc
        · exact ld_glob (X := X.suite a ((a, o3) :: (X.pn ++ pins))) S3 hg hm q hdb
        · exact ld_blt (X := X.suite a ((a, o3) :: (X.pn ++ pins))) S3 hg hm hv q hnn hdb
      have LT : PySem.W.Looks (model X.prog X.w) h3 (typeOf (.ref a)) k := fun A Q E s k' q => wpAny_typeOf_ref (k' _ _ g3) (by rw [z3.1]; exact q)
      induction hk with
      | nil =>
        intro w
        apply wpAny_handleBy_nil
        obtain ⟨_, _, _, oe, vs, T, _, _, he, _, hd, h1, _⟩ := id fl3
        unfold PySem.passOn
        refine wpAny_bind (wpAny_field he hd h1 ?_)
        rw [if_neg (by simp : ¬ ((Value.ref T == Value.none) = true))]
        have fin : wpAny (model X.prog X.w) X.A (setFlight (.ref a) X.env.frame) (fun _ s4 => wpAny (model X.prog X.w) X.A (throw (.ref a) : Sem Flow) (SP X pins D) X.xe s4) X.xe { s' with heap := h3 } := by
          rw [hfr]
          exact HandSPX.setFlight_upZ fl3 fun h4 hh4 up4 => wpAny_throw (tk _ _ ⟨a, B, sI, pins, σ', H', k, d, rfl, J, nb, (up.trans up3).trans up4, .inr (.inr (by rw [hst]; exact hh4)), na, os, ag, w⟩)
        first
          | exact wpAny_bind (wpAny_pure (wpAny_bind fin))
          | exact wpAny_bind fin
      | plain hc hsu r ih =>
        intro w
        obtain ⟨b, hb1, yes, no⟩ := w
        refine wpAny_handleBy_cons (codeAny_handlers_test (tst hc ((PySem.W.exm_one (M := model X.prog X.w) J3.kIn LT hb1).here ?_))) (by intro q; cases q)
        cases b with
        | false => exact ih (no rfl)
        | true =>
          refine codeAny_handlers_suite (HandSPX.lands_againZ fl3 fun h4 fl4 up4 => ?_)
          have J4 : Inv X pins σ' H' { s' with heap := h4 } := J.landed nb fl4.1 ((up.trans up3).trans up4) os ag
          obtain ⟨o4, f4, g4, z4, d4⟩ := fl4.there
          refine wpAny_mono ((hsu a o4 k d (X.pn ++ pins) z4 ⟨_, d4⟩).run [] _ _ H' _ (J4.suite g4 d4 na nLoc nOut) (yes rfl a na)) (fun f s6 hsp => ?_) (fun _ _ z => False.elim z)
          cases f with
          | next => obtain ⟨σ6, H6, S6, q6⟩ := hsp; exact ⟨_, _, S6.unsuite xok, q6⟩
          | brk => obtain ⟨σ6, H6, S6, q6⟩ := hsp; exact ⟨_, _, S6.unsuite xok, q6⟩
          | cont => obtain ⟨σ6, H6, S6, q6⟩ := hsp; exact ⟨_, _, S6.unsuite xok, q6⟩
          | ret u => obtain ⟨v6, σ6, H6, S6, r6, q6⟩ := hsp; exact ⟨_, _, _, S6.unsuite xok, r6, q6⟩
      | @named x n i c ts b0 su np hp hs2 l2 hN hi hln hc hsu r ih =>
        intro w
        obtain ⟨b, hb1, yes, no⟩ := w
        refine wpAny_handleBy_cons (codeAny_handlers_test (tst hc ((PySem.W.exm_one (M := model X.prog X.w) J3.kIn LT hb1).here ?_))) (by intro q; cases q)
        cases b with
        | false => exact ih (no rfl)
        | true =>
          refine codeAny_handlers_suite_as (HandSPX.lands_againZ fl3 fun h4 fl4 up4 => ?_)
          have J4 : Inv X pins σ' H' { s' with heap := h4 } := J.landed nb fl4.1 ((up.trans up3).trans up4) os ag
          obtain ⟨o4, f4, g4, z4, d4⟩ := fl4.there
          refine store_ok (X := X.suite a ((a, o4) :: (X.pn ++ pins))) (v := .ref a) (J4.suite g4 d4 na nLoc nOut) hN hi (.inl hln) rfl (fun s5 S5 => ?_) (.inr hln)
          refine wpAny_mono ((hsu a o4 k d (X.pn ++ pins) z4 ⟨_, d4⟩).run [] s5 _ H' _ S5 (yes rfl a na)) (fun f s6 hsp => ?_) (fun _ _ z => False.elim z)
          have fin : ∀ {σ6 : L2.St} {H6 : Hp} {Q : Shared → Prop}, Inv (X.suite a ((a, o4) :: (X.pn ++ pins))) [] σ6 H6 s6 → (∀ s7, Inv X pins (σ6.set i none) H6 s7 → Q s7) → wpAny (model X.prog X.w) X.A (do bindName X.env n .none; unbindBehindTheSuite X.env n hp) (fun _ s7 => Q s7) X.xe s6 := fun {σ6 H6 Q} S6 hq => gone_ok (S6.unsuite xok) hN hi hln hq
          cases f with
          | next => obtain ⟨σ6, H6, S6, q6⟩ := hsp; exact fin S6 fun s7 J7 => ⟨_, _, J7, q6⟩
          | brk => obtain ⟨σ6, H6, S6, q6⟩ := hsp; exact fin S6 fun s7 J7 => ⟨_, _, J7, q6⟩
          | cont => obtain ⟨σ6, H6, S6, q6⟩ := hsp; exact fin S6 fun s7 J7 => ⟨_, _, J7, q6⟩
          | ret u => obtain ⟨v6, σ6, H6, S6, r6, q6⟩ := hsp; exact fin S6 fun s7 J7 => ⟨_, _, _, J7, r6, q6⟩
    exact go hh wish
  refine wpAny_mono ((hb (wMA X.K Wo D l) (X.pn ++ pins) look takes PassesOwn.looking).run [] s σ H D (I.toTry _) h) (fun f s1 hsp => ?_) (fun e s1 he => he)
  cases f with
  | next => obtain ⟨σ', H', J', q⟩ := hsp; exact wpAny_execs_nil ⟨σ', H', J'.ofTry xok, q⟩
  | brk => obtain ⟨σ', H', J', q⟩ := hsp; exact ⟨σ', H', J'.ofTry xok, q⟩
  | cont => obtain ⟨σ', H', J', q⟩ := hsp; exact ⟨σ', H', J'.ofTry xok, q⟩
  | ret u => obtain ⟨v, σ', H', J', r, q⟩ := hsp; exact ⟨v, σ', H', J'.ofTry xok, r, q⟩
end
end MP
/-! Part M: raise and try over the evaluator. -/
namespace MP
open PySem PySem.Spec PyProof.Rows L2
section
variable {K : PySem.W.Frag} {CL : CA} {G G1 G' : Gh} {H H1 H' : Hp} {s s1 : S} {σ : L2.St} {n n1 n' : Nat} {α β γ δ : Type} {R : Rel α β} {Wx : WX} {X : Cx} {p : Addr} {D D' : Ends}
/-! ### an own class without fields is raised -/
structure XIn (CL : CA) (X : Cx) (cn : Str) : Prop where
  is : ∃ C, X.mg cn = some (.ref C) ∧ CL.cl cn C ∧ PySem.W.keepIn X.K (.ref C) = true ∧ Raises X (.ref C) ∧ PySem.W.excIn X.K C [.type "ValueError", .type "Exception", .type "BaseException", .type "object"] "ValueError.__new__" = true
def sRaise (cn : Str) : EM Fl := fun s => .raise ⟨cn, []⟩ s
theorem js_raise {x m : Str} {j : Nat} {p0 p2 p3 pos : Pos} (hc : X.calm = true) (tk : Takes X Wx) (hx : XIn CL X x) (hg : Gl X x) (hdb : (x == ("__debug__" : Str)) = false) :
    JS CL X Wx (.Raise (some (.Call (.Name x p0) [.Constant (.str m) j p2] [] p3)) none pos) (sRaise x) := by
  obtain ⟨C, m1, m2, m3, m4, m5⟩ := hx.is
  refine ps_imp (ps_raise hc tk (pmk_own PySem.F.excBase_ValueError m5 m1 m3 m4 hg hdb)) fun D σ H q => ?_
  obtain ⟨G, s, S, q⟩ := q
  exact q G σ H _ _ Fut.refl S ⟨rfl, rfl, C, rfl, m2⟩
/-! ### slots and the exception in hand -/
def noExn (s : S) : Bool := s.rho.all fun o => match o with
  | some (.exn _) => false
  | _ => true
theorem noExn_at (h : noExn s = true) {i : Nat} {c : Str} : s.rho[i]? ≠ some (some (.exn c)) := fun e => by
  have z := List.all_eq_true.mp h (some (.exn c)) (List.mem_of_getElem? e)
  cases z
def Gh.setEx (G : Gh) (e : Option (Addr × Str)) : Gh := ⟨G.F, G.ad, e⟩
def CA.setEx (CL : CA) (e : Option (Addr × Str)) : CA := ⟨CL.cl, e⟩
theorem RP.setEx {e : Option (Addr × Str)} {pl : Pl} {w : W} {v : V} (hw : ∀ c, w ≠ .exn c) (h : RP K G H pl w v) : RP K (G.setEx e) H pl w v := by
  cases w with
  | exn c => exact absurd rfl (hw c)
  | d y => exact h
  | ref b => exact h
  | own c => exact h
theorem SR.setEx (S : SR K CL G s σ H) (hn : noExn s = true) (e : Option (Addr × Str)) : SR K (CL.setEx e) (G.setEx e) s σ H := by
  refine ⟨S.len, fun i w e' => ?_, fun b c e' => ?_, S.inj, S.live, S.fz, S.bx, S.fd, rfl⟩
  · obtain ⟨v, h1, h2⟩ := S.slots i w e'
    exact ⟨v, h1, h2.setEx fun c z => by subst z; exact noExn_at hn e'⟩
  · obtain ⟨q, h1, h2⟩ := S.boxes b c e'
    refine ⟨q, h1, ?_⟩
    cases c with
    | ctr c => exact h2
    | inst cls fs =>
      obtain ⟨C, dx, vfs, g1, g2, g3, g4⟩ := h2
      refine ⟨C, dx, vfs, g1, g2, g3, fun f w hw => ?_⟩
      obtain ⟨v, k1, k2, g9⟩ := g4 f w hw
      exact ⟨v, k1, k2.setEx (fun c z => by subst z; exact g9.elim), g9⟩
theorem Fut.setEx {e e' : Option (Addr × Str)} (f : Fut G H n G' H' n') : Fut (G.setEx e) H n (G'.setEx e) H' n' := ⟨f.fr, f.oth, f.there, f.newF, f.newA, f.box, f.le, rfl⟩
/-- a slot is forgotten, or holds the exception -/
theorem SR.put0 (S : SR K CL G s σ H) {i : Nat} {o : Option W} {u : Option V} (hi : i < σ.length) (ho : ∀ w, o = some w → ∃ v c, u = some v ∧ w = .exn c ∧ RP K G H (.slot i) w v) :
    SR K CL (G.put (.slot i) none) { s with rho := s.rho.set i o } (σ.set i u) H ∧ ∀ {n : Nat}, Fut G H n (G.put (.slot i) none) H n := by
  have hb : ∀ b, Pl.slot i ≠ .box b := fun b z => by cases z
  refine ⟨⟨by simpa using S.len, fun j w' e => ?_, fun b c e => ?_, fun pl pl' x e1 e2 => S.inj pl pl' x (Gh.put_none e1).2 (Gh.put_none e2).2, fun pl x e => S.live pl x (Gh.put_none e).2, fun x f => ⟨(S.fz x f).1, fun pl e => (S.fz x f).2 pl (Gh.put_none e).2⟩, fun b x e => S.bx b x (Gh.put_none e).2, fun b f x e => S.fd b f x (Gh.put_none e).2, S.exq⟩,
    fun {n} => ⟨fun _ h => h, fun a o e _ => e, fun a o e => ⟨o, e⟩, fun _ h => .inl h, fun pl x h => .inr ⟨pl, (Gh.put_none h).2⟩, fun b x _ e => by rw [Gh.put_ne (fun z => hb b z.symm)]; exact e, Nat.le_refl _, rfl⟩⟩
  · by_cases hj : j = i
    · subst hj
      rw [List.getElem?_set_self (by rw [S.len]; exact hi)] at e
      cases e
      obtain ⟨v, c, hu, rfl, h⟩ := ho w' rfl
      subst hu
      exact ⟨v, List.getElem?_set_self hi, h⟩
    · rw [List.getElem?_set_ne (Ne.symm hj)] at e
      obtain ⟨v', h1, h2⟩ := S.slots j w' e
      exact ⟨v', by rw [List.getElem?_set_ne (Ne.symm hj)]; exact h1, h2.put (fun z => hj (by cases z; rfl)) hb⟩
  · obtain ⟨q, h1, h2⟩ := S.boxes b c e
    refine ⟨q, by rw [Gh.put_ne (fun z => hb b z.symm)]; exact h1, ?_⟩
    cases c with
    | ctr c => exact h2
    | inst cls fs =>
      obtain ⟨C, dx, vfs, g1, g2, g3, g4⟩ := h2
      refine ⟨C, dx, vfs, g1, g2, g3, fun f w hw => ?_⟩
      obtain ⟨v, k1, k2, g9⟩ := g4 f w hw
      exact ⟨v, k1, k2.put (fun z => by cases z) hb, g9⟩
/-! ### isinstance of the exception in hand -/
abbrev Tab := Str → Str → Option Bool
def cIsE (tab : Tab) (i : Nat) (T : Str) : EM W := fun s => match s.rho[i]? with
  | some (some (.exn c)) => match tab c T with
    | some b => .ok (.d (.bool b)) s
    | none => .stuck
  | _ => .stuck
theorem je_isE {tab : Tab} {i : Nat} {x y tn : Str} {p0 p1 p2 pos : Pos} {a : Addr} {oe : Obj} {pn : List (Addr × Obj)} {v : V} {u : Value} (hex : ∀ a' c, CL.ex = some (a', c) → a' = a ∧ ∃ C, CL.cl c C ∧ ExcC X.K C ∧ Zc (.ref C) none oe ∧ ∀ b, tab c tn = some b → PySem.W.kitOne X.K (.ref C) u = some b)
    (hf : ∃ vs, oe.data = .fields vs) (hg : Gl X x) (hm : X.mg x = none) (hb : bootBuiltins x = some (.builtin "isinstance")) (hn : x ≠ "__name__") (hdb : (x == ("__debug__" : Str)) = false)
    (hy : PE (X.suite a ((a, oe) :: pn)) (.Name y p1) (tVar i)) (ht : PE (X.suite a ((a, oe) :: pn)) (.Name tn p2) (tC v)) (hu : ∀ w, RelV v w → w = u) :
    JE CL (X.suite a ((a, oe) :: pn)) Wx (.Call (.Name x p0) [.Name y p1, .Name tn p2] [] pos) (cIsE tab i tn) := by
  constructor
  intro pins s0 σ H Q I q
  obtain ⟨G, s, S, q⟩ := q
  unfold cIsE at q
  cases e : s.rho[i]? with
  | none => simp only [e] at q; exact q.elim
  | some o =>
    cases o with
    | none => simp only [e] at q; exact q.elim
    | some w =>
      cases w with
      | d y => simp only [e] at q; exact q.elim
      | ref y => simp only [e] at q; exact q.elim
      | own y => simp only [e] at q; exact q.elim
      | exn c =>
        simp only [e] at q
        cases e1 : tab c tn with
        | none => simp only [e1] at q; exact q.elim
        | some b =>
          simp only [e1] at q
          obtain ⟨v', hv, a', rfl, hge⟩ := S.slots i _ e
          obtain ⟨rfl, C, h1, h2, h3, h4⟩ := hex a' c (S.exq.symm.trans hge)
          refine (pe_callB (call_isE h2 h3 hf) hg hm hb (pa_cons hy (pa_cons ht pa_nil)) hn hdb).run pins s0 σ H Q I ?_
          exact ⟨_, hv, v, u, b, rfl, hu, h4 b e1, q G H _ Fut.refl S (RD.bool b)⟩
/-! ### try -/
structure Hd where
  cn : Str
  sl : Option Nat
  su : EM Fl
def finH (sl : Option Nat) (r : Res Fl) : Res Fl := match r with
  | .ok f s => match sl with
    | none => if noExn s = true then .ok f s else .stuck
    | some i => if i < s.rho.length ∧ noExn { s with rho := s.rho.set i none } = true then .ok f { s with rho := s.rho.set i none } else .stuck
  | _ => .stuck
def handle (tab : Tab) : List Hd → Ex → EM Fl
  | [], x => fun s => .raise x s
  | h :: r, x => fun s => match tab x.cls h.cn with
    | some true => if noExn s = true then match h.sl with
        | none => finH none (h.su s)
        | some i => if i < s.rho.length then finH (some i) (h.su { s with rho := s.rho.set i (some (.exn x.cls)) }) else .stuck
      else .stuck
    | some false => handle tab r x s
    | none => .stuck
def sTry (tab : Tab) (body : EM Fl) (hs : List Hd) : EM Fl := fun s => match body s with
  | .raise x s' => handle tab hs x s'
  | r => r
/-- the clauses and their suites -/
inductive JH (CL : CA) (X : Cx) (tab : Tab) : List ExceptHandler → List Hd → List (Value × Option Nat × (Addr → Value → Option Addr → TS)) → Prop
  | nil : JH CL X tab [] [] []
  | cons {x : Str} {n : Option Str} {sl : Option Nat} {c : Value} {su : EM Fl} {b0 : Stmt} {sts : List Stmt} {np hp : Pos} {hs : List ExceptHandler} {ms : List Hd} {l : List (Value × Option Nat × (Addr → Value → Option Addr → TS))}
      (hc : Names X x c) (ht : ∀ cls C b, CL.cl cls C → tab cls x = some b → PySem.W.exmOne X.K (.ref C) c = some b)
      (hsl : match n, sl with | none, none => True | some n, some i => X.N[i]? = some n ∧ X.env.kindOf n = some .local | _, _ => False)
      (hsu : ∀ (a : Addr) (oe : Obj) (cn : Str) (C : Addr) (pn : List (Addr × Obj)), CL.cl cn C → Zc (.ref C) none oe → (∃ vs, oe.data = .fields vs) → JB (CL.setEx (some (a, cn))) (X.suite a ((a, oe) :: pn)) (fun _ _ _ _ => False) (b0 :: sts) su)
      (r : JH CL X tab hs ms l) :
      JH CL X tab (.ExceptHandler (some (.Name x np)) n (b0 :: sts) hp :: hs) (⟨x, sl, su⟩ :: ms)
        ((c, sl, fun a k d D σ H => ∃ cn C, k = .ref C ∧ CL.cl cn C ∧ d = none ∧ tsOf X.K (CL.setEx (some (a, cn))) (fun _ _ _ _ => False) su D σ H) :: l)
theorem JH.hd (hN : X.N.Nodup) {tab : Tab} : ∀ {hs : List ExceptHandler} {ms : List Hd} {l : List (Value × Option Nat × (Addr → Value → Option Addr → TS))}, JH CL X tab hs ms l → HdA X hs l
  | _, _, _, .nil => .nil
  | _, _, _, .cons (n := n) (sl := sl) (su := su) (b0 := b0) (sts := sts) hc ht hsl hsu r => by
    have su' : ∀ (a : Addr) (oe : Obj) (k : Value) (d : Option Addr) (pn : List (Addr × Obj)), Zc k d oe → (∃ vs, oe.data = .fields vs) →
        PSs (X.suite a ((a, oe) :: pn)) (b0 :: sts) (fun D σ H => ∃ cn C, k = .ref C ∧ CL.cl cn C ∧ d = none ∧ tsOf X.K (CL.setEx (some (a, cn))) (fun _ _ _ _ => False) su D σ H) := fun a oe k d pn hz hd => ⟨fun pins s σ H D I q => by
      obtain ⟨cn, C, rfl, h1, rfl, q⟩ := q
      exact (hsu a oe cn C pn h1 hz hd).run pins s σ H D I q⟩
    cases n with
    | none =>
      cases sl with
      | none => exact .plain hc su' (r.hd hN)
      | some i => exact hsl.elim
    | some n =>
      cases sl with
      | none => exact hsl.elim
      | some i => exact .named hN hsl.1 hsl.2 hc su' (r.hd hN)
theorem FutEx {e : Option (Addr × Str)} (f : Fut (G.setEx e) H n G' H' n') : Fut G H n (G'.setEx G.ex) H' n' := ⟨f.fr, f.oth, f.there, f.newF, f.newA, f.box, f.le, rfl⟩
theorem noRes {r : Res Fl} {sl : Option Nat} (q : PostS K CL Wx D G n H (finH sl r)) : ∃ f s, r = .ok f s := by
  cases r with
  | ok f s => exact ⟨f, s, rfl⟩
  | raise x s => exact q.elim
  | stuck => exact q.elim
theorem RW.setEx {e : Option (Addr × Str)} {w : W} {v : V} (h : RW K G H w v) : RW K (G.setEx e) H w v := by
  cases w with
  | exn c => exact h.elim
  | d y => exact h
  | ref b => exact h
  | own c => exact h.elim
theorem RW.put {i : Nat} {a : Option Addr} {w : W} {v : V} (h : RW K G H w v) : RW K (G.put (.slot i) a) H w v := by
  cases w with
  | exn c => exact h.elim
  | d y => exact h
  | ref b =>
    obtain ⟨q, e1, e2⟩ := h
    exact ⟨q, e1, by rw [Gh.put_ne (fun z => by cases z)]; exact e2⟩
  | own c => exact h.elim
/-- a suite's end: the slot is let go, the exception is no more in hand -/
theorem finH_ok {sl : Option Nat} {r : Res Fl} {e : Option (Addr × Str)} (hG : G.ex = CL.ex) (q : PostS K CL Wx D G n H (finH sl r)) :
    PostS K (CL.setEx e) (fun _ _ _ _ => False) (match sl with
      | none => D
      | some i => { nx := fun σ' H' => D.nx (σ'.set i none) H', rt := D.rt, bk := fun σ' H' => D.bk (σ'.set i none) H', ct := fun σ' H' => D.ct (σ'.set i none) H' }) (G.setEx e) n H r := by
  obtain ⟨f, s', rfl⟩ := noRes q
  cases sl with
  | none =>
    have q : PostS K CL Wx D G n H (if noExn s' = true then .ok f s' else .stuck) := q
    by_cases hn : noExn s' = true
    · rw [if_pos hn] at q
      have back : ∀ {G' : Gh} {σ' : L2.St} {H' : Hp}, Fut (G.setEx e) H n G' H' s'.mem.length → SR K (CL.setEx e) G' s' σ' H' → Fut G H n (G'.setEx CL.ex) H' s'.mem.length ∧ SR K CL (G'.setEx CL.ex) s' σ' H' := fun {G' σ' H'} f S =>
        ⟨by rw [← hG]; exact FutEx f, S.setEx hn CL.ex⟩
      cases f with
      | next => exact fun G' σ' H' f S => q _ σ' H' (back f S).1 (back f S).2
      | brk => exact fun G' σ' H' f S => q _ σ' H' (back f S).1 (back f S).2
      | cont => exact fun G' σ' H' f S => q _ σ' H' (back f S).1 (back f S).2
      | ret w => exact fun G' σ' v H' f S r => q _ σ' v H' (back f S).1 (back f S).2 r.setEx
    · rw [if_neg hn] at q; exact q.elim
  | some i =>
    have q : PostS K CL Wx D G n H (if i < s'.rho.length ∧ noExn { s' with rho := s'.rho.set i none } = true then .ok f { s' with rho := s'.rho.set i none } else .stuck) := q
    by_cases hn : i < s'.rho.length ∧ noExn { s' with rho := s'.rho.set i none } = true
    · rw [if_pos hn] at q
      have back : ∀ {G' : Gh} {σ' : L2.St} {H' : Hp}, Fut (G.setEx e) H n G' H' s'.mem.length → SR K (CL.setEx e) G' s' σ' H' →
          Fut G H n ((G'.put (.slot i) none).setEx CL.ex) H' s'.mem.length ∧ SR K CL ((G'.put (.slot i) none).setEx CL.ex) { s' with rho := s'.rho.set i none } (σ'.set i none) H' := fun {G' σ' H'} f S => by
        obtain ⟨S2, f2⟩ := S.put0 (i := i) (o := none) (u := none) (by rw [← S.len]; exact hn.1) (fun w z => by cases z)
        have f3 := FutEx (f.trans (f2 (n := s'.mem.length)))
        exact ⟨by rw [← hG]; exact f3, S2.setEx hn.2 CL.ex⟩
      cases f with
      | next => exact fun G' σ' H' f S => q _ _ H' (back f S).1 (back f S).2
      | brk => exact fun G' σ' H' f S => q _ _ H' (back f S).1 (back f S).2
      | cont => exact fun G' σ' H' f S => q _ _ H' (back f S).1 (back f S).2
      | ret w => exact fun G' σ' v H' f S r => q _ _ v H' (back f S).1 (back f S).2 r.put.setEx
    · rw [if_neg hn] at q; exact q.elim
theorem handle_ok {tab : Tab} {x : Ex} {C : Addr} (hx : x.flds = []) (hC : CL.cl x.cls C) : ∀ {hs : List ExceptHandler} {ms : List Hd} {l : List (Value × Option Nat × (Addr → Value → Option Addr → TS))} {s : S} {σ : L2.St}, JH CL X tab hs ms l → SR X.K CL G s σ H → PostS X.K CL Wx D G s.mem.length H (handle tab ms x s) → wMA X.K Wx D l (.ref C) none σ H
  | _, _, _, s, σ, .nil, S, q => q G σ H (.ref C) none Fut.refl S ⟨hx, rfl, C, rfl, hC⟩
  | _, _, _, s, σ, .cons (x := hn) (sl := sl) (su := su) hc ht hsl hsu r, S, q => by
    unfold handle at q
    cases e : tab x.cls hn with
    | none => simp only [e] at q; exact q.elim
    | some b =>
      have hb := ht x.cls C b hC e
      cases b with
      | false =>
        simp only [e] at q
        have rest := handle_ok hx hC r S q
        cases sl with
        | none => exact ⟨false, hb, fun z => (nomatch z), fun _ => rest⟩
        | some i => exact ⟨false, hb, fun z => (nomatch z), fun _ => rest⟩
      | true =>
        simp only [e] at q
        by_cases hx0 : noExn s = true
        · rw [if_pos hx0] at q
          cases sl with
          | none =>
            refine ⟨true, hb, fun _ a ha => ⟨x.cls, C, rfl, hC, rfl, G.setEx (some (a, x.cls)), s, S.setEx hx0 _, ?_⟩, fun z => by cases z⟩
            exact finH_ok (sl := none) S.exq q
          | some i =>
            have q : PostS X.K CL Wx D G s.mem.length H (if i < s.rho.length then finH (some i) (su { s with rho := s.rho.set i (some (.exn x.cls)) }) else .stuck) := q
            by_cases hi : i < s.rho.length
            · rw [if_pos hi] at q
              refine ⟨true, hb, fun _ a ha => ?_, fun z => by cases z⟩
              obtain ⟨S2, f2⟩ := (S.setEx hx0 (some (a, x.cls))).put0 (i := i) (o := some (.exn x.cls)) (u := some (.ref a)) (by rw [← S.len]; exact hi) (fun w z => by cases z; exact ⟨.ref a, x.cls, rfl, rfl, a, rfl, rfl⟩)
              refine ⟨x.cls, C, rfl, hC, rfl, _, _, S2, ?_⟩
              exact PostS.later (f2 (n := s.mem.length)) (finH_ok (sl := some i) S.exq q)
            · rw [if_neg hi] at q; exact q.elim
        · rw [if_neg hx0] at q; exact q.elim
theorem js_try {tab : Tab} {body : List Stmt} {mb : EM Fl} {h0 : ExceptHandler} {hs : List ExceptHandler} {ms : List Hd} {l : List (Value × Option Nat × (Addr → Value → Option Addr → TS))} {pos : Pos} (hN : X.N.Nodup) (hst : X.stack = X.env :: X.outer) (hfr : X.env.frame = some X.env.locals) (tk : Takes X Wx)
    (hb : ∀ (W' : WX) (pn : List (Addr × Obj)) (xe : Value → Shared → Prop), Takes (X.tr pn xe) W' → PassesOwn (model X.prog X.w) X.A X.env xe → JB CL (X.tr pn xe) W' body mb)
    (hh : JH CL X tab (h0 :: hs) ms l) : JS CL X Wx (.Try body (h0 :: hs) [] [] pos) (sTry tab mb ms) :=
  ps_imp (ps_tryA (tb := fun W' => tsOf X.K CL W' mb) hst hfr tk hb (hh.hd hN)) fun D σ H q => by
    obtain ⟨G, s, S, q⟩ := q
    refine ⟨G, s, S, ?_⟩
    unfold sTry at q
    cases e : mb s with
    | stuck => rw [e] at q; exact q.elim
    | ok f s' =>
      rw [e] at q
      cases f with
      | next => exact q
      | brk => exact q
      | cont => exact q
      | ret w => exact q
    | raise x s' =>
      rw [e] at q
      intro G' σ' H' cls d f S' r
      obtain ⟨h1, rfl, C, rfl, h3⟩ := r
      exact handle_ok h1 h3 hh S' (PostS.later f q)
end
end MP
/-! Part N: a def's body and its promise. -/
namespace MP
open PySem PySem.Spec PyProof.Rows L2
section
variable {K : PySem.W.Frag} {CL : CA} {G G1 G' : Gh} {H H1 H' : Hp} {s s1 : S} {σ : L2.St} {n n1 n' : Nat} {α β γ δ : Type} {R : Rel α β} {Wx : WX} {X : Cx} {p : Addr} {D D' : Ends}
/-- boxes from n on are let go -/
def Gh.cut (G : Gh) (n : Nat) : Gh := ⟨G.F, fun pl => match pl with
  | .slot _ => none
  | .box b => if b < n then G.ad (.box b) else none
  | .fld b f => if b < n then G.ad (.fld b f) else none, G.ex⟩
theorem Gh.cut_some {pl : Pl} {a : Addr} (h : (G.cut n).ad pl = some a) : G.ad pl = some a ∧ (∀ i, pl ≠ .slot i) ∧ (∀ b, pl = .box b → b < n) ∧ ∀ b f, pl = .fld b f → b < n := by
  cases pl with
  | slot i => cases h
  | box b =>
    have h : (if b < n then G.ad (.box b) else none) = some a := h
    by_cases hb : b < n
    · rw [if_pos hb] at h
      exact ⟨h, fun i z => (nomatch z), fun b' z => by cases z; exact hb, fun b' f z => by cases z⟩
    · rw [if_neg hb] at h; cases h
  | fld b f =>
    have h : (if b < n then G.ad (.fld b f) else none) = some a := h
    by_cases hb : b < n
    · rw [if_pos hb] at h
      exact ⟨h, fun i z => (nomatch z), fun b' z => (nomatch z), fun b' f z => by cases z; exact hb⟩
    · rw [if_neg hb] at h; cases h
theorem Gh.cut_box {b : Nat} (hb : b < n) : (G.cut n).ad (.box b) = G.ad (.box b) := if_pos hb
theorem Gh.cut_fld {b : Nat} {f : Str} (hb : b < n) : (G.cut n).ad (.fld b f) = G.ad (.fld b f) := if_pos hb
theorem SR.cut (S : SR K CL G s σ H) (hn : n ≤ s.mem.length) : SR K CL (G.cut n) ⟨[], s.mem.take n⟩ [] H := by
  refine ⟨rfl, fun i w e => by simp at e, fun b c e => ?_, fun pl pl' x e1 e2 => S.inj pl pl' x (Gh.cut_some e1).1 (Gh.cut_some e2).1, fun pl x e => S.live pl x (Gh.cut_some e).1, fun x f => ⟨(S.fz x f).1, fun pl e => (S.fz x f).2 pl (Gh.cut_some e).1⟩, fun b x e => ?_, fun b f x e => ?_, S.exq⟩
  · have e : (s.mem.take n)[b]? = some c := e
    have hb : b < n := by
      by_cases hb : b < n
      · exact hb
      · rw [List.getElem?_eq_none (by rw [List.length_take]; omega)] at e; cases e
    rw [List.getElem?_take_of_lt hb] at e
    obtain ⟨q, h1, h2⟩ := S.boxes b c e
    refine ⟨q, by rw [Gh.cut_box hb]; exact h1, ?_⟩
    cases c with
    | ctr c => exact h2
    | inst cls fs =>
      obtain ⟨C, dx, vfs, g1, g2, g3, g4⟩ := h2
      refine ⟨C, dx, vfs, g1, g2, g3, fun f w hw => ?_⟩
      obtain ⟨v, k1, k2, g9⟩ := g4 f w hw
      refine ⟨v, k1, ?_, g9⟩
      cases w with
      | exn c => exact g9.elim
      | d y => exact k2
      | ref b' =>
        obtain ⟨x, e1, e2⟩ := k2
        exact ⟨x, e1, by rw [Gh.cut_box (Nat.lt_trans g9 hb)]; exact e2⟩
      | own c =>
        obtain ⟨x, e1, e2, e3⟩ := k2
        exact ⟨x, e1, by rw [Gh.cut_fld hb]; exact e2, e3⟩
  · have := (Gh.cut_some e).2.2.1 b rfl
    rw [List.length_take]
    omega
  · have := (Gh.cut_some e).2.2.2 b f rfl
    rw [List.length_take]
    omega
theorem Fut.cut (f : Fut G H n G' H' n') : Fut G H n (G'.cut n) H' n :=
  ⟨f.fr, f.oth, f.there, f.newF, fun pl x e => f.newA pl x (Gh.cut_some e).1, fun b x hb e => by rw [Gh.cut_box hb]; exact f.box b x hb e, Nat.le_refl _, f.ex⟩
theorem Fut.bare (f : Fut G H n G' H' n') : Fut G H n G'.enter H' n' :=
  ⟨f.fr, f.oth, f.there, f.newF, fun pl x e => f.newA pl x (Gh.enter_some e).1, f.box, f.le, f.ex⟩
/-- the def's own run -/
def exitF (n0 : Nat) : Res Fl → Res W
  | .ok (.ret (.d x)) s => .ok (.d x) ⟨[], s.mem.take n0⟩
  | .ok (.ret (.ref b)) s => .ok (.ref b) ⟨[], s.mem⟩
  | .ok .next s => .ok (.d .none) ⟨[], s.mem.take n0⟩
  | .raise x s => .raise x ⟨[], s.mem.take n0⟩
  | _ => .stuck
def runF (n : Nat) (m : EM Fl) (ws : List W) (mem : List Box) : Res W := exitF mem.length (m ⟨ws.map some ++ List.replicate (n - ws.length) none, mem⟩)
theorem SR.start {mem : List Box} {ws : List W} {vs : List V} {N : List Str} (S : SR K CL G ⟨[], mem⟩ [] H) (r : rArg K G H ws vs) : SR K CL G ⟨ws.map some ++ List.replicate (N.length - ws.length) none, mem⟩ (start N vs) H := by
  have hl := Paired.length r
  refine ⟨?_, fun i w e => ?_, S.boxes, S.inj, S.live, S.fz, S.bx, S.fd, S.exq⟩
  · show (ws.map some ++ List.replicate (N.length - ws.length) none).length = (vs.map some ++ List.replicate (N.length - vs.length) none).length
    simp [hl]
  · have e : (ws.map some ++ List.replicate (N.length - ws.length) none)[i]? = some (some w) := e
    have hi : i < ws.length := by
      by_cases hi : i < ws.length
      · exact hi
      · rw [List.getElem?_append_right (by simp; omega)] at e
        have z := List.mem_of_getElem? e
        have := List.eq_of_mem_replicate z
        cases this
    rw [List.getElem?_append_left (by simpa using hi), List.getElem?_map] at e
    cases e1 : ws[i]? with
    | none => rw [e1] at e; cases e
    | some w' =>
      rw [e1] at e
      cases e
      have get : ∀ {ws : List W} {vs : List V} {i : Nat}, rArg K G H ws vs → ws[i]? = some w → ∃ v, vs[i]? = some v ∧ RW K G H w v := by
        intro ws vs i r
        induction r generalizing i with
        | nil => intro e; simp at e
        | cons h t ih =>
          intro e
          cases i with
          | zero => simp at e; subst e; exact ⟨_, rfl, h⟩
          | succ i => simpa using ih (by simpa using e)
      obtain ⟨v, hv, h⟩ := get r e1
      refine ⟨v, ?_, ?_⟩
      · show (vs.map some ++ List.replicate (N.length - vs.length) none)[i]? = some (some v)
        rw [List.getElem?_append_left (by rw [List.length_map, ← hl]; exact hi), List.getElem?_map, hv]
        rfl
      · cases w with
        | exn c => exact h.elim
        | d y => exact h
        | ref b => exact h
        | own c => exact h.elim
/-- THE RULE of a def -/
theorem fn_sound {P : Program} {w : World} {mg : Str → Option Value} {base : Heap} {x qual : Str} {st : Stmt} {f : Addr} {fd : FuncData} {N ps : List Str} {k : Nat} {m : EM Fl} (F : Fun K x qual st f fd) (Sc : FnScope N ps (defScope st))
    (hb : ∀ (cdv : Value) (A : Around) (outer : List Env) (s : Shared) (H : Hp) (E : XK), Room k (A.deeper (envOfC qual (defScope st) s.heap.objs.size f cdv)) →
      JB CL (cxOf (L2.CX P w) P w K mg base N qual (defScope st) f cdv A outer s H E) (fun cls d _ H => E cls d H) (defBody st) m) :
    FnOk P w K mg base (L2.CX P w) (k + 1) f fd ps (spF K CL ps.length (runF N.length m)) := by
  refine F.okX Sc (fun vs H Q E h => ?_) (fun cdv A outer s H vs Q E hr h => ?_)
  · obtain ⟨G, ws, mem, hl, _⟩ := h
    exact hl
  · obtain ⟨G, ws, mem, hl, S, hs, r, q⟩ := h
    refine ⟨_, hb cdv A outer s H E hr, G, _, S.start (N := N) r, ?_⟩
    unfold runF at q
    have hle : ∀ {G' : Gh} {H' : Hp} {n' : Nat}, Fut G H mem.length G' H' n' → mem.length ≤ n' := fun f => f.le
    cases e : m ⟨ws.map some ++ List.replicate (N.length - ws.length) none, mem⟩ with
    | stuck => rw [e] at q; exact q.elim
    | raise x s' =>
      rw [e] at q
      intro G' σ' H' cls d f' S' rx
      exact q (G'.cut mem.length) H' cls d (by simpa [List.length_take, Nat.min_eq_left (hle f')] using f'.cut) (S'.cut (hle f')) rx
    | ok fl s' =>
      rw [e] at q
      cases fl with
      | next =>
        intro G' σ' H' f' S'
        exact q (G'.cut mem.length) H' .non (by simpa [List.length_take, Nat.min_eq_left (hle f')] using f'.cut) (S'.cut (hle f')) RD.none
      | brk => exact q.elim
      | cont => exact q.elim
      | ret w =>
        cases w with
        | exn c => exact q.elim
        | own c => exact q.elim
        | d y =>
          intro G' σ' v H' f' S' rw'
          exact q (G'.cut mem.length) H' v (by simpa [List.length_take, Nat.min_eq_left (hle f')] using f'.cut) (S'.cut (hle f')) rw'
        | ref b =>
          intro G' σ' v H' f' S' rw'
          exact q G'.enter H' v f'.bare S'.enter rw'
end
end MP
/-! Part O: the evaluator of expressions over the syntax. -/
namespace MP
open PySem PySem.Spec PyProof.Rows L2
/-- a def as the evaluator knows it: parameters, slots, body, scope, which parameters take boxes, the keyword calls -/
structure FI where
  ps : List Str
  N : List Str
  body : List Stmt
  sc : Scope
  bx : List Bool
  kws : List (List Str)
  rb : Bool
structure GE where
  fns : List (Str × FI)
  consts : List (Str × PyData)
  blt : List Str
  gcd : List Str
  excs : List Str
  excn : List Str
  tab : Tab
  kds : List (Str × List (Str × PyData))
structure Cxt where
  N : List Str
  sc : Scope
  hot : Bool
  fnc : Bool
structure R3 where
  v : EM W
  t : EM Bool
  n : Option (EM Ob)
  sl : Option Nat
def R3.o (r : R3) : Opd := match r.sl with
  | some i => .var i
  | none => .ex r.v
def dead : R3 := ⟨es, es, none, none⟩
def ofV (m : EM W) : R3 := ⟨m, cTru (.ex m), none, none⟩
def ofT (m : EM W) (t : EM Bool) : R3 := ⟨m, t, none, none⟩
def ofN (m : EM Ob) : R3 := ⟨cFrz m, cTru (.ex (cFrz m)), some m, none⟩
def ofS (i : Nat) : R3 := ⟨cVar i, cTru (.var i), none, some i⟩
/-! ### names -/
def ixOf : List Str → Str → Option Nat
  | [], _ => none
  | y :: ys, x => if y = x then some 0 else (ixOf ys x).map (· + 1)
theorem ixOf_ok : ∀ {N : List Str} {x : Str} {i : Nat}, ixOf N x = some i → N[i]? = some x
  | [], _, _, h => by cases h
  | y :: ys, x, i, h => by
    unfold ixOf at h
    by_cases e : y = x
    · rw [if_pos e] at h
      cases h
      rw [e]; rfl
    · rw [if_neg e] at h
      cases e1 : ixOf ys x with
      | none => rw [e1] at h; cases h
      | some j =>
        rw [e1] at h
        cases h
        have z := ixOf_ok e1
        show (y :: ys)[j + 1]? = some x
        simpa using z
def sDebug : Str := ⟨#[95, 95, 100, 101, 98, 117, 103, 95, 95]⟩
def sClassdict : Str := ⟨#[95, 95, 99, 108, 97, 115, 115, 100, 105, 99, 116, 95, 95]⟩
def sNameN : Str := ⟨#[95, 95, 110, 97, 109, 101, 95, 95]⟩
theorem sDebug_eq : sDebug = ("__debug__" : Str) := by kernel_rfl
theorem sClassdict_eq : sClassdict = ("__classdict__" : Str) := by kernel_rfl
theorem sNameN_eq : sNameN = ("__name__" : Str) := by kernel_rfl
/-- no name with a meaning of its own -/
def tame (x : Str) : Bool := !(decide (x = sDebug) || decide (x = sClassdict) || decide (x = sNameN))
theorem tame_ok {x : Str} (h : tame x = true) : (x == ("__debug__" : Str)) = false ∧ (x == ("__classdict__" : Str)) = false ∧ x ≠ "__name__" := by
  unfold tame at h
  simp only [Bool.not_eq_true', Bool.or_eq_false_iff, decide_eq_false_iff_not] at h
  obtain ⟨⟨h1, h2⟩, h3⟩ := h
  exact ⟨beq_eq_false_iff_ne.mpr (by rw [← sDebug_eq]; exact h1), beq_eq_false_iff_ne.mpr (by rw [← sClassdict_eq]; exact h2), by rw [← sNameN_eq]; exact h3⟩
def slotOf (c : Cxt) (x : Str) : Option Nat := if tame x = true then match c.sc.names.lookup x with
    | some .local => ixOf c.N x
    | some .cell => ixOf c.N x
    | some .free => ixOf c.N x
    | _ => none
  else none
def isGl (c : Cxt) (x : Str) : Bool := tame x && (match c.sc.names.lookup x with
  | some .globalImplicit => true
  | _ => false)
def evName (g : GE) (c : Cxt) (x : Str) : R3 := match slotOf c x with
  | some i => ofS i
  | none => if isGl c x = true then match g.consts.lookup x with
      | some d => ofV (er (.d d))
      | none => dead
    else dead
/-! ### shapes -/
def noStar : Expr → Bool
  | .Starred _ _ => false
  | _ => true
def noSlice : Expr → Bool
  | .Slice _ _ _ _ => false
  | _ => true
def noSet : Expr → Bool
  | .Set _ _ _ => false
  | _ => true
def noComp : Expr → Bool
  | .ListComp _ _ _ _ => false
  | .SetComp _ _ _ _ => false
  | .DictComp _ _ _ _ _ => false
  | _ => true
def noTup : Expr → Bool
  | .Tuple _ _ _ => false
  | _ => true
theorem noStar_ok {e : Expr} {es : List Expr} {env : Env} (h : noStar e = true) : starEach (e :: es) env = (false, eval e env) :: starEach es env := by
  cases e <;> first | rfl | cases h
theorem noSlice_ok {e : Expr} (h : noSlice e = true) : PlainIx e := by
  intro o i
  cases e <;> first | rfl | cases h
theorem noSet_ok {e : Expr} {op : CmpOp} (h : noSet e = true) : behindInMarks op e = false := by
  cases e <;> first | rfl | cases h
theorem noSet_fold {e : Expr} {env : Env} (h : noSet e = true) : ∀ x, foldedSetIterable e env x = pure x := by
  intro x
  cases e <;> first | rfl | cases h
theorem noComp_ok {e : Expr} {t : Option Expr} {l : Nat} {env : Env} (h : noComp e = true) : swapsWith e t l env = pure false := by
  cases e <;> first | rfl | cases h
/-! ### operators -/
def binF : Operator → Option (PyData → PyData → Option PyData)
  | .Add => some fAdd
  | .Sub => some fSub
  | .Mult => some fMul
  | .FloorDiv => some fDiv
  | .Mod => some fMod
  | .Pow => some fPow
  | _ => none
def cmpF : CmpOp → Option (PyData → PyData → Option PyData)
  | .Eq => some fEq
  | .NotEq => some fNe
  | .Lt => some (fCmpI fun i j => decide (i < j))
  | .LtE => some (fCmpI fun i j => decide (i ≤ j))
  | .Gt => some (fCmpI fun i j => decide (j < i))
  | .GtE => some (fCmpI fun i j => decide (j ≤ i))
  | .Is => some fIsN
  | .IsNot => some fNotN
  | _ => none
theorem binF_ok {X : Cx} {op : Operator} {f : PyData → PyData → Option PyData} (h : binF op = some f) : ∃ r, OpR X (binaryOp op) r ∧ Op2 X.K r f := by
  cases op <;> first | (cases h; done) | (cases h; exact ⟨_, op_addA, ok_add⟩) | (cases h; exact ⟨_, op_sub, ok_sub⟩) | (cases h; exact ⟨_, op_mulA, ok_mul⟩) | (cases h; exact ⟨_, op_fdivW, ok_div⟩) | (cases h; exact ⟨_, op_mod, ok_mod⟩) | (cases h; exact ⟨_, op_pow, ok_pow⟩)
theorem cmpF_ok {X : Cx} (hu : X.A.units + 64 < cLine) {op : CmpOp} {f : PyData → PyData → Option PyData} (h : cmpF op = some f) : ∃ r, OpR X (compareOp op) r ∧ Op2 X.K r f := by
  cases op <;> first | (cases h; done) | (cases h; exact ⟨_, op_eqA hu, ok_eq⟩) | (cases h; exact ⟨_, op_neA hu, ok_ne⟩) | (cases h; exact ⟨_, op_lt, ok_cmpI⟩) | (cases h; exact ⟨_, op_le, ok_cmpI⟩) | (cases h; exact ⟨_, op_gt, ok_cmpI⟩) | (cases h; exact ⟨_, op_ge, ok_cmpI⟩) | (cases h; exact ⟨_, op_isN, ok_isN⟩) | (cases h; exact ⟨_, op_notN, ok_notN⟩)
/-- the same as op= (ints; texts, lists that are data) -/
def augF : Operator → Option (PyData → PyData → Option PyData)
  | .Add => some fAugAdd
  | .Sub => some fSub
  | .Mult => some fMul
  | _ => none
where fAugAdd : PyData → PyData → Option PyData
  | .int i, .int j => some (.int (i + j))
  | .str a, .str b => if a.length + b.length ≤ 1000000 then some (.str (a ++ b)) else none
  | _, _ => none
theorem iop_mulG {X : Cx} : OpR X (inplaceOp .Mult) (rI CMulG fun i j => .int (i * j)) := opI fun _ _ _ _ _ _ _ hc q => imul_int q hc.ok
theorem augF_ok {X : Cx} {op : Operator} {f : PyData → PyData → Option PyData} (h : augF op = some f) : ∃ r, OpR X (inplaceOp op) r ∧ Op2 X.K r f := by
  cases op with
  | Add =>
    cases h
    refine ⟨_, OpR.or iop_add (OpR.or (r := rStr2) iop_add_str iop_add_str), fun F H dx dy vx vy z Q hl v1 v2 e q => ?_⟩
    cases v1 with
    | int i =>
      cases v2 <;> first | (cases e; done) | (cases e; exact .inl ⟨i, _, rfl, rfl, q _ _ _ .refl (.int _)⟩)
    | str a =>
      cases v2 with
      | str b =>
        have e : (if a.length + b.length ≤ 1000000 then some (PyData.str (a ++ b)) else none) = some z := e
        by_cases hh : a.length + b.length ≤ 1000000
        · rw [if_pos hh] at e
          cases e
          exact .inr (.inl ⟨a, b, rfl, rfl, Nat.le_trans hh million, q _ _ _ .refl (.str _)⟩)
        · rw [if_neg hh] at e; cases e
      | _ => cases e
    | _ => cases e
  | Sub => cases h; exact ⟨_, iop_sub, ok_sub⟩
  | Mult =>
    cases h
    refine ⟨_, OpR.or iop_mul iop_mulG, fun F H dx dy vx vy z Q hl v1 v2 e q => ?_⟩
    exact ok_mul F H dx dy vx vy z Q hl v1 v2 e q
  | _ => cases h
/-! ### the built-in names -/
def sNLen : Str := ⟨#[108, 101, 110]⟩
def sNAbs : Str := ⟨#[97, 98, 115]⟩
def sNInt : Str := ⟨#[105, 110, 116]⟩
def sNTuple : Str := ⟨#[116, 117, 112, 108, 101]⟩
def sNList : Str := ⟨#[108, 105, 115, 116]⟩
def sNAll : Str := ⟨#[97, 108, 108]⟩
def sNAny : Str := ⟨#[97, 110, 121]⟩
def sNIsinstance : Str := ⟨#[105, 115, 105, 110, 115, 116, 97, 110, 99, 101]⟩
def sNBool : Str := ⟨#[98, 111, 111, 108]⟩
def sNStr : Str := ⟨#[115, 116, 114]⟩
def sNDict : Str := ⟨#[100, 105, 99, 116]⟩
def sNRange : Str := ⟨#[114, 97, 110, 103, 101]⟩
def sNSum : Str := ⟨#[115, 117, 109]⟩
def sNMax : Str := ⟨#[109, 97, 120]⟩
def sNMin : Str := ⟨#[109, 105, 110]⟩
def sNSorted : Str := ⟨#[115, 111, 114, 116, 101, 100]⟩
def sNEnumerate : Str := ⟨#[101, 110, 117, 109, 101, 114, 97, 116, 101]⟩
def sNZip : Str := ⟨#[122, 105, 112]⟩
def sNSet : Str := ⟨#[115, 101, 116]⟩
def sNSuper : Str := ⟨#[115, 117, 112, 101, 114]⟩

theorem bLen : bootBuiltins sNLen = some (.builtin "len") := by kernel_rfl
theorem bAbs : bootBuiltins sNAbs = some (.builtin "abs") := by kernel_rfl
theorem bInt : bootBuiltins sNInt = some (.type "int") := by kernel_rfl
theorem bTuple : bootBuiltins sNTuple = some (.type "tuple") := by kernel_rfl
theorem bList : bootBuiltins sNList = some (.type "list") := by kernel_rfl
theorem bAll : bootBuiltins sNAll = some (.builtin "all") := by kernel_rfl
theorem bAny : bootBuiltins sNAny = some (.builtin "any") := by kernel_rfl
theorem bIsinstance : bootBuiltins sNIsinstance = some (.builtin "isinstance") := by kernel_rfl
def tyOf (x : Str) : Option Ty := if x = sNInt then some .int else if x = sNBool then some .bool else if x = sNStr then some .str else if x = sNTuple then some .tuple else if x = sNList then some .list else if x = sNDict then some .dict else none
theorem tyOf_ok {x : Str} {T : Ty} (h : tyOf x = some T) : bootBuiltins x = some (.type T.name) := by
  unfold tyOf at h
  by_cases h1 : x = sNInt
  · rw [if_pos h1] at h; cases h; rw [h1]; kernel_rfl
  rw [if_neg h1] at h
  by_cases h2 : x = sNBool
  · rw [if_pos h2] at h; cases h; rw [h2]; kernel_rfl
  rw [if_neg h2] at h
  by_cases h3 : x = sNStr
  · rw [if_pos h3] at h; cases h; rw [h3]; kernel_rfl
  rw [if_neg h3] at h
  by_cases h4 : x = sNTuple
  · rw [if_pos h4] at h; cases h; rw [h4]; kernel_rfl
  rw [if_neg h4] at h
  by_cases h5 : x = sNList
  · rw [if_pos h5] at h; cases h; rw [h5]; kernel_rfl
  rw [if_neg h5] at h
  by_cases h6 : x = sNDict
  · rw [if_pos h6] at h; cases h; rw [h6]; kernel_rfl
  rw [if_neg h6] at h
  cases h
/-- list(x) -/
def cNewL (o : Opd) : EM Ob := eb (opd o) fun t s => match resolve s t with
  | some (.list xs) => .ok (.lst xs) s
  | some (.tuple xs) => .ok (.lst xs) s
  | _ => .stuck
section
variable {CL : CA} {Wx : WX} {X : Cx}
theorem jn_list {x : Str} {p pos : Pos} {e : Expr} {o : Opd} (hx : x = sNList) (hg : Gl X x) (hm : X.mg x = none) (hn : x ≠ "__name__") (hdb : (x == ("__debug__" : Str)) = false) (h : JO CL X Wx e o) (hs : starEach [e] X.env = (false, eval e X.env) :: starEach [] X.env) :
    JN CL X Wx (.Call (.Name x p) [e] [] pos) (cNewL o) :=
  pe_imp (pe_callTy call_list_of hg hm (by rw [hx]; exact bList) (pa_cons h pa_nil hs) hn hdb hs rfl) fun σ H Q q => by
    refine (tNew_tail (R := rTok X.K) q).mono fun v H1 ⟨G, s, G1, s1, t, S, f, S1, r, q⟩ => ?_
    cases e1 : resolve s1 t with
    | none => simp only [e1] at q; exact q.elim
    | some d =>
      have vw := resolve_view S1 r e1
      cases vw with
      | none => simp only [e1] at q; exact q.elim
      | bool b => simp only [e1] at q; exact q.elim
      | int b => simp only [e1] at q; exact q.elim
      | str b => simp only [e1] at q; exact q.elim
      | dict _ _ => simp only [e1] at q; exact q.elim
      | @list a vs xs h1 h2 =>
        simp only [e1] at q
        refine ⟨a, vs, rfl, .inl h1, fun p hp => ?_⟩
        obtain ⟨S2, f2⟩ := S1.junk (o := .lst vs) hp (n := s1.mem.length)
        exact q _ _ _ (f.trans f2) S2 ⟨p, rfl, ⟨vs, upd_same, h2.mono fun a x => (Grow.junk hp).keep S1.liveF a x⟩, S1.notF hp, S1.notIn hp, f.back hp⟩
      | @tuple a vs xs h1 h2 =>
        simp only [e1] at q
        refine ⟨a, vs, rfl, .inr h1.sq, fun p hp => ?_⟩
        obtain ⟨S2, f2⟩ := S1.junk (o := .lst vs) hp (n := s1.mem.length)
        exact q _ _ _ (f.trans f2) S2 ⟨p, rfl, ⟨vs, upd_same, h2.mono fun a x => (Grow.junk hp).keep S1.liveF a x⟩, S1.notF hp, S1.notIn hp, f.back hp⟩
/-- {} -/
theorem jn_dict0 {pos : Pos} : JN CL X Wx (.Dict [] [] pos) (er (.dic [])) := pe_imp pe_dnewK fun σ H Q q => by
  obtain ⟨G, s, S, q⟩ := q
  intro p hp
  obtain ⟨S2, f2⟩ := S.junk (o := .dK []) hp (n := s.mem.length)
  exact q _ _ _ f2 S2 ⟨p, rfl, ⟨[], upd_same, .nil⟩, S.notF hp, S.notIn hp, hp⟩
end
end MP
/-! Part T: list comprehensions with one clause. -/
namespace MP
open PySem PySem.Spec PyProof.Rows L2
section
variable {K : PySem.W.Frag} {CL : CA} {G G1 G' : Gh} {H H1 H' : Hp} {s s1 : S} {σ : L2.St} {n n1 n' : Nat} {α β γ δ : Type} {R : Rel α β} {Wx : WX} {X : Cx} {p D : Addr}
/-- an address that no place and no data knows -/
def Alone (G : Gh) (D : Addr) : Prop := ¬ G.F D ∧ ∀ pl, G.ad pl ≠ some D
theorem Alone.new (S : SR K CL G s σ H) (h : H D = none) : Alone G D := ⟨S.notF h, S.notIn h⟩
theorem Alone.fut (a : Alone G D) (hD : ∃ o, H D = some o) (f : Fut G H n G' H' n') : Alone G' D ∧ H' D = H D := by
  obtain ⟨o, e⟩ := hD
  refine ⟨⟨fun z => ?_, fun pl z => ?_⟩, by rw [f.oth D o e a.2, e]⟩
  · rcases f.newF D z with z | z | ⟨pl, z⟩
    · exact a.1 z
    · rw [e] at z; cases z
    · exact a.2 pl z
  · rcases f.newA pl D z with z | ⟨pl0, z⟩
    · rw [e] at z; cases z
    · exact a.2 pl0 z
/-- such a thing changes -/
theorem SR.over (S : SR K CL G s σ H) (a : Alone G D) (o : HO) : SR K CL G s σ (upd H D o) := by
  have hF : ∀ b, G.F b → G.F b ∧ upd H D o b = H b := fun b f => ⟨f, upd_ne (fun e => a.1 (e ▸ f))⟩
  have hA : ∀ pl b, G.ad pl = some b → upd H D o b = H b := fun pl b e => upd_ne (fun z => a.2 pl (z ▸ e))
  have hP : ∀ {pl : Pl} {w : W} {v : V}, RP K G H pl w v → RP K G (upd H D o) pl w v := fun {pl w v} h => by
    cases w with
    | exn c => exact h
    | d y => exact RD.mono hF h
    | ref b => exact h
    | own c =>
      obtain ⟨q, e1, e2, e3⟩ := h
      exact ⟨q, e1, e2, e3.mono hF (hA _ _ e2)⟩
  refine ⟨S.len, fun i w e => ?_, fun b c e => ?_, S.inj, fun pl q e => ?_, fun q f => ?_, S.bx, S.fd, S.exq⟩
  · obtain ⟨v, h1, h2⟩ := S.slots i w e
    exact ⟨v, h1, hP h2⟩
  · obtain ⟨q, h1, h2⟩ := S.boxes b c e
    refine ⟨q, h1, ?_⟩
    cases c with
    | ctr c => exact RO.mono hF (hA _ _ h1) h2
    | inst cls fs =>
      obtain ⟨C, dx, vfs, g1, g2, g3, g4⟩ := h2
      refine ⟨C, dx, vfs, g1, by rw [hA _ _ h1]; exact g2, g3, fun f w hw => ?_⟩
      obtain ⟨v, k1, k2, g9⟩ := g4 f w hw
      exact ⟨v, k1, hP k2, g9⟩
  · obtain ⟨u, eu⟩ := S.live _ _ e
    exact ⟨u, by rw [hA _ _ e]; exact eu⟩
  · obtain ⟨⟨u, eu⟩, hn⟩ := S.fz q f
    exact ⟨⟨u, by rw [(hF q f).2]; exact eu⟩, hn⟩
theorem Fut.over (f : Fut G H n G' H' n') (h : H D = none) (o : HO) : Fut G H n G' (upd H' D o) n' :=
  ⟨f.fr, fun a u e hn => by rw [upd_ne (fun z => by subst z; rw [h] at e; cases e)]; exact f.oth a u e hn, fun a u e => by rw [upd_ne (fun z => by subst z; rw [h] at e; cases e)]; exact f.there a u e, f.newF, f.newA, f.box, f.le, f.ex⟩
/-! ### slots let go -/
def wipeR (r : List (Option W)) : List Nat → List (Option W)
  | [] => r
  | v :: vs => (wipeR r vs).set v none
theorem SR.wipe (S : SR K CL G s σ H) : ∀ vs : List Nat, ∃ G', SR K CL G' ⟨wipeR s.rho vs, s.mem⟩ (wipe σ vs) H ∧ ∀ {n : Nat}, Fut G H n G' H n
  | [] => ⟨G, S, Fut.refl⟩
  | v :: vs => by
    obtain ⟨G', S', f⟩ := S.wipe vs
    by_cases hv : v < (L2.wipe σ vs).length
    · obtain ⟨S2, f2⟩ := S'.put0 (i := v) (o := none) (u := none) hv (fun w e => by cases e)
      exact ⟨_, S2, fun {n} => (f (n := n)).trans f2⟩
    · have e1 : L2.wipe σ (v :: vs) = L2.wipe σ vs := by
        show (L2.wipe σ vs).set v none = _
        exact List.set_eq_of_length_le (by omega)
      have e2 : wipeR s.rho (v :: vs) = wipeR s.rho vs := by
        show (wipeR s.rho vs).set v none = _
        refine List.set_eq_of_length_le ?_
        have := S'.len
        have l : (wipeR s.rho vs).length = (L2.wipe σ vs).length := this
        omega
      rw [e1, e2]
      exact ⟨G', S', f⟩
theorem SR.unwipe {vs : List Nat} (S : SR K CL G s (L2.wipe σ vs) H) : SR K CL G s σ H :=
  ⟨by rw [S.len, wipe_length], fun i w e => by
    obtain ⟨v, h1, h2⟩ := S.slots i w e
    exact ⟨v, (wipe_some h1).1, h2⟩, S.boxes, S.inj, S.live, S.fz, S.bx, S.fd, S.exq⟩
theorem SR.putD (S : SR K CL G s σ H) {i : Nat} {x : PyData} {v : V} (hv : σ[i]? = some (some v)) (r : RD K G.F H x v) : SR K CL G ⟨s.rho.set i (some (.d x)), s.mem⟩ σ H :=
  ⟨by rw [List.length_set]; exact S.len, fun j w e => by
    have e : (s.rho.set i (some (.d x)))[j]? = some (some w) := e
    by_cases h : i = j
    · subst h
      have hl : i < s.rho.length := by
        have := (List.getElem?_eq_some_iff.mp e).1
        simpa using this
      rw [List.getElem?_set_self hl] at e
      cases e
      exact ⟨v, hv, r⟩
    · rw [List.getElem?_set_ne h] at e
      exact S.slots j w e, S.boxes, S.inj, S.live, S.fz, S.bx, S.fd, S.exq⟩
def restore (r0 r : List (Option W)) : List Nat → List (Option W)
  | [] => r
  | v :: vs => match r0[v]? with
    | some (some (.d x)) => (restore r0 r vs).set v (some (.d x))
    | _ => restore r0 r vs
theorem SR.restore {s0 : S} {m : List Box} {r : List (Option W)} (S0 : SR K CL G s0 σ H) (f : Fut G H n G' H' n') (S : SR K CL G' ⟨r, m⟩ σ H') : ∀ vs : List Nat, SR K CL G' ⟨MP.restore s0.rho r vs, m⟩ σ H'
  | [] => S
  | v :: vs => by
    have S' := S0.restore f S vs
    unfold MP.restore
    split
    · rename_i x e
      obtain ⟨u, h1, h2⟩ := S0.slots v _ e
      exact S'.putD h1 (f.rd S0 h2)
    · exact S'
theorem wipe_set {i : Nat} {x : Option V} : ∀ {vs : List Nat}, i ∈ vs → L2.wipe (σ.set i x) vs = L2.wipe σ vs := by
  have out : ∀ {vs : List Nat} {σ : L2.St}, L2.wipe (σ.set i x) vs = if i ∈ vs then L2.wipe σ vs else (L2.wipe σ vs).set i x := by
    intro vs
    induction vs with
    | nil => intro σ; rfl
    | cons v vs ih =>
      intro σ
      show (L2.wipe (σ.set i x) vs).set v none = _
      rw [ih]
      by_cases h : i ∈ vs
      · rw [if_pos h, if_pos (List.mem_cons_of_mem _ h)]; rfl
      · rw [if_neg h]
        by_cases e : i = v
        · subst e
          rw [if_pos (List.mem_cons_self ..), List.set_set]; rfl
        · rw [if_neg (by simp only [List.mem_cons, not_or]; exact ⟨e, h⟩), List.set_comm _ _ e]; rfl
  intro vs h
  rw [out, if_pos h]
theorem wipe_wipe {vs : List Nat} : L2.wipe (L2.wipe σ vs) vs = L2.wipe σ vs := by
  have z : ∀ us : List Nat, (∀ u ∈ us, u ∈ vs) → L2.wipe (L2.wipe σ us) vs = L2.wipe σ vs := by
    intro us
    induction us with
    | nil => intro _; rfl
    | cons u us ih =>
      intro h
      show L2.wipe ((L2.wipe σ us).set u none) vs = _
      rw [wipe_set (h u (List.mem_cons_self ..)), ih fun w hw => h w (List.mem_cons_of_mem _ hw)]
  exact z vs fun u h => h
/-! ### targets of the block's own slots -/
def TgO (K : PySem.W.Frag) (CL : CA) (vs : List Nat) (g : TG) (t : PyData → EM Unit) : Prop := ∀ (G : Gh) (s : S) (σ : L2.St) (H : Hp) (d : PyData) (v : V) (Q : L2.St → Hp → Prop) (s' : S), SR K CL G s σ H → RD K G.F H d v → t d s = .ok () s' →
  (∀ G' σ', SR K CL G' s' σ' H → L2.wipe σ' vs = L2.wipe σ vs → (∀ {n : Nat}, Fut G H n G' H n) → s'.mem = s.mem → Q σ' H) → g v σ H Q
theorem to_name {i : Nat} {vs : List Nat} (hi : i ∈ vs) : TgO K CL vs (gName i) (tgName i) := by
  intro G s σ H d v Q s' S r e q
  unfold tgName setS at e
  by_cases hl : i < s.rho.length
  · rw [if_pos hl] at e
    cases e
    obtain ⟨S', f⟩ := S.set (i := i) (w := .d d) r (by rw [← S.len]; exact hl)
    exact q _ _ S' (wipe_set hi) f rfl
  · rw [if_neg hl] at e; cases e
theorem to_all {vs : List Nat} : ∀ (is : List Nat) (xs : List PyData) (us : List V) (G : Gh) (s s' : S) (σ : L2.St) (Q : L2.St → Hp → Prop), (∀ i ∈ is, i ∈ vs) → SR K CL G s σ H → RDs K G.F H xs us → setAll is xs s = .ok () s' →
    (∀ G' σ', SR K CL G' s' σ' H → L2.wipe σ' vs = L2.wipe σ vs → (∀ {n : Nat}, Fut G H n G' H n) → s'.mem = s.mem → Q σ' H) → gNames is us σ H Q := by
  intro is
  induction is with
  | nil =>
    intro xs us G s s' σ Q hi S r e q
    cases r with
    | nil => cases e; exact ⟨rfl, q G σ S rfl Fut.refl rfl⟩
    | cons _ _ => cases e
  | cons i is ih =>
    intro xs us G s s' σ Q hi S r e q
    cases r with
    | nil => cases e
    | @cons d ds v us r rs =>
      refine ⟨v, us, rfl, ?_⟩
      unfold setAll eb rb at e
      cases e1 : setS i (.d d) s with
      | stuck => rw [e1] at e; cases e
      | raise x t => rw [e1] at e; cases e
      | ok u t =>
        rw [e1] at e
        refine to_name (hi i (List.mem_cons_self ..)) G s σ H d v _ t S r e1 fun G1 σ1 S1 w1 f1 m1 => ?_
        exact ih ds us G1 t s' σ1 Q (fun j hj => hi j (List.mem_cons_of_mem _ hj)) S1 (rs.mono (f1 (n := 0).mono S)) e fun G2 σ2 S2 w2 f2 m2 => q G2 σ2 S2 (w2.trans w1) (f1.trans f2) (m2.trans m1)
theorem to_tup {is vs : List Nat} (hi : ∀ i ∈ is, i ∈ vs) : TgO K CL vs (gTup K is.length (gNames is)) (tgTup is) := by
  intro G s σ H d v Q s' S r e q
  unfold tgTup at e
  cases r with
  | none => cases e
  | bool b => cases e
  | int b => cases e
  | str x => cases e
  | list _ _ => cases e
  | dict _ _ => cases e
  | @tuple a us xs h1 h2 =>
    have e : (if xs.length = is.length then setAll is xs else es) s = .ok () s' := e
    by_cases hl : xs.length = is.length
    · rw [if_pos hl] at e
      exact ⟨a, us, rfl, h1.sq, by rw [h2.length, hl], to_all is xs us G s s' σ Q hi S h2 e q⟩
    · rw [if_neg hl] at e; cases e
/-! ### the comprehension -/
def lcL (own : List Nat) (t : PyData → EM Unit) (c : EM Bool) (e : EM W) : List PyData → List PyData → EM (List PyData)
  | [], acc => er acc
  | x :: xs, acc => fun s => match t x s with
    | .ok _ s1 => match c s1 with
      | .ok true s2 => match evD e s2 with
        | .ok y s3 => if acc.length < 1000000 then lcL own t c e xs (acc ++ [y]) ⟨wipeR s3.rho own, s3.mem⟩ else .stuck
        | _ => .stuck
      | .ok false s2 => lcL own t c e xs acc ⟨wipeR s2.rho own, s2.mem⟩
      | _ => .stuck
    | _ => .stuck
def cLc (own : List Nat) (t : PyData → EM Unit) (c : EM Bool) (e : EM W) (src : EM (List PyData)) : EM Ob := eb src fun xs s => match lcL own t c e xs [] ⟨wipeR s.rho own, s.mem⟩ with
  | .ok ys s' => .ok (.lst ys) ⟨restore s.rho s'.rho own, s'.mem⟩
  | _ => .stuck
abbrev WF : WX := fun _ _ _ _ => False
theorem small_len {n : Nat} (h : n < 1000000) : n < sizeLine := Nat.lt_of_lt_of_le h million
theorem lc_imp {vs : List Nat} {src : EM (List PyData)} {g : TG} {t : PyData → EM Unit} {mc : EM Bool} {me : EM W} (ht : TgO K CL vs g t) {σ : L2.St} {H : Hp} {Q : VK} (q : tOf K CL (rNew K H) Wx (cLc vs t mc me src) σ H Q) :
    tLc (tOf K CL (rIt K) Wx src) g (tOf K CL rBs WF mc) (tOf K CL (rDs K) WF (evD me)) vs σ H Q := by
  refine (tNew_tail (R := rIt K) q).mono fun J H1 ⟨G, s, G1, s1, xs, S, f, S1, io, q⟩ => ?_
  have io : ItOk K G1.F H1 xs J := io
  intro D hD
  cases e : lcL vs t mc me xs [] ⟨wipeR s1.rho vs, s1.mem⟩ with
  | stuck => simp only [e] at q; exact q.elim
  | raise x s' => simp only [e] at q; exact q.elim
  | ok ys s' =>
    simp only [e] at q
    obtain ⟨Gw, Sw, fw⟩ := S1.wipe vs
    refine ⟨fun i m Hc => ∃ G2 s2 acc zs, SR K CL G2 s2 (L2.wipe σ vs) Hc ∧ Fut G1 H1 s1.mem.length G2 Hc s2.mem.length ∧ Alone G2 D ∧ Hc D = some (.lst acc) ∧ RDs K G2.F Hc zs acc ∧ i + m = xs.length ∧ lcL vs t mc me (xs.drop i) zs s2 = .ok ys s',
      ⟨xs.length, Gw, ⟨wipeR s1.rho vs, s1.mem⟩, [], [], (Sw.junk (n := 0) hD).1, fw.trans (Sw.junk (n := s1.mem.length) hD).2, Alone.new Sw hD, upd_same, .nil, by omega, e⟩, fun i m Hc hW => ?_⟩
    obtain ⟨G2, s2, acc, zs, S2, f2, al, hDc, ra, em, e2⟩ := hW
    have hF := f2.mono S1
    by_cases hlt : i < xs.length
    · refine .inr ⟨io.go G2.F Hc hF i hlt, fun Hn => ∃ m', m' < m ∧ ∃ G2 s2 acc zs, SR K CL G2 s2 (L2.wipe σ vs) Hn ∧ Fut G1 H1 s1.mem.length G2 Hn s2.mem.length ∧ Alone G2 D ∧ Hn D = some (.lst acc) ∧ RDs K G2.F Hn zs acc ∧ (i + 1) + m' = xs.length ∧ lcL vs t mc me (xs.drop (i + 1)) zs s2 = .ok ys s', fun H' h => h, fun x H3 y => ?_⟩
      obtain ⟨d, hd⟩ : ∃ d, xs[i]? = some d := ⟨_, List.getElem?_eq_getElem hlt⟩
      obtain ⟨F2, gr, rd⟩ := io.yld G2.F Hc hF S2.liveF i x H3 d y hd
      obtain ⟨S3, f3⟩ := S2.grow gr
      have ed : xs.drop i = d :: xs.drop (i + 1) := by
        rw [List.drop_eq_getElem_cons hlt]
        rw [List.getElem?_eq_getElem hlt] at hd
        cases hd
        rfl
      rw [ed] at e2
      unfold lcL at e2
      cases et : t d s2 with
      | stuck => simp only [et] at e2; cases e2
      | raise x s' => simp only [et] at e2; cases e2
      | ok u st =>
        simp only [et] at e2
        refine ht _ s2 (L2.wipe σ vs) H3 d x _ st S3 rd et fun G4 σ4 S4 w4 f4 m4 => ⟨by rw [w4, wipe_wipe], G4, st, S4, ?_⟩
        have f14 : Fut G1 H1 s1.mem.length G4 H3 st.mem.length := by
          rw [m4]
          exact f2.trans ((f3 (n := s2.mem.length)).trans (f4 (n := s2.mem.length)))
        have f24 : Fut G2 Hc s2.mem.length G4 H3 s2.mem.length := (f3 (n := s2.mem.length)).trans (f4 (n := s2.mem.length))
        cases ec : mc st with
        | stuck => simp only [ec] at e2; cases e2
        | raise x s' => simp only [ec] at e2; cases e2
        | ok b sc =>
          intro G5 H5 b' f5 S5 rb
          have rb : b = b' := rb
          subst rb
          have f15 := f14.trans f5
          have f25 : Fut G2 Hc s2.mem.length G5 H5 sc.mem.length := by
            have z := f24.trans (by rw [← m4]; exact f5)
            exact z
          cases b with
          | false =>
            simp only [ec] at e2
            rw [if_neg Bool.false_ne_true]
            obtain ⟨G6, S6, f6⟩ := S5.wipe vs
            have wσ : L2.wipe σ4 vs = L2.wipe σ vs := by rw [w4, wipe_wipe]
            rw [wσ] at S6
            have f26 := f25.trans (f6 (n := sc.mem.length))
            obtain ⟨al6, h6⟩ := al.fut ⟨_, hDc⟩ f26
            exact ⟨m - 1, by omega, G6, ⟨wipeR sc.rho vs, sc.mem⟩, acc, zs, S6, f15.trans f6, al6, h6.trans hDc, ra.mono (f26.mono S2), by omega, e2⟩
          | true =>
            simp only [ec] at e2
            rw [if_pos rfl]
            refine ⟨G5, sc, S5, ?_⟩
            cases ee : evD me sc with
            | stuck => simp only [ee] at e2; cases e2
            | raise x s' => simp only [ee] at e2; cases e2
            | ok yd se =>
              simp only [ee] at e2
              intro G6 H6 yv f6 S6 ry
              have ry : RD K G6.F H6 yd yv := ry
              by_cases hz : zs.length < 1000000
              · rw [if_pos hz] at e2
                have f26 := f25.trans f6
                obtain ⟨al6, h6⟩ := al.fut ⟨_, hDc⟩ f26
                have wσ : L2.wipe σ4 vs = L2.wipe σ vs := by rw [w4, wipe_wipe]
                refine ⟨acc, h6.trans hDc, small_len (by rw [ra.length]; exact hz), m - 1, by omega, ?_⟩
                have S7 := S6.over al6 (.lst (acc ++ [yv]))
                obtain ⟨G8, S8, f8⟩ := S7.wipe vs
                rw [wσ] at S8
                have F7 : Fut G1 H1 s1.mem.length G6 (upd H6 D (.lst (acc ++ [yv]))) se.mem.length := (f15.trans f6).over hD _
                have keep : ∀ a, G6.F a → G6.F a ∧ upd H6 D (.lst (acc ++ [yv])) a = H6 a := fun a x => ⟨x, upd_ne (fun z => al6.1 (z ▸ x))⟩
                obtain ⟨al8, h8⟩ := al6.fut ⟨_, upd_same⟩ (f8 (n := se.mem.length))
                have keep8 := (f8 (n := se.mem.length)).mono S7
                exact ⟨G8, ⟨wipeR se.rho vs, se.mem⟩, acc ++ [yv], zs ++ [yd], S8, F7.trans f8, al8, upd_same, (((ra.mono (f26.mono S2)).append (.cons ry .nil)).mono keep).mono keep8, by omega, e2⟩
              · rw [if_neg hz] at e2; cases e2
    · have ei : i = xs.length := by omega
      subst ei
      refine .inl ⟨io.stop G2.F Hc hF, ?_⟩
      rw [List.drop_length] at e2
      cases e2
      have SS := S1.restore f2 (S2.unwipe) vs
      refine q G2 Hc (.ref D) (f.trans f2) SS ⟨D, rfl, ⟨acc, hDc, ra⟩, al.1, al.2, f.back hD⟩
theorem jn_lc {elt tg iter : Expr} {ifs : List Expr} {scope : Scope} {own : List (Str × Nat)} {pos : Pos} {src : EM (List PyData)} {g : TG} {t : PyData → EM Unit} {mc : EM Bool} {me : EM W} (hc : X.calm = true) (hN : X.N.Nodup) (hi : JI CL X Wx tg iter src) (ok : BlkOk X.N X.env.scope scope own)
    (hg : ∀ (s : Shared) (H : Hp) (C : Addr) (cl : List (Str × Addr)) (fp : List Addr), PG (X.blk s H scope (compEnvC scope cl C X.env) fp) tg g) (ht : TgO X.K CL (own.map (·.2)) g t)
    (hts : ∀ (s : Shared) (H : Hp) (C : Addr) (cl : List (Str × Addr)) (fp : List Addr), PTs (X.blk s H scope (compEnvC scope cl C X.env) fp) ifs (tOf X.K CL rBs WF mc))
    (he : ∀ (s : Shared) (H : Hp) (C : Addr) (cl : List (Str × Addr)) (fp : List Addr), PE (X.blk s H scope (compEnvC scope cl C X.env) fp) elt (tOf X.K CL (rDs X.K) WF (evD me))) (hs : ∀ x, foldedSetIterable iter X.env x = pure x) :
    JN CL X Wx (.ListComp elt [⟨tg, iter, ifs, 0⟩] scope pos) (cLc (own.map (·.2)) t mc me src) :=
  pe_imp (pe_lc hc hN hi ok hg hts he hs) fun σ H Q q => lc_imp ht q
/-- name = [..] on one line -/
theorem js_setLc {i : Nat} {y : Str} {py : Pos} {elt tg iter : Expr} {ifs : List Expr} {scope : Scope} {own : List (Str × Nat)} {pos spos : Pos} {src : EM (List PyData)} {g : TG} {t : PyData → EM Unit} {mc : EM Bool} {me : EM W} (hc : X.calm = true) (hN : X.N.Nodup) (hy : X.N[i]? = some y) (hyl : X.env.scope.names.lookup y = some .local)
    (hsw : swapsWith (.ListComp elt [⟨tg, iter, ifs, 0⟩] scope pos) (some (.Name y py)) spos.line X.env = pure true) (hi : JI CL X Wx tg iter src) (ok : BlkOk X.N X.env.scope scope own)
    (hg : ∀ (s : Shared) (H : Hp) (C : Addr) (cl : List (Str × Addr)) (fp : List Addr), PG (X.blk s H scope (compEnvC scope cl C X.env) fp) tg g) (ht : TgO X.K CL (own.map (·.2)) g t)
    (hts : ∀ (s : Shared) (H : Hp) (C : Addr) (cl : List (Str × Addr)) (fp : List Addr), PTs (X.blk s H scope (compEnvC scope cl C X.env) fp) ifs (tOf X.K CL rBs WF mc))
    (he : ∀ (s : Shared) (H : Hp) (C : Addr) (cl : List (Str × Addr)) (fp : List Addr), PE (X.blk s H scope (compEnvC scope cl C X.env) fp) elt (tOf X.K CL (rDs X.K) WF (evD me))) (hs : ∀ x, foldedSetIterable iter X.env x = pure x) :
    JS CL X Wx (.Assign [.Name y py] (.ListComp elt [⟨tg, iter, ifs, 0⟩] scope pos) spos) (sSetN i (cLc (own.map (·.2)) t mc me src)) :=
  ps_imp (ps_setLc hc hN hy hyl hsw hi ok hg hts he hs) fun D σ H q => lc_imp ht (setN_imp q)
theorem pts_imp {ifs : List Expr} {t t' : TT} (h : PTs X ifs t) (i : ∀ σ H Q, t' σ H Q → t σ H Q) : PTs X ifs t' := ⟨fun pins s σ H Q I q => h.run pins s σ H Q I (i σ H Q q)⟩
theorem pts_yes : PTs X [] (tOf X.K CL rBs Wx (er true)) := pts_imp pts_nil fun σ H Q q => by
  obtain ⟨G, s, S, q⟩ := q
  exact Post.here (R := rBs) S rfl q
end
end MP
/-! Part U: slices, membership. -/
namespace MP
open PySem PySem.Spec PyProof.Rows L2
/-- the items of xs[lo:hi] -/
def cutG {α : Type} (xs : List α) (lo hi : Option Int) : List α := (xs.drop (HT.sIx xs.length 0 lo)).take (HT.sIx xs.length xs.length hi - HT.sIx xs.length 0 lo)
section
variable {K : PySem.W.Frag} {CL : CA} {G G1 G' : Gh} {H H1 H' : Hp} {s s1 : S} {σ : L2.St} {n n1 n' : Nat} {α β γ δ : Type} {R : Rel α β} {Wx : WX} {X : Cx} {F : Addr → Prop}
theorem RDs.dropU : ∀ {ds : List PyData} {vs : List V} (n : Nat), RDs K F H ds vs → RDs K F H (ds.drop n) (vs.drop n)
  | _, _, 0, h => h
  | _, _, _ + 1, .nil => .nil
  | _, _, n + 1, .cons _ t => RDs.dropU n t
theorem RDs.cut {ds : List PyData} {vs : List V} {lo hi : Option Int} (h : RDs K F H ds vs) : RDs K F H (cutG ds lo hi) (cutV vs lo hi) := by
  unfold cutG cutV
  rw [h.length]
  exact (h.dropU _).take _
def fSl (lo hi : Option Int) : PyData → Option PyData
  | .list xs => some (.list (cutG xs lo hi))
  | .tuple xs => some (.tuple (cutG xs lo hi))
  | .str z => if z.length ≤ 1000000 then some (.str (cutS z lo hi)) else none
  | _ => none
def rSlU (K : PySem.W.Frag) : V → Option Int → Option Int → Hp → VK → Prop := fun x lo hi H Q => rSlL K x lo hi H Q ∨ rSlA K x lo hi H Q ∨ rSlS x lo hi H Q
theorem sl_U : SlR X (rSlU X.K) := SlR.or sl_list (SlR.or sl_tupA sl_str)
theorem cut_all {xs : List V} {lo hi : Option Int} (h : HT.sIx xs.length 0 lo = 0 ∧ HT.sIx xs.length xs.length hi = xs.length) : cutV xs lo hi = xs := by
  unfold cutV
  rw [h.1, h.2]
  simp
theorem ok_sl {lo hi : Option Int} {dx z : PyData} {vx : V} {Q : VK} (hl : ∀ a, F a → ∃ o, H a = some o) (v1 : View K F H dx vx) (e : fSl lo hi dx = some z) (q : ∀ F' H' v, Grow F F' H H' → RD K F' H' z v → Q v H') : rSlU K vx lo hi H Q := by
  cases v1 with
  | none => cases e
  | bool b => cases e
  | int b => cases e
  | dict _ _ => cases e
  | str x =>
    have e : (if x.length ≤ 1000000 then some (PyData.str (cutS x lo hi)) else none) = some z := e
    by_cases h : x.length ≤ 1000000
    · rw [if_pos h] at e
      cases e
      exact .inr (.inr ⟨x, rfl, Nat.le_trans h million, q _ _ _ .refl (.str _)⟩)
    · rw [if_neg h] at e; cases e
  | @list a vs xs h1 h2 =>
    cases e
    refine .inl ⟨a, vs, rfl, h1, fun p hp => ?_⟩
    have g := Grow.one (F := F) (o := .lst (cutV vs lo hi)) hp
    exact q _ _ _ g (.list (.inl ⟨.inr rfl, .inl upd_same⟩) (h2.cut.mono fun a f => g.keep hl a f))
  | @tuple a vs xs h1 h2 =>
    cases e
    refine .inr (.inl ⟨a, vs, rfl, h1.sq, fun hw => ?_, fun hw p hp => ?_⟩)
    · have r := h2.cut (lo := lo) (hi := hi)
      rw [cut_all hw] at r
      exact q _ _ _ .refl (.tuple h1 r)
    · have g := Grow.one (F := F) (o := .tup (cutV vs lo hi)) hp
      exact q _ _ _ g (.tuple (.inl ⟨.inr rfl, .inl upd_same⟩) (h2.cut.mono fun a f => g.keep hl a f))
def part : Option (EM W) → EM (Option Int)
  | none => er none
  | some m => eb (evD m) fun d => match d with
    | .int i => er (some i)
    | _ => es
def rPt : Rel (Option Int) (Option Int) := fun _ _ _ a b => a = b
abbrev JP (CL : CA) (X : Cx) (Wx : WX) (e : Option Expr) (m : EM (Option Int)) : Prop := PO X e (tOf X.K CL rPt Wx m)
theorem po_imp {e : Option Expr} {t t' : TO} (h : PO X e t) (i : ∀ σ H Q, t' σ H Q → t σ H Q) : PO X e t' := ⟨fun pins s σ H Q I q => h.run pins s σ H Q I (i σ H Q q)⟩
theorem jp_none : JP CL X Wx none (part none) := po_imp po_none fun σ H Q q => by
  obtain ⟨G, s, S, q⟩ := q
  exact Post.here (R := rPt) S rfl q
theorem jp_some {e : Expr} {m : EM W} (h : JE CL X Wx e m) : JP CL X Wx (some e) (part (some m)) := po_imp (po_some (jd_of h)) fun σ H Q q => by
  refine (tOf.bind (R := rDs X.K) q).mono fun v H1 ⟨G1, s1, d, S1, r, q⟩ => ?_
  have r : RD X.K G1.F H1 d v := r
  cases r with
  | int i => exact ⟨i, rfl, Post.here (R := rPt) S1 rfl q⟩
  | none => exact q.elim
  | bool b => exact q.elim
  | str b => exact q.elim
  | list _ _ => exact q.elim
  | tuple _ _ => exact q.elim
  | dict _ _ => exact q.elim
def cSl (a : Opd) (lo hi : EM (Option Int)) : EM W := eb (opd a) fun ta => eb lo fun l => eb hi fun h => fun s => match resolve s ta with
  | some x => match fSl l h x with
    | some z => .ok (.d z) s
    | none => .stuck
  | none => .stuck
theorem je_sl {a : Expr} {lo hi : Option Expr} {oa : Opd} {ml mh : EM (Option Int)} {p2 pos : Pos} (ha : JO CL X Wx a oa) (hl : JP CL X Wx lo ml) (hh : JP CL X Wx hi mh) : JE CL X Wx (.Subscript a (.Slice lo hi none p2) pos) (cSl oa ml mh) :=
  pe_imp (pe_slice sl_U ha hl hh) fun σ H Q q => by
    refine (tOf.bind (R := rTok X.K) q).mono fun v H1 ⟨G1, s1, ta, S1, r1, q⟩ => ?_
    refine ⟨G1, s1, S1, ?_⟩
    refine (Post.bind (R := rPt) q).mono fun l H2 ⟨G2, s2, l', f2, S2, r2, q⟩ => ?_
    have r2 : l' = l := r2
    subst r2
    refine ⟨G2, s2, S2, ?_⟩
    refine (Post.bind (R := rPt) q).mono fun h H3 ⟨G3, s3, h', f3, S3, r3, q⟩ => ?_
    have r3 : h' = h := r3
    subst r3
    have r1 := rTok_later S2 f3 (rTok_later S1 f2 r1)
    cases e1 : resolve s3 ta with
    | none => simp only [e1] at q; exact q.elim
    | some x =>
      cases e2 : fSl l' h' x with
      | none => simp only [e1, e2] at q; exact q.elim
      | some z =>
        simp only [e1, e2] at q
        exact ok_sl S3.liveF (resolve_view S3 r1 e1) e2 (fin_grow S3 q)
/-! ### membership -/
/-- flat data -/
def flatD : PyData → Bool
  | .none => true | .bool _ => true | .int _ => true | .str _ => true
  | _ => false
def inD (x : PyData) (ds : List PyData) : Bool := ds.any fun z => PyData.eqv z x
theorem eqV_of {d e : PyData} {v u : V} (h1 : RD K F H d v) (h2 : RD K F H e u) (f1 : flatD d = true) (f2 : flatD e = true) : eqV v u = PyData.eqv d e := by
  cases h1 <;> first | (exact Bool.noConfusion f1) | skip
  all_goals cases h2 <;> first | (exact Bool.noConfusion f2) | (simp [eqV, PyData.eqv]; done) | (rename_i a b; cases a <;> cases b <;> rfl) | (rename_i a b; cases a <;> simp [eqV, PyData.eqv]) | (rename_i a b; cases b <;> simp [eqV, PyData.eqv])
theorem flatV_of {d : PyData} {v : V} (h : RD K F H d v) (f : flatD d = true) : flatV v = true := by
  cases h <;> first | rfl | (exact Bool.noConfusion f)
theorem inV_of {d : PyData} {v : V} (h : RD K F H d v) (f : flatD d = true) : ∀ {ds : List PyData} {vs : List V}, RDs K F H ds vs → ds.all flatD = true → inV v vs = inD d ds ∧ vs.all flatV = true
  | _, _, .nil, _ => ⟨rfl, rfl⟩
  | _, _, .cons (d := e) (ds := ds) (v := u) (vs := vs) r t, fs => by
    rw [List.all_cons, Bool.and_eq_true] at fs
    obtain ⟨i1, i2⟩ := inV_of h f t fs.2
    refine ⟨?_, ?_⟩
    · unfold inV inD at *
      rw [List.any_cons, List.any_cons, i1, eqV_of r h fs.1 f]
    · rw [List.all_cons, flatV_of r fs.1, i2]; rfl
theorem View.flat {d : PyData} {v : V} (h : View K F H d v) (f : flatD d = true) : RD K F H d v := by
  cases h <;> first | exact .none | exact .bool _ | exact .int _ | exact .str _ | (exact Bool.noConfusion f)
/-- a text in a text; of one sign: plain membership -/
def sIn (i z : Str) : Bool := match i.cps.toList with
  | [c] => decide (c ∈ z.cps.toList)
  | _ => !(Builtin.Str.occurrences z i 0 z.length 1).isEmpty
theorem sIn_eq (i z : Str) : sIn i z = !(Builtin.Str.occurrences z i 0 z.length 1).isEmpty := by
  unfold sIn
  split
  · rename_i c h
    have e : i = ⟨#[c]⟩ := by
      obtain ⟨a⟩ := i
      obtain ⟨l⟩ := a
      have h : l = [c] := h
      subst h
      rfl
    rw [e]
    exact (PySem.StrLaws.found_one z c).symm
  · rfl
/-- x in y (neg: not in) -/
def fIn (neg : Bool) (x y : PyData) : Option PyData := match y with
  | .list ds => if flatD x && ds.all flatD then some (.bool (inD x ds != neg)) else if SeqAt.shaped x && SeqAt.shaped (.list ds) then some (.bool (inD x ds != neg)) else none
  | .tuple ds => if flatD x && ds.all flatD then some (.bool (inD x ds != neg)) else none
  | .str z => match x with
    | .str i => some (.bool (sIn i z != neg))
    | _ => none
  | _ => none
def rInU (K : PySem.W.Frag) : R2 := fun x y H Q => rIn K false x y H Q ∨ rInD K x y H Q ∨ (∃ i j, x = .str i ∧ y = .str j ∧ Q (.bl (!(Builtin.Str.occurrences j i 0 j.length 1).isEmpty)) H)
def rNiU (K : PySem.W.Frag) : R2 := fun x y H Q => rIn K true x y H Q ∨ rNotInD K x y H Q ∨ (∃ i j, x = .str i ∧ y = .str j ∧ Q (.bl (!(!(Builtin.Str.occurrences j i 0 j.length 1).isEmpty))) H)
theorem op_inU (hu : X.A.units + 65 < cLine) : OpR X (compareOp .In) (rInU X.K) := OpR.or op_in_seq (OpR.or (op_inD hu) op_in_str)
theorem op_niU (hu : X.A.units + 65 < cLine) : OpR X (compareOp .NotIn) (rNiU X.K) := OpR.or op_notIn_seq (OpR.or (op_notInD hu) op_notin_str)
theorem ok_inU : Op2 K (rInU K) (fIn false) := by
  intro F H dx dy vx vy z Q hl v1 v2 e q
  have b0 : ∀ b : Bool, (b != false) = b := fun b => by cases b <;> rfl
  unfold fIn at e
  cases v2 with
  | none => cases e
  | bool b => cases e
  | int b => cases e
  | dict _ _ => cases e
  | str y =>
    cases v1 with
    | str x =>
      cases e
      rw [b0, sIn_eq] at q
      exact .inr (.inr ⟨x, y, rfl, rfl, q _ _ _ .refl (.bool _)⟩)
    | _ => cases e
  | @list a vs xs h1 h2 =>
    dsimp only at e
    by_cases c : (flatD dx && xs.all flatD) = true
    · rw [if_pos c] at e
      cases e
      rw [Bool.and_eq_true] at c
      obtain ⟨i1, i2⟩ := inV_of (v1.flat c.1) c.1 h2 c.2
      rw [b0] at q
      refine .inl ⟨a, vs, rfl, .inl h1, flatV_of (v1.flat c.1) c.1, i2, ?_⟩
      rw [if_neg Bool.false_ne_true, i1]
      exact q _ _ _ .refl (.bool _)
    · rw [if_neg c] at e
      by_cases c2 : (SeqAt.shaped dx && SeqAt.shaped (.list xs)) = true
      · rw [if_pos c2] at e
        cases e
        rw [Bool.and_eq_true] at c2
        rw [b0] at q
        exact .inr (.inl ⟨dx, xs, v1.dp (SeqAt.canLay_of_shaped c2.1), View.dp (.list h1 h2) (SeqAt.canLay_of_shaped c2.2), c2.1, c2.2, q _ _ _ .refl (.bool _)⟩)
      · rw [if_neg c2] at e; cases e
  | @tuple a vs xs h1 h2 =>
    dsimp only at e
    by_cases c : (flatD dx && xs.all flatD) = true
    · rw [if_pos c] at e
      cases e
      rw [Bool.and_eq_true] at c
      obtain ⟨i1, i2⟩ := inV_of (v1.flat c.1) c.1 h2 c.2
      rw [b0] at q
      refine .inl ⟨a, vs, rfl, .inr h1.sq, flatV_of (v1.flat c.1) c.1, i2, ?_⟩
      rw [if_neg Bool.false_ne_true, i1]
      exact q _ _ _ .refl (.bool _)
    · rw [if_neg c] at e; cases e
theorem ok_niU : Op2 K (rNiU K) (fIn true) := by
  intro F H dx dy vx vy z Q hl v1 v2 e q
  have b0 : ∀ b : Bool, (b != true) = !b := fun b => by cases b <;> rfl
  unfold fIn at e
  cases v2 with
  | none => cases e
  | bool b => cases e
  | int b => cases e
  | dict _ _ => cases e
  | str y =>
    cases v1 with
    | str x =>
      cases e
      rw [b0, sIn_eq] at q
      exact .inr (.inr ⟨x, y, rfl, rfl, q _ _ _ .refl (.bool _)⟩)
    | _ => cases e
  | @list a vs xs h1 h2 =>
    dsimp only at e
    by_cases c : (flatD dx && xs.all flatD) = true
    · rw [if_pos c] at e
      cases e
      rw [Bool.and_eq_true] at c
      obtain ⟨i1, i2⟩ := inV_of (v1.flat c.1) c.1 h2 c.2
      rw [b0] at q
      refine .inl ⟨a, vs, rfl, .inl h1, flatV_of (v1.flat c.1) c.1, i2, ?_⟩
      rw [if_pos rfl, i1]
      exact q _ _ _ .refl (.bool _)
    · rw [if_neg c] at e
      by_cases c2 : (SeqAt.shaped dx && SeqAt.shaped (.list xs)) = true
      · rw [if_pos c2] at e
        cases e
        rw [Bool.and_eq_true] at c2
        rw [b0] at q
        exact .inr (.inl ⟨dx, xs, v1.dp (SeqAt.canLay_of_shaped c2.1), View.dp (.list h1 h2) (SeqAt.canLay_of_shaped c2.2), c2.1, c2.2, q _ _ _ .refl (.bool _)⟩)
      · rw [if_neg c2] at e; cases e
  | @tuple a vs xs h1 h2 =>
    dsimp only at e
    by_cases c : (flatD dx && xs.all flatD) = true
    · rw [if_pos c] at e
      cases e
      rw [Bool.and_eq_true] at c
      obtain ⟨i1, i2⟩ := inV_of (v1.flat c.1) c.1 h2 c.2
      rw [b0] at q
      refine .inl ⟨a, vs, rfl, .inr h1.sq, flatV_of (v1.flat c.1) c.1, i2, ?_⟩
      rw [if_pos rfl, i1]
      exact q _ _ _ .refl (.bool _)
    · rw [if_neg c] at e; cases e
end
end MP
/-! Part V: texts are walked; more built-in functions; calls without arguments. -/
namespace MP
open PySem PySem.Spec PyProof.Rows L2
section
variable {K : PySem.W.Frag} {CL : CA} {G G1 G' : Gh} {H H1 H' : Hp} {s s1 : S} {σ : L2.St} {n n1 n' : Nat} {α β γ δ : Type} {R : Rel α β} {Wx : WX} {X : Cx} {F : Addr → Prop}
/-- a list, a tuple or a text, whichever comes -/
def iAny (K : PySem.W.Frag) (tl : TE) : TI := fun σ H R => tl σ H fun x H1 => (∃ a, x = .ref a ∧ (((∃ xs, SqL K H1 a xs) ∧ R (Itl K a) H1) ∨ ((∃ xs, SqT K H1 a xs) ∧ R (Itt K a) H1))) ∨ ∃ z, x = .str z ∧ R (Its z) H1
theorem pi_any {tg l : Expr} {tl : TE} (hl : PE X l tl) : PI X tg l (iAny X.K tl) := by
  refine ⟨fun pins s σ H R I h => ?_⟩
  refine thn (hl.run pins s σ H _ I h) fun v s1 ⟨x, H1, I1, r1, q1⟩ => ?_
  rcases q1 with ⟨a, e, q⟩ | ⟨z, e, q⟩
  · subst e
    cases r1
    have fp : ∀ b ∈ [s1.heap.objs.size], FpOk X pins H1 b := fun b hb => by
      have e : b = s1.heap.objs.size := by simpa using hb
      subst e
      exact I1.fpOk (Nat.le_refl _) (I1.hok.fresh (Nat.le_refl _))
    rcases q with ⟨⟨xs, hq⟩, q⟩ | ⟨⟨xs, hq⟩, q⟩
    · obtain ⟨its, rv, p, hz⟩ := I1.list hq
      refine wpAny_pyIter_list p.isList ?_
      exact ⟨s1.heap.objs.size, [s1.heap.objs.size], _, _, H1, rfl, I1.kept (t' := s1.toks) fun b o e => Heap.get?_push_of_some _ e, turn_list a _, ⟨_, Heap.get?_push_size _ rfl, rfl, rfl⟩, fp, q⟩
    · obtain ⟨its, rv, p, hz⟩ := I1.tuple hq
      refine wpAny_pyIter_tuple p ?_
      exact ⟨s1.heap.objs.size, [s1.heap.objs.size], _, _, H1, rfl, I1.kept (t' := s1.toks) fun b o e => Heap.get?_push_of_some _ e, turn_tuple a _, ⟨_, Heap.get?_push_size _ rfl, rfl, rfl⟩, fp, q⟩
  · subst e
    obtain ⟨t, rfl⟩ := r1
    cases ha : z.cps.all (· < 128)
    · exact wpAny_pyIter_wide ha (pi_one (tk := s1.toks) I1 _ (turn_str _ z t "str_iterator" (.inr rfl)) ⟨_, Heap.get?_push_size _ rfl, rfl, rfl⟩ q)
    · exact wpAny_pyIter_ascii ha (pi_one (tk := s1.toks) I1 _ (turn_str _ z t "str_ascii_iterator" (.inl rfl)) ⟨_, Heap.get?_push_size _ rfl, rfl, rfl⟩ q)
/-- the signs of a text -/
def signs (z : Str) : List PyData := z.cps.toList.map fun c => .str ⟨#[c]⟩
theorem it_str {z : Str} : ItOk K F H (signs z) (Its z) where
  go := fun F' H' hF i hi => by
    have : i < (signs z).length := hi
    unfold signs at this
    rw [List.length_map, Array.length_toList] at this
    exact this
  stop := fun F' H' hF => by
    show z.cps.size ≤ (signs z).length
    unfold signs
    rw [List.length_map, Array.length_toList]
    exact Nat.le_refl _
  yld := fun F' H' hF hl i v H'' d y hd => by
    obtain ⟨rfl, c, hc, rfl⟩ := y
    refine ⟨F', .refl, ?_⟩
    unfold signs at hd
    rw [List.getElem?_map, Array.getElem?_toList, hc] at hd
    cases hd
    exact .str _
def srcAny (m : EM W) : EM (List PyData) := eb (evD m) fun d => match d with
  | .list xs => er xs
  | .tuple xs => er xs
  | .str z => er (signs z)
  | _ => es
theorem ji_any {tg e : Expr} {m : EM W} (h : JE CL X Wx e m) : JI CL X Wx tg e (srcAny m) := pi_imp (pi_any (jd_of h)) fun σ H Q q => by
  refine (tOf.bind (R := rDs X.K) q).mono fun v H1 ⟨G1, s1, d, S1, r, q⟩ => ?_
  have r : RD X.K G1.F H1 d v := r
  cases r with
  | none => exact q.elim
  | bool _ => exact q.elim
  | int _ => exact q.elim
  | dict _ _ => exact q.elim
  | str z => exact .inr ⟨z, rfl, Post.here (R := rIt X.K) S1 it_str q⟩
  | @list a vs xs h1 h2 => exact .inl ⟨a, rfl, .inl ⟨⟨vs, h1.sq⟩, Post.here (R := rIt X.K) S1 (it_list h1 h2) q⟩⟩
  | @tuple a vs xs h1 h2 => exact .inl ⟨a, rfl, .inr ⟨⟨vs, h1.sq⟩, Post.here (R := rIt X.K) S1 (it_tup h1 h2) q⟩⟩
/-! ### a def called without arguments -/
theorem je_call0 {c : Call} {f : Str} {fks : List (List Str)} {k : Nat} {p pos : Pos} (F : FnIn X.K CL X.prog X.w X.mg X.base k f [] fks (c f)) (hr : Room k X.A) (hg : Gl X f) (tk : Takes X Wx) (hd : (f == ("__debug__" : Str)) = false) :
    JE CL X Wx (.Call (.Name f p) [] [] pos) (cCall c f []) := by
  obtain ⟨a, fd, m1, m2, m3, m4, _⟩ := F.is
  refine ⟨fun pins sh σ H Q I q => ?_⟩
  refine wpAny_Call_Name_kw (ld_glob I hg m1 ?_ hd)
  refine PySem.W.callWith_K0 I.kIn m2 (run_fnS (us := []) m4 hr m3 (passAt tk σ) I .nil ?_)
  obtain ⟨G, s, S, q⟩ := q
  exact doCall_ok S rfl .nil q
/-! ### str, int of a text, min and max of two ints -/
def fStr : PyData → Option PyData
  | .int i => if i.natAbs.log2 < 1920 then some (.str (toString i : String)) else none
  | .str a => some (.str a)
  | _ => none
def rStrU : List V → Hp → VK → Prop := fun xs H Q => (∃ i, xs = [.int i] ∧ i.natAbs.log2 < 1920 ∧ Q (.str (toString i : String)) H) ∨ ∃ a, xs = [.str a] ∧ Q (.str a) H
theorem call_strU : CallR X (.type "str") rStrU := CallR.or call_str_int SkE.call_str_str
theorem ok_str : OpN K rStrU (f1 fStr) := ok_f1 fun F H dx vx z Q hl v1 e q => by
  cases v1 with
  | int i =>
    have e : (if i.natAbs.log2 < 1920 then some (PyData.str (toString i : String)) else none) = some z := e
    by_cases h : i.natAbs.log2 < 1920
    · rw [if_pos h] at e
      cases e
      exact .inl ⟨i, rfl, h, q _ _ _ .refl (.str _)⟩
    · rw [if_neg h] at e; cases e
  | str a => cases e; exact .inr ⟨a, rfl, q _ _ _ .refl (.str _)⟩
  | _ => cases e
def fMin := fI fun i j => some (.int (if j < i then j else i))
def fMax := fI fun i j => some (.int (if j > i then j else i))
theorem ok_min : OpN K (fun xs H Q => ∃ i j, xs = [V.int i, V.int j] ∧ Q (.int (if j < i then j else i)) H) (f2 fMin) := ok_f2 (ok_fI fun i j z H Q e q => by
  cases e
  exact ⟨i, j, rfl, q _ fun F H => .int _⟩)
theorem ok_max : OpN K (fun xs H Q => ∃ i j, xs = [V.int i, V.int j] ∧ Q (.int (if j > i then j else i)) H) (f2 fMax) := ok_f2 (ok_fI fun i j z H Q e q => by
  cases e
  exact ⟨i, j, rfl, q _ fun F H => .int _⟩)
end
end MP
/-! Part W: methods of texts. -/
namespace MP
open PySem PySem.Spec PyProof.Rows L2
section
variable {K : PySem.W.Frag} {CL : CA} {G G1 G' : Gh} {H H1 H' : Hp} {s s1 : S} {σ : L2.St} {n n1 n' : Nat} {α β γ δ : Type} {R : Rel α β} {Wx : WX} {X : Cx} {F : Addr → Prop}
def cSM (f : Str → List PyData → Option PyData) (m : EM W) (os : List Opd) : EM W := eb (evD m) fun d => match d with
  | .str x => cPN (f x) os
  | _ => es
/-- a text's method with arguments -/
theorem je_sm {id : String} {r : V → List V → Hp → VK → Prop} {f : Str → List PyData → Option PyData} {o e : Expr} {es' : List Expr} {m : EM W} {os : List Opd} {name : Str} {apos cpos : Pos} (slot : Slot "str" name id) (hty : typeOf (.builtin id) = pure (.type "method_descriptor")) (hm : MtR X id r)
    (ok : ∀ z : Str, OpN X.K (fun xs H Q => r (.str z) xs H Q) (f z)) (ho : JE CL X Wx o m) (ha : JOs CL X Wx (e :: es') os)
    (hbase : attributeBase o name X.env (eval o X.env) = eval o X.env)
    (hfew : ((backTo cpos (starEach (e :: es') X.env)).all (fun x => !x.1) && (backToKw cpos (keywordEach [] X.env)).all (fun x => x.1.isSome) && decide ((e :: es').length + ([] : List Keyword).length + (if ([] : List Keyword).isEmpty then 0 else 1) < 30)) = true)
    (hline : (apos.endLine == cpos.line) = true) : JE CL X Wx (.Call (.Attribute o name apos) (e :: es') [] cpos) (cSM f m os) := by
  have hs : starEach (e :: es') X.env = (false, eval e X.env) :: starEach es' X.env := by cases ha; assumption
  have hp : (backTo cpos (starEach es' X.env)).any (·.1) = false := by
    cases ha with
    | cons _ _ t => exact t.ja.noStar
  refine pe_imp (pe_bm PySem.F.plainAttrs_str slot hty hm (jd_of ho) (ha.ja.pa lasts_Tok) hbase hfew hline hs hp) fun σ H Q q => ?_
  refine (tOf.bind (R := rDs X.K) q).mono fun v H1 ⟨G1, s1, d, S1, r1, q⟩ => ?_
  have r1 : RD X.K G1.F H1 d v := r1
  cases r1 with
  | str z => exact ⟨rfl, cPN_ok (ok z) (tOf_at S1 q)⟩
  | none => exact q.elim
  | bool _ => exact q.elim
  | int _ => exact q.elim
  | list _ _ => exact q.elim
  | tuple _ _ => exact q.elim
  | dict _ _ => exact q.elim
def allS : List PyData → Option (List Str)
  | [] => some []
  | .str b :: r => match allS r with
    | some bs => some (b :: bs)
    | none => none
  | _ => none
theorem allS_ok : ∀ {ds : List PyData} {vs : List V} {bs : List Str}, RDs K F H ds vs → allS ds = some bs → vs = bs.map V.str
  | _, _, _, .nil, e => by cases e; rfl
  | _, _, bs, .cons (d := d) (ds := ds) h1 h2, e => by
    cases h1 with
    | str b =>
      unfold allS at e
      cases e2 : allS ds with
      | none => simp only [e2] at e; cases e
      | some bs' =>
        simp only [e2] at e
        cases e
        rw [allS_ok h2 e2]
        rfl
    | none => cases e
    | int b => cases e
    | bool b => cases e
    | dict _ _ => cases e
    | list _ _ => cases e
    | tuple _ _ => cases e
def fJoin (z : Str) : PyData → Option PyData
  | .list xs => match allS xs with
    | some ys => if (ys.map (·.length)).sum + ys.length * z.length ≤ 16777216 then some (.str (Txt.join z ys)) else none
    | none => none
  | _ => none
theorem ok_join (z : Str) : OpN K (fun xs H Q => ∃ a p, ∃ ys : List Str, V.str z = .str a ∧ xs = [.ref p] ∧ (SqL K H p (ys.map V.str) ∨ SqT K H p (ys.map V.str)) ∧
    (ys.map (·.length)).sum + ys.length * a.length ≤ 16777216 ∧ Q (.str (Txt.join a ys)) H) (f1 (fJoin z)) := ok_f1 fun F H dx vx w Q hl v1 e q => by
  unfold fJoin at e
  cases v1 with
  | @list a vs xs h1 h2 =>
    dsimp only at e
    cases e1 : allS xs with
    | none => rw [e1] at e; cases e
    | some ys =>
      rw [e1] at e
      dsimp only at e
      by_cases h : (ys.map (·.length)).sum + ys.length * z.length ≤ 16777216
      · rw [if_pos h] at e
        cases e
        exact ⟨z, a, ys, rfl, rfl, .inl (by rw [← allS_ok h2 e1]; exact h1), h, q _ _ _ .refl (.str _)⟩
      · rw [if_neg h] at e; cases e
  | _ => cases e
def fSplit (z : Str) : PyData → Option PyData
  | .str b => if (b.length == 0) = false ∧ z.length ≤ 1000000 then some (.list ((Txt.split z b).map .str)) else none
  | _ => none
theorem rds_strs : ∀ ys : List Str, RDs K F H (ys.map .str) (ys.map V.str)
  | [] => .nil
  | y :: ys => .cons (.str y) (rds_strs ys)
theorem ok_split (z : Str) : OpN K (fun xs H Q => ∃ a b, V.str z = .str a ∧ xs = [.str b] ∧ (b.length == 0) = false ∧ a.length + 2 ≤ sizeLine ∧ rNewStrs (Txt.split a b) H Q) (f1 (fSplit z)) := ok_f1 fun F H dx vx w Q hl v1 e q => by
  unfold fSplit at e
  cases v1 with
  | str b =>
    dsimp only at e
    by_cases h : (b.length == 0) = false ∧ z.length ≤ 1000000
    · rw [if_pos h] at e
      cases e
      refine ⟨z, b, rfl, rfl, h.1, Nat.le_trans (Nat.add_le_add_right h.2 2) (by decide), fun p hp => ?_⟩
      exact q _ _ _ (Grow.one (F := F) hp) (.list (.inl ⟨.inr rfl, .inl upd_same⟩) (rds_strs _))
    · rw [if_neg h] at e; cases e
  | _ => cases e
def fStarts (z : Str) : PyData → Option PyData
  | .str b => some (.bool (Txt.startswith z b))
  | _ => none
theorem ok_starts (z : Str) : OpN K (fun xs H Q => ∃ a b, V.str z = .str a ∧ xs = [.str b] ∧ Q (.bl (Txt.startswith a b)) H) (f1 (fStarts z)) := ok_f1 fun F H dx vx w Q hl v1 e q => by
  cases v1 with
  | str b => cases e; exact ⟨z, b, rfl, rfl, q _ _ _ .refl (.bool _)⟩
  | _ => cases e
/-! ### a key in a dict -/
theorem rdkv_miss {k : Key} : ∀ {ds : List (PyData × PyData)} {kvs : List (Key × V)}, RDkv K F H ds kvs → dLook ds k = none → valV kvs k = none
  | _, _, .nil, _ => rfl
  | _, _, .consI (i := i) (d := d') (ds := ds) (v := v) (kvs := kvs) h1 h2, e => by
    unfold dLook at e
    rw [List.find?_cons] at e
    by_cases q : (Sum.inl i : Key) = k
    · rw [decide_eq_true (show keyOf (PyData.int i) = some k by rw [← q]; rfl)] at e
      cases e
    · rw [decide_eq_false (show ¬ keyOf (PyData.int i) = some k from fun z => q (Option.some.inj z))] at e
      rw [valV_neg (p := (Sum.inl i, v)) q]
      exact rdkv_miss h2 e
  | _, _, .consS (x := i) (d := d') (ds := ds) (v := v) (kvs := kvs) h1 h2, e => by
    unfold dLook at e
    rw [List.find?_cons] at e
    by_cases q : (Sum.inr i : Key) = k
    · rw [decide_eq_true (show keyOf (PyData.str i) = some k by rw [← q]; rfl)] at e
      cases e
    · rw [decide_eq_false (show ¬ keyOf (PyData.str i) = some k from fun z => q (Option.some.inj z))] at e
      rw [valV_neg (p := (Sum.inr i, v)) q]
      exact rdkv_miss h2 e
theorem rdkv_is {k : Key} {ds : List (PyData × PyData)} {kvs : List (Key × V)} (h : RDkv K F H ds kvs) : (valV kvs k).isSome = (dLook ds k).isSome := by
  cases e : dLook ds k with
  | none => rw [rdkv_miss h e]; rfl
  | some d =>
    obtain ⟨v, e1, _⟩ := rdkv_look h e
    rw [e1]; rfl
def rInD1 : R2 := fun x y H Q => ∃ a o, y = .ref a ∧ DGet H a x o ∧ Q (.bl o.isSome) H
def rInD2 : R2 := fun x y H Q => ∃ a o, y = .ref a ∧ DGet H a x o ∧ Q (.bl (!o.isSome)) H
theorem op_inD1 (hu : X.A.units + 1 < cLine) : OpR X (compareOp .In) rInD1 := by
  intro pins s σ H x y v u Q I rx ry h
  obtain ⟨a, o, rfl, g, q⟩ := h
  cases ry
  exact d_in hu I g rx fun s' I' => ⟨.bl o.isSome, H, I', rfl, q⟩
theorem op_inD2 (hu : X.A.units + 1 < cLine) : OpR X (compareOp .NotIn) rInD2 := by
  intro pins s σ H x y v u Q I rx ry h
  obtain ⟨a, o, rfl, g, q⟩ := h
  cases ry
  exact d_notIn hu I g rx fun s' I' => ⟨.bl (!o.isSome), H, I', rfl, q⟩
def fInK (neg : Bool) (x y : PyData) : Option PyData := match y with
  | .dict kvs => match keyOf x with
    | some k => some (.bool ((dLook kvs k).isSome != neg))
    | none => none
  | y => fIn neg x y
theorem op_inK (hu : X.A.units + 65 < cLine) : OpR X (compareOp .In) (fun x y H Q => rInD1 x y H Q ∨ rInU X.K x y H Q) := OpR.or (op_inD1 (by omega)) (op_inU hu)
theorem op_niK (hu : X.A.units + 65 < cLine) : OpR X (compareOp .NotIn) (fun x y H Q => rInD2 x y H Q ∨ rNiU X.K x y H Q) := OpR.or (op_inD2 (by omega)) (op_niU hu)
theorem ok_inK : Op2 K (fun x y H Q => rInD1 x y H Q ∨ rInU K x y H Q) (fInK false) := by
  intro F H dx dy vx vy z Q hl v1 v2 e q
  cases v2 with
  | @dict a kvs ds h1 h2 =>
    unfold fInK at e
    dsimp only at e
    cases e1 : keyOf dx with
    | none => rw [e1] at e; cases e
    | some k =>
      rw [e1] at e
      cases e
      rw [key_view v1 e1]
      refine .inl ⟨a, _, rfl, DGet.k (k := k) h1, ?_⟩
      rw [rdkv_is h2]
      have b0 : ∀ b : Bool, (b != false) = b := fun b => by cases b <;> rfl
      rw [b0] at q
      exact q _ _ _ .refl (.bool _)
  | none => exact .inr (ok_inU F H dx _ vx _ z Q hl v1 .none e q)
  | bool b => exact .inr (ok_inU F H dx _ vx _ z Q hl v1 (.bool b) e q)
  | int b => exact .inr (ok_inU F H dx _ vx _ z Q hl v1 (.int b) e q)
  | str b => exact .inr (ok_inU F H dx _ vx _ z Q hl v1 (.str b) e q)
  | list h1 h2 => exact .inr (ok_inU F H dx _ vx _ z Q hl v1 (.list h1 h2) e q)
  | tuple h1 h2 => exact .inr (ok_inU F H dx _ vx _ z Q hl v1 (.tuple h1 h2) e q)
theorem ok_niK : Op2 K (fun x y H Q => rInD2 x y H Q ∨ rNiU K x y H Q) (fInK true) := by
  intro F H dx dy vx vy z Q hl v1 v2 e q
  cases v2 with
  | @dict a kvs ds h1 h2 =>
    unfold fInK at e
    dsimp only at e
    cases e1 : keyOf dx with
    | none => rw [e1] at e; cases e
    | some k =>
      rw [e1] at e
      cases e
      rw [key_view v1 e1]
      refine .inl ⟨a, _, rfl, DGet.k (k := k) h1, ?_⟩
      rw [rdkv_is h2]
      have b0 : ∀ b : Bool, (b != true) = !b := fun b => by cases b <;> rfl
      rw [b0] at q
      exact q _ _ _ .refl (.bool _)
  | none => exact .inr (ok_niU F H dx _ vx _ z Q hl v1 .none e q)
  | bool b => exact .inr (ok_niU F H dx _ vx _ z Q hl v1 (.bool b) e q)
  | int b => exact .inr (ok_niU F H dx _ vx _ z Q hl v1 (.int b) e q)
  | str b => exact .inr (ok_niU F H dx _ vx _ z Q hl v1 (.str b) e q)
  | list h1 h2 => exact .inr (ok_niU F H dx _ vx _ z Q hl v1 (.list h1 h2) e q)
  | tuple h1 h2 => exact .inr (ok_niU F H dx _ vx _ z Q hl v1 (.tuple h1 h2) e q)
end
end MP
/-! Part X: zip of two lists or two tuples. -/
namespace MP
open PySem PySem.Spec PyProof.Rows L2 RZ
section
variable {K : PySem.W.Frag} {CL : CA} {Wx : WX} {X : Cx} {F : Addr → Prop} {H : Hp}
def zipD (xs ys : List PyData) : List PyData := (xs.zip ys).map fun p => .tuple [p.1, p.2]
theorem zipD_len {xs ys : List PyData} : (zipD xs ys).length = min xs.length ys.length := by
  unfold zipD
  rw [List.length_map, List.length_zip]
theorem zipD_at {xs ys : List PyData} {i : Nat} {d : PyData} (h : (zipD xs ys)[i]? = some d) : ∃ x y, xs[i]? = some x ∧ ys[i]? = some y ∧ d = .tuple [x, y] := by
  unfold zipD at h
  rw [List.getElem?_map, Option.map_eq_some_iff] at h
  obtain ⟨⟨x, y⟩, h1, rfl⟩ := h
  rw [List.getElem?_zip_eq_some] at h1
  exact ⟨x, y, h1.1, h1.2, rfl⟩
theorem it_zip {a b : Addr} {us vs : List V} {xs ys : List PyData} (h1 : LAt K F H a us) (h2 : RDs K F H xs us) (g1 : LAt K F H b vs) (g2 : RDs K F H ys vs) : ItOk K F H (zipD xs ys) (Itz K a b) where
  go := fun F' H' hF i hi => by
    rw [zipD_len] at hi
    obtain ⟨x, ex⟩ : ∃ x, us[i]? = some x := ⟨_, List.getElem?_eq_getElem (by rw [h2.length]; omega)⟩
    obtain ⟨y, ey⟩ : ∃ y, vs[i]? = some y := ⟨_, List.getElem?_eq_getElem (by rw [g2.length]; omega)⟩
    exact ⟨us, vs, x, y, (h1.mono hF).sq, (g1.mono hF).sq, ex, ey⟩
  stop := fun F' H' hF => by
    refine ⟨us, vs, (h1.mono hF).sq, (g1.mono hF).sq, ?_⟩
    rw [zipD_len, h2.length, g2.length]
    omega
  yld := fun F' H' hF hl i v H'' d y hd => by
    obtain ⟨p, x, z, rfl, hp, rfl, r1, r2⟩ := y
    obtain ⟨dx, dy, e1, e2, rfl⟩ := zipD_at hd
    have ex := r1 us (h1.mono hF).sq
    have ey := r2 vs (g1.mono hF).sq
    obtain ⟨x', k1, k2⟩ := (h2.mono hF).get e1
    obtain ⟨y', k3, k4⟩ := (g2.mono hF).get e2
    rw [ex] at k1
    rw [ey] at k3
    cases k1
    cases k3
    have g := Grow.one (F := F') (o := .tup [x, z]) hp
    exact ⟨_, g, .tuple (.inl ⟨.inr rfl, .inl upd_same⟩) ((RDs.cons k2 (.cons k4 .nil)).mono fun a f => g.keep hl a f)⟩
theorem it_zipT {a b : Addr} {us vs : List V} {xs ys : List PyData} (h1 : TAt K F H a us) (h2 : RDs K F H xs us) (g1 : TAt K F H b vs) (g2 : RDs K F H ys vs) : ItOk K F H (zipD xs ys) (ItzT K a b) where
  go := fun F' H' hF i hi => by
    rw [zipD_len] at hi
    obtain ⟨x, ex⟩ : ∃ x, us[i]? = some x := ⟨_, List.getElem?_eq_getElem (by rw [h2.length]; omega)⟩
    obtain ⟨y, ey⟩ : ∃ y, vs[i]? = some y := ⟨_, List.getElem?_eq_getElem (by rw [g2.length]; omega)⟩
    exact ⟨us, vs, x, y, (h1.mono hF).sq, (g1.mono hF).sq, ex, ey⟩
  stop := fun F' H' hF => by
    refine ⟨us, vs, (h1.mono hF).sq, (g1.mono hF).sq, ?_⟩
    rw [zipD_len, h2.length, g2.length]
    omega
  yld := fun F' H' hF hl i v H'' d y hd => by
    obtain ⟨p, x, z, rfl, hp, rfl, r1, r2⟩ := y
    obtain ⟨dx, dy, e1, e2, rfl⟩ := zipD_at hd
    have ex := r1 us (h1.mono hF).sq
    have ey := r2 vs (g1.mono hF).sq
    obtain ⟨x', k1, k2⟩ := (h2.mono hF).get e1
    obtain ⟨y', k3, k4⟩ := (g2.mono hF).get e2
    rw [ex] at k1
    rw [ey] at k3
    cases k1
    cases k3
    have g := Grow.one (F := F') (o := .tup [x, z]) hp
    exact ⟨_, g, .tuple (.inl ⟨.inr rfl, .inl upd_same⟩) ((RDs.cons k2 (.cons k4 .nil)).mono fun a f => g.keep hl a f)⟩
def zip2 : PyData → PyData → EM (List PyData)
  | .list xs, .list ys => er (zipD xs ys)
  | .tuple xs, .tuple ys => er (zipD xs ys)
  | _, _ => es
def srcZip (m m' : EM W) : EM (List PyData) := eb (evD m) fun x => eb (evD m') fun y => zip2 x y
theorem ji_zip {e e2 : Expr} {m m' : EM W} {p pos tpos : Pos} {elts : List Expr} {kk : Nat} (hg : Gl X "zip") (hm : X.mg "zip" = none) (h : JE CL X Wx e m) (h' : JE CL X Wx e2 m') (hs : starEach [e, e2] X.env = (false, eval e X.env) :: starEach [e2] X.env) (hs2 : starEach [e2] X.env = (false, eval e2 X.env) :: starEach [] X.env) :
    JI CL X Wx (.Tuple elts kk tpos) (.Call (.Name "zip" p) [e, e2] [] pos) (srcZip m m') := by
  have ja : JA CL (rDs X.K) X Wx [e, e2] [evD m, evD m'] := .cons (jd_of h) hs (.cons (jd_of h') hs2 .nil)
  refine pi_imp (pi_zipA hg hm (ja.pa lasts_Ds) hs (by rw [hs2]; rfl)) fun σ H Q q => ?_
  obtain ⟨G, s, S, q⟩ := q
  refine ⟨G, s, S, ?_⟩
  unfold cList
  unfold srcZip at q
  unfold eb rb at q
  unfold eb rb
  cases e1 : evD m s with
  | stuck => rw [e1] at q; exact q.elim
  | raise x s' => rw [e1] at q; exact q
  | ok d1 s1 =>
    simp only [e1, cList, eb, rb, er] at q ⊢
    cases e2 : evD m' s1 with
    | stuck => simp only [e2] at q; exact q.elim
    | raise x s' => simp only [e2] at q ⊢; exact q
    | ok d2 s2 =>
      simp only [e2] at q ⊢
      intro G' H' vs f' S' r
      cases r with
      | cons r1 t =>
        cases t with
        | cons r2 t2 =>
          cases t2
          have r1 : RD X.K G'.F H' d1 _ := r1
          have r2 : RD X.K G'.F H' d2 _ := r2
          have q := Post.later f' q
          cases r1 with
          | @list a us xs h1 h2 =>
            cases r2 with
            | @list b ws ys g1 g2 => exact ⟨a, b, us, ws, rfl, .inl ⟨h1.sq, g1.sq, Post.here (R := rIt X.K) S' (it_zip h1 h2 g1 g2) q⟩⟩
            | _ => exact False.elim q
          | @tuple a us xs h1 h2 =>
            cases r2 with
            | @tuple b ws ys g1 g2 => exact ⟨a, b, us, ws, rfl, .inr ⟨h1.sq, g1.sq, Post.here (R := rIt X.K) S' (it_zipT h1 h2 g1 g2) q⟩⟩
            | _ => exact False.elim q
          | _ => exact False.elim q
end
end MP
/-! Part Y: extend, get, displays of dicts, f-strings, int of a text, isinstance of several classes, dicts of the module. -/
namespace PySem.AutoSeq1
theorem extendW_ll (l : Addr) (items : Array Value) (n : Nat) (b : Addr) (items2 : Array Value) (n2 : Nat) (dd : Option Addr) (sl : Array (Option Value)) (hc0 : ¬(!items.isEmpty && Builtin.List.listTooLong (items.size + items2.size)) = true) (hc1 : items.size ≤ sizeLine) (hs2 : items.size + items2.size ≤ sizeLine + 1) :
    Meets (Builtin.«list.extend» ⟨[.ref l, .ref b], []⟩) (fun _ R s => s.heap.get? l = some { cls := .type "list", dict := none, data := .seq items n, slots := #[] } ∧ s.heap.get? b = some { cls := .type "list", dict := dd, data := .seq items2 n2, slots := sl } ∧ R (.ok (.ret Value.none)) { s with heap := s.heap.update l (Obj.mapSeq fun x => x ++ items2), toks := s.toks }) :=
  .of_wp fun prog w A R s h => by
    obtain ⟨hp, g, d, tk, os⟩ := s; obtain ⟨hl, hb, h⟩ := h; have f1 := idx_int; have f2 := sub_tuple_tuple; have f3 := sub_list_list; have f4 := sub_tuple_list; have f5 := sub_list_tuple;
    have hz' : (items ++ items2).size ≤ sizeLine + 1 := by rw [Array.size_append]; exact hs2
    wp_walk using (wpAny_updateSeq hl rfl (hz := hc1) (_hz' := hz')), wpAny_loadPart' hl, wpAny_loadPart' hb; exact ⟨_, rfl, h⟩
theorem extendW_lt (l : Addr) (items : Array Value) (n : Nat) (b : Addr) (items2 : Array Value) (n2 : Nat) (dd : Option Addr) (sl : Array (Option Value)) (hc0 : ¬(!items.isEmpty && Builtin.List.listTooLong (items.size + items2.size)) = true) (hc1 : items.size ≤ sizeLine) (hs2 : items.size + items2.size ≤ sizeLine + 1) :
    Meets (Builtin.«list.extend» ⟨[.ref l, .ref b], []⟩) (fun _ R s => s.heap.get? l = some { cls := .type "list", dict := none, data := .seq items n, slots := #[] } ∧ s.heap.get? b = some { cls := .type "tuple", dict := dd, data := .seq items2 n2, slots := sl } ∧ R (.ok (.ret Value.none)) { s with heap := s.heap.update l (Obj.mapSeq fun x => x ++ items2), toks := s.toks }) :=
  .of_wp fun prog w A R s h => by
    obtain ⟨hp, g, d, tk, os⟩ := s; obtain ⟨hl, hb, h⟩ := h; have f1 := idx_int; have f2 := sub_tuple_tuple; have f3 := sub_list_list; have f4 := sub_tuple_list; have f5 := sub_list_tuple;
    have hz' : (items ++ items2).size ≤ sizeLine + 1 := by rw [Array.size_append]; exact hs2
    wp_walk using (wpAny_updateSeq hl rfl (hz := hc1) (_hz' := hz')), wpAny_loadPart' hl, wpAny_loadPart' hb; exact ⟨_, rfl, h⟩
end PySem.AutoSeq1
namespace MP
open PySem PySem.Spec PyProof.Rows L2
section
variable {K : PySem.W.Frag} {CL : CA} {G G1 G' : Gh} {H H1 H' : Hp} {s s1 : S} {σ : L2.St} {n n1 n' : Nat} {α β γ δ : Type} {R : Rel α β} {Wx : WX} {X : Cx} {F : Addr → Prop}
/-! ### xs.extend(e) -/
def rExtA (K : PySem.W.Frag) : V → List V → Hp → VK → Prop := fun x vs H Q => ∃ l b xs zs, x = .ref l ∧ vs = [.ref b] ∧ H l = some (.lst xs) ∧ (SqL K H b zs ∨ SqT K H b zs) ∧ xs.length + zs.length ≤ sizeLine ∧ Q .non (upd H l (.lst (xs ++ zs)))
theorem mt_extA : MtM X "list.extend" (rExtA X.K) := by
  intro pins s σ H x vs v us Q I rx rv h
  obtain ⟨l, b, xs, zs, rfl, rfl, hH, hB, hz, q⟩ := h
  cases rx
  obtain ⟨u, rfl, ru⟩ := rv.one
  cases ru
  obtain ⟨z, its, n, r, hl, e⟩ := I.lstM hH
  have fin : ∀ (its2 : List Value), Vals zs its2 → EP X pins σ Q .none { s with heap := s.heap.update l (Obj.mapSeq fun x => x ++ its2.toArray) } := fun its2 r2 => by
    refine ⟨.non, _, I.lset (its' := its ++ its2) hH e (by simp) (r.append r2) ?_, rfl, q⟩
    rw [List.length_append]
    omega
  rcases hB with hB | hB
  · obtain ⟨its2, r2, ⟨⟨cls2, dd2, data2, sl2⟩, n2, ho2, hc2, hd2, hs2⟩, hl2⟩ := I.list hB
    simp only at hc2 hs2
    subst hc2 hs2
    have e2 := r2.length
    have hsz : its.toArray.size + its2.toArray.size ≤ sizeLine := by rw [List.size_toArray, List.size_toArray]; omega
    have hlong : ¬ (!its.toArray.isEmpty && Builtin.List.listTooLong (its.toArray.size + its2.toArray.size)) = true := by
      rw [notLongL hsz, Bool.and_false]
      exact Bool.false_ne_true
    exact call_meets PySem.F.slot_list_extend ⟨_, e, rfl⟩ PySem.F.entry_list_extend (PySem.F.args_list_extend_2 _ _)
      (AutoSeq1.extendW_ll l its.toArray n b its2.toArray n2 dd2 sl2 hlong (by rw [List.size_toArray]; omega) (by omega)) ⟨e, ho2, fin its2 r2⟩
  · obtain ⟨its2, r2, ⟨⟨cls2, dd2, data2, sl2⟩, ho2, hc2, n2, hs2⟩, hl2⟩ := I.tuple hB
    simp only at hc2 hs2
    subst hc2 hs2
    have e2 := r2.length
    have hsz : its.toArray.size + its2.toArray.size ≤ sizeLine := by rw [List.size_toArray, List.size_toArray]; omega
    have hlong : ¬ (!its.toArray.isEmpty && Builtin.List.listTooLong (its.toArray.size + its2.toArray.size)) = true := by
      rw [notLongL hsz, Bool.and_false]
      exact Bool.false_ne_true
    exact call_meets PySem.F.slot_list_extend ⟨_, e, rfl⟩ PySem.F.entry_list_extend (PySem.F.args_list_extend_2 _ _)
      (AutoSeq1.extendW_lt l its.toArray n b its2.toArray n2 dd2 sl2 hlong (by rw [List.size_toArray]; omega) (by omega)) ⟨e, ho2, fin its2 r2⟩
def gExt (ys : List PyData) : Ob → Option (Ob × W)
  | .lst xs => if xs.length + ys.length ≤ 1000000 then some (.lst (xs ++ ys), .d .none) else none
  | _ => none
def seqOf : PyData → Option (List PyData)
  | .list xs => some xs
  | .tuple xs => some xs
  | _ => none
def cExt (i : Nat) (m : EM W) : EM W := fun s => if isLst i s = true then eb (evD m) (fun d => match seqOf d with
  | some ys => modSlot i (gExt ys)
  | none => es) s else .stuck
theorem je_ext {i : Nat} {x : Str} {e : Expr} {m : EM W} {p0 apos cpos : Pos} (hv : PE X (.Name x p0) (tVar i)) (h : JE CL X Wx e m)
    (hfew : ((backTo cpos (starEach (e :: []) X.env)).all (fun x => !x.1) && (backToKw cpos (keywordEach [] X.env)).all (fun x => x.1.isSome) && decide ((e :: []).length + ([] : List Keyword).length + (if ([] : List Keyword).isEmpty then 0 else 1) < 30)) = true)
    (hline : (apos.endLine == cpos.line) = true) (hs : starEach (e :: []) X.env = (false, eval e X.env) :: starEach [] X.env) :
    JE CL X Wx (.Call (.Attribute (.Name x p0) "extend" apos) [e] [] cpos) (cExt i m) :=
  pe_imp (pe_bm PySem.F.plainAttrs_list PySem.F.slot_list_extend PySem.F.type_list_extend mt_extA hv (pa_cons (jd_of h) pa_nil hs) rfl hfew hline hs rfl) fun σ H Q q => by
    obtain ⟨G, s, S, q⟩ := q
    unfold cExt at q
    by_cases hl : isLst i s = true
    · rw [if_pos hl] at q
      obtain ⟨v, hv⟩ := lst_some S hl
      obtain ⟨p, vs0, rfl, hp⟩ := isLst_ok S hv hl
      refine ⟨_, hv, .inl ⟨rfl, vs0, .inl (.inl hp)⟩, ?_⟩
      refine tOf_at S ((Post.bind (R := rDs X.K) q).mono fun u H1 ⟨G1, s1, d, f1, S1, r1, q⟩ => ?_)
      have r1 : RD X.K G1.F H1 d u := r1
      have go : ∀ (b : Addr) (vs : List V) (ys : List PyData), (SqL X.K H1 b vs ∨ SqT X.K H1 b vs) → RDs X.K G1.F H1 ys vs → Post X.K CL (rWs X.K) Wx G1 s1.mem.length σ H1 (modSlot i (gExt ys) s1) Q → rExtA X.K (.ref p) [.ref b] H1 Q := fun b vs ys hb hr q => by
        rcases modSlot_ok (g := gExt ys) S1 hv with z | ⟨p', c, c', a, s', e1, hF, ho, e2, e3, e4, k⟩
        · rw [z] at q; exact q.elim
        · cases e1
          rw [e3] at q
          cases c with
          | dic _ => cases e2
          | lst xs =>
            have e2 : (if xs.length + ys.length ≤ 1000000 then some (Ob.lst (xs ++ ys), W.d .none) else none) = some (c', a) := e2
            by_cases hz : xs.length + ys.length ≤ 1000000
            · rw [if_pos hz] at e2
              cases e2
              obtain ⟨us, hu, ru⟩ := ho
              refine ⟨p, b, us, vs, rfl, rfl, hu, hb, by rw [ru.length, hr.length]; exact Nat.le_trans hz million, ?_⟩
              obtain ⟨S2, f2⟩ := k (.lst (us ++ vs)) ⟨us ++ vs, upd_same, (ru.append hr).mono (hF _)⟩
              exact q _ _ _ f2 S2 RD.none
            · rw [if_neg hz] at e2; cases e2
      cases r1 with
      | list h1 h2 => exact go _ _ _ (.inl h1.sq) h2 q
      | tuple h1 h2 => exact go _ _ _ (.inr h1.sq) h2 q
      | none => exact q.elim
      | bool _ => exact q.elim
      | int _ => exact q.elim
      | str _ => exact q.elim
      | dict _ _ => exact q.elim
    · rw [if_neg hl] at q; exact q.elim
/-! ### d.get(k), d.get(k, e) -/
def isDt (s : S) (t : Tok) : Bool := match resolve s t with
  | some (.dict _) => true
  | _ => false
theorem isDt_ok {t : Tok} {v : V} (S : SR K CL G s σ H) (r : rTok K G σ H t v) (h : isDt s t = true) : ∃ a kvs, v = .ref a ∧ H a = some (.dK kvs) := by
  unfold isDt at h
  cases e : resolve s t with
  | none => rw [e] at h; cases h
  | some x =>
    rw [e] at h
    have w := resolve_view S r e
    cases w with
    | dict h1 h2 => exact ⟨_, _, rfl, h1⟩
    | _ => cases h
def fGetD (x y z : PyData) : Option PyData := match x with
  | .dict kvs => match keyOf y with
    | some k => some ((dLook kvs k).getD z)
    | none => none
  | _ => none
def cGet (a b : Opd) (m : EM W) : EM W := eb (opd a) fun ta s => if isDt s ta = true then eb (opd b) (fun tb => eb (evD m) fun z s => match resolve s ta with
    | some x => match resolve s tb with
      | some y => match fGetD x y z with
        | some w => .ok (.d w) s
        | none => .stuck
      | none => .stuck
    | none => .stuck) s else .stuck
theorem cGet_ok {a b : Opd} {m : EM W} {Q : VK} (q : tOf K CL (rWs K) Wx (cGet a b m) σ H Q) :
    tDGet2 (tOf K CL (rTok K) Wx (opd a)) (tOf K CL (rTok K) Wx (opd b)) (tOf K CL (rDs K) Wx (evD m)) σ H Q := by
  refine (tOf.bind (R := rTok K) q).mono fun v H1 ⟨G1, s1, ta, S1, r1, q⟩ => ?_
  by_cases hd : isDt s1 ta = true
  · rw [if_pos hd] at q
    obtain ⟨p, kvs0, rfl, hp⟩ := isDt_ok S1 r1 hd
    refine ⟨p, rfl, .inl ⟨kvs0, .inl hp⟩, G1, s1, S1, ?_⟩
    refine (Post.bind (R := rTok K) q).mono fun y H2 ⟨G2, s2, tb, f2, S2, r2, q⟩ => ?_
    refine ⟨G2, s2, S2, ?_⟩
    refine (Post.bind (R := rDs K) q).mono fun z H3 ⟨G3, s3, zd, f3, S3, r3, q⟩ => ?_
    have r1 := rTok_later S2 f3 (rTok_later S1 f2 r1)
    have r2 := rTok_later S2 f3 r2
    have r3 : RD K G3.F H3 zd z := r3
    cases e1 : resolve s3 ta with
    | none => simp only [e1] at q; exact q.elim
    | some x =>
      cases e2 : resolve s3 tb with
      | none => simp only [e1, e2] at q; exact q.elim
      | some yd =>
        cases e3 : fGetD x yd zd with
        | none => simp only [e1, e2, e3] at q; exact q.elim
        | some w =>
          simp only [e1, e2, e3] at q
          have v1 := resolve_view S3 r1 e1
          have v2 := resolve_view S3 r2 e2
          cases v1 with
          | @dict a' kvs ds h1 h2 =>
            have e3 : (match keyOf yd with
              | some k => some ((dLook ds k).getD zd)
              | none => none) = some w := e3
            cases e4 : keyOf yd with
            | none => rw [e4] at e3; cases e3
            | some k =>
              rw [e4] at e3
              cases e3
              rw [key_view v2 e4]
              refine ⟨_, DGet.k (k := k) h1, ?_⟩
              cases e5 : dLook ds k with
              | none =>
                rw [rdkv_miss h2 e5]
                rw [e5] at q
                exact Post.here (R := rWs K) (a := W.d zd) S3 r3 q
              | some d5 =>
                obtain ⟨v5, k1, k2⟩ := rdkv_look h2 e5
                rw [k1]
                rw [e5] at q
                exact Post.here (R := rWs K) (a := W.d d5) S3 k2 q
          | _ => cases e3
  · rw [if_neg hd] at q; exact q.elim
theorem je_get {o e f : Expr} {a b : Opd} {m : EM W} {apos cpos : Pos} (hu : X.A.units + 1 < cLine) (ho : JO CL X Wx o a) (he : JO CL X Wx e b) (hf : JE CL X Wx f m) (h2 : M2 X o "get" apos e f cpos) : JE CL X Wx (.Call (.Attribute o "get" apos) [e, f] [] cpos) (cGet a b m) :=
  pe_imp (pe_dget2 hu ho he (jd_of hf) h2) fun _ _ _ q => cGet_ok q
/-! ### {k: v, ..} -/
def cPairs : List (EM W × EM W) → EM (List (Key × PyData))
  | [] => er []
  | (mk, mv) :: r => eb (evD mk) fun k => eb (evD mv) fun v => match keyOf k with
    | some k => eb (cPairs r) fun ps => er ((k, v) :: ps)
    | none => es
def mergeD (kvs more : List (Key × PyData)) : List (Key × PyData) := more.foldl (fun acc kv => putD acc kv.1 kv.2) kvs
theorem RKV.merge : ∀ {ds : List (Key × PyData)} {vs : List (Key × V)} {as : List (Key × PyData)} {us : List (Key × V)}, RKV K F H ds vs → RKV K F H as us → RKV K F H (mergeD as ds) (mergeK us vs)
  | _, _, _, _, .nil, h => h
  | _, _, _, _, .cons (a := p) (b := q) h t, h2 => by
    have e : p.1 = q.1 := h.1
    show RKV K F H (mergeD (putD _ p.1 p.2) _) (mergeK (putK _ q.1 q.2) _)
    rw [e]
    exact RKV.merge t (h2.put h.2)
def cDisp (ms : List (EM W × EM W)) : EM Ob := eb (cPairs ms) fun ps => if ps.length ≤ 15 then er (.dic (mergeD [] ps)) else es
def rPr (K : PySem.W.Frag) : Rel (List (Key × PyData)) (List (V × V)) := fun G _ H ps vs => ∃ kvs, vs = kvs.map (fun kv => (kV kv.1, kv.2)) ∧ RKV K G.F H ps kvs
theorem kV_of {d : PyData} {v : V} {k : Key} (h : RD K F H d v) (e : keyOf d = some k) : v = kV k := key_view h.view e
inductive JPs (CL : CA) (X : Cx) (Wx : WX) : List (Option Expr) → List Expr → List (EM W × EM W) → Prop
  | nil : JPs CL X Wx [] [] []
  | cons {k v : Expr} {ks : List (Option Expr)} {vs : List Expr} {mk mv : EM W} {ms : List (EM W × EM W)} (hk : JE CL X Wx k mk) (hv : JE CL X Wx v mv) (t : JPs CL X Wx ks vs ms) : JPs CL X Wx (some k :: ks) (v :: vs) ((mk, mv) :: ms)
def trsOf (K : PySem.W.Frag) (CL : CA) (Wx : WX) (ms : List (EM W × EM W)) : List (TE × TE) := ms.map fun p => (tOf K CL (rDs K) Wx (evD p.1), tOf K CL (rDs K) Wx (evD p.2))
theorem JPs.pps : ∀ {ks : List (Option Expr)} {vs : List Expr} {ms : List (EM W × EM W)} {pos : Pos}, JPs CL X Wx ks vs ms → PPs X pos ks vs (trsOf X.K CL Wx ms)
  | _, _, _, _, .nil => pps_nil
  | _, _, _, _, .cons hk hv t => pps_cons (jd_of hk) (jd_of hv) t.pps
theorem JPs.len : ∀ {ks : List (Option Expr)} {vs : List Expr} {ms : List (EM W × EM W)}, JPs CL X Wx ks vs ms → ks.length = vs.length ∧ ks.all (·.isSome) = true
  | _, _, _, .nil => ⟨rfl, rfl⟩
  | _, _, _, .cons _ _ t => ⟨congrArg (· + 1) t.len.1, by rw [List.all_cons, t.len.2]; rfl⟩
theorem pairs_ok : ∀ {ms : List (EM W × EM W)} {H : Hp} {Q : List (V × V) → Hp → Prop}, tOf K CL (rPr K) Wx (cPairs ms) σ H Q → tPairs (trsOf K CL Wx ms) σ H Q
  | [], H, Q, q => by
    obtain ⟨G, s, S, q⟩ := q
    exact Post.here (R := rPr K) (a := []) S ⟨[], rfl, .nil⟩ q
  | (mk, mv) :: r, H, Q, q => by
    show tPairs ((_, _) :: trsOf K CL Wx r) σ H Q
    refine (tOf.bind (R := rDs K) q).mono fun x H1 ⟨G1, s1, dk, S1, r1, q⟩ => ?_
    refine ⟨G1, s1, S1, (Post.bind (R := rDs K) q).mono fun y H2 ⟨G2, s2, dv, f2, S2, r2, q⟩ => ?_⟩
    have r1 : RD K G2.F H2 dk x := f2.rd S1 r1
    have r2 : RD K G2.F H2 dv y := r2
    cases ek : keyOf dk with
    | none => simp only [ek] at q; exact q.elim
    | some k =>
      simp only [ek] at q
      refine pairs_ok (ms := r) ⟨G2, s2, S2, (Post.bind (R := rPr K) q).mono fun vs H3 ⟨G3, s3, ps, f3, S3, r3, q⟩ => ?_⟩
      obtain ⟨kvs, rfl, rk⟩ := r3
      have z := kV_of r1 ek
      subst z
      exact Post.here (R := rPr K) (a := (k, dv) :: ps) S3 ⟨(k, y) :: kvs, rfl, .cons ⟨rfl, f3.rd S2 r2⟩ rk⟩ q
end
end MP
/-! Part Z: displays and comprehensions of dicts, f-strings, int of a text, isinstance of several classes, dicts of the module. -/
namespace MP
open PySem PySem.Spec PyProof.Rows L2
section
variable {K : PySem.W.Frag} {CL : CA} {G G1 G' : Gh} {H H1 H' : Hp} {s s1 : S} {σ : L2.St} {n n1 n' : Nat} {α β γ δ : Type} {R : Rel α β} {Wx : WX} {X : Cx} {F : Addr → Prop}
theorem jn_disp {ks : List (Option Expr)} {vs : List Expr} {ms : List (EM W × EM W)} {pos : Pos} (h : JPs CL X Wx ks vs ms) (h0 : ks ≠ []) (h15 : ks.length ≤ 15) : JN CL X Wx (.Dict ks vs pos) (cDisp ms) := pe_imp (pe_disp h.pps h.len.2 h.len.1 h0 h15) fun σ H Q q => by
  intro p hp
  obtain ⟨G, s, S, q⟩ := q
  have j := S.junk (o := .dK []) (n := s.mem.length) hp
  have al : Alone G p := Alone.new S hp
  refine pairs_ok ⟨G, s, j.1, ?_⟩
  unfold cDisp eb rb at q
  cases e : cPairs ms s with
  | stuck => rw [e] at q; exact q.elim
  | raise x s' =>
    rw [e] at q
    exact fun G' H' cls d f' S' r' => q G' H' cls d (j.2.trans f') S' r'
  | ok ps s2 =>
    simp only [e] at q
    intro G2 H2 vs f2 S2 r2
    obtain ⟨kvs, rfl, rk⟩ := r2
    obtain ⟨al2, h2⟩ := al.fut ⟨_, upd_same⟩ f2
    by_cases hl : ps.length ≤ 15
    · rw [if_pos hl] at q
      refine ⟨h2.trans upd_same, kvs, rfl, by rw [rk.length]; exact hl, ?_⟩
      have keep : ∀ a, G2.F a → G2.F a ∧ upd H2 p (.dK (mergeK [] kvs)) a = H2 a := fun a x => ⟨x, upd_ne fun z => al2.1 (z ▸ x)⟩
      exact q G2 _ (.ref p) ((j.2.trans f2).over hp _) (S2.over al2 _) ⟨p, rfl, ⟨_, upd_same, (RKV.merge rk .nil).mono keep⟩, al2.1, al2.2, hp⟩
    · rw [if_neg hl] at q; exact q.elim
/-! ### {k: v for ..} -/
def dcL (own : List Nat) (t : PyData → EM Unit) (c : EM Bool) (ek e : EM W) : List PyData → List (Key × PyData) → EM (List (Key × PyData))
  | [], acc => er acc
  | x :: xs, acc => fun s => match t x s with
    | .ok _ s1 => match c s1 with
      | .ok true s2 => match evD ek s2 with
        | .ok y s3 => match evD e s3 with
          | .ok z s4 => match keyOf y with
            | some k => if acc.length < 1000000 then dcL own t c ek e xs (putD acc k z) ⟨wipeR s4.rho own, s4.mem⟩ else .stuck
            | none => .stuck
          | _ => .stuck
        | _ => .stuck
      | .ok false s2 => dcL own t c ek e xs acc ⟨wipeR s2.rho own, s2.mem⟩
      | _ => .stuck
    | _ => .stuck
def cDc (own : List Nat) (t : PyData → EM Unit) (c : EM Bool) (ek e : EM W) (src : EM (List PyData)) : EM Ob := eb src fun xs s => match dcL own t c ek e xs [] ⟨wipeR s.rho own, s.mem⟩ with
  | .ok ys s' => .ok (.dic ys) ⟨restore s.rho s'.rho own, s'.mem⟩
  | _ => .stuck
theorem dc_imp {vs : List Nat} {src : EM (List PyData)} {g : TG} {t : PyData → EM Unit} {mc : EM Bool} {mk me : EM W} (ht : TgO K CL vs g t) {σ : L2.St} {H : Hp} {Q : VK} (q : tOf K CL (rNew K H) Wx (cDc vs t mc mk me src) σ H Q) :
    tDc (tOf K CL (rIt K) Wx src) g (tOf K CL rBs WF mc) (tOf K CL (rDs K) WF (evD mk)) (tOf K CL (rDs K) WF (evD me)) vs σ H Q := by
  refine (tNew_tail (R := rIt K) q).mono fun J H1 ⟨G, s, G1, s1, xs, S, f, S1, io, q⟩ => ?_
  have io : ItOk K G1.F H1 xs J := io
  intro D hD
  cases e : dcL vs t mc mk me xs [] ⟨wipeR s1.rho vs, s1.mem⟩ with
  | stuck => simp only [e] at q; exact q.elim
  | raise x s' => simp only [e] at q; exact q.elim
  | ok ys s' =>
    simp only [e] at q
    obtain ⟨Gw, Sw, fw⟩ := S1.wipe vs
    refine ⟨fun i m Hc => ∃ G2 s2 acc zs, SR K CL G2 s2 (L2.wipe σ vs) Hc ∧ Fut G1 H1 s1.mem.length G2 Hc s2.mem.length ∧ Alone G2 D ∧ Hc D = some (.dK acc) ∧ RKV K G2.F Hc zs acc ∧ i + m = xs.length ∧ dcL vs t mc mk me (xs.drop i) zs s2 = .ok ys s',
      ⟨xs.length, Gw, ⟨wipeR s1.rho vs, s1.mem⟩, [], [], (Sw.junk (n := 0) hD).1, fw.trans (Sw.junk (n := s1.mem.length) hD).2, Alone.new Sw hD, upd_same, .nil, by omega, e⟩, fun i m Hc hW => ?_⟩
    obtain ⟨G2, s2, acc, zs, S2, f2, al, hDc, ra, em, e2⟩ := hW
    have hF := f2.mono S1
    by_cases hlt : i < xs.length
    · refine .inr ⟨io.go G2.F Hc hF i hlt, fun Hn => ∃ m', m' < m ∧ ∃ G2 s2 acc zs, SR K CL G2 s2 (L2.wipe σ vs) Hn ∧ Fut G1 H1 s1.mem.length G2 Hn s2.mem.length ∧ Alone G2 D ∧ Hn D = some (.dK acc) ∧ RKV K G2.F Hn zs acc ∧ (i + 1) + m' = xs.length ∧ dcL vs t mc mk me (xs.drop (i + 1)) zs s2 = .ok ys s', fun H' h => h, fun x H3 y => ?_⟩
      obtain ⟨d, hd⟩ : ∃ d, xs[i]? = some d := ⟨_, List.getElem?_eq_getElem hlt⟩
      obtain ⟨F2, gr, rd⟩ := io.yld G2.F Hc hF S2.liveF i x H3 d y hd
      obtain ⟨S3, f3⟩ := S2.grow gr
      have ed : xs.drop i = d :: xs.drop (i + 1) := by
        rw [List.drop_eq_getElem_cons hlt]
        rw [List.getElem?_eq_getElem hlt] at hd
        cases hd
        rfl
      rw [ed] at e2
      unfold dcL at e2
      cases et : t d s2 with
      | stuck => simp only [et] at e2; cases e2
      | raise x s' => simp only [et] at e2; cases e2
      | ok u st =>
        simp only [et] at e2
        refine ht _ s2 (L2.wipe σ vs) H3 d x _ st S3 rd et fun G4 σ4 S4 w4 f4 m4 => ⟨by rw [w4, wipe_wipe], G4, st, S4, ?_⟩
        have f14 : Fut G1 H1 s1.mem.length G4 H3 st.mem.length := by
          rw [m4]
          exact f2.trans ((f3 (n := s2.mem.length)).trans (f4 (n := s2.mem.length)))
        have f24 : Fut G2 Hc s2.mem.length G4 H3 s2.mem.length := (f3 (n := s2.mem.length)).trans (f4 (n := s2.mem.length))
        cases ec : mc st with
        | stuck => simp only [ec] at e2; cases e2
        | raise x s' => simp only [ec] at e2; cases e2
        | ok b sc =>
          intro G5 H5 b' f5 S5 rb
          have rb : b = b' := rb
          subst rb
          have f15 := f14.trans f5
          have f25 : Fut G2 Hc s2.mem.length G5 H5 sc.mem.length := by
            have z := f24.trans (by rw [← m4]; exact f5)
            exact z
          have wσ : L2.wipe σ4 vs = L2.wipe σ vs := by rw [w4, wipe_wipe]
          cases b with
          | false =>
            simp only [ec] at e2
            rw [if_neg Bool.false_ne_true]
            obtain ⟨G6, S6, f6⟩ := S5.wipe vs
            rw [wσ] at S6
            have f26 := f25.trans (f6 (n := sc.mem.length))
            obtain ⟨al6, h6⟩ := al.fut ⟨_, hDc⟩ f26
            exact ⟨m - 1, by omega, G6, ⟨wipeR sc.rho vs, sc.mem⟩, acc, zs, S6, f15.trans f6, al6, h6.trans hDc, ra.mono (f26.mono S2), by omega, e2⟩
          | true =>
            simp only [ec] at e2
            rw [if_pos rfl]
            refine ⟨G5, sc, S5, ?_⟩
            cases ek : evD mk sc with
            | stuck => simp only [ek] at e2; cases e2
            | raise x s' => simp only [ek] at e2; cases e2
            | ok kd sk =>
              simp only [ek] at e2
              intro G7 H7 kv f7 S7 rk
              have rk : RD K G7.F H7 kd kv := rk
              have f17 := f15.trans f7
              have f27 := f25.trans f7
              refine ⟨G7, sk, S7, ?_⟩
              cases ee : evD me sk with
              | stuck => simp only [ee] at e2; cases e2
              | raise x s' => simp only [ee] at e2; cases e2
              | ok yd se =>
                simp only [ee] at e2
                intro G6 H6 yv f6 S6 ry
                have ry : RD K G6.F H6 yd yv := ry
                have f26 := f27.trans f6
                have rk : RD K G6.F H6 kd kv := f6.rd S7 rk
                cases eq : keyOf kd with
                | none => simp only [eq] at e2; cases e2
                | some k =>
                  simp only [eq] at e2
                  by_cases hz : zs.length < 1000000
                  · rw [if_pos hz] at e2
                    obtain ⟨al6, h6⟩ := al.fut ⟨_, hDc⟩ f26
                    refine ⟨acc, k, kV_of rk eq, h6.trans hDc, small_len (by rw [ra.length]; exact hz), m - 1, by omega, ?_⟩
                    have S7' := S6.over al6 (.dK (putK acc k yv))
                    obtain ⟨G8, S8, f8⟩ := S7'.wipe vs
                    rw [wσ] at S8
                    have F7 : Fut G1 H1 s1.mem.length G6 (upd H6 D (.dK (putK acc k yv))) se.mem.length := (f17.trans f6).over hD _
                    have keep : ∀ a, G6.F a → G6.F a ∧ upd H6 D (.dK (putK acc k yv)) a = H6 a := fun a x => ⟨x, upd_ne (fun z => al6.1 (z ▸ x))⟩
                    obtain ⟨al8, h8⟩ := al6.fut ⟨_, upd_same⟩ (f8 (n := se.mem.length))
                    have keep8 := (f8 (n := se.mem.length)).mono S7'
                    exact ⟨G8, ⟨wipeR se.rho vs, se.mem⟩, putK acc k yv, putD zs k yd, S8, F7.trans f8, al8, upd_same, (((ra.mono (f26.mono S2)).put ry).mono keep).mono keep8, by omega, e2⟩
                  · rw [if_neg hz] at e2; cases e2
    · have ei : i = xs.length := by omega
      subst ei
      refine .inl ⟨io.stop G2.F Hc hF, ?_⟩
      rw [List.drop_length] at e2
      cases e2
      have SS := S1.restore f2 (S2.unwipe) vs
      refine q G2 Hc (.ref D) (f.trans f2) SS ⟨D, rfl, ⟨acc, hDc, ra⟩, al.1, al.2, f.back hD⟩
/-- name = {..} on one line, the name a local -/
theorem ps_setDc {i : Nat} {y : Str} {py : Pos} {kx vx tg iter : Expr} {ifs : List Expr} {scope : Scope} {own : List (Str × Nat)} {pos spos : Pos} {wi : TI} {g : TG} {tt : TT} {tk tv : TE} (hc : X.calm = true) (hN : X.N.Nodup) (hy : X.N[i]? = some y) (hyl : X.env.scope.names.lookup y = some .local)
    (hsw : swapsWith (.DictComp kx vx [⟨tg, iter, ifs, 0⟩] scope pos) (some (.Name y py)) spos.line X.env = pure true) (hi : PI X tg iter wi) (ok : BlkOk X.N X.env.scope scope own)
    (hg : ∀ (s : Shared) (H : Hp) (C : Addr) (cl : List (Str × Addr)) (fp : List Addr), PG (X.blk s H scope (compEnvC scope cl C X.env) fp) tg g) (ht : ∀ (s : Shared) (H : Hp) (C : Addr) (cl : List (Str × Addr)) (fp : List Addr), PTs (X.blk s H scope (compEnvC scope cl C X.env) fp) ifs tt)
    (hk : ∀ (s : Shared) (H : Hp) (C : Addr) (cl : List (Str × Addr)) (fp : List Addr), PE (X.blk s H scope (compEnvC scope cl C X.env) fp) kx tk)
    (he : ∀ (s : Shared) (H : Hp) (C : Addr) (cl : List (Str × Addr)) (fp : List Addr), PE (X.blk s H scope (compEnvC scope cl C X.env) fp) vx tv) (hs : ∀ x, foldedSetIterable iter X.env x = pure x) :
    PS X (.Assign [.Name y py] (.DictComp kx vx [⟨tg, iter, ifs, 0⟩] scope pos) spos) (tAsg (tDc wi g tt tk tv (own.map (·.2))) (gName i)) := by
  refine ⟨fun pins s σ H D I h => ?_⟩
  rw [exec_Assign_Name_used _ _ _ _ hsw]
  refine wpAny_bind (wpAny_standAt (wpAny_bind ?_))
  show wpAny _ X.A (do let _ ← comprehension (.DictComp kx vx [⟨tg, iter, ifs, 0⟩] scope pos) scope X.env (firstIterPos [⟨tg, iter, ifs, 0⟩] pos) newDict false (eval iter X.env) (some (assign (.Name y py) X.env))) _ _ s
  have h : tDc wi g tt tk tv (own.map (·.2)) σ H (fun x H1 => gName i x σ H1 D.nx) := h
  refine wpAny_bind (thn (dc_core (Qf := fun _ s' => SP X pins D .next s') hc hN I hi ok hg ht hk he hs h fun L C s' m H' I' q hn f => ?_) fun _ s' hq => wpAny_pure (wpAny_pure hq))
  show wpAny _ _ (assign (.Name y py) X.env (.ref L)) _ _ _
  refine wpAny_assign_Name (store_ok2 (v := V.ref L) I' hN hy (.inl hyl) rfl (fun s2 I2 ⟨a, sb, ha⟩ => ?_) (.inr hyl))
  obtain ⟨f0, f1, f2, f3, f4, f5⟩ := f
  have haC : C ≠ a := by
    rcases ha with z | z
    · rw [z]; exact f1
    · exact fun e => f4 y a z e.symm
  refine ⟨m, hn.sameBut sb haC, fun h3 sb3 => ?_⟩
  exact ⟨_, H', I2.turned (t' := s2.toks) (fun b o hb e => (sb3.2 b hb).trans e) f0 f1 f3 f4 f5, q⟩
/-! ### f-strings -/
def fFmt : PyData → Option PyData
  | .str y => if y.length ≤ 1000000 then some (.str y) else none
  | .int i => if i.natAbs.log2 < 1920 then some (.str (toString i : String)) else none
  | _ => none
theorem ok_fmt : Op1 K (fun x H1 Q => (∃ y : Str, x = .str y ∧ y.length ≤ sizeLine ∧ Q (.str y) H1) ∨ ∃ i : Int, x = .int i ∧ i.natAbs.log2 < 1920 ∧ Q (.str (toString i : String)) H1) fFmt := by
  intro F H dx vx z Q hl v1 e q
  cases v1 with
  | str y =>
    have e : (if y.length ≤ 1000000 then some (PyData.str y) else none) = some z := e
    by_cases h : y.length ≤ 1000000
    · rw [if_pos h] at e
      cases e
      exact .inl ⟨y, rfl, Nat.le_trans h million, q _ _ _ .refl (.str _)⟩
    · rw [if_neg h] at e; cases e
  | int i =>
    have e : (if i.natAbs.log2 < 1920 then some (PyData.str (toString i : String)) else none) = some z := e
    by_cases h : i.natAbs.log2 < 1920
    · rw [if_pos h] at e
      cases e
      exact .inr ⟨i, rfl, h, q _ _ _ .refl (.str _)⟩
    · rw [if_neg h] at e; cases e
  | _ => cases e
theorem je_fmt {e : Expr} {o : Opd} {pos : Pos} (h : JO CL X Wx e o) : JE CL X Wx (.FormattedValue e (-1) none pos) (cP1 fFmt o) := pe_imp (pe_fmt h) fun σ H Q q => cP1_ok ok_fmt q
def cJs : List (EM W) → Str → EM W
  | [], acc => er (.d (.str acc))
  | m :: r, acc => eb (evD m) fun d => match d with
    | .str y => if (acc ++ y).length ≤ 1000000 then cJs r (acc ++ y) else es
    | _ => es
inductive JJ (CL : CA) (X : Cx) (Wx : WX) : List Expr → List (EM W) → Prop
  | nil : JJ CL X Wx [] []
  | cons {e : Expr} {es : List Expr} {m : EM W} {ms : List (EM W)} (h : JE CL X Wx e m) (t : JJ CL X Wx es ms) : JJ CL X Wx (e :: es) (m :: ms)
theorem JJ.pj : ∀ {es : List Expr} {ms : List (EM W)}, JJ CL X Wx es ms → PJ X es (ms.map fun m => tOf X.K CL (rDs X.K) Wx (evD m))
  | _, _, .nil => .nil
  | _, _, .cons h t => .cons (jd_of h) t.pj
theorem js_ok : ∀ {ms : List (EM W)} {acc : Str} {H : Hp} {Q : VK}, tOf K CL (rWs K) Wx (cJs ms acc) σ H Q → tJs (ms.map fun m => tOf K CL (rDs K) Wx (evD m)) acc σ H fun out H1 => Q (.str out) H1
  | [], acc, H, Q, q => by
    obtain ⟨G, s, S, q⟩ := q
    exact Post.here (R := rWs K) (a := W.d (.str acc)) S (RD.str acc) q
  | m :: r, acc, H, Q, q => by
    refine (tOf.bind (R := rDs K) q).mono fun x H1 ⟨G1, s1, d, S1, r1, q⟩ => ?_
    have r1 : RD K G1.F H1 d x := r1
    cases r1 with
    | str y =>
      dsimp only at q
      by_cases h : (acc ++ y).length ≤ 1000000
      · rw [if_pos h] at q
        exact ⟨y, rfl, Nat.le_trans h million, js_ok ⟨G1, s1, S1, q⟩⟩
      · rw [if_neg h] at q; exact q.elim
    | none => exact q.elim
    | bool _ => exact q.elim
    | int _ => exact q.elim
    | list _ _ => exact q.elim
    | tuple _ _ => exact q.elim
    | dict _ _ => exact q.elim
theorem je_js {e1 e2 : Expr} {es' : List Expr} {ms : List (EM W)} {pos : Pos} (h : JJ CL X Wx (e1 :: e2 :: es') ms) : JE CL X Wx (.JoinedStr (e1 :: e2 :: es') pos) (cJs ms Str.empty) := pe_imp (pe_joined h.pj) fun σ H Q q => js_ok q
/-! ### int of a text -/
def fIntU : PyData → Option PyData
  | .str a => match PySem.intText? a with
    | some n => if a.length ≤ 640 then some (.int n) else none
    | none => none
  | d => fInt d
def rIntU : List V → Hp → VK → Prop := fun xs H Q => ((∃ i, xs = [.int i] ∧ Q (.int i) H) ∨ ∃ k, xs = [.bl k] ∧ Q (.int (if k then 1 else 0)) H) ∨ ∃ a n, xs = [.str a] ∧ PySem.intText? a = some n ∧ a.length ≤ 640 ∧ Q (.int n) H
theorem call_intU : CallR X (.type "int") rIntU := CallR.or call_int1 call_int_str
theorem ok_intU : OpN K rIntU (f1 fIntU) := ok_f1 fun F H dx vx z Q hl v1 e q => by
  cases v1 with
  | str a =>
    unfold fIntU at e
    dsimp only at e
    cases e1 : PySem.intText? a with
    | none => rw [e1] at e; cases e
    | some n =>
      rw [e1] at e
      dsimp only at e
      by_cases h : a.length ≤ 640
      · rw [if_pos h] at e
        cases e
        exact .inr ⟨a, n, rfl, e1, h, q _ _ _ .refl (.int _)⟩
      · rw [if_neg h] at e; cases e
  | int i => cases e; exact .inl (.inl ⟨i, rfl, q _ _ _ .refl (.int _)⟩)
  | bool k => cases e; exact .inl (.inr ⟨k, rfl, by cases k <;> exact q _ _ _ .refl (.int _)⟩)
  | _ => cases e
/-! ### isinstance(e, (A, B)) -/
theorem view_tyX {d : PyData} {v : V} (x : ∀ a u, H a = some u → H' a = some u) (h : View K F H d v) : TyX K H' v (.type (tyN d)) := by
  cases h with
  | none => exact .base .non
  | bool b => exact .base (.bl b)
  | int b => exact .base (.int b)
  | str b => exact .base (.str b)
  | list h1 h2 =>
    rcases h1 with (h | ⟨o, h⟩) | ⟨o, its, n, h1, h2, h3⟩
    · exact .base (.lst (x _ _ h))
    · exact .base (.frz (x _ _ h))
    · exact .kList h1 h2
  | tuple h1 h2 =>
    rcases h1 with ⟨f, h | ⟨o, h⟩⟩ | ⟨o, its, n, h1, h2, h3⟩
    · exact .base (.tup (x _ _ h))
    · exact .fTuple (x _ _ h)
    · exact .kTuple h1 h2
  | dict h1 h2 => exact .base (.dK (x _ _ h1))
theorem kit_any {d : PyData} : ∀ Ts : List Ty, PySem.W.kitAny K (.type (tyN d)) (Ts.map fun (T : Ty) => .type T.name) = some (Ts.any fun T => isT T d)
  | [] => rfl
  | T :: Ts => by
    show (match PySem.W.kitOne K (.type (tyN d)) (.type T.name) with
      | some true => some true
      | some false => PySem.W.kitAny K (.type (tyN d)) (Ts.map fun (T : Ty) => .type T.name)
      | none => none) = _
    rw [kit_ty (kit_all T d), kit_any Ts, List.any_cons]
    cases isT T d <;> rfl
def fIsiT (Ts : List Ty) (d : PyData) : Option PyData := some (.bool (Ts.any fun T => isT T d))
/-- names of built-in classes -/
inductive JTy (X : Cx) : List Expr → List Ty → Prop
  | nil : JTy X [] []
  | cons {tn : Str} {p2 : Pos} {es : List Expr} {T : Ty} {Ts : List Ty} (tg : Gl X tn) (tm : X.mg tn = none) (tv : bootBuiltins tn = some (.type T.name)) (tnn : tn ≠ "__name__") (tdb : (tn == ("__debug__" : Str)) = false) (t : JTy X es Ts) : JTy X (.Name tn p2 :: es) (T :: Ts)
theorem JTy.pa : ∀ {es : List Expr} {Ts : List Ty}, JTy X es Ts → PA X es (fun σ H Q => Q (Ts.map fun (T : Ty) => V.ty T.name) H)
  | _, _, .nil => pa_nil
  | _, _, .cons (T := T) tg tm tv tnn tdb t => pa_cons (pe_bltn (v := V.ty T.name) tg tm tv rfl tnn tdb) t.pa rfl
theorem JTy.len : ∀ {es : List Expr} {Ts : List Ty}, JTy X es Ts → es.length = Ts.length
  | _, _, .nil => rfl
  | _, _, .cons _ _ _ _ _ t => congrArg (· + 1) t.len
theorem paired_ty : ∀ Ts : List Ty, Paired ClsV (Ts.map fun (T : Ty) => V.ty T.name) (Ts.map fun (T : Ty) => .type T.name)
  | [] => .nil
  | T :: Ts => .cons (.ty _) (paired_ty Ts)
theorem je_isiT {x : Str} {p p2 pos : Pos} {kk : Nat} {e : Expr} {o : Opd} {as : List Expr} {Ts : List Ty} (hg : Gl X x) (hm : X.mg x = none) (hv : bootBuiltins x = some (.builtin "isinstance")) (hn : x ≠ "__name__") (hdb : (x == ("__debug__" : Str)) = false)
    (ht : JTy X as Ts) (hl : Ts.length ≤ 1000000) (h : JO CL X Wx e o) (hs : starEach (e :: [.Tuple as kk p2]) X.env = (false, eval e X.env) :: starEach [.Tuple as kk p2] X.env) :
    JE CL X Wx (.Call (.Name x p) (e :: [.Tuple as kk p2]) [] pos) (cP1 (fIsiT Ts) o) :=
  pe_imp (pe_callB call_isiT hg hm hv (pa_cons h (pa_cons (pe_tup ht.pa) pa_nil) hs) hn hdb hs) fun σ H Q q => by
    refine (cP1_ok (r := fun v H Q => ∀ p, H p = none → rIsiT X.K [v, .ref p] (upd H p (.tup (Ts.map fun (T : Ty) => V.ty T.name))) Q) ?_ q).mono fun v H1 q => ⟨by rw [List.length_map]; exact Nat.le_trans hl million, fun p hp => q p hp⟩
    intro F H dx vx z Q hl v1 e q p hp
    cases e
    exact ⟨vx, p, _, _, _, _, rfl, upd_same, paired_ty Ts, view_tyX (upd_ext hp) v1, kit_any Ts, q _ _ _ (.junk hp) (.bool _)⟩
/-! ### dicts of the module -/
structure KdOk (K : PySem.W.Frag) (w : World) (mg : Str → Option Value) (x : Str) (l : List (Str × PyData)) : Prop where
  is : ∃ a es n, mg x = some (.ref a) ∧ KDict K w a es n ∧ (∀ z d, l.lookup z = some d → ∃ u v, PySem.W.nsIn K a z = some (some u) ∧ RelV v u ∧ ∀ F H, RD K F H d v) ∧ ∀ z, l.lookup z = none → PySem.W.nsIn K a z = some none
def fKd (l : List (Str × PyData)) : PyData → Option PyData
  | .str z => l.lookup z
  | _ => none
def fKdIn (neg : Bool) (l : List (Str × PyData)) : PyData → Option PyData
  | .str z => some (.bool ((l.lookup z).isSome != neg))
  | _ => none
theorem je_kd {x : Str} {l : List (Str × PyData)} {b : Expr} {ob : Opd} {p pos : Pos} (D : KdOk X.K X.w X.mg x l) (hg : Gl X x) (hdb : (x == ("__debug__" : Str)) = false) (hs : PlainIx b) (hb : JO CL X Wx b ob) : JE CL X Wx (.Subscript (.Name x p) b pos) (cP1 (fKd l) ob) := by
  obtain ⟨a, es, n, hm, kd, k1, k2⟩ := D.is
  refine pe_imp (pe_ix ix_kdict (pe_glob (v := V.ref a) hg hm rfl hdb) hb hs) fun σ H Q q => ?_
  refine (cP1_ok (r := fun v H Q => L2.rIxD X.K X.w (.ref a) v H Q) ?_ q).mono fun v H1 q => q
  intro F H dx vx z Q hl v1 e q
  cases v1 with
  | str y =>
    obtain ⟨u, v, e1, rv, rd⟩ := k1 y z e
    exact ⟨a, y, v, rfl, rfl, ⟨es, n, u, kd.at_, kd.lit, e1, rv⟩, q _ _ _ .refl (rd _ _)⟩
  | _ => cases e
theorem kd_is {K : PySem.W.Frag} {a : Addr} {l : List (Str × PyData)} (k1 : ∀ z d, l.lookup z = some d → ∃ u v, PySem.W.nsIn K a z = some (some u) ∧ RelV v u ∧ ∀ F H, RD K F H d v) (k2 : ∀ z, l.lookup z = none → PySem.W.nsIn K a z = some none) (z : Str) : ∃ r, PySem.W.nsIn K a z = some r ∧ r.isSome = (l.lookup z).isSome := by
  cases e : l.lookup z with
  | none => exact ⟨none, k2 z e, rfl⟩
  | some d =>
    obtain ⟨u, v, e1, _⟩ := k1 z d e
    exact ⟨some u, e1, rfl⟩
theorem kd_in {x : Str} {l : List (Str × PyData)} (D : KdOk X.K X.w X.mg x l) : ∃ a r, X.mg x = some (.ref a) ∧ OpR X (compareOp .In) r ∧ Op1 X.K (fun v H Q => r v (.ref a) H Q) (fKdIn false l) := by
  obtain ⟨a, es, n, hm, kd, k1, k2⟩ := D.is
  refine ⟨a, _, hm, op_in_kd kd, ?_⟩
  intro F H dx vx z Q hl v1 e q
  cases v1 with
  | str y =>
    cases e
    obtain ⟨r, e1, e2⟩ := kd_is k1 k2 y
    have b0 : ∀ b : Bool, (b != false) = b := fun b => by cases b <;> rfl
    refine ⟨y, r, rfl, rfl, e1, ?_⟩
    rw [e2]
    rw [b0] at q
    exact q _ _ _ .refl (.bool _)
  | _ => cases e
theorem kd_ni {x : Str} {l : List (Str × PyData)} (D : KdOk X.K X.w X.mg x l) : ∃ a r, X.mg x = some (.ref a) ∧ OpR X (compareOp .NotIn) r ∧ Op1 X.K (fun v H Q => r v (.ref a) H Q) (fKdIn true l) := by
  obtain ⟨a, es, n, hm, kd, k1, k2⟩ := D.is
  refine ⟨a, _, hm, op_notIn_kd kd, ?_⟩
  intro F H dx vx z Q hl v1 e q
  cases v1 with
  | str y =>
    cases e
    obtain ⟨r, e1, e2⟩ := kd_is k1 k2 y
    have b0 : ∀ b : Bool, (b != true) = !b := fun b => by cases b <;> rfl
    refine ⟨y, r, rfl, rfl, e1, ?_⟩
    rw [e2]
    rw [b0] at q
    exact q _ _ _ .refl (.bool _)
  | _ => cases e
theorem je_kdc {x : Str} {a : Addr} {op : CmpOp} {r : R2} {f : PyData → Option PyData} {e : Expr} {o : Opd} {p pos : Pos} (hm : X.mg x = some (.ref a)) (hr : OpR X (compareOp op) r) (ho : Op1 X.K (fun v H Q => r v (.ref a) H Q) f) (hg : Gl X x) (hdb : (x == ("__debug__" : Str)) = false)
    (h : JO CL X Wx e o) : JE CL X Wx (.Compare e [op] [.Name x p] pos) (cP1 f o) ∧ JT CL X Wx (.Compare e [op] [.Name x p] pos) (eb (cP1 f o) toB) :=
  ⟨pe_imp (pe_cmpR hr h (pe_glob (v := V.ref a) hg hm rfl hdb) rfl) fun σ H Q q => (cP1_ok ho q).mono fun v H1 q => q,
    pt_imp (pt_cmpR hr h (pe_glob (v := V.ref a) hg hm rfl hdb) rfl) fun σ H Q q => (cP1_ok ho (tTest_ok q)).mono fun v H1 q => q⟩
/-! ### d.get(k) -/
def cGet1 (a b : Opd) : EM W := eb (opd a) fun ta s => if isDt s ta = true then eb (opd b) (fun tb s => match resolve s ta with
    | some x => match resolve s tb with
      | some y => match fGetD x y .none with
        | some w => .ok (.d w) s
        | none => .stuck
      | none => .stuck
    | none => .stuck) s else .stuck
theorem cGet1_ok {a b : Opd} {Q : VK} (q : tOf K CL (rWs K) Wx (cGet1 a b) σ H Q) :
    tDGet1 (tOf K CL (rTok K) Wx (opd a)) (tOf K CL (rTok K) Wx (opd b)) σ H Q := by
  refine (tOf.bind (R := rTok K) q).mono fun v H1 ⟨G1, s1, ta, S1, r1, q⟩ => ?_
  by_cases hd : isDt s1 ta = true
  · rw [if_pos hd] at q
    obtain ⟨p, kvs0, rfl, hp⟩ := isDt_ok S1 r1 hd
    refine ⟨p, rfl, .inl ⟨kvs0, .inl hp⟩, G1, s1, S1, ?_⟩
    refine (Post.bind (R := rTok K) q).mono fun y H2 ⟨G3, s3, tb, f3, S3, r2, q⟩ => ?_
    have r1 := rTok_later S1 f3 r1
    cases e1 : resolve s3 ta with
    | none => simp only [e1] at q; exact q.elim
    | some x =>
      cases e2 : resolve s3 tb with
      | none => simp only [e1, e2] at q; exact q.elim
      | some yd =>
        cases e3 : fGetD x yd .none with
        | none => simp only [e1, e2, e3] at q; exact q.elim
        | some w =>
          simp only [e1, e2, e3] at q
          have v1 := resolve_view S3 r1 e1
          have v2 := resolve_view S3 r2 e2
          cases v1 with
          | @dict a' kvs ds h1 h2 =>
            have e3 : (match keyOf yd with
              | some k => some ((dLook ds k).getD .none)
              | none => none) = some w := e3
            cases e4 : keyOf yd with
            | none => rw [e4] at e3; cases e3
            | some k =>
              rw [e4] at e3
              cases e3
              rw [key_view v2 e4]
              refine ⟨_, DGet.k (k := k) h1, ?_⟩
              cases e5 : dLook ds k with
              | none =>
                rw [rdkv_miss h2 e5]
                rw [e5] at q
                exact Post.here (R := rWs K) (a := W.d .none) S3 RD.none q
              | some d5 =>
                obtain ⟨v5, k1, k2⟩ := rdkv_look h2 e5
                rw [k1]
                rw [e5] at q
                exact Post.here (R := rWs K) (a := W.d d5) S3 k2 q
          | _ => cases e3
  · rw [if_neg hd] at q; exact q.elim
theorem je_get1 {o e : Expr} {a b : Opd} {apos cpos : Pos} (hu : X.A.units + 1 < cLine) (ho : JO CL X Wx o a) (he : JO CL X Wx e b) (h1 : M1 X o "get" apos e cpos) : JE CL X Wx (.Call (.Attribute o "get" apos) [e] [] cpos) (cGet1 a b) :=
  pe_imp (pe_dget1 hu ho he h1) fun _ _ _ q => cGet1_ok q
end
end MP
/-! Part P: the evaluator of expressions over the syntax, and its soundness. -/
namespace MP
open PySem PySem.Spec PyProof.Rows L2
def evConst : Const → R3
  | .int i => ofV (er (.d (.int i)))
  | .str x => ofV (er (.d (.str x)))
  | .bool b => ofV (er (.d (.bool b)))
  | .none => ofV (er (.d .none))
  | _ => dead
/-- comparisons, membership among them -/
def cmpG : CmpOp → Option (PyData → PyData → Option PyData)
  | .In => some (fInK false)
  | .NotIn => some (fInK true)
  | op => cmpF op
theorem cmpG_ok {X : Cx} (hu : X.A.units + 128 < cLine) {op : CmpOp} {f : PyData → PyData → Option PyData} (h : cmpG op = some f) : ∃ r, OpR X (compareOp op) r ∧ Op2 X.K r f := by
  cases op with
  | In => cases h; exact ⟨_, op_inK (by omega), ok_inK⟩
  | NotIn => cases h; exact ⟨_, op_niK (by omega), ok_niK⟩
  | _ => exact cmpF_ok (by omega) h
def evBoolV : BoolOp → List R3 → EM W
  | _, [] => es
  | _, [r] => r.v
  | .And, r :: rs => cAndV r.v (evBoolV .And rs)
  | .Or, r :: rs => cOrV r.v (evBoolV .Or rs)
def evBoolT : BoolOp → List R3 → EM Bool
  | _, [] => es
  | _, [r] => r.t
  | .And, r :: rs => cAnd r.t (evBoolT .And rs)
  | .Or, r :: rs => cOr r.t (evBoolT .Or rs)
def evUn (op : UnaryOp) (r : R3) : R3 := match op with
  | .USub => ofV (cP1 fNeg r.o)
  | .Not => ⟨cNotV r.v, cNot r.t, none, none⟩
  | _ => dead
/-- a dict of the module by its name -/
def evKd (g : GE) (c : Cxt) : Expr → Option (List (Str × PyData))
  | .Name x _ => if isGl c x = true then g.kds.lookup x else none
  | _ => none
def kdCmp (op : CmpOp) (l : List (Str × PyData)) : Option (PyData → Option PyData) := match op with
  | .In => some (fKdIn false l)
  | .NotIn => some (fKdIn true l)
  | _ => none
def evCmp (g : GE) (c : Cxt) (ops : List CmpOp) (bs : List Expr) (a : R3) (rs : List R3) : R3 := match ops, bs, rs with
  | [op], [b], [r] => match evKd g c b with
    | some l => (match kdCmp op l with
      | some f => ⟨cP1 f a.o, eb (cP1 f a.o) toB, none, none⟩
      | none => dead)
    | none => if noSet b = true then match cmpG op with
      | some f => ⟨cP2 f a.o r.o, eb (cP2 f a.o r.o) toB, none, none⟩
      | none => dead
    else dead
  | [op, op'], [b, b'], [r, r'] => if noSet b' = true then match cmpG op, cmpG op' with
      | some f, some f' => ⟨cCh f f' a.o r.o r'.o, eb (cCh f f' a.o r.o r'.o) toB, none, none⟩
      | _, _ => dead
    else dead
  | _, _, _ => dead
def boxArg (b : Bool) (r : R3) : EM W := if b = true then match r.n with
    | some m => cBoxN m
    | none => match r.sl with
      | some i => cBoxV i
      | none => r.v
  else r.v
def boxArgs : List Bool → List R3 → List (EM W)
  | b :: bs, r :: rs => boxArg b r :: boxArgs bs rs
  | [], r :: rs => r.v :: boxArgs [] rs
  | _, [] => []
def sAppend : Str := ⟨#[97, 112, 112, 101, 110, 100]⟩
def sPop : Str := ⟨#[112, 111, 112]⟩
theorem sAppend_eq : sAppend = ("append" : Str) := by kernel_rfl
theorem sPop_eq : sPop = ("pop" : Str) := by kernel_rfl
theorem bStr : bootBuiltins sNStr = some (.type "str") := by kernel_rfl
theorem bMin : bootBuiltins sNMin = some (.builtin "min") := by kernel_rfl
theorem bMax : bootBuiltins sNMax = some (.builtin "max") := by kernel_rfl
def tysOf (g : GE) (c : Cxt) : List Expr → Option (List Ty)
  | [] => some []
  | .Name tn _ :: r => if isGl c tn && g.blt.contains tn then match tyOf tn with
      | some T => (tysOf g c r).map (T :: ·)
      | none => none
    else none
  | _ :: _ => none
/-- isinstance(e, T) -/
def evIsi (g : GE) (c : Cxt) (args : List Expr) (rs : List R3) : R3 := match args, rs with
  | [e, .Name tn _], [r, _] => if noStar e = true then if isGl c tn = true then
      if g.blt.contains tn = true then match tyOf tn with
        | some T => ofV (cP1 (fIsi T) r.o)
        | none => hotI e tn r
      else hotI e tn r
    else dead else dead
  | [e, .Tuple as _ _], [r, _] => if noStar e = true then match tysOf g c as with
      | some Ts => if Ts.length ≤ 1000000 then ofV (cP1 (fIsiT Ts) r.o) else dead
      | none => dead
    else dead
  | _, _ => dead
where hotI (e : Expr) (tn : Str) (r : R3) : R3 := if c.hot = true then if g.excn.contains tn = true then match r.sl with
    | some i => ofV (cIsE g.tab i tn)
    | none => dead
  else dead else dead
/-- a built-in function -/
def evBlt (g : GE) (c : Cxt) (f : Str) (args : List Expr) (rs : List R3) : R3 :=
  if args.all noStar = true then
    if args.isEmpty = true then dead
    else if f = sNLen then ofV (cPN (f1 fLen) (rs.map R3.o))
    else if f = sNAbs then ofV (cPN (f1 fAbs) (rs.map R3.o))
    else if f = sNInt then ofV (cPN (f1 fIntU) (rs.map R3.o))
    else if f = sNTuple then ofV (cPN (f1 fTupleOf) (rs.map R3.o))
    else if f = sNAll then if c.hot = true then dead else ofV (cPN (f1 fAll) (rs.map R3.o))
    else if f = sNAny then if c.hot = true then dead else ofV (cPN (f1 fAny) (rs.map R3.o))
    else if f = sNList then match rs with
      | [r] => ofN (cNewL r.o)
      | _ => dead
    else if f = sNIsinstance then evIsi g c args rs
    else if f = sNStr then ofV (cPN (f1 fStr) (rs.map R3.o))
    else if f = sNMin then if c.hot = true then dead else ofV (cPN (f2 fMin) (rs.map R3.o))
    else if f = sNMax then if c.hot = true then dead else ofV (cPN (f2 fMax) (rs.map R3.o))
    else dead
  else dead
def kwNames : List (Option Str × R3) → Option (List Str)
  | [] => some []
  | (some n, _) :: r => (kwNames r).map (n :: ·)
  | (none, _) :: _ => none
def evUser (c : Cxt) (call : Call) (f : Str) (F : FI) (args : List Expr) (rs : List R3) (ks : List (Option Str × R3)) : R3 :=
  if c.hot = true then dead else match args with
  | [] => match ks with
    | [] => if F.ps.isEmpty = true then ofV (cCall call f []) else dead
    | ks => match kwNames ks with
      | some ns => if F.kws.contains ns = true then if (kwOrd ns F.ps ns).length = F.ps.length then ofV (cCallK call f ns F.ps (ks.map fun k => k.2.v)) else dead else dead
      | none => dead
  | args => match ks with
    | [] => if args.all noStar = true then if rs.length = F.ps.length then ofV (cCall call f (boxArgs F.bx rs)) else dead else dead
    | _ => dead
def noCall : Expr → Bool
  | .Call _ _ _ _ => false
  | _ => true
theorem noCall_ok {o : Expr} {name : Str} {env : Env} (h : noCall o = true) : attributeBase o name env (eval o env) = eval o env := by
  cases o <;> first | rfl | cases h
theorem few_ok {cp : Pos} {env : Env} : ∀ {as : List Expr}, as.all noStar = true → (backTo cp (starEach as env)).all (fun x => !x.1) = true
  | [], _ => rfl
  | e :: r, h => by
    rw [List.all_cons, Bool.and_eq_true] at h
    rw [noStar_ok h.1]
    show (true && _) = true
    rw [Bool.true_and]
    exact few_ok (cp := cp) h.2
def sJoin : Str := ⟨#[106, 111, 105, 110]⟩
def sSplit : Str := ⟨#[115, 112, 108, 105, 116]⟩
def sStarts : Str := ⟨#[115, 116, 97, 114, 116, 115, 119, 105, 116, 104]⟩
theorem sJoin_eq : sJoin = ("join" : Str) := by kernel_rfl
theorem sSplit_eq : sSplit = ("split" : Str) := by kernel_rfl
theorem sStarts_eq : sStarts = ("startswith" : Str) := by kernel_rfl
/-- a text's method -/
def evTxt (o : Expr) (m : Str) (ap cp : Pos) (args : List Expr) (ro : R3) (rs : List R3) : R3 :=
  if noCall o && args.all noStar && decide (args.length < 30) && (ap.endLine == cp.line) && !args.isEmpty then
    if m = sJoin then ofV (cSM (fun z => f1 (fJoin z)) ro.v (rs.map R3.o))
    else if m = sSplit then ofV (cSM (fun z => f1 (fSplit z)) ro.v (rs.map R3.o))
    else if m = sStarts then ofV (cSM (fun z => f1 (fStarts z)) ro.v (rs.map R3.o))
    else dead
  else dead
def sExtend : Str := ⟨#[101, 120, 116, 101, 110, 100]⟩
def sGet : Str := ⟨#[103, 101, 116]⟩
theorem sExtend_eq : sExtend = ("extend" : Str) := by kernel_rfl
theorem sGet_eq : sGet = ("get" : Str) := by kernel_rfl
/-- d.get(k, e) -/
def evGet (o : Expr) (ap cp : Pos) (args : List Expr) (ro : R3) (rs : List R3) : R3 := match args, rs with
  | [e, f], [re, rf] => if noCall o && noStar e && noStar f && (ap.endLine == cp.line) then ofV (cGet ro.o re.o rf.v) else dead
  | [e], [re] => if noCall o && noStar e && (ap.endLine == cp.line) then ofV (cGet1 ro.o re.o) else dead
  | _, _ => dead
def evMeth (c : Cxt) (o : Expr) (m : Str) (ap cp : Pos) (args : List Expr) (rs : List R3) : R3 := match o with
  | .Name x _ => match slotOf c x with
    | some i => if (ap.endLine == cp.line) = true then
        if m = sAppend then match args, rs with
          | [e], [r] => if noStar e = true then ofV (cApp i r.v) else dead
          | _, _ => dead
        else if m = sPop then match args with
          | [] => ofV (cPop i)
          | _ => dead
        else if m = sExtend then match args, rs with
          | [e], [r] => if noStar e = true then ofV (cExt i r.v) else dead
          | _, _ => dead
        else dead
      else dead
    | none => dead
  | _ => dead
def evCall (g : GE) (c : Cxt) (call : Call) (fn : Expr) (cp : Pos) (args : List Expr) (ro : R3) (rs : List R3) (ks : List (Option Str × R3)) : R3 := match fn with
  | .Name f _ => if isGl c f = true then match g.fns.lookup f with
      | some F => evUser c call f F args rs ks
      | none => match ks with
        | [] => if g.gcd.contains f = true then if args.all noStar = true then if args.isEmpty = true then dead else ofV (cPN (f2 fGcd) (rs.map R3.o)) else dead
          else if g.blt.contains f = true then evBlt g c f args rs else dead
        | _ => dead
    else dead
  | .Attribute o m ap => match ks with
    | [] => if m = sAppend then evMeth c o m ap cp args rs else if m = sPop then evMeth c o m ap cp args rs else if m = sExtend then evMeth c o m ap cp args rs else if m = sGet then evGet o ap cp args ro rs else evTxt o m ap cp args ro rs
    | _ => dead
  | _ => dead
/-- the block's own names and their slots -/
def ownOf (N : List Str) : List (Str × NameKind) → List (Str × Nat)
  | [] => []
  | (x, k) :: r => match k with
    | .local => (match ixOf N x with
      | some i => (x, i) :: ownOf N r
      | none => ownOf N r)
    | .cell => (match ixOf N x with
      | some i => (x, i) :: ownOf N r
      | none => ownOf N r)
    | _ => ownOf N r
def blkX (c : Cxt) (scope : Scope) : Cxt := ⟨c.N, relS scope c.sc, false, false⟩
/-- a name that is stored -/
def slotL (c : Cxt) (x : Str) : Option Nat := match c.sc.names.lookup x with
  | some .local => ixOf c.N x
  | some .cell => if c.fnc = true then ixOf c.N x else none
  | _ => none
def slotLs (c : Cxt) : List Expr → Option (List Nat)
  | [] => some []
  | .Name x _ :: r => match slotL c x, slotLs c r with
    | some i, some is => some (i :: is)
    | _, _ => none
  | _ :: _ => none
def evTg (c : Cxt) : Expr → Option (PyData → EM Unit)
  | .Name x _ => (slotL c x).map tgName
  | .Tuple as _ _ => (slotLs c as).map tgTup
  | _ => none
/-- the slots of a target -/
def tgSl (c : Cxt) : Expr → List Nat
  | .Name x _ => match slotL c x with
    | some i => [i]
    | none => []
  | .Tuple as _ _ => match slotLs c as with
    | some is => is
    | none => []
  | _ => []
/-- what is walked: the iterable, its arguments if it is range(..) -/
def isTupE : Expr → Bool
  | .Tuple _ _ _ => true
  | _ => false
noncomputable def evSrc (g : GE) (c : Cxt) (tg it : Expr) (r : R3) (rs : List R3) : EM (List PyData) := match it with
  | .Call (.Name f _) args [] _ => if f = sNRange then if isGl c f && g.blt.contains f then match args, rs with
      | [a], [ra] => if noStar a = true then srcR1 ra.v else es
      | [a, b], [ra, rb] => if noStar a && noStar b then srcR2 ra.v rb.v else es
      | _, _ => es
    else es else if f = sNZip then if isGl c f && g.blt.contains f && isTupE tg then match args, rs with
      | [a, b], [ra, rb] => if noStar a && noStar b then srcZip ra.v rb.v else es
      | _, _ => es
    else es else srcAny r.v
  | _ => srcAny r.v
def evTests : List R3 → Option (EM Bool)
  | [] => some (er true)
  | [r] => some r.t
  | _ => none
structure CG where
  tg : Expr
  it : Expr
  src : EM (List PyData)
  ts : List R3
  asy : Int
def evLc (c : Cxt) (scope : Scope) (gs : List CG) (e : R3) : R3 := match gs with
  | [q] => if c.hot = true then dead else if q.asy = 0 then if noSet q.it && blkC c.N c.sc scope (ownOf c.N scope.names) && (tgSl (blkX c scope) q.tg).all (fun i => ((ownOf c.N scope.names).map (·.2)).contains i) then match evTg (blkX c scope) q.tg, evTests q.ts with
      | some t, some m => ofN (cLc ((ownOf c.N scope.names).map (·.2)) t m e.v q.src)
      | _, _ => dead
    else dead else dead
  | _ => dead
def evDc (c : Cxt) (scope : Scope) (gs : List CG) (ek e : R3) : R3 := match gs with
  | [q] => if c.hot = true then dead else if q.asy = 0 then if noSet q.it && blkC c.N c.sc scope (ownOf c.N scope.names) && (tgSl (blkX c scope) q.tg).all (fun i => ((ownOf c.N scope.names).map (·.2)).contains i) then match evTg (blkX c scope) q.tg, evTests q.ts with
      | some t, some m => ofN (cDc ((ownOf c.N scope.names).map (·.2)) t m ek.v e.v q.src)
      | _, _ => dead
    else dead else dead
  | _ => dead
def prsOf : List (Option (EM W)) → List R3 → Option (List (EM W × EM W))
  | [], [] => some []
  | some k :: ks, v :: vs => (prsOf ks vs).map ((k, v.v) :: ·)
  | _, _ => none
def evDsp (ks : List (Option Expr)) (vs : List Expr) (mk : List (Option (EM W))) (mv : List R3) : R3 := if ks.isEmpty then (if vs.isEmpty then ofN (er (.dic [])) else dead) else if ks.length ≤ 15 then match prsOf mk mv with
  | some ms => ofN (cDisp ms)
  | none => dead
  else dead
def evJs (rs : List R3) : R3 := match rs with
  | _ :: _ :: _ => ofV (cJs (rs.map R3.v) Str.empty)
  | _ => dead
def evFv (cv : Int) (sp : Option Expr) (r : R3) : R3 := if cv = -1 then match sp with
  | none => ofV (cP1 fFmt r.o)
  | some _ => dead
  else dead
def evSub (kd : Option (List (Str × PyData))) (b : Expr) (ra rb : R3) (sl : Option (Option (EM W) × Option (EM W))) : R3 := match kd with
  | some l => if noSlice b = true then ofV (cP1 (fKd l) rb.o) else dead
  | none => if noSlice b = true then ofV (cP2 fIx ra.o rb.o) else match b, sl with
  | .Slice _ _ none _, some (lo, hi) => ofV (cSl ra.o (part lo) (part hi))
  | _, _ => dead
mutual
noncomputable def ev (g : GE) (call : Call) : Expr → Cxt → R3
  | .Constant k _ _, _ => evConst k
  | .Name x _, c => evName g c x
  | .BinOp a op b _, c => match binF op with
    | some f => ofV (cP2 f (ev g call a c).o (ev g call b c).o)
    | none => dead
  | .UnaryOp op a _, c => evUn op (ev g call a c)
  | .BoolOp op as _, c => ⟨evBoolV op (evs g call as c), evBoolT op (evs g call as c), none, none⟩
  | .Compare a ops bs _, c => evCmp g c ops bs (ev g call a c) (evs g call bs c)
  | .IfExp t a b _, c => ⟨cIf (ev g call t c).t (ev g call a c).v (ev g call b c).v, es, none, none⟩
  | .Subscript a b _, c => evSub (evKd g c a) b (ev g call a c) (ev g call b c) (evSl g call b c)
  | .Tuple as _ _, c => if as.all noStar = true then ofV (cTup ((evs g call as c).map R3.v)) else dead
  | .List as _, c => if as.all noStar = true then ofN (cLst ((evs g call as c).map R3.v)) else dead
  | .Dict ks vs _, c => evDsp ks vs (evos g call ks c) (evs g call vs c)
  | .Call fn args kws cp, c => evCall g c call fn cp args (evf g call fn c) (evs g call args c) (evk g call kws c)
  | .ListComp e gs scope _, c => evLc c scope (evgs g call gs scope c) (ev g call e (blkX c scope))
  | .DictComp k e gs scope _, c => evDc c scope (evgs g call gs scope c) (ev g call k (blkX c scope)) (ev g call e (blkX c scope))
  | .JoinedStr vs _, c => evJs (evs g call vs c)
  | .FormattedValue e cv sp _, c => evFv cv sp (ev g call e c)
  | _, _ => dead
noncomputable def evSl (g : GE) (call : Call) : Expr → Cxt → Option (Option (EM W) × Option (EM W))
  | .Slice lo hi _ _, c => some (evo g call lo c, evo g call hi c)
  | _, _ => none
noncomputable def evf (g : GE) (call : Call) : Expr → Cxt → R3
  | .Attribute o _ _, c => ev g call o c
  | _, _ => dead
noncomputable def evo (g : GE) (call : Call) : Option Expr → Cxt → Option (EM W)
  | none, _ => none
  | some e, c => some (ev g call e c).v
noncomputable def evos (g : GE) (call : Call) : List (Option Expr) → Cxt → List (Option (EM W))
  | [], _ => []
  | e :: r, c => evo g call e c :: evos g call r c
noncomputable def evs (g : GE) (call : Call) : List Expr → Cxt → List R3
  | [], _ => []
  | e :: r, c => ev g call e c :: evs g call r c
noncomputable def evk (g : GE) (call : Call) : List Keyword → Cxt → List (Option Str × R3)
  | [], _ => []
  | k :: r, c => evk1 g call k c :: evk g call r c
noncomputable def evk1 (g : GE) (call : Call) : Keyword → Cxt → Option Str × R3
  | ⟨n, e, _⟩, c => (n, ev g call e c)
noncomputable def evgs (g : GE) (call : Call) : List Comprehension → Scope → Cxt → List CG
  | [], _, _ => []
  | q :: r, sc, c => evg1 g call q sc c :: evgs g call r sc c
noncomputable def evg1 (g : GE) (call : Call) : Comprehension → Scope → Cxt → CG
  | ⟨tg, it, ifs, asy⟩, sc, c => ⟨tg, it, evSrc g c tg it (ev g call it c) (evr g call it c), evs g call ifs (blkX c sc), asy⟩
noncomputable def evr (g : GE) (call : Call) : Expr → Cxt → List R3
  | .Call _ args _ _, c => evs g call args c
  | _, _ => []
end
/-! ### what is known -/
/-- a class as a value -/
def ClsV (mg : Str → Option Value) (x : Str) (u : Value) : Prop := mg x = some u ∨ (mg x = none ∧ bootBuiltins x = some u ∧ x ≠ "__name__")
structure Glob (K : PySem.W.Frag) (CL : CA) (mg : Str → Option Value) (g : GE) : Prop where
  cst : ∀ x d, g.consts.lookup x = some d → ∃ v u, mg x = some u ∧ RelV v u ∧ ∀ F H, RD K F H d v
  blt : ∀ x, g.blt.contains x = true → mg x = none
  gcd : ∀ x, g.gcd.contains x = true → mg x = some (.builtin "math.gcd")
  isx : ∀ x, g.excn.contains x = true → ∃ v u, ClsV mg x u ∧ RelV v u ∧ (∀ w, RelV v w → w = u) ∧ ∀ cn C, CL.cl cn C → ExcC K C ∧ ∀ b, g.tab cn x = some b → PySem.W.kitOne K (.ref C) u = some b
  hnd : ∀ x, g.excn.contains x = true → ∃ cv, ClsV mg x cv ∧ ∀ cls C b, CL.cl cls C → g.tab cls x = some b → PySem.W.exmOne K (.ref C) cv = some b
structure Cold (CL : CA) (X : Cx) (Wx : WX) (g : GE) (k : Nat) (call : Call) : Prop where
  calm : X.calm = true
  room : Room k X.A
  tk : Takes X Wx
  fns : ∀ f F, g.fns.lookup f = some F → FnIn X.K CL X.prog X.w X.mg X.base k f F.ps F.kws (call f)
  exs : ∀ x, g.excs.contains x = true → XIn CL X x
structure Stm (X : Cx) : Prop where
  stk : X.stack = X.env :: X.outer
  fr : X.env.frame = some X.env.locals
  own : PassesOwn (model X.prog X.w) X.A X.env X.xe
def HotC (CL : CA) (X : Cx) : Prop := ∃ (X0 : Cx) (a : Addr) (oe : Obj) (pn : List (Addr × Obj)), X = X0.suite a ((a, oe) :: pn) ∧ (∃ vs, oe.data = .fields vs) ∧ ∀ a' cn, CL.ex = some (a', cn) → a' = a ∧ ∃ C, CL.cl cn C ∧ Zc (.ref C) none oe
structure Gd (CL : CA) (X : Cx) (Wx : WX) (g : GE) (c : Cxt) (k : Nat) (call : Call) : Prop where
  hN : X.N = c.N
  nd : X.N.Nodup
  sc : X.env.scope = c.sc
  fn : c.fnc = true → ∀ x, X.fn x = true
  un : X.A.units + 128 < cLine
  gl : Glob X.K CL X.mg g
  cold : c.hot = false → Cold CL X Wx g k call
  hot : c.hot = true → HotC CL X
  stm : c.fnc = true → c.hot = false → Stm X
  kds : ∀ x l, g.kds.lookup x = some l → KdOk X.K X.w X.mg x l
structure Snd (CL : CA) (X : Cx) (Wx : WX) (e : Expr) (r : R3) : Prop where
  v : JE CL X Wx e r.v
  t : JT CL X Wx e r.t
  n : ∀ m, r.n = some m → JN CL X Wx e m
  s : ∀ i, r.sl = some i → ∃ x p, e = .Name x p ∧ PE X (.Name x p) (tVar i)
section
variable {CL : CA} {X : Cx} {Wx : WX} {g : GE} {c : Cxt} {k : Nat} {call : Call}
theorem je_dead {e : Expr} : JE CL X Wx e es := ⟨fun pins s σ H Q I q => by obtain ⟨G, s', S, q⟩ := q; exact q.elim⟩
theorem jt_dead {e : Expr} : JT CL X Wx e es := ⟨fun pins s σ H Q I q => by obtain ⟨G, s', S, q⟩ := q; exact q.elim⟩
theorem snd_dead {e : Expr} : Snd CL X Wx e dead := ⟨je_dead, jt_dead, fun _ h => (nomatch h), fun _ h => (nomatch h)⟩
theorem Snd.o {e : Expr} {r : R3} (h : Snd CL X Wx e r) : JO CL X Wx e r.o := by
  unfold R3.o
  cases hs : r.sl with
  | none => exact jo_ex h.v
  | some i =>
    obtain ⟨x, p, rfl, q⟩ := h.s i hs
    exact jo_var q
/-- a value whose test is the plain one -/
theorem snd_V {e : Expr} {m : EM W} (h : JE CL X Wx e m) (he : ∀ whole, isTrue e X.env whole = (do let v ← whole; standAt e.pos; holding [v] (truthy v))) : Snd CL X Wx e (ofV m) := ⟨h, jt_tru (jo_ex h) he, fun _ h => (nomatch h), fun _ h => (nomatch h)⟩
theorem snd_N {e : Expr} {m : EM Ob} (h : JN CL X Wx e m) (he : ∀ whole, isTrue e X.env whole = (do let v ← whole; standAt e.pos; holding [v] (truthy v))) : Snd CL X Wx e (ofN m) := ⟨je_frz h, jt_tru (jo_ex (je_frz h)) he, fun _ h' => by cases h'; exact h, fun _ h => (nomatch h)⟩
theorem Gd.vis (D : Gd CL X Wx g c k call) {x : Str} {i : Nat} (h : slotOf c x = some i) : X.N[i]? = some x ∧ Vis X.env.scope x ∧ (x == ("__debug__" : Str)) = false ∧ (x == ("__classdict__" : Str)) = false := by
  unfold slotOf at h
  by_cases ht : tame x = true
  · rw [if_pos ht] at h
    obtain ⟨t1, t2, t3⟩ := tame_ok ht
    rw [D.hN, D.sc]
    cases hl : c.sc.names.lookup x with
    | none => rw [hl] at h; cases h
    | some kd =>
      rw [hl] at h
      cases kd with
      | «local» => exact ⟨ixOf_ok h, .inl hl, t1, t2⟩
      | cell => exact ⟨ixOf_ok h, .inr (.inl hl), t1, t2⟩
      | free => exact ⟨ixOf_ok h, .inr (.inr hl), t1, t2⟩
      | _ => cases h
  · rw [if_neg ht] at h; cases h
theorem Gd.var (D : Gd CL X Wx g c k call) {x : Str} {i : Nat} {p : Pos} (h : slotOf c x = some i) : PE X (.Name x p) (tVar i) := by
  obtain ⟨h1, h2, h3, h4⟩ := D.vis h
  exact pe_var h1 h2 h3 h4
theorem Gd.glob (D : Gd CL X Wx g c k call) {x : Str} (h : isGl c x = true) : Gl X x ∧ (x == ("__debug__" : Str)) = false ∧ x ≠ "__name__" := by
  unfold isGl at h
  rw [Bool.and_eq_true] at h
  obtain ⟨t1, t2, t3⟩ := tame_ok h.1
  refine ⟨?_, t1, t3⟩
  have h2 := h.2
  show X.env.scope.names.lookup x = _
  rw [D.sc]
  cases hl : c.sc.names.lookup x with
  | none => rw [hl] at h2; cases h2
  | some kd =>
    rw [hl] at h2
    cases kd <;> first | rfl | cases h2
theorem snd_S {x : Str} {p : Pos} {i : Nat} (h : PE X (.Name x p) (tVar i)) : Snd CL X Wx (.Name x p) (ofS i) := ⟨je_var h, jt_tru (jo_var h) fun _ => rfl, fun _ h => (nomatch h), fun j hj => by cases hj; exact ⟨x, p, rfl, h⟩⟩
theorem snd_name (D : Gd CL X Wx g c k call) {x : Str} {p : Pos} : Snd CL X Wx (.Name x p) (evName g c x) := by
  unfold evName
  cases hs : slotOf c x with
  | some i => exact snd_S (D.var hs)
  | none =>
    dsimp only
    by_cases hg : isGl c x = true
    · rw [if_pos hg]
      cases hc : g.consts.lookup x with
      | none => exact snd_dead
      | some d =>
        obtain ⟨v, u, h1, h2, h3⟩ := D.gl.cst x d hc
        obtain ⟨g1, g2, g3⟩ := D.glob hg
        exact snd_V (je_const (pe_glob g1 h1 h2 g2) h3) fun _ => rfl
    · rw [if_neg hg]; exact snd_dead
theorem snd_const {kk : Const} {j : Nat} {p : Pos} : Snd CL X Wx (.Constant kk j p) (evConst kk) := by
  cases kk with
  | int i => exact snd_V (je_const pe_int fun F H => .int i) fun _ => rfl
  | str i => exact snd_V (je_const pe_str fun F H => .str i) fun _ => rfl
  | bool i => exact snd_V (je_const pe_bl fun F H => .bool i) fun _ => rfl
  | none => exact snd_V (je_const pe_non fun F H => .none) fun _ => rfl
  | _ => exact snd_dead
theorem snd_un {op : UnaryOp} {a : Expr} {r : R3} {p : Pos} (h : Snd CL X Wx a r) : Snd CL X Wx (.UnaryOp op a p) (evUn op r) := by
  cases op with
  | USub => exact snd_V (je_un ok_neg un_neg h.o) fun _ => rfl
  | Not => exact ⟨je_not h.v, jt_not h.t, fun _ h => (nomatch h), fun _ h => (nomatch h)⟩
  | _ => exact snd_dead
inductive Snds (CL : CA) (X : Cx) (Wx : WX) : List Expr → List R3 → Prop
  | nil : Snds CL X Wx [] []
  | cons {e : Expr} {es : List Expr} {r : R3} {rs : List R3} (h : Snd CL X Wx e r) (t : Snds CL X Wx es rs) : Snds CL X Wx (e :: es) (r :: rs)
inductive SndK (CL : CA) (X : Cx) (Wx : WX) : List Keyword → List (Option Str × R3) → Prop
  | nil : SndK CL X Wx [] []
  | cons {n : Option Str} {e : Expr} {p : Pos} {ks : List Keyword} {r : R3} {rs : List (Option Str × R3)} (h : Snd CL X Wx e r) (t : SndK CL X Wx ks rs) : SndK CL X Wx (⟨n, e, p⟩ :: ks) ((n, r) :: rs)
theorem boolV_ok {op : BoolOp} {p : Pos} : ∀ {as : List Expr} {rs : List R3}, Snds CL X Wx as rs → JE CL X Wx (.BoolOp op as p) (evBoolV op rs) ∧ JW CL X Wx (.BoolOp op as p) (evBoolT op rs)
  | _, _, .nil => by
    cases op <;> exact ⟨je_dead, ⟨fun w pins s σ H Q I q => by obtain ⟨G, s', S, q⟩ := q; exact q.elim⟩⟩
  | _, _, .cons h .nil => by
    cases op
    · exact ⟨pe_one h.v, pw_and1 h.t⟩
    · exact ⟨pe_one h.v, pw_or1 h.t⟩
  | _, _, .cons h (.cons h2 t) => by
    obtain ⟨i1, i2⟩ := boolV_ok (op := op) (p := p) (.cons h2 t)
    cases op
    · exact ⟨je_and h.v i1, jw_and h.t i2⟩
    · exact ⟨je_or h.v i1, jw_or h.t i2⟩
theorem evKd_is {e : Expr} {l : List (Str × PyData)} (h : evKd g c e = some l) : ∃ x p, e = .Name x p ∧ isGl c x = true ∧ g.kds.lookup x = some l := by
  cases e with
  | Name x p =>
    have h : (if isGl c x = true then g.kds.lookup x else none) = some l := h
    by_cases hg : isGl c x = true
    · rw [if_pos hg] at h; exact ⟨x, p, rfl, hg, h⟩
    · rw [if_neg hg] at h; cases h
  | _ => cases h
theorem cmp_last {op op' : CmpOp} {b b' : Expr} (h : noSet b' = true) : lastMarks [op, op'] [b, b'] = false := by
  show behindInMarks op' b' = false
  exact noSet_ok h
theorem snd_cmp (D : Gd CL X Wx g c k call) (hu : X.A.units + 128 < cLine) {ops : List CmpOp} {a : Expr} {bs : List Expr} {ra : R3} {rs : List R3} {p : Pos} (ha : Snd CL X Wx a ra) (hb : Snds CL X Wx bs rs) : Snd CL X Wx (.Compare a ops bs p) (evCmp g c ops bs ra rs) := by
  unfold evCmp
  split
  · rename_i op b r
    cases hb with
    | cons hb _ =>
      cases hkd : evKd g c b with
      | some l =>
        obtain ⟨x, px, rfl, hg, hl⟩ := evKd_is hkd
        obtain ⟨g1, g2, g3⟩ := D.glob hg
        dsimp only
        cases op with
        | In =>
          obtain ⟨a', r', e1, e2, e3⟩ := kd_in (D.kds x l hl)
          have z := je_kdc (p := px) (pos := p) e1 e2 e3 g1 g2 ha.o
          exact ⟨z.1, z.2, fun _ h => (nomatch h), fun _ h => (nomatch h)⟩
        | NotIn =>
          obtain ⟨a', r', e1, e2, e3⟩ := kd_ni (D.kds x l hl)
          have z := je_kdc (p := px) (pos := p) e1 e2 e3 g1 g2 ha.o
          exact ⟨z.1, z.2, fun _ h => (nomatch h), fun _ h => (nomatch h)⟩
        | _ => exact snd_dead
      | none =>
        dsimp only
        by_cases hn : noSet b = true
        · rw [if_pos hn]
          cases hf : cmpG op with
          | none => exact snd_dead
          | some f =>
            obtain ⟨rr, h1, h2⟩ := cmpG_ok hu hf
            exact ⟨je_cmp h2 h1 (noSet_ok hn) ha.o hb.o, jt_cmp h2 h1 (noSet_ok hn) ha.o hb.o, fun _ h => (nomatch h), fun _ h => (nomatch h)⟩
        · rw [if_neg hn]; exact snd_dead
  · rename_i op op' b b' r r'
    cases hb with
    | cons hb t =>
      cases t with
      | cons hb' _ =>
        by_cases hn : noSet b' = true
        · rw [if_pos hn]
          cases hf : cmpG op with
          | none => exact snd_dead
          | some f =>
            cases hf' : cmpG op' with
            | none => exact snd_dead
            | some f' =>
              obtain ⟨rr, h1, h2⟩ := cmpG_ok hu hf
              obtain ⟨rr', h1', h2'⟩ := cmpG_ok hu hf'
              exact ⟨pe_imp (pe_chain h1 h1' ha.o hb.o hb'.o (cmp_last hn)) fun _ _ _ q => cCh_ok h2 h2' q, pt_imp (pt_chain h1 h1' ha.o hb.o hb'.o (cmp_last hn)) fun _ _ _ q => cCh_ok h2 h2' (tTest_ok q), fun _ h => (nomatch h), fun _ h => (nomatch h)⟩
        · rw [if_neg hn]; exact snd_dead
  · exact snd_dead
theorem Snds.ja : ∀ {as : List Expr} {rs : List R3}, Snds CL X Wx as rs → as.all noStar = true → JA CL (rWs X.K) X Wx as (rs.map R3.v)
  | _, _, .nil, _ => .nil
  | _, _, .cons h t, hs => by
    rw [List.all_cons, Bool.and_eq_true] at hs
    exact .cons h.v (noStar_ok hs.1) (t.ja hs.2)
theorem Snds.jos : ∀ {as : List Expr} {rs : List R3}, Snds CL X Wx as rs → as.all noStar = true → JOs CL X Wx as (rs.map R3.o)
  | _, _, .nil, _ => .nil
  | _, _, .cons h t, hs => by
    rw [List.all_cons, Bool.and_eq_true] at hs
    exact .cons h.o (noStar_ok hs.1) (t.jos hs.2)
theorem boxArg_ok {e : Expr} {r : R3} {b : Bool} (h : Snd CL X Wx e r) : JE CL X Wx e (boxArg b r) := by
  unfold boxArg
  cases b with
  | false => exact h.v
  | true =>
    rw [if_pos rfl]
    cases hn : r.n with
    | some m => exact je_boxN (h.n m hn)
    | none =>
      dsimp only
      cases hs : r.sl with
      | none => exact h.v
      | some i =>
        obtain ⟨x, p, rfl, q⟩ := h.s i hs
        exact je_boxV q
theorem Snds.jb : ∀ {as : List Expr} {rs : List R3} {bs : List Bool}, Snds CL X Wx as rs → as.all noStar = true → JA CL (rWs X.K) X Wx as (boxArgs bs rs)
  | _, _, [], .nil, _ => .nil
  | _, _, _ :: _, .nil, _ => .nil
  | _, _, [], .cons h t, hs => by
    rw [List.all_cons, Bool.and_eq_true] at hs
    exact .cons h.v (noStar_ok hs.1) (t.jb hs.2)
  | _, _, b :: bs, .cons h t, hs => by
    rw [List.all_cons, Bool.and_eq_true] at hs
    exact .cons (boxArg_ok h) (noStar_ok hs.1) (t.jb hs.2)
theorem boxArgs_len : ∀ {bs : List Bool} {rs : List R3}, (boxArgs bs rs).length = rs.length
  | [], [] => rfl
  | _ :: _, [] => rfl
  | [], _ :: rs => congrArg (· + 1) (boxArgs_len (bs := []) (rs := rs))
  | _ :: bs, _ :: rs => congrArg (· + 1) (boxArgs_len (bs := bs) (rs := rs))
theorem SndK.kw : ∀ {ks : List Keyword} {rs : List (Option Str × R3)} {ns : List Str}, SndK CL X Wx ks rs → kwNames rs = some ns → JKw CL X Wx ks ns (rs.map fun k => k.2.v)
  | _, _, _, .nil, e => by cases e; exact .nil
  | _, _, _, .cons (n := none) h t, e => by cases e
  | _, _, _, .cons (n := some n) (rs := rs) h t, e => by
    have e : (kwNames rs).map (n :: ·) = some _ := e
    cases e1 : kwNames rs with
    | none => rw [e1] at e; cases e
    | some ns' =>
      rw [e1] at e
      cases e
      exact .cons h.v (t.kw e1)
theorem snd_user (D : Gd CL X Wx g c k call) {f : Str} {F : FI} {args : List Expr} {rs : List R3} {kws : List Keyword} {ks : List (Option Str × R3)} {p cp : Pos} (hg : isGl c f = true) (hf : g.fns.lookup f = some F) (ha : Snds CL X Wx args rs) (hk : SndK CL X Wx kws ks) :
    Snd CL X Wx (.Call (.Name f p) args kws cp) (evUser c call f F args rs ks) := by
  obtain ⟨g1, g2, g3⟩ := D.glob hg
  unfold evUser
  cases hh : c.hot with
  | true => exact snd_dead
  | false =>
    rw [if_neg Bool.false_ne_true]
    have C := D.cold hh
    have FI := C.fns f F hf
    cases args with
    | nil =>
      cases hk with
      | nil =>
        dsimp only
        by_cases h1 : F.ps.isEmpty = true
        · rw [if_pos h1]
          have e : F.ps = [] := List.isEmpty_iff.mp h1
          rw [e] at FI
          exact snd_V (je_call0 FI C.room g1 C.tk g2) fun _ => rfl
        · rw [if_neg h1]; exact snd_dead
      | @cons nk ek pk kks rk kr hx hy =>
        have hk : SndK CL X Wx (⟨nk, ek, pk⟩ :: kks) ((nk, rk) :: kr) := .cons hx hy
        generalize hk1 : (nk, rk) = k1 at hk
        generalize hks1 : (⟨nk, ek, pk⟩ : Keyword) = q1 at hk
        dsimp only
        cases hn : kwNames (k1 :: kr) with
        | none => exact snd_dead
        | some ns =>
          dsimp only
          by_cases h1 : F.kws.contains ns = true
          · rw [if_pos h1]
            by_cases h2 : (kwOrd ns F.ps ns).length = F.ps.length
            · rw [if_pos h2]
              exact snd_V (je_callK FI C.room g1 C.tk g2 (hk.kw hn) (by simpa using h1) h2) fun _ => rfl
            · rw [if_neg h2]; exact snd_dead
          · rw [if_neg h1]; exact snd_dead
    | cons a as =>
      cases hk with
      | cons _ _ => exact snd_dead
      | nil =>
        dsimp only
        by_cases h1 : (a :: as).all noStar = true
        · rw [if_pos h1]
          by_cases h2 : rs.length = F.ps.length
          · rw [if_pos h2]
            exact snd_V (je_call FI C.room g1 C.tk g2 (ha.jb h1) (boxArgs_len.trans h2)) fun _ => rfl
          · rw [if_neg h2]; exact snd_dead
        · rw [if_neg h1]; exact snd_dead
theorem hotI_ok (D : Gd CL X Wx g c k call) {e : Expr} {tn x : Str} {r : R3} {rt : R3} {p p2 cp : Pos} (hg : isGl c x = true) (hb : g.blt.contains x = true) (hx : x = sNIsinstance) (ht : isGl c tn = true) (h : Snd CL X Wx e r) :
    Snd CL X Wx (.Call (.Name x p) [e, .Name tn p2] [] cp) (evIsi.hotI g c e tn r) := by
  obtain ⟨g1, g2, g3⟩ := D.glob hg
  obtain ⟨t1, t2, t3⟩ := D.glob ht
  unfold evIsi.hotI
  cases hh : c.hot with
  | false => exact snd_dead
  | true =>
    rw [if_pos rfl]
    by_cases hn : g.excn.contains tn = true
    · rw [if_pos hn]
      cases hs : r.sl with
      | none => exact snd_dead
      | some i =>
        obtain ⟨y, py, rfl, q⟩ := h.s i hs
        obtain ⟨X0, a, oe, pn, eX, hf, hex⟩ := D.hot hh
        obtain ⟨v, u, hc, rv, ru, hk⟩ := D.gl.isx tn hn
        have hm := D.gl.blt x hb
        have ht' : PE X (.Name tn p2) (tC v) := by
          rcases hc with hc | ⟨hc, hc2, hc3⟩
          · exact pe_glob t1 hc rv t2
          · exact pe_bltn t1 hc hc2 rv hc3 t2
        subst eX
        refine snd_V (je_isE (tab := g.tab) (fun a' cn e1 => ?_) hf g1 hm (by rw [hx]; exact bIsinstance) g3 g2 q ht' ru) fun _ => rfl
        obtain ⟨ea, C, hC, hz⟩ := hex a' cn e1
        obtain ⟨k1, k2⟩ := hk cn C hC
        exact ⟨ea, C, hC, k1, hz, k2⟩
    · rw [if_neg hn]; exact snd_dead
theorem tysOf_ok (D : Gd CL X Wx g c k call) : ∀ {as : List Expr} {Ts : List Ty}, tysOf g c as = some Ts → JTy X as Ts
  | [], _, h => by cases h; exact .nil
  | e :: r, Ts, h => by
    cases e with
    | Name tn p =>
      have h : (if (isGl c tn && g.blt.contains tn) = true then match tyOf tn with
        | some T => (tysOf g c r).map (T :: ·)
        | none => none
        else none) = some Ts := h
      by_cases hb : (isGl c tn && g.blt.contains tn) = true
      · rw [if_pos hb] at h
        rw [Bool.and_eq_true] at hb
        obtain ⟨t1, t2, t3⟩ := D.glob hb.1
        cases hT : tyOf tn with
        | none => rw [hT] at h; cases h
        | some T =>
          rw [hT] at h
          dsimp only at h
          cases hr : tysOf g c r with
          | none => rw [hr] at h; cases h
          | some Us =>
            rw [hr] at h
            cases h
            exact .cons t1 (D.gl.blt tn hb.2) (tyOf_ok hT) t3 t2 (tysOf_ok D hr)
      · rw [if_neg hb] at h; cases h
    | _ => cases h
theorem snd_isi (D : Gd CL X Wx g c k call) {args : List Expr} {rs : List R3} {x : Str} {p cp : Pos} (hg : isGl c x = true) (hb : g.blt.contains x = true) (hx : x = sNIsinstance) (ha : Snds CL X Wx args rs) :
    Snd CL X Wx (.Call (.Name x p) args [] cp) (evIsi g c args rs) := by
  obtain ⟨g1, g2, g3⟩ := D.glob hg
  unfold evIsi
  split
  · rename_i e tn p2 r rt
    cases ha with
    | cons h _ =>
      by_cases hs : noStar e = true
      · rw [if_pos hs]
        by_cases ht : isGl c tn = true
        · rw [if_pos ht]
          obtain ⟨t1, t2, t3⟩ := D.glob ht
          by_cases hbt : g.blt.contains tn = true
          · rw [if_pos hbt]
            cases hT : tyOf tn with
            | none => exact hotI_ok (rt := rt) D hg hb hx ht h
            | some T => exact snd_V (je_isi g1 (D.gl.blt x hb) (by rw [hx]; exact bIsinstance) g3 g2 t1 (D.gl.blt tn hbt) (tyOf_ok hT) t3 t2 h.o (noStar_ok hs)) fun _ => rfl
          · rw [if_neg hbt]
            exact hotI_ok (rt := rt) D hg hb hx ht h
        · rw [if_neg ht]; exact snd_dead
      · rw [if_neg hs]; exact snd_dead
  · rename_i e as kk p2 r rt
    cases ha with
    | cons h _ =>
      by_cases hs : noStar e = true
      · rw [if_pos hs]
        cases hT : tysOf g c as with
        | none => exact snd_dead
        | some Ts =>
          dsimp only
          by_cases hl : Ts.length ≤ 1000000
          · rw [if_pos hl]
            exact snd_V (je_isiT g1 (D.gl.blt x hb) (by rw [hx]; exact bIsinstance) g3 g2 (tysOf_ok D hT) hl h.o (noStar_ok hs)) fun _ => rfl
          · rw [if_neg hl]; exact snd_dead
      · rw [if_neg hs]; exact snd_dead
  · exact snd_dead
theorem snd_blt (D : Gd CL X Wx g c k call) {args : List Expr} {rs : List R3} {x : Str} {p cp : Pos} (hg : isGl c x = true) (hb : g.blt.contains x = true) (ha : Snds CL X Wx args rs) :
    Snd CL X Wx (.Call (.Name x p) args [] cp) (evBlt g c x args rs) := by
  obtain ⟨g1, g2, g3⟩ := D.glob hg
  have hm := D.gl.blt x hb
  unfold evBlt
  by_cases hs : args.all noStar = true
  · rw [if_pos hs]
    cases args with
    | nil => exact snd_dead
    | cons e as =>
      rw [if_neg (by show ¬ (false = true); exact Bool.false_ne_true)]
      have hj := ha.jos hs
      by_cases h : x = sNLen
      · rw [if_pos h]; exact snd_V (je_fnB ok_len call_len g1 hm (by rw [h]; exact bLen) g3 g2 hj) fun _ => rfl
      rw [if_neg h]
      clear h
      by_cases h : x = sNAbs
      · rw [if_pos h]; exact snd_V (je_fnB ok_abs call_abs g1 hm (by rw [h]; exact bAbs) g3 g2 hj) fun _ => rfl
      rw [if_neg h]
      clear h
      by_cases h : x = sNInt
      · rw [if_pos h]; exact snd_V (je_fnT ok_intU call_intU g1 hm (by rw [h]; exact bInt) g3 g2 hj) fun _ => rfl
      rw [if_neg h]
      clear h
      by_cases h : x = sNTuple
      · rw [if_pos h]; exact snd_V (je_fnT ok_tupleOf call_tuple_of g1 hm (by rw [h]; exact bTuple) g3 g2 hj) fun _ => rfl
      rw [if_neg h]
      clear h
      by_cases h : x = sNAll
      · rw [if_pos h]
        cases hh : c.hot with
        | true => exact snd_dead
        | false => exact snd_V (je_fnB ok_all (cr_all (D.cold hh).calm) g1 hm (by rw [h]; exact bAll) g3 g2 hj) fun _ => rfl
      rw [if_neg h]
      clear h
      by_cases h : x = sNAny
      · rw [if_pos h]
        cases hh : c.hot with
        | true => exact snd_dead
        | false => exact snd_V (je_fnB ok_any (cr_any (D.cold hh).calm) g1 hm (by rw [h]; exact bAny) g3 g2 hj) fun _ => rfl
      rw [if_neg h]
      clear h
      by_cases h : x = sNList
      · rw [if_pos h]
        cases ha with
        | cons h1 t =>
          cases t with
          | nil =>
            rw [List.all_cons, Bool.and_eq_true] at hs
            exact snd_N (jn_list h g1 hm g3 g2 h1.o (noStar_ok hs.1)) fun _ => rfl
          | cons _ _ => exact snd_dead
      rw [if_neg h]
      clear h
      by_cases h : x = sNIsinstance
      · rw [if_pos h]; exact snd_isi D hg hb h ha
      rw [if_neg h]
      clear h
      by_cases h : x = sNStr
      · rw [if_pos h]; exact snd_V (je_fnT ok_str call_strU g1 hm (by rw [h]; exact bStr) g3 g2 hj) fun _ => rfl
      rw [if_neg h]
      clear h
      by_cases h : x = sNMin
      · rw [if_pos h]
        cases hh : c.hot with
        | true => exact snd_dead
        | false => exact snd_V (je_fnB ok_min (call_min2 (D.cold hh).calm) g1 hm (by rw [h]; exact bMin) g3 g2 hj) fun _ => rfl
      rw [if_neg h]
      clear h
      by_cases h : x = sNMax
      · rw [if_pos h]
        cases hh : c.hot with
        | true => exact snd_dead
        | false => exact snd_V (je_fnB ok_max (call_max2 (D.cold hh).calm) g1 hm (by rw [h]; exact bMax) g3 g2 hj) fun _ => rfl
      rw [if_neg h]
      exact snd_dead
  · rw [if_neg hs]; exact snd_dead
theorem snd_meth (D : Gd CL X Wx g c k call) {o : Expr} {m : Str} {ap cp : Pos} {args : List Expr} {rs : List R3} (ha : Snds CL X Wx args rs) : Snd CL X Wx (.Call (.Attribute o m ap) args [] cp) (evMeth c o m ap cp args rs) := by
  unfold evMeth
  split
  · rename_i x p
    cases hs : slotOf c x with
    | none => exact snd_dead
    | some i =>
      dsimp only
      by_cases hl : (ap.endLine == cp.line) = true
      · rw [if_pos hl]
        by_cases h : m = sAppend
        · rw [if_pos h]
          rw [sAppend_eq] at h
          subst h
          split
          · rename_i e r
            cases ha with
            | cons h1 _ =>
              by_cases hn : noStar e = true
              · rw [if_pos hn]
                have hse := noStar_ok (es := []) (env := X.env) hn
                exact snd_V (je_app (D.var hs) h1.v (by rw [hse]; rfl) hl hse) fun _ => rfl
              · rw [if_neg hn]; exact snd_dead
          · exact snd_dead
        rw [if_neg h]
        clear h
        by_cases h : m = sPop
        · rw [if_pos h]
          rw [sPop_eq] at h
          subst h
          cases args with
          | nil => exact snd_V (je_pop (D.var hs) hl) fun _ => rfl
          | cons _ _ => exact snd_dead
        rw [if_neg h]
        clear h
        by_cases h : m = sExtend
        · rw [if_pos h]
          rw [sExtend_eq] at h
          subst h
          split
          · rename_i e r
            cases ha with
            | cons h1 _ =>
              by_cases hn : noStar e = true
              · rw [if_pos hn]
                have hse := noStar_ok (es := []) (env := X.env) hn
                exact snd_V (je_ext (D.var hs) h1.v (by rw [hse]; rfl) hl hse) fun _ => rfl
              · rw [if_neg hn]; exact snd_dead
          · exact snd_dead
        rw [if_neg h]
        exact snd_dead
      · rw [if_neg hl]; exact snd_dead
  · exact snd_dead
theorem snd_get (D : Gd CL X Wx g c k call) {o : Expr} {ap cp : Pos} {args : List Expr} {ro : R3} {rs : List R3} (ho : Snd CL X Wx o ro) (ha : Snds CL X Wx args rs) : Snd CL X Wx (.Call (.Attribute o "get" ap) args [] cp) (evGet o ap cp args ro rs) := by
  unfold evGet
  split
  · rename_i e f re rf
    cases ha with
    | cons h1 t =>
      cases t with
      | cons h2 _ =>
        by_cases hc : (noCall o && noStar e && noStar f && (ap.endLine == cp.line)) = true
        · rw [if_pos hc]
          simp only [Bool.and_eq_true] at hc
          obtain ⟨⟨⟨c1, c2⟩, c3⟩, c4⟩ := hc
          have e1 := noStar_ok (es := [f]) (env := X.env) c2
          have e2 := noStar_ok (es := []) (env := X.env) c3
          refine snd_V (je_get (by have := D.un; omega) ho.o h1.o h2.v ⟨noCall_ok c1, ?_, c4, ?_⟩) fun _ => rfl
          · rw [e1, e2]; rfl
          · rw [e1, e2]; rfl
        · rw [if_neg hc]; exact snd_dead
  · rename_i e re
    cases ha with
    | cons h1 t =>
      by_cases hc : (noCall o && noStar e && (ap.endLine == cp.line)) = true
      · rw [if_pos hc]
        simp only [Bool.and_eq_true] at hc
        obtain ⟨⟨c1, c2⟩, c4⟩ := hc
        have e1 := noStar_ok (es := []) (env := X.env) c2
        refine snd_V (je_get1 (by have := D.un; omega) ho.o h1.o ⟨noCall_ok c1, ?_, c4, ?_⟩) fun _ => rfl
        · rw [e1]; rfl
        · rw [e1]; rfl
      · rw [if_neg hc]; exact snd_dead
  · exact snd_dead
theorem snd_txt {o : Expr} {m : Str} {ap cp : Pos} {args : List Expr} {ro : R3} {rs : List R3} (ho : Snd CL X Wx o ro) (ha : Snds CL X Wx args rs) : Snd CL X Wx (.Call (.Attribute o m ap) args [] cp) (evTxt o m ap cp args ro rs) := by
  unfold evTxt
  by_cases h : (noCall o && args.all noStar && decide (args.length < 30) && (ap.endLine == cp.line) && !args.isEmpty) = true
  · rw [if_pos h]
    simp only [Bool.and_eq_true, decide_eq_true_eq] at h
    obtain ⟨⟨⟨⟨h1, h2⟩, h3⟩, h4⟩, h5⟩ := h
    cases args with
    | nil => cases h5
    | cons e es =>
      have hfew : ((backTo cp (starEach (e :: es) X.env)).all (fun x => !x.1) && (backToKw cp (keywordEach [] X.env)).all (fun x => x.1.isSome) && decide ((e :: es).length + ([] : List Keyword).length + (if ([] : List Keyword).isEmpty then 0 else 1) < 30)) = true := by
        rw [few_ok h2, Bool.true_and, Bool.and_eq_true]
        exact ⟨rfl, decide_eq_true (by simpa using h3)⟩
      have hj := ha.jos h2
      by_cases hm : m = sJoin
      · rw [if_pos hm]
        rw [sJoin_eq] at hm
        subst hm
        exact snd_V (je_sm PySem.F.slot_str_join PySem.F.type_str_join mt_join ok_join ho.v hj (noCall_ok h1) hfew h4) fun _ => rfl
      rw [if_neg hm]
      clear hm
      by_cases hm : m = sSplit
      · rw [if_pos hm]
        rw [sSplit_eq] at hm
        subst hm
        exact snd_V (je_sm PySem.F.slot_str_split PySem.F.type_str_split mt_split ok_split ho.v hj (noCall_ok h1) hfew h4) fun _ => rfl
      rw [if_neg hm]
      clear hm
      by_cases hm : m = sStarts
      · rw [if_pos hm]
        rw [sStarts_eq] at hm
        subst hm
        exact snd_V (je_sm PySem.F.slot_str_startswith PySem.F.type_str_startswith mt_startswith ok_starts ho.v hj (noCall_ok h1) hfew h4) fun _ => rfl
      rw [if_neg hm]
      exact snd_dead
  · rw [if_neg h]; exact snd_dead
theorem snd_call (D : Gd CL X Wx g c k call) {fn : Expr} {cp : Pos} {args : List Expr} {ro : R3} {rs : List R3} {kws : List Keyword} {ks : List (Option Str × R3)} (hf : ∀ o m p, fn = .Attribute o m p → Snd CL X Wx o ro) (ha : Snds CL X Wx args rs) (hk : SndK CL X Wx kws ks) :
    Snd CL X Wx (.Call fn args kws cp) (evCall g c call fn cp args ro rs ks) := by
  unfold evCall
  split
  · rename_i f p
    by_cases hg : isGl c f = true
    · rw [if_pos hg]
      cases hf : g.fns.lookup f with
      | some F => exact snd_user D hg hf ha hk
      | none =>
        dsimp only
        cases hk with
        | cons _ _ => exact snd_dead
        | nil =>
          dsimp only
          obtain ⟨g1, g2, g3⟩ := D.glob hg
          by_cases h1 : g.gcd.contains f = true
          · rw [if_pos h1]
            by_cases hs : args.all noStar = true
            · rw [if_pos hs]
              cases args with
              | nil => exact snd_dead
              | cons e as =>
                rw [if_neg (by show ¬ (false = true); exact Bool.false_ne_true)]
                exact snd_V (je_fnI ok_gcd cr_gcd g1 (D.gl.gcd f h1) g2 (ha.jos hs)) fun _ => rfl
            · rw [if_neg hs]; exact snd_dead
          · rw [if_neg h1]
            by_cases h2 : g.blt.contains f = true
            · rw [if_pos h2]; exact snd_blt D hg h2 ha
            · rw [if_neg h2]; exact snd_dead
    · rw [if_neg hg]; exact snd_dead
  · rename_i o m ap
    cases hk with
    | cons _ _ => exact snd_dead
    | nil =>
      dsimp only
      by_cases h1 : m = sAppend
      · rw [if_pos h1]; exact snd_meth D ha
      · rw [if_neg h1]
        by_cases h2 : m = sPop
        · rw [if_pos h2]; exact snd_meth D ha
        · rw [if_neg h2]
          by_cases h3 : m = sExtend
          · rw [if_pos h3]; exact snd_meth D ha
          · rw [if_neg h3]
            by_cases h4 : m = sGet
            · rw [if_pos h4]
              have h4 := h4.trans sGet_eq
              subst h4
              exact snd_get D (hf _ _ _ rfl) ha
            · rw [if_neg h4]; exact snd_txt (hf _ _ _ rfl) ha
  · exact snd_dead
/-! ### targets, iterables, comprehensions -/
theorem Gd.loc (D : Gd CL X Wx g c k call) {x : Str} {i : Nat} (h : slotL c x = some i) : X.N[i]? = some x ∧ Loc X.env.scope x ∧ (X.fn x = true ∨ X.env.scope.names.lookup x = some .local) := by
  unfold slotL at h
  rw [D.hN, D.sc]
  cases hl : c.sc.names.lookup x with
  | none => rw [hl] at h; cases h
  | some kd =>
    rw [hl] at h
    cases kd with
    | «local» => exact ⟨ixOf_ok h, .inl hl, .inr rfl⟩
    | cell =>
      dsimp only at h
      cases hf : c.fnc with
      | true => rw [hf, if_pos rfl] at h; exact ⟨ixOf_ok h, .inr hl, .inl (D.fn hf x)⟩
      | false => rw [hf, if_neg Bool.false_ne_true] at h; cases h
    | _ => cases h
theorem slotLs_ok (D : Gd CL X Wx g c k call) : ∀ {as : List Expr} {is : List Nat}, slotLs c as = some is → JTg X as is
  | [], _, h => by cases h; exact .nil
  | e :: r, is, h => by
    cases e with
    | Name x p =>
      have h : (match slotL c x, slotLs c r with
        | some i, some is => some (i :: is)
        | _, _ => none) = some is := h
      cases h1 : slotL c x with
      | none => rw [h1] at h; cases h
      | some i =>
        cases h2 : slotLs c r with
        | none => rw [h1, h2] at h; cases h
        | some js =>
          rw [h1, h2] at h
          cases h
          obtain ⟨a, b, d⟩ := D.loc h1
          exact .cons a b d (slotLs_ok D h2)
    | _ => cases h
/-- the target as the rules have it -/
def tgG (K : PySem.W.Frag) (c : Cxt) : Expr → TG
  | .Name x _ => match slotL c x with
    | some i => gName i
    | none => gName 0
  | .Tuple as _ _ => match slotLs c as with
    | some is => gTup K is.length (gNames is)
    | none => gName 0
  | _ => gName 0
theorem setAll_nr : ∀ {is : List Nat} {xs : List PyData} {s : S} {x : Ex} {s' : S}, setAll is xs s ≠ .raise x s'
  | [], [], s, x, s' => by intro h; cases h
  | [], _ :: _, s, x, s' => by intro h; cases h
  | _ :: _, [], s, x, s' => by intro h; cases h
  | i :: is, y :: ys, s, x, s' => by
    intro h
    unfold setAll eb rb setS at h
    by_cases hi : i < s.rho.length
    · rw [if_pos hi] at h
      exact setAll_nr h
    · rw [if_neg hi] at h; cases h
theorem evTg_pg (D : Gd CL X Wx g c k call) (hc : X.calm = true) {tg : Expr} {t : PyData → EM Unit} (h : evTg c tg = some t) : PG X tg (tgG X.K c tg) := by
  cases tg with
  | Name x p =>
    have h : (slotL c x).map tgName = some t := h
    cases hs : slotL c x with
    | none => rw [hs] at h; cases h
    | some i =>
      obtain ⟨a, b, d⟩ := D.loc hs
      have e : tgG X.K c (.Name x p) = gName i := by show (match slotL c x with | some i => gName i | none => gName 0) = _; rw [hs]
      rw [e]
      exact pg_name D.nd a b d
  | Tuple as kk p =>
    have h : (slotLs c as).map tgTup = some t := h
    cases hs : slotLs c as with
    | none => rw [hs] at h; cases h
    | some is =>
      have J := slotLs_ok D hs
      have e : tgG X.K c (.Tuple as kk p) = gTup X.K is.length (gNames is) := by show (match slotLs c as with | some is => gTup X.K is.length (gNames is) | none => gName 0) = _; rw [hs]
      rw [e]
      exact pg_tup (n := is.length) hc (J.pgs D.nd) J.len.1 J.len.2
  | _ => cases h
theorem evTg_s {K : PySem.W.Frag} {tg : Expr} {t : PyData → EM Unit} (h : evTg c tg = some t) : TgS K CL (tgG K c tg) t ∧ (∀ d s x s', t d s ≠ .raise x s') ∧ ∀ vs : List Nat, (∀ i ∈ tgSl c tg, i ∈ vs) → TgO K CL vs (tgG K c tg) t := by
  cases tg with
  | Name x p =>
    have h : (slotL c x).map tgName = some t := h
    cases hs : slotL c x with
    | none => rw [hs] at h; cases h
    | some i =>
      rw [hs] at h
      cases h
      have e : tgG K c (.Name x p) = gName i := by show (match slotL c x with | some i => gName i | none => gName 0) = _; rw [hs]
      have e2 : tgSl c (.Name x p) = [i] := by show (match slotL c x with | some i => [i] | none => []) = _; rw [hs]
      rw [e, e2]
      refine ⟨tg_name, fun d s x s' e => ?_, fun vs hv => to_name (hv i (List.mem_singleton.mpr rfl))⟩
      unfold tgName setS at e
      by_cases hi : i < s.rho.length
      · rw [if_pos hi] at e; cases e
      · rw [if_neg hi] at e; cases e
  | Tuple as kk p =>
    have h : (slotLs c as).map tgTup = some t := h
    cases hs : slotLs c as with
    | none => rw [hs] at h; cases h
    | some is =>
      rw [hs] at h
      cases h
      have e : tgG K c (.Tuple as kk p) = gTup K is.length (gNames is) := by show (match slotLs c as with | some is => gTup K is.length (gNames is) | none => gName 0) = _; rw [hs]
      have e2 : tgSl c (.Tuple as kk p) = is := by show (match slotLs c as with | some is => is | none => []) = _; rw [hs]
      rw [e, e2]
      refine ⟨tg_tup, fun d s x s' e => ?_, fun vs hv => to_tup hv⟩
      unfold tgTup at e
      cases d with
      | tuple xs =>
        dsimp only at e
        by_cases hl : xs.length = is.length
        · rw [if_pos hl] at e; exact setAll_nr e
        · rw [if_neg hl] at e; cases e
      | _ => cases e
  | _ => cases h
theorem sZip_eq : sNZip = ("zip" : Str) := by kernel_rfl
theorem sRange_eq : sNRange = ("range" : Str) := by kernel_rfl
theorem ji_dead {tg it : Expr} : JI CL X Wx tg it es := by
  refine pi_imp (pi_seq (je_dead (CL := CL) (Wx := Wx) (e := it))) fun σ H Q q => ?_
  obtain ⟨G, s', S, q⟩ := q
  exact q.elim
theorem ji_src (D : Gd CL X Wx g c k call) {tg it : Expr} {r : R3} {rs : List R3} (h : Snd CL X Wx it r) (ha : ∀ fn args kws p, it = .Call fn args kws p → Snds CL X Wx args rs) : JI CL X Wx tg it (evSrc g c tg it r rs) := by
  unfold evSrc
  split
  · rename_i f pf args pc
    have hA := ha _ _ _ _ rfl
    clear ha
    by_cases hf : f = sNRange
    · rw [if_pos hf]
      by_cases hg : (isGl c f && g.blt.contains f) = true
      · rw [if_pos hg]
        rw [Bool.and_eq_true] at hg
        obtain ⟨g1, g2, g3⟩ := D.glob hg.1
        have hm := D.gl.blt f hg.2
        rw [sRange_eq] at hf
        subst hf
        split
        · rename_i a ra
          cases hA with
          | cons h1 _ =>
            by_cases hn : noStar a = true
            · rw [if_pos hn]; exact ji_range1 g1 hm h1.v (noStar_ok hn)
            · rw [if_neg hn]; exact ji_dead
        · rename_i a b ra rb
          cases hA with
          | cons h1 t =>
            cases t with
            | cons h2 _ =>
              by_cases hn : (noStar a && noStar b) = true
              · rw [if_pos hn]
                rw [Bool.and_eq_true] at hn
                have e2 := noStar_ok (es := []) (env := X.env) hn.2
                exact ji_range2 g1 hm h1.v h2.v (by rw [noStar_ok hn.1, e2]; rfl) e2
              · rw [if_neg hn]; exact ji_dead
        · exact ji_dead
      · rw [if_neg hg]; exact ji_dead
    · rw [if_neg hf]
      by_cases hz : f = sNZip
      · rw [if_pos hz]
        by_cases hg : (isGl c f && g.blt.contains f && isTupE tg) = true
        · rw [if_pos hg]
          rw [Bool.and_eq_true, Bool.and_eq_true] at hg
          obtain ⟨g1, g2, g3⟩ := D.glob hg.1.1
          have hm := D.gl.blt f hg.1.2
          rw [sZip_eq] at hz
          subst hz
          split
          · rename_i a b ra rb
            cases hA with
            | cons h1 t =>
              cases t with
              | cons h2 _ =>
                by_cases hn : (noStar a && noStar b) = true
                · rw [if_pos hn]
                  rw [Bool.and_eq_true] at hn
                  cases tg with
                  | Tuple elts kk tpos => exact ji_zip g1 hm h1.v h2.v (noStar_ok hn.1) (noStar_ok hn.2)
                  | _ => exact Bool.noConfusion hg.2
                · rw [if_neg hn]; exact ji_dead
          · exact ji_dead
        · rw [if_neg hg]; exact ji_dead
      · rw [if_neg hz]; exact ji_any h.v
  · exact ji_any h.v
theorem Gd.blk (D : Gd CL X Wx g c k call) (hh : c.hot = false) (scope : Scope) (s : Shared) (H : Hp) (C : Addr) (cl : List (Str × Addr)) (fp : List Addr) : Gd CL (X.blk s H scope (compEnvC scope cl C X.env) fp) WF g (blkX c scope) k call :=
  ⟨D.hN, D.nd, by show relS scope X.env.scope = relS scope c.sc; rw [D.sc], fun h => (nomatch h), D.un, D.gl, fun _ => ⟨(D.cold hh).calm, (D.cold hh).room, takes_none5, (D.cold hh).fns, fun x h => by
    obtain ⟨C', h1, h2, h3, h4, h5⟩ := ((D.cold hh).exs x h).is
    exact ⟨C', h1, h2, h3, h4, h5⟩⟩, fun h => (nomatch h), fun h => (nomatch h), D.kds⟩
/-- one clause: what is known of its parts -/
structure SndQ (g : GE) (k : Nat) (call : Call) (c : Cxt) (sc : Scope) (q : Comprehension) (m : CG) : Prop where
  tg : m.tg = q.target
  it : m.it = q.iter
  asy : m.asy = q.is_async
  src : ∀ (CL : CA) (X : Cx) (Wx : WX), Gd CL X Wx g c k call → JI CL X Wx q.target q.iter m.src
  ts : ∀ (CL : CA) (X : Cx) (Wx : WX), Gd CL X Wx g (blkX c sc) k call → Snds CL X Wx q.ifs m.ts
inductive SndQs (g : GE) (k : Nat) (call : Call) (c : Cxt) (sc : Scope) : List Comprehension → List CG → Prop
  | nil : SndQs g k call c sc [] []
  | cons {q : Comprehension} {qs : List Comprehension} {m : CG} {ms : List CG} (h : SndQ g k call c sc q m) (t : SndQs g k call c sc qs ms) : SndQs g k call c sc (q :: qs) (m :: ms)
/-- all that a comprehension's rules ask -/
structure LcP (CL : CA) (X : Cx) (Wx : WX) (e : Expr) (m : EM Ob) : Prop where
  is : ∃ (elt tg iter : Expr) (ifs : List Expr) (scope : Scope) (own : List (Str × Nat)) (pos : Pos) (src : EM (List PyData)) (G : TG) (t : PyData → EM Unit) (mc : EM Bool) (me : EM W), e = .ListComp elt [⟨tg, iter, ifs, 0⟩] scope pos ∧ m = cLc (own.map (·.2)) t mc me src ∧ X.calm = true ∧ JI CL X Wx tg iter src ∧ BlkOk X.N X.env.scope scope own ∧
    (∀ (s : Shared) (H : Hp) (C : Addr) (cl : List (Str × Addr)) (fp : List Addr), PG (X.blk s H scope (compEnvC scope cl C X.env) fp) tg G) ∧ TgO X.K CL (own.map (·.2)) G t ∧
    (∀ (s : Shared) (H : Hp) (C : Addr) (cl : List (Str × Addr)) (fp : List Addr), PTs (X.blk s H scope (compEnvC scope cl C X.env) fp) ifs (tOf X.K CL rBs WF mc)) ∧
    (∀ (s : Shared) (H : Hp) (C : Addr) (cl : List (Str × Addr)) (fp : List Addr), PE (X.blk s H scope (compEnvC scope cl C X.env) fp) elt (tOf X.K CL (rDs X.K) WF (evD me))) ∧ ∀ x, foldedSetIterable iter X.env x = pure x
theorem lcP_of (D : Gd CL X Wx g c k call) {gs : List Comprehension} {ms : List CG} {scope : Scope} {elt : Expr} {r : R3} {p : Pos} (hq : SndQs g k call c scope gs ms) (he : ∀ (CL : CA) (X : Cx) (Wx : WX), Gd CL X Wx g (blkX c scope) k call → Snd CL X Wx elt r) :
    evLc c scope ms r = dead ∨ ∃ m, evLc c scope ms r = ofN m ∧ LcP CL X Wx (.ListComp elt gs scope p) m := by
  unfold evLc
  split
  · rename_i q
    cases hq with
    | cons h t =>
      cases t
      rename_i cq
      obtain ⟨tg, it, ifs, asy⟩ := cq
      obtain ⟨h1, h2, h3, h4, h5⟩ := h
      dsimp only at h1 h2 h3 h4 h5
      cases hh : c.hot with
      | true => exact .inl rfl
      | false =>
        rw [if_neg Bool.false_ne_true]
        by_cases ha : q.asy = 0
        · rw [if_pos ha]
          by_cases hc : (noSet q.it && blkC c.N c.sc scope (ownOf c.N scope.names) && (tgSl (blkX c scope) q.tg).all (fun i => ((ownOf c.N scope.names).map (·.2)).contains i)) = true
          · rw [if_pos hc]
            rw [Bool.and_eq_true, Bool.and_eq_true] at hc
            obtain ⟨⟨c1, c2⟩, c3⟩ := hc
            cases ht : evTg (blkX c scope) q.tg with
            | none => exact .inl rfl
            | some tt =>
              cases hm : evTests q.ts with
              | none => exact .inl rfl
              | some mm =>
                obtain ⟨s1, s2, s3⟩ := evTg_s (CL := CL) (K := X.K) ht
                have hs3 := s3 ((ownOf c.N scope.names).map (·.2)) fun i hi => by
                  have := List.all_eq_true.mp c3 i hi
                  simpa using this
                rw [h3] at ha
                subst ha
                refine .inr ⟨_, rfl, elt, tg, it, ifs, scope, ownOf c.N scope.names, p, q.src, _, tt, mm, r.v, rfl, rfl, (D.cold hh).calm, h4 CL X Wx D, by rw [D.hN, D.sc]; exact blkOk_by c2, fun s H C cl fp => ?_, hs3, fun s H C cl fp => ?_, fun s H C cl fp => jd_of (he _ _ _ (D.blk hh scope s H C cl fp)).v, noSet_fold (by rw [← h2]; exact c1)⟩
                · rw [← h1]
                  exact evTg_pg (D.blk hh scope s H C cl fp) (D.cold hh).calm ht
                · have hts := h5 _ _ _ (D.blk hh scope s H C cl fp)
                  cases hq2 : q.ts with
                  | nil =>
                    rw [hq2] at hts hm
                    cases hts
                    cases hm
                    exact pts_yes
                  | cons r1 rs =>
                    rw [hq2] at hts hm
                    cases rs with
                    | cons _ _ => cases hm
                    | nil =>
                      cases hm
                      cases hts with
                      | cons hx t => cases t; exact pts_one hx.t
          · rw [if_neg hc]; exact .inl rfl
        · rw [if_neg ha]; exact .inl rfl
  · exact .inl rfl
theorem snd_lc (D : Gd CL X Wx g c k call) {gs : List Comprehension} {ms : List CG} {scope : Scope} {elt : Expr} {r : R3} {p : Pos} (hq : SndQs g k call c scope gs ms) (he : ∀ (CL : CA) (X : Cx) (Wx : WX), Gd CL X Wx g (blkX c scope) k call → Snd CL X Wx elt r) : Snd CL X Wx (.ListComp elt gs scope p) (evLc c scope ms r) := by
  rcases lcP_of (p := p) D hq he with e | ⟨m, e, ⟨elt', tg, it, ifs, sc', own, pos, src, G, t, mc, me, e1, rfl, a1, a2, a3, a4, a5, a6, a7, a8⟩⟩
  · rw [e]; exact snd_dead
  · rw [e]
    cases e1
    exact snd_N (jn_lc a1 D.nd a2 a3 a4 a5 a6 a7 a8) fun _ => rfl
theorem snd_sub (D : Gd CL X Wx g c k call) (hu : X.A.units + 128 < cLine) {a b : Expr} {p : Pos} {ra rb : R3} {sl : Option (Option (EM W) × Option (EM W))} (ha : Snd CL X Wx a ra) (hb : Snd CL X Wx b rb) (hs : ∀ lo hi st p ml mh, b = .Slice lo hi st p → sl = some (ml, mh) → JP CL X Wx lo (part ml) ∧ JP CL X Wx hi (part mh)) :
    Snd CL X Wx (.Subscript a b p) (evSub (evKd g c a) b ra rb sl) := by
  unfold evSub
  cases hkd : evKd g c a with
  | some l =>
    obtain ⟨x, px, rfl, hg, hl⟩ := evKd_is hkd
    obtain ⟨g1, g2, g3⟩ := D.glob hg
    dsimp only
    by_cases h : noSlice b = true
    · rw [if_pos h]
      exact snd_V (je_kd (D.kds x l hl) g1 g2 (noSlice_ok h) hb.o) fun _ => rfl
    · rw [if_neg h]; exact snd_dead
  | none =>
    dsimp only
    by_cases h : noSlice b = true
    · rw [if_pos h]
      exact snd_V (je_ix (by omega) (noSlice_ok h) ha.o hb.o) fun _ => rfl
    · rw [if_neg h]
      split
      · rename_i lo hi p2 ml mh
        obtain ⟨j1, j2⟩ := hs lo hi none p2 ml mh rfl rfl
        exact snd_V (je_sl ha.o j1 j2) fun _ => rfl
      · exact snd_dead
/-- what a dict comprehension's rules ask -/
structure DcP (CL : CA) (X : Cx) (Wx : WX) (e : Expr) (m : EM Ob) : Prop where
  is : ∃ (kx elt tg iter : Expr) (ifs : List Expr) (scope : Scope) (own : List (Str × Nat)) (pos : Pos) (src : EM (List PyData)) (G : TG) (t : PyData → EM Unit) (mc : EM Bool) (mk me : EM W), e = .DictComp kx elt [⟨tg, iter, ifs, 0⟩] scope pos ∧ m = cDc (own.map (·.2)) t mc mk me src ∧ X.calm = true ∧ JI CL X Wx tg iter src ∧ BlkOk X.N X.env.scope scope own ∧
    (∀ (s : Shared) (H : Hp) (C : Addr) (cl : List (Str × Addr)) (fp : List Addr), PG (X.blk s H scope (compEnvC scope cl C X.env) fp) tg G) ∧ TgO X.K CL (own.map (·.2)) G t ∧
    (∀ (s : Shared) (H : Hp) (C : Addr) (cl : List (Str × Addr)) (fp : List Addr), PTs (X.blk s H scope (compEnvC scope cl C X.env) fp) ifs (tOf X.K CL rBs WF mc)) ∧
    (∀ (s : Shared) (H : Hp) (C : Addr) (cl : List (Str × Addr)) (fp : List Addr), PE (X.blk s H scope (compEnvC scope cl C X.env) fp) kx (tOf X.K CL (rDs X.K) WF (evD mk))) ∧
    (∀ (s : Shared) (H : Hp) (C : Addr) (cl : List (Str × Addr)) (fp : List Addr), PE (X.blk s H scope (compEnvC scope cl C X.env) fp) elt (tOf X.K CL (rDs X.K) WF (evD me))) ∧ ∀ x, foldedSetIterable iter X.env x = pure x
theorem dcP_of (D : Gd CL X Wx g c k call) {gs : List Comprehension} {ms : List CG} {scope : Scope} {kx elt : Expr} {rk r : R3} {p : Pos} (hq : SndQs g k call c scope gs ms) (hk : ∀ (CL : CA) (X : Cx) (Wx : WX), Gd CL X Wx g (blkX c scope) k call → Snd CL X Wx kx rk) (he : ∀ (CL : CA) (X : Cx) (Wx : WX), Gd CL X Wx g (blkX c scope) k call → Snd CL X Wx elt r) :
    evDc c scope ms rk r = dead ∨ ∃ m, evDc c scope ms rk r = ofN m ∧ DcP CL X Wx (.DictComp kx elt gs scope p) m := by
  unfold evDc
  split
  · rename_i q
    cases hq with
    | cons h t =>
      cases t
      rename_i cq
      obtain ⟨tg, it, ifs, asy⟩ := cq
      obtain ⟨h1, h2, h3, h4, h5⟩ := h
      dsimp only at h1 h2 h3 h4 h5
      cases hh : c.hot with
      | true => exact .inl rfl
      | false =>
        rw [if_neg Bool.false_ne_true]
        by_cases ha : q.asy = 0
        · rw [if_pos ha]
          by_cases hc : (noSet q.it && blkC c.N c.sc scope (ownOf c.N scope.names) && (tgSl (blkX c scope) q.tg).all (fun i => ((ownOf c.N scope.names).map (·.2)).contains i)) = true
          · rw [if_pos hc]
            rw [Bool.and_eq_true, Bool.and_eq_true] at hc
            obtain ⟨⟨c1, c2⟩, c3⟩ := hc
            cases ht : evTg (blkX c scope) q.tg with
            | none => exact .inl rfl
            | some tt =>
              cases hm : evTests q.ts with
              | none => exact .inl rfl
              | some mm =>
                obtain ⟨s1, s2, s3⟩ := evTg_s (CL := CL) (K := X.K) ht
                have hs3 := s3 ((ownOf c.N scope.names).map (·.2)) fun i hi => by
                  have := List.all_eq_true.mp c3 i hi
                  simpa using this
                rw [h3] at ha
                subst ha
                refine .inr ⟨_, rfl, kx, elt, tg, it, ifs, scope, ownOf c.N scope.names, p, q.src, _, tt, mm, rk.v, r.v, rfl, rfl, (D.cold hh).calm, h4 CL X Wx D, by rw [D.hN, D.sc]; exact blkOk_by c2, fun s H C cl fp => ?_, hs3, fun s H C cl fp => ?_, fun s H C cl fp => jd_of (hk _ _ _ (D.blk hh scope s H C cl fp)).v, fun s H C cl fp => jd_of (he _ _ _ (D.blk hh scope s H C cl fp)).v, noSet_fold (by rw [← h2]; exact c1)⟩
                · rw [← h1]
                  exact evTg_pg (D.blk hh scope s H C cl fp) (D.cold hh).calm ht
                · have hts := h5 _ _ _ (D.blk hh scope s H C cl fp)
                  cases hq2 : q.ts with
                  | nil =>
                    rw [hq2] at hts hm
                    cases hts
                    cases hm
                    exact pts_yes
                  | cons r1 rs =>
                    rw [hq2] at hts hm
                    cases rs with
                    | cons _ _ => cases hm
                    | nil =>
                      cases hm
                      cases hts with
                      | cons hx t => cases t; exact pts_one hx.t
          · rw [if_neg hc]; exact .inl rfl
        · rw [if_neg ha]; exact .inl rfl
  · exact .inl rfl
theorem snd_dc (D : Gd CL X Wx g c k call) {gs : List Comprehension} {ms : List CG} {scope : Scope} {kx elt : Expr} {rk r : R3} {p : Pos} (hq : SndQs g k call c scope gs ms) (hk : ∀ (CL : CA) (X : Cx) (Wx : WX), Gd CL X Wx g (blkX c scope) k call → Snd CL X Wx kx rk) (he : ∀ (CL : CA) (X : Cx) (Wx : WX), Gd CL X Wx g (blkX c scope) k call → Snd CL X Wx elt r) : Snd CL X Wx (.DictComp kx elt gs scope p) (evDc c scope ms rk r) := by
  rcases dcP_of (p := p) D hq hk he with e | ⟨m, e, ⟨kx', elt', tg, it, ifs, sc', own, pos, src, G, t, mc, mk, me, e1, rfl, a1, a2, a3, a4, a5, a6, a9, a7, a8⟩⟩
  · rw [e]; exact snd_dead
  · rw [e]
    cases e1
    exact snd_N (pe_imp (pe_dc a1 D.nd a2 a3 a4 a6 a9 a7 a8) fun σ H Q q => dc_imp a5 q) fun _ => rfl
inductive SndOs (CL : CA) (X : Cx) (Wx : WX) : List (Option Expr) → List (Option (EM W)) → Prop
  | nil : SndOs CL X Wx [] []
  | none {es : List (Option Expr)} {ms : List (Option (EM W))} (t : SndOs CL X Wx es ms) : SndOs CL X Wx (none :: es) (none :: ms)
  | some {e : Expr} {m : EM W} {es : List (Option Expr)} {ms : List (Option (EM W))} (h : JE CL X Wx e m) (t : SndOs CL X Wx es ms) : SndOs CL X Wx (some e :: es) (some m :: ms)
theorem prs_ok : ∀ {ks : List (Option Expr)} {mk : List (Option (EM W))} {vs : List Expr} {mv : List R3} {ms : List (EM W × EM W)}, SndOs CL X Wx ks mk → Snds CL X Wx vs mv → prsOf mk mv = some ms → JPs CL X Wx ks vs ms
  | _, _, _, _, _, .nil, .nil, h => by cases h; exact .nil
  | _, _, _, _, _, .nil, .cons _ _, h => by cases h
  | _, _, _, _, _, .none _, .nil, h => by cases h
  | _, _, _, _, _, .none _, .cons _ _, h => by cases h
  | _, _, _, _, _, .some _ _, .nil, h => by cases h
  | _, _, _, _, ms, .some (m := m) (ms := mk) hk tk, .cons (r := r) (rs := rs) hv tv, h => by
    have h : (prsOf mk rs).map ((m, r.v) :: ·) = some ms := h
    cases e : prsOf mk rs with
    | none => rw [e] at h; cases h
    | some ms' =>
      rw [e] at h
      cases h
      exact .cons hk hv.v (prs_ok tk tv e)
theorem snd_dsp {ks : List (Option Expr)} {vs : List Expr} {mk : List (Option (EM W))} {mv : List R3} {p : Pos} (hk : SndOs CL X Wx ks mk) (hv : Snds CL X Wx vs mv) : Snd CL X Wx (.Dict ks vs p) (evDsp ks vs mk mv) := by
  unfold evDsp
  cases ks with
  | nil =>
    cases vs with
    | nil => exact snd_N jn_dict0 fun _ => rfl
    | cons _ _ => exact snd_dead
  | cons k ks =>
    rw [if_neg (by show ¬ (false = true); exact Bool.false_ne_true)]
    by_cases hl : (k :: ks).length ≤ 15
    · rw [if_pos hl]
      cases e : prsOf mk mv with
      | none => exact snd_dead
      | some ms => exact snd_N (jn_disp (prs_ok hk hv e) (fun z => (nomatch z)) hl) fun _ => rfl
    · rw [if_neg hl]; exact snd_dead
theorem Snds.jj : ∀ {as : List Expr} {rs : List R3}, Snds CL X Wx as rs → JJ CL X Wx as (rs.map R3.v)
  | _, _, .nil => .nil
  | _, _, .cons h t => .cons h.v t.jj
theorem snd_jst {vs : List Expr} {rs : List R3} {p : Pos} (h : Snds CL X Wx vs rs) : Snd CL X Wx (.JoinedStr vs p) (evJs rs) := by
  unfold evJs
  split
  · have j := h.jj
    cases h with
    | cons h1 t =>
      cases t with
      | cons h2 t2 => exact snd_V (je_js j) fun _ => rfl
  · exact snd_dead
theorem snd_fv {e : Expr} {r : R3} {cv : Int} {sp : Option Expr} {p : Pos} (h : Snd CL X Wx e r) : Snd CL X Wx (.FormattedValue e cv sp p) (evFv cv sp r) := by
  unfold evFv
  by_cases hc : cv = -1
  · rw [if_pos hc]
    subst hc
    cases sp with
    | none => exact snd_V (je_fmt h.o) fun _ => rfl
    | some _ => exact snd_dead
  · rw [if_neg hc]; exact snd_dead
mutual
theorem snd_ev (g : GE) (k : Nat) (call : Call) : ∀ (e : Expr) (CL : CA) (X : Cx) (Wx : WX) (c : Cxt), Gd CL X Wx g c k call → Snd CL X Wx e (ev g call e c)
  | .Constant kk _ _, CL, X, Wx, c, D => snd_const
  | .Name x _, CL, X, Wx, c, D => snd_name D
  | .BinOp a op b p, CL, X, Wx, c, D => by
    have ha := snd_ev g k call a CL X Wx c D
    have hb := snd_ev g k call b CL X Wx c D
    show Snd CL X Wx _ (match binF op with
      | some f => ofV (cP2 f (ev g call a c).o (ev g call b c).o)
      | none => dead)
    cases hf : binF op with
    | none => exact snd_dead
    | some f =>
      obtain ⟨r, h1, h2⟩ := binF_ok (X := X) hf
      exact snd_V (je_bin h2 h1 ha.o hb.o) fun _ => rfl
  | .UnaryOp op a _, CL, X, Wx, c, D => snd_un (snd_ev g k call a CL X Wx c D)
  | .BoolOp op as p, CL, X, Wx, c, D => by
    obtain ⟨h1, h2⟩ := boolV_ok (op := op) (p := p) (snd_evs g k call as CL X Wx c D)
    exact ⟨h1, PW.pt h2, fun _ h => (nomatch h), fun _ h => (nomatch h)⟩
  | .Compare a ops bs _, CL, X, Wx, c, D => snd_cmp D D.un (snd_ev g k call a CL X Wx c D) (snd_evs g k call bs CL X Wx c D)
  | .IfExp t a b _, CL, X, Wx, c, D => ⟨je_if (snd_ev g k call t CL X Wx c D).t (snd_ev g k call a CL X Wx c D).v (snd_ev g k call b CL X Wx c D).v, jt_dead, fun _ h => (nomatch h), fun _ h => (nomatch h)⟩
  | .Subscript a b p, CL, X, Wx, c, D => by
    have ha := snd_ev g k call a CL X Wx c D
    have hb := snd_ev g k call b CL X Wx c D
    have hs := snd_evSl g k call b CL X Wx c D
    exact snd_sub D D.un ha hb hs
  | .Tuple as kk p, CL, X, Wx, c, D => by
    have hs := snd_evs g k call as CL X Wx c D
    show Snd CL X Wx _ (if as.all noStar = true then ofV (cTup ((evs g call as c).map R3.v)) else dead)
    by_cases h : as.all noStar = true
    · rw [if_pos h]
      exact snd_V (je_tup (hs.ja h)) fun _ => rfl
    · rw [if_neg h]; exact snd_dead
  | .List as p, CL, X, Wx, c, D => by
    have hs := snd_evs g k call as CL X Wx c D
    show Snd CL X Wx _ (if as.all noStar = true then ofN (cLst ((evs g call as c).map R3.v)) else dead)
    by_cases h : as.all noStar = true
    · rw [if_pos h]
      exact snd_N (jn_lst (hs.ja h)) fun _ => rfl
    · rw [if_neg h]; exact snd_dead
  | .Dict ks vs p, CL, X, Wx, c, D => snd_dsp (snd_evos g k call ks CL X Wx c D) (snd_evs g k call vs CL X Wx c D)
  | .Call fn args kws cp, CL, X, Wx, c, D => snd_call D (snd_evf g k call fn CL X Wx c D) (snd_evs g k call args CL X Wx c D) (snd_evk g k call kws CL X Wx c D)
  | .ListComp e gs scope p, CL, X, Wx, c, D => snd_lc D (snd_evgs g k call gs scope c) (fun CL X Wx D' => snd_ev g k call e CL X Wx (blkX c scope) D')
  | .NamedExpr .., _, _, _, _, _ => snd_dead
  | .Lambda .., _, _, _, _, _ => snd_dead
  | .Set .., _, _, _, _, _ => snd_dead
  | .SetComp .., _, _, _, _, _ => snd_dead
  | .DictComp kx e gs scope p, CL, X, Wx, c, D => snd_dc D (snd_evgs g k call gs scope c) (fun CL X Wx D' => snd_ev g k call kx CL X Wx (blkX c scope) D') (fun CL X Wx D' => snd_ev g k call e CL X Wx (blkX c scope) D')
  | .JoinedStr vs p, CL, X, Wx, c, D => snd_jst (snd_evs g k call vs CL X Wx c D)
  | .FormattedValue e cv sp p, CL, X, Wx, c, D => snd_fv (snd_ev g k call e CL X Wx c D)
  | .GeneratorExp .., _, _, _, _, _ => snd_dead
  | .Await .., _, _, _, _, _ => snd_dead
  | .Yield .., _, _, _, _, _ => snd_dead
  | .YieldFrom .., _, _, _, _, _ => snd_dead
  | .Attribute .., _, _, _, _, _ => snd_dead
  | .Starred .., _, _, _, _, _ => snd_dead
  | .Slice .., _, _, _, _, _ => snd_dead
theorem snd_evSl (g : GE) (k : Nat) (call : Call) : ∀ (e : Expr) (CL : CA) (X : Cx) (Wx : WX) (c : Cxt), Gd CL X Wx g c k call → ∀ lo hi st p ml mh, e = .Slice lo hi st p → evSl g call e c = some (ml, mh) → JP CL X Wx lo (part ml) ∧ JP CL X Wx hi (part mh)
  | .Slice lo hi st p, CL, X, Wx, c, D => fun lo' hi' st' p' ml mh e1 e2 => by
    have h1 := snd_evo g k call lo CL X Wx c D
    have h2 := snd_evo g k call hi CL X Wx c D
    cases e1
    cases e2
    exact ⟨h1, h2⟩
  | .Constant .., _, _, _, _, _ => fun _ _ _ _ _ _ e1 _ => (nomatch e1)
  | .Name .., _, _, _, _, _ => fun _ _ _ _ _ _ e1 _ => (nomatch e1)
  | .BinOp .., _, _, _, _, _ => fun _ _ _ _ _ _ e1 _ => (nomatch e1)
  | .UnaryOp .., _, _, _, _, _ => fun _ _ _ _ _ _ e1 _ => (nomatch e1)
  | .BoolOp .., _, _, _, _, _ => fun _ _ _ _ _ _ e1 _ => (nomatch e1)
  | .Compare .., _, _, _, _, _ => fun _ _ _ _ _ _ e1 _ => (nomatch e1)
  | .IfExp .., _, _, _, _, _ => fun _ _ _ _ _ _ e1 _ => (nomatch e1)
  | .Subscript .., _, _, _, _, _ => fun _ _ _ _ _ _ e1 _ => (nomatch e1)
  | .Tuple .., _, _, _, _, _ => fun _ _ _ _ _ _ e1 _ => (nomatch e1)
  | .List .., _, _, _, _, _ => fun _ _ _ _ _ _ e1 _ => (nomatch e1)
  | .Dict .., _, _, _, _, _ => fun _ _ _ _ _ _ e1 _ => (nomatch e1)
  | .Call .., _, _, _, _, _ => fun _ _ _ _ _ _ e1 _ => (nomatch e1)
  | .ListComp .., _, _, _, _, _ => fun _ _ _ _ _ _ e1 _ => (nomatch e1)
  | .NamedExpr .., _, _, _, _, _ => fun _ _ _ _ _ _ e1 _ => (nomatch e1)
  | .Lambda .., _, _, _, _, _ => fun _ _ _ _ _ _ e1 _ => (nomatch e1)
  | .Set .., _, _, _, _, _ => fun _ _ _ _ _ _ e1 _ => (nomatch e1)
  | .SetComp .., _, _, _, _, _ => fun _ _ _ _ _ _ e1 _ => (nomatch e1)
  | .DictComp .., _, _, _, _, _ => fun _ _ _ _ _ _ e1 _ => (nomatch e1)
  | .GeneratorExp .., _, _, _, _, _ => fun _ _ _ _ _ _ e1 _ => (nomatch e1)
  | .Await .., _, _, _, _, _ => fun _ _ _ _ _ _ e1 _ => (nomatch e1)
  | .Yield .., _, _, _, _, _ => fun _ _ _ _ _ _ e1 _ => (nomatch e1)
  | .YieldFrom .., _, _, _, _, _ => fun _ _ _ _ _ _ e1 _ => (nomatch e1)
  | .FormattedValue .., _, _, _, _, _ => fun _ _ _ _ _ _ e1 _ => (nomatch e1)
  | .JoinedStr .., _, _, _, _, _ => fun _ _ _ _ _ _ e1 _ => (nomatch e1)
  | .Attribute .., _, _, _, _, _ => fun _ _ _ _ _ _ e1 _ => (nomatch e1)
  | .Starred .., _, _, _, _, _ => fun _ _ _ _ _ _ e1 _ => (nomatch e1)
theorem snd_evf (g : GE) (k : Nat) (call : Call) : ∀ (e : Expr) (CL : CA) (X : Cx) (Wx : WX) (c : Cxt), Gd CL X Wx g c k call → ∀ o m p, e = .Attribute o m p → Snd CL X Wx o (evf g call e c)
  | .Attribute o m p, CL, X, Wx, c, D => fun o' m' p' e => by
    have h := snd_ev g k call o CL X Wx c D
    cases e
    exact h
  | .Constant .., _, _, _, _, _ => fun _ _ _ e => (nomatch e)
  | .Name .., _, _, _, _, _ => fun _ _ _ e => (nomatch e)
  | .BinOp .., _, _, _, _, _ => fun _ _ _ e => (nomatch e)
  | .UnaryOp .., _, _, _, _, _ => fun _ _ _ e => (nomatch e)
  | .BoolOp .., _, _, _, _, _ => fun _ _ _ e => (nomatch e)
  | .Compare .., _, _, _, _, _ => fun _ _ _ e => (nomatch e)
  | .IfExp .., _, _, _, _, _ => fun _ _ _ e => (nomatch e)
  | .Subscript .., _, _, _, _, _ => fun _ _ _ e => (nomatch e)
  | .Tuple .., _, _, _, _, _ => fun _ _ _ e => (nomatch e)
  | .List .., _, _, _, _, _ => fun _ _ _ e => (nomatch e)
  | .Dict .., _, _, _, _, _ => fun _ _ _ e => (nomatch e)
  | .Call .., _, _, _, _, _ => fun _ _ _ e => (nomatch e)
  | .ListComp .., _, _, _, _, _ => fun _ _ _ e => (nomatch e)
  | .NamedExpr .., _, _, _, _, _ => fun _ _ _ e => (nomatch e)
  | .Lambda .., _, _, _, _, _ => fun _ _ _ e => (nomatch e)
  | .Set .., _, _, _, _, _ => fun _ _ _ e => (nomatch e)
  | .SetComp .., _, _, _, _, _ => fun _ _ _ e => (nomatch e)
  | .DictComp .., _, _, _, _, _ => fun _ _ _ e => (nomatch e)
  | .GeneratorExp .., _, _, _, _, _ => fun _ _ _ e => (nomatch e)
  | .Await .., _, _, _, _, _ => fun _ _ _ e => (nomatch e)
  | .Yield .., _, _, _, _, _ => fun _ _ _ e => (nomatch e)
  | .YieldFrom .., _, _, _, _, _ => fun _ _ _ e => (nomatch e)
  | .FormattedValue .., _, _, _, _, _ => fun _ _ _ e => (nomatch e)
  | .JoinedStr .., _, _, _, _, _ => fun _ _ _ e => (nomatch e)
  | .Starred .., _, _, _, _, _ => fun _ _ _ e => (nomatch e)
  | .Slice .., _, _, _, _, _ => fun _ _ _ e => (nomatch e)
theorem snd_evo (g : GE) (k : Nat) (call : Call) : ∀ (e : Option Expr) (CL : CA) (X : Cx) (Wx : WX) (c : Cxt), Gd CL X Wx g c k call → JP CL X Wx e (part (evo g call e c))
  | none, _, _, _, _, _ => jp_none
  | some e, CL, X, Wx, c, D => jp_some (snd_ev g k call e CL X Wx c D).v
theorem snd_evos (g : GE) (k : Nat) (call : Call) : ∀ (as : List (Option Expr)) (CL : CA) (X : Cx) (Wx : WX) (c : Cxt), Gd CL X Wx g c k call → SndOs CL X Wx as (evos g call as c)
  | [], _, _, _, _, _ => .nil
  | none :: r, CL, X, Wx, c, D => .none (snd_evos g k call r CL X Wx c D)
  | some e :: r, CL, X, Wx, c, D => .some (snd_ev g k call e CL X Wx c D).v (snd_evos g k call r CL X Wx c D)
theorem snd_evs (g : GE) (k : Nat) (call : Call) : ∀ (as : List Expr) (CL : CA) (X : Cx) (Wx : WX) (c : Cxt), Gd CL X Wx g c k call → Snds CL X Wx as (evs g call as c)
  | [], _, _, _, _, _ => .nil
  | e :: r, CL, X, Wx, c, D => .cons (snd_ev g k call e CL X Wx c D) (snd_evs g k call r CL X Wx c D)
theorem snd_evk (g : GE) (k : Nat) (call : Call) : ∀ (ks : List Keyword) (CL : CA) (X : Cx) (Wx : WX) (c : Cxt), Gd CL X Wx g c k call → SndK CL X Wx ks (evk g call ks c)
  | [], _, _, _, _, _ => .nil
  | q :: r, CL, X, Wx, c, D => snd_evk1 g k call q CL X Wx c D _ _ (snd_evk g k call r CL X Wx c D)
theorem snd_evk1 (g : GE) (k : Nat) (call : Call) : ∀ (q : Keyword) (CL : CA) (X : Cx) (Wx : WX) (c : Cxt), Gd CL X Wx g c k call → ∀ (ks : List Keyword) (rs : List (Option Str × R3)), SndK CL X Wx ks rs → SndK CL X Wx (q :: ks) (evk1 g call q c :: rs)
  | ⟨n, e, p⟩, CL, X, Wx, c, D => fun ks rs t => .cons (snd_ev g k call e CL X Wx c D) t
theorem snd_evgs (g : GE) (k : Nat) (call : Call) : ∀ (qs : List Comprehension) (sc : Scope) (c : Cxt), SndQs g k call c sc qs (evgs g call qs sc c)
  | [], _, _ => .nil
  | q :: r, sc, c => .cons (snd_evg1 g k call q sc c) (snd_evgs g k call r sc c)
theorem snd_evg1 (g : GE) (k : Nat) (call : Call) : ∀ (q : Comprehension) (sc : Scope) (c : Cxt), SndQ g k call c sc q (evg1 g call q sc c)
  | ⟨tg, it, ifs, asy⟩, sc, c => ⟨rfl, rfl, rfl, fun CL X Wx D => ji_src D (snd_ev g k call it CL X Wx c D) (snd_evr g k call it CL X Wx c D), fun CL X Wx D => snd_evs g k call ifs CL X Wx (blkX c sc) D⟩
theorem snd_evr (g : GE) (k : Nat) (call : Call) : ∀ (e : Expr) (CL : CA) (X : Cx) (Wx : WX) (c : Cxt), Gd CL X Wx g c k call → ∀ fn args kws p, e = .Call fn args kws p → Snds CL X Wx args (evr g call e c)
  | .Call fn args kws p, CL, X, Wx, c, D => fun fn' args' kws' p' e => by
    have h := snd_evs g k call args CL X Wx c D
    cases e
    exact h
  | .Constant .., _, _, _, _, _ => fun _ _ _ _ e => (nomatch e)
  | .Name .., _, _, _, _, _ => fun _ _ _ _ e => (nomatch e)
  | .BinOp .., _, _, _, _, _ => fun _ _ _ _ e => (nomatch e)
  | .UnaryOp .., _, _, _, _, _ => fun _ _ _ _ e => (nomatch e)
  | .BoolOp .., _, _, _, _, _ => fun _ _ _ _ e => (nomatch e)
  | .Compare .., _, _, _, _, _ => fun _ _ _ _ e => (nomatch e)
  | .IfExp .., _, _, _, _, _ => fun _ _ _ _ e => (nomatch e)
  | .Subscript .., _, _, _, _, _ => fun _ _ _ _ e => (nomatch e)
  | .Tuple .., _, _, _, _, _ => fun _ _ _ _ e => (nomatch e)
  | .List .., _, _, _, _, _ => fun _ _ _ _ e => (nomatch e)
  | .Dict .., _, _, _, _, _ => fun _ _ _ _ e => (nomatch e)
  | .ListComp .., _, _, _, _, _ => fun _ _ _ _ e => (nomatch e)
  | .NamedExpr .., _, _, _, _, _ => fun _ _ _ _ e => (nomatch e)
  | .Lambda .., _, _, _, _, _ => fun _ _ _ _ e => (nomatch e)
  | .Set .., _, _, _, _, _ => fun _ _ _ _ e => (nomatch e)
  | .SetComp .., _, _, _, _, _ => fun _ _ _ _ e => (nomatch e)
  | .DictComp .., _, _, _, _, _ => fun _ _ _ _ e => (nomatch e)
  | .GeneratorExp .., _, _, _, _, _ => fun _ _ _ _ e => (nomatch e)
  | .Await .., _, _, _, _, _ => fun _ _ _ _ e => (nomatch e)
  | .Yield .., _, _, _, _, _ => fun _ _ _ _ e => (nomatch e)
  | .YieldFrom .., _, _, _, _, _ => fun _ _ _ _ e => (nomatch e)
  | .FormattedValue .., _, _, _, _, _ => fun _ _ _ _ e => (nomatch e)
  | .JoinedStr .., _, _, _, _, _ => fun _ _ _ _ e => (nomatch e)
  | .Attribute .., _, _, _, _, _ => fun _ _ _ _ e => (nomatch e)
  | .Starred .., _, _, _, _, _ => fun _ _ _ _ e => (nomatch e)
  | .Slice .., _, _, _, _, _ => fun _ _ _ _ e => (nomatch e)
end
end
end MP
/-! Part Q: the evaluator of statements and of defs, and its soundness. -/
namespace MP
open PySem PySem.Spec PyProof.Rows L2
def isLc : Expr → Bool
  | .ListComp _ _ _ _ => true
  | .DictComp _ _ _ _ _ => true
  | _ => false
noncomputable def evAsg (g : GE) (c : Cxt) (call : Call) (t e : Expr) : EM Fl := match t with
  | .Name x _ => match slotL c x with
    | some i => if noComp e = true then match (ev g call e c).n with
        | some m => sSetN i m
        | none => sSet i (ev g call e c).v
      else if isLc e = true then match (ev g call e c).n with
        | some m => sSetN i m
        | none => es
      else es
    | none => es
  | .Tuple as _ _ => if c.hot = true then es else if noTup e = true then match slotLs c as with
      | some is => sTup is (ev g call e c).v
      | none => es
    else es
  | .Subscript (.Name x _) b _ => if noSlice b = true then match slotOf c x with
      | some i => sPut i (ev g call b c).o (ev g call e c).v
      | none => es
    else es
  | _ => es
noncomputable def evAug (g : GE) (c : Cxt) (call : Call) (t : Expr) (op : Operator) (e : Expr) : EM Fl := match augF op with
  | some f => match t with
    | .Name x _ => match slotL c x with
      | some i => sAug i f (ev g call e c).o
      | none => es
    | .Subscript (.Name x _) b _ => if noSlice b = true then match slotOf c x with
        | some i => sAugIx i (ev g call b c).o f (ev g call e c).o
        | none => es
      else es
    | _ => es
  | none => es
noncomputable def evExpr (g : GE) (c : Cxt) (call : Call) (e : Expr) : EM Fl := match e with
  | .Constant (.str _) _ _ => er .next
  | e => if noComp e = true then sExpr (ev g call e c).v else es
def evRaise (g : GE) (c : Cxt) (e : Expr) : EM Fl := match e with
  | .Call (.Name x _) [.Constant (.str _) _ _] [] _ => if c.hot = true then es else if isGl c x && g.excs.contains x then sRaise x else es
  | _ => es
def hotOf (c : Cxt) : Cxt := ⟨c.N, c.sc, true, c.fnc⟩
def hdSl (c : Cxt) (n : Option Str) : Option (Option Nat) := match n with
  | none => some none
  | some n => match c.sc.names.lookup n with
    | some .local => (ixOf c.N n).map some
    | _ => none
noncomputable def evFor (g : GE) (c : Cxt) (call : Call) (tg it : Expr) (el : List Stmt) (b : EM Fl) : EM Fl := if c.hot = true then es else if c.fnc && el.isEmpty && noSet it then match evTg c tg with
    | some t => sFor t (evSrc g c tg it (ev g call it c) (evr g call it c)) b
    | none => es
  else es
noncomputable def evWhile (g : GE) (c : Cxt) (call : Call) (t : Expr) (el : List Stmt) (b : EM Fl) : EM Fl := if c.hot = true then es else if c.fnc && el.isEmpty then sWhile (ev g call t c).t b else es
def optAll {α : Type} : List (Option α) → Option (List α)
  | [] => some []
  | some m :: r => (optAll r).map (m :: ·)
  | none :: _ => none
def evTry (g : GE) (c : Cxt) (el fi : List Stmt) (b : EM Fl) (hs : List (Option Hd)) : EM Fl := if c.hot = true then es else if c.fnc && el.isEmpty && fi.isEmpty then match optAll hs with
    | some (h :: r) => sTry g.tab b (h :: r)
    | _ => es
  else es
def evHd (g : GE) (c : Cxt) (t : Option Expr) (n : Option Str) (sts : List Stmt) (b : EM Fl) : Option Hd := match t with
  | some (.Name x _) => if sts.isEmpty = true then none else if isGl c x && g.excn.contains x then match hdSl c n with
      | some sl => some ⟨x, sl, b⟩
      | none => none
    else none
  | _ => none
mutual
noncomputable def evS (g : GE) (call : Call) (rb : Bool) : Stmt → Cxt → EM Fl
  | .Expr e _, c => evExpr g c call e
  | .Assign ts e _, c => match ts with
    | [t] => evAsg g c call t e
    | _ => es
  | .AugAssign t op e _, c => evAug g c call t op e
  | .Return e _, c => match e with
    | none => er (.ret (.d .none))
    | some e => sRet (boxArg rb (ev g call e c))
  | .If t as bs _, c => sIf (ev g call t c).t (evB g call rb as c) (evB g call rb bs c)
  | .For tg it body el _, c => evFor g c call tg it el (evB g call rb body c)
  | .While t body el _, c => evWhile g c call t el (evB g call rb body c)
  | .Try body hs el fi _, c => evTry g c el fi (evB g call rb body c) (evHs g call rb hs c)
  | .Raise e o _, c => match e, o with
    | some e, none => evRaise g c e
    | _, _ => es
  | .Pass _, _ => er .next
  | .Break _, _ => er .brk
  | .Continue _, _ => er .cont
  | _, _ => es
noncomputable def evB (g : GE) (call : Call) (rb : Bool) : List Stmt → Cxt → EM Fl
  | [], _ => er .next
  | s :: r, c => sSeq (evS g call rb s c) (evB g call rb r c)
noncomputable def evHs (g : GE) (call : Call) (rb : Bool) : List ExceptHandler → Cxt → List (Option Hd)
  | [], _ => []
  | h :: r, c => evH g call rb h c :: evHs g call rb r c
noncomputable def evH (g : GE) (call : Call) (rb : Bool) : ExceptHandler → Cxt → Option Hd
  | .ExceptHandler t n sts _, c => evHd g c t n sts (evB g call rb sts (hotOf c))
end
section
variable {CL : CA} {X : Cx} {Wx : WX} {g : GE} {c : Cxt} {k : Nat} {call : Call} {rb : Bool}
theorem js_dead {st : Stmt} : JS CL X Wx st es := ⟨fun pins s σ H D I q => by obtain ⟨G, s', S, q⟩ := q; exact q.elim⟩
theorem noComp_sole {t e : Expr} {l : Nat} {env : Env} (h : noComp e = true) : swapsWithSole [t] e l env = pure false := noComp_ok h
theorem noTup_ok {as : List Expr} {k : Nat} {p : Pos} {e : Expr} {env : Env} (h : noTup e = true) : swappedStores [.Tuple as k p] e env = pure none := by
  cases e <;> first | rfl | cases h
theorem js_exprG (D : Gd CL X Wx g c k call) {e : Expr} {p : Pos} : JS CL X Wx (.Expr e p) (evExpr g c call e) := by
  unfold evExpr
  split
  · exact js_doc
  · by_cases h : noComp e = true
    · rw [if_pos h]; exact js_expr (snd_ev g k call e CL X Wx c D).v (noComp_ok h)
    · rw [if_neg h]; exact js_dead
theorem sole_no {e : Expr} {as : List Expr} {kk : Nat} {p : Pos} {l : Nat} {env : Env} : swapsWithSole [.Tuple as kk p] e l env = pure false := by
  cases e <;> rfl
theorem sole_noS {e a b : Expr} {p : Pos} {l : Nat} {env : Env} : swapsWithSole [.Subscript a b p] e l env = pure false := by
  cases e <;> rfl
theorem js_lcA (D : Gd CL X Wx g c k call) {x : Str} {px p : Pos} {e : Expr} {i : Nat} {m : EM Ob} (hs : slotL c x = some i) (hm : (ev g call e c).n = some m) (hl : isLc e = true) : JS CL X Wx (.Assign [.Name x px] e p) (sSetN i m) := by
  obtain ⟨a, b, d⟩ := D.loc hs
  cases e with
  | ListComp elt gs scope pos =>
    have hj := (snd_ev g k call (.ListComp elt gs scope pos) CL X Wx c D).n m hm
    have hsw : swapsWith (.ListComp elt gs scope pos) (some (.Name x px)) p.line X.env = pure (X.env.blockKind == .function && X.env.kindOf x == some .local && px.line == pos.line && !(scope.names.any fun (n, k) => n == x && (k == .local || k == .cell))) := rfl
    cases hb : (X.env.blockKind == .function && X.env.kindOf x == some .local && px.line == pos.line && !(scope.names.any fun (n, k) => n == x && (k == .local || k == .cell))) with
    | false =>
      rw [hb] at hsw
      exact js_setN D.nd a b hj hsw d
    | true =>
      rw [hb] at hsw
      simp only [Bool.and_eq_true] at hb
      have hyl : X.env.scope.names.lookup x = some .local := by
        have := hb.1.1.2
        exact eq_of_beq this
      rcases lcP_of (p := pos) D (snd_evgs g k call gs scope c) (fun CL X Wx D' => snd_ev g k call elt CL X Wx (blkX c scope) D') with e1 | ⟨m', e1, P⟩
      · have : (evLc c scope (evgs g call gs scope c) (ev g call elt (blkX c scope))).n = some m := hm
        rw [e1] at this
        cases this
      · have : (evLc c scope (evgs g call gs scope c) (ev g call elt (blkX c scope))).n = some m := hm
        rw [e1] at this
        cases this
        obtain ⟨elt', tg, it, ifs, sc', own, pos', src, G, t, mc, me, e2, rfl, a1, a2, a3, a4, a5, a6, a7, a8⟩ := P
        cases e2
        exact js_setLc a1 D.nd a hyl hsw a2 a3 a4 a5 a6 a7 a8
  | DictComp kx elt gs scope pos =>
    have hj := (snd_ev g k call (.DictComp kx elt gs scope pos) CL X Wx c D).n m hm
    have hsw : swapsWith (.DictComp kx elt gs scope pos) (some (.Name x px)) p.line X.env = pure (X.env.blockKind == .function && X.env.kindOf x == some .local && px.line == pos.line && !(scope.names.any fun (n, k) => n == x && (k == .local || k == .cell))) := rfl
    cases hb : (X.env.blockKind == .function && X.env.kindOf x == some .local && px.line == pos.line && !(scope.names.any fun (n, k) => n == x && (k == .local || k == .cell))) with
    | false =>
      rw [hb] at hsw
      exact js_setN D.nd a b hj hsw d
    | true =>
      rw [hb] at hsw
      simp only [Bool.and_eq_true] at hb
      have hyl : X.env.scope.names.lookup x = some .local := by
        have := hb.1.1.2
        exact eq_of_beq this
      rcases dcP_of (p := pos) D (snd_evgs g k call gs scope c) (fun CL X Wx D' => snd_ev g k call kx CL X Wx (blkX c scope) D') (fun CL X Wx D' => snd_ev g k call elt CL X Wx (blkX c scope) D') with e1 | ⟨m', e1, P⟩
      · have : (evDc c scope (evgs g call gs scope c) (ev g call kx (blkX c scope)) (ev g call elt (blkX c scope))).n = some m := hm
        rw [e1] at this
        cases this
      · have : (evDc c scope (evgs g call gs scope c) (ev g call kx (blkX c scope)) (ev g call elt (blkX c scope))).n = some m := hm
        rw [e1] at this
        cases this
        obtain ⟨kx', elt', tg, it, ifs, sc', own, pos', src, G, t, mc, mk, me, e2, rfl, a1, a2, a3, a4, a5, a6, a9, a7, a8⟩ := P
        cases e2
        exact ps_imp (ps_setDc a1 D.nd a hyl hsw a2 a3 a4 a6 a9 a7 a8) fun D' σ H q => dc_imp a5 (setN_imp q)
  | _ => cases hl
theorem js_asg (D : Gd CL X Wx g c k call) {t e : Expr} {p : Pos} : JS CL X Wx (.Assign [t] e p) (evAsg g c call t e) := by
  unfold evAsg
  split
  · rename_i x px
    cases hs : slotL c x with
    | none => exact js_dead
    | some i =>
      obtain ⟨a, b, d⟩ := D.loc hs
      dsimp only
      by_cases h : noComp e = true
      · rw [if_pos h]
        cases hn : (ev g call e c).n with
        | some m => exact js_setN D.nd a b ((snd_ev g k call e CL X Wx c D).n m hn) (noComp_ok h) d
        | none => exact js_set D.nd a b (snd_ev g k call e CL X Wx c D).v (noComp_ok h) d
      · rw [if_neg h]
        by_cases h2 : isLc e = true
        · rw [if_pos h2]
          cases hn : (ev g call e c).n with
          | some m => exact js_lcA D hs hn h2
          | none => exact js_dead
        · rw [if_neg h2]; exact js_dead
  · rename_i as kk px
    cases hh : c.hot with
    | true => exact js_dead
    | false =>
      rw [if_neg Bool.false_ne_true]
      by_cases ht : noTup e = true
      · rw [if_pos ht]
        cases hs : slotLs c as with
        | none => exact js_dead
        | some is => exact js_tup D.nd (D.cold hh).calm (slotLs_ok D hs) (snd_ev g k call e CL X Wx c D).v sole_no (noTup_ok ht)
      · rw [if_neg ht]; exact js_dead
  · rename_i x px b pb
    by_cases hb : noSlice b = true
    · rw [if_pos hb]
      cases hs : slotOf c x with
      | none => exact js_dead
      | some i =>
        refine js_put (by have := D.un; omega) (D.var hs) (snd_ev g k call b CL X Wx c D).o (snd_ev g k call e CL X Wx c D).v (fun v => ?_) sole_noS ?_
        · cases b <;> first | rfl | cases hb
        · cases e <;> rfl
    · rw [if_neg hb]; exact js_dead
  · exact js_dead
theorem js_augG (D : Gd CL X Wx g c k call) {t e : Expr} {op : Operator} {p : Pos} : JS CL X Wx (.AugAssign t op e p) (evAug g c call t op e) := by
  unfold evAug
  cases hf : augF op with
  | none => exact js_dead
  | some f =>
    obtain ⟨r, h1, h2⟩ := augF_ok (X := X) hf
    dsimp only
    split
    · rename_i x px
      cases hs : slotL c x with
      | none => exact js_dead
      | some i =>
        obtain ⟨a, b, d⟩ := D.loc hs
        exact js_aug D.nd a b (snd_ev g k call e CL X Wx c D).o h1 h2 d
    · rename_i x px b pb
      by_cases hb : noSlice b = true
      · rw [if_pos hb]
        cases hs : slotOf c x with
        | none => exact js_dead
        | some i =>
          refine js_augix (by have := D.un; omega) (D.var hs) (snd_ev g k call b CL X Wx c D).o (snd_ev g k call e CL X Wx c D).o h1 h2 (fun ov iv new => ?_)
          cases b <;> first | rfl | cases hb
      · rw [if_neg hb]; exact js_dead
    · exact js_dead
theorem js_raiseG (D : Gd CL X Wx g c k call) {e : Expr} {p : Pos} : JS CL X Wx (.Raise (some e) none p) (evRaise g c e) := by
  unfold evRaise
  split
  · rename_i x px m j pm pc
    cases hh : c.hot with
    | true => exact js_dead
    | false =>
      rw [if_neg Bool.false_ne_true]
      by_cases h : (isGl c x && g.excs.contains x) = true
      · rw [if_pos h]
        rw [Bool.and_eq_true] at h
        obtain ⟨g1, g2, g3⟩ := D.glob h.1
        have C := D.cold hh
        exact js_raise C.calm C.tk (C.exs x h.2) g1 g2
      · rw [if_neg h]; exact js_dead
  · exact js_dead
theorem Cold.tr (C : Cold CL X Wx g k call) {W' : WX} {pn : List (Addr × Obj)} {xe : Value → Shared → Prop} (tk : Takes (X.tr pn xe) W') : Cold CL (X.tr pn xe) W' g k call :=
  ⟨C.calm, C.room, tk, C.fns, fun x h => by
    obtain ⟨C', h1, h2, h3, h4, h5⟩ := (C.exs x h).is
    exact ⟨C', h1, h2, h3, h4, h5⟩⟩
theorem Gd.tr (D : Gd CL X Wx g c k call) (hh : c.hot = false) {W' : WX} {pn : List (Addr × Obj)} {xe : Value → Shared → Prop} (tk : Takes (X.tr pn xe) W') (hp : PassesOwn (model X.prog X.w) X.A X.env xe) : Gd CL (X.tr pn xe) W' g c k call :=
  ⟨D.hN, D.nd, D.sc, D.fn, D.un, D.gl, fun _ => (D.cold hh).tr tk, fun h => (by rw [hh] at h; cases h), fun h1 h2 => ⟨(D.stm h1 h2).stk, (D.stm h1 h2).fr, hp⟩, D.kds⟩
theorem Gd.suite (D : Gd CL X Wx g c k call) (hh : c.hot = false) {a : Addr} {oe : Obj} {cn : Str} {C : Addr} {pn : List (Addr × Obj)} (hC : CL.cl cn C) (hz : Zc (.ref C) none oe) (hf : ∃ vs, oe.data = .fields vs) :
    Gd (CL.setEx (some (a, cn))) (X.suite a ((a, oe) :: pn)) (fun _ _ _ _ => False) g (hotOf c) k call :=
  ⟨D.hN, D.nd, D.sc, D.fn, D.un, ⟨D.gl.cst, D.gl.blt, D.gl.gcd, D.gl.isx, D.gl.hnd⟩, fun h => (nomatch h), fun _ => ⟨X, a, oe, pn, rfl, hf, fun a' cn' e => by cases e; exact ⟨rfl, C, hC, hz⟩⟩, fun _ h => (nomatch h), D.kds⟩
theorem js_forG (D : Gd CL X Wx g c k call) {tg it : Expr} {body el : List Stmt} {b : EM Fl} {p : Pos} (hb : JB CL X Wx body b) : JS CL X Wx (.For tg it body el p) (evFor g c call tg it el b) := by
  unfold evFor
  cases hh : c.hot with
  | true => exact js_dead
  | false =>
    rw [if_neg Bool.false_ne_true]
    have C := D.cold hh
    by_cases hs : (c.fnc && el.isEmpty && noSet it) = true
    · rw [if_pos hs]
      rw [Bool.and_eq_true, Bool.and_eq_true] at hs
      cases el with
      | cons _ _ => cases hs.1.2
      | nil =>
        cases ht : evTg c tg with
        | none => exact js_dead
        | some t =>
          obtain ⟨h2, h3, _⟩ := evTg_s (CL := CL) (K := X.K) ht
          exact js_for (D.stm hs.1.1 hh).own C.calm (ji_src D (snd_ev g k call it CL X Wx c D) (snd_evr g k call it CL X Wx c D)) (evTg_pg D C.calm ht) h2 h3 hb (noSet_fold hs.2)
    · rw [if_neg hs]; exact js_dead
theorem js_whileG (D : Gd CL X Wx g c k call) {t : Expr} {body el : List Stmt} {b : EM Fl} {p : Pos} (hb : JB CL X Wx body b) : JS CL X Wx (.While t body el p) (evWhile g c call t el b) := by
  unfold evWhile
  cases hh : c.hot with
  | true => exact js_dead
  | false =>
    rw [if_neg Bool.false_ne_true]
    by_cases hs : (c.fnc && el.isEmpty) = true
    · rw [if_pos hs]
      rw [Bool.and_eq_true] at hs
      cases el with
      | cons _ _ => cases hs.2
      | nil => exact js_while (D.stm hs.1 hh).own (snd_ev g k call t CL X Wx c D).t hb
    · rw [if_neg hs]; exact js_dead
theorem js_tryG (D : Gd CL X Wx g c k call) {body el fi : List Stmt} {hl : List ExceptHandler} {b : EM Fl} {os : List (Option Hd)} {p : Pos} (hb : c.hot = false → ∀ (W' : WX) (pn : List (Addr × Obj)) (xe : Value → Shared → Prop), Takes (X.tr pn xe) W' → PassesOwn (model X.prog X.w) X.A X.env xe → JB CL (X.tr pn xe) W' body b)
    (hh : c.hot = false → ∀ ms, optAll os = some ms → ∃ l, JH CL X g.tab hl ms l) : JS CL X Wx (.Try body hl el fi p) (evTry g c el fi b os) := by
  unfold evTry
  cases hc : c.hot with
  | true => exact js_dead
  | false =>
    rw [if_neg Bool.false_ne_true]
    have C := D.cold hc
    by_cases hs : (c.fnc && el.isEmpty && fi.isEmpty) = true
    · rw [if_pos hs]
      rw [Bool.and_eq_true, Bool.and_eq_true] at hs
      cases el with
      | cons _ _ => cases hs.1.2
      | nil =>
        cases fi with
        | cons _ _ => cases hs.2
        | nil =>
          cases hm : optAll os with
          | none => exact js_dead
          | some ms =>
            obtain ⟨l, J⟩ := hh hc ms hm
            cases hl with
            | nil => cases J; exact js_dead
            | cons h0 hr =>
              cases ms with
              | nil => exact js_dead
              | cons m0 mr => exact js_try D.nd (D.stm hs.1.1 hc).stk (D.stm hs.1.1 hc).fr C.tk (hb hc) J
    · rw [if_neg hs]; exact js_dead
theorem jh_hd (D : Gd CL X Wx g c k call) (hh : c.hot = false) {t : Option Expr} {n : Option Str} {sts : List Stmt} {p : Pos} {b : EM Fl} {m : Hd} {hs : List ExceptHandler} {ms : List Hd} {l : List (Value × Option Nat × (Addr → Value → Option Addr → TS))}
    (HB : ∀ {CL : CA} {X : Cx} {Wx : WX}, Gd CL X Wx g (hotOf c) k call → JB CL X Wx sts b) (e : evHd g c t n sts b = some m) (J : JH CL X g.tab hs ms l) : ∃ l', JH CL X g.tab (.ExceptHandler t n sts p :: hs) (m :: ms) l' := by
  unfold evHd at e
  split at e
  · rename_i x px
    cases sts with
    | nil => cases e
    | cons b0 sts =>
      rw [if_neg (by show ¬ (false = true); exact Bool.false_ne_true)] at e
      by_cases hg : (isGl c x && g.excn.contains x) = true
      · rw [if_pos hg] at e
        rw [Bool.and_eq_true] at hg
        obtain ⟨g1, g2, g3⟩ := D.glob hg.1
        obtain ⟨cv, h1, h2⟩ := D.gl.hnd x hg.2
        cases hs' : hdSl c n with
        | none => rw [hs'] at e; cases e
        | some sl =>
          rw [hs'] at e
          cases e
          refine ⟨_, .cons (c := cv) ⟨g1, g2, ?_⟩ (fun cls C b hc ht => h2 cls C b hc ht) ?_ (fun a oe cn C pn hC hz hf => HB (D.suite hh hC hz hf)) J⟩
          · rcases h1 with h1 | ⟨h1, h3, h4⟩
            · exact .inl h1
            · exact .inr ⟨h1, h3, h4⟩
          · cases n with
            | none => cases hs'; trivial
            | some n =>
              unfold hdSl at hs'
              dsimp only at hs'
              cases hl : c.sc.names.lookup n with
              | none => rw [hl] at hs'; cases hs'
              | some kd =>
                rw [hl] at hs'
                cases kd with
                | «local» =>
                  dsimp only at hs'
                  cases hi : ixOf c.N n with
                  | none => rw [hi] at hs'; cases hs'
                  | some i =>
                    rw [hi] at hs'
                    cases hs'
                    refine ⟨by rw [D.hN]; exact ixOf_ok hi, ?_⟩
                    show X.env.scope.names.lookup n = _
                    rw [D.sc]; exact hl
                | _ => cases hs'
      · rw [if_neg hg] at e; cases e
  · cases e
mutual
theorem js_evS (g : GE) (k : Nat) (call : Call) (rb : Bool) : ∀ (st : Stmt) (CL : CA) (X : Cx) (Wx : WX) (c : Cxt), Gd CL X Wx g c k call → JS CL X Wx st (evS g call rb st c)
  | .Expr e _, _, _, _, _, D => js_exprG D
  | .Assign ts e p, CL, X, Wx, c, D => match ts with
    | [t] => js_asg D
    | [] => js_dead
    | _ :: _ :: _ => js_dead
  | .AugAssign t op e _, _, _, _, _, D => js_augG D
  | .Return e p, CL, X, Wx, c, D => match e with
    | none => js_retN
    | some e => js_ret (boxArg_ok (snd_ev g k call e CL X Wx c D))
  | .If t as bs _, CL, X, Wx, c, D => js_if (snd_ev g k call t CL X Wx c D).t (jb_evB g k call rb as CL X Wx c D) (jb_evB g k call rb bs CL X Wx c D)
  | .For tg it body el p, CL, X, Wx, c, D => js_forG D (jb_evB g k call rb body CL X Wx c D)
  | .While t body el p, CL, X, Wx, c, D => js_whileG D (jb_evB g k call rb body CL X Wx c D)
  | .Try body hs el fi p, CL, X, Wx, c, D => js_tryG D (fun hh W' pn xe tk hp => jb_evB g k call rb body CL (X.tr pn xe) W' c (D.tr hh tk hp)) (fun hh ms e => jh_evHs g k call rb hs CL X Wx c D hh ms e)
  | .Raise e o p, CL, X, Wx, c, D => match e, o with
    | some e, none => js_raiseG D
    | none, _ => js_dead
    | some _, some _ => js_dead
  | .Pass _, _, _, _, _, D => js_pass
  | .Break _, _, _, _, _, D => js_break
  | .Continue _, _, _, _, _, D => js_continue
  | .FunctionDef .., _, _, _, _, D => js_dead
  | .AsyncFunctionDef .., _, _, _, _, D => js_dead
  | .ClassDef .., _, _, _, _, D => js_dead
  | .Delete .., _, _, _, _, D => js_dead
  | .TypeAlias .., _, _, _, _, D => js_dead
  | .AnnAssign .., _, _, _, _, D => js_dead
  | .AsyncFor .., _, _, _, _, D => js_dead
  | .With .., _, _, _, _, D => js_dead
  | .AsyncWith .., _, _, _, _, D => js_dead
  | .Match .., _, _, _, _, D => js_dead
  | .TryStar .., _, _, _, _, D => js_dead
  | .Assert .., _, _, _, _, D => js_dead
  | .Import .., _, _, _, _, D => js_dead
  | .ImportFrom .., _, _, _, _, D => js_dead
  | .Global .., _, _, _, _, D => js_dead
  | .Nonlocal .., _, _, _, _, D => js_dead
theorem jb_evB (g : GE) (k : Nat) (call : Call) (rb : Bool) : ∀ (sts : List Stmt) (CL : CA) (X : Cx) (Wx : WX) (c : Cxt), Gd CL X Wx g c k call → JB CL X Wx sts (evB g call rb sts c)
  | [], _, _, _, _, D => jb_nil
  | s :: r, CL, X, Wx, c, D => jb_cons (js_evS g k call rb s CL X Wx c D) (jb_evB g k call rb r CL X Wx c D)
theorem jh_evHs (g : GE) (k : Nat) (call : Call) (rb : Bool) : ∀ (hs : List ExceptHandler) (CL : CA) (X : Cx) (Wx : WX) (c : Cxt), Gd CL X Wx g c k call → c.hot = false → ∀ ms, optAll (evHs g call rb hs c) = some ms → ∃ l, JH CL X g.tab hs ms l
  | [], _, _, _, _, D, hh, _, e => by cases e; exact ⟨_, .nil⟩
  | h :: r, CL, X, Wx, c, D, hh, ms, e => by
    have ih := jh_evHs g k call rb r CL X Wx c D hh
    have i1 : ∀ m ms l, evH g call rb h c = some m → JH CL X g.tab r ms l → ∃ l', JH CL X g.tab (h :: r) (m :: ms) l' := fun m ms l => jh_evH g k call rb h CL X Wx c D hh m r ms l
    have e : optAll (evH g call rb h c :: evHs g call rb r c) = some ms := e
    cases e1 : evH g call rb h c with
    | none => rw [e1] at e; cases e
    | some m =>
      rw [e1] at e
      have e : (optAll (evHs g call rb r c)).map (m :: ·) = some ms := e
      cases e2 : optAll (evHs g call rb r c) with
      | none => rw [e2] at e; cases e
      | some mr =>
        rw [e2] at e
        cases e
        obtain ⟨l, J⟩ := ih mr e2
        exact i1 m mr l e1 J
theorem jh_evH (g : GE) (k : Nat) (call : Call) (rb : Bool) : ∀ (h : ExceptHandler) (CL : CA) (X : Cx) (Wx : WX) (c : Cxt), Gd CL X Wx g c k call → c.hot = false → ∀ (m : Hd) (hs : List ExceptHandler) (ms : List Hd) (l : List (Value × Option Nat × (Addr → Value → Option Addr → TS))), evH g call rb h c = some m → JH CL X g.tab hs ms l → ∃ l', JH CL X g.tab (h :: hs) (m :: ms) l'
  | .ExceptHandler t n sts p, CL, X, Wx, c, D, hh, m, hs, ms, l, e, J => jh_hd D hh (fun {CL X Wx} D' => jb_evB g k call rb sts CL X Wx (hotOf c) D') e J
end
end
end MP
/-! Part R: the defs of the module, level by level; the law's end. -/
namespace MP
open PySem PySem.Spec PyProof.Rows L2
noncomputable def evalF (g : GE) : Nat → Call
  | 0 => fun _ _ _ => .stuck
  | k + 1 => fun f ws mem => match g.fns.lookup f with
    | some F => runF F.N.length (evB g (evalF g k) F.rb F.body ⟨F.N, F.sc, false, true⟩) ws mem
    | none => .stuck
theorem evalF_eq {g : GE} {k : Nat} {f : Str} {F : FI} (h : g.fns.lookup f = some F) : evalF g (k + 1) f = runF F.N.length (evB g (evalF g k) F.rb F.body ⟨F.N, F.sc, false, true⟩) := by
  funext ws mem
  show (match g.fns.lookup f with
    | some F => runF F.N.length (evB g (evalF g k) F.rb F.body ⟨F.N, F.sc, false, true⟩) ws mem
    | none => .stuck) = _
  rw [h]
theorem room128 {k : Nat} {A : Around} (hr : Room k A) : A.units + 128 < cLine := by have := hr.un; omega
/-- an own exception class -/
def XInG (K : PySem.W.Frag) (CL : CA) (mg : Str → Option Value) (cn : Str) : Prop := ∃ C, mg cn = some (.ref C) ∧ CL.cl cn C ∧ PySem.W.keepIn K (.ref C) = true ∧ PySem.W.subIn K (.ref C) (.type "BaseException") = some true ∧ PySem.W.typeIn K (.ref C) = some (.type "type") ∧
  PySem.W.excIn K C [.type "ValueError", .type "Exception", .type "BaseException", .type "object"] "ValueError.__new__" = true
/-- a def as it stands behind the top -/
structure TabIn (K : PySem.W.Frag) (mg : Str → Option Value) (f : Str) (F : FI) : Prop where
  is : ∃ (st : Stmt) (qual : Str) (a : Addr) (fd : FuncData), Fun K f qual st a fd ∧ mg f = some (.ref a) ∧ FnScope F.N F.ps (defScope st) ∧ defBody st = F.body ∧ defScope st = F.sc ∧ Binds K fd F.ps [] ∧ ∀ ks ∈ F.kws, KwIn fd F.ps ks
theorem all_fns {K : PySem.W.Frag} {CL : CA} {P : Program} {w : World} {mg : Str → Option Value} {base : Heap} {g : GE} (hg : Glob K CL mg g) (hx : ∀ x, g.excs.contains x = true → XInG K CL mg x) (hT : ∀ f F, g.fns.lookup f = some F → TabIn K mg f F) (hd : ∀ x l, g.kds.lookup x = some l → KdOk K w mg x l) :
    ∀ k f F, g.fns.lookup f = some F → FnIn K CL P w mg base k f F.ps F.kws (evalF g k f) := by
  intro k
  induction k with
  | zero =>
    intro f F hf
    obtain ⟨st, qual, a, fd, h1, h2, h3, h4, h5, h6, h7⟩ := (hT f F hf).is
    refine ⟨a, fd, h2, h1.kp, h6, ⟨fun vs H Q E ⟨G, ws, mem, hl, _⟩ => hl, fun A outer s H args us vs Q E hr he hb hv hs => ?_⟩, h7⟩
    obtain ⟨G, ws, mem, hl, S, hn, r, q⟩ := hs
    exact q.elim
  | succ k ih =>
    intro f F hf
    obtain ⟨st, qual, a, fd, h1, h2, h3, h4, h5, h6, h7⟩ := (hT f F hf).is
    refine ⟨a, fd, h2, h1.kp, h6, ?_, h7⟩
    rw [evalF_eq hf, ← h4]
    refine fn_sound h1 h3 fun cdv A outer s H E hr => ?_
    refine jb_evB g k (evalF g k) F.rb (defBody st) CL _ _ ⟨F.N, F.sc, false, true⟩ ⟨rfl, h3.nd, h5, fun _ _ => rfl, room128 hr, hg, fun _ => ⟨rfl, hr, takes_of rfl rfl rfl rfl, ih, fun x hh => ?_⟩, fun h => (nomatch h), fun _ _ => ⟨rfl, rfl, passes_of rfl⟩, hd⟩
    obtain ⟨C, k1, k2, k3, k4, k5, k6⟩ := hx x hh
    exact ⟨C, k1, k2, k3, raises_own k4 k5, k6⟩
/-- the promise at the law's call -/
theorem sp_start {K : PySem.W.Frag} {CL : CA} {c : List W → List Box → Res W} {H : Hp} {a : Addr} {ns : List Int} (hex : CL.ex = none) (hS : SqL K H a (ns.map V.int))
    (h : ∃ s', c [.d (.list (ns.map .int))] [] = .ok (.d (.bool true)) s') : spF K CL 1 c [.ref a] H (fun v _ => v = .bl true) (fun _ _ _ => False) := by
  have hi : ∀ {F : Addr → Prop} (l : List Int), RDs K F H (l.map .int) (l.map V.int) := fun {F} l => by
    induction l with
    | nil => exact .nil
    | cons x r ih => exact .cons (.int x) ih
  obtain ⟨s', e⟩ := h
  rcases hS with hS | hS
  · refine ⟨⟨fun b => b = a, fun _ => none, none⟩, [.d (.list (ns.map .int))], [], rfl, ⟨rfl, fun i w e => by simp at e, fun b c e => by simp at e, fun pl pl' p e => by simp at e, fun pl p e => by simp at e, fun p hp => ?_, fun b p e => by simp at e, fun b f p e => by simp at e, hex.symm⟩, fun _ => rfl, .cons (.list (.inl ⟨rfl, hS⟩) (hi ns)) .nil, ?_⟩
    · have hp : p = a := hp
      subst hp
      refine ⟨?_, fun pl e => by simp at e⟩
      rcases hS with h | ⟨o, h⟩
      · exact ⟨_, h⟩
      · exact ⟨_, h⟩
    · rw [e]
      intro G' H' v f S r
      cases r
      rfl
  · refine ⟨⟨fun b => False, fun _ => none, none⟩, [.d (.list (ns.map .int))], [], rfl, ⟨rfl, fun i w e => by simp at e, fun b c e => by simp at e, fun pl pl' p e => by simp at e, fun pl p e => by simp at e, fun p hp => hp.elim, fun b p e => by simp at e, fun b f p e => by simp at e, hex.symm⟩, fun _ => rfl, .cons (.list (.inr hS) (hi ns)) .nil, ?_⟩
    rw [e]
    intro G' H' v f S r
    cases r
    rfl
end MP
/-! Part S: tables of facts. -/
namespace MP
open PySem PySem.Spec PyProof.Rows L2
/-- one def, level by level -/
theorem fn_one {K : PySem.W.Frag} {CL : CA} {P : Program} {w : World} {mg : Str → Option Value} {base : Heap} {g : GE} (hg : Glob K CL mg g) (hx : ∀ x, g.excs.contains x = true → XInG K CL mg x) (hT : ∀ f F, g.fns.lookup f = some F → TabIn K mg f F) (hd : ∀ x l, g.kds.lookup x = some l → KdOk K w mg x l)
    {f : Str} {F : FI} {st : Stmt} {qual : Str} {a : Addr} {fd : FuncData} (hf : g.fns.lookup f = some F) (h1 : Fun K f qual st a fd) (h3 : FnScope F.N F.ps (defScope st)) (h4 : defBody st = F.body) (h5 : defScope st = F.sc) (k : Nat) :
    FnOk P w K mg base (L2.CX P w) (k + 1) a fd F.ps (spF K CL F.ps.length (evalF g (k + 1) f)) := by
  rw [evalF_eq hf, ← h4]
  refine fn_sound h1 h3 fun cdv A outer s H E hr => ?_
  refine jb_evB g k (evalF g k) F.rb (defBody st) CL _ _ ⟨F.N, F.sc, false, true⟩ ⟨rfl, h3.nd, h5, fun _ _ => rfl, room128 hr, hg, fun _ => ⟨rfl, hr, takes_of rfl rfl rfl rfl, all_fns hg hx hT hd k, fun x hh => ?_⟩, fun h => (nomatch h), fun _ _ => ⟨rfl, rfl, passes_of rfl⟩, hd⟩
  obtain ⟨C, k1, k2, k3, k4, k5, k6⟩ := hx x hh
  exact ⟨C, k1, k2, k3, raises_own k4 k5, k6⟩
theorem tab_mk {K : PySem.W.Frag} {mg : Str → Option Value} {f qual : Str} {F : FI} {st : Stmt} {a : Addr} {fd : FuncData} (h1 : Fun K f qual st a fd) (h2 : mg f = some (.ref a)) (h3 : FnScope F.N F.ps (defScope st)) (h4 : defBody st = F.body) (h5 : defScope st = F.sc) (h6 : Binds K fd F.ps []) (h7 : ∀ ks ∈ F.kws, KwIn fd F.ps ks) : TabIn K mg f F := ⟨st, qual, a, fd, h1, h2, h3, h4, h5, h6, h7⟩
section
variable {K : PySem.W.Frag} {mg : Str → Option Value}
theorem tab_nil : ∀ f F, List.lookup f ([] : List (Str × FI)) = some F → TabIn K mg f F := fun f F h => by cases h
theorem tab_cons {f0 : Str} {F0 : FI} {l : List (Str × FI)} (h : TabIn K mg f0 F0) (t : ∀ f F, List.lookup f l = some F → TabIn K mg f F) : ∀ f F, List.lookup f ((f0, F0) :: l) = some F → TabIn K mg f F := fun f F e => by
  rw [List.lookup_cons] at e
  by_cases c : (f == f0) = true
  · rw [c] at e
    cases e
    rw [eq_of_beq c]; exact h
  · have c' : (f == f0) = false := by simpa using c
    rw [c'] at e
    exact t f F e
end
/-- a table's rows, by name -/
theorem con_nil {p : Str → Prop} : ∀ x, List.contains ([] : List Str) x = true → p x := fun x h => by simp at h
theorem con_cons {p : Str → Prop} {y : Str} {l : List Str} (h : p y) (t : ∀ x, l.contains x = true → p x) : ∀ x, (y :: l).contains x = true → p x := fun x e => by
  rw [List.contains_cons, Bool.or_eq_true] at e
  rcases e with e | e
  · rw [eq_of_beq e]; exact h
  · exact t x e
theorem cst_nil {p : Str → PyData → Prop} : ∀ x d, List.lookup x ([] : List (Str × PyData)) = some d → p x d := fun x d h => by cases h
theorem cst_cons {p : Str → PyData → Prop} {y : Str} {d0 : PyData} {l : List (Str × PyData)} (h : p y d0) (t : ∀ x d, List.lookup x l = some d → p x d) : ∀ x d, List.lookup x ((y, d0) :: l) = some d → p x d := fun x d e => by
  rw [List.lookup_cons] at e
  by_cases c : (x == y) = true
  · rw [c] at e
    cases e
    rw [eq_of_beq c]; exact h
  · have c' : (x == y) = false := by simpa using c
    rw [c'] at e
    exact t x d e
/-- the classes whose instances are raised, by name -/
def CLK (cs : List Str) (K : PySem.W.Frag) : CA := ⟨fun cn C => cn ∈ cs ∧ PySem.W.nsIn K mainGlobals cn = some (some (.ref C)), none⟩
theorem clk_at {cs : List Str} {K : PySem.W.Frag} {cn : Str} {C C1 : Addr} (h : (CLK cs K).cl cn C) (a : PySem.W.nsIn K mainGlobals cn = some (some (.ref C1))) : C = C1 := by
  obtain ⟨_, h⟩ := h
  rw [a] at h
  cases h; rfl
theorem cx_no {P : Program} {w : World} {H : Hp} {s : Shared} {e : Value} {s' : Shared} (h : L2.CX P w [] H s (fun _ _ _ => False) e s') : False := by
  obtain ⟨a, B, H', cls, d, _, _, _, _, _, _, _, z⟩ := h
  exact z
end MP
namespace MP
open PySem PySem.Spec PyProof.Rows L2
/-! ### constants of the module -/
mutual
inductive KCon (K : PySem.W.Frag) : PyData → Value → Prop
  | none : KCon K .none .none
  | bool (b : Bool) : KCon K (.bool b) (.bool b)
  | int (i : Int) (t : PySem.Tok) : KCon K (.int i) (.int i t)
  | str (x : Str) (t : PySem.Tok) : KCon K (.str x) (.str x t)
  | tuple {a : Addr} {dd : Option Addr} {n : Nat} {sl : Array (Option Value)} {us : List Value} {ds : List PyData} : K.lookup a = some ⟨.type "tuple", dd, .seq us.toArray n, sl⟩ → us.length ≤ 1000000 → KCons K ds us → KCon K (.tuple ds) (.ref a)
inductive KCons (K : PySem.W.Frag) : List PyData → List Value → Prop
  | nil : KCons K [] []
  | cons {d : PyData} {u : Value} {ds : List PyData} {us : List Value} : KCon K d u → KCons K ds us → KCons K (d :: ds) (u :: us)
end
mutual
theorem KCon.rd {K : PySem.W.Frag} : ∀ {d : PyData} {u : Value}, KCon K d u → ∃ v, RelV v u ∧ ∀ F H, RD K F H d v
  | _, _, .none => ⟨.non, rfl, fun _ _ => .none⟩
  | _, _, .bool b => ⟨.bl b, rfl, fun _ _ => .bool b⟩
  | _, _, .int i t => ⟨.int i, ⟨t, rfl⟩, fun _ _ => .int i⟩
  | _, _, .str x t => ⟨.str x, ⟨t, rfl⟩, fun _ _ => .str x⟩
  | _, _, .tuple (a := a) (us := us) h hl hc => by
    obtain ⟨vs, r, rd⟩ := KCons.rds hc
    exact ⟨.ref a, rfl, fun F H => .tuple (.inr ⟨_, us.toArray, _, h, rfl, rfl, by rw [List.size_toArray]; exact Nat.le_trans hl million, by simpa using r⟩) (rd F H)⟩
theorem KCons.rds {K : PySem.W.Frag} : ∀ {ds : List PyData} {us : List Value}, KCons K ds us → ∃ vs, Vals vs us ∧ ∀ F H, RDs K F H ds vs
  | _, _, .nil => ⟨[], .nil, fun _ _ => .nil⟩
  | _, _, .cons h t => by
    obtain ⟨v, r, rd⟩ := KCon.rd h
    obtain ⟨vs, rs, rds⟩ := KCons.rds t
    exact ⟨v :: vs, .cons r rs, fun F H => .cons (rd F H) (rds F H)⟩
end
/-- a constant's fact for the table -/
theorem cst_mk {K : PySem.W.Frag} {mg : Str → Option Value} {x : Str} {d : PyData} {u : Value} (hm : mg x = some u) (h : KCon K d u) : ∃ v u, mg x = some u ∧ RelV v u ∧ ∀ F H, RD K F H d v := by
  obtain ⟨v, r, rd⟩ := h.rd
  exact ⟨v, u, hm, r, rd⟩
/-- a dict's entries: key, hash, value -/
def kRow (e : DictEntry) : Option (Str × Int) × Value := (match e.key with
  | .str x _ => some (x, e.hash)
  | _ => none, e.val)
theorem kd_rows {P : Params} : ∀ {rows : List (Str × Value)} {L : List DictEntry}, L.map kRow = rows.map (fun r => (some (r.1, PyData.keyHash P r.1), r.2)) →
    PySem.W.KeysLit P L ∧ (∀ z, (L.find? (·.key.isStr z)).map (·.val) = rows.lookup z) ∧ L.any (·.refKey) = false
  | [], [], _ => ⟨trivial, fun _ => rfl, rfl⟩
  | [], _ :: _, h => by cases h
  | _ :: _, [], h => by cases h
  | (x, u) :: rows, e :: L, h => by
    have h1 : kRow e :: L.map kRow = (some (x, PyData.keyHash P x), u) :: rows.map (fun r => (some (r.1, PyData.keyHash P r.1), r.2)) := h
    injection h1 with h2 h3
    obtain ⟨i1, i2, i3⟩ := kd_rows h3
    obtain ⟨hs, k, v⟩ := e
    cases k with
    | str y t =>
      have h2 : (some (y, hs), v) = (some (x, PyData.keyHash P x), u) := h2
      cases h2
      refine ⟨⟨⟨x, t, rfl, rfl⟩, i1⟩, fun z => ?_, by rw [List.any_cons, i3]; rfl⟩
      rw [List.find?_cons, List.lookup_cons]
      have hb : (Value.str x t).isStr z = (x == z) := rfl
      by_cases hz : x = z
      · subst hz
        have e1 : (x == x) = true := by simp
        rw [show ((⟨PyData.keyHash P x, Value.str x t, u⟩ : DictEntry).key.isStr x) = (x == x) from rfl, e1]
        rfl
      · have e1 : (x == z) = false := by simpa using hz
        have e2 : (z == x) = false := by simpa using fun q : z = x => hz q.symm
        rw [show ((⟨PyData.keyHash P x, Value.str x t, u⟩ : DictEntry).key.isStr z) = (x == z) from rfl, e1, e2]
        exact i2 z
    | _ => cases h2
inductive KRows (K : PySem.W.Frag) : List (Str × PyData) → List (Str × Value) → Prop
  | nil : KRows K [] []
  | cons {x : Str} {d : PyData} {u : Value} {l : List (Str × PyData)} {r : List (Str × Value)} (h : KCon K d u) (t : KRows K l r) : KRows K ((x, d) :: l) ((x, u) :: r)
theorem KRows.look {K : PySem.W.Frag} (z : Str) : ∀ {l : List (Str × PyData)} {r : List (Str × Value)}, KRows K l r → (l.lookup z = none ∧ r.lookup z = none) ∨ ∃ d u, l.lookup z = some d ∧ r.lookup z = some u ∧ KCon K d u
  | _, _, .nil => .inl ⟨rfl, rfl⟩
  | _, _, .cons (x := x) (d := d) (u := u) h t => by
    rw [List.lookup_cons, List.lookup_cons]
    cases c : (z == x) with
    | true => exact .inr ⟨d, u, rfl, rfl, h⟩
    | false => exact KRows.look z t
theorem kd_mk {K : PySem.W.Frag} {w : World} {mg : Str → Option Value} {x : Str} {a : Addr} {es : Array DictEntry} {n : Nat} {l : List (Str × PyData)} {rows : List (Str × Value)} (hm : mg x = some (.ref a)) (hl : K.lookup a = some ⟨.type "dict", none, .dict es n, #[]⟩) (hs : (a == sysModules) = false)
    (he : es.toList.map kRow = rows.map (fun r => (some (r.1, PyData.keyHash w.params r.1), r.2))) (hv : KRows K l rows) : KdOk K w mg x l := by
  obtain ⟨k1, k2, k3⟩ := kd_rows he
  have ns : ∀ z, PySem.W.nsIn K a z = some (rows.lookup z) := fun z => by
    unfold PySem.W.nsIn
    rw [hl]
    dsimp only
    have e := k2 z
    cases e1 : es.toList.find? (·.key.isStr z) with
    | none =>
      rw [e1] at e
      rw [← e, k3]
      rfl
    | some d =>
      rw [e1] at e
      rw [← e]
      rfl
  refine ⟨a, es, n, hm, ⟨hl, k1, hs⟩, fun z d hd => ?_, fun z hz => ?_⟩
  · rcases hv.look z with ⟨e1, _⟩ | ⟨d', u, e1, e2, h⟩
    · rw [hd] at e1; cases e1
    · rw [hd] at e1
      cases e1
      obtain ⟨v, r, rd⟩ := h.rd
      exact ⟨u, v, by rw [ns, e2], r, rd⟩
  · rcases hv.look z with ⟨_, e2⟩ | ⟨d', u, e1, _⟩
    · rw [ns, e2]
    · rw [hz] at e1; cases e1
theorem kds_nil {p : Str → List (Str × PyData) → Prop} : ∀ x l, List.lookup x ([] : List (Str × List (Str × PyData))) = some l → p x l := fun x l h => by cases h
theorem kds_cons {p : Str → List (Str × PyData) → Prop} {y : Str} {l0 : List (Str × PyData)} {t : List (Str × List (Str × PyData))} (h : p y l0) (ht : ∀ x l, List.lookup x t = some l → p x l) : ∀ x l, List.lookup x ((y, l0) :: t) = some l → p x l := fun x l e => by
  rw [List.lookup_cons] at e
  by_cases c : (x == y) = true
  · rw [c] at e
    cases e
    rw [eq_of_beq c]; exact h
  · have c' : (x == y) = false := by simpa using c
    rw [c'] at e
    exact ht x l e
end MP
/-! LibA: loops and comprehensions of the evaluator, for any law. -/
namespace MP
open PySem PySem.Spec PyProof.Rows L2
/-! ### while -/
theorem whileN_more {c : EM Bool} {b : EM Fl} : ∀ {n : Nat} {s : S}, whileN c b n s ≠ .stuck → whileN c b (n + 1) s = whileN c b n s := by
  intro n
  induction n with
  | zero => intro s h; exact absurd rfl h
  | succ n ih =>
    intro s h
    have e1 : ∀ m, whileN c b (m + 1) s = rb (c s) fun k => if k = true then eb b fun f => match f with
        | .next => whileN c b m
        | .cont => whileN c b m
        | .brk => er .next
        | .ret w => er (.ret w)
      else er .next := fun m => rfl
    rw [e1 n] at h ⊢
    rw [e1 (n + 1)]
    cases hc : c s with
    | stuck => rfl
    | raise x s' => rfl
    | ok k s' =>
      rw [hc] at h
      cases k with
      | false => rfl
      | true =>
        have h : rb (b s') (fun f => match f with
          | .next => whileN c b n
          | .cont => whileN c b n
          | .brk => er .next
          | .ret w => er (.ret w)) ≠ .stuck := h
        show rb (b s') (fun f => match f with
          | .next => whileN c b (n + 1)
          | .cont => whileN c b (n + 1)
          | .brk => er .next
          | .ret w => er (.ret w)) = rb (b s') (fun f => match f with
          | .next => whileN c b n
          | .cont => whileN c b n
          | .brk => er .next
          | .ret w => er (.ret w))
        cases hb : b s' with
        | stuck => rfl
        | raise x s2 => rfl
        | ok f s2 =>
          rw [hb] at h
          cases f with
          | next => exact ih h
          | cont => exact ih h
          | brk => rfl
          | ret w => rfl
theorem whileN_any {c : EM Bool} {b : EM Fl} {n m : Nat} {s : S} (hn : whileN c b n s ≠ .stuck) (hm : whileN c b m s ≠ .stuck) : whileN c b n s = whileN c b m s := by
  have up : ∀ d n, whileN c b n s ≠ .stuck → whileN c b (n + d) s = whileN c b n s := by
    intro d
    induction d with
    | zero => intro n _; rfl
    | succ d ih =>
      intro n h
      have e := ih n h
      rw [← Nat.add_assoc, whileN_more (by rw [e]; exact h), e]
  rcases Nat.le_total n m with l | l
  · have := up (m - n) n hn
    rw [← this, Nat.add_sub_cancel' l]
  · have := up (n - m) m hm
    rw [← this, Nat.add_sub_cancel' l]
theorem sWhile_eq {c : EM Bool} {b : EM Fl} {n : Nat} {s : S} {r : Res Fl} (h : whileN c b n s = r) (hr : r ≠ .stuck) : sWhile c b s = r := by
  have hx : ∃ n, whileN c b n s ≠ .stuck := ⟨n, by rw [h]; exact hr⟩
  unfold sWhile
  rw [dif_pos hx, ← h]
  exact whileN_any hx.choose_spec (by rw [h]; exact hr)
/-! ### the gcd by Euclid -/
/-- a loop that never leaves -/
theorem forL_inv {t : PyData → EM Unit} {body : EM Fl} (P : Nat → S → Prop) : ∀ (xs : List PyData) (i : Nat) (s : S), P i s → (∀ j x s, xs[j]? = some x → P (i + j) s → ∃ s1 s2, t x s = .ok () s1 ∧ body s1 = .ok .next s2 ∧ P (i + j + 1) s2) → ∃ s', forL t body xs s = .ok .next s' ∧ P (i + xs.length) s'
  | [], i, s, h, _ => ⟨s, rfl, h⟩
  | x :: xs, i, s, h, step => by
    obtain ⟨s1, s2, e1, e2, h2⟩ := step 0 x s rfl h
    obtain ⟨s', e3, h3⟩ := forL_inv P xs (i + 1) s2 h2 fun j y s0 hy hp => by
      obtain ⟨a, b, c⟩ := step (j + 1) y s0 hy (by rw [show i + (j + 1) = i + 1 + j by omega]; exact hp)
      exact ⟨a, b, by rw [show i + 1 + j + 1 = i + (j + 1) + 1 by omega]; exact c⟩
    refine ⟨s', ?_, by rw [List.length_cons, show i + (xs.length + 1) = i + 1 + xs.length by omega]; exact h3⟩
    show rb (t x s) _ = _
    rw [e1]
    show rb (body s1) _ = _
    rw [e2]
    exact e3

/-- a loop that never leaves, its state a function of the items -/
theorem forL_next {t : PyData → EM Unit} {body : EM Fl} {x : PyData} {xs : List PyData} {s s1 s2 : S} (h1 : t x s = .ok () s1) (h2 : body s1 = .ok .next s2) : forL t body (x :: xs) s = forL t body xs s2 := by
  show rb (t x s) _ = _
  rw [h1]
  show rb (body s1) _ = _
  rw [h2]
  rfl
theorem forL_ret {t : PyData → EM Unit} {body : EM Fl} {x : PyData} {xs : List PyData} {s s1 s2 : S} {w : W} (h1 : t x s = .ok () s1) (h2 : body s1 = .ok (.ret w) s2) : forL t body (x :: xs) s = .ok (.ret w) s2 := by
  show rb (t x s) _ = _
  rw [h1]
  show rb (body s1) _ = _
  rw [h2]
  rfl
theorem whileN_next {c : EM Bool} {b : EM Fl} {n : Nat} {s s1 s2 : S} (h1 : c s = .ok true s1) (h2 : b s1 = .ok .next s2) : whileN c b (n + 1) s = whileN c b n s2 := by
  show rb (c s) _ = _
  rw [h1]
  show rb (b s1) _ = _
  rw [h2]
  rfl
theorem whileN_end {c : EM Bool} {b : EM Fl} {n : Nat} {s s1 : S} (h1 : c s = .ok false s1) : whileN c b (n + 1) s = .ok .next s1 := by
  show rb (c s) _ = _
  rw [h1]
  rfl
/-- a comprehension that changes nothing -/
theorem lcL_pure {own : List Nat} {t : PyData → EM Unit} {c : EM Bool} {e : EM W} {p : PyData → Bool} {f : PyData → PyData} {s0 : S} : ∀ (xs acc : List PyData), acc.length + xs.length ≤ 1000000 →
    (∀ x ∈ xs, ∃ s1 s2, t x s0 = .ok () s1 ∧ c s1 = .ok (p x) s2 ∧ (p x = false → (⟨wipeR s2.rho own, s2.mem⟩ : S) = s0) ∧ (p x = true → ∃ s3, evD e s2 = .ok (f x) s3 ∧ (⟨wipeR s3.rho own, s3.mem⟩ : S) = s0)) →
    lcL own t c e xs acc s0 = .ok (acc ++ (xs.filter p).map f) s0
  | [], acc, _, _ => by
    show MP.Res.ok acc s0 = _
    simp
  | x :: xs, acc, hl, h => by
    obtain ⟨s1, s2, h1, h2, h3, h4⟩ := h x (List.mem_cons_self ..)
    rw [List.length_cons] at hl
    show (match t x s0 with
      | .ok _ s1 => match c s1 with
        | .ok true s2 => match evD e s2 with
          | .ok y s3 => if acc.length < 1000000 then lcL own t c e xs (acc ++ [y]) ⟨wipeR s3.rho own, s3.mem⟩ else .stuck
          | _ => .stuck
        | .ok false s2 => lcL own t c e xs acc ⟨wipeR s2.rho own, s2.mem⟩
        | _ => .stuck
      | _ => .stuck) = _
    rw [h1]
    dsimp only
    rw [h2]
    cases hp : p x with
    | false =>
      dsimp only
      rw [h3 hp, lcL_pure xs acc (by omega) fun y hy => h y (List.mem_cons_of_mem _ hy), List.filter_cons, hp]
      rfl
    | true =>
      obtain ⟨s3, k1, k2⟩ := h4 hp
      dsimp only
      rw [k1]
      dsimp only
      rw [if_pos (by omega), k2, lcL_pure xs (acc ++ [f x]) (by rw [List.length_append, List.length_singleton]; omega) fun y hy => h y (List.mem_cons_of_mem _ hy), List.filter_cons, hp, if_pos rfl, List.map_cons, List.append_assoc]
      rfl
theorem lcL_map {own : List Nat} {t : PyData → EM Unit} {e : EM W} {f : PyData → PyData} {s0 : S} {xs : List PyData} (hl : xs.length ≤ 1000000)
    (h : ∀ x ∈ xs, ∃ s1 s3, t x s0 = .ok () s1 ∧ evD e s1 = .ok (f x) s3 ∧ (⟨wipeR s3.rho own, s3.mem⟩ : S) = s0) : lcL own t (er true) e xs [] s0 = .ok (xs.map f) s0 := by
  have z := lcL_pure (own := own) (t := t) (c := er true) (e := e) (p := fun _ => true) (f := f) (s0 := s0) xs [] (by simpa using hl) fun x hx => by
    obtain ⟨s1, s3, h1, h2, h3⟩ := h x hx
    exact ⟨s1, s1, h1, rfl, fun q => (nomatch q), fun _ => ⟨s3, h2, h3⟩⟩
  rw [z, List.nil_append, List.filter_eq_self.mpr (fun _ _ => rfl)]
/-- a comprehension with a state -/
theorem lcL_inv {own : List Nat} {t : PyData → EM Unit} {e : EM W} (P : Nat → List PyData → S → Prop) : ∀ (xs : List PyData) (i : Nat) (acc : List PyData) (s : S), P i acc s → acc.length + xs.length ≤ 1000000 →
    (∀ j x acc s, xs[j]? = some x → P (i + j) acc s → ∃ s1 y s3, t x s = .ok () s1 ∧ evD e s1 = .ok y s3 ∧ P (i + j + 1) (acc ++ [y]) ⟨wipeR s3.rho own, s3.mem⟩) →
    ∃ acc' s', lcL own t (er true) e xs acc s = .ok acc' s' ∧ P (i + xs.length) acc' s'
  | [], i, acc, s, h, _, _ => ⟨acc, s, rfl, h⟩
  | x :: xs, i, acc, s, h, hl, step => by
    rw [List.length_cons] at hl
    obtain ⟨s1, y, s3, e1, e2, h2⟩ := step 0 x acc s rfl h
    obtain ⟨acc', s', e3, h3⟩ := lcL_inv P xs (i + 1) (acc ++ [y]) _ h2 (by rw [List.length_append, List.length_singleton]; omega) fun j z acc s hz hp => by
      obtain ⟨a, b, c, d⟩ := step (j + 1) z acc s hz (by rw [show i + (j + 1) = i + 1 + j by omega]; exact hp)
      exact ⟨a, b, c, d.1, d.2.1, by rw [show i + 1 + j + 1 = i + (j + 1) + 1 by omega]; exact d.2.2⟩
    refine ⟨acc', s', ?_, by rw [List.length_cons, show i + (xs.length + 1) = i + 1 + xs.length by omega]; exact h3⟩
    show (match t x s with
      | .ok _ s1 => match (er true : EM Bool) s1 with
        | .ok true s2 => match evD e s2 with
          | .ok y s3 => if acc.length < 1000000 then lcL own t (er true) e xs (acc ++ [y]) ⟨wipeR s3.rho own, s3.mem⟩ else .stuck
          | _ => .stuck
        | .ok false s2 => lcL own t (er true) e xs acc ⟨wipeR s2.rho own, s2.mem⟩
        | _ => .stuck
      | _ => .stuck) = _
    rw [e1]
    dsimp only [er]
    rw [e2]
    dsimp only
    rw [if_pos (by omega)]
    exact e3
theorem cLc_eq {own : List Nat} {t : PyData → EM Unit} {c : EM Bool} {e : EM W} {src : EM (List PyData)} {s s1 s2 : S} {xs ys : List PyData} (h : src s = .ok xs s1) (h2 : lcL own t c e xs [] ⟨wipeR s1.rho own, s1.mem⟩ = .ok ys s2) : cLc own t c e src s = .ok (.lst ys) ⟨restore s1.rho s2.rho own, s2.mem⟩ := by
  show rb (src s) _ = _
  rw [h]
  show (match lcL own t c e xs [] ⟨wipeR s1.rho own, s1.mem⟩ with
    | .ok ys s' => MP.Res.ok (Ob.lst ys) ⟨restore s1.rho s'.rho own, s'.mem⟩
    | _ => .stuck) = _
  rw [h2]
end MP
namespace MP
open PySem PySem.Spec PyProof.Rows L2
def topS (i : Nat) : Stmt := PySem.Challenge.pw_juststeps_k44_whole_texts_of_images.main.body.getD i (.Pass ⟨0, 0, 0, 0⟩)
abbrev s_p_is_int : Stmt := topS 10
def n_p_is_int : List Str := ["x"]
def f_p_is_int : FI := ⟨["x"], n_p_is_int, defBody s_p_is_int, defScope s_p_is_int, [], [], false⟩
theorem c_p_is_int : FnScope f_p_is_int.N f_p_is_int.ps (defScope s_p_is_int) := ⟨rfl, rfl, rfl, by decide +kernel, rfl, by decide +kernel, by decide +kernel⟩
abbrev s_p_within : Stmt := topS 11
def n_p_within : List Str := ["x", "low", "high"]
def f_p_within : FI := ⟨["x", "low", "high"], n_p_within, defBody s_p_within, defScope s_p_within, [], [], false⟩
theorem c_p_within : FnScope f_p_within.N f_p_within.ps (defScope s_p_within) := ⟨rfl, rfl, rfl, by decide +kernel, rfl, by decide +kernel, by decide +kernel⟩
abbrev s_p_is_name : Stmt := topS 12
def n_p_is_name : List Str := ["x", "sign"]
def f_p_is_name : FI := ⟨["x"], n_p_is_name, defBody s_p_is_name, defScope s_p_is_name, [], [], false⟩
theorem c_p_is_name : FnScope f_p_is_name.N f_p_is_name.ps (defScope s_p_is_name) := ⟨rfl, rfl, rfl, by decide +kernel, rfl, by decide +kernel, by decide +kernel⟩
abbrev s_p_is_low : Stmt := topS 13
def n_p_is_low : List Str := ["x"]
def f_p_is_low : FI := ⟨["x"], n_p_is_low, defBody s_p_is_low, defScope s_p_is_low, [], [], false⟩
theorem c_p_is_low : FnScope f_p_is_low.N f_p_is_low.ps (defScope s_p_is_low) := ⟨rfl, rfl, rfl, by decide +kernel, rfl, by decide +kernel, by decide +kernel⟩
abbrev s_p_is_part : Stmt := topS 19
def n_p_is_part : List Str := ["letter", "thing", "size", "names", "low", "high", "x"]
def f_p_is_part : FI := ⟨["letter", "thing", "size", "names"], n_p_is_part, defBody s_p_is_part, defScope s_p_is_part, [], [], false⟩
theorem c_p_is_part : FnScope f_p_is_part.N f_p_is_part.ps (defScope s_p_is_part) := ⟨rfl, rfl, rfl, by decide +kernel, rfl, by decide +kernel, by decide +kernel⟩
abbrev s_p_is_instruction : Stmt := topS 20
def n_p_is_instruction : List Str := ["thing", "size", "names", "word", "form", "k"]
def f_p_is_instruction : FI := ⟨["thing", "size", "names"], n_p_is_instruction, defBody s_p_is_instruction, defScope s_p_is_instruction, [], [], false⟩
theorem c_p_is_instruction : FnScope f_p_is_instruction.N f_p_is_instruction.ps (defScope s_p_is_instruction) := ⟨rfl, rfl, rfl, by decide +kernel, rfl, by decide +kernel, by decide +kernel⟩
abbrev s_p_line_of : Stmt := topS 23
def n_p_line_of : List Str := ["instruction", "words", "part", "x"]
def f_p_line_of : FI := ⟨["instruction"], n_p_line_of, defBody s_p_line_of, defScope s_p_line_of, [], [], false⟩
theorem c_p_line_of : FnScope f_p_line_of.N f_p_line_of.ps (defScope s_p_line_of) := ⟨rfl, rfl, rfl, by decide +kernel, rfl, by decide +kernel, by decide +kernel⟩
abbrev s_p_number_of : Stmt := topS 24
def n_p_number_of : List Str := ["word", "digits", "sign"]
def f_p_number_of : FI := ⟨["word"], n_p_number_of, defBody s_p_number_of, defScope s_p_number_of, [], [], false⟩
theorem c_p_number_of : FnScope f_p_number_of.N f_p_number_of.ps (defScope s_p_number_of) := ⟨rfl, rfl, rfl, by decide +kernel, rfl, by decide +kernel, by decide +kernel⟩
abbrev s_p_start_of : Stmt := topS 25
def n_p_start_of : List Str := ["line", "size", "words", "address"]
def f_p_start_of : FI := ⟨["line", "size"], n_p_start_of, defBody s_p_start_of, defScope s_p_start_of, [], [], false⟩
theorem c_p_start_of : FnScope f_p_start_of.N f_p_start_of.ps (defScope s_p_start_of) := ⟨rfl, rfl, rfl, by decide +kernel, rfl, by decide +kernel, by decide +kernel⟩
abbrev s_p_instruction_of : Stmt := topS 26
def n_p_instruction_of : List Str := ["line", "size", "names", "words", "word", "form", "thing", "numbers", "x"]
def f_p_instruction_of : FI := ⟨["line", "size", "names"], n_p_instruction_of, defBody s_p_instruction_of, defScope s_p_instruction_of, [], [], false⟩
theorem c_p_instruction_of : FnScope f_p_instruction_of.N f_p_instruction_of.ps (defScope s_p_instruction_of) := ⟨rfl, rfl, rfl, by decide +kernel, rfl, by decide +kernel, by decide +kernel⟩
abbrev s_p_start_names : Stmt := topS 28
def n_p_start_names : List Str := ["starts", "size", "names", "start", "name"]
def f_p_start_names : FI := ⟨["starts", "size"], n_p_start_names, defBody s_p_start_names, defScope s_p_start_names, [], [], false⟩
theorem c_p_start_names : FnScope f_p_start_names.N f_p_start_names.ps (defScope s_p_start_names) := ⟨rfl, rfl, rfl, by decide +kernel, rfl, by decide +kernel, by decide +kernel⟩
abbrev s_p_is_image : Stmt := topS 29
def n_p_is_image : List Str := ["thing", "names", "instruction", "starts", "code"]
def f_p_is_image : FI := ⟨["thing"], n_p_is_image, defBody s_p_is_image, defScope s_p_is_image, [], [], false⟩
theorem c_p_is_image : FnScope f_p_is_image.N f_p_is_image.ps (defScope s_p_is_image) := ⟨rfl, rfl, rfl, by decide +kernel, rfl, by decide +kernel, by decide +kernel⟩
abbrev s_p_need_image : Stmt := topS 30
def n_p_need_image : List Str := ["thing"]
def f_p_need_image : FI := ⟨["thing"], n_p_need_image, defBody s_p_need_image, defScope s_p_need_image, [], [], false⟩
theorem c_p_need_image : FnScope f_p_need_image.N f_p_need_image.ps (defScope s_p_need_image) := ⟨rfl, rfl, rfl, by decide +kernel, rfl, by decide +kernel, by decide +kernel⟩
abbrev s_p_write_image : Stmt := topS 31
def n_p_write_image : List Str := ["image", "lines", "name", "address", "instruction"]
def f_p_write_image : FI := ⟨["image"], n_p_write_image, defBody s_p_write_image, defScope s_p_write_image, [], [["image"]], false⟩
theorem c_p_write_image : FnScope f_p_write_image.N f_p_write_image.ps (defScope s_p_write_image) := ⟨rfl, rfl, rfl, by decide +kernel, rfl, by decide +kernel, by decide +kernel⟩
abbrev s_p_read_starts : Stmt := topS 32
def n_p_read_starts : List Str := ["lines", "size", "starts", "names", "k", "start"]
def f_p_read_starts : FI := ⟨["lines", "size"], n_p_read_starts, defBody s_p_read_starts, defScope s_p_read_starts, [], [], false⟩
theorem c_p_read_starts : FnScope f_p_read_starts.N f_p_read_starts.ps (defScope s_p_read_starts) := ⟨rfl, rfl, rfl, by decide +kernel, rfl, by decide +kernel, by decide +kernel⟩
abbrev s_p_read_image : Stmt := topS 33
def n_p_read_image : List Str := ["text", "lines", "many", "size", "starts", "names", "code", "k", "instruction", "name", "address"]
def f_p_read_image : FI := ⟨["text"], n_p_read_image, defBody s_p_read_image, defScope s_p_read_image, [], [["text"]], false⟩
theorem c_p_read_image : FnScope f_p_read_image.N f_p_read_image.ps (defScope s_p_read_image) := ⟨rfl, rfl, rfl, by decide +kernel, rfl, by decide +kernel, by decide +kernel⟩
abbrev s_lwell : Stmt := topS 35
def n_lwell : List Str := ["_law_script"]
def f_lwell : FI := ⟨["_law_script"], n_lwell, defBody s_lwell, defScope s_lwell, [], [], true⟩
theorem c_lwell : FnScope f_lwell.N f_lwell.ps (defScope s_lwell) := ⟨rfl, rfl, rfl, by decide +kernel, rfl, by decide +kernel, by decide +kernel⟩
abbrev s_ldraw : Stmt := topS 36
def n_ldraw : List Str := ["_law_well_here", "_law_many", "_law_cells", "_law_got", "_law_cell"]
def f_ldraw : FI := ⟨["_law_well_here", "_law_many"], n_ldraw, defBody s_ldraw, defScope s_ldraw, [true], [], false⟩
theorem c_ldraw : FnScope f_ldraw.N f_ldraw.ps (defScope s_ldraw) := ⟨rfl, rfl, rfl, by decide +kernel, rfl, by decide +kernel, by decide +kernel⟩
abbrev s_lnames : Stmt := topS 37
def n_lnames : List Str := ["_law_well_here", "_law_many", "_law_signs", "_law_stem", "_law_place", "_law_names_here", "_law_turn", "_law_k", "_law_name", "_law_other"]
def f_lnames : FI := ⟨["_law_well_here", "_law_many"], n_lnames, defBody s_lnames, defScope s_lnames, [true], [], false⟩
theorem c_lnames : FnScope f_lnames.N f_lnames.ps (defScope s_lnames) := ⟨rfl, rfl, rfl, by decide +kernel, rfl, by decide +kernel, by decide +kernel⟩
abbrev s_lform : Stmt := topS 38
def n_lform : List Str := ["_law_word", "_law_forms", "_law_more", "_law_last"]
def f_lform : FI := ⟨["_law_word"], n_lform, defBody s_lform, defScope s_lform, [], [], false⟩
theorem c_lform : FnScope f_lform.N f_lform.ps (defScope s_lform) := ⟨rfl, rfl, rfl, by decide +kernel, rfl, by decide +kernel, by decide +kernel⟩
abbrev s_lwords : Stmt := topS 39
def n_lwords : List Str := ["_law_some"]
def f_lwords : FI := ⟨[], n_lwords, defBody s_lwords, defScope s_lwords, [], [], false⟩
theorem c_lwords : FnScope f_lwords.N f_lwords.ps (defScope s_lwords) := ⟨rfl, rfl, rfl, by decide +kernel, rfl, by decide +kernel, by decide +kernel⟩
abbrev s_lbounds : Stmt := topS 40
def n_lbounds : List Str := ["_law_letter", "_law_size", "_law_bounds_here"]
def f_lbounds : FI := ⟨["_law_letter", "_law_size"], n_lbounds, defBody s_lbounds, defScope s_lbounds, [], [], false⟩
theorem c_lbounds : FnScope f_lbounds.N f_lbounds.ps (defScope s_lbounds) := ⟨rfl, rfl, rfl, by decide +kernel, rfl, by decide +kernel, by decide +kernel⟩
abbrev s_lbetween : Stmt := topS 41
def n_lbetween : List Str := ["_law_well_here", "_law_low", "_law_high", "_law_shape"]
def f_lbetween : FI := ⟨["_law_well_here", "_law_low", "_law_high"], n_lbetween, defBody s_lbetween, defScope s_lbetween, [true], [], false⟩
theorem c_lbetween : FnScope f_lbetween.N f_lbetween.ps (defScope s_lbetween) := ⟨rfl, rfl, rfl, by decide +kernel, rfl, by decide +kernel, by decide +kernel⟩
abbrev s_lpart : Stmt := topS 42
def n_lpart : List Str := ["_law_well_here", "_law_letter", "_law_size", "_law_names_here", "_law_low", "_law_high", "_law_k"]
def f_lpart : FI := ⟨["_law_well_here", "_law_letter", "_law_size", "_law_names_here"], n_lpart, defBody s_lpart, defScope s_lpart, [true], [], false⟩
theorem c_lpart : FnScope f_lpart.N f_lpart.ps (defScope s_lpart) := ⟨rfl, rfl, rfl, by decide +kernel, rfl, by decide +kernel, by decide +kernel⟩
abbrev s_limage : Stmt := topS 43
def n_limage : List Str := ["_law_well_here", "_law_size", "_law_names_here", "_law_words_here", "_law_code", "_law_k", "_law_word", "_law_name", "_law_letter"]
def f_limage : FI := ⟨["_law_well_here", "_law_size", "_law_names_here"], n_limage, defBody s_limage, defScope s_limage, [true], [], false⟩
theorem c_limage : FnScope f_limage.N f_limage.ps (defScope s_limage) := ⟨rfl, rfl, rfl, by decide +kernel, rfl, by decide +kernel, by decide +kernel⟩
abbrev s_lsame : Stmt := topS 44
def n_lsame : List Str := ["_law_found", "_law_due", "_law_k"]
def f_lsame : FI := ⟨["_law_found", "_law_due"], n_lsame, defBody s_lsame, defScope s_lsame, [], [], false⟩
theorem c_lsame : FnScope f_lsame.N f_lsame.ps (defScope s_lsame) := ⟨rfl, rfl, rfl, by decide +kernel, rfl, by decide +kernel, by decide +kernel⟩
abbrev s_ltext : Stmt := topS 45
def n_ltext : List Str := ["_law_image_here", "_law_lines", "_law_row", "_law_name", "_law_address", "_law_line", "_law_part_here", "_law_some", "_law_word"]
def f_ltext : FI := ⟨["_law_image_here"], n_ltext, defBody s_ltext, defScope s_ltext, [], [], false⟩
theorem c_ltext : FnScope f_ltext.N f_ltext.ps (defScope s_ltext) := ⟨rfl, rfl, rfl, by decide +kernel, rfl, by decide +kernel, by decide +kernel⟩
abbrev s_ldrawn : Stmt := topS 46
def n_ldrawn : List Str := ["_law_well_here", "_law_size", "_law_many"]
def f_ldrawn : FI := ⟨["_law_well_here"], n_ldrawn, defBody s_ldrawn, defScope s_ldrawn, [true], [], false⟩
theorem c_ldrawn : FnScope f_ldrawn.N f_ldrawn.ps (defScope s_ldrawn) := ⟨rfl, rfl, rfl, by decide +kernel, rfl, by decide +kernel, by decide +kernel⟩
abbrev s_lturned : Stmt := topS 47
def n_lturned : List Str := ["_law_well_here", "_law_image_here", "_law_code", "_law_one", "_law_two", "_law_row"]
def f_lturned : FI := ⟨["_law_well_here", "_law_image_here"], n_lturned, defBody s_lturned, defScope s_lturned, [true], [], false⟩
theorem c_lturned : FnScope f_lturned.N f_lturned.ps (defScope s_lturned) := ⟨rfl, rfl, rfl, by decide +kernel, rfl, by decide +kernel, by decide +kernel⟩
abbrev s_lright : Stmt := topS 48
def n_lright : List Str := ["_law_image_here", "_law_text_here", "_law_told"]
def f_lright : FI := ⟨["_law_image_here"], n_lright, defBody s_lright, defScope s_lright, [], [], false⟩
theorem c_lright : FnScope f_lright.N f_lright.ps (defScope s_lright) := ⟨rfl, rfl, rfl, by decide +kernel, rfl, by decide +kernel, by decide +kernel⟩
abbrev s_law_ : Stmt := topS 49
def n_law_ : List Str := ["_law_script", "_law_well_here", "_law_ahead", "_law_turn", "_law_image_here"]
def f_law_ : FI := ⟨["_law_script"], n_law_, defBody s_law_, defScope s_law_, [], [], false⟩
theorem c_law_ : FnScope f_law_.N f_law_.ps (defScope s_law_) := ⟨rfl, rfl, rfl, by decide +kernel, rfl, by decide +kernel, by decide +kernel⟩
def tb : Tab := fun cls x => if cls = "BadImage" then (none) else none
def kd_FORMS : List (Str × PyData) := [("set", .str "rn"), ("copy", .str "rr"), ("add", .str "rrr"), ("sub", .str "rrr"), ("times", .str "rrm"), ("new", .str "rw"), ("put", .str "ror"), ("take", .str "rro"), ("push", .str "c"), ("drop", .str "c"), ("save", .str "ir"), ("load", .str "ri"), ("less", .str "rrj"), ("table", .str "rt"), ("jump", .str "j"), ("call", .str "f"), ("go", .str "f"), ("return", .str "")]
def kd_BOUNDS : List (Str × PyData) := [("r", .tuple [.int 0, .int 7]), ("n", .tuple [.int (-1000000000000), .int 1000000000000]), ("m", .tuple [.int (-1000000), .int 1000000]), ("w", .tuple [.int 1, .int 64]), ("c", .tuple [.int 0, .int 400]), ("o", .tuple [.int 0, .int 63]), ("i", .tuple [.int 0, .int 399])]
def g : GE := ⟨[("is_int", f_p_is_int), ("within", f_p_within), ("is_name", f_p_is_name), ("is_low", f_p_is_low), ("is_part", f_p_is_part), ("is_instruction", f_p_is_instruction), ("line_of", f_p_line_of), ("number_of", f_p_number_of), ("start_of", f_p_start_of), ("instruction_of", f_p_instruction_of), ("start_names", f_p_start_names), ("is_image", f_p_is_image), ("need_image", f_p_need_image), ("write_image", f_p_write_image), ("read_starts", f_p_read_starts), ("read_image", f_p_read_image), ("_law_well", f_lwell), ("_law_draw", f_ldraw), ("_law_names", f_lnames), ("_law_form", f_lform), ("_law_words", f_lwords), ("_law_bounds", f_lbounds), ("_law_between", f_lbetween), ("_law_part", f_lpart), ("_law_image", f_limage), ("_law_same", f_lsame), ("_law_text", f_ltext), ("_law_drawn", f_ldrawn), ("_law_turned", f_lturned), ("_law_right", f_lright), ("law", f_law_)], [("LETTERS", (.str "abcdefghijklmnopqrstuvwxyzABCDEFGHIJKLMNOPQRSTUVWXYZ")), ("SMALL", (.str "abcdefghijklmnopqrstuvwxyz")), ("DIGITS_names", (.str "0123456789")), ("WORDS", (.tuple [.str "def", .str "else", .str "give", .str "if", .str "kind", .str "let", .str "match", .str "whole"])), ("LONGEST_NAME", (.int 10)), ("MOST_CODE", (.int 60000)), ("MOST_STARTS", (.int 12)), ("DIGITS_imagetext", (.str "0123456789"))], ["isinstance", "int", "bool", "all", "str", "len", "tuple", "range", "list", "abs", "min", "max"], [], ["BadImage"], [], tb, [("FORMS", kd_FORMS), ("BOUNDS", kd_BOUNDS)]⟩
noncomputable def m_p_is_int (call : Call) : EM Fl := (sSeq (sRet (cAndV (cP1 (fIsi .int) (.var 0)) (cNotV (cP1 (fIsi .bool) (.var 0))))) (er .next))
theorem b_p_is_int (call : Call) : evB g call false (defBody s_p_is_int) ⟨n_p_is_int, defScope s_p_is_int, false, true⟩ = m_p_is_int call := by kernel_rfl
theorem q_p_is_int : List.lookup ("is_int" : Str) g.fns = some f_p_is_int := by kernel_rfl
theorem e_p_is_int (k : Nat) : evalF g (k + 1) "is_int" = runF 1 (m_p_is_int (evalF g k)) := by
  rw [evalF_eq q_p_is_int, ← b_p_is_int]; rfl
noncomputable def m_p_within (call : Call) : EM Fl := (sSeq (sRet (cAndV (cCall call "is_int" [(cVar 0)]) (cCh (fCmpI fun i j => decide (i ≤ j)) (fCmpI fun i j => decide (i ≤ j)) (.var 1) (.var 0) (.var 2)))) (er .next))
theorem b_p_within (call : Call) : evB g call false (defBody s_p_within) ⟨n_p_within, defScope s_p_within, false, true⟩ = m_p_within call := by kernel_rfl
theorem q_p_within : List.lookup ("within" : Str) g.fns = some f_p_within := by kernel_rfl
theorem e_p_within (k : Nat) : evalF g (k + 1) "within" = runF 3 (m_p_within (evalF g k)) := by
  rw [evalF_eq q_p_within, ← b_p_within]; rfl
noncomputable def m_p_is_name (call : Call) : EM Fl := (sSeq (sIf (cOr (cNot (cTru (.ex (cP1 (fIsi .str) (.var 0))))) (cOr (cNot (eb (cCh (fCmpI fun i j => decide (i ≤ j)) (fCmpI fun i j => decide (i ≤ j)) (.ex (er (.d (.int 1)))) (.ex (cPN (f1 fLen) [(.var 0)])) (.ex (er (.d (.int 10))))) toB)) (eb (cP2 (fInK false) (.var 0) (.ex (er (.d (.tuple [.str "def", .str "else", .str "give", .str "if", .str "kind", .str "let", .str "match", .str "whole"]))))) toB))) (sSeq (sRet (er (.d (.bool false)))) (er .next)) (er .next)) (sSeq (sIf (eb (cP2 (fInK true) (.ex (cP2 fIx (.var 0) (.ex (er (.d (.int 0)))))) (.ex (er (.d (.str "abcdefghijklmnopqrstuvwxyzABCDEFGHIJKLMNOPQRSTUVWXYZ"))))) toB) (sSeq (sRet (er (.d (.bool false)))) (er .next)) (er .next)) (sSeq (sRet (cPN (f1 fAll) [(.ex (cFrz (cLc [1] (tgName 1) (er true) (cOrV (cP2 (fInK false) (.var 1) (.ex (er (.d (.str "abcdefghijklmnopqrstuvwxyzABCDEFGHIJKLMNOPQRSTUVWXYZ"))))) (cP2 (fInK false) (.var 1) (.ex (er (.d (.str "0123456789")))))) (srcAny (cVar 0)))))])) (er .next))))
theorem b_p_is_name (call : Call) : evB g call false (defBody s_p_is_name) ⟨n_p_is_name, defScope s_p_is_name, false, true⟩ = m_p_is_name call := by kernel_rfl
theorem q_p_is_name : List.lookup ("is_name" : Str) g.fns = some f_p_is_name := by kernel_rfl
theorem e_p_is_name (k : Nat) : evalF g (k + 1) "is_name" = runF 2 (m_p_is_name (evalF g k)) := by
  rw [evalF_eq q_p_is_name, ← b_p_is_name]; rfl
noncomputable def m_p_is_low (call : Call) : EM Fl := (sSeq (sRet (cAndV (cCall call "is_name" [(cVar 0)]) (cP2 (fInK false) (.ex (cP2 fIx (.var 0) (.ex (er (.d (.int 0)))))) (.ex (er (.d (.str "abcdefghijklmnopqrstuvwxyz"))))))) (er .next))
theorem b_p_is_low (call : Call) : evB g call false (defBody s_p_is_low) ⟨n_p_is_low, defScope s_p_is_low, false, true⟩ = m_p_is_low call := by kernel_rfl
theorem q_p_is_low : List.lookup ("is_low" : Str) g.fns = some f_p_is_low := by kernel_rfl
theorem e_p_is_low (k : Nat) : evalF g (k + 1) "is_low" = runF 1 (m_p_is_low (evalF g k)) := by
  rw [evalF_eq q_p_is_low, ← b_p_is_low]; rfl
noncomputable def m_p_is_part (call : Call) : EM Fl := (sSeq (sIf (eb (cP2 fEq (.var 0) (.ex (er (.d (.str "f"))))) toB) (sSeq (sRet (cAndV (cP1 (fIsi .str) (.var 1)) (cP2 (fInK false) (.var 1) (.var 3)))) (er .next)) (er .next)) (sSeq (sIf (eb (cP2 fEq (.var 0) (.ex (er (.d (.str "j"))))) toB) (sSeq (sRet (cCall call "within" [(cVar 1), (er (.d (.int 0))), (cP2 fSub (.var 2) (.ex (er (.d (.int 1)))))])) (er .next)) (er .next)) (sSeq (sIf (eb (cP2 fEq (.var 0) (.ex (er (.d (.str "t"))))) toB) (sSeq (sIf (cOr (cNot (cTru (.ex (cP1 (fIsi .tuple) (.var 1))))) (cNot (eb (cCh (fCmpI fun i j => decide (i ≤ j)) (fCmpI fun i j => decide (i ≤ j)) (.ex (er (.d (.int 1)))) (.ex (cPN (f1 fLen) [(.var 1)])) (.ex (er (.d (.int 8))))) toB))) (sSeq (sRet (er (.d (.bool false)))) (er .next)) (er .next)) (sSeq (sRet (cPN (f1 fAll) [(.ex (cFrz (cLc [6] (tgName 6) (er true) (cCall call "within" [(cVar 6), (er (.d (.int 0))), (cP2 fSub (.var 2) (.ex (er (.d (.int 1)))))]) (srcAny (cVar 1)))))])) (er .next))) (er .next)) (sSeq (sTup [4, 5] (cP1 (fKd kd_BOUNDS) (.var 0))) (sSeq (sRet (cCall call "within" [(cVar 1), (cVar 4), (cVar 5)])) (er .next))))))
theorem b_p_is_part (call : Call) : evB g call false (defBody s_p_is_part) ⟨n_p_is_part, defScope s_p_is_part, false, true⟩ = m_p_is_part call := by kernel_rfl
theorem q_p_is_part : List.lookup ("is_part" : Str) g.fns = some f_p_is_part := by kernel_rfl
theorem e_p_is_part (k : Nat) : evalF g (k + 1) "is_part" = runF 7 (m_p_is_part (evalF g k)) := by
  rw [evalF_eq q_p_is_part, ← b_p_is_part]; rfl
noncomputable def m_p_is_instruction (call : Call) : EM Fl := (sSeq (sIf (cOr (cNot (cTru (.ex (cP1 (fIsi .tuple) (.var 0))))) (eb (cP2 fEq (.ex (cPN (f1 fLen) [(.var 0)])) (.ex (er (.d (.int 0))))) toB)) (sSeq (sRet (er (.d (.bool false)))) (er .next)) (er .next)) (sSeq (sSet 3 (cP2 fIx (.var 0) (.ex (er (.d (.int 0)))))) (sSeq (sIf (cOr (cNot (cTru (.ex (cP1 (fIsi .str) (.var 3))))) (eb (cP1 (fKdIn true kd_FORMS) (.var 3)) toB)) (sSeq (sRet (er (.d (.bool false)))) (er .next)) (er .next)) (sSeq (sSet 4 (cP1 (fKd kd_FORMS) (.var 3))) (sSeq (sIf (eb (cP2 fNe (.ex (cPN (f1 fLen) [(.var 0)])) (.ex (cP2 fAdd (.ex (cPN (f1 fLen) [(.var 4)])) (.ex (er (.d (.int 1))))))) toB) (sSeq (sRet (er (.d (.bool false)))) (er .next)) (er .next)) (sSeq (sFor (tgName 5) (srcR1 (cPN (f1 fLen) [(.var 4)])) (sSeq (sIf (cNot (cTru (.ex (cCall call "is_part" [(cP2 fIx (.var 4) (.var 5)), (cP2 fIx (.var 0) (.ex (cP2 fAdd (.var 5) (.ex (er (.d (.int 1))))))), (cVar 1), (cVar 2)])))) (sSeq (sRet (er (.d (.bool false)))) (er .next)) (er .next)) (er .next))) (sSeq (sRet (er (.d (.bool true)))) (er .next))))))))
theorem b_p_is_instruction (call : Call) : evB g call false (defBody s_p_is_instruction) ⟨n_p_is_instruction, defScope s_p_is_instruction, false, true⟩ = m_p_is_instruction call := by kernel_rfl
theorem q_p_is_instruction : List.lookup ("is_instruction" : Str) g.fns = some f_p_is_instruction := by kernel_rfl
theorem e_p_is_instruction (k : Nat) : evalF g (k + 1) "is_instruction" = runF 6 (m_p_is_instruction (evalF g k)) := by
  rw [evalF_eq q_p_is_instruction, ← b_p_is_instruction]; rfl
noncomputable def m_p_line_of (call : Call) : EM Fl := (sSeq (sSetN 1 (cLst [])) (sSeq (sFor (tgName 2) (srcAny (cVar 0)) (sSeq (sIf (cTru (.ex (cP1 (fIsi .tuple) (.var 2)))) (sSeq (sExpr (cExt 1 (cFrz (cLc [3] (tgName 3) (er true) (cPN (f1 fStr) [(.var 3)]) (srcAny (cVar 2)))))) (er .next)) (sSeq (sExpr (cApp 1 (cPN (f1 fStr) [(.var 2)]))) (er .next))) (er .next))) (sSeq (sRet (cSM (fun z => f1 (fJoin z)) (er (.d (.str " "))) [(.var 1)])) (er .next))))
theorem b_p_line_of (call : Call) : evB g call false (defBody s_p_line_of) ⟨n_p_line_of, defScope s_p_line_of, false, true⟩ = m_p_line_of call := by kernel_rfl
theorem q_p_line_of : List.lookup ("line_of" : Str) g.fns = some f_p_line_of := by kernel_rfl
theorem e_p_line_of (k : Nat) : evalF g (k + 1) "line_of" = runF 4 (m_p_line_of (evalF g k)) := by
  rw [evalF_eq q_p_line_of, ← b_p_line_of]; rfl
noncomputable def m_p_number_of (call : Call) : EM Fl := (sSeq (sSet 1 (cVar 0)) (sSeq (sIf (eb (cP2 fEq (.ex (cSl (.var 0) (part none) (part (some (er (.d (.int 1))))))) (.ex (er (.d (.str "-"))))) toB) (sSeq (sSet 1 (cSl (.var 0) (part (some (er (.d (.int 1))))) (part none))) (er .next)) (er .next)) (sSeq (sIf (cNot (eb (cCh (fCmpI fun i j => decide (i ≤ j)) (fCmpI fun i j => decide (i ≤ j)) (.ex (er (.d (.int 1)))) (.ex (cPN (f1 fLen) [(.var 1)])) (.ex (er (.d (.int 13))))) toB)) (sSeq (sRet (er (.d .none))) (er .next)) (er .next)) (sSeq (sFor (tgName 2) (srcAny (cVar 1)) (sSeq (sIf (eb (cP2 (fInK true) (.var 2) (.ex (er (.d (.str "0123456789"))))) toB) (sSeq (sRet (er (.d .none))) (er .next)) (er .next)) (er .next))) (sSeq (sIf (cAnd (eb (cP2 fEq (.ex (cP2 fIx (.var 1) (.ex (er (.d (.int 0)))))) (.ex (er (.d (.str "0"))))) toB) (eb (cP2 fNe (.var 0) (.ex (er (.d (.str "0"))))) toB)) (sSeq (sRet (er (.d .none))) (er .next)) (er .next)) (sSeq (sRet (cPN (f1 fIntU) [(.var 0)])) (er .next)))))))
theorem b_p_number_of (call : Call) : evB g call false (defBody s_p_number_of) ⟨n_p_number_of, defScope s_p_number_of, false, true⟩ = m_p_number_of call := by kernel_rfl
theorem q_p_number_of : List.lookup ("number_of" : Str) g.fns = some f_p_number_of := by kernel_rfl
theorem e_p_number_of (k : Nat) : evalF g (k + 1) "number_of" = runF 3 (m_p_number_of (evalF g k)) := by
  rw [evalF_eq q_p_number_of, ← b_p_number_of]; rfl
noncomputable def m_p_start_of (call : Call) : EM Fl := (sSeq (sSet 2 (cSM (fun z => f1 (fSplit z)) (cVar 0) [(.ex (er (.d (.str " "))))])) (sSeq (sIf (cOr (eb (cP2 fNe (.ex (cPN (f1 fLen) [(.var 2)])) (.ex (er (.d (.int 3))))) toB) (cOr (eb (cP2 fNe (.ex (cP2 fIx (.var 2) (.ex (er (.d (.int 0)))))) (.ex (er (.d (.str "start"))))) toB) (cNot (cTru (.ex (cCall call "is_low" [(cP2 fIx (.var 2) (.ex (er (.d (.int 1)))))])))))) (sSeq (sRet (er (.d .none))) (er .next)) (er .next)) (sSeq (sSet 3 (cCall call "number_of" [(cP2 fIx (.var 2) (.ex (er (.d (.int 2)))))])) (sSeq (sIf (cOr (eb (cP2 fIsN (.var 3) (.ex (er (.d .none)))) toB) (cNot (eb (cCh (fCmpI fun i j => decide (i ≤ j)) (fCmpI fun i j => decide (i < j)) (.ex (er (.d (.int 0)))) (.var 3) (.var 1)) toB))) (sSeq (sRet (er (.d .none))) (er .next)) (er .next)) (sSeq (sRet (cTup [(cP2 fIx (.var 2) (.ex (er (.d (.int 1))))), (cVar 3)])) (er .next))))))
theorem b_p_start_of (call : Call) : evB g call false (defBody s_p_start_of) ⟨n_p_start_of, defScope s_p_start_of, false, true⟩ = m_p_start_of call := by kernel_rfl
theorem q_p_start_of : List.lookup ("start_of" : Str) g.fns = some f_p_start_of := by kernel_rfl
theorem e_p_start_of (k : Nat) : evalF g (k + 1) "start_of" = runF 4 (m_p_start_of (evalF g k)) := by
  rw [evalF_eq q_p_start_of, ← b_p_start_of]; rfl
noncomputable def m_p_instruction_of (call : Call) : EM Fl := (sSeq (sSet 3 (cSM (fun z => f1 (fSplit z)) (cVar 0) [(.ex (er (.d (.str " "))))])) (sSeq (sSet 4 (cP2 fIx (.var 3) (.ex (er (.d (.int 0)))))) (sSeq (sIf (eb (cP1 (fKdIn true kd_FORMS) (.var 4)) toB) (sSeq (sRet (er (.d .none))) (er .next)) (er .next)) (sSeq (sSet 5 (cP1 (fKd kd_FORMS) (.var 4))) (sSeq (sIf (eb (cP2 fEq (.var 5) (.ex (er (.d (.str "f"))))) toB) (sSeq (sSet 6 (cPN (f1 fTupleOf) [(.var 3)])) (er .next)) (sSeq (sIf (eb (cP2 fEq (.var 5) (.ex (er (.d (.str "rt"))))) toB) (sSeq (sSetN 7 (cLc [8] (tgName 8) (er true) (cCall call "number_of" [(cVar 8)]) (srcAny (cSl (.var 3) (part (some (er (.d (.int 1))))) (part none))))) (sSeq (sSet 6 (cTup [(cVar 4), (cPN (f1 fTupleOf) [(.ex (cSl (.var 7) (part (some (er (.d (.int 1))))) (part none)))])])) (sSeq (sIf (eb (cP2 (fCmpI fun i j => decide (j < i)) (.ex (cPN (f1 fLen) [(.var 7)])) (.ex (er (.d (.int 0))))) toB) (sSeq (sSet 6 (cTup [(cVar 4), (cP2 fIx (.var 7) (.ex (er (.d (.int 0))))), (cPN (f1 fTupleOf) [(.ex (cSl (.var 7) (part (some (er (.d (.int 1))))) (part none)))])])) (er .next)) (er .next)) (er .next)))) (sSeq (sSet 6 (cP2 fAdd (.ex (cTup [(cVar 4)])) (.ex (cPN (f1 fTupleOf) [(.ex (cFrz (cLc [8] (tgName 8) (er true) (cCall call "number_of" [(cVar 8)]) (srcAny (cSl (.var 3) (part (some (er (.d (.int 1))))) (part none))))))])))) (er .next))) (er .next))) (sSeq (sIf (cTru (.ex (cCall call "is_instruction" [(cVar 6), (cVar 1), (cVar 2)]))) (sSeq (sRet (cVar 6)) (er .next)) (er .next)) (sSeq (sRet (er (.d .none))) (er .next))))))))
theorem b_p_instruction_of (call : Call) : evB g call false (defBody s_p_instruction_of) ⟨n_p_instruction_of, defScope s_p_instruction_of, false, true⟩ = m_p_instruction_of call := by kernel_rfl
theorem q_p_instruction_of : List.lookup ("instruction_of" : Str) g.fns = some f_p_instruction_of := by kernel_rfl
theorem e_p_instruction_of (k : Nat) : evalF g (k + 1) "instruction_of" = runF 9 (m_p_instruction_of (evalF g k)) := by
  rw [evalF_eq q_p_instruction_of, ← b_p_instruction_of]; rfl
noncomputable def m_p_start_names (call : Call) : EM Fl := (sSeq (sSetN 2 (er (.dic []))) (sSeq (sFor (tgName 3) (srcAny (cVar 0)) (sSeq (sIf (cOr (cNot (cTru (.ex (cP1 (fIsi .tuple) (.var 3))))) (eb (cP2 fNe (.ex (cPN (f1 fLen) [(.var 3)])) (.ex (er (.d (.int 2))))) toB)) (sSeq (sRet (er (.d .none))) (er .next)) (er .next)) (sSeq (sSet 4 (cP2 fIx (.var 3) (.ex (er (.d (.int 0)))))) (sSeq (sIf (cOr (cNot (cTru (.ex (cCall call "is_low" [(cVar 4)])))) (cOr (eb (cP2 (fInK false) (.var 4) (.var 2)) toB) (cNot (cTru (.ex (cCall call "within" [(cP2 fIx (.var 3) (.ex (er (.d (.int 1))))), (er (.d (.int 0))), (cP2 fSub (.var 1) (.ex (er (.d (.int 1)))))])))))) (sSeq (sRet (er (.d .none))) (er .next)) (er .next)) (sSeq (sPut 2 (.var 4) (er (.d (.bool true)))) (er .next)))))) (sSeq (sRet (cVar 2)) (er .next))))
theorem b_p_start_names (call : Call) : evB g call false (defBody s_p_start_names) ⟨n_p_start_names, defScope s_p_start_names, false, true⟩ = m_p_start_names call := by kernel_rfl
theorem q_p_start_names : List.lookup ("start_names" : Str) g.fns = some f_p_start_names := by kernel_rfl
theorem e_p_start_names (k : Nat) : evalF g (k + 1) "start_names" = runF 5 (m_p_start_names (evalF g k)) := by
  rw [evalF_eq q_p_start_names, ← b_p_start_names]; rfl
noncomputable def m_p_is_image (call : Call) : EM Fl := (sSeq (sIf (cOr (cNot (cTru (.ex (cP1 (fIsi .tuple) (.var 0))))) (eb (cP2 fNe (.ex (cPN (f1 fLen) [(.var 0)])) (.ex (er (.d (.int 2))))) toB)) (sSeq (sRet (er (.d (.bool false)))) (er .next)) (er .next)) (sSeq (sTup [3, 4] (cVar 0)) (sSeq (sIf (cOr (cNot (cTru (.ex (cP1 (fIsi .tuple) (.var 3))))) (eb (cP2 (fCmpI fun i j => decide (j < i)) (.ex (cPN (f1 fLen) [(.var 3)])) (.ex (er (.d (.int 12))))) toB)) (sSeq (sRet (er (.d (.bool false)))) (er .next)) (er .next)) (sSeq (sIf (cOr (cNot (cTru (.ex (cP1 (fIsi .tuple) (.var 4))))) (eb (cP2 (fCmpI fun i j => decide (j < i)) (.ex (cPN (f1 fLen) [(.var 4)])) (.ex (er (.d (.int 60000))))) toB)) (sSeq (sRet (er (.d (.bool false)))) (er .next)) (er .next)) (sSeq (sSet 1 (cCall call "start_names" [(cVar 3), (cPN (f1 fLen) [(.var 4)])])) (sSeq (sIf (eb (cP2 fIsN (.var 1) (.ex (er (.d .none)))) toB) (sSeq (sRet (er (.d (.bool false)))) (er .next)) (er .next)) (sSeq (sFor (tgName 2) (srcAny (cVar 4)) (sSeq (sIf (cNot (cTru (.ex (cCall call "is_instruction" [(cVar 2), (cPN (f1 fLen) [(.var 4)]), (cVar 1)])))) (sSeq (sRet (er (.d (.bool false)))) (er .next)) (er .next)) (er .next))) (sSeq (sRet (er (.d (.bool true)))) (er .next)))))))))
theorem b_p_is_image (call : Call) : evB g call false (defBody s_p_is_image) ⟨n_p_is_image, defScope s_p_is_image, false, true⟩ = m_p_is_image call := by kernel_rfl
theorem q_p_is_image : List.lookup ("is_image" : Str) g.fns = some f_p_is_image := by kernel_rfl
theorem e_p_is_image (k : Nat) : evalF g (k + 1) "is_image" = runF 5 (m_p_is_image (evalF g k)) := by
  rw [evalF_eq q_p_is_image, ← b_p_is_image]; rfl
noncomputable def m_p_need_image (call : Call) : EM Fl := (sSeq (sIf (cNot (cTru (.ex (cCall call "is_image" [(cVar 0)])))) (sSeq (sRaise "BadImage") (er .next)) (er .next)) (er .next))
theorem b_p_need_image (call : Call) : evB g call false (defBody s_p_need_image) ⟨n_p_need_image, defScope s_p_need_image, false, true⟩ = m_p_need_image call := by kernel_rfl
theorem q_p_need_image : List.lookup ("need_image" : Str) g.fns = some f_p_need_image := by kernel_rfl
theorem e_p_need_image (k : Nat) : evalF g (k + 1) "need_image" = runF 1 (m_p_need_image (evalF g k)) := by
  rw [evalF_eq q_p_need_image, ← b_p_need_image]; rfl
noncomputable def m_p_write_image (call : Call) : EM Fl := (sSeq (sExpr (cCall call "need_image" [(cVar 0)])) (sSeq (sSetN 1 (cLc [2, 3] (tgTup [2, 3]) (er true) (cJs [(er (.d (.str "start "))), (cP1 fFmt (.var 2)), (er (.d (.str " "))), (cP1 fFmt (.var 3))] Str.empty) (srcAny (cP2 fIx (.var 0) (.ex (er (.d (.int 0)))))))) (sSeq (sExpr (cExt 1 (cFrz (cLc [4] (tgName 4) (er true) (cCall call "line_of" [(cVar 4)]) (srcAny (cP2 fIx (.var 0) (.ex (er (.d (.int 1)))))))))) (sSeq (sRet (cSM (fun z => f1 (fJoin z)) (er (.d (.str "\n"))) [(.var 1)])) (er .next)))))
theorem b_p_write_image (call : Call) : evB g call false (defBody s_p_write_image) ⟨n_p_write_image, defScope s_p_write_image, false, true⟩ = m_p_write_image call := by kernel_rfl
theorem q_p_write_image : List.lookup ("write_image" : Str) g.fns = some f_p_write_image := by kernel_rfl
theorem e_p_write_image (k : Nat) : evalF g (k + 1) "write_image" = runF 5 (m_p_write_image (evalF g k)) := by
  rw [evalF_eq q_p_write_image, ← b_p_write_image]; rfl
noncomputable def m_p_read_starts (call : Call) : EM Fl := (sSeq (sSetN 2 (cLst [])) (sSeq (sSetN 3 (er (.dic []))) (sSeq (sFor (tgName 4) (srcR1 (cPN (f1 fLen) [(.var 0)])) (sSeq (sSet 5 (cCall call "start_of" [(cP2 fIx (.var 0) (.var 4)), (cVar 1)])) (sSeq (sIf (cOr (eb (cP2 fIsN (.var 5) (.ex (er (.d .none)))) toB) (cOr (eb (cP2 (fInK false) (.ex (cP2 fIx (.var 5) (.ex (er (.d (.int 0)))))) (.var 3)) toB) (eb (cP2 (fCmpI fun i j => decide (j ≤ i)) (.var 4) (.ex (er (.d (.int 12))))) toB))) (sSeq es (er .next)) (er .next)) (sSeq (sPut 3 (.ex (cP2 fIx (.var 5) (.ex (er (.d (.int 0)))))) (er (.d (.bool true)))) (sSeq (sExpr (cApp 2 (cVar 5))) (er .next)))))) (sSeq (sRet (cPN (f1 fTupleOf) [(.var 2)])) (er .next)))))
theorem b_p_read_starts (call : Call) : evB g call false (defBody s_p_read_starts) ⟨n_p_read_starts, defScope s_p_read_starts, false, true⟩ = m_p_read_starts call := by kernel_rfl
theorem q_p_read_starts : List.lookup ("read_starts" : Str) g.fns = some f_p_read_starts := by kernel_rfl
theorem e_p_read_starts (k : Nat) : evalF g (k + 1) "read_starts" = runF 6 (m_p_read_starts (evalF g k)) := by
  rw [evalF_eq q_p_read_starts, ← b_p_read_starts]; rfl
noncomputable def m_p_read_image (call : Call) : EM Fl := (sSeq (sIf (cNot (cTru (.ex (cP1 (fIsi .str) (.var 0))))) (sSeq es (er .next)) (er .next)) (sSeq (sIf (eb (cP2 fEq (.var 0) (.ex (er (.d (.str ""))))) toB) (sSeq (sRet (cTup [(cTup []), (cTup [])])) (er .next)) (er .next)) (sSeq (sSet 1 (cSM (fun z => f1 (fSplit z)) (cVar 0) [(.ex (er (.d (.str "\n"))))])) (sSeq (sSet 2 (er (.d (.int 0)))) (sSeq (sWhile (cAnd (eb (cP2 (fCmpI fun i j => decide (i < j)) (.var 2) (.ex (cPN (f1 fLen) [(.var 1)]))) toB) (cTru (.ex (cSM (fun z => f1 (fStarts z)) (cP2 fIx (.var 1) (.var 2)) [(.ex (er (.d (.str "start"))))])))) (sSeq (sAug 2 augF.fAugAdd (.ex (er (.d (.int 1))))) (er .next))) (sSeq (sSet 3 (cP2 fSub (.ex (cPN (f1 fLen) [(.var 1)])) (.var 2))) (sSeq (sSet 4 (cCall call "read_starts" [(cSl (.var 1) (part none) (part (some (cVar 2)))), (cVar 3)])) (sSeq (sSetN 5 (cDc [9, 10] (tgTup [9, 10]) (er true) (cVar 9) (er (.d (.bool true))) (srcAny (cVar 4)))) (sSeq (sSetN 6 (cLst [])) (sSeq (sFor (tgName 7) (srcR1 (cVar 3)) (sSeq (sSet 8 (cCall call "instruction_of" [(cP2 fIx (.var 1) (.ex (cP2 fAdd (.var 2) (.var 7)))), (cVar 3), (cVar 5)])) (sSeq (sIf (cOr (eb (cP2 fIsN (.var 8) (.ex (er (.d .none)))) toB) (eb (cP2 (fCmpI fun i j => decide (j ≤ i)) (.var 7) (.ex (er (.d (.int 60000))))) toB)) (sSeq es (er .next)) (er .next)) (sSeq (sExpr (cApp 6 (cVar 8))) (er .next))))) (sSeq (sRet (cTup [(cVar 4), (cPN (f1 fTupleOf) [(.var 6)])])) (er .next))))))))))))
theorem b_p_read_image (call : Call) : evB g call false (defBody s_p_read_image) ⟨n_p_read_image, defScope s_p_read_image, false, true⟩ = m_p_read_image call := by kernel_rfl
theorem q_p_read_image : List.lookup ("read_image" : Str) g.fns = some f_p_read_image := by kernel_rfl
theorem e_p_read_image (k : Nat) : evalF g (k + 1) "read_image" = runF 11 (m_p_read_image (evalF g k)) := by
  rw [evalF_eq q_p_read_image, ← b_p_read_image]; rfl
noncomputable def m_lwell (call : Call) : EM Fl := (sSeq (sRet (cBoxN (cLst [(er (.d (.int 0))), (er (.d (.int 0))), (cFrz (cNewL (.var 0))), (er (.d (.int 0)))]))) (er .next))
theorem b_lwell (call : Call) : evB g call true (defBody s_lwell) ⟨n_lwell, defScope s_lwell, false, true⟩ = m_lwell call := by kernel_rfl
theorem q_lwell : List.lookup ("_law_well" : Str) g.fns = some f_lwell := by kernel_rfl
theorem e_lwell (k : Nat) : evalF g (k + 1) "_law_well" = runF 1 (m_lwell (evalF g k)) := by
  rw [evalF_eq q_lwell, ← b_lwell]; rfl
noncomputable def m_ldraw (call : Call) : EM Fl := (sSeq (sSet 2 (cP2 fIx (.var 0) (.ex (er (.d (.int 2)))))) (sSeq (sIf (eb (cP2 fEq (.ex (cP2 fIx (.var 0) (.ex (er (.d (.int 0)))))) (.ex (er (.d (.int 0))))) toB) (sSeq (sSet 4 (er (.d (.int 7)))) (sSeq (sIf (eb (cP2 (fCmpI fun i j => decide (i < j)) (.ex (cP2 fIx (.var 0) (.ex (er (.d (.int 1)))))) (.ex (cPN (f1 fLen) [(.var 2)]))) toB) (sSeq (sSet 4 (cPN (f1 fAbs) [(.ex (cP2 fIx (.var 2) (.ex (cP2 fIx (.var 0) (.ex (er (.d (.int 1))))))))])) (er .next)) (er .next)) (sSeq (sIf (eb (cP2 (fCmpI fun i j => decide (i < j)) (.var 4) (.ex (cP2 fPow (.ex (er (.d (.int 10)))) (.ex (er (.d (.int 18))))))) toB) (sSeq (sSet 4 (cP2 fAdd (.ex (cP2 fAdd (.ex (cP2 fAdd (.ex (cP2 fMul (.var 4) (.ex (er (.d (.int 1000003)))))) (.ex (cP2 fMul (.ex (cP2 fIx (.var 0) (.ex (er (.d (.int 1)))))) (.ex (er (.d (.int 7919)))))))) (.ex (er (.d (.int 12347)))))) (.ex (cP2 fMul (.ex (cP2 fIx (.var 0) (.ex (er (.d (.int 3)))))) (.ex (er (.d (.int 613)))))))) (sSeq (sSet 4 (cP2 fAdd (.ex (cP2 fMul (.ex (cP2 fDiv (.ex (cP2 fMul (.var 4) (.var 4))) (.ex (er (.d (.int 97)))))) (.ex (er (.d (.int 48271)))))) (.var 4))) (er .next))) (er .next)) (sSeq (sPut 0 (.ex (er (.d (.int 0)))) (cVar 4)) (sSeq (sAugIx 0 (.ex (er (.d (.int 1)))) augF.fAugAdd (.ex (er (.d (.int 1))))) (sSeq (sAugIx 0 (.ex (er (.d (.int 3)))) augF.fAugAdd (.ex (er (.d (.int 1))))) (er .next))))))) (er .next)) (sSeq (sSet 3 (cP2 fMod (.ex (cPN (f1 fIntU) [(.ex (cP2 fIx (.var 0) (.ex (er (.d (.int 0))))))])) (.var 1))) (sSeq (sPut 0 (.ex (er (.d (.int 0)))) (cP2 fDiv (.ex (cP2 fIx (.var 0) (.ex (er (.d (.int 0)))))) (.var 1))) (sSeq (sRet (cVar 3)) (er .next))))))
theorem b_ldraw (call : Call) : evB g call false (defBody s_ldraw) ⟨n_ldraw, defScope s_ldraw, false, true⟩ = m_ldraw call := by kernel_rfl
theorem q_ldraw : List.lookup ("_law_draw" : Str) g.fns = some f_ldraw := by kernel_rfl
theorem e_ldraw (k : Nat) : evalF g (k + 1) "_law_draw" = runF 5 (m_ldraw (evalF g k)) := by
  rw [evalF_eq q_ldraw, ← b_ldraw]; rfl
noncomputable def m_lnames (call : Call) : EM Fl := (sSeq (sSet 2 (er (.d (.str "abcdefghijklmnopqrstuvwxyzABCDEFGHIJKLMNOPQRSTUVWXYZ0123456789")))) (sSeq (sSet 3 (er (.d (.str "")))) (sSeq (sSet 4 (cP1 fNeg (.ex (er (.d (.int 1)))))) (sSeq (sIf (eb (cP2 fEq (.ex (cCall call "_law_draw" [(cBoxV 0), (er (.d (.int 2)))])) (.ex (er (.d (.int 0))))) toB) (sSeq (sSet 3 (cP2 fIx (.var 2) (.ex (cCall call "_law_draw" [(cBoxV 0), (er (.d (.int 26)))])))) (sSeq (sFor (tgName 7) (srcR1 (cCall call "_law_draw" [(cBoxV 0), (er (.d (.int 9)))])) (sSeq (sSet 3 (cP2 fAdd (.var 3) (.ex (cP2 fIx (.var 2) (.ex (cCall call "_law_draw" [(cBoxV 0), (er (.d (.int 62)))])))))) (er .next))) (sSeq (sSet 4 (cCall call "_law_draw" [(cBoxV 0), (cP2 fAdd (.ex (cPN (f1 fLen) [(.var 3)])) (.ex (er (.d (.int 1)))))])) (er .next)))) (er .next)) (sSeq (sSetN 5 (cLst [])) (sSeq (sFor (tgName 6) (srcR1 (cVar 1)) (sSeq (sSet 8 (cP2 fIx (.var 2) (.ex (cCall call "_law_draw" [(cBoxV 0), (er (.d (.int 26)))])))) (sSeq (sIf (eb (cP2 (fCmpI fun i j => decide (j ≤ i)) (.var 4) (.ex (er (.d (.int 0))))) toB) (sSeq (sSet 8 (cP2 fAdd (.ex (cP2 fAdd (.ex (cSl (.var 3) (part none) (part (some (cVar 4))))) (.var 8))) (.ex (cSl (.var 3) (part (some (cVar 4))) (part none))))) (er .next)) (sSeq (sFor (tgName 7) (srcR1 (cCall call "_law_draw" [(cBoxV 0), (er (.d (.int 10)))])) (sSeq (sSet 8 (cP2 fAdd (.var 8) (.ex (cP2 fIx (.var 2) (.ex (cCall call "_law_draw" [(cBoxV 0), (er (.d (.int 62)))])))))) (er .next))) (er .next))) (sSeq (sIf (cOr (eb (cP2 (fInK false) (.var 8) (.var 5)) toB) (eb (cP2 (fInK false) (.var 8) (.ex (cTup [(er (.d (.str "def"))), (er (.d (.str "else"))), (er (.d (.str "give"))), (er (.d (.str "if"))), (er (.d (.str "kind"))), (er (.d (.str "let"))), (er (.d (.str "match"))), (er (.d (.str "whole")))]))) toB)) (sSeq (sSet 8 (cP2 fIx (.ex (cFrz (cLc [9] (tgName 9) (eb (cP2 (fInK true) (.var 9) (.var 5)) toB) (cVar 9) (srcAny (cFrz (cLc [7] (tgName 7) (er true) (cP2 fAdd (.ex (cSl (.var 8) (part none) (part (some (er (.d (.int 8))))))) (.ex (cPN (f1 fStr) [(.ex (cP2 fAdd (.ex (er (.d (.int 10)))) (.var 7)))]))) (srcR1 (er (.d (.int 40)))))))))) (.ex (er (.d (.int 0)))))) (er .next)) (er .next)) (sSeq (sExpr (cApp 5 (cVar 8))) (er .next)))))) (sSeq (sRet (cVar 5)) (er .next))))))))
theorem b_lnames (call : Call) : evB g call false (defBody s_lnames) ⟨n_lnames, defScope s_lnames, false, true⟩ = m_lnames call := by kernel_rfl
theorem q_lnames : List.lookup ("_law_names" : Str) g.fns = some f_lnames := by kernel_rfl
theorem e_lnames (k : Nat) : evalF g (k + 1) "_law_names" = runF 10 (m_lnames (evalF g k)) := by
  rw [evalF_eq q_lnames, ← b_lnames]; rfl
noncomputable def m_lform (call : Call) : EM Fl := (sSeq (sSetN 1 (cDisp [((er (.d (.str "set"))), (er (.d (.str "rn")))), ((er (.d (.str "copy"))), (er (.d (.str "rr")))), ((er (.d (.str "add"))), (er (.d (.str "rrr")))), ((er (.d (.str "sub"))), (er (.d (.str "rrr")))), ((er (.d (.str "times"))), (er (.d (.str "rrm")))), ((er (.d (.str "new"))), (er (.d (.str "rw")))), ((er (.d (.str "put"))), (er (.d (.str "ror"))))])) (sSeq (sSetN 2 (cDisp [((er (.d (.str "take"))), (er (.d (.str "rro")))), ((er (.d (.str "push"))), (er (.d (.str "c")))), ((er (.d (.str "drop"))), (er (.d (.str "c")))), ((er (.d (.str "save"))), (er (.d (.str "ir")))), ((er (.d (.str "load"))), (er (.d (.str "ri")))), ((er (.d (.str "less"))), (er (.d (.str "rrj")))), ((er (.d (.str "table"))), (er (.d (.str "rt"))))])) (sSeq (sSetN 3 (cDisp [((er (.d (.str "jump"))), (er (.d (.str "j")))), ((er (.d (.str "call"))), (er (.d (.str "f")))), ((er (.d (.str "go"))), (er (.d (.str "f")))), ((er (.d (.str "return"))), (er (.d (.str ""))))])) (sSeq (sRet (cGet (.var 1) (.var 0) (cGet (.var 2) (.var 0) (cGet1 (.var 3) (.var 0))))) (er .next)))))
theorem b_lform (call : Call) : evB g call false (defBody s_lform) ⟨n_lform, defScope s_lform, false, true⟩ = m_lform call := by kernel_rfl
theorem q_lform : List.lookup ("_law_form" : Str) g.fns = some f_lform := by kernel_rfl
theorem e_lform (k : Nat) : evalF g (k + 1) "_law_form" = runF 4 (m_lform (evalF g k)) := by
  rw [evalF_eq q_lform, ← b_lform]; rfl
noncomputable def m_lwords (call : Call) : EM Fl := (sSeq (sSetN 0 (cLst [(er (.d (.str "set"))), (er (.d (.str "copy"))), (er (.d (.str "add"))), (er (.d (.str "sub"))), (er (.d (.str "times"))), (er (.d (.str "new"))), (er (.d (.str "put"))), (er (.d (.str "take"))), (er (.d (.str "push"))), (er (.d (.str "drop"))), (er (.d (.str "save"))), (er (.d (.str "load"))), (er (.d (.str "less")))])) (sSeq (sRet (cP2 fAdd (.var 0) (.ex (cFrz (cLst [(er (.d (.str "table"))), (er (.d (.str "jump"))), (er (.d (.str "return"))), (er (.d (.str "call"))), (er (.d (.str "go")))]))))) (er .next)))
theorem b_lwords (call : Call) : evB g call false (defBody s_lwords) ⟨n_lwords, defScope s_lwords, false, true⟩ = m_lwords call := by kernel_rfl
theorem q_lwords : List.lookup ("_law_words" : Str) g.fns = some f_lwords := by kernel_rfl
theorem e_lwords (k : Nat) : evalF g (k + 1) "_law_words" = runF 1 (m_lwords (evalF g k)) := by
  rw [evalF_eq q_lwords, ← b_lwords]; rfl
noncomputable def m_lbounds (call : Call) : EM Fl := (sSeq (sIf (eb (cP2 fEq (.var 0) (.ex (er (.d (.str "j"))))) toB) (sSeq (sRet (cTup [(er (.d (.int 0))), (cP2 fSub (.var 1) (.ex (er (.d (.int 1)))))])) (er .next)) (er .next)) (sSeq (sSetN 2 (cDisp [((er (.d (.str "r"))), (cTup [(er (.d (.int 0))), (er (.d (.int 7)))])), ((er (.d (.str "n"))), (cTup [(cP1 fNeg (.ex (cP2 fPow (.ex (er (.d (.int 10)))) (.ex (er (.d (.int 12))))))), (cP2 fPow (.ex (er (.d (.int 10)))) (.ex (er (.d (.int 12)))))])), ((er (.d (.str "m"))), (cTup [(cP1 fNeg (.ex (cP2 fPow (.ex (er (.d (.int 10)))) (.ex (er (.d (.int 6))))))), (cP2 fPow (.ex (er (.d (.int 10)))) (.ex (er (.d (.int 6)))))])), ((er (.d (.str "w"))), (cTup [(er (.d (.int 1))), (er (.d (.int 64)))])), ((er (.d (.str "c"))), (cTup [(er (.d (.int 0))), (er (.d (.int 400)))]))])) (sSeq (sRet (cGet (.var 2) (.var 0) (cIf (eb (cP2 fEq (.var 0) (.ex (er (.d (.str "o"))))) toB) (cTup [(er (.d (.int 0))), (er (.d (.int 63)))]) (cTup [(er (.d (.int 0))), (er (.d (.int 399)))])))) (er .next))))
theorem b_lbounds (call : Call) : evB g call false (defBody s_lbounds) ⟨n_lbounds, defScope s_lbounds, false, true⟩ = m_lbounds call := by kernel_rfl
theorem q_lbounds : List.lookup ("_law_bounds" : Str) g.fns = some f_lbounds := by kernel_rfl
theorem e_lbounds (k : Nat) : evalF g (k + 1) "_law_bounds" = runF 3 (m_lbounds (evalF g k)) := by
  rw [evalF_eq q_lbounds, ← b_lbounds]; rfl
noncomputable def m_lbetween (call : Call) : EM Fl := (sSeq (sSet 3 (cCall call "_law_draw" [(cBoxV 0), (er (.d (.int 6)))])) (sSeq (sIf (eb (cP2 fEq (.var 3) (.ex (er (.d (.int 0))))) toB) (sSeq (sRet (cVar 1)) (er .next)) (er .next)) (sSeq (sIf (eb (cP2 fEq (.var 3) (.ex (er (.d (.int 1))))) toB) (sSeq (sRet (cVar 2)) (er .next)) (er .next)) (sSeq (sIf (eb (cP2 fEq (.var 3) (.ex (er (.d (.int 2))))) toB) (sSeq (sRet (cPN (f2 fMin) [(.var 2), (.ex (cP2 fAdd (.var 1) (.ex (cCall call "_law_draw" [(cBoxV 0), (er (.d (.int 10)))]))))])) (er .next)) (er .next)) (sSeq (sIf (eb (cP2 fEq (.var 3) (.ex (er (.d (.int 3))))) toB) (sSeq (sRet (cPN (f2 fMax) [(.var 1), (.ex (cPN (f2 fMin) [(.var 2), (.ex (cP2 fSub (.ex (cCall call "_law_draw" [(cBoxV 0), (er (.d (.int 9)))])) (.ex (er (.d (.int 4))))))]))])) (er .next)) (er .next)) (sSeq (sRet (cP2 fAdd (.var 1) (.ex (cCall call "_law_draw" [(cBoxV 0), (cP2 fAdd (.ex (cP2 fSub (.var 2) (.var 1))) (.ex (er (.d (.int 1)))))])))) (er .next)))))))
theorem b_lbetween (call : Call) : evB g call false (defBody s_lbetween) ⟨n_lbetween, defScope s_lbetween, false, true⟩ = m_lbetween call := by kernel_rfl
theorem q_lbetween : List.lookup ("_law_between" : Str) g.fns = some f_lbetween := by kernel_rfl
theorem e_lbetween (k : Nat) : evalF g (k + 1) "_law_between" = runF 4 (m_lbetween (evalF g k)) := by
  rw [evalF_eq q_lbetween, ← b_lbetween]; rfl
noncomputable def m_lpart (call : Call) : EM Fl := (sSeq (sIf (eb (cP2 fEq (.var 1) (.ex (er (.d (.str "f"))))) toB) (sSeq (sRet (cP2 fIx (.var 3) (.ex (cCall call "_law_draw" [(cBoxV 0), (cPN (f1 fLen) [(.var 3)])])))) (er .next)) (er .next)) (sSeq (sIf (eb (cP2 fEq (.var 1) (.ex (er (.d (.str "t"))))) toB) (sSeq (sRet (cPN (f1 fTupleOf) [(.ex (cFrz (cLc [6] (tgName 6) (er true) (cCall call "_law_draw" [(cBoxV 0), (cVar 2)]) (srcR1 (cP2 fAdd (.ex (er (.d (.int 1)))) (.ex (cCall call "_law_draw" [(cBoxV 0), (er (.d (.int 8)))])))))))])) (er .next)) (er .next)) (sSeq (sTup [4, 5] (cCall call "_law_bounds" [(cVar 1), (cVar 2)])) (sSeq (sRet (cCall call "_law_between" [(cBoxV 0), (cVar 4), (cVar 5)])) (er .next)))))
theorem b_lpart (call : Call) : evB g call false (defBody s_lpart) ⟨n_lpart, defScope s_lpart, false, true⟩ = m_lpart call := by kernel_rfl
theorem q_lpart : List.lookup ("_law_part" : Str) g.fns = some f_lpart := by kernel_rfl
theorem e_lpart (k : Nat) : evalF g (k + 1) "_law_part" = runF 7 (m_lpart (evalF g k)) := by
  rw [evalF_eq q_lpart, ← b_lpart]; rfl
noncomputable def m_limage (call : Call) : EM Fl := (sSeq (sSet 3 (cCall call "_law_words" [])) (sSeq (sIf (eb (cP2 fEq (.var 2) (.ex (cFrz (cLst [])))) toB) (sSeq (sSet 3 (cSl (.var 3) (part none) (part (some (cP1 fNeg (.ex (er (.d (.int 2))))))))) (er .next)) (er .next)) (sSeq (sSetN 4 (cLst [])) (sSeq (sFor (tgName 5) (srcR1 (cVar 1)) (sSeq (sSet 6 (cP2 fIx (.var 3) (.ex (cCall call "_law_draw" [(cBoxV 0), (cPN (f1 fLen) [(.var 3)])])))) (sSeq (sExpr (cApp 4 (cP2 fAdd (.ex (cTup [(cVar 6)])) (.ex (cPN (f1 fTupleOf) [(.ex (cFrz (cLc [8] (tgName 8) (er true) (cCall call "_law_part" [(cBoxV 0), (cVar 8), (cVar 1), (cVar 2)]) (srcAny (cCall call "_law_form" [(cVar 6)])))))]))))) (er .next)))) (sSeq (sRet (cTup [(cPN (f1 fTupleOf) [(.ex (cFrz (cLc [7] (tgName 7) (er true) (cTup [(cVar 7), (cCall call "_law_draw" [(cBoxV 0), (cVar 1)])]) (srcAny (cVar 2)))))]), (cPN (f1 fTupleOf) [(.var 4)])])) (er .next))))))
theorem b_limage (call : Call) : evB g call false (defBody s_limage) ⟨n_limage, defScope s_limage, false, true⟩ = m_limage call := by kernel_rfl
theorem q_limage : List.lookup ("_law_image" : Str) g.fns = some f_limage := by kernel_rfl
theorem e_limage (k : Nat) : evalF g (k + 1) "_law_image" = runF 9 (m_limage (evalF g k)) := by
  rw [evalF_eq q_limage, ← b_limage]; rfl
noncomputable def m_lsame (call : Call) : EM Fl := (sSeq (sIf (cTru (.ex (cP1 (fIsi .tuple) (.var 1)))) (sSeq (sIf (cOr (cNot (cTru (.ex (cP1 (fIsi .tuple) (.var 0))))) (eb (cP2 fNe (.ex (cPN (f1 fLen) [(.var 0)])) (.ex (cPN (f1 fLen) [(.var 1)]))) toB)) (sSeq (sRet (er (.d (.bool false)))) (er .next)) (er .next)) (sSeq (sRet (cP2 fEq (.ex (cFrz (cLc [2] (tgName 2) (cNot (cTru (.ex (cCall call "_law_same" [(cP2 fIx (.var 0) (.var 2)), (cP2 fIx (.var 1) (.var 2))])))) (er (.d (.int 1))) (srcR1 (cPN (f1 fLen) [(.var 1)]))))) (.ex (cFrz (cLst []))))) (er .next))) (er .next)) (sSeq (sIf (eb (cP2 fIsN (.var 1) (.ex (er (.d .none)))) toB) (sSeq (sRet (cP2 fIsN (.var 0) (.ex (er (.d .none))))) (er .next)) (er .next)) (sSeq (sIf (cOr (eb (cP2 fNe (.ex (cP1 (fIsi .bool) (.var 1))) (.ex (cP1 (fIsi .bool) (.var 0)))) toB) (eb (cP2 fNe (.ex (cP1 (fIsi .str) (.var 1))) (.ex (cP1 (fIsi .str) (.var 0)))) toB)) (sSeq (sRet (er (.d (.bool false)))) (er .next)) (er .next)) (sSeq (sRet (cAndV (cP1 (fIsiT [.int, .str]) (.var 0)) (cP2 fEq (.var 0) (.var 1)))) (er .next)))))
theorem b_lsame (call : Call) : evB g call false (defBody s_lsame) ⟨n_lsame, defScope s_lsame, false, true⟩ = m_lsame call := by kernel_rfl
theorem q_lsame : List.lookup ("_law_same" : Str) g.fns = some f_lsame := by kernel_rfl
theorem e_lsame (k : Nat) : evalF g (k + 1) "_law_same" = runF 3 (m_lsame (evalF g k)) := by
  rw [evalF_eq q_lsame, ← b_lsame]; rfl
noncomputable def m_ltext (call : Call) : EM Fl := (sSeq (sSetN 1 (cLst [])) (sSeq (sFor (tgTup [3, 4]) (srcAny (cP2 fIx (.var 0) (.ex (er (.d (.int 0)))))) (sSeq (sExpr (cApp 1 (cP2 fAdd (.ex (cP2 fAdd (.ex (cP2 fAdd (.ex (er (.d (.str "start ")))) (.var 3))) (.ex (er (.d (.str " ")))))) (.ex (cPN (f1 fStr) [(.var 4)]))))) (er .next))) (sSeq (sFor (tgName 2) (srcAny (cP2 fIx (.var 0) (.ex (er (.d (.int 1)))))) (sSeq (sSet 5 (cP2 fIx (.var 2) (.ex (er (.d (.int 0)))))) (sSeq (sFor (tgName 6) (srcAny (cSl (.var 2) (part (some (er (.d (.int 1))))) (part none))) (sSeq (sSet 7 (cVar 6)) (sSeq (sIf (cNot (cTru (.ex (cP1 (fIsi .tuple) (.var 6))))) (sSeq (sSet 7 (cTup [(cVar 6)])) (er .next)) (er .next)) (sSeq (sFor (tgName 8) (srcAny (cVar 7)) (sSeq (sSet 5 (cP2 fAdd (.ex (cP2 fAdd (.var 5) (.ex (er (.d (.str " ")))))) (.ex (cPN (f1 fStr) [(.var 8)])))) (er .next))) (er .next))))) (sSeq (sExpr (cApp 1 (cVar 5))) (er .next))))) (sSeq (sRet (cSM (fun z => f1 (fJoin z)) (er (.d (.str "\n"))) [(.var 1)])) (er .next)))))
theorem b_ltext (call : Call) : evB g call false (defBody s_ltext) ⟨n_ltext, defScope s_ltext, false, true⟩ = m_ltext call := by kernel_rfl
theorem q_ltext : List.lookup ("_law_text" : Str) g.fns = some f_ltext := by kernel_rfl
theorem e_ltext (k : Nat) : evalF g (k + 1) "_law_text" = runF 9 (m_ltext (evalF g k)) := by
  rw [evalF_eq q_ltext, ← b_ltext]; rfl
noncomputable def m_ldrawn (call : Call) : EM Fl := (sSeq (sSet 1 (cP2 fIx (.ex (cFrz (cLst [(cCall call "_law_draw" [(cBoxV 0), (er (.d (.int 13)))]), (cCall call "_law_draw" [(cBoxV 0), (er (.d (.int 71)))])]))) (.ex (cP2 fDiv (.ex (cCall call "_law_draw" [(cBoxV 0), (er (.d (.int 5)))])) (.ex (er (.d (.int 4)))))))) (sSeq (sSet 2 (cP2 fIx (.ex (cFrz (cLst [(cCall call "_law_draw" [(cBoxV 0), (er (.d (.int 5)))]), (cCall call "_law_draw" [(cBoxV 0), (er (.d (.int 13)))])]))) (.ex (cP2 fDiv (.ex (cCall call "_law_draw" [(cBoxV 0), (er (.d (.int 3)))])) (.ex (er (.d (.int 2)))))))) (sSeq (sIf (eb (cP2 fEq (.var 1) (.ex (er (.d (.int 0))))) toB) (sSeq (sSet 2 (er (.d (.int 0)))) (er .next)) (er .next)) (sSeq (sRet (cCall call "_law_image" [(cBoxV 0), (cVar 1), (cCall call "_law_names" [(cBoxV 0), (cVar 2)])])) (er .next)))))
theorem b_ldrawn (call : Call) : evB g call false (defBody s_ldrawn) ⟨n_ldrawn, defScope s_ldrawn, false, true⟩ = m_ldrawn call := by kernel_rfl
theorem q_ldrawn : List.lookup ("_law_drawn" : Str) g.fns = some f_ldrawn := by kernel_rfl
theorem e_ldrawn (k : Nat) : evalF g (k + 1) "_law_drawn" = runF 3 (m_ldrawn (evalF g k)) := by
  rw [evalF_eq q_ldrawn, ← b_ldrawn]; rfl
noncomputable def m_lturned (call : Call) : EM Fl := (sSeq (sSetN 2 (cNewL (.ex (cP2 fIx (.var 1) (.ex (er (.d (.int 1)))))))) (sSeq (sSet 3 (cCall call "_law_draw" [(cBoxV 0), (cPN (f1 fLen) [(.var 2)])])) (sSeq (sSet 4 (cCall call "_law_draw" [(cBoxV 0), (cPN (f1 fLen) [(.var 2)])])) (sSeq (sSet 5 (cP2 fIx (.var 2) (.var 3))) (sSeq (sPut 2 (.var 3) (cP2 fIx (.var 2) (.var 4))) (sSeq (sPut 2 (.var 4) (cVar 5)) (sSeq (sRet (cTup [(cP2 fIx (.var 1) (.ex (er (.d (.int 0))))), (cPN (f1 fTupleOf) [(.var 2)])])) (er .next))))))))
theorem b_lturned (call : Call) : evB g call false (defBody s_lturned) ⟨n_lturned, defScope s_lturned, false, true⟩ = m_lturned call := by kernel_rfl
theorem q_lturned : List.lookup ("_law_turned" : Str) g.fns = some f_lturned := by kernel_rfl
theorem e_lturned (k : Nat) : evalF g (k + 1) "_law_turned" = runF 6 (m_lturned (evalF g k)) := by
  rw [evalF_eq q_lturned, ← b_lturned]; rfl
noncomputable def m_lright (call : Call) : EM Fl := (sSeq (sSet 1 (cCall call "_law_text" [(cVar 0)])) (sSeq (sSet 2 (cCall call "write_image" [(cVar 0)])) (sSeq (sRet (cAndV (cP1 (fIsi .str) (.var 2)) (cAndV (cP2 fEq (.var 2) (.var 1)) (cCall call "_law_same" [(cCall call "read_image" [(cVar 1)]), (cVar 0)])))) (er .next))))
theorem b_lright (call : Call) : evB g call false (defBody s_lright) ⟨n_lright, defScope s_lright, false, true⟩ = m_lright call := by kernel_rfl
theorem q_lright : List.lookup ("_law_right" : Str) g.fns = some f_lright := by kernel_rfl
theorem e_lright (k : Nat) : evalF g (k + 1) "_law_right" = runF 3 (m_lright (evalF g k)) := by
  rw [evalF_eq q_lright, ← b_lright]; rfl
noncomputable def m_law_ (call : Call) : EM Fl := (sSeq (sSet 1 (cCall call "_law_well" [(cVar 0)])) (sSeq (sIf (cOr (eb (cP2 fNe (.ex (cCallK call "write_image" ["image"] ["image"] [(cTup [(cTup []), (cTup [])])])) (.ex (er (.d (.str ""))))) toB) (cNot (cTru (.ex (cCall call "_law_same" [(cCallK call "read_image" ["text"] ["text"] [(er (.d (.str "")))]), (cTup [(cTup []), (cTup [])])]))))) (sSeq (sRet (er (.d (.bool false)))) (er .next)) (er .next)) (sSeq (sSet 2 (cTup [(cTup []), (cTup [(cTup [(er (.d (.str "return")))])])])) (sSeq (sFor (tgName 3) (srcR1 (er (.d (.int 4)))) (sSeq (sSet 4 (cCall call "_law_drawn" [(cBoxV 1)])) (sSeq (sIf (cOr (cNot (cTru (.ex (cCall call "_law_right" [(cVar 4)])))) (cOr (cNot (cTru (.ex (cCall call "_law_right" [(cVar 2)])))) (cNot (cTru (.ex (cCall call "_law_right" [(cVar 4)])))))) (sSeq (sRet (er (.d (.bool false)))) (er .next)) (er .next)) (sSeq (sIf (cAnd (eb (cP2 fNe (.ex (cP2 fIx (.var 4) (.ex (er (.d (.int 1)))))) (.ex (cTup []))) toB) (cNot (cTru (.ex (cCall call "_law_right" [(cCall call "_law_turned" [(cBoxV 1), (cVar 4)])]))))) (sSeq (sRet (er (.d (.bool false)))) (er .next)) (er .next)) (sSeq (sSet 2 (cVar 4)) (er .next)))))) (sSeq (sRet (er (.d (.bool true)))) (er .next))))))
theorem b_law_ (call : Call) : evB g call false (defBody s_law_) ⟨n_law_, defScope s_law_, false, true⟩ = m_law_ call := by kernel_rfl
theorem q_law_ : List.lookup ("law" : Str) g.fns = some f_law_ := by kernel_rfl
theorem e_law_ (k : Nat) : evalF g (k + 1) "law" = runF 5 (m_law_ (evalF g k)) := by
  rw [evalF_eq q_law_, ← b_law_]; rfl
end MP
namespace MP
open PySem PySem.Spec PyProof.Rows L2
def gd (a b : Int) : Int := ((Nat.gcd a.natAbs b.natAbs : Nat) : Int)
theorem gd_neg (a b : Int) : gd (-a) (-b) = gd a b := by unfold gd; rw [Int.natAbs_neg, Int.natAbs_neg]
theorem fGcd_v (a b : Int) : fGcd (.int a) (.int b) = some (.int (gd a b)) := rfl
theorem fDiv_v {i j : Int} (h : 0 < j) (h2 : j.natAbs.log2 < 9000) : fDiv (.int i) (.int j) = some (.int (i / j)) := by
  show (if 0 < j ∧ j.natAbs.log2 < 9000 then some (PyData.int (i / j)) else none) = _
  rw [if_pos ⟨h, h2⟩]
theorem fMod_v {i j : Int} (h : 0 < j) : fMod (.int i) (.int j) = some (.int (i % j)) := by
  show (if 0 < j then some (PyData.int (i % j)) else none) = _
  rw [if_pos h]
theorem fMul_v {i j : Int} (h : mulOk i j = true) : fMul (.int i) (.int j) = some (.int (i * j)) := by
  show (if mulOk i j = true then some (PyData.int (i * j)) else none) = _
  rw [if_pos h]
theorem mulOk_l {x y : Int} (h : x.natAbs < 18446744073709551616) : mulOk x y = true := by
  unfold MP.mulOk
  rw [decide_eq_true h]; rfl
theorem mulOk_r {x y : Int} (h : y.natAbs < 18446744073709551616) : mulOk x y = true := by
  unfold MP.mulOk
  rw [decide_eq_true h, Bool.or_true]; rfl
def ab (z : Int) : Int := if z < 0 then -z else z
theorem ab_nn (z : Int) : 0 ≤ ab z := by unfold ab; split <;> omega
theorem fAbs_v (z : Int) : fAbs (.int z) = some (.int (ab z)) := rfl
theorem fMulC (j : Int) (h : j.natAbs < 18446744073709551616) (i : Int) : fMul (.int i) (.int j) = some (.int (i * j)) := fMul_v (mulOk_r h)
theorem fEqI_v (i j : Int) : fEq (.int i) (.int j) = some (.bool (decide (i = j))) := by
  show (if true = true then some (PyData.bool (PyData.eqv (.int i) (.int j))) else _) = _
  rw [if_pos rfl]
  by_cases h : i = j <;> simp [PyData.eqv, h]
theorem fNeI_v (i j : Int) : fNe (.int i) (.int j) = some (.bool (!decide (i = j))) := by
  show (if true = true then some (PyData.bool (!PyData.eqv (.int i) (.int j))) else _) = _
  rw [if_pos rfl]
  by_cases h : i = j <;> simp [PyData.eqv, h]
def Sb (n : Nat) (x : Int) : Prop := x.natAbs < 2 ^ n
theorem Sb.mono {m n : Nat} {x : Int} (h : Sb m x) (l : m ≤ n) : Sb n x := Nat.lt_of_lt_of_le h (Nat.pow_le_pow_right (by decide) l)
theorem Sb.log {n : Nat} {x : Int} (h : Sb (n + 1) x) : x.natAbs.log2 < n + 1 := by
  by_cases e : x.natAbs = 0
  · rw [e]; simp
  · exact (Nat.log2_lt e).mpr h
theorem Sb.mul {m n : Nat} {x y : Int} (h : Sb m x) (h2 : Sb n y) : Sb (m + n) (x * y) := by
  unfold Sb at *
  rw [Int.natAbs_mul, Nat.pow_add]
  exact Nat.mul_lt_mul'' h h2
theorem Sb.add {m : Nat} {x y : Int} (h : Sb m x) (h2 : Sb m y) : Sb (m + 1) (x + y) := by
  unfold Sb at *
  have := Int.natAbs_add_le x y
  rw [Nat.pow_succ]
  omega
theorem Sb.neg {m : Nat} {x : Int} (h : Sb m x) : Sb m (-x) := by unfold Sb at *; rw [Int.natAbs_neg]; exact h
theorem Sb.sub {m : Nat} {x y : Int} (h : Sb m x) (h2 : Sb m y) : Sb (m + 1) (x - y) := by rw [Int.sub_eq_add_neg]; exact h.add h2.neg
theorem Sb.mulOk {m n : Nat} {x y : Int} (h : Sb (m + 1) x) (h2 : Sb (n + 1) y) (l : m + n + 2 ≤ 100000000) : mulOk x y = true := by
  have a := h.log
  have b := h2.log
  unfold MP.mulOk
  rw [Bool.or_eq_true, decide_eq_true_eq]
  exact .inr (by omega)
theorem v_is_int (k : Nat) (mem : List Box) (x : PyData) : evalF g (k + 1) "is_int" [.d x] mem = .ok (.d (.bool (isT .int x && !isT .bool x))) ⟨[], mem⟩ := by
  rw [e_p_is_int]
  cases x <;> simp [m_p_is_int, eb, rb, er, es, sSeq, sIf, sRet, sSet, sSetN, setS, setN, sExpr, sTup, setAll, evD, cVar, opd, resolve, cP1, cP2, cPN, cList, resolves, cTup, cLst, cFrz, cBoxN, cBoxV, cTru, truth, toB, cAnd, cOr, cNot, cAndV, cOrV, cNotV, cIf, cCh, fAdd, fSub, fCmpI, fNeg, fIsi, isT, fI, f1, f2, fLen, fInt, fTupleOf, fIx, cCall, doCall, cCallK, runF, exitF, Ob.data, sRaise, cNewL, modSlot, gPut, sPut, isLst, sAug, sAugIx, augF.fAugAdd, fGet, gApp, cApp, b2i, cExt, gExt, seqOf, cGet, cGet1, isDt, fGetD, keyOf, cPairs, mergeD, cDisp, fFmt, cJs, fIntU, fInt, fKd, fKdIn, fIsiT, fAbs_v, fGcd_v, fEqI_v, fNeI_v]
def Wb (x a : Int) (cs : List PyData) (c : Int) : Box := .ctr (.lst [.int x, .int a, .list cs, .int c])
theorem atI_nat' {α : Type} {xs : List α} {a : Int} (h : 0 ≤ a) : atI xs a = xs[a.toNat]? := by
  unfold atI ixN
  rw [if_pos h]
  by_cases h1 : a < xs.length
  · rw [if_pos h1]; rfl
  · rw [if_neg h1]
    show none = _
    rw [List.getElem?_eq_none (by omega)]
/-- the well: what it may hold -/
def In (b : Int) (ns : List Int) (m : List Box) : Prop := ∃ x a c, m = [Wb x a (ns.map .int) c] ∧ 0 ≤ x ∧ 0 ≤ a ∧ a ≤ b ∧ 0 ≤ c ∧ c ≤ b
theorem draw_fin {T many a c b : Int} {ns : List Int} (hT : 0 ≤ T) (hm : 0 < many) (h1 : 0 ≤ a) (h2 : a ≤ b) (h3 : 0 ≤ c) (h4 : c ≤ b) : ∃ r m', (T % many = r ∧ [Box.ctr (.lst [.int (T / many), .int a, .list (ns.map .int), .int c])] = m') ∧ In b ns m' ∧ 0 ≤ r ∧ r < many :=
  ⟨_, _, ⟨rfl, rfl⟩, ⟨_, _, _, rfl, Int.ediv_nonneg hT (by omega), h1, h2, h3, h4⟩, Int.emod_nonneg _ (by omega), Int.emod_lt_of_pos _ hm⟩
theorem v_draw (k : Nat) {b many : Int} {ns : List Int} {m : List Box} (hI : In b ns m) (hb : b < 900000) (hm : 0 < many) (hm2 : many.natAbs.log2 < 9000) :
    ∃ r m', evalF g (k + 1) "_law_draw" [.ref 0, .d (.int many)] m = .ok (.d (.int r)) ⟨[], m'⟩ ∧ In (b + 1) ns m' ∧ 0 ≤ r ∧ r < many := by
  obtain ⟨x, a, c, rfl, hx, ha, ha2, hc, hc2⟩ := hI
  have q1 := fMulC 1000003 (by decide)
  have q2 := fMulC 7919 (by decide)
  have q3 := fMulC 613 (by decide)
  have q4 := fMulC 48271 (by decide)
  have q5 : fPow (.int 10) (.int 18) = some (.int 1000000000000000000) := rfl
  have q6 := fun i => fDiv_v (i := i) (j := 97) (by decide) (by decide)
  have q7 := fun i => fMod_v (i := i) hm
  have q8 := fun i => fDiv_v (i := i) hm hm2
  have e0 : ∀ {α : Type} (p q r s : α), atI [p, q, r, s] 0 = some p := fun _ _ _ _ => rfl
  have e1 : ∀ {α : Type} (p q r s : α), atI [p, q, r, s] 1 = some q := fun _ _ _ _ => rfl
  have e2 : ∀ {α : Type} (p q r s : α), atI [p, q, r, s] 2 = some r := fun _ _ _ _ => rfl
  have e3 : ∀ {α : Type} (p q r s : α), atI [p, q, r, s] 3 = some s := fun _ _ _ _ => rfl
  have i0 : ixN 4 0 = some 0 := rfl
  have i1 : ixN 4 1 = some 1 := rfl
  have i3 : ixN 4 3 = some 3 := rfl
  rw [e_ldraw]
  by_cases h0 : x = 0
  · subst h0
    have big : ∀ w : Int, 0 ≤ w → w < 1000000000000000000 → 0 ≤ w * 1000003 + a * 7919 + 12347 + c * 613 ∧ mulOk (w * 1000003 + a * 7919 + 12347 + c * 613) (w * 1000003 + a * 7919 + 12347 + c * 613) = true := fun w h1 h2 => by
      have : Sb (99 + 1) (w * 1000003 + a * 7919 + 12347 + c * 613) := by unfold Sb; omega
      exact ⟨by omega, this.mulOk this (by decide)⟩
    by_cases hl : a < (ns.length : Int)
    · obtain ⟨z, hz⟩ : ∃ z, ns[a.toNat]? = some z := ⟨_, List.getElem?_eq_getElem (by omega)⟩
      have hz' : atI (ns.map PyData.int) a = some (.int z) := by
        rw [atI_nat' ha, List.getElem?_map, hz]; rfl
      have zn := ab_nn z
      generalize hw : ab z = w at *
      by_cases hb : w < 1000000000000000000
      · obtain ⟨hp, hs⟩ := big w zn hb
        have q9 := fMul_v hs
        simp [m_ldraw, eb, rb, er, es, sSeq, sIf, sRet, sSet, sSetN, setS, setN, sExpr, sTup, setAll, evD, cVar, opd, resolve, cP1, cP2, cPN, cList, resolves, cTup, cLst, cFrz, cBoxN, cBoxV, cTru, truth, toB, cAnd, cOr, cNot, cAndV, cOrV, cNotV, cIf, cCh, fAdd, fSub, fCmpI, fNeg, fIsi, isT, fI, f1, f2, fLen, fInt, fTupleOf, fIx, cCall, doCall, cCallK, runF, exitF, Ob.data, sRaise, cNewL, modSlot, gPut, sPut, isLst, sAug, sAugIx, augF.fAugAdd, fGet, gApp, cApp, b2i, cExt, gExt, seqOf, cGet, cGet1, isDt, fGetD, keyOf, cPairs, mergeD, cDisp, fFmt, cJs, fIntU, fInt, fKd, fKdIn, fIsiT, fAbs_v, fGcd_v, fEqI_v, fNeI_v, Wb, q1, q2, q3, q4, q5, q6, q7, q8, q9, e0, e1, e2, e3, i0, i1, i3, hl, hz', hw, hb]
        generalize w * 1000003 + a * 7919 + 12347 + c * 613 = v at *
        exact draw_fin (b := b + 1) (by have : 0 ≤ v * v / 97 := Int.ediv_nonneg (Int.mul_nonneg hp hp) (by decide); omega) hm (by omega) (by omega) (by omega) (by omega)
      · simp [m_ldraw, eb, rb, er, es, sSeq, sIf, sRet, sSet, sSetN, setS, setN, sExpr, sTup, setAll, evD, cVar, opd, resolve, cP1, cP2, cPN, cList, resolves, cTup, cLst, cFrz, cBoxN, cBoxV, cTru, truth, toB, cAnd, cOr, cNot, cAndV, cOrV, cNotV, cIf, cCh, fAdd, fSub, fCmpI, fNeg, fIsi, isT, fI, f1, f2, fLen, fInt, fTupleOf, fIx, cCall, doCall, cCallK, runF, exitF, Ob.data, sRaise, cNewL, modSlot, gPut, sPut, isLst, sAug, sAugIx, augF.fAugAdd, fGet, gApp, cApp, b2i, cExt, gExt, seqOf, cGet, cGet1, isDt, fGetD, keyOf, cPairs, mergeD, cDisp, fFmt, cJs, fIntU, fInt, fKd, fKdIn, fIsiT, fAbs_v, fGcd_v, fEqI_v, fNeI_v, Wb, q1, q2, q3, q4, q5, q6, q7, q8, e0, e1, e2, e3, i0, i1, i3, hl, hz', hw, hb]
        exact draw_fin (b := b + 1) zn hm (by omega) (by omega) (by omega) (by omega)
    · obtain ⟨hp, hs⟩ := big 7 (by decide) (by decide)
      have q9 := fMul_v hs
      simp [m_ldraw, eb, rb, er, es, sSeq, sIf, sRet, sSet, sSetN, setS, setN, sExpr, sTup, setAll, evD, cVar, opd, resolve, cP1, cP2, cPN, cList, resolves, cTup, cLst, cFrz, cBoxN, cBoxV, cTru, truth, toB, cAnd, cOr, cNot, cAndV, cOrV, cNotV, cIf, cCh, fAdd, fSub, fCmpI, fNeg, fIsi, isT, fI, f1, f2, fLen, fInt, fTupleOf, fIx, cCall, doCall, cCallK, runF, exitF, Ob.data, sRaise, cNewL, modSlot, gPut, sPut, isLst, sAug, sAugIx, augF.fAugAdd, fGet, gApp, cApp, b2i, cExt, gExt, seqOf, cGet, cGet1, isDt, fGetD, keyOf, cPairs, mergeD, cDisp, fFmt, cJs, fIntU, fInt, fKd, fKdIn, fIsiT, fAbs_v, fGcd_v, fEqI_v, fNeI_v, Wb, q1, q2, q3, q4, q5, q6, q7, q8, e0, e1, e2, e3, i0, i1, i3, hl]
      simp at q9
      simp [q9, eb, rb, er, es, sSeq, sIf, sRet, sSet, sSetN, setS, setN, sExpr, sTup, setAll, evD, cVar, opd, resolve, cP1, cP2, cPN, cList, resolves, cTup, cLst, cFrz, cBoxN, cBoxV, cTru, truth, toB, cAnd, cOr, cNot, cAndV, cOrV, cNotV, cIf, cCh, fAdd, fSub, fCmpI, fNeg, fIsi, isT, fI, f1, f2, fLen, fInt, fTupleOf, fIx, cCall, doCall, cCallK, runF, exitF, Ob.data, sRaise, cNewL, modSlot, gPut, sPut, isLst, sAug, sAugIx, augF.fAugAdd, fGet, gApp, cApp, b2i, cExt, gExt, seqOf, cGet, cGet1, isDt, fGetD, keyOf, cPairs, mergeD, cDisp, fFmt, cJs, fIntU, fInt, fKd, fKdIn, fIsiT, fAbs_v, fGcd_v, fEqI_v, fNeI_v, Wb, q1, q2, q3, q4, q5, q6, q7, q8, e0, e1, e2, e3, i0, i1, i3]
      have hp' : 0 ≤ 7000021 + a * 7919 + 12347 + c * 613 := by omega
      generalize 7000021 + a * 7919 + 12347 + c * 613 = v at *
      exact draw_fin (b := b + 1) (by have : 0 ≤ v * v / 97 := Int.ediv_nonneg (Int.mul_nonneg hp' hp') (by decide); omega) hm (by omega) (by omega) (by omega) (by omega)
  · simp [m_ldraw, eb, rb, er, es, sSeq, sIf, sRet, sSet, sSetN, setS, setN, sExpr, sTup, setAll, evD, cVar, opd, resolve, cP1, cP2, cPN, cList, resolves, cTup, cLst, cFrz, cBoxN, cBoxV, cTru, truth, toB, cAnd, cOr, cNot, cAndV, cOrV, cNotV, cIf, cCh, fAdd, fSub, fCmpI, fNeg, fIsi, isT, fI, f1, f2, fLen, fInt, fTupleOf, fIx, cCall, doCall, cCallK, runF, exitF, Ob.data, sRaise, cNewL, modSlot, gPut, sPut, isLst, sAug, sAugIx, augF.fAugAdd, fGet, gApp, cApp, b2i, cExt, gExt, seqOf, cGet, cGet1, isDt, fGetD, keyOf, cPairs, mergeD, cDisp, fFmt, cJs, fIntU, fInt, fKd, fKdIn, fIsiT, fAbs_v, fGcd_v, fEqI_v, fNeI_v, Wb, q7, q8, e0, e1, e2, e3, i0, i1, i3, h0]
    exact draw_fin (b := b + 1) hx hm (by omega) (by omega) (by omega) (by omega)
theorem In.one {b : Int} {ns : List Int} {m : List Box} (h : In b ns m) : ∃ y, m = [y] := by
  obtain ⟨x, a, c, rfl, _⟩ := h
  exact ⟨_, rfl⟩
theorem In.mono {b b' : Int} {ns : List Int} {m : List Box} (h : In b ns m) (l : b ≤ b') : In b' ns m := by
  obtain ⟨x, a, c, rfl, h1, h2, h3, h4, h5⟩ := h
  exact ⟨x, a, c, rfl, h1, h2, by omega, h4, by omega⟩
theorem In.take {b b' : Int} {ns : List Int} {m m' : List Box} (h : In b ns m) (h' : In b' ns m') : List.take m.length m' = m' := by
  obtain ⟨y, rfl⟩ := h.one
  obtain ⟨z, rfl⟩ := h'.one
  rfl
end MP
namespace MP
open PySem PySem.Spec PyProof.Rows L2 TL
/-! texts as lists of signs -/
def isSm (c : Nat) : Bool := decide (97 ≤ c) && decide (c ≤ 122)
def isLe (c : Nat) : Bool := isSm c || (decide (65 ≤ c) && decide (c ≤ 90))
def isDg (c : Nat) : Bool := decide (48 ≤ c) && decide (c ≤ 57)
def isAl (c : Nat) : Bool := isLe c || isDg c
theorem fInK_sg (neg : Bool) (c : Nat) (L : Str) : fInK neg (.str ⟨#[c]⟩) (.str L) = some (.bool (decide (c ∈ tl L) != neg)) := rfl
theorem sg_mem {L : Str} {p : Nat → Bool} (h1 : ∀ c, c < 128 → decide (c ∈ tl L) = p c) (h2 : ∀ c, 128 ≤ c → p c = false) (h3 : ∀ c ∈ tl L, c < 128) (c : Nat) : decide (c ∈ tl L) = p c := by
  rcases Nat.lt_or_ge c 128 with h | h
  · exact h1 c h
  · rw [h2 c h, decide_eq_false]
    intro z
    have := h3 c z
    omega
theorem mem_letters (c : Nat) : decide (c ∈ tl ("abcdefghijklmnopqrstuvwxyzABCDEFGHIJKLMNOPQRSTUVWXYZ" : Str)) = isLe c := by
  refine sg_mem (by decide +kernel) (fun c h => ?_) (by decide +kernel) c
  unfold isLe isSm
  rw [decide_eq_false (show ¬ c ≤ 122 by omega), decide_eq_false (show ¬ c ≤ 90 by omega)]
  simp
theorem mem_small (c : Nat) : decide (c ∈ tl ("abcdefghijklmnopqrstuvwxyz" : Str)) = isSm c := by
  refine sg_mem (by decide +kernel) (fun c h => ?_) (by decide +kernel) c
  unfold isSm
  rw [decide_eq_false (show ¬ c ≤ 122 by omega)]
  simp
theorem mem_digits (c : Nat) : decide (c ∈ tl ("0123456789" : Str)) = isDg c := by
  refine sg_mem (by decide +kernel) (fun c h => ?_) (by decide +kernel) c
  unfold isDg
  rw [decide_eq_false (show ¬ c ≤ 57 by omega)]
  simp
theorem fIn_letters (neg : Bool) (c : Nat) : fInK neg (.str ⟨#[c]⟩) (.str "abcdefghijklmnopqrstuvwxyzABCDEFGHIJKLMNOPQRSTUVWXYZ") = some (.bool (isLe c != neg)) := by rw [fInK_sg, mem_letters]
theorem fIn_small (neg : Bool) (c : Nat) : fInK neg (.str ⟨#[c]⟩) (.str "abcdefghijklmnopqrstuvwxyz") = some (.bool (isSm c != neg)) := by rw [fInK_sg, mem_small]
theorem fIn_digits (neg : Bool) (c : Nat) : fInK neg (.str ⟨#[c]⟩) (.str "0123456789") = some (.bool (isDg c != neg)) := by rw [fInK_sg, mem_digits]
theorem fEqS_v (a b : Str) : fEq (.str a) (.str b) = some (.bool (decide (a = b))) := by
  show (if true = true then some (PyData.bool (PyData.eqv (.str a) (.str b))) else _) = _
  rw [if_pos rfl]
  by_cases h : a = b <;> simp [PyData.eqv, h]
theorem fNeS_v (a b : Str) : fNe (.str a) (.str b) = some (.bool (!decide (a = b))) := by
  show (if true = true then some (PyData.bool (!PyData.eqv (.str a) (.str b))) else _) = _
  rw [if_pos rfl]
  by_cases h : a = b <;> simp [PyData.eqv, h]
theorem atS {s : Str} {i : Nat} {c : Nat} (h : (tl s)[i]? = some c) : atI s.cps.toList (i : Int) = some c := by
  rw [atI_nat' (Int.natCast_nonneg i), Int.toNat_natCast]
  exact h
end MP
namespace MP
open PySem PySem.Spec PyProof.Rows L2 TL
theorem allB_true : ∀ n : Nat, allB (List.replicate n (.bool true)) = some (List.replicate n true)
  | 0 => rfl
  | n + 1 => by
    rw [List.replicate_succ, List.replicate_succ]
    show (match allB (List.replicate n (.bool true)) with
      | some bs => some (true :: bs)
      | none => none) = _
    rw [allB_true n]
theorem fAll_rep (n : Nat) : fAll (.list (List.replicate n (.bool true))) = some (.bool true) := by
  unfold fAll
  simp only [allB_true, Option.map_some]
  rw [List.all_eq_true.mpr fun x hx => by rw [(List.mem_replicate.mp hx).2]; rfl]
theorem fAll_true {α : Type} (xs : List α) : fAll (.list (xs.map fun _ => .bool true)) = some (.bool true) := by
  rw [List.map_const']
  unfold fAll
  simp only [allB_true, Option.map_some]
  rw [List.all_eq_true.mpr fun x hx => by rw [(List.mem_replicate.mp hx).2]; rfl]
/-- a low name -/
structure Low (s : Str) : Prop where
  le : s.length ≤ 10
  al : ∀ c ∈ tl s, isAl c = true
  hd : ∃ c r, tl s = c :: r ∧ isSm c = true
  no : inD (.str s) [.str "def", .str "else", .str "give", .str "if", .str "kind", .str "let", .str "match", .str "whole"] = false
theorem Low.le2 {s : Str} (h : Low s) : s.length ≤ 1000000 := Nat.le_trans h.le (by decide)
theorem Low.pos {s : Str} (h : Low s) : 1 ≤ s.length := by
  obtain ⟨c, r, e, _⟩ := h.hd
  rw [len_tl, e, List.length_cons]
  omega
theorem Low.words {s : Str} (h : Low s) (neg : Bool) : fInK neg (.str s) (.tuple [.str "def", .str "else", .str "give", .str "if", .str "kind", .str "let", .str "match", .str "whole"]) = some (.bool neg) := by
  unfold fInK fIn
  dsimp only
  rw [if_pos (by rfl), h.no]
  cases neg <;> rfl
theorem signs_eq (s : Str) : signs s = (tl s).map fun c => .str ⟨#[c]⟩ := rfl
theorem v_is_name (k : Nat) (mem : List Box) {s : Str} (h : Low s) : evalF g (k + 1) "is_name" [.d (.str s)] mem = .ok (.d (.bool true)) ⟨[], mem⟩ := by
  rw [e_p_is_name]
  obtain ⟨c, r, e, hc⟩ := h.hd
  have q1 : atI s.cps.toList (0 : Int) = some c := atS (i := 0) (by rw [e]; rfl)
  have q2 : isLe c = true := by unfold isLe; rw [hc]; rfl
  have q3 : (1 : Int) ≤ s.length := by have := h.pos; omega
  have q4 : (s.length : Int) ≤ 10 := by have := h.le; omega
  have q5 := h.words false
  simp only [m_p_is_name]
  generalize hlc : cLc _ _ _ _ _ = lc
  have L : lc ⟨[some (.d (.str s)), none], mem⟩ = .ok (.lst ((signs s).map fun _ => .bool true)) ⟨[some (.d (.str s)), none], mem⟩ := by
    rw [← hlc]
    refine cLc_eq (s1 := ⟨[some (.d (.str s)), none], mem⟩) (s2 := ⟨[some (.d (.str s)), none], mem⟩) (xs := signs s) ?_ (lcL_map ?_ fun x hx => ?_)
    · simp [srcAny, eb, rb, er, es, sSeq, sIf, sRet, sSet, sSetN, setS, setN, sExpr, sTup, setAll, evD, cVar, opd, resolve, cP1, cP2, cPN, cList, resolves, cTup, cLst, cFrz, cBoxN, cBoxV, cTru, truth, toB, cAnd, cOr, cNot, cAndV, cOrV, cNotV, cIf, cCh, fAdd, fSub, fCmpI, fNeg, fIsi, isT, fI, f1, f2, fLen, fInt, fTupleOf, fIx, cCall, doCall, cCallK, runF, exitF, Ob.data, sRaise, cNewL, modSlot, gPut, sPut, isLst, sAug, sAugIx, augF.fAugAdd, fGet, gApp, cApp, b2i, cExt, gExt, seqOf, cGet, cGet1, isDt, fGetD, keyOf, cPairs, mergeD, cDisp, fFmt, cJs, fIntU, fInt, fKd, fKdIn, fIsiT, fAbs_v, fGcd_v, fEqI_v, fNeI_v]
    · rw [signs_eq, List.length_map, ← len_tl]; exact h.le2
    · rw [signs_eq] at hx
      obtain ⟨d, hd, rfl⟩ := List.mem_map.mp hx
      have a := h.al d hd
      refine ⟨⟨[some (.d (.str s)), some (.d (.str ⟨#[d]⟩))], mem⟩, ⟨[some (.d (.str s)), some (.d (.str ⟨#[d]⟩))], mem⟩, rfl, ?_, rfl⟩
      unfold isAl at a
      cases hL : isLe d with
      | true => simp [eb, rb, er, es, sSeq, sIf, sRet, sSet, sSetN, setS, setN, sExpr, sTup, setAll, evD, cVar, opd, resolve, cP1, cP2, cPN, cList, resolves, cTup, cLst, cFrz, cBoxN, cBoxV, cTru, truth, toB, cAnd, cOr, cNot, cAndV, cOrV, cNotV, cIf, cCh, fAdd, fSub, fCmpI, fNeg, fIsi, isT, fI, f1, f2, fLen, fInt, fTupleOf, fIx, cCall, doCall, cCallK, runF, exitF, Ob.data, sRaise, cNewL, modSlot, gPut, sPut, isLst, sAug, sAugIx, augF.fAugAdd, fGet, gApp, cApp, b2i, cExt, gExt, seqOf, cGet, cGet1, isDt, fGetD, keyOf, cPairs, mergeD, cDisp, fFmt, cJs, fIntU, fInt, fKd, fKdIn, fIsiT, fAbs_v, fGcd_v, fEqI_v, fNeI_v, fIn_letters, hL]
      | false =>
        rw [hL, Bool.false_or] at a
        simp [eb, rb, er, es, sSeq, sIf, sRet, sSet, sSetN, setS, setN, sExpr, sTup, setAll, evD, cVar, opd, resolve, cP1, cP2, cPN, cList, resolves, cTup, cLst, cFrz, cBoxN, cBoxV, cTru, truth, toB, cAnd, cOr, cNot, cAndV, cOrV, cNotV, cIf, cCh, fAdd, fSub, fCmpI, fNeg, fIsi, isT, fI, f1, f2, fLen, fInt, fTupleOf, fIx, cCall, doCall, cCallK, runF, exitF, Ob.data, sRaise, cNewL, modSlot, gPut, sPut, isLst, sAug, sAugIx, augF.fAugAdd, fGet, gApp, cApp, b2i, cExt, gExt, seqOf, cGet, cGet1, isDt, fGetD, keyOf, cPairs, mergeD, cDisp, fFmt, cJs, fIntU, fInt, fKd, fKdIn, fIsiT, fAbs_v, fGcd_v, fEqI_v, fNeI_v, fIn_letters, fIn_digits, hL, a]
  have F := fAll_true (signs s)
  simp [eb, rb, er, es, sSeq, sIf, sRet, sSet, sSetN, setS, setN, sExpr, sTup, setAll, evD, cVar, opd, resolve, cP1, cP2, cPN, cList, resolves, cTup, cLst, cFrz, cBoxN, cBoxV, cTru, truth, toB, cAnd, cOr, cNot, cAndV, cOrV, cNotV, cIf, cCh, fAdd, fSub, fCmpI, fNeg, fIsi, isT, fI, f1, f2, fLen, fInt, fTupleOf, fIx, cCall, doCall, cCallK, runF, exitF, Ob.data, sRaise, cNewL, modSlot, gPut, sPut, isLst, sAug, sAugIx, augF.fAugAdd, fGet, gApp, cApp, b2i, cExt, gExt, seqOf, cGet, cGet1, isDt, fGetD, keyOf, cPairs, mergeD, cDisp, fFmt, cJs, fIntU, fInt, fKd, fKdIn, fIsiT, fAbs_v, fGcd_v, fEqI_v, fNeI_v, h.le2, q1, q2, q3, q4, q5, fIn_letters, L, F]
theorem v_is_low (k : Nat) (mem : List Box) {s : Str} (h : Low s) : evalF g (k + 2) "is_low" [.d (.str s)] mem = .ok (.d (.bool true)) ⟨[], mem⟩ := by
  rw [e_p_is_low]
  obtain ⟨c, r, e, hc⟩ := h.hd
  have q1 : atI s.cps.toList (0 : Int) = some c := atS (i := 0) (by rw [e]; rfl)
  simp [m_p_is_low, eb, rb, er, es, sSeq, sIf, sRet, sSet, sSetN, setS, setN, sExpr, sTup, setAll, evD, cVar, opd, resolve, cP1, cP2, cPN, cList, resolves, cTup, cLst, cFrz, cBoxN, cBoxV, cTru, truth, toB, cAnd, cOr, cNot, cAndV, cOrV, cNotV, cIf, cCh, fAdd, fSub, fCmpI, fNeg, fIsi, isT, fI, f1, f2, fLen, fInt, fTupleOf, fIx, cCall, doCall, cCallK, runF, exitF, Ob.data, sRaise, cNewL, modSlot, gPut, sPut, isLst, sAug, sAugIx, augF.fAugAdd, fGet, gApp, cApp, b2i, cExt, gExt, seqOf, cGet, cGet1, isDt, fGetD, keyOf, cPairs, mergeD, cDisp, fFmt, cJs, fIntU, fInt, fKd, fKdIn, fIsiT, fAbs_v, fGcd_v, fEqI_v, fNeI_v, v_is_name k mem h, h.le2, q1, fIn_small, hc]
theorem v_within (k : Nat) (mem : List Box) (x a b : Int) : evalF g (k + 2) "within" [.d (.int x), .d (.int a), .d (.int b)] mem = .ok (.d (.bool (decide (a ≤ x) && decide (x ≤ b)))) ⟨[], mem⟩ := by
  rw [e_p_within]
  by_cases h1 : a ≤ x <;> simp [m_p_within, eb, rb, er, es, sSeq, sIf, sRet, sSet, sSetN, setS, setN, sExpr, sTup, setAll, evD, cVar, opd, resolve, cP1, cP2, cPN, cList, resolves, cTup, cLst, cFrz, cBoxN, cBoxV, cTru, truth, toB, cAnd, cOr, cNot, cAndV, cOrV, cNotV, cIf, cCh, fAdd, fSub, fCmpI, fNeg, fIsi, isT, fI, f1, f2, fLen, fInt, fTupleOf, fIx, cCall, doCall, cCallK, runF, exitF, Ob.data, sRaise, cNewL, modSlot, gPut, sPut, isLst, sAug, sAugIx, augF.fAugAdd, fGet, gApp, cApp, b2i, cExt, gExt, seqOf, cGet, cGet1, isDt, fGetD, keyOf, cPairs, mergeD, cDisp, fFmt, cJs, fIntU, fInt, fKd, fKdIn, fIsiT, fAbs_v, fGcd_v, fEqI_v, fNeI_v, v_is_int k mem, h1]
end MP
namespace MP
open PySem PySem.Spec PyProof.Rows L2 TL
/-! numbers and their writing -/
def numS (i : Int) : Str := Str.ofString (toString i)
theorem tl_num0 {i : Int} (h : 0 ≤ i) : tl (numS i) = numL i.toNat := by
  obtain ⟨m, rfl⟩ := Int.eq_ofNat_of_zero_le h
  exact tl_num m
theorem tl_neg (n : Nat) : tl (numS (Int.negSucc n)) = 45 :: numL (n + 1) := by
  unfold numS
  show (Str.ofString (toString (Int.negSucc n))).cps.toList = _
  rw [PyProof.Rows.signs_ofString]
  have e : toString (Int.negSucc n) = "-" ++ Nat.repr (n + 1) := rfl
  rw [e, String.toList_append, List.map_append, Nat.toList_repr]
  rfl
theorem tl_numN {i : Int} (h : i < 0) : tl (numS i) = 45 :: numL i.natAbs := by
  cases i with
  | ofNat m => have : (0 : Int) ≤ Int.ofNat m := Int.natCast_nonneg m; omega
  | negSucc n => exact tl_neg n
theorem numL_head : ∀ n : Nat, 1 ≤ n → ∃ c r, numL n = c :: r ∧ 49 ≤ c ∧ c ≤ 57 := by
  intro n
  induction n using Nat.strongRecOn with
  | _ n ih =>
    intro h1
    by_cases h : n < 10
    · exact ⟨48 + n, [], numL_lt h, by omega, by omega⟩
    · obtain ⟨c, r, e, h2, h3⟩ := ih (n / 10) (by omega) (by omega)
      exact ⟨c, r ++ [48 + n % 10], by rw [numL_step (by omega), e]; rfl, h2, h3⟩
theorem int_of_num {i : Int} (h : i.natAbs < 10 ^ 13) : intText? (numS i) = some i ∧ (numS i).length ≤ 640 := by
  have hl := numL_len (k := 13) (by decide) h
  rcases Int.lt_or_le i 0 with hi | hi
  · have e := tl_numN hi
    refine ⟨?_, by rw [len_tl, e, List.length_cons]; omega⟩
    have z := PySem.intText_neg (x := numS i) e (numL_digits _) (numL_ne _) (by rw [len_tl, e, List.length_cons]; omega)
    rw [z, numL_val]
    congr 1
    omega
  · have e := tl_num0 hi
    have ea : i.natAbs = i.toNat := by omega
    rw [ea] at hl
    refine ⟨?_, by rw [len_tl, e]; omega⟩
    have z := PySem.intText_digits (x := numS i) (by rw [show (numS i).cps.toList = _ from e]; exact numL_digits _) (by rw [show (numS i).cps.toList = _ from e]; exact numL_ne _) (by rw [len_tl, e]; omega)
    rw [z, show (numS i).cps.toList = _ from e, numL_val]
    congr 1
    omega
theorem cut_head {s : Str} : tl (cutS s none (some 1)) = (tl s).take 1 := by
  unfold cutS
  rw [tl_mk]
  show ((tl s).drop 0).take (HT.sIx s.length s.length (some ((1 : Nat) : Int)) - 0) = _
  rw [HT.sIx_nat, List.drop_zero, Nat.sub_zero]
  by_cases h : 1 ≤ s.length
  · rw [Nat.min_eq_left h]
  · have : tl s = [] := List.eq_nil_of_length_eq_zero (by rw [← len_tl]; omega)
    rw [this]; simp
theorem cut_tail {s : Str} : tl (cutS s (some 1) none) = (tl s).drop 1 := by
  unfold cutS
  rw [tl_mk]
  show ((tl s).drop (HT.sIx s.length 0 (some ((1 : Nat) : Int)))).take (s.length - HT.sIx s.length 0 (some ((1 : Nat) : Int))) = _
  rw [HT.sIx_nat]
  by_cases h : 1 ≤ s.length
  · rw [Nat.min_eq_left h]
    exact List.take_of_length_le (by rw [List.length_drop, ← len_tl]; exact Nat.le_refl _)
  · have : tl s = [] := List.eq_nil_of_length_eq_zero (by rw [← len_tl]; omega)
    rw [this]; simp
theorem v_number_of (k : Nat) (mem : List Box) {i : Int} (h : i.natAbs < 10 ^ 13) : evalF g (k + 1) "number_of" [.d (.str (numS i))] mem = .ok (.d (.int i)) ⟨[], mem⟩ := by
  obtain ⟨q1, q2⟩ := int_of_num h
  have hl := numL_len (k := 13) (by decide) h
  have hl1 : (numS i).length ≤ 1000000 := Nat.le_trans q2 (by decide)
  -- the digits
  have D : ∃ d : Str, tl d = numL i.natAbs ∧ ((i < 0 ∧ cutS (numS i) none (some 1) = "-" ∧ cutS (numS i) (some 1) none = d) ∨ (0 ≤ i ∧ cutS (numS i) none (some 1) ≠ "-" ∧ numS i = d)) := by
    rcases Int.lt_or_le i 0 with hi | hi
    · have e := tl_numN hi
      refine ⟨cutS (numS i) (some 1) none, by rw [cut_tail, e]; rfl, .inl ⟨hi, ?_, rfl⟩⟩
      refine ext_tl ?_
      rw [cut_head, e]
      rfl
    · have e := tl_num0 hi
      have ea : i.natAbs = i.toNat := by omega
      refine ⟨numS i, by rw [e, ea], .inr ⟨hi, fun z => ?_, rfl⟩⟩
      have z2 := congrArg tl z
      rw [cut_head, e] at z2
      have z3 : (45 : Nat) ∈ (numL i.toNat).take 1 := by rw [z2]; decide +kernel
      exact numL_free (s := 45) (by omega) (List.mem_of_mem_take z3)
  obtain ⟨d, ed, hd⟩ := D
  have ld : d.length ≤ 13 := by rw [len_tl, ed]; exact hl
  have ld0 : 1 ≤ d.length := by
    rw [len_tl, ed]
    have := numL_ne i.natAbs
    cases q : numL i.natAbs with
    | nil => exact absurd q this
    | cons _ _ => rw [List.length_cons]; omega
  have ld1 : d.length ≤ 1000000 := Nat.le_trans ld (by decide)
  obtain ⟨c, r, ec, hc⟩ : ∃ c r, tl d = c :: r ∧ (c = 48 → i = 0) := by
    rw [ed]
    by_cases h0 : i.natAbs = 0
    · have : i = 0 := by omega
      subst this
      exact ⟨48, [], rfl, fun _ => rfl⟩
    · obtain ⟨c, r, e, h2, h3⟩ := numL_head i.natAbs (by omega)
      exact ⟨c, r, e, fun z => by omega⟩
  have q3 : atI d.cps.toList (0 : Int) = some c := atS (i := 0) (by rw [ec]; rfl)
  have q4 : (1 : Int) ≤ d.length := by omega
  have q5 : (d.length : Int) ≤ 13 := by omega
  rw [e_p_number_of]
  simp only [m_p_number_of]
  generalize hb : (sSeq (sIf (eb (cP2 (fInK true) (.var 2) _) toB) _ _) _) = body
  have L : ∀ (xs : List Nat) (o : Option W), (∀ x ∈ xs, isDg x = true) → ∃ o', forL (tgName 2) body (xs.map fun c => .str ⟨#[c]⟩) ⟨[some (.d (.str (numS i))), some (.d (.str d)), o], mem⟩ = .ok .next ⟨[some (.d (.str (numS i))), some (.d (.str d)), o'], mem⟩ := by
    intro xs
    induction xs with
    | nil => exact fun o _ => ⟨o, rfl⟩
    | cons x xs ih =>
      intro o hx
      obtain ⟨o', e⟩ := ih (some (.d (.str ⟨#[x]⟩))) fun y hy => hx y (List.mem_cons_of_mem _ hy)
      refine ⟨o', ?_⟩
      rw [List.map_cons, forL_next (s1 := ⟨[some (.d (.str (numS i))), some (.d (.str d)), some (.d (.str ⟨#[x]⟩))], mem⟩) rfl (s2 := ⟨[some (.d (.str (numS i))), some (.d (.str d)), some (.d (.str ⟨#[x]⟩))], mem⟩) ?_]
      · exact e
      · rw [← hb]
        simp [eb, rb, er, es, sSeq, sIf, sRet, sSet, sSetN, setS, setN, sExpr, sTup, setAll, evD, cVar, opd, resolve, cP1, cP2, cPN, cList, resolves, cTup, cLst, cFrz, cBoxN, cBoxV, cTru, truth, toB, cAnd, cOr, cNot, cAndV, cOrV, cNotV, cIf, cCh, fAdd, fSub, fCmpI, fNeg, fIsi, isT, fI, f1, f2, fLen, fInt, fTupleOf, fIx, cCall, doCall, cCallK, runF, exitF, Ob.data, sRaise, cNewL, modSlot, gPut, sPut, isLst, sAug, sAugIx, augF.fAugAdd, fGet, gApp, cApp, b2i, cExt, gExt, seqOf, cGet, cGet1, isDt, fGetD, keyOf, cPairs, mergeD, cDisp, fFmt, cJs, fIntU, fInt, fKd, fKdIn, fIsiT, fAbs_v, fGcd_v, fEqI_v, fNeI_v, fIn_digits, hx x (List.mem_cons_self ..)]
  obtain ⟨o', eL⟩ := L (tl d) none fun x hx => by
    rw [ed] at hx
    have := numL_digits _ x hx
    unfold isDg
    simp [this]
  rw [← signs_eq] at eL
  have f0 : ∀ x, fSl none (some 1) (.str x) = if x.length ≤ 1000000 then some (.str (cutS x none (some 1))) else none := fun _ => rfl
  have f1' : ∀ x, fSl (some 1) none (.str x) = if x.length ≤ 1000000 then some (.str (cutS x (some 1) none)) else none := fun _ => rfl
  have fE := fEqS_v
  have fN := fNeS_v
  have c48 : decide ((⟨#[c]⟩ : Str) = "0") = decide (c = 48) := by
    by_cases h : c = 48
    · subst h; rfl
    · rw [decide_eq_false h, decide_eq_false]
      intro z
      have := congrArg tl z
      have z2 : [c] = [48] := this
      cases z2
      exact h rfl
  rcases hd with ⟨hi, h1, h2⟩ | ⟨hi, h1, h2⟩
  · have h48 : c ≠ 48 := fun z => by have := hc z; omega
    simp [eb, rb, er, es, sSeq, sIf, sRet, sSet, sSetN, setS, setN, sExpr, sTup, setAll, evD, cVar, opd, resolve, cP1, cP2, cPN, cList, resolves, cTup, cLst, cFrz, cBoxN, cBoxV, cTru, truth, toB, cAnd, cOr, cNot, cAndV, cOrV, cNotV, cIf, cCh, fAdd, fSub, fCmpI, fNeg, fIsi, isT, fI, f1, f2, fLen, fInt, fTupleOf, fIx, cCall, doCall, cCallK, runF, exitF, Ob.data, sRaise, cNewL, modSlot, gPut, sPut, isLst, sAug, sAugIx, augF.fAugAdd, fGet, gApp, cApp, b2i, cExt, gExt, seqOf, cGet, cGet1, isDt, fGetD, keyOf, cPairs, mergeD, cDisp, fFmt, cJs, fIntU, fInt, fKd, fKdIn, fIsiT, fAbs_v, fGcd_v, fEqI_v, fNeI_v, cSl, part, f0, f1', hl1, h1, h2, fE, fN, ld1, q4, q5, sFor, srcAny, eL, q3, c48, h48, q1, q2]
  · subst h2
    by_cases h48 : c = 48
    · have cw : numS i = "0" := by rw [hc h48]; rfl
      subst h48
      have cd : decide (numS i = "0") = true := decide_eq_true cw
      simp [eb, rb, er, es, sSeq, sIf, sRet, sSet, sSetN, setS, setN, sExpr, sTup, setAll, evD, cVar, opd, resolve, cP1, cP2, cPN, cList, resolves, cTup, cLst, cFrz, cBoxN, cBoxV, cTru, truth, toB, cAnd, cOr, cNot, cAndV, cOrV, cNotV, cIf, cCh, fAdd, fSub, fCmpI, fNeg, fIsi, isT, fI, f1, f2, fLen, fInt, fTupleOf, fIx, cCall, doCall, cCallK, runF, exitF, Ob.data, sRaise, cNewL, modSlot, gPut, sPut, isLst, sAug, sAugIx, augF.fAugAdd, fGet, gApp, cApp, b2i, cExt, gExt, seqOf, cGet, cGet1, isDt, fGetD, keyOf, cPairs, mergeD, cDisp, fFmt, cJs, fIntU, fInt, fKd, fKdIn, fIsiT, fAbs_v, fGcd_v, fEqI_v, fNeI_v, cSl, part, f0, f1', hl1, h1, fE, fN, ld1, q4, q5, sFor, srcAny, eL, q3, c48, cd, q1, q2]
    · simp [eb, rb, er, es, sSeq, sIf, sRet, sSet, sSetN, setS, setN, sExpr, sTup, setAll, evD, cVar, opd, resolve, cP1, cP2, cPN, cList, resolves, cTup, cLst, cFrz, cBoxN, cBoxV, cTru, truth, toB, cAnd, cOr, cNot, cAndV, cOrV, cNotV, cIf, cCh, fAdd, fSub, fCmpI, fNeg, fIsi, isT, fI, f1, f2, fLen, fInt, fTupleOf, fIx, cCall, doCall, cCallK, runF, exitF, Ob.data, sRaise, cNewL, modSlot, gPut, sPut, isLst, sAug, sAugIx, augF.fAugAdd, fGet, gApp, cApp, b2i, cExt, gExt, seqOf, cGet, cGet1, isDt, fGetD, keyOf, cPairs, mergeD, cDisp, fFmt, cJs, fIntU, fInt, fKd, fKdIn, fIsiT, fAbs_v, fGcd_v, fEqI_v, fNeI_v, cSl, part, f0, f1', hl1, h1, fE, fN, ld1, q4, q5, sFor, srcAny, eL, q3, c48, h48, q1, q2]
end MP
namespace MP
open PySem PySem.Spec PyProof.Rows L2 TL
/-! parts and instructions -/
def nmD (nm : List Str) : PyData := .dict (nm.map fun n => (.str n, .bool true))
theorem look_nm (s : Str) : ∀ nm : List Str, (dLook (nm.map fun n => (PyData.str n, PyData.bool true)) (.inr s)).isSome = decide (s ∈ nm)
  | [] => rfl
  | n :: nm => by
    have ih := look_nm s nm
    unfold dLook at ih ⊢
    rw [List.map_cons, List.find?_cons]
    by_cases h : n = s
    · subst h
      rw [decide_eq_true (show keyOf (PyData.str n) = some (.inr n) from rfl), decide_eq_true (List.mem_cons_self ..)]
      rfl
    · rw [decide_eq_false (show ¬ keyOf (PyData.str n) = some (.inr s) from fun z => by cases z; exact h rfl)]
      rw [ih]
      by_cases h2 : s ∈ nm
      · rw [decide_eq_true h2, decide_eq_true (List.mem_cons_of_mem _ h2)]
      · rw [decide_eq_false h2, decide_eq_false]
        intro z
        rcases List.mem_cons.mp z with z | z
        · exact h z.symm
        · exact h2 z
theorem in_nm (neg : Bool) (s : Str) (nm : List Str) : fInK neg (.str s) (nmD nm) = some (.bool (decide (s ∈ nm) != neg)) := by
  show some (PyData.bool ((dLook (nm.map fun n => (PyData.str n, PyData.bool true)) (.inr s)).isSome != neg)) = _
  rw [look_nm]
def bnd (size : Int) (c : Nat) : Option (Int × Int) :=
  if c = 114 then some (0, 7) else if c = 110 then some (-1000000000000, 1000000000000) else if c = 109 then some (-1000000, 1000000) else if c = 119 then some (1, 64)
  else if c = 99 then some (0, 400) else if c = 111 then some (0, 63) else if c = 105 then some (0, 399) else if c = 106 then some (0, size - 1) else none
inductive PartOk (size : Int) (nm : List Str) : Nat → PyData → Prop
  | f {s : Str} (h : s ∈ nm) : PartOk size nm 102 (.str s)
  | t {xs : List Int} (h1 : 1 ≤ xs.length) (h2 : xs.length ≤ 8) (h3 : ∀ x ∈ xs, 0 ≤ x ∧ x < size) : PartOk size nm 116 (.tuple (xs.map .int))
  | n {c : Nat} {i lo hi : Int} (hb : bnd size c = some (lo, hi)) (h1 : lo ≤ i) (h2 : i ≤ hi) : PartOk size nm c (.int i)
theorem one_is (c : Nat) {x : Str} {d : Nat} (h : x = ⟨#[d]⟩) : decide ((⟨#[c]⟩ : Str) = x) = decide (c = d) := by
  subst h
  by_cases e : c = d
  · subst e; simp
  · rw [decide_eq_false e, decide_eq_false]
    intro z
    cases z
    exact e rfl
theorem is_f (c : Nat) : decide ((⟨#[c]⟩ : Str) = "f") = decide (c = 102) := one_is c (by kernel_rfl)
theorem is_j (c : Nat) : decide ((⟨#[c]⟩ : Str) = "j") = decide (c = 106) := one_is c (by kernel_rfl)
theorem is_t (c : Nat) : decide ((⟨#[c]⟩ : Str) = "t") = decide (c = 116) := one_is c (by kernel_rfl)
theorem bnd_kd {size : Int} {c : Nat} {lo hi : Int} (h : bnd size c = some (lo, hi)) (hj : c ≠ 106) : kd_BOUNDS.lookup ⟨#[c]⟩ = some (.tuple [.int lo, .int hi]) ∧ c ≠ 102 ∧ c ≠ 116 := by
  unfold bnd at h
  by_cases h1 : c = 114
  · subst h1; rw [if_pos rfl] at h; cases h; exact ⟨by kernel_rfl, by decide, by decide⟩
  rw [if_neg h1] at h
  by_cases h2 : c = 110
  · subst h2; rw [if_pos rfl] at h; cases h; exact ⟨by kernel_rfl, by decide, by decide⟩
  rw [if_neg h2] at h
  by_cases h3 : c = 109
  · subst h3; rw [if_pos rfl] at h; cases h; exact ⟨by kernel_rfl, by decide, by decide⟩
  rw [if_neg h3] at h
  by_cases h4 : c = 119
  · subst h4; rw [if_pos rfl] at h; cases h; exact ⟨by kernel_rfl, by decide, by decide⟩
  rw [if_neg h4] at h
  by_cases h5 : c = 99
  · subst h5; rw [if_pos rfl] at h; cases h; exact ⟨by kernel_rfl, by decide, by decide⟩
  rw [if_neg h5] at h
  by_cases h6 : c = 111
  · subst h6; rw [if_pos rfl] at h; cases h; exact ⟨by kernel_rfl, by decide, by decide⟩
  rw [if_neg h6] at h
  by_cases h7 : c = 105
  · subst h7; rw [if_pos rfl] at h; cases h; exact ⟨by kernel_rfl, by decide, by decide⟩
  rw [if_neg h7, if_neg hj] at h
  cases h
theorem v_is_part (k : Nat) (mem : List Box) {size : Int} {nm : List Str} {c : Nat} {d : PyData} (h : PartOk size nm c d) : evalF g (k + 3) "is_part" [.d (.str ⟨#[c]⟩), .d d, .d (.int size), .d (nmD nm)] mem = .ok (.d (.bool true)) ⟨[], mem⟩ := by
  rw [e_p_is_part]
  have W := fun x a b => v_within k mem x a b
  have f0 := fEqS_v
  cases h with
  | @f s hs =>
    have e1 : (⟨#[102]⟩ : Str) = "f" := by kernel_rfl
    have q := in_nm false s nm
    rw [decide_eq_true hs] at q
    simp [m_p_is_part, eb, rb, er, es, sSeq, sIf, sRet, sSet, sSetN, setS, setN, sExpr, sTup, setAll, evD, cVar, opd, resolve, cP1, cP2, cPN, cList, resolves, cTup, cLst, cFrz, cBoxN, cBoxV, cTru, truth, toB, cAnd, cOr, cNot, cAndV, cOrV, cNotV, cIf, cCh, fAdd, fSub, fCmpI, fNeg, fIsi, isT, fI, f1, f2, fLen, fInt, fTupleOf, fIx, cCall, doCall, cCallK, runF, exitF, Ob.data, sRaise, cNewL, modSlot, gPut, sPut, isLst, sAug, sAugIx, augF.fAugAdd, fGet, gApp, cApp, b2i, cExt, gExt, seqOf, cGet, cGet1, isDt, fGetD, keyOf, cPairs, mergeD, cDisp, fFmt, cJs, fIntU, fInt, fKd, fKdIn, fIsiT, fAbs_v, fGcd_v, fEqI_v, fNeI_v, f0, is_f, q]
  | @t xs h1 h2 h3 =>
    simp only [m_p_is_part]
    generalize hlc : cLc _ _ _ _ _ = lc
    have L : lc ⟨[some (.d (.str ⟨#[116]⟩)), some (.d (.tuple (xs.map .int))), some (.d (.int size)), some (.d (nmD nm)), none, none, none], mem⟩ = .ok (.lst (List.replicate xs.length (.bool true))) ⟨[some (.d (.str ⟨#[116]⟩)), some (.d (.tuple (xs.map .int))), some (.d (.int size)), some (.d (nmD nm)), none, none, none], mem⟩ := by
      rw [← hlc, show List.replicate xs.length (PyData.bool true) = (xs.map PyData.int).map fun _ => .bool true by rw [List.map_const', List.length_map]]
      refine cLc_eq (s1 := ⟨[some (.d (.str ⟨#[116]⟩)), some (.d (.tuple (xs.map .int))), some (.d (.int size)), some (.d (nmD nm)), none, none, none], mem⟩) (s2 := ⟨[some (.d (.str ⟨#[116]⟩)), some (.d (.tuple (xs.map .int))), some (.d (.int size)), some (.d (nmD nm)), none, none, none], mem⟩) (xs := xs.map .int) ?_ (lcL_map ?_ fun x hx => ?_)
      · simp [srcAny, eb, rb, er, es, sSeq, sIf, sRet, sSet, sSetN, setS, setN, sExpr, sTup, setAll, evD, cVar, opd, resolve, cP1, cP2, cPN, cList, resolves, cTup, cLst, cFrz, cBoxN, cBoxV, cTru, truth, toB, cAnd, cOr, cNot, cAndV, cOrV, cNotV, cIf, cCh, fAdd, fSub, fCmpI, fNeg, fIsi, isT, fI, f1, f2, fLen, fInt, fTupleOf, fIx, cCall, doCall, cCallK, runF, exitF, Ob.data, sRaise, cNewL, modSlot, gPut, sPut, isLst, sAug, sAugIx, augF.fAugAdd, fGet, gApp, cApp, b2i, cExt, gExt, seqOf, cGet, cGet1, isDt, fGetD, keyOf, cPairs, mergeD, cDisp, fFmt, cJs, fIntU, fInt, fKd, fKdIn, fIsiT, fAbs_v, fGcd_v, fEqI_v, fNeI_v]
      · rw [List.length_map]; omega
      · obtain ⟨y, hy, rfl⟩ := List.mem_map.mp hx
        obtain ⟨a1, a2⟩ := h3 y hy
        have a3 : y ≤ size - 1 := by omega
        refine ⟨⟨[some (.d (.str ⟨#[116]⟩)), some (.d (.tuple (xs.map .int))), some (.d (.int size)), some (.d (nmD nm)), none, none, some (.d (.int y))], mem⟩, ⟨[some (.d (.str ⟨#[116]⟩)), some (.d (.tuple (xs.map .int))), some (.d (.int size)), some (.d (nmD nm)), none, none, some (.d (.int y))], mem⟩, rfl, ?_, rfl⟩
        simp [eb, rb, er, es, sSeq, sIf, sRet, sSet, sSetN, setS, setN, sExpr, sTup, setAll, evD, cVar, opd, resolve, cP1, cP2, cPN, cList, resolves, cTup, cLst, cFrz, cBoxN, cBoxV, cTru, truth, toB, cAnd, cOr, cNot, cAndV, cOrV, cNotV, cIf, cCh, fAdd, fSub, fCmpI, fNeg, fIsi, isT, fI, f1, f2, fLen, fInt, fTupleOf, fIx, cCall, doCall, cCallK, runF, exitF, Ob.data, sRaise, cNewL, modSlot, gPut, sPut, isLst, sAug, sAugIx, augF.fAugAdd, fGet, gApp, cApp, b2i, cExt, gExt, seqOf, cGet, cGet1, isDt, fGetD, keyOf, cPairs, mergeD, cDisp, fFmt, cJs, fIntU, fInt, fKd, fKdIn, fIsiT, fAbs_v, fGcd_v, fEqI_v, fNeI_v, W, a1, a3]
    have F := fAll_rep xs.length
    have g1 : (1 : Int) ≤ xs.length := by omega
    have g2 : (xs.length : Int) ≤ 8 := by omega
    simp [eb, rb, er, es, sSeq, sIf, sRet, sSet, sSetN, setS, setN, sExpr, sTup, setAll, evD, cVar, opd, resolve, cP1, cP2, cPN, cList, resolves, cTup, cLst, cFrz, cBoxN, cBoxV, cTru, truth, toB, cAnd, cOr, cNot, cAndV, cOrV, cNotV, cIf, cCh, fAdd, fSub, fCmpI, fNeg, fIsi, isT, fI, f1, f2, fLen, fInt, fTupleOf, fIx, cCall, doCall, cCallK, runF, exitF, Ob.data, sRaise, cNewL, modSlot, gPut, sPut, isLst, sAug, sAugIx, augF.fAugAdd, fGet, gApp, cApp, b2i, cExt, gExt, seqOf, cGet, cGet1, isDt, fGetD, keyOf, cPairs, mergeD, cDisp, fFmt, cJs, fIntU, fInt, fKd, fKdIn, fIsiT, fAbs_v, fGcd_v, fEqI_v, fNeI_v, f0, is_f, is_j, is_t, L, F, g1, g2]
  | @n _ i lo hi hb h1 h2 =>
    by_cases hj : c = 106
    · subst hj
      have e : lo = 0 ∧ hi = size - 1 := by
        have hb : some ((0 : Int), size - 1) = some (lo, hi) := hb
        cases hb
        exact ⟨rfl, rfl⟩
      obtain ⟨rfl, rfl⟩ := e
      simp [m_p_is_part, eb, rb, er, es, sSeq, sIf, sRet, sSet, sSetN, setS, setN, sExpr, sTup, setAll, evD, cVar, opd, resolve, cP1, cP2, cPN, cList, resolves, cTup, cLst, cFrz, cBoxN, cBoxV, cTru, truth, toB, cAnd, cOr, cNot, cAndV, cOrV, cNotV, cIf, cCh, fAdd, fSub, fCmpI, fNeg, fIsi, isT, fI, f1, f2, fLen, fInt, fTupleOf, fIx, cCall, doCall, cCallK, runF, exitF, Ob.data, sRaise, cNewL, modSlot, gPut, sPut, isLst, sAug, sAugIx, augF.fAugAdd, fGet, gApp, cApp, b2i, cExt, gExt, seqOf, cGet, cGet1, isDt, fGetD, keyOf, cPairs, mergeD, cDisp, fFmt, cJs, fIntU, fInt, fKd, fKdIn, fIsiT, fAbs_v, fGcd_v, fEqI_v, fNeI_v, f0, is_f, is_j, is_t, W, h1, h2]
    · obtain ⟨q, n1, n2⟩ := bnd_kd hb hj
      simp [m_p_is_part, eb, rb, er, es, sSeq, sIf, sRet, sSet, sSetN, setS, setN, sExpr, sTup, setAll, evD, cVar, opd, resolve, cP1, cP2, cPN, cList, resolves, cTup, cLst, cFrz, cBoxN, cBoxV, cTru, truth, toB, cAnd, cOr, cNot, cAndV, cOrV, cNotV, cIf, cCh, fAdd, fSub, fCmpI, fNeg, fIsi, isT, fI, f1, f2, fLen, fInt, fTupleOf, fIx, cCall, doCall, cCallK, runF, exitF, Ob.data, sRaise, cNewL, modSlot, gPut, sPut, isLst, sAug, sAugIx, augF.fAugAdd, fGet, gApp, cApp, b2i, cExt, gExt, seqOf, cGet, cGet1, isDt, fGetD, keyOf, cPairs, mergeD, cDisp, fFmt, cJs, fIntU, fInt, fKd, fKdIn, fIsiT, fAbs_v, fGcd_v, fEqI_v, fNeI_v, f0, is_f, is_j, is_t, W, h1, h2, hj, n1, n2, q]
end MP
namespace MP
open PySem PySem.Spec PyProof.Rows L2 TL
/-! instructions -/
structure Ins (size : Int) (nm : List Str) (w : Str) (ps : List PyData) : Prop where
  is : ∃ f, kd_FORMS.lookup w = some (.str f) ∧ Paired (PartOk size nm) (tl f) ps
def insD (w : Str) (ps : List PyData) : PyData := .tuple (.str w :: ps)
/-- what is known of the forms, by their table -/
theorem forms_are {w f : Str} (h : kd_FORMS.lookup w = some (.str f)) : (w, f) ∈ ([("set", "rn"), ("copy", "rr"), ("add", "rrr"), ("sub", "rrr"), ("times", "rrm"), ("new", "rw"), ("put", "ror"), ("take", "rro"), ("push", "c"), ("drop", "c"), ("save", "ir"), ("load", "ri"), ("less", "rrj"), ("table", "rt"), ("jump", "j"), ("call", "f"), ("go", "f"), ("return", "")] : List (Str × Str)) := by
  have gen : ∀ (l : List (Str × PyData)) (m : List (Str × Str)), l = m.map (fun p => (p.1, PyData.str p.2)) → l.lookup w = some (.str f) → (w, f) ∈ m := by
    intro l
    induction l with
    | nil => intro m _ h; cases h
    | cons p l ih =>
      intro m e h
      cases m with
      | nil => cases e
      | cons q m =>
        rw [List.map_cons] at e
        injection e with e1 e2
        subst e1
        rw [List.lookup_cons] at h
        by_cases c : (w == q.1) = true
        · rw [c] at h
          cases h
          rw [eq_of_beq c]
          exact List.mem_cons_self ..
        · have c' : (w == q.1) = false := by simpa using c
          rw [c'] at h
          exact List.mem_cons_of_mem _ (ih m e2 h)
  exact gen kd_FORMS _ (by kernel_rfl) h
def okF (p : Str × Str) : Bool := decide (p.1.length ≤ 10) && decide (1 ≤ p.1.length) && decide (p.2.length ≤ 3) && !decide (32 ∈ tl p.1) && !decide (10 ∈ tl p.1) && !Txt.startswith p.1 "start" && (decide (p.2 = "f") || decide (p.2 = "rt") || (tl p.2).all fun c => !decide (c = 102) && !decide (c = 116))
theorem forms_ok {w f : Str} (h : kd_FORMS.lookup w = some (.str f)) : okF (w, f) = true := by
  have all : ∀ p ∈ ([("set", "rn"), ("copy", "rr"), ("add", "rrr"), ("sub", "rrr"), ("times", "rrm"), ("new", "rw"), ("put", "ror"), ("take", "rro"), ("push", "c"), ("drop", "c"), ("save", "ir"), ("load", "ri"), ("less", "rrj"), ("table", "rt"), ("jump", "j"), ("call", "f"), ("go", "f"), ("return", "")] : List (Str × Str)), okF p = true := by decide +kernel
  exact all _ (forms_are h)
theorem paired_at {α β : Type} {R : α → β → Prop} : ∀ {as : List α} {bs : List β} {i : Nat} {a : α}, Paired R as bs → as[i]? = some a → ∃ b, bs[i]? = some b ∧ R a b
  | _, _, _, _, .nil, e => by simp at e
  | _, _, 0, _, .cons h _, e => by simp at e; subst e; exact ⟨_, rfl, h⟩
  | _, _, i + 1, a, .cons _ t, e => by
    obtain ⟨b, h1, h2⟩ := paired_at (i := i) (a := a) t (by simpa using e)
    exact ⟨b, by simpa using h1, h2⟩
theorem range_at {n j : Nat} {x : PyData} (h : (rangeD 0 n)[j]? = some x) : j < n ∧ x = .int j := by
  unfold rangeD at h
  rw [List.getElem?_map, Option.map_eq_some_iff] at h
  obtain ⟨a, h1, rfl⟩ := h
  obtain ⟨h2, h3⟩ := List.getElem?_eq_some_iff.mp h1
  rw [List.length_range] at h2
  rw [List.getElem_range] at h3
  subst h3
  exact ⟨h2, by congr 1; omega⟩
theorem range_len {lo : Int} {n : Nat} : (rangeD lo n).length = n := by unfold rangeD; rw [List.length_map, List.length_range]
theorem at_nat {α : Type} {xs : List α} {j : Nat} : atI xs (j : Int) = xs[j]? := by rw [atI_nat' (Int.natCast_nonneg j), Int.toNat_natCast]
theorem at_nat1 {α : Type} {x : α} {xs : List α} {j : Nat} : atI (x :: xs) ((j : Int) + 1) = xs[j]? := by
  rw [show ((j : Int) + 1) = ((j + 1 : Nat) : Int) by omega, at_nat]
  rfl
theorem v_is_instruction (k : Nat) (mem : List Box) {size : Int} {nm : List Str} {w : Str} {ps : List PyData} (h : Ins size nm w ps) : evalF g (k + 4) "is_instruction" [.d (insD w ps), .d (.int size), .d (nmD nm)] mem = .ok (.d (.bool true)) ⟨[], mem⟩ := by
  obtain ⟨f, hf, hp⟩ := h.is
  have hok := forms_ok hf
  unfold okF at hok
  simp only [Bool.and_eq_true, decide_eq_true_eq] at hok
  have lf : f.length ≤ 1000000 := by omega
  have lp : ps.length = f.length := by rw [len_tl]; exact (Paired.length hp).symm
  have a0 : atI (PyData.str w :: ps) (0 : Int) = some (.str w) := (at_nat (j := 0)).trans rfl
  rw [e_p_is_instruction]
  simp only [m_p_is_instruction]
  generalize hb : (sSeq (sIf (cNot _) _ _) (er .next)) = body
  have L : ∃ s', forL (tgName 5) body (rangeD 0 f.length) ⟨[some (.d (insD w ps)), some (.d (.int size)), some (.d (nmD nm)), some (.d (.str w)), some (.d (.str f)), none], mem⟩ = .ok .next s' ∧ ∃ o, s' = ⟨[some (.d (insD w ps)), some (.d (.int size)), some (.d (nmD nm)), some (.d (.str w)), some (.d (.str f)), o], mem⟩ := by
    refine forL_inv (fun _ s' => ∃ o, s' = ⟨[some (.d (insD w ps)), some (.d (.int size)), some (.d (nmD nm)), some (.d (.str w)), some (.d (.str f)), o], mem⟩) _ 0 _ ⟨none, rfl⟩ fun j x s hx hP => ?_
    obtain ⟨o, rfl⟩ := hP
    obtain ⟨hj, rfl⟩ := range_at hx
    obtain ⟨c, hc⟩ : ∃ c, (tl f)[j]? = some c := ⟨_, List.getElem?_eq_getElem (by rw [← len_tl]; exact hj)⟩
    obtain ⟨d, hd, po⟩ := paired_at hp hc
    have b1 : atI f.cps.toList (j : Int) = some c := by rw [at_nat]; exact hc
    have b2 : atI (PyData.str w :: ps) ((j : Int) + 1) = some d := by rw [at_nat1]; exact hd
    refine ⟨_, ⟨[some (.d (insD w ps)), some (.d (.int size)), some (.d (nmD nm)), some (.d (.str w)), some (.d (.str f)), some (.d (.int j))], mem⟩, rfl, ?_, _, rfl⟩
    rw [← hb]
    simp [eb, rb, er, es, sSeq, sIf, sRet, sSet, sSetN, setS, setN, sExpr, sTup, setAll, evD, cVar, opd, resolve, cP1, cP2, cPN, cList, resolves, cTup, cLst, cFrz, cBoxN, cBoxV, cTru, truth, toB, cAnd, cOr, cNot, cAndV, cOrV, cNotV, cIf, cCh, fAdd, fSub, fCmpI, fNeg, fIsi, isT, fI, f1, f2, fLen, fInt, fTupleOf, fIx, cCall, doCall, cCallK, runF, exitF, Ob.data, sRaise, cNewL, modSlot, gPut, sPut, isLst, sAug, sAugIx, augF.fAugAdd, fGet, gApp, cApp, b2i, cExt, gExt, seqOf, cGet, cGet1, isDt, fGetD, keyOf, cPairs, mergeD, cDisp, fFmt, cJs, fIntU, fInt, fKd, fKdIn, fIsiT, fAbs_v, fGcd_v, fEqI_v, fNeI_v, lf, b1, b2, insD, v_is_part k mem po]
  obtain ⟨s', eL, o, rfl⟩ := L
  simp only [insD] at eL
  have n1 : ¬ ((f.length : Int) + 1 = 0) := by omega
  have n2 := rg1_n (n := f.length) (by omega)
  simp [eb, rb, er, es, sSeq, sIf, sRet, sSet, sSetN, setS, setN, sExpr, sTup, setAll, evD, cVar, opd, resolve, cP1, cP2, cPN, cList, resolves, cTup, cLst, cFrz, cBoxN, cBoxV, cTru, truth, toB, cAnd, cOr, cNot, cAndV, cOrV, cNotV, cIf, cCh, fAdd, fSub, fCmpI, fNeg, fIsi, isT, fI, f1, f2, fLen, fInt, fTupleOf, fIx, cCall, doCall, cCallK, runF, exitF, Ob.data, sRaise, cNewL, modSlot, gPut, sPut, isLst, sAug, sAugIx, augF.fAugAdd, fGet, gApp, cApp, b2i, cExt, gExt, seqOf, cGet, cGet1, isDt, fGetD, keyOf, cPairs, mergeD, cDisp, fFmt, cJs, fIntU, fInt, fKd, fKdIn, fIsiT, fAbs_v, fGcd_v, fEqI_v, fNeI_v, insD, n1, a0, hf, lf, lp, fNeI_v, n2, sFor, srcR1, eL]
end MP
namespace MP
open PySem PySem.Spec PyProof.Rows L2 TL
/-! lines -/
def iS : PyData → Str
  | .int i => numS i
  | _ => Str.empty
/-- the words of a part -/
def pw : PyData → List Str
  | .int i => [numS i]
  | .str s => [s]
  | .tuple xs => xs.map iS
  | _ => []
def pws (ps : List PyData) : List Str := ps.flatMap pw
def sp : Str := " "
def nl : Str := "\n"
/-- a word: no blank, no line feed, not long -/
structure Wd (s : Str) : Prop where
  sp : 32 ∉ tl s
  nl : 10 ∉ tl s
  le : s.length ≤ 14
  ne : 1 ≤ s.length
theorem al_not {s : Str} (h : ∀ c ∈ tl s, isAl c = true) {d : Nat} (hd : isAl d = false) : d ∉ tl s := fun z => by rw [h d z] at hd; cases hd
theorem Low.wd {s : Str} (h : Low s) : Wd s := ⟨al_not h.al (by decide), al_not h.al (by decide), by have := h.le; omega, h.pos⟩
theorem num_wd {i : Int} (h : i.natAbs < 10 ^ 13) : Wd (numS i) := by
  have hl := numL_len (k := 13) (by decide) h
  have hn := numL_ne i.natAbs
  have hp : 1 ≤ (numL i.natAbs).length := by
    cases q : numL i.natAbs with
    | nil => exact absurd q hn
    | cons _ _ => rw [List.length_cons]; omega
  rcases Int.lt_or_le i 0 with hi | hi
  · have e := tl_numN hi
    refine ⟨fun z => ?_, fun z => ?_, by rw [len_tl, e, List.length_cons]; omega, by rw [len_tl, e, List.length_cons]; omega⟩
    · rw [e] at z
      rcases List.mem_cons.mp z with z | z
      · cases z
      · exact numL_free (s := 32) (by omega) z
    · rw [e] at z
      rcases List.mem_cons.mp z with z | z
      · cases z
      · exact numL_free (s := 10) (by omega) z
  · have e := tl_num0 hi
    have ea : i.natAbs = i.toNat := by omega
    rw [ea] at hl hp
    refine ⟨fun z => ?_, fun z => ?_, by rw [len_tl, e]; omega, by rw [len_tl, e]; exact hp⟩
    · rw [e] at z; exact numL_free (s := 32) (by omega) z
    · rw [e] at z; exact numL_free (s := 10) (by omega) z
def Names (nm : List Str) : Prop := ∀ s ∈ nm, Low s
theorem bnd_small {size : Int} {c : Nat} {lo hi : Int} (hs : size ≤ 1000) (h : bnd size c = some (lo, hi)) : -1000000000000 ≤ lo ∧ hi ≤ 1000000000000 := by
  unfold bnd at h
  repeat' split at h
  all_goals first | (cases h; omega) | cases h
theorem part_wd {size : Int} {nm : List Str} {c : Nat} {d : PyData} (hn : Names nm) (hs : size ≤ 1000) (h : PartOk size nm c d) : (∀ s ∈ pw d, Wd s) ∧ (pw d).length ≤ 8 := by
  cases h with
  | @f s hm => exact ⟨fun s' hs => by rw [List.mem_singleton.mp hs]; exact (hn s hm).wd, by show 1 ≤ 8; decide⟩
  | @t xs h1 h2 h3 =>
    refine ⟨fun s hs => ?_, by show ((xs.map PyData.int).map iS).length ≤ 8; rw [List.length_map, List.length_map]; exact h2⟩
    obtain ⟨x, hx, rfl⟩ := List.mem_map.mp (show s ∈ (xs.map PyData.int).map iS from hs)
    obtain ⟨y, hy, rfl⟩ := List.mem_map.mp hx
    have := h3 y hy
    exact num_wd (by omega)
  | @n _ i lo hi hb h1 h2 =>
    have := bnd_small hs hb
    exact ⟨fun s' hs => by rw [List.mem_singleton.mp hs]; exact num_wd (by omega), by show 1 ≤ 8; decide⟩
theorem parts_wd {size : Int} {nm : List Str} (hn : Names nm) (hs : size ≤ 1000) : ∀ {cs : List Nat} {ps : List PyData}, Paired (PartOk size nm) cs ps → (∀ s ∈ pws ps, Wd s) ∧ (pws ps).length ≤ 8 * cs.length
  | _, _, .nil => ⟨fun s h => by simp [pws] at h, by simp [pws]⟩
  | _, _, .cons (a := c) (b := d) (l₁ := cs) (l₂ := ps) h t => by
    obtain ⟨i1, i2⟩ := parts_wd hn hs t
    obtain ⟨j1, j2⟩ := part_wd hn hs h
    have e : pws (d :: ps) = pw d ++ pws ps := by unfold pws; rw [List.flatMap_cons]
    rw [e]
    refine ⟨fun s h => ?_, by rw [List.length_append, List.length_cons]; omega⟩
    rcases List.mem_append.mp h with h | h
    · exact j1 s h
    · exact i1 s h
theorem Ins.wd {size : Int} {nm : List Str} {w : Str} {ps : List PyData} (h : Ins size nm w ps) (hn : Names nm) (hs : size ≤ 1000) : (∀ s ∈ w :: pws ps, Wd s) ∧ (pws ps).length ≤ 24 ∧ Txt.startswith w "start" = false := by
  obtain ⟨f, hf, hp⟩ := h.is
  have hok := forms_ok hf
  unfold okF at hok
  simp only [Bool.and_eq_true, decide_eq_true_eq, Bool.not_eq_true', decide_eq_false_iff_not] at hok
  obtain ⟨⟨⟨⟨⟨⟨o1, o2⟩, o3⟩, o4⟩, o5⟩, o6⟩, o7⟩ := hok
  obtain ⟨i1, i2⟩ := parts_wd hn hs hp
  have : (tl f).length ≤ 3 := by rw [← len_tl]; exact o3
  refine ⟨fun s hs => ?_, by omega, o6⟩
  rcases List.mem_cons.mp hs with rfl | hs
  · exact ⟨o4, o5, Nat.le_trans o1 (by decide), o2⟩
  · exact i1 s hs
/-- a line -/
def lineS (ws : List Str) : Str := Txt.join sp ws
theorem sum_le {B : Nat} : ∀ {ws : List Str}, (∀ s ∈ ws, s.length ≤ B) → (ws.map (·.length)).sum ≤ ws.length * B
  | [], _ => by simp
  | w :: ws, h => by
    have i := sum_le (ws := ws) fun s hs => h s (List.mem_cons_of_mem _ hs)
    have j := h w (List.mem_cons_self ..)
    rw [List.map_cons, List.sum_cons, List.length_cons, Nat.succ_mul]
    omega
theorem line_split {ws : List Str} (hne : ws ≠ []) (h : ∀ s ∈ ws, Wd s) : Txt.split (lineS ws) sp = ws := split_join (y := sp) (s := 32) (S := []) (by kernel_rfl) (by kernel_rfl) hne fun p hp => (h p hp).sp
theorem line_len {ws : List Str} (h : ∀ s ∈ ws, Wd s) : (lineS ws).length ≤ ws.length * 15 := by
  have e : lineS ws = Str.join sp ws := join_eq sp ws
  have z := StrLaws.join_length_le sp ws
  have y := sum_le (B := 14) fun s hs => (h s hs).le
  have e1 : sp.length = 1 := by kernel_rfl
  rw [e]
  rw [e1] at z
  omega
theorem allS_map (ws : List Str) : allS (ws.map .str) = some ws := by
  induction ws with
  | nil => rfl
  | cons w ws ih =>
    show (match allS (ws.map .str) with
      | some bs => some (w :: bs)
      | none => none) = _
    rw [ih]
theorem fJoin_v {z : Str} {ws : List Str} (h : (ws.map (·.length)).sum + ws.length * z.length ≤ 16777216) : fJoin z (.list (ws.map .str)) = some (.str (Txt.join z ws)) := by
  unfold fJoin
  dsimp only
  rw [allS_map]
  dsimp only
  rw [if_pos h]
theorem fStr_num {i : Int} (h : i.natAbs < 10 ^ 13) : fStr (.int i) = some (.str (numS i)) := by
  have : i.natAbs.log2 < 1920 := by
    by_cases e : i.natAbs = 0
    · rw [e]; simp
    · exact Nat.lt_of_lt_of_le ((Nat.log2_lt (k := 44) e).mpr (Nat.lt_of_lt_of_le h (by decide))) (by decide)
  show (if i.natAbs.log2 < 1920 then some (PyData.str (toString i : String)) else none) = _
  rw [if_pos this]
  rfl
end MP
namespace MP
open PySem PySem.Spec PyProof.Rows L2 TL
/-! line_of -/
inductive WP : PyData → Prop
  | s (x : Str) : WP (.str x)
  | i {i : Int} (h : i.natAbs < 10 ^ 13) : WP (.int i)
  | t {xs : List Int} (h1 : xs.length ≤ 8) (h2 : ∀ x ∈ xs, x.natAbs < 10 ^ 13) : WP (.tuple (xs.map .int))
theorem PartOk.wp {size : Int} {nm : List Str} {c : Nat} {d : PyData} (hs : size ≤ 1000) (h : PartOk size nm c d) : WP d := by
  cases h with
  | f h => exact .s _
  | t h1 h2 h3 => exact .t h2 fun x hx => by have := h3 x hx; omega
  | n hb h1 h2 =>
    have := bnd_small hs hb
    exact .i (by omega)
theorem paired_all {α β : Type} {R : α → β → Prop} {P : β → Prop} (hp : ∀ a b, R a b → P b) : ∀ {as : List α} {bs : List β}, Paired R as bs → ∀ b ∈ bs, P b
  | _, _, .nil, b, h => by simp at h
  | _, _, .cons (a := a) h t, b, hb => by
    rcases List.mem_cons.mp hb with rfl | hb
    · exact hp _ _ h
    · exact paired_all hp t b hb
theorem pw_len {d : PyData} (h : WP d) : (pw d).length ≤ 8 := by
  cases h with
  | s x => show 1 ≤ 8; decide
  | i h => show 1 ≤ 8; decide
  | @t xs h1 h2 => show ((xs.map PyData.int).map iS).length ≤ 8; rw [List.length_map, List.length_map]; exact h1
theorem pws_cons {d : PyData} {ds : List PyData} : pws (d :: ds) = pw d ++ pws ds := by unfold pws; rw [List.flatMap_cons]
theorem v_line_of (k : Nat) (mem : List Box) {size : Int} {nm : List Str} {w : Str} {ps : List PyData} (h : Ins size nm w ps) (hn : Names nm) (hs : size ≤ 1000) : evalF g (k + 1) "line_of" [.d (insD w ps)] mem = .ok (.d (.str (lineS (w :: pws ps)))) ⟨[], mem⟩ := by
  obtain ⟨w1, w2, w3⟩ := h.wd hn hs
  obtain ⟨f, hf, hp⟩ := h.is
  have hwp : ∀ d ∈ PyData.str w :: ps, WP d := fun d hd => by
    rcases List.mem_cons.mp hd with rfl | hd
    · exact .s w
    · exact paired_all (fun _ _ r => r.wp hs) hp d hd
  rw [e_p_line_of]
  simp only [m_p_line_of]
  generalize hlc : cLc _ _ _ _ _ = lc
  generalize hb : (sSeq (sIf (cTru _) _ _) (er .next)) = body
  have L : ∀ (ds : List PyData) (acc : List Str) (o : Option W), (∀ d ∈ ds, WP d) → acc.length + 8 * ds.length ≤ 1000 → ∃ o', forL (tgName 2) body ds ⟨[some (.d (insD w ps)), some (.own (.lst (acc.map .str))), o, none], mem⟩ = .ok .next ⟨[some (.d (insD w ps)), some (.own (.lst ((acc ++ pws ds).map .str))), o', none], mem⟩ := by
    intro ds
    induction ds with
    | nil => intro acc o _ _; exact ⟨o, by simp [forL, pws, er]⟩
    | cons d ds ih =>
      intro acc o hd hl
      rw [List.length_cons] at hl
      have hw := hd d (List.mem_cons_self ..)
      have pl := pw_len hw
      obtain ⟨o', e⟩ := ih (acc ++ pw d) (some (.d d)) (fun z hz => hd z (List.mem_cons_of_mem _ hz)) (by rw [List.length_append]; omega)
      refine ⟨o', ?_⟩
      have la : acc.length < 1000000 := by omega
      rw [forL_next (s1 := ⟨[some (.d (insD w ps)), some (.own (.lst (acc.map .str))), some (.d d), none], mem⟩) rfl (s2 := ⟨[some (.d (insD w ps)), some (.own (.lst ((acc ++ pw d).map .str))), some (.d d), none], mem⟩) ?_]
      · rw [e, pws_cons, List.append_assoc]
      · rw [← hb]
        cases hw with
        | s x => simp [eb, rb, er, es, sSeq, sIf, sRet, sSet, sSetN, setS, setN, sExpr, sTup, setAll, evD, cVar, opd, resolve, cP1, cP2, cPN, cList, resolves, cTup, cLst, cFrz, cBoxN, cBoxV, cTru, truth, toB, cAnd, cOr, cNot, cAndV, cOrV, cNotV, cIf, cCh, fAdd, fSub, fCmpI, fNeg, fIsi, isT, fI, f1, f2, fLen, fInt, fTupleOf, fIx, cCall, doCall, cCallK, runF, exitF, Ob.data, sRaise, cNewL, modSlot, gPut, sPut, isLst, sAug, sAugIx, augF.fAugAdd, fGet, gApp, cApp, b2i, cExt, gExt, seqOf, cGet, cGet1, isDt, fGetD, keyOf, cPairs, mergeD, cDisp, fFmt, cJs, fIntU, fInt, fKd, fKdIn, fIsiT, fAbs_v, fGcd_v, fEqI_v, fNeI_v, fStr, la, pw]
        | @i i hi => simp [eb, rb, er, es, sSeq, sIf, sRet, sSet, sSetN, setS, setN, sExpr, sTup, setAll, evD, cVar, opd, resolve, cP1, cP2, cPN, cList, resolves, cTup, cLst, cFrz, cBoxN, cBoxV, cTru, truth, toB, cAnd, cOr, cNot, cAndV, cOrV, cNotV, cIf, cCh, fAdd, fSub, fCmpI, fNeg, fIsi, isT, fI, f1, f2, fLen, fInt, fTupleOf, fIx, cCall, doCall, cCallK, runF, exitF, Ob.data, sRaise, cNewL, modSlot, gPut, sPut, isLst, sAug, sAugIx, augF.fAugAdd, fGet, gApp, cApp, b2i, cExt, gExt, seqOf, cGet, cGet1, isDt, fGetD, keyOf, cPairs, mergeD, cDisp, fFmt, cJs, fIntU, fInt, fKd, fKdIn, fIsiT, fAbs_v, fGcd_v, fEqI_v, fNeI_v, fStr_num hi, la, pw]
        | @t xs h1 h2 =>
          have Lc : lc ⟨[some (.d (insD w ps)), some (.own (.lst (acc.map .str))), some (.d (.tuple (xs.map .int))), none], mem⟩ = .ok (.lst ((xs.map numS).map .str)) ⟨[some (.d (insD w ps)), some (.own (.lst (acc.map .str))), some (.d (.tuple (xs.map .int))), none], mem⟩ := by
            rw [← hlc, show (xs.map numS).map PyData.str = (xs.map PyData.int).map fun d => .str (iS d) by rw [List.map_map, List.map_map]; rfl]
            refine cLc_eq (s1 := ⟨[some (.d (insD w ps)), some (.own (.lst (acc.map .str))), some (.d (.tuple (xs.map .int))), none], mem⟩) (s2 := ⟨[some (.d (insD w ps)), some (.own (.lst (acc.map .str))), some (.d (.tuple (xs.map .int))), none], mem⟩) (xs := xs.map .int) ?_ (lcL_map ?_ fun x hx => ?_)
            · simp [srcAny, eb, rb, er, es, sSeq, sIf, sRet, sSet, sSetN, setS, setN, sExpr, sTup, setAll, evD, cVar, opd, resolve, cP1, cP2, cPN, cList, resolves, cTup, cLst, cFrz, cBoxN, cBoxV, cTru, truth, toB, cAnd, cOr, cNot, cAndV, cOrV, cNotV, cIf, cCh, fAdd, fSub, fCmpI, fNeg, fIsi, isT, fI, f1, f2, fLen, fInt, fTupleOf, fIx, cCall, doCall, cCallK, runF, exitF, Ob.data, sRaise, cNewL, modSlot, gPut, sPut, isLst, sAug, sAugIx, augF.fAugAdd, fGet, gApp, cApp, b2i, cExt, gExt, seqOf, cGet, cGet1, isDt, fGetD, keyOf, cPairs, mergeD, cDisp, fFmt, cJs, fIntU, fInt, fKd, fKdIn, fIsiT, fAbs_v, fGcd_v, fEqI_v, fNeI_v]
            · rw [List.length_map]; omega
            · obtain ⟨y, hy, rfl⟩ := List.mem_map.mp hx
              refine ⟨⟨[some (.d (insD w ps)), some (.own (.lst (acc.map .str))), some (.d (.tuple (xs.map .int))), some (.d (.int y))], mem⟩, ⟨[some (.d (insD w ps)), some (.own (.lst (acc.map .str))), some (.d (.tuple (xs.map .int))), some (.d (.int y))], mem⟩, rfl, ?_, rfl⟩
              simp [eb, rb, er, es, sSeq, sIf, sRet, sSet, sSetN, setS, setN, sExpr, sTup, setAll, evD, cVar, opd, resolve, cP1, cP2, cPN, cList, resolves, cTup, cLst, cFrz, cBoxN, cBoxV, cTru, truth, toB, cAnd, cOr, cNot, cAndV, cOrV, cNotV, cIf, cCh, fAdd, fSub, fCmpI, fNeg, fIsi, isT, fI, f1, f2, fLen, fInt, fTupleOf, fIx, cCall, doCall, cCallK, runF, exitF, Ob.data, sRaise, cNewL, modSlot, gPut, sPut, isLst, sAug, sAugIx, augF.fAugAdd, fGet, gApp, cApp, b2i, cExt, gExt, seqOf, cGet, cGet1, isDt, fGetD, keyOf, cPairs, mergeD, cDisp, fFmt, cJs, fIntU, fInt, fKd, fKdIn, fIsiT, fAbs_v, fGcd_v, fEqI_v, fNeI_v, fStr_num (h2 y hy), iS]
          have la2 : acc.length + xs.length ≤ 1000000 := by omega
          have ep : pw (.tuple (xs.map .int)) = xs.map numS := by show (xs.map PyData.int).map iS = _; rw [List.map_map]; rfl
          rw [ep]
          simp [eb, rb, er, es, sSeq, sIf, sRet, sSet, sSetN, setS, setN, sExpr, sTup, setAll, evD, cVar, opd, resolve, cP1, cP2, cPN, cList, resolves, cTup, cLst, cFrz, cBoxN, cBoxV, cTru, truth, toB, cAnd, cOr, cNot, cAndV, cOrV, cNotV, cIf, cCh, fAdd, fSub, fCmpI, fNeg, fIsi, isT, fI, f1, f2, fLen, fInt, fTupleOf, fIx, cCall, doCall, cCallK, runF, exitF, Ob.data, sRaise, cNewL, modSlot, gPut, sPut, isLst, sAug, sAugIx, augF.fAugAdd, fGet, gApp, cApp, b2i, cExt, gExt, seqOf, cGet, cGet1, isDt, fGetD, keyOf, cPairs, mergeD, cDisp, fFmt, cJs, fIntU, fInt, fKd, fKdIn, fIsiT, fAbs_v, fGcd_v, fEqI_v, fNeI_v, Lc, la2]
  have lp : ps.length ≤ 3 := by
    have hok := forms_ok hf
    unfold okF at hok
    simp only [Bool.and_eq_true, decide_eq_true_eq] at hok
    rw [(Paired.length hp).symm, ← len_tl]
    exact hok.1.1.1.1.2
  obtain ⟨o', eL⟩ := L (PyData.str w :: ps) [] none hwp (by rw [List.length_cons, List.length_nil]; omega)
  have e0 : ([] : List Str) ++ pws (PyData.str w :: ps) = w :: pws ps := by rw [pws_cons]; rfl
  rw [e0] at eL
  have J : fJoin sp (.list ((w :: pws ps).map .str)) = some (.str (lineS (w :: pws ps))) := fJoin_v (by
    have y := sum_le (B := 14) fun s hs => (w1 s hs).le
    have e1 : sp.length = 1 := by kernel_rfl
    rw [e1]
    rw [List.length_cons] at y ⊢
    omega)
  simp only [insD] at eL ⊢
  simp only [List.map_nil] at eL
  have e2 : (" " : Str) = sp := rfl
  rw [e2]
  generalize lineS (w :: pws ps) = ln at *
  generalize (w :: pws ps).map PyData.str = wl at *
  simp [eb, rb, er, es, sSeq, sIf, sRet, sSet, sSetN, setS, setN, sExpr, sTup, setAll, evD, cVar, opd, resolve, cP1, cP2, cPN, cList, resolves, cTup, cLst, cFrz, cBoxN, cBoxV, cTru, truth, toB, cAnd, cOr, cNot, cAndV, cOrV, cNotV, cIf, cCh, fAdd, fSub, fCmpI, fNeg, fIsi, isT, fI, f1, f2, fLen, fInt, fTupleOf, fIx, cCall, doCall, cCallK, runF, exitF, Ob.data, sRaise, cNewL, modSlot, gPut, sPut, isLst, sAug, sAugIx, augF.fAugAdd, fGet, gApp, cApp, b2i, cExt, gExt, seqOf, cGet, cGet1, isDt, fGetD, keyOf, cPairs, mergeD, cDisp, fFmt, cJs, fIntU, fInt, fKd, fKdIn, fIsiT, fAbs_v, fGcd_v, fEqI_v, fNeI_v, sFor, srcAny, eL, cSM, J]
end MP
namespace MP
open PySem PySem.Spec PyProof.Rows L2 TL
/-! instruction_of -/
theorem cut_tl {α : Type} {x : α} {xs : List α} : cutG (x :: xs) (some 1) none = xs := by
  unfold cutG
  have e : HT.sIx (x :: xs).length 0 (some (1 : Int)) = 1 := by
    have := HT.sIx_nat (x :: xs).length 0 1
    rw [show ((1 : Nat) : Int) = 1 from rfl] at this
    rw [this, List.length_cons]
    omega
  rw [e]
  show ((x :: xs).drop 1).take ((x :: xs).length - 1) = xs
  simp
theorem fSplit_line {ws : List Str} (hne : ws ≠ []) (h : ∀ s ∈ ws, Wd s) (hl : ws.length ≤ 30) : fSplit (lineS ws) (.str sp) = some (.list (ws.map .str)) := by
  show (if (sp.length == 0) = false ∧ (lineS ws).length ≤ 1000000 then some (PyData.list ((Txt.split (lineS ws) sp).map .str)) else none) = _
  have := line_len h
  rw [if_pos ⟨by kernel_rfl, by omega⟩, line_split hne h]
theorem not_n {size : Int} {c : Nat} {lo hi : Int} (hc : c = 102 ∨ c = 116) : bnd size c ≠ some (lo, hi) := by
  rcases hc with rfl | rfl <;> (intro z; cases z)
theorem ints_of {size : Int} {nm : List Str} (hs : size ≤ 1000) : ∀ {cs : List Nat} {ps : List PyData}, Paired (PartOk size nm) cs ps → (∀ c ∈ cs, c ≠ 102 ∧ c ≠ 116) → ∃ is : List Int, ps = is.map .int ∧ pws ps = is.map numS ∧ ∀ i ∈ is, i.natAbs < 10 ^ 13
  | _, _, .nil, _ => ⟨[], rfl, rfl, fun i h => by simp at h⟩
  | _, _, .cons (a := c) (l₁ := cs) h t, hc => by
    obtain ⟨is, e1, e2, e3⟩ := ints_of hs t fun c hm => hc c (List.mem_cons_of_mem _ hm)
    have hcc := hc c (List.mem_cons_self ..)
    cases h with
    | f h => exact absurd rfl hcc.1
    | t _ _ _ => exact absurd rfl hcc.2
    | @n _ i lo hi hb h1 h2 =>
      have := bnd_small hs hb
      refine ⟨i :: is, by rw [e1]; rfl, by rw [pws_cons, e2]; rfl, fun x hx => ?_⟩
      rcases List.mem_cons.mp hx with rfl | hx
      · omega
      · exact e3 x hx
theorem v_instruction_of (k : Nat) (mem : List Box) {size : Int} {nm : List Str} {w : Str} {ps : List PyData} (h : Ins size nm w ps) (hn : Names nm) (hs : size ≤ 1000) : evalF g (k + 5) "instruction_of" [.d (.str (lineS (w :: pws ps))), .d (.int size), .d (nmD nm)] mem = .ok (.d (insD w ps)) ⟨[], mem⟩ := by
  obtain ⟨w1, w2, w3⟩ := h.wd hn hs
  have hI := v_is_instruction k mem h
  obtain ⟨f, hf, hp⟩ := h.is
  have S := fSplit_line (by simp) w1 (by rw [List.length_cons]; omega)
  have e2 : (" " : Str) = sp := rfl
  have a0 : ∀ (x : PyData) (xs : List PyData), atI (x :: xs) (0 : Int) = some x := fun x xs => (at_nat (j := 0)).trans rfl
  have ct : ∀ (x : PyData) (xs : List PyData), cutG (x :: xs) (some 1) none = xs := fun _ _ => cut_tl
  have fE := fEqS_v
  rw [e_p_instruction_of]
  simp only [m_p_instruction_of, e2]
  generalize hlc : cLc _ _ _ _ _ = lc
  have L : ∀ is : List Int, pws ps = is.map numS → (∀ i ∈ is, i.natAbs < 10 ^ 13) → lc ⟨[some (.d (.str (lineS (w :: pws ps)))), some (.d (.int size)), some (.d (nmD nm)), some (.d (.list (PyData.str w :: (is.map numS).map .str))), some (.d (.str w)), some (.d (.str f)), none, none, none], mem⟩ = .ok (.lst (is.map .int)) ⟨[some (.d (.str (lineS (w :: pws ps)))), some (.d (.int size)), some (.d (nmD nm)), some (.d (.list (PyData.str w :: (is.map numS).map .str))), some (.d (.str w)), some (.d (.str f)), none, none, none], mem⟩ := fun is ei hi => by
    have hlen : is.length ≤ 24 := by
      have := w2
      rw [ei, List.length_map] at this
      exact this
    rw [← hlc, show is.map PyData.int = ((is.map numS).map PyData.str).map fun d => match d with | .str s => .int ((intText? s).getD 0) | d => d by
      rw [List.map_map, List.map_map]
      refine List.map_congr_left fun i hm => ?_
      show PyData.int i = .int ((intText? (numS i)).getD 0)
      rw [(int_of_num (hi i hm)).1]
      rfl]
    refine cLc_eq (s1 := ⟨[some (.d (.str (lineS (w :: pws ps)))), some (.d (.int size)), some (.d (nmD nm)), some (.d (.list (PyData.str w :: (is.map numS).map .str))), some (.d (.str w)), some (.d (.str f)), none, none, none], mem⟩) (s2 := ⟨[some (.d (.str (lineS (w :: pws ps)))), some (.d (.int size)), some (.d (nmD nm)), some (.d (.list (PyData.str w :: (is.map numS).map .str))), some (.d (.str w)), some (.d (.str f)), none, none, none], mem⟩) (xs := (is.map numS).map .str) ?_ (lcL_map ?_ fun x hx => ?_)
    · simp [srcAny, eb, rb, er, es, sSeq, sIf, sRet, sSet, sSetN, setS, setN, sExpr, sTup, setAll, evD, cVar, opd, resolve, cP1, cP2, cPN, cList, resolves, cTup, cLst, cFrz, cBoxN, cBoxV, cTru, truth, toB, cAnd, cOr, cNot, cAndV, cOrV, cNotV, cIf, cCh, fAdd, fSub, fCmpI, fNeg, fIsi, isT, fI, f1, f2, fLen, fInt, fTupleOf, fIx, cCall, doCall, cCallK, runF, exitF, Ob.data, sRaise, cNewL, modSlot, gPut, sPut, isLst, sAug, sAugIx, augF.fAugAdd, fGet, gApp, cApp, b2i, cExt, gExt, seqOf, cGet, cGet1, isDt, fGetD, keyOf, cPairs, mergeD, cDisp, fFmt, cJs, fIntU, fInt, fKd, fKdIn, fIsiT, fAbs_v, fGcd_v, fEqI_v, fNeI_v, cSl, part, fSl, ct]
    · rw [List.length_map, List.length_map]; omega
    · obtain ⟨y, hy, rfl⟩ := List.mem_map.mp hx
      obtain ⟨i, him, rfl⟩ := List.mem_map.mp hy
      refine ⟨⟨[some (.d (.str (lineS (w :: pws ps)))), some (.d (.int size)), some (.d (nmD nm)), some (.d (.list (PyData.str w :: (is.map numS).map .str))), some (.d (.str w)), some (.d (.str f)), none, none, some (.d (.str (numS i)))], mem⟩, ⟨[some (.d (.str (lineS (w :: pws ps)))), some (.d (.int size)), some (.d (nmD nm)), some (.d (.list (PyData.str w :: (is.map numS).map .str))), some (.d (.str w)), some (.d (.str f)), none, none, some (.d (.str (numS i)))], mem⟩, rfl, ?_, rfl⟩
      simp [eb, rb, er, es, sSeq, sIf, sRet, sSet, sSetN, setS, setN, sExpr, sTup, setAll, evD, cVar, opd, resolve, cP1, cP2, cPN, cList, resolves, cTup, cLst, cFrz, cBoxN, cBoxV, cTru, truth, toB, cAnd, cOr, cNot, cAndV, cOrV, cNotV, cIf, cCh, fAdd, fSub, fCmpI, fNeg, fIsi, isT, fI, f1, f2, fLen, fInt, fTupleOf, fIx, cCall, doCall, cCallK, runF, exitF, Ob.data, sRaise, cNewL, modSlot, gPut, sPut, isLst, sAug, sAugIx, augF.fAugAdd, fGet, gApp, cApp, b2i, cExt, gExt, seqOf, cGet, cGet1, isDt, fGetD, keyOf, cPairs, mergeD, cDisp, fFmt, cJs, fIntU, fInt, fKd, fKdIn, fIsiT, fAbs_v, fGcd_v, fEqI_v, fNeI_v, v_number_of (k + 3) mem (hi i him), (int_of_num (hi i him)).1]
  have hok := forms_ok hf
  unfold okF at hok
  simp only [Bool.and_eq_true, Bool.or_eq_true, decide_eq_true_eq] at hok
  have lw : (lineS (w :: pws ps)).length ≤ 1000000 := by have := line_len w1; rw [List.length_cons] at this; omega
  rcases hok.2 with (hf1 | hf2) | hf3
  · -- a name
    subst hf1
    have hp : Paired (PartOk size nm) [102] ps := hp
    cases hp with
    | cons p1 t =>
      cases t
      cases p1 with
      | @f s hm =>
        have ep : pws [PyData.str s] = [s] := rfl
        rw [ep] at S ⊢
        generalize lineS [w, s] = ln at *
        simp only [insD] at hI ⊢
        simp [eb, rb, er, es, sSeq, sIf, sRet, sSet, sSetN, setS, setN, sExpr, sTup, setAll, evD, cVar, opd, resolve, cP1, cP2, cPN, cList, resolves, cTup, cLst, cFrz, cBoxN, cBoxV, cTru, truth, toB, cAnd, cOr, cNot, cAndV, cOrV, cNotV, cIf, cCh, fAdd, fSub, fCmpI, fNeg, fIsi, isT, fI, f1, f2, fLen, fInt, fTupleOf, fIx, cCall, doCall, cCallK, runF, exitF, Ob.data, sRaise, cNewL, modSlot, gPut, sPut, isLst, sAug, sAugIx, augF.fAugAdd, fGet, gApp, cApp, b2i, cExt, gExt, seqOf, cGet, cGet1, isDt, fGetD, keyOf, cPairs, mergeD, cDisp, fFmt, cJs, fIntU, fInt, fKd, fKdIn, fIsiT, fAbs_v, fGcd_v, fEqI_v, fNeI_v, cSM, S, a0, hf, fE, hI]
      | n hb _ _ => exact absurd hb (not_n (.inl rfl))
  · -- a table
    subst hf2
    have hp : Paired (PartOk size nm) [114, 116] ps := hp
    cases hp with
    | cons p1 t =>
      cases t with
      | cons p2 t2 =>
        cases t2
        cases p1 with
        | @n _ r lo hi hb h1 h2 =>
          cases p2 with
          | n hb _ _ => exact absurd hb (not_n (.inr rfl))
          | @t xs x1 x2 x3 =>
            have b1 := bnd_small hs hb
            have ep : pws [PyData.int r, .tuple (xs.map .int)] = (r :: xs).map numS := by
              show [numS r] ++ (((xs.map PyData.int).map iS) ++ []) = _
              rw [List.map_map, List.append_nil, List.map_cons]
              rfl
            have Lc := L (r :: xs) ep fun i hi => by
              rcases List.mem_cons.mp hi with rfl | hi
              · omega
              · have := x3 i hi; omega
            rw [ep] at S Lc ⊢
            generalize lineS (w :: (r :: xs).map numS) = ln at *
            have fne : decide (("rt" : Str) = "f") = false := by kernel_rfl
            simp only [insD] at hI ⊢
            simp only [List.map_cons] at S Lc ⊢
            generalize (xs.map numS).map PyData.str = sl at *
            have l0 : (0 : Int) < (xs.length : Int) + 1 := by omega
            simp [eb, rb, er, es, sSeq, sIf, sRet, sSet, sSetN, setS, setN, sExpr, sTup, setAll, evD, cVar, opd, resolve, cP1, cP2, cPN, cList, resolves, cTup, cLst, cFrz, cBoxN, cBoxV, cTru, truth, toB, cAnd, cOr, cNot, cAndV, cOrV, cNotV, cIf, cCh, fAdd, fSub, fCmpI, fNeg, fIsi, isT, fI, f1, f2, fLen, fInt, fTupleOf, fIx, cCall, doCall, cCallK, runF, exitF, Ob.data, sRaise, cNewL, modSlot, gPut, sPut, isLst, sAug, sAugIx, augF.fAugAdd, fGet, gApp, cApp, b2i, cExt, gExt, seqOf, cGet, cGet1, isDt, fGetD, keyOf, cPairs, mergeD, cDisp, fFmt, cJs, fIntU, fInt, fKd, fKdIn, fIsiT, fAbs_v, fGcd_v, fEqI_v, fNeI_v, cSM, S, a0, hf, fE, fne, Lc, ct, cSl, part, fSl, hI, l0]
  · -- numbers
    have hne : ∀ c ∈ tl f, c ≠ 102 ∧ c ≠ 116 := fun c hc => by
      have := List.all_eq_true.mp hf3 c hc
      simpa using this
    obtain ⟨is, e1, e3, e4⟩ := ints_of hs hp hne
    have Lc := L is e3 e4
    have li : 1 + is.length ≤ 1000000 := by rw [e3, List.length_map] at w2; omega
    have n1 : decide (f = "f") = false := decide_eq_false fun z => by
      subst z
      exact (hne 102 (by decide +kernel)).1 rfl
    have n3 : decide (f = "rt") = false := decide_eq_false fun z => by
      subst z
      exact (hne 116 (by decide +kernel)).2 rfl
    rw [e3] at S Lc ⊢
    generalize lineS (w :: is.map numS) = ln at *
    simp only [insD, e1] at hI ⊢
    simp only [List.map_cons] at S ⊢
    generalize (is.map numS).map PyData.str = sl at *
    simp [eb, rb, er, es, sSeq, sIf, sRet, sSet, sSetN, setS, setN, sExpr, sTup, setAll, evD, cVar, opd, resolve, cP1, cP2, cPN, cList, resolves, cTup, cLst, cFrz, cBoxN, cBoxV, cTru, truth, toB, cAnd, cOr, cNot, cAndV, cOrV, cNotV, cIf, cCh, fAdd, fSub, fCmpI, fNeg, fIsi, isT, fI, f1, f2, fLen, fInt, fTupleOf, fIx, cCall, doCall, cCallK, runF, exitF, Ob.data, sRaise, cNewL, modSlot, gPut, sPut, isLst, sAug, sAugIx, augF.fAugAdd, fGet, gApp, cApp, b2i, cExt, gExt, seqOf, cGet, cGet1, isDt, fGetD, keyOf, cPairs, mergeD, cDisp, fFmt, cJs, fIntU, fInt, fKd, fKdIn, fIsiT, fAbs_v, fGcd_v, fEqI_v, fNeI_v, cSM, S, a0, hf, fE, n1, n3, Lc, hI, li]
end MP
namespace MP
open PySem PySem.Spec PyProof.Rows L2 TL
/-! images -/
def stD (p : Str × Int) : PyData := .tuple [.str p.1, .int p.2]
def coD (c : Str × List PyData) : PyData := insD c.1 c.2
structure Img (sts : List (Str × Int)) (code : List (Str × List PyData)) : Prop where
  names : Names (sts.map (·.1))
  nodup : (sts.map (·.1)).Nodup
  addr : ∀ p ∈ sts, 0 ≤ p.2 ∧ p.2 < (code.length : Int)
  few : sts.length ≤ 12
  size : code.length ≤ 1000
  ins : ∀ c ∈ code, Ins code.length (sts.map (·.1)) c.1 c.2
def imgD (sts : List (Str × Int)) (code : List (Str × List PyData)) : PyData := .tuple [.tuple (sts.map stD), .tuple (code.map coD)]
/-- the names' dict while it grows -/
def kvN (acc : List Str) : List (Key × PyData) := acc.map fun n => (.inr n, .bool true)
theorem kvN_data (acc : List Str) : (PyData.dict ((kvN acc).map fun p => (keyD p.1, p.2))) = nmD acc := by
  unfold kvN nmD
  rw [List.map_map]
  rfl
theorem kvN_len (acc : List Str) : (kvN acc).length = acc.length := by unfold kvN; rw [List.length_map]
theorem kvN_put {acc : List Str} {s : Str} (h : s ∉ acc) : putD (kvN acc) (.inr s) (.bool true) = kvN (acc ++ [s]) := by
  unfold putD kvN
  rw [if_neg]
  · rw [List.map_append]; rfl
  · rw [List.any_eq_true]
    rintro ⟨x, hx, e⟩
    obtain ⟨n, hn, rfl⟩ := List.mem_map.mp hx
    have := of_decide_eq_true e
    cases this
    exact h hn
theorem v_start_names (k : Nat) (mem : List Box) {size : Int} {sts : List (Str × Int)} (hn : Names (sts.map (·.1))) (hd : (sts.map (·.1)).Nodup) (ha : ∀ p ∈ sts, 0 ≤ p.2 ∧ p.2 < size) (hl : sts.length ≤ 12) : evalF g (k + 3) "start_names" [.d (.tuple (sts.map stD)), .d (.int size)] mem = .ok (.d (nmD (sts.map (·.1)))) ⟨[], mem⟩ := by
  rw [e_p_start_names]
  simp only [m_p_start_names]
  generalize hb : (sSeq (sIf (cOr _ _) _ _) (sSeq (sSet 4 _) _)) = body
  have L : ∀ (ds : List (Str × Int)) (acc : List Str) (o o' : Option W), (∀ p ∈ ds, Low p.1 ∧ 0 ≤ p.2 ∧ p.2 < size) → (acc ++ ds.map (·.1)).Nodup → acc.length + ds.length ≤ 1000 →
      ∃ r r', forL (tgName 3) body (ds.map stD) ⟨[some (.d (.tuple (sts.map stD))), some (.d (.int size)), some (.own (.dic (kvN acc))), o, o'], mem⟩ = .ok .next ⟨[some (.d (.tuple (sts.map stD))), some (.d (.int size)), some (.own (.dic (kvN (acc ++ ds.map (·.1))))), r, r'], mem⟩ := by
    intro ds
    induction ds with
    | nil => intro acc o o' _ _ _; exact ⟨o, o', by simp [forL, er]⟩
    | cons p ds ih =>
      intro acc o o' hp hnd hlen
      obtain ⟨q1, q2, q3⟩ := hp p (List.mem_cons_self ..)
      rw [List.length_cons] at hlen
      have hni : p.1 ∉ acc := fun z => by
        rw [List.map_cons] at hnd
        have := (List.nodup_append.mp hnd).2.2 p.1 z p.1 (List.mem_cons_self ..)
        exact this rfl
      have hnd' : ((acc ++ [p.1]) ++ ds.map (·.1)).Nodup := by
        rw [List.append_assoc]
        rw [List.map_cons] at hnd
        exact hnd
      obtain ⟨o1, o2, e⟩ := ih (acc ++ [p.1]) (some (.d (stD p))) (some (.d (.str p.1))) (fun z hz => hp z (List.mem_cons_of_mem _ hz)) hnd' (by rw [List.length_append, List.length_singleton]; omega)
      refine ⟨o1, o2, ?_⟩
      rw [List.map_cons, forL_next (s1 := ⟨[some (.d (.tuple (sts.map stD))), some (.d (.int size)), some (.own (.dic (kvN acc))), some (.d (stD p)), o'], mem⟩) rfl (s2 := ⟨[some (.d (.tuple (sts.map stD))), some (.d (.int size)), some (.own (.dic (kvN (acc ++ [p.1])))), some (.d (stD p)), some (.d (.str p.1))], mem⟩) ?_]
      · rw [e, List.map_cons, List.append_assoc]; rfl
      · rw [← hb]
        have b1 : atI [PyData.str p.1, .int p.2] (0 : Int) = some (.str p.1) := rfl
        have b2 : atI [PyData.str p.1, .int p.2] (1 : Int) = some (.int p.2) := rfl
        have b3 := v_is_low k mem q1
        have b4 := v_within k mem p.2 0 (size - 1)
        have b5 := in_nm false p.1 acc
        rw [decide_eq_false hni] at b5
        have b6 : (kvN acc).length < 1000000 := by rw [kvN_len]; omega
        have b7 := kvN_put hni
        have b8 : p.2 ≤ size - 1 := by omega
        have b9 := kvN_data acc
        generalize kvN acc = kv at *
        generalize kvN (acc ++ [p.1]) = kv' at *
        simp [eb, rb, er, es, sSeq, sIf, sRet, sSet, sSetN, setS, setN, sExpr, sTup, setAll, evD, cVar, opd, resolve, cP1, cP2, cPN, cList, resolves, cTup, cLst, cFrz, cBoxN, cBoxV, cTru, truth, toB, cAnd, cOr, cNot, cAndV, cOrV, cNotV, cIf, cCh, fAdd, fSub, fCmpI, fNeg, fIsi, isT, fI, f1, f2, fLen, fInt, fTupleOf, fIx, cCall, doCall, cCallK, runF, exitF, Ob.data, sRaise, cNewL, modSlot, gPut, sPut, isLst, sAug, sAugIx, augF.fAugAdd, fGet, gApp, cApp, b2i, cExt, gExt, seqOf, cGet, cGet1, isDt, fGetD, keyOf, cPairs, mergeD, cDisp, fFmt, cJs, fIntU, fInt, fKd, fKdIn, fIsiT, fAbs_v, fGcd_v, fEqI_v, fNeI_v, stD, b1, b2, b3, b4, b5, b6, b7, b8, b9, q2]
  obtain ⟨o, o', eL⟩ := L sts [] none none (fun p hp => ⟨hn p.1 (List.mem_map_of_mem hp), ha p hp⟩) (by simpa using hd) (by rw [List.length_nil]; omega)
  rw [List.nil_append] at eL
  have e0 : kvN [] = [] := rfl
  rw [e0] at eL
  have b9 := kvN_data (sts.map (·.1))
  generalize kvN (sts.map (·.1)) = kv at *
  generalize sts.map stD = sd at *
  simp [eb, rb, er, es, sSeq, sIf, sRet, sSet, sSetN, setS, setN, sExpr, sTup, setAll, evD, cVar, opd, resolve, cP1, cP2, cPN, cList, resolves, cTup, cLst, cFrz, cBoxN, cBoxV, cTru, truth, toB, cAnd, cOr, cNot, cAndV, cOrV, cNotV, cIf, cCh, fAdd, fSub, fCmpI, fNeg, fIsi, isT, fI, f1, f2, fLen, fInt, fTupleOf, fIx, cCall, doCall, cCallK, runF, exitF, Ob.data, sRaise, cNewL, modSlot, gPut, sPut, isLst, sAug, sAugIx, augF.fAugAdd, fGet, gApp, cApp, b2i, cExt, gExt, seqOf, cGet, cGet1, isDt, fGetD, keyOf, cPairs, mergeD, cDisp, fFmt, cJs, fIntU, fInt, fKd, fKdIn, fIsiT, fAbs_v, fGcd_v, fEqI_v, fNeI_v, sFor, srcAny, eL, b9]
end MP
namespace MP
open PySem PySem.Spec PyProof.Rows L2 TL
theorem v_is_image (k : Nat) (mem : List Box) {sts : List (Str × Int)} {code : List (Str × List PyData)} (h : Img sts code) : evalF g (k + 5) "is_image" [.d (imgD sts code)] mem = .ok (.d (.bool true)) ⟨[], mem⟩ := by
  have N := v_start_names (k + 1) mem h.names h.nodup h.addr h.few
  rw [e_p_is_image]
  simp only [m_p_is_image]
  generalize hb : (sSeq (sIf (cNot (cTru (.ex (cCall _ "is_instruction" _)))) _ _) (er .next)) = body
  have L : ∀ (ds : List (Str × List PyData)) (o : Option W), (∀ c ∈ ds, Ins code.length (sts.map (·.1)) c.1 c.2) → ∃ r, forL (tgName 2) body (ds.map coD) ⟨[some (.d (imgD sts code)), some (.d (nmD (sts.map (·.1)))), o, some (.d (.tuple (sts.map stD))), some (.d (.tuple (code.map coD)))], mem⟩ = .ok .next ⟨[some (.d (imgD sts code)), some (.d (nmD (sts.map (·.1)))), r, some (.d (.tuple (sts.map stD))), some (.d (.tuple (code.map coD)))], mem⟩ := by
    intro ds
    induction ds with
    | nil => intro o _; exact ⟨o, rfl⟩
    | cons c ds ih =>
      intro o hc
      obtain ⟨r, e⟩ := ih (some (.d (coD c))) fun z hz => hc z (List.mem_cons_of_mem _ hz)
      refine ⟨r, ?_⟩
      rw [List.map_cons, forL_next (s1 := ⟨[some (.d (imgD sts code)), some (.d (nmD (sts.map (·.1)))), some (.d (coD c)), some (.d (.tuple (sts.map stD))), some (.d (.tuple (code.map coD)))], mem⟩) rfl (s2 := ⟨[some (.d (imgD sts code)), some (.d (nmD (sts.map (·.1)))), some (.d (coD c)), some (.d (.tuple (sts.map stD))), some (.d (.tuple (code.map coD)))], mem⟩) ?_]
      · exact e
      · rw [← hb]
        have I := v_is_instruction k mem (hc c (List.mem_cons_self ..))
        have I : evalF g (k + 4) "is_instruction" [.d (coD c), .d (.int code.length), .d (nmD (sts.map (·.1)))] mem = .ok (.d (.bool true)) ⟨[], mem⟩ := I
        have lc : (code.map coD).length = code.length := List.length_map ..
        simp [eb, rb, er, es, sSeq, sIf, sRet, sSet, sSetN, setS, setN, sExpr, sTup, setAll, evD, cVar, opd, resolve, cP1, cP2, cPN, cList, resolves, cTup, cLst, cFrz, cBoxN, cBoxV, cTru, truth, toB, cAnd, cOr, cNot, cAndV, cOrV, cNotV, cIf, cCh, fAdd, fSub, fCmpI, fNeg, fIsi, isT, fI, f1, f2, fLen, fInt, fTupleOf, fIx, cCall, doCall, cCallK, runF, exitF, Ob.data, sRaise, cNewL, modSlot, gPut, sPut, isLst, sAug, sAugIx, augF.fAugAdd, fGet, gApp, cApp, b2i, cExt, gExt, seqOf, cGet, cGet1, isDt, fGetD, keyOf, cPairs, mergeD, cDisp, fFmt, cJs, fIntU, fInt, fKd, fKdIn, fIsiT, fAbs_v, fGcd_v, fEqI_v, fNeI_v, I, lc]
  obtain ⟨r, eL⟩ := L code none h.ins
  have g1 : ¬ ((12 : Int) < sts.length) := by have := h.few; omega
  have g2 : ¬ ((60000 : Int) < code.length) := by have := h.size; omega
  have l1 : (sts.map stD).length = sts.length := List.length_map ..
  have l2 : (code.map coD).length = code.length := List.length_map ..
  simp only [imgD] at eL ⊢
  have hN : fIsN (nmD (sts.map (·.1))) .none = some (.bool false) := rfl
  generalize nmD (sts.map (·.1)) = nd at *
  generalize sts.map stD = sd at *
  generalize code.map coD = cd at *
  simp [eb, rb, er, es, sSeq, sIf, sRet, sSet, sSetN, setS, setN, sExpr, sTup, setAll, evD, cVar, opd, resolve, cP1, cP2, cPN, cList, resolves, cTup, cLst, cFrz, cBoxN, cBoxV, cTru, truth, toB, cAnd, cOr, cNot, cAndV, cOrV, cNotV, cIf, cCh, fAdd, fSub, fCmpI, fNeg, fIsi, isT, fI, f1, f2, fLen, fInt, fTupleOf, fIx, cCall, doCall, cCallK, runF, exitF, Ob.data, sRaise, cNewL, modSlot, gPut, sPut, isLst, sAug, sAugIx, augF.fAugAdd, fGet, gApp, cApp, b2i, cExt, gExt, seqOf, cGet, cGet1, isDt, fGetD, keyOf, cPairs, mergeD, cDisp, fFmt, cJs, fIntU, fInt, fKd, fKdIn, fIsiT, fAbs_v, fGcd_v, fEqI_v, fNeI_v, sFor, srcAny, l1, l2, g1, g2, N, hN, eL]
theorem v_need_image (k : Nat) (mem : List Box) {sts : List (Str × Int)} {code : List (Str × List PyData)} (h : Img sts code) : evalF g (k + 6) "need_image" [.d (imgD sts code)] mem = .ok (.d .none) ⟨[], mem⟩ := by
  rw [e_p_need_image]
  simp [m_p_need_image, eb, rb, er, es, sSeq, sIf, sRet, sSet, sSetN, setS, setN, sExpr, sTup, setAll, evD, cVar, opd, resolve, cP1, cP2, cPN, cList, resolves, cTup, cLst, cFrz, cBoxN, cBoxV, cTru, truth, toB, cAnd, cOr, cNot, cAndV, cOrV, cNotV, cIf, cCh, fAdd, fSub, fCmpI, fNeg, fIsi, isT, fI, f1, f2, fLen, fInt, fTupleOf, fIx, cCall, doCall, cCallK, runF, exitF, Ob.data, sRaise, cNewL, modSlot, gPut, sPut, isLst, sAug, sAugIx, augF.fAugAdd, fGet, gApp, cApp, b2i, cExt, gExt, seqOf, cGet, cGet1, isDt, fGetD, keyOf, cPairs, mergeD, cDisp, fFmt, cJs, fIntU, fInt, fKd, fKdIn, fIsiT, fAbs_v, fGcd_v, fEqI_v, fNeI_v, v_is_image k mem h]
/-! the text -/
def stL (p : Str × Int) : Str := lineS ["start", p.1, numS p.2]
def coL (c : Str × List PyData) : Str := lineS (c.1 :: pws c.2)
def linesS (sts : List (Str × Int)) (code : List (Str × List PyData)) : List Str := sts.map stL ++ code.map coL
def txt (sts : List (Str × Int)) (code : List (Str × List PyData)) : Str := Txt.join nl (linesS sts code)
theorem str_app (a b c : Str) : a ++ b ++ c = a ++ (b ++ c) := ext_tl (by simp [tl_append])
theorem str_nil (a : Str) : Str.empty ++ a = a := ext_tl (by rw [tl_append]; rfl)
theorem lineS_cons2 (a b : Str) (r : List Str) : lineS (a :: b :: r) = a ++ sp ++ lineS (b :: r) := by
  unfold lineS
  rw [join_eq, join_eq]
  rfl
theorem lineS_one (a : Str) : lineS [a] = a := by unfold lineS; rw [join_eq]; rfl
theorem stL_eq (p : Str × Int) : stL p = (("start " : Str) ++ p.1) ++ " " ++ numS p.2 := by
  unfold stL
  rw [lineS_cons2, lineS_cons2, lineS_one]
  have e : ("start " : Str) = ("start" : Str) ++ sp := by kernel_rfl
  rw [e]
  show _ = ("start" : Str) ++ sp ++ p.1 ++ sp ++ numS p.2
  simp only [str_app]
theorem start_wd : Wd "start" := ⟨by decide +kernel, by decide +kernel, by decide +kernel, by decide +kernel⟩
theorem Img.num {sts : List (Str × Int)} {code : List (Str × List PyData)} (h : Img sts code) : ∀ p ∈ sts, Low p.1 ∧ p.2.natAbs < 10 ^ 13 := fun p hp => by
  have := h.addr p hp
  have := h.size
  exact ⟨h.names p.1 (List.mem_map_of_mem hp), by omega⟩
theorem st_wd {p : Str × Int} (h : Low p.1 ∧ p.2.natAbs < 10 ^ 13) : ∀ s ∈ ([("start" : Str), p.1, numS p.2] : List Str), Wd s := fun s hs => by
  simp only [List.mem_cons, List.not_mem_nil, or_false] at hs
  rcases hs with rfl | rfl | rfl
  · exact start_wd
  · exact h.1.wd
  · exact num_wd h.2
theorem tl_lineS {ws : List Str} : ∀ c ∈ tl (lineS ws), c = 32 ∨ ∃ w ∈ ws, c ∈ tl w := by
  induction ws with
  | nil =>
    intro c hc
    have e : tl (lineS []) = [] := by kernel_rfl
    rw [e] at hc
    exact absurd hc (by simp)
  | cons w ws ih =>
    intro c hc
    cases ws with
    | nil => rw [lineS_one] at hc; exact .inr ⟨w, List.mem_cons_self .., hc⟩
    | cons v r =>
      rw [lineS_cons2, tl_append, tl_append] at hc
      rcases List.mem_append.mp hc with hc | hc
      · rcases List.mem_append.mp hc with hc | hc
        · exact .inr ⟨w, List.mem_cons_self .., hc⟩
        · have : tl sp = [32] := by kernel_rfl
          rw [this] at hc
          exact .inl (List.mem_singleton.mp hc)
      · rcases ih c hc with h | ⟨u, hu, h⟩
        · exact .inl h
        · exact .inr ⟨u, List.mem_cons_of_mem _ hu, h⟩
/-- a line of the text: no line feed, not long, not empty -/
structure Ln (s : Str) : Prop where
  nl : 10 ∉ tl s
  le : s.length ≤ 400
  ne : 1 ≤ s.length
theorem lineS_ln {ws : List Str} (hne : ws ≠ []) (h : ∀ s ∈ ws, Wd s) (hl : ws.length ≤ 26) : Ln (lineS ws) := by
  refine ⟨fun z => ?_, by have := line_len h; omega, ?_⟩
  · rcases tl_lineS 10 z with h1 | ⟨w, hw, h1⟩
    · cases h1
    · exact (h w hw).nl h1
  · cases ws with
    | nil => exact absurd rfl hne
    | cons w r =>
      have hw := (h w (List.mem_cons_self ..)).ne
      cases r with
      | nil => rw [lineS_one]; exact hw
      | cons v r =>
        rw [len_tl] at hw
        rw [lineS_cons2, len_tl, tl_append, tl_append, List.length_append, List.length_append]
        omega
theorem Img.lines {sts : List (Str × Int)} {code : List (Str × List PyData)} (h : Img sts code) : ∀ s ∈ linesS sts code, Ln s := fun s hs => by
  rcases List.mem_append.mp hs with hs | hs
  · obtain ⟨p, hp, rfl⟩ := List.mem_map.mp hs
    exact lineS_ln (by simp) (st_wd (h.num p hp)) (by show 3 ≤ 26; decide)
  · obtain ⟨c, hc, rfl⟩ := List.mem_map.mp hs
    obtain ⟨w1, w2, w3⟩ := (h.ins c hc).wd h.names (by have := h.size; omega)
    exact lineS_ln (by simp) w1 (by rw [List.length_cons]; omega)
theorem linesS_len (sts : List (Str × Int)) (code : List (Str × List PyData)) : (linesS sts code).length = sts.length + code.length := by unfold linesS; rw [List.length_append, List.length_map, List.length_map]
theorem nl_len : nl.length = 1 := by kernel_rfl
theorem Img.sum {sts : List (Str × Int)} {code : List (Str × List PyData)} (h : Img sts code) : ((linesS sts code).map (·.length)).sum + (linesS sts code).length * nl.length ≤ 500000 := by
  have y := sum_le (B := 400) fun s hs => (h.lines s hs).le
  have l := linesS_len sts code
  have := h.few
  have := h.size
  rw [nl_len]
  omega
theorem Img.join {sts : List (Str × Int)} {code : List (Str × List PyData)} (h : Img sts code) : fJoin nl (.list ((linesS sts code).map .str)) = some (.str (txt sts code)) := fJoin_v (by have := h.sum; omega)
theorem Img.len {sts : List (Str × Int)} {code : List (Str × List PyData)} (h : Img sts code) : (txt sts code).length ≤ 500000 := by
  have e : txt sts code = Str.join nl (linesS sts code) := join_eq _ _
  have z := StrLaws.join_length_le nl (linesS sts code)
  have := h.sum
  rw [e]
  omega
end MP
namespace MP
open PySem PySem.Spec PyProof.Rows L2 TL
/-! write_image, the law's own text -/
theorem v_write_image (k : Nat) (mem : List Box) {sts : List (Str × Int)} {code : List (Str × List PyData)} (h : Img sts code) : evalF g (k + 7) "write_image" [.d (imgD sts code)] mem = .ok (.d (.str (txt sts code))) ⟨[], mem⟩ := by
  have NI := v_need_image k mem h
  have b0 : atI [PyData.tuple (sts.map stD), .tuple (code.map coD)] (0 : Int) = some (.tuple (sts.map stD)) := rfl
  have b1 : atI [PyData.tuple (sts.map stD), .tuple (code.map coD)] (1 : Int) = some (.tuple (code.map coD)) := rfl
  rw [e_p_write_image]
  simp only [m_p_write_image]
  generalize hl1 : cLc [2, 3] _ _ _ _ = lc1
  generalize hl2 : cLc [4] _ _ _ _ = lc2
  have L1 : lc1 ⟨[some (.d (imgD sts code)), none, none, none, none], mem⟩ = .ok (.lst ((sts.map stL).map .str)) ⟨[some (.d (imgD sts code)), none, none, none, none], mem⟩ := by
    rw [← hl1, show (sts.map stL).map PyData.str = (sts.map stD).map fun d => match d with | .tuple [.str s, .int i] => .str (stL (s, i)) | d => d by rw [List.map_map, List.map_map]; rfl]
    refine cLc_eq (s1 := ⟨[some (.d (imgD sts code)), none, none, none, none], mem⟩) (s2 := ⟨[some (.d (imgD sts code)), none, none, none, none], mem⟩) (xs := sts.map stD) ?_ (lcL_map ?_ fun x hx => ?_)
    · simp [srcAny, eb, rb, er, es, sSeq, sIf, sRet, sSet, sSetN, setS, setN, sExpr, sTup, setAll, evD, cVar, opd, resolve, cP1, cP2, cPN, cList, resolves, cTup, cLst, cFrz, cBoxN, cBoxV, cTru, truth, toB, cAnd, cOr, cNot, cAndV, cOrV, cNotV, cIf, cCh, fAdd, fSub, fCmpI, fNeg, fIsi, isT, fI, f1, f2, fLen, fInt, fTupleOf, fIx, cCall, doCall, cCallK, runF, exitF, Ob.data, sRaise, cNewL, modSlot, gPut, sPut, isLst, sAug, sAugIx, augF.fAugAdd, fGet, gApp, cApp, b2i, cExt, gExt, seqOf, cGet, cGet1, isDt, fGetD, keyOf, cPairs, mergeD, cDisp, fFmt, cJs, fIntU, fInt, fKd, fKdIn, fIsiT, fAbs_v, fGcd_v, fEqI_v, fNeI_v, imgD, b0]
    · rw [List.length_map]; have := h.few; omega
    · obtain ⟨p, hp, rfl⟩ := List.mem_map.mp hx
      obtain ⟨q1, q2⟩ := h.num p hp
      have f2 : fFmt (.int p.2) = some (.str (numS p.2)) := fStr_num q2
      have l1 := q1.le
      have l2 := (num_wd q2).le
      have t1 : (Str.empty ++ ("start " : Str)).length ≤ 1000000 := by decide +kernel
      have t2 : (Str.empty ++ ("start " : Str) ++ p.1).length ≤ 1000000 := by
        rw [len_tl] at l1 ⊢
        rw [tl_append, List.length_append]
        have : (tl (Str.empty ++ ("start " : Str))).length = 6 := by kernel_rfl
        omega
      have t3 : (Str.empty ++ ("start " : Str) ++ p.1 ++ (" " : Str)).length ≤ 1000000 := by
        rw [len_tl] at l1 ⊢
        rw [tl_append, tl_append, List.length_append, List.length_append]
        have : (tl (Str.empty ++ ("start " : Str))).length = 6 := by kernel_rfl
        have : (tl (" " : Str)).length = 1 := by kernel_rfl
        omega
      have t4 : (Str.empty ++ ("start " : Str) ++ p.1 ++ (" " : Str) ++ numS p.2).length ≤ 1000000 := by
        rw [len_tl] at l1 l2 ⊢
        rw [tl_append, tl_append, tl_append, List.length_append, List.length_append, List.length_append]
        have : (tl (Str.empty ++ ("start " : Str))).length = 6 := by kernel_rfl
        have : (tl (" " : Str)).length = 1 := by kernel_rfl
        omega
      have e5 : stL p = Str.empty ++ ("start " : Str) ++ p.1 ++ (" " : Str) ++ numS p.2 := by rw [stL_eq, str_nil]
      refine ⟨⟨[some (.d (imgD sts code)), none, some (.d (.str p.1)), some (.d (.int p.2)), none], mem⟩, ⟨[some (.d (imgD sts code)), none, some (.d (.str p.1)), some (.d (.int p.2)), none], mem⟩, rfl, ?_, rfl⟩
      show _ = MP.Res.ok (PyData.str (stL p)) _
      rw [e5]
      have f1' : fFmt (.str p.1) = some (.str p.1) := by
        show (if p.1.length ≤ 1000000 then some (PyData.str p.1) else none) = _
        rw [if_pos q1.le2]
      simp [eb, rb, er, es, evD, opd, resolve, cP1, cJs, f1', f2, t1, t2, t3, t4]
  have L2 : ∀ o : Ob, lc2 ⟨[some (.d (imgD sts code)), some (.own o), none, none, none], mem⟩ = .ok (.lst ((code.map coL).map .str)) ⟨[some (.d (imgD sts code)), some (.own o), none, none, none], mem⟩ := fun o => by
    have fn : ∃ fn : PyData → PyData, ∀ c ∈ code, fn (coD c) = .str (coL c) := by
      refine ⟨fun d => match d with | .tuple (.str w :: ps) => .str (coL (w, ps)) | d => d, fun c _ => rfl⟩
    obtain ⟨fn, hfn⟩ := fn
    rw [← hl2, show (code.map coL).map PyData.str = (code.map coD).map fn by rw [List.map_map, List.map_map]; exact List.map_congr_left fun c hc => (hfn c hc).symm]
    refine cLc_eq (s1 := ⟨[some (.d (imgD sts code)), some (.own o), none, none, none], mem⟩) (s2 := ⟨[some (.d (imgD sts code)), some (.own o), none, none, none], mem⟩) (xs := code.map coD) ?_ (lcL_map ?_ fun x hx => ?_)
    · simp [srcAny, eb, rb, er, es, sSeq, sIf, sRet, sSet, sSetN, setS, setN, sExpr, sTup, setAll, evD, cVar, opd, resolve, cP1, cP2, cPN, cList, resolves, cTup, cLst, cFrz, cBoxN, cBoxV, cTru, truth, toB, cAnd, cOr, cNot, cAndV, cOrV, cNotV, cIf, cCh, fAdd, fSub, fCmpI, fNeg, fIsi, isT, fI, f1, f2, fLen, fInt, fTupleOf, fIx, cCall, doCall, cCallK, runF, exitF, Ob.data, sRaise, cNewL, modSlot, gPut, sPut, isLst, sAug, sAugIx, augF.fAugAdd, fGet, gApp, cApp, b2i, cExt, gExt, seqOf, cGet, cGet1, isDt, fGetD, keyOf, cPairs, mergeD, cDisp, fFmt, cJs, fIntU, fInt, fKd, fKdIn, fIsiT, fAbs_v, fGcd_v, fEqI_v, fNeI_v, imgD, b1]
    · rw [List.length_map]; have := h.size; omega
    · obtain ⟨c, hc, rfl⟩ := List.mem_map.mp hx
      refine ⟨⟨[some (.d (imgD sts code)), some (.own o), none, none, some (.d (coD c))], mem⟩, ⟨[some (.d (imgD sts code)), some (.own o), none, none, some (.d (coD c))], mem⟩, rfl, ?_, rfl⟩
      rw [hfn c hc]
      have I := v_line_of (k + 5) mem (h.ins c hc) h.names (by have := h.size; omega)
      have I : evalF g (k + 6) "line_of" [.d (coD c)] mem = .ok (.d (.str (coL c))) ⟨[], mem⟩ := I
      simp [eb, rb, er, es, sSeq, sIf, sRet, sSet, sSetN, setS, setN, sExpr, sTup, setAll, evD, cVar, opd, resolve, cP1, cP2, cPN, cList, resolves, cTup, cLst, cFrz, cBoxN, cBoxV, cTru, truth, toB, cAnd, cOr, cNot, cAndV, cOrV, cNotV, cIf, cCh, fAdd, fSub, fCmpI, fNeg, fIsi, isT, fI, f1, f2, fLen, fInt, fTupleOf, fIx, cCall, doCall, cCallK, runF, exitF, Ob.data, sRaise, cNewL, modSlot, gPut, sPut, isLst, sAug, sAugIx, augF.fAugAdd, fGet, gApp, cApp, b2i, cExt, gExt, seqOf, cGet, cGet1, isDt, fGetD, keyOf, cPairs, mergeD, cDisp, fFmt, cJs, fIntU, fInt, fKd, fKdIn, fIsiT, fAbs_v, fGcd_v, fEqI_v, fNeI_v, I]
  have J := h.join
  unfold linesS at J
  rw [List.map_append] at J
  have la : ((sts.map stL).map PyData.str).length + ((code.map coL).map PyData.str).length ≤ 1000000 := by
    rw [List.length_map, List.length_map, List.length_map, List.length_map]
    have := h.few
    have := h.size
    omega
  have e2 : ("\n" : Str) = nl := rfl
  rw [e2]
  generalize (sts.map stL).map PyData.str = sl at *
  generalize (code.map coL).map PyData.str = cl at *
  generalize txt sts code = tx at *
  simp [eb, rb, er, es, sSeq, sIf, sRet, sSet, sSetN, setS, setN, sExpr, sTup, setAll, evD, cVar, opd, resolve, cP1, cP2, cPN, cList, resolves, cTup, cLst, cFrz, cBoxN, cBoxV, cTru, truth, toB, cAnd, cOr, cNot, cAndV, cOrV, cNotV, cIf, cCh, fAdd, fSub, fCmpI, fNeg, fIsi, isT, fI, f1, f2, fLen, fInt, fTupleOf, fIx, cCall, doCall, cCallK, runF, exitF, Ob.data, sRaise, cNewL, modSlot, gPut, sPut, isLst, sAug, sAugIx, augF.fAugAdd, fGet, gApp, cApp, b2i, cExt, gExt, seqOf, cGet, cGet1, isDt, fGetD, keyOf, cPairs, mergeD, cDisp, fFmt, cJs, fIntU, fInt, fKd, fKdIn, fIsiT, fAbs_v, fGcd_v, fEqI_v, fNeI_v, NI, L1, L2, la, cSM, J]
end MP
namespace MP
open PySem PySem.Spec PyProof.Rows L2 TL
/-! the law's own text -/
def ext (a : Str) (ws : List Str) : Str := ws.foldl (fun a w => a ++ sp ++ w) a
theorem lineS_ext : ∀ (r : List Str) (a : Str), lineS (a :: r) = ext a r
  | [], a => lineS_one a
  | b :: r, a => by
    have e : lineS (a :: b :: r) = lineS ((a ++ sp ++ b) :: r) := by
      unfold lineS
      rw [join_eq, join_eq, StrLaws.join_shift]
      rfl
    rw [e, lineS_ext r]
    rfl
theorem ext_app (a : Str) (xs ys : List Str) : ext (ext a xs) ys = ext a (xs ++ ys) := by unfold ext; rw [List.foldl_append]
theorem sp_len : sp.length = 1 := by kernel_rfl
theorem app_len (a b : Str) : (a ++ b).length = a.length + b.length := by rw [len_tl, len_tl, len_tl, tl_append, List.length_append]
theorem ext_len : ∀ {ws : List Str} {a : Str}, (∀ w ∈ ws, w.length ≤ 14) → (ext a ws).length ≤ a.length + 15 * ws.length
  | [], a, _ => by show a.length ≤ _; omega
  | w :: ws, a, h => by
    have i := ext_len (ws := ws) (a := a ++ sp ++ w) fun z hz => h z (List.mem_cons_of_mem _ hz)
    have j := h w (List.mem_cons_self ..)
    rw [app_len, app_len, sp_len] at i
    have e : ext a (w :: ws) = ext (a ++ sp ++ w) ws := rfl
    rw [e, List.length_cons]
    omega
/-- a word as it stands in a part -/
inductive Atm : PyData → Prop
  | s {x : Str} (h : x.length ≤ 14) : Atm (.str x)
  | i {i : Int} (h : i.natAbs < 10 ^ 13) : Atm (.int i)
def aS : PyData → Str
  | .int i => numS i
  | .str s => s
  | _ => Str.empty
theorem Atm.str {d : PyData} (h : Atm d) : fStr d = some (.str (aS d)) ∧ (aS d).length ≤ 14 := by
  cases h with
  | s h => exact ⟨rfl, h⟩
  | i h => exact ⟨fStr_num h, (num_wd h).le⟩
/-- a part's words -/
def atms : PyData → List PyData
  | .tuple xs => xs
  | d => [d]
theorem atms_pw {size : Int} {nm : List Str} {c : Nat} {d : PyData} (hn : Names nm) (hs : size ≤ 1000) (h : PartOk size nm c d) : (∀ a ∈ atms d, Atm a) ∧ (atms d).map aS = pw d ∧ (atms d).length ≤ 8 := by
  cases h with
  | @f s hm => exact ⟨fun a ha => by rw [List.mem_singleton.mp ha]; exact .s (hn s hm).wd.le, rfl, by show 1 ≤ 8; decide⟩
  | @t xs h1 h2 h3 =>
    refine ⟨fun a ha => ?_, ?_, by show (xs.map PyData.int).length ≤ 8; rw [List.length_map]; exact h2⟩
    · obtain ⟨y, hy, rfl⟩ := List.mem_map.mp (show a ∈ xs.map PyData.int from ha)
      have := h3 y hy
      exact .i (by omega)
    · show (xs.map PyData.int).map aS = (xs.map PyData.int).map iS
      rw [List.map_map, List.map_map]
      rfl
  | @n _ i lo hi hb h1 h2 =>
    have := bnd_small hs hb
    exact ⟨fun a ha => by rw [List.mem_singleton.mp ha]; exact .i (by omega), rfl, by show 1 ≤ 8; decide⟩
theorem fAddS {a b : Str} (h : a.length + b.length ≤ 1000000) : fAdd (.str a) (.str b) = some (.str (a ++ b)) := by
  show (if a.length + b.length ≤ 1000000 then some (PyData.str (a ++ b)) else none) = _
  rw [if_pos h]
theorem v_text (k : Nat) (mem : List Box) {sts : List (Str × Int)} {code : List (Str × List PyData)} (h : Img sts code) : evalF g (k + 1) "_law_text" [.d (imgD sts code)] mem = .ok (.d (.str (txt sts code))) ⟨[], mem⟩ := by
  have b0 : atI [PyData.tuple (sts.map stD), .tuple (code.map coD)] (0 : Int) = some (.tuple (sts.map stD)) := rfl
  have b1 : atI [PyData.tuple (sts.map stD), .tuple (code.map coD)] (1 : Int) = some (.tuple (code.map coD)) := rfl
  have hs : (code.length : Int) ≤ 1000 := by have := h.size; omega
  rw [e_ltext]
  simp only [m_ltext]
  have e2 : (" " : Str) = sp := rfl
  have e3 : ("\n" : Str) = nl := rfl
  rw [e2, e3]
  generalize h1 : (sSeq (sExpr (cApp 1 (cP2 fAdd _ _))) (er .next)) = body1
  generalize h8 : (sSeq (sSet 5 (cP2 fAdd _ _)) (er .next)) = body8
  generalize h6 : (sSeq (sSet 7 (cVar 6)) _) = body6
  generalize h2 : (sSeq (sSet 5 (cP2 fIx _ _)) _) = body2
  have L1 : ∀ (ds : List (Str × Int)) (acc : List PyData) (o3 o4 : Option W), (∀ p ∈ ds, Low p.1 ∧ p.2.natAbs < 10 ^ 13) → acc.length + ds.length ≤ 100000 → ∃ r3 r4, forL (tgTup [3, 4]) body1 (ds.map stD) ⟨[some (.d (imgD sts code)), some (.own (.lst acc)), none, o3, o4, none, none, none, none], mem⟩ = .ok .next ⟨[some (.d (imgD sts code)), some (.own (.lst (acc ++ (ds.map stL).map .str))), none, r3, r4, none, none, none, none], mem⟩ := by
    intro ds
    induction ds with
    | nil => intro acc o3 o4 _ _; exact ⟨o3, o4, by simp [forL, er]⟩
    | cons p ds ih =>
      intro acc o3 o4 hp hl
      rw [List.length_cons] at hl
      obtain ⟨r3, r4, e⟩ := ih (acc ++ [.str (stL p)]) (some (.d (.str p.1))) (some (.d (.int p.2))) (fun z hz => hp z (List.mem_cons_of_mem _ hz)) (by rw [List.length_append, List.length_singleton]; omega)
      refine ⟨r3, r4, ?_⟩
      rw [List.map_cons, forL_next (s1 := ⟨[some (.d (imgD sts code)), some (.own (.lst acc)), none, some (.d (.str p.1)), some (.d (.int p.2)), none, none, none, none], mem⟩) rfl (s2 := ⟨[some (.d (imgD sts code)), some (.own (.lst (acc ++ [.str (stL p)]))), none, some (.d (.str p.1)), some (.d (.int p.2)), none, none, none, none], mem⟩) ?_]
      · rw [e, List.map_cons, List.map_cons, List.append_assoc]; rfl
      · obtain ⟨q1, q2⟩ := hp p (List.mem_cons_self ..)
        have n1 := q1.le
        have n2 := (num_wd q2).le
        have n3 : ("start " : Str).length = 6 := by kernel_rfl
        have a1 : fAdd (.str "start ") (.str p.1) = some (.str (("start " : Str) ++ p.1)) := fAddS (by omega)
        have a2 : fAdd (.str (("start " : Str) ++ p.1)) (.str sp) = some (.str (("start " : Str) ++ p.1 ++ sp)) := fAddS (by rw [app_len, sp_len]; omega)
        have a3 : fAdd (.str (("start " : Str) ++ p.1 ++ sp)) (.str (numS p.2)) = some (.str (stL p)) := by
          rw [stL_eq]
          exact fAddS (by rw [app_len, app_len, sp_len]; omega)
        have a4 := fStr_num q2
        have la : acc.length < 1000000 := by omega
        rw [← h1]
        simp [eb, rb, er, es, sSeq, sExpr, evD, opd, resolve, cP2, cPN, cList, resolves, f1, cApp, isLst, modSlot, gApp, a1, a2, a3, a4, la]
  have L8 : ∀ (ws : List PyData) (a : Str) (x0 x1 x2 x3 x4 x6 x7 o8 : Option W), (∀ d ∈ ws, Atm d) → a.length + 15 * ws.length ≤ 100000 → ∃ r, forL (tgName 8) body8 ws ⟨[x0, x1, x2, x3, x4, some (.d (.str a)), x6, x7, o8], mem⟩ = .ok .next ⟨[x0, x1, x2, x3, x4, some (.d (.str (ext a (ws.map aS)))), x6, x7, r], mem⟩ := by
    intro ws
    induction ws with
    | nil => intro a x0 x1 x2 x3 x4 x6 x7 o8 _ _; exact ⟨o8, rfl⟩
    | cons d ws ih =>
      intro a x0 x1 x2 x3 x4 x6 x7 o8 hd hl
      rw [List.length_cons] at hl
      obtain ⟨s1, s2⟩ := (hd d (List.mem_cons_self ..)).str
      obtain ⟨r, e⟩ := ih (a ++ sp ++ aS d) x0 x1 x2 x3 x4 x6 x7 (some (.d d)) (fun z hz => hd z (List.mem_cons_of_mem _ hz)) (by rw [app_len, app_len, sp_len]; omega)
      refine ⟨r, ?_⟩
      rw [forL_next (s1 := ⟨[x0, x1, x2, x3, x4, some (.d (.str a)), x6, x7, some (.d d)], mem⟩) rfl (s2 := ⟨[x0, x1, x2, x3, x4, some (.d (.str (a ++ sp ++ aS d))), x6, x7, some (.d d)], mem⟩) ?_]
      · exact e
      · have a1 : fAdd (.str a) (.str sp) = some (.str (a ++ sp)) := fAddS (by rw [sp_len]; omega)
        have a2 : fAdd (.str (a ++ sp)) (.str (aS d)) = some (.str (a ++ sp ++ aS d)) := fAddS (by rw [app_len, sp_len]; omega)
        rw [← h8]
        simp [eb, rb, er, es, sSeq, sSet, setS, evD, opd, resolve, cP2, cPN, cList, resolves, f1, a1, a2, s1]
  have L6 : ∀ (ds : List PyData) (cs : List Nat) (a : Str) (x0 x1 x2 x3 x4 o6 o7 o8 : Option W), Paired (PartOk code.length (sts.map (·.1))) cs ds → a.length + 120 * ds.length ≤ 100000 → ∃ r6 r7 r8, forL (tgName 6) body6 ds ⟨[x0, x1, x2, x3, x4, some (.d (.str a)), o6, o7, o8], mem⟩ = .ok .next ⟨[x0, x1, x2, x3, x4, some (.d (.str (ext a (pws ds)))), r6, r7, r8], mem⟩ := by
    intro ds
    induction ds with
    | nil => intro cs a x0 x1 x2 x3 x4 o6 o7 o8 _ _; exact ⟨o6, o7, o8, rfl⟩
    | cons d ds ih =>
      intro cs a x0 x1 x2 x3 x4 o6 o7 o8 hp hl
      rw [List.length_cons] at hl
      cases hp with
      | cons p1 t =>
        obtain ⟨w1, w2, w3⟩ := atms_pw h.names hs p1
        obtain ⟨r, e8⟩ := L8 (atms d) a x0 x1 x2 x3 x4 (some (.d d)) (some (.d (.tuple (atms d)))) o8 w1 (by omega)
        rw [w2] at e8
        have el : (ext a (pw d)).length ≤ a.length + 15 * 8 := by
          rw [← w2]
          have := ext_len (ws := (atms d).map aS) (a := a) fun w hw => by
            obtain ⟨z, hz, rfl⟩ := List.mem_map.mp hw
            exact ((w1 z hz).str).2
          rw [List.length_map] at this
          omega
        obtain ⟨r6, r7, r8, e⟩ := ih _ (ext a (pw d)) x0 x1 x2 x3 x4 (some (.d d)) (some (.d (.tuple (atms d)))) r t (by omega)
        refine ⟨r6, r7, r8, ?_⟩
        rw [forL_next (s1 := ⟨[x0, x1, x2, x3, x4, some (.d (.str a)), some (.d d), o7, o8], mem⟩) rfl (s2 := ⟨[x0, x1, x2, x3, x4, some (.d (.str (ext a (pw d)))), some (.d d), some (.d (.tuple (atms d))), r], mem⟩) ?_]
        · rw [e, pws_cons, ext_app]
        · rw [← h6]
          cases p1 with
          | f hm =>
            simp only [atms] at e8 ⊢
            simp [eb, rb, er, es, sSeq, sIf, sRet, sSet, sSetN, setS, setN, sExpr, sTup, setAll, evD, cVar, opd, resolve, cP1, cP2, cPN, cList, resolves, cTup, cLst, cFrz, cBoxN, cBoxV, cTru, truth, toB, cAnd, cOr, cNot, cAndV, cOrV, cNotV, cIf, cCh, fAdd, fSub, fCmpI, fNeg, fIsi, isT, fI, f1, f2, fLen, fInt, fTupleOf, fIx, cCall, doCall, cCallK, runF, exitF, Ob.data, sRaise, cNewL, modSlot, gPut, sPut, isLst, sAug, sAugIx, augF.fAugAdd, fGet, gApp, cApp, b2i, cExt, gExt, seqOf, cGet, cGet1, isDt, fGetD, keyOf, cPairs, mergeD, cDisp, fFmt, cJs, fIntU, fInt, fKd, fKdIn, fIsiT, fAbs_v, fGcd_v, fEqI_v, fNeI_v, sFor, srcAny, e8]
          | t q1 q2 q3 =>
            simp only [atms] at e8 ⊢
            simp [eb, rb, er, es, sSeq, sIf, sRet, sSet, sSetN, setS, setN, sExpr, sTup, setAll, evD, cVar, opd, resolve, cP1, cP2, cPN, cList, resolves, cTup, cLst, cFrz, cBoxN, cBoxV, cTru, truth, toB, cAnd, cOr, cNot, cAndV, cOrV, cNotV, cIf, cCh, fAdd, fSub, fCmpI, fNeg, fIsi, isT, fI, f1, f2, fLen, fInt, fTupleOf, fIx, cCall, doCall, cCallK, runF, exitF, Ob.data, sRaise, cNewL, modSlot, gPut, sPut, isLst, sAug, sAugIx, augF.fAugAdd, fGet, gApp, cApp, b2i, cExt, gExt, seqOf, cGet, cGet1, isDt, fGetD, keyOf, cPairs, mergeD, cDisp, fFmt, cJs, fIntU, fInt, fKd, fKdIn, fIsiT, fAbs_v, fGcd_v, fEqI_v, fNeI_v, sFor, srcAny, e8]
          | n hb q1 q2 =>
            simp only [atms] at e8 ⊢
            simp [eb, rb, er, es, sSeq, sIf, sRet, sSet, sSetN, setS, setN, sExpr, sTup, setAll, evD, cVar, opd, resolve, cP1, cP2, cPN, cList, resolves, cTup, cLst, cFrz, cBoxN, cBoxV, cTru, truth, toB, cAnd, cOr, cNot, cAndV, cOrV, cNotV, cIf, cCh, fAdd, fSub, fCmpI, fNeg, fIsi, isT, fI, f1, f2, fLen, fInt, fTupleOf, fIx, cCall, doCall, cCallK, runF, exitF, Ob.data, sRaise, cNewL, modSlot, gPut, sPut, isLst, sAug, sAugIx, augF.fAugAdd, fGet, gApp, cApp, b2i, cExt, gExt, seqOf, cGet, cGet1, isDt, fGetD, keyOf, cPairs, mergeD, cDisp, fFmt, cJs, fIntU, fInt, fKd, fKdIn, fIsiT, fAbs_v, fGcd_v, fEqI_v, fNeI_v, sFor, srcAny, e8]
  have L2 : ∀ (ds : List (Str × List PyData)) (acc : List PyData) (x3 x4 o2 o5 o6 o7 o8 : Option W), (∀ c ∈ ds, Ins code.length (sts.map (·.1)) c.1 c.2) → acc.length + ds.length ≤ 100000 → ∃ r2 r5 r6 r7 r8, forL (tgName 2) body2 (ds.map coD) ⟨[some (.d (imgD sts code)), some (.own (.lst acc)), o2, x3, x4, o5, o6, o7, o8], mem⟩ = .ok .next ⟨[some (.d (imgD sts code)), some (.own (.lst (acc ++ (ds.map coL).map .str))), r2, x3, x4, r5, r6, r7, r8], mem⟩ := by
    intro ds
    induction ds with
    | nil => intro acc x3 x4 o2 o5 o6 o7 o8 _ _; exact ⟨o2, o5, o6, o7, o8, by simp [forL, er]⟩
    | cons c ds ih =>
      intro acc x3 x4 o2 o5 o6 o7 o8 hc hl
      rw [List.length_cons] at hl
      have hi := hc c (List.mem_cons_self ..)
      obtain ⟨w1, w2, w3⟩ := hi.wd h.names hs
      obtain ⟨f, hf, hp⟩ := hi.is
      have hok := forms_ok hf
      unfold okF at hok
      simp only [Bool.and_eq_true, decide_eq_true_eq] at hok
      have lp : c.2.length ≤ 3 := by
        rw [(Paired.length hp).symm, ← len_tl]
        exact hok.1.1.1.1.2
      have lw : c.1.length ≤ 10 := hok.1.1.1.1.1.1
      obtain ⟨r6, r7, r8, e6⟩ := L6 c.2 _ c.1 (some (.d (imgD sts code))) (some (.own (.lst acc))) (some (.d (coD c))) x3 x4 o6 o7 o8 hp (by omega)
      rw [← lineS_ext] at e6
      obtain ⟨q2, q5, q6, q7, q8, e⟩ := ih (acc ++ [.str (coL c)]) x3 x4 (some (.d (coD c))) (some (.d (.str (coL c)))) r6 r7 r8 (fun z hz => hc z (List.mem_cons_of_mem _ hz)) (by rw [List.length_append, List.length_singleton]; omega)
      refine ⟨q2, q5, q6, q7, q8, ?_⟩
      rw [List.map_cons, forL_next (s1 := ⟨[some (.d (imgD sts code)), some (.own (.lst acc)), some (.d (coD c)), x3, x4, o5, o6, o7, o8], mem⟩) rfl (s2 := ⟨[some (.d (imgD sts code)), some (.own (.lst (acc ++ [.str (coL c)]))), some (.d (coD c)), x3, x4, some (.d (.str (coL c))), r6, r7, r8], mem⟩) ?_]
      · rw [e, List.map_cons, List.map_cons, List.append_assoc]; rfl
      · rw [← h2]
        have a0 : atI (PyData.str c.1 :: c.2) (0 : Int) = some (.str c.1) := (at_nat (j := 0)).trans rfl
        have ct : cutG (PyData.str c.1 :: c.2) (some 1) none = c.2 := cut_tl
        have la : acc.length < 1000000 := by omega
        have ec : coL c = lineS (c.1 :: pws c.2) := rfl
        rw [ec]
        simp only [coD, insD] at e6 ⊢
        generalize lineS (c.1 :: pws c.2) = ln at *
        simp [eb, rb, er, es, sSeq, sIf, sRet, sSet, sSetN, setS, setN, sExpr, sTup, setAll, evD, cVar, opd, resolve, cP1, cP2, cPN, cList, resolves, cTup, cLst, cFrz, cBoxN, cBoxV, cTru, truth, toB, cAnd, cOr, cNot, cAndV, cOrV, cNotV, cIf, cCh, fAdd, fSub, fCmpI, fNeg, fIsi, isT, fI, f1, f2, fLen, fInt, fTupleOf, fIx, cCall, doCall, cCallK, runF, exitF, Ob.data, sRaise, cNewL, modSlot, gPut, sPut, isLst, sAug, sAugIx, augF.fAugAdd, fGet, gApp, cApp, b2i, cExt, gExt, seqOf, cGet, cGet1, isDt, fGetD, keyOf, cPairs, mergeD, cDisp, fFmt, cJs, fIntU, fInt, fKd, fKdIn, fIsiT, fAbs_v, fGcd_v, fEqI_v, fNeI_v, sFor, srcAny, cSl, part, fSl, a0, ct, e6, la]
  obtain ⟨r3, r4, e1⟩ := L1 sts [] none none h.num (by have := h.few; rw [List.length_nil]; omega)
  obtain ⟨r2, r5, r6, r7, r8, e4⟩ := L2 code ((sts.map stL).map .str) r3 r4 none none none none none h.ins (by rw [List.length_map, List.length_map]; have := h.few; have := h.size; omega)
  rw [List.nil_append] at e1
  have J := h.join
  unfold linesS at J
  rw [List.map_append] at J
  simp only [imgD] at e1 e4 ⊢
  generalize (sts.map stL).map PyData.str = sl at *
  generalize (code.map coL).map PyData.str = cl at *
  generalize txt sts code = tx at *
  generalize sts.map stD = sd at *
  generalize code.map coD = cd at *
  simp [eb, rb, er, es, sSeq, sIf, sRet, sSet, sSetN, setS, setN, sExpr, sTup, setAll, evD, cVar, opd, resolve, cP1, cP2, cPN, cList, resolves, cTup, cLst, cFrz, cBoxN, cBoxV, cTru, truth, toB, cAnd, cOr, cNot, cAndV, cOrV, cNotV, cIf, cCh, fAdd, fSub, fCmpI, fNeg, fIsi, isT, fI, f1, f2, fLen, fInt, fTupleOf, fIx, cCall, doCall, cCallK, runF, exitF, Ob.data, sRaise, cNewL, modSlot, gPut, sPut, isLst, sAug, sAugIx, augF.fAugAdd, fGet, gApp, cApp, b2i, cExt, gExt, seqOf, cGet, cGet1, isDt, fGetD, keyOf, cPairs, mergeD, cDisp, fFmt, cJs, fIntU, fInt, fKd, fKdIn, fIsiT, fAbs_v, fGcd_v, fEqI_v, fNeI_v, sFor, srcAny, b0, b1, e1, e4, cSM, J]
end MP
namespace MP
open PySem PySem.Spec PyProof.Rows L2 TL
/-! reading back -/
theorem starts_eq (x y : Str) : Txt.startswith x y = ((tl x).take y.length == tl y) := by
  unfold Txt.startswith
  rw [StrLaws.subAt_eq, List.drop_zero]
  by_cases h : ((tl x).take y.length == tl y) = true
  · have e := eq_of_beq h
    have l := congrArg List.length e
    rw [List.length_take, ← len_tl, ← len_tl] at l
    rw [show (x.cps.toList.take y.length == y.cps.toList) = true from h, Bool.and_true]
    exact decide_eq_true (by omega)
  · have h' : ((tl x).take y.length == tl y) = false := by simpa using h
    rw [show (x.cps.toList.take y.length == y.cps.toList) = false from h', Bool.and_false]
theorem forms_st {w f : Str} (h : kd_FORMS.lookup w = some (.str f)) : 2 ≤ (tl w).length ∧ (tl w).take 2 ≠ [115, 116] := by
  have all : ∀ p ∈ ([("set", "rn"), ("copy", "rr"), ("add", "rrr"), ("sub", "rrr"), ("times", "rrm"), ("new", "rw"), ("put", "ror"), ("take", "rro"), ("push", "c"), ("drop", "c"), ("save", "ir"), ("load", "ri"), ("less", "rrj"), ("table", "rt"), ("jump", "j"), ("call", "f"), ("go", "f"), ("return", "")] : List (Str × Str)), 2 ≤ (tl p.1).length ∧ (tl p.1).take 2 ≠ [115, 116] := by decide +kernel
  exact all _ (forms_are h)
theorem tl_start : tl ("start" : Str) = [115, 116, 97, 114, 116] := by kernel_rfl
theorem start_len : ("start" : Str).length = 5 := by kernel_rfl
theorem st_starts (p : Str × Int) : Txt.startswith (stL p) "start" = true := by
  rw [starts_eq, start_len]
  unfold stL
  rw [lineS_cons2, tl_append, tl_append, tl_start, List.append_assoc]
  rfl
theorem co_starts {size : Int} {nm : List Str} {c : Str × List PyData} (h : Ins size nm c.1 c.2) : Txt.startswith (coL c) "start" = false := by
  obtain ⟨f, hf, _⟩ := h.is
  obtain ⟨l2, n2⟩ := forms_st hf
  rw [starts_eq, start_len, tl_start]
  have hd : ∃ r, tl (coL c) = tl c.1 ++ r := by
    unfold coL
    cases pws c.2 with
    | nil => exact ⟨[], by rw [lineS_one, List.append_nil]⟩
    | cons v r => exact ⟨tl sp ++ tl (lineS (v :: r)), by rw [lineS_cons2, tl_append, tl_append, List.append_assoc]⟩
  obtain ⟨r, e⟩ := hd
  rw [e]
  cases hb : (tl c.1 ++ r).take 5 == [115, 116, 97, 114, 116] with
  | false => rfl
  | true =>
    have q := eq_of_beq hb
    have q2 := congrArg (List.take 2) q
    rw [List.take_take, List.take_append_of_le_length (by omega)] at q2
    exact absurd q2 n2
theorem v_start_of (k : Nat) (mem : List Box) {p : Str × Int} {size : Int} (hp : Low p.1 ∧ p.2.natAbs < 10 ^ 13) (ha : 0 ≤ p.2 ∧ p.2 < size) : evalF g (k + 3) "start_of" [.d (.str (stL p)), .d (.int size)] mem = .ok (.d (stD p)) ⟨[], mem⟩ := by
  have S := fSplit_line (by simp) (st_wd hp) (by show 3 ≤ 30; decide)
  have e2 : (" " : Str) = sp := rfl
  have b0 : atI [PyData.str "start", .str p.1, .str (numS p.2)] (0 : Int) = some (.str "start") := rfl
  have b1 : atI [PyData.str "start", .str p.1, .str (numS p.2)] (1 : Int) = some (.str p.1) := rfl
  have b2 : atI [PyData.str "start", .str p.1, .str (numS p.2)] (2 : Int) = some (.str (numS p.2)) := rfl
  have N := v_number_of (k + 1) mem hp.2
  have Lo := v_is_low k mem hp.1
  have hN : fIsN (.int p.2) .none = some (.bool false) := rfl
  rw [e_p_start_of]
  have es : stL p = lineS [("start" : Str), p.1, numS p.2] := rfl
  rw [es]
  generalize lineS [("start" : Str), p.1, numS p.2] = ln at *
  simp only [m_p_start_of, e2, stD]
  simp only [List.map_cons, List.map_nil] at S
  have fN := fNeS_v
  simp [eb, rb, er, es, sSeq, sIf, sRet, sSet, sSetN, setS, setN, sExpr, sTup, setAll, evD, cVar, opd, resolve, cP1, cP2, cPN, cList, resolves, cTup, cLst, cFrz, cBoxN, cBoxV, cTru, truth, toB, cAnd, cOr, cNot, cAndV, cOrV, cNotV, cIf, cCh, fAdd, fSub, fCmpI, fNeg, fIsi, isT, fI, f1, f2, fLen, fInt, fTupleOf, fIx, cCall, doCall, cCallK, runF, exitF, Ob.data, sRaise, cNewL, modSlot, gPut, sPut, isLst, sAug, sAugIx, augF.fAugAdd, fGet, gApp, cApp, b2i, cExt, gExt, seqOf, cGet, cGet1, isDt, fGetD, keyOf, cPairs, mergeD, cDisp, fFmt, cJs, fIntU, fInt, fKd, fKdIn, fIsiT, fAbs_v, fGcd_v, fEqI_v, fNeI_v, cSM, S, fNeI_v, fN, b0, b1, b2, N, Lo, hN, ha.1, ha.2]
theorem nodup_at {sts : List (Str × Int)} (hd : (sts.map (·.1)).Nodup) {j : Nat} {p : Str × Int} (h : sts[j]? = some p) : p.1 ∉ (sts.take j).map (·.1) := by
  intro z
  obtain ⟨hj, e⟩ := List.getElem?_eq_some_iff.mp h
  have s : sts = sts.take j ++ p :: sts.drop (j + 1) := by
    rw [← e, ← List.drop_eq_getElem_cons hj, List.take_append_drop]
  rw [s, List.map_append, List.map_cons] at hd
  exact (List.nodup_append.mp hd).2.2 p.1 z p.1 (List.mem_cons_self ..) rfl
theorem take_next {α : Type} {xs : List α} {j : Nat} {x : α} (h : xs[j]? = some x) : xs.take (j + 1) = xs.take j ++ [x] := by
  rw [List.take_succ, h]; rfl
theorem v_read_starts (k : Nat) (mem : List Box) {sts : List (Str × Int)} {size : Int} (hn : ∀ p ∈ sts, Low p.1 ∧ p.2.natAbs < 10 ^ 13) (hd : (sts.map (·.1)).Nodup) (ha : ∀ p ∈ sts, 0 ≤ p.2 ∧ p.2 < size) (hl : sts.length ≤ 12) :
    evalF g (k + 4) "read_starts" [.d (.list ((sts.map stL).map .str)), .d (.int size)] mem = .ok (.d (.tuple (sts.map stD))) ⟨[], mem⟩ := by
  have lc : ((sts.map stL).map PyData.str).length = sts.length := by rw [List.length_map, List.length_map]
  have at_ : ∀ (j : Nat) (p : Str × Int), sts[j]? = some p → ((sts.map stL).map PyData.str)[j]? = some (.str (stL p)) := fun j p h => by rw [List.getElem?_map, List.getElem?_map, h]; rfl
  revert lc at_
  generalize (sts.map stL).map PyData.str = ls
  intro lc at_
  rw [e_p_read_starts]
  simp only [m_p_read_starts]
  generalize hb : (sSeq (sSet 5 _) _) = body
  have L : ∃ s', forL (tgName 4) body (rangeD 0 sts.length) ⟨[some (.d (.list ls)), some (.d (.int size)), some (.own (.lst [])), some (.own (.dic [])), none, none], mem⟩ = .ok .next s' ∧ ∃ o o', s' = ⟨[some (.d (.list ls)), some (.d (.int size)), some (.own (.lst (sts.map stD))), some (.own (.dic (kvN (sts.map (·.1))))), o, o'], mem⟩ := by
    have z := forL_inv (t := tgName 4) (body := body) (fun j s' => ∃ o o', s' = ⟨[some (.d (.list ls)), some (.d (.int size)), some (.own (.lst ((sts.take j).map stD))), some (.own (.dic (kvN ((sts.take j).map (·.1))))), o, o'], mem⟩) (rangeD 0 sts.length) 0 ⟨[some (.d (.list ls)), some (.d (.int size)), some (.own (.lst [])), some (.own (.dic [])), none, none], mem⟩ ⟨none, none, rfl⟩ fun j x s hx hP => ?_
    · obtain ⟨s', h1, o, o', h2⟩ := z
      rw [Nat.zero_add, range_len, List.take_length] at h2
      exact ⟨s', h1, o, o', h2⟩
    · obtain ⟨o, o', rfl⟩ := hP
      obtain ⟨hj, rfl⟩ := range_at hx
      rw [Nat.zero_add]
      obtain ⟨p, hp⟩ : ∃ p, sts[j]? = some p := ⟨_, List.getElem?_eq_getElem hj⟩
      have hm : p ∈ sts := List.mem_of_getElem? hp
      have hni := nodup_at hd hp
      have S := v_start_of k mem (hn p hm) (ha p hm)
      have b0 : atI ls (j : Int) = some (.str (stL p)) := by rw [at_nat]; exact at_ j p hp
      have b1 : atI [PyData.str p.1, .int p.2] (0 : Int) = some (.str p.1) := rfl
      have b2 : fIsN (.tuple [.str p.1, .int p.2]) .none = some (.bool false) := rfl
      have b3 : ¬ ((12 : Int) ≤ (j : Int)) := by omega
      have b4 := in_nm false p.1 ((sts.take j).map (·.1))
      rw [decide_eq_false hni] at b4
      have b5 := kvN_data ((sts.take j).map (·.1))
      have b6 := kvN_put hni
      have lt : (sts.take j).length ≤ 12 := by rw [List.length_take]; omega
      have b7 : (kvN ((sts.take j).map (·.1))).length < 1000000 := by rw [kvN_len, List.length_map]; omega
      have b8 : ((sts.take j).map stD).length < 1000000 := by rw [List.length_map]; omega
      refine ⟨_, ⟨[some (.d (.list ls)), some (.d (.int size)), some (.own (.lst ((sts.take (j + 1)).map stD))), some (.own (.dic (kvN ((sts.take (j + 1)).map (·.1))))), some (.d (.int j)), some (.d (stD p))], mem⟩, rfl, ?_, _, _, rfl⟩
      rw [← hb, take_next hp, List.map_append, List.map_append]
      have e1 : [p].map stD = [stD p] := rfl
      have e2 : [p].map (·.1) = [p.1] := rfl
      rw [e1, e2]
      simp only [stD] at S ⊢
      generalize kvN (List.map (fun x => x.1) (List.take j sts)) = kv at *
      generalize kvN (List.map (fun x => x.1) (List.take j sts) ++ [p.1]) = kv' at *
      generalize nmD (List.map (fun x => x.1) (List.take j sts)) = nd at *
      generalize List.map stD (List.take j sts) = sd at *
      simp [eb, rb, er, es, sSeq, sIf, sRet, sSet, sSetN, setS, setN, sExpr, sTup, setAll, evD, cVar, opd, resolve, cP1, cP2, cPN, cList, resolves, cTup, cLst, cFrz, cBoxN, cBoxV, cTru, truth, toB, cAnd, cOr, cNot, cAndV, cOrV, cNotV, cIf, cCh, fAdd, fSub, fCmpI, fNeg, fIsi, isT, fI, f1, f2, fLen, fInt, fTupleOf, fIx, cCall, doCall, cCallK, runF, exitF, Ob.data, sRaise, cNewL, modSlot, gPut, sPut, isLst, sAug, sAugIx, augF.fAugAdd, fGet, gApp, cApp, b2i, cExt, gExt, seqOf, cGet, cGet1, isDt, fGetD, keyOf, cPairs, mergeD, cDisp, fFmt, cJs, fIntU, fInt, fKd, fKdIn, fIsiT, fAbs_v, fGcd_v, fEqI_v, fNeI_v, b0, b1, b2, b3, b4, b5, b6, b7, b8, S]
  obtain ⟨s', eL, o, o', rfl⟩ := L
  have n2 := rg1_n (n := ls.length) (by omega)
  rw [← lc] at eL
  revert eL
  generalize sts.map stD = sd
  generalize kvN (sts.map (·.1)) = kv
  intro eL
  simp [eb, rb, er, es, sSeq, sIf, sRet, sSet, sSetN, setS, setN, sExpr, sTup, setAll, evD, cVar, opd, resolve, cP1, cP2, cPN, cList, resolves, cTup, cLst, cFrz, cBoxN, cBoxV, cTru, truth, toB, cAnd, cOr, cNot, cAndV, cOrV, cNotV, cIf, cCh, fAdd, fSub, fCmpI, fNeg, fIsi, isT, fI, f1, f2, fLen, fInt, fTupleOf, fIx, cCall, doCall, cCallK, runF, exitF, Ob.data, sRaise, cNewL, modSlot, gPut, sPut, isLst, sAug, sAugIx, augF.fAugAdd, fGet, gApp, cApp, b2i, cExt, gExt, seqOf, cGet, cGet1, isDt, fGetD, keyOf, cPairs, mergeD, cDisp, fFmt, cJs, fIntU, fInt, fKd, fKdIn, fIsiT, fAbs_v, fGcd_v, fEqI_v, fNeI_v, sFor, srcR1, n2, eL]
end MP
namespace MP
open PySem PySem.Spec PyProof.Rows L2 TL
/-! read_image -/
theorem dc_names {own : List Nat} {t : PyData → EM Unit} {ek ev : EM W} {s0 : S} (h : ∀ p : Str × Int, ∃ s1, t (stD p) s0 = .ok () s1 ∧ evD ek s1 = .ok (.str p.1) s1 ∧ evD ev s1 = .ok (.bool true) s1 ∧ (⟨wipeR s1.rho own, s1.mem⟩ : S) = s0) :
    ∀ (ds : List (Str × Int)) (acc : List Str), (acc ++ ds.map (·.1)).Nodup → acc.length + ds.length ≤ 1000 → dcL own t (er true) ek ev (ds.map stD) (kvN acc) s0 = .ok (kvN (acc ++ ds.map (·.1))) s0
  | [], acc, _, _ => by
    rw [List.map_nil, List.map_nil, List.append_nil]
    rfl
  | p :: ds, acc, hd, hl => by
    obtain ⟨s1, e1, e2, e3, e4⟩ := h p
    rw [List.length_cons] at hl
    have hni : p.1 ∉ acc := fun z => by
      rw [List.map_cons] at hd
      exact (List.nodup_append.mp hd).2.2 p.1 z p.1 (List.mem_cons_self ..) rfl
    have hd' : ((acc ++ [p.1]) ++ ds.map (·.1)).Nodup := by
      rw [List.append_assoc]
      rw [List.map_cons] at hd
      exact hd
    rw [List.map_cons]
    show (match t (stD p) s0 with
      | .ok _ s1 => match (er true : EM Bool) s1 with
        | .ok true s2 => match evD ek s2 with
          | .ok y s3 => match evD ev s3 with
            | .ok z s4 => match keyOf y with
              | some k => if (kvN acc).length < 1000000 then dcL own t (er true) ek ev (ds.map stD) (putD (kvN acc) k z) ⟨wipeR s4.rho own, s4.mem⟩ else .stuck
              | none => .stuck
            | _ => .stuck
          | _ => .stuck
        | .ok false s2 => dcL own t (er true) ek ev (ds.map stD) (kvN acc) ⟨wipeR s2.rho own, s2.mem⟩
        | _ => .stuck
      | _ => .stuck) = _
    rw [e1]
    dsimp only [er]
    rw [e2]
    dsimp only
    rw [e3]
    dsimp only [keyOf]
    rw [if_pos (by rw [kvN_len]; omega), e4, kvN_put hni, dc_names h ds (acc ++ [p.1]) hd' (by rw [List.length_append, List.length_singleton]; omega), List.map_cons, List.append_assoc]
    rfl
theorem cDc_eq {own : List Nat} {t : PyData → EM Unit} {c : EM Bool} {ek e : EM W} {src : EM (List PyData)} {s s1 s2 : S} {xs : List PyData} {ys : List (Key × PyData)} (h : src s = .ok xs s1) (h2 : dcL own t c ek e xs [] ⟨wipeR s1.rho own, s1.mem⟩ = .ok ys s2) : cDc own t c ek e src s = .ok (.dic ys) ⟨restore s1.rho s2.rho own, s2.mem⟩ := by
  show rb (src s) _ = _
  rw [h]
  show (match dcL own t c ek e xs [] ⟨wipeR s1.rho own, s1.mem⟩ with
    | .ok ys s' => MP.Res.ok (Ob.dic ys) ⟨restore s1.rho s'.rho own, s'.mem⟩
    | _ => .stuck) = _
  rw [h2]
theorem Img.no {sts : List (Str × Int)} (h : Img sts []) : sts = [] := by
  cases sts with
  | nil => rfl
  | cons p r =>
    have := h.addr p (List.mem_cons_self ..)
    simp at this
    omega
theorem join_ne {l : Str} {r : List Str} (h : 1 ≤ l.length) : Txt.join nl (l :: r) ≠ "" := by
  intro z
  have e := congrArg Str.length z
  rw [join_eq] at e
  have e0 : ("" : Str).length = 0 := by kernel_rfl
  rw [e0] at e
  cases r with
  | nil => have : Str.join nl [l] = l := rfl; rw [this] at e; omega
  | cons v r =>
    have : Str.join nl (l :: v :: r) = l ++ nl ++ Str.join nl (v :: r) := rfl
    rw [this, app_len, app_len] at e
    omega
theorem cut_take {α : Type} {xs : List α} {n : Nat} (h : n ≤ xs.length) : cutG xs none (some (n : Int)) = xs.take n := by
  unfold cutG
  show (xs.drop 0).take (HT.sIx xs.length xs.length (some (n : Int)) - 0) = _
  rw [HT.sIx_nat, List.drop_zero, Nat.sub_zero, Nat.min_eq_left h]
theorem v_read_image (k : Nat) (mem : List Box) {sts : List (Str × Int)} {code : List (Str × List PyData)} (h : Img sts code) : evalF g (k + 6) "read_image" [.d (.str (txt sts code))] mem = .ok (.d (imgD sts code)) ⟨[], mem⟩ := by
  have fE := fEqS_v
  by_cases hne : linesS sts code = []
  · have hc : code = [] := by
      have := congrArg List.length hne
      rw [linesS_len, List.length_nil] at this
      exact List.eq_nil_of_length_eq_zero (by omega)
    subst hc
    have hs := h.no
    subst hs
    have et : txt [] [] = "" := by kernel_rfl
    rw [et, e_p_read_image]
    simp [m_p_read_image, eb, rb, er, es, sSeq, sIf, sRet, sSet, sSetN, setS, setN, sExpr, sTup, setAll, evD, cVar, opd, resolve, cP1, cP2, cPN, cList, resolves, cTup, cLst, cFrz, cBoxN, cBoxV, cTru, truth, toB, cAnd, cOr, cNot, cAndV, cOrV, cNotV, cIf, cCh, fAdd, fSub, fCmpI, fNeg, fIsi, isT, fI, f1, f2, fLen, fInt, fTupleOf, fIx, cCall, doCall, cCallK, runF, exitF, Ob.data, sRaise, cNewL, modSlot, gPut, sPut, isLst, sAug, sAugIx, augF.fAugAdd, fGet, gApp, cApp, b2i, cExt, gExt, seqOf, cGet, cGet1, isDt, fGetD, keyOf, cPairs, mergeD, cDisp, fFmt, cJs, fIntU, fInt, fKd, fKdIn, fIsiT, fAbs_v, fGcd_v, fEqI_v, fNeI_v, fE, imgD]
  · have hl := h.lines
    have ll := linesS_len sts code
    have nf := h.few
    have ns := h.size
    have tne : decide (txt sts code = "") = false := decide_eq_false fun z => by
      unfold txt at z
      cases e : linesS sts code with
      | nil => exact hne e
      | cons l r =>
        rw [e] at z
        exact join_ne (hl l (by rw [e]; exact List.mem_cons_self ..)).ne z
    have S : fSplit (txt sts code) (.str nl) = some (.list ((linesS sts code).map .str)) := by
      show (if (nl.length == 0) = false ∧ (txt sts code).length ≤ 1000000 then some (PyData.list ((Txt.split (txt sts code) nl).map .str)) else none) = _
      have := h.len
      rw [if_pos ⟨by kernel_rfl, by omega⟩]
      unfold txt
      rw [split_join (y := nl) (s := 10) (S := []) (by kernel_rfl) (by kernel_rfl) hne fun p hp => (hl p hp).nl]
    -- the lines as data
    have at1 : ∀ (j : Nat), j < sts.length → ∃ p, ((linesS sts code).map PyData.str)[j]? = some (.str (stL p)) := fun j hj => by
      refine ⟨sts[j], ?_⟩
      unfold linesS
      rw [List.getElem?_map, List.getElem?_append_left (by rw [List.length_map]; exact hj), List.getElem?_map, List.getElem?_eq_getElem hj]
      rfl
    have at2 : ∀ (j : Nat) (c : Str × List PyData), code[j]? = some c → ((linesS sts code).map PyData.str)[sts.length + j]? = some (.str (coL c)) := fun j c hj => by
      unfold linesS
      rw [List.getElem?_map, List.getElem?_append_right (by rw [List.length_map]; omega), List.length_map, show sts.length + j - sts.length = j by omega, List.getElem?_map, hj]
      rfl
    have lls : ((linesS sts code).map PyData.str).length = sts.length + code.length := by rw [List.length_map, ll]
    have ct : cutG ((linesS sts code).map PyData.str) none (some (sts.length : Int)) = (sts.map stL).map .str := by
      rw [cut_take (by omega), ← List.map_take]
      unfold linesS
      rw [List.take_left' (by rw [List.length_map])]
    have RS := v_read_starts (k + 1) mem (size := code.length) h.num h.nodup h.addr nf
    revert S at1 at2 lls ct
    generalize (linesS sts code).map PyData.str = ls
    intro S at1 at2 lls ct
    have hc2 : ∀ c ∈ code, Txt.startswith (coL c) "start" = false := fun c hc => co_starts (h.ins c hc)
    generalize txt sts code = tx at *
    have e3 : ("\n" : Str) = nl := rfl
    rw [e_p_read_image]
    simp only [m_p_read_image, e3]
    generalize hcn : cAnd (eb (cP2 _ (.var 2) _) toB) _ = cnd
    generalize hbd : (sSeq (sAug 2 _ _) (er .next)) = bod
    generalize hdc : cDc _ _ _ _ _ _ = dc
    generalize hb2 : (sSeq (sSet 8 _) _) = body
    -- the while
    have C1 : ∀ j, j < sts.length → cnd ⟨[some (.d (.str tx)), some (.d (.list ls)), some (.d (.int (j : Int))), none, none, none, none, none, none, none, none], mem⟩ = .ok true ⟨[some (.d (.str tx)), some (.d (.list ls)), some (.d (.int (j : Int))), none, none, none, none, none, none, none, none], mem⟩ := fun j hj => by
      obtain ⟨p, hp⟩ := at1 j hj
      have a : atI ls (j : Int) = some (.str (stL p)) := by rw [at_nat]; exact hp
      have b : j < ls.length := by omega
      rw [← hcn]
      simp [eb, rb, er, es, sSeq, sIf, sRet, sSet, sSetN, setS, setN, sExpr, sTup, setAll, evD, cVar, opd, resolve, cP1, cP2, cPN, cList, resolves, cTup, cLst, cFrz, cBoxN, cBoxV, cTru, truth, toB, cAnd, cOr, cNot, cAndV, cOrV, cNotV, cIf, cCh, fAdd, fSub, fCmpI, fNeg, fIsi, isT, fI, f1, f2, fLen, fInt, fTupleOf, fIx, cCall, doCall, cCallK, runF, exitF, Ob.data, sRaise, cNewL, modSlot, gPut, sPut, isLst, sAug, sAugIx, augF.fAugAdd, fGet, gApp, cApp, b2i, cExt, gExt, seqOf, cGet, cGet1, isDt, fGetD, keyOf, cPairs, mergeD, cDisp, fFmt, cJs, fIntU, fInt, fKd, fKdIn, fIsiT, fAbs_v, fGcd_v, fEqI_v, fNeI_v, cSM, fStarts, a, b, st_starts]
    have C2 : cnd ⟨[some (.d (.str tx)), some (.d (.list ls)), some (.d (.int (sts.length : Int))), none, none, none, none, none, none, none, none], mem⟩ = .ok false ⟨[some (.d (.str tx)), some (.d (.list ls)), some (.d (.int (sts.length : Int))), none, none, none, none, none, none, none, none], mem⟩ := by
      rw [← hcn]
      by_cases hc : code.length = 0
      · have b : ¬ (sts.length < ls.length) := by omega
        simp [eb, rb, er, es, sSeq, sIf, sRet, sSet, sSetN, setS, setN, sExpr, sTup, setAll, evD, cVar, opd, resolve, cP1, cP2, cPN, cList, resolves, cTup, cLst, cFrz, cBoxN, cBoxV, cTru, truth, toB, cAnd, cOr, cNot, cAndV, cOrV, cNotV, cIf, cCh, fAdd, fSub, fCmpI, fNeg, fIsi, isT, fI, f1, f2, fLen, fInt, fTupleOf, fIx, cCall, doCall, cCallK, runF, exitF, Ob.data, sRaise, cNewL, modSlot, gPut, sPut, isLst, sAug, sAugIx, augF.fAugAdd, fGet, gApp, cApp, b2i, cExt, gExt, seqOf, cGet, cGet1, isDt, fGetD, keyOf, cPairs, mergeD, cDisp, fFmt, cJs, fIntU, fInt, fKd, fKdIn, fIsiT, fAbs_v, fGcd_v, fEqI_v, fNeI_v, b]
      · have b : sts.length < ls.length := by omega
        obtain ⟨c, hcc⟩ : ∃ c, code[0]? = some c := ⟨_, List.getElem?_eq_getElem (by omega)⟩
        have a : atI ls (sts.length : Int) = some (.str (coL c)) := by rw [at_nat]; exact at2 0 c hcc
        have d := hc2 c (List.mem_of_getElem? hcc)
        simp [eb, rb, er, es, sSeq, sIf, sRet, sSet, sSetN, setS, setN, sExpr, sTup, setAll, evD, cVar, opd, resolve, cP1, cP2, cPN, cList, resolves, cTup, cLst, cFrz, cBoxN, cBoxV, cTru, truth, toB, cAnd, cOr, cNot, cAndV, cOrV, cNotV, cIf, cCh, fAdd, fSub, fCmpI, fNeg, fIsi, isT, fI, f1, f2, fLen, fInt, fTupleOf, fIx, cCall, doCall, cCallK, runF, exitF, Ob.data, sRaise, cNewL, modSlot, gPut, sPut, isLst, sAug, sAugIx, augF.fAugAdd, fGet, gApp, cApp, b2i, cExt, gExt, seqOf, cGet, cGet1, isDt, fGetD, keyOf, cPairs, mergeD, cDisp, fFmt, cJs, fIntU, fInt, fKd, fKdIn, fIsiT, fAbs_v, fGcd_v, fEqI_v, fNeI_v, cSM, fStarts, a, b, d]
    have B : ∀ j : Nat, bod ⟨[some (.d (.str tx)), some (.d (.list ls)), some (.d (.int (j : Int))), none, none, none, none, none, none, none, none], mem⟩ = .ok .next ⟨[some (.d (.str tx)), some (.d (.list ls)), some (.d (.int ((j + 1 : Nat) : Int))), none, none, none, none, none, none, none, none], mem⟩ := fun j => by
      rw [← hbd]
      simp [eb, rb, er, es, sSeq, sIf, sRet, sSet, sSetN, setS, setN, sExpr, sTup, setAll, evD, cVar, opd, resolve, cP1, cP2, cPN, cList, resolves, cTup, cLst, cFrz, cBoxN, cBoxV, cTru, truth, toB, cAnd, cOr, cNot, cAndV, cOrV, cNotV, cIf, cCh, fAdd, fSub, fCmpI, fNeg, fIsi, isT, fI, f1, f2, fLen, fInt, fTupleOf, fIx, cCall, doCall, cCallK, runF, exitF, Ob.data, sRaise, cNewL, modSlot, gPut, sPut, isLst, sAug, sAugIx, augF.fAugAdd, fGet, gApp, cApp, b2i, cExt, gExt, seqOf, cGet, cGet1, isDt, fGetD, keyOf, cPairs, mergeD, cDisp, fFmt, cJs, fIntU, fInt, fKd, fKdIn, fIsiT, fAbs_v, fGcd_v, fEqI_v, fNeI_v]
    have Wl : ∀ d j : Nat, j + d = sts.length → whileN cnd bod (d + 1) ⟨[some (.d (.str tx)), some (.d (.list ls)), some (.d (.int (j : Int))), none, none, none, none, none, none, none, none], mem⟩ = .ok .next ⟨[some (.d (.str tx)), some (.d (.list ls)), some (.d (.int (sts.length : Int))), none, none, none, none, none, none, none, none], mem⟩ := by
      intro d
      induction d with
      | zero =>
        intro j hj
        have : j = sts.length := by omega
        subst this
        exact whileN_end C2
      | succ d ih =>
        intro j hj
        rw [whileN_next (C1 j (by omega)) (B j)]
        exact ih (j + 1) (by omega)
    have W0 := sWhile_eq (Wl sts.length 0 (by omega)) (fun z => by cases z)
    have D : ∀ (x : Option W), dc ⟨[some (.d (.str tx)), some (.d (.list ls)), some (.d (.int (sts.length : Int))), some (.d (.int (code.length : Int))), some (.d (.tuple (sts.map stD))), none, none, none, none, none, none], mem⟩ = .ok (.dic (kvN (sts.map (·.1)))) ⟨[some (.d (.str tx)), some (.d (.list ls)), some (.d (.int (sts.length : Int))), some (.d (.int (code.length : Int))), some (.d (.tuple (sts.map stD))), none, none, none, none, none, none], mem⟩ := fun _ => by
      rw [← hdc]
      refine cDc_eq (s1 := ⟨[some (.d (.str tx)), some (.d (.list ls)), some (.d (.int (sts.length : Int))), some (.d (.int (code.length : Int))), some (.d (.tuple (sts.map stD))), none, none, none, none, none, none], mem⟩) (s2 := ⟨[some (.d (.str tx)), some (.d (.list ls)), some (.d (.int (sts.length : Int))), some (.d (.int (code.length : Int))), some (.d (.tuple (sts.map stD))), none, none, none, none, none, none], mem⟩) (xs := sts.map stD) ?_ ?_
      · simp [srcAny, eb, rb, er, es, sSeq, sIf, sRet, sSet, sSetN, setS, setN, sExpr, sTup, setAll, evD, cVar, opd, resolve, cP1, cP2, cPN, cList, resolves, cTup, cLst, cFrz, cBoxN, cBoxV, cTru, truth, toB, cAnd, cOr, cNot, cAndV, cOrV, cNotV, cIf, cCh, fAdd, fSub, fCmpI, fNeg, fIsi, isT, fI, f1, f2, fLen, fInt, fTupleOf, fIx, cCall, doCall, cCallK, runF, exitF, Ob.data, sRaise, cNewL, modSlot, gPut, sPut, isLst, sAug, sAugIx, augF.fAugAdd, fGet, gApp, cApp, b2i, cExt, gExt, seqOf, cGet, cGet1, isDt, fGetD, keyOf, cPairs, mergeD, cDisp, fFmt, cJs, fIntU, fInt, fKd, fKdIn, fIsiT, fAbs_v, fGcd_v, fEqI_v, fNeI_v]
      · exact dc_names (fun p => ⟨⟨[some (.d (.str tx)), some (.d (.list ls)), some (.d (.int (sts.length : Int))), some (.d (.int (code.length : Int))), some (.d (.tuple (sts.map stD))), none, none, none, none, some (.d (.str p.1)), some (.d (.int p.2))], mem⟩, rfl, rfl, rfl, rfl⟩) sts [] (by simpa using h.nodup) (by rw [List.length_nil]; omega)
    have D := D none
    have L : ∃ s', forL (tgName 7) body (rangeD 0 code.length) ⟨[some (.d (.str tx)), some (.d (.list ls)), some (.d (.int (sts.length : Int))), some (.d (.int (code.length : Int))), some (.d (.tuple (sts.map stD))), some (.own (.dic (kvN (sts.map (·.1))))), some (.own (.lst [])), none, none, none, none], mem⟩ = .ok .next s' ∧ ∃ w5 o7 o8, s' = ⟨[some (.d (.str tx)), some (.d (.list ls)), some (.d (.int (sts.length : Int))), some (.d (.int (code.length : Int))), some (.d (.tuple (sts.map stD))), w5, some (.own (.lst (code.map coD))), o7, o8, none, none], mem⟩ := by
      have z := forL_inv (t := tgName 7) (body := body) (fun j s' => ∃ w5 o7 o8, (w5 = W.own (.dic (kvN (sts.map (·.1)))) ∨ w5 = W.d (nmD (sts.map (·.1)))) ∧ s' = ⟨[some (.d (.str tx)), some (.d (.list ls)), some (.d (.int (sts.length : Int))), some (.d (.int (code.length : Int))), some (.d (.tuple (sts.map stD))), some w5, some (.own (.lst ((code.take j).map coD))), o7, o8, none, none], mem⟩) (rangeD 0 code.length) 0 ⟨[some (.d (.str tx)), some (.d (.list ls)), some (.d (.int (sts.length : Int))), some (.d (.int (code.length : Int))), some (.d (.tuple (sts.map stD))), some (.own (.dic (kvN (sts.map (·.1))))), some (.own (.lst [])), none, none, none, none], mem⟩ ⟨_, none, none, .inl rfl, rfl⟩ fun j x s hx hP => ?_
      · obtain ⟨s', h1, w5, o7, o8, _, h2⟩ := z
        rw [Nat.zero_add, range_len, List.take_length] at h2
        exact ⟨s', h1, some w5, o7, o8, h2⟩
      · obtain ⟨w5, o7, o8, hw, rfl⟩ := hP
        obtain ⟨hj, rfl⟩ := range_at hx
        rw [Nat.zero_add]
        obtain ⟨c, hc⟩ : ∃ c, code[j]? = some c := ⟨_, List.getElem?_eq_getElem hj⟩
        have I := v_instruction_of k mem (h.ins c (List.mem_of_getElem? hc)) h.names (by omega)
        have I : evalF g (k + 5) "instruction_of" [.d (.str (coL c)), .d (.int (code.length : Int)), .d (nmD (sts.map (·.1)))] mem = .ok (.d (coD c)) ⟨[], mem⟩ := I
        have a : atI ls ((sts.length : Int) + (j : Int)) = some (.str (coL c)) := by
          rw [show (sts.length : Int) + (j : Int) = ((sts.length + j : Nat) : Int) by omega, at_nat]
          exact at2 j c hc
        have b2 : fIsN (coD c) .none = some (.bool false) := rfl
        have b3 : ¬ ((60000 : Int) ≤ (j : Int)) := by omega
        have b5 := kvN_data (sts.map (·.1))
        have lt : (code.take j).length ≤ 1000 := by rw [List.length_take]; omega
        have b8 : ((code.take j).map coD).length < 1000000 := by rw [List.length_map]; omega
        refine ⟨_, ⟨[some (.d (.str tx)), some (.d (.list ls)), some (.d (.int (sts.length : Int))), some (.d (.int (code.length : Int))), some (.d (.tuple (sts.map stD))), some (.d (nmD (sts.map (·.1)))), some (.own (.lst ((code.take (j + 1)).map coD))), some (.d (.int j)), some (.d (coD c)), none, none], mem⟩, rfl, ?_, _, _, _, .inr rfl, rfl⟩
        rw [← hb2, take_next hc, List.map_append]
        have e1 : [c].map coD = [coD c] := rfl
        rw [e1]
        generalize coD c = cc at *
        generalize coL c = cl at *
        generalize (code.take j).map coD = sd at *
        generalize kvN (sts.map (·.1)) = kv at *
        generalize nmD (sts.map (·.1)) = nd at *
        rcases hw with rfl | rfl
        · simp [eb, rb, er, es, sSeq, sIf, sRet, sSet, sSetN, setS, setN, sExpr, sTup, setAll, evD, cVar, opd, resolve, cP1, cP2, cPN, cList, resolves, cTup, cLst, cFrz, cBoxN, cBoxV, cTru, truth, toB, cAnd, cOr, cNot, cAndV, cOrV, cNotV, cIf, cCh, fAdd, fSub, fCmpI, fNeg, fIsi, isT, fI, f1, f2, fLen, fInt, fTupleOf, fIx, cCall, doCall, cCallK, runF, exitF, Ob.data, sRaise, cNewL, modSlot, gPut, sPut, isLst, sAug, sAugIx, augF.fAugAdd, fGet, gApp, cApp, b2i, cExt, gExt, seqOf, cGet, cGet1, isDt, fGetD, keyOf, cPairs, mergeD, cDisp, fFmt, cJs, fIntU, fInt, fKd, fKdIn, fIsiT, fAbs_v, fGcd_v, fEqI_v, fNeI_v, a, b2, b3, b5, b8, I]
        · simp [eb, rb, er, es, sSeq, sIf, sRet, sSet, sSetN, setS, setN, sExpr, sTup, setAll, evD, cVar, opd, resolve, cP1, cP2, cPN, cList, resolves, cTup, cLst, cFrz, cBoxN, cBoxV, cTru, truth, toB, cAnd, cOr, cNot, cAndV, cOrV, cNotV, cIf, cCh, fAdd, fSub, fCmpI, fNeg, fIsi, isT, fI, f1, f2, fLen, fInt, fTupleOf, fIx, cCall, doCall, cCallK, runF, exitF, Ob.data, sRaise, cNewL, modSlot, gPut, sPut, isLst, sAug, sAugIx, augF.fAugAdd, fGet, gApp, cApp, b2i, cExt, gExt, seqOf, cGet, cGet1, isDt, fGetD, keyOf, cPairs, mergeD, cDisp, fFmt, cJs, fIntU, fInt, fKd, fKdIn, fIsiT, fAbs_v, fGcd_v, fEqI_v, fNeI_v, a, b2, b3, b5, b8, I]
    obtain ⟨s', eL, w5, o7, o8, rfl⟩ := L
    have n2 := rg1_n (n := code.length) (by omega)
    have sz : ((ls.length : Nat) : Int) - (sts.length : Int) = (code.length : Int) := by omega
    have RS : evalF g (k + 5) "read_starts" [.d (.list ((sts.map stL).map .str)), .d (.int (code.length : Int))] mem = .ok (.d (.tuple (sts.map stD))) ⟨[], mem⟩ := RS
    simp only [imgD]
    generalize (sts.map stL).map PyData.str = sl at *
    generalize sts.map stD = sd at *
    generalize code.map coD = cd at *
    generalize kvN (sts.map (·.1)) = kv at *
    have W0 : sWhile cnd bod ⟨[some (.d (.str tx)), some (.d (.list ls)), some (.d (.int 0)), none, none, none, none, none, none, none, none], mem⟩ = _ := W0
    simp [eb, rb, er, es, sSeq, sIf, sRet, sSet, sSetN, setS, setN, sExpr, sTup, setAll, evD, cVar, opd, resolve, cP1, cP2, cPN, cList, resolves, cTup, cLst, cFrz, cBoxN, cBoxV, cTru, truth, toB, cAnd, cOr, cNot, cAndV, cOrV, cNotV, cIf, cCh, fAdd, fSub, fCmpI, fNeg, fIsi, isT, fI, f1, f2, fLen, fInt, fTupleOf, fIx, cCall, doCall, cCallK, runF, exitF, Ob.data, sRaise, cNewL, modSlot, gPut, sPut, isLst, sAug, sAugIx, augF.fAugAdd, fGet, gApp, cApp, b2i, cExt, gExt, seqOf, cGet, cGet1, isDt, fGetD, keyOf, cPairs, mergeD, cDisp, fFmt, cJs, fIntU, fInt, fKd, fKdIn, fIsiT, fAbs_v, fGcd_v, fEqI_v, fNeI_v, sFor, srcR1, cSM, fE, tne, S, W0, sz, cSl, part, fSl, ct, RS, D, n2, eL]
end MP
namespace MP
open PySem PySem.Spec PyProof.Rows L2 TL
/-! _law_same, _law_right -/
inductive SM : Nat → PyData → Prop
  | i (n : Nat) (i : Int) : SM (n + 1) (.int i)
  | s (n : Nat) {s : Str} (h : (PyData.str s).canLay0 = true) : SM (n + 1) (.str s)
  | t {n : Nat} {xs : List PyData} (hl : xs.length ≤ 1000) (h : ∀ x ∈ xs, SM n x) : SM (n + 1) (.tuple xs)
theorem SM.mono {n : Nat} {d : PyData} (h : SM n d) : SM (n + 1) d := by
  induction h with
  | i n i => exact .i _ i
  | s n h => exact .s _ h
  | t hl _ ih => exact .t hl ih
theorem fNeB_v (a b : Bool) : fNe (.bool a) (.bool b) = some (.bool (a != b)) := by cases a <;> cases b <;> rfl
theorem v_same : ∀ (n : Nat) {d : PyData}, SM n d → ∀ (k : Nat) (mem : List Box), evalF g (k + n) "_law_same" [.d d, .d d] mem = .ok (.d (.bool true)) ⟨[], mem⟩ := by
  intro n
  induction n with
  | zero => intro d h; cases h
  | succ n ih =>
    intro d h k mem
    rw [← Nat.add_assoc, e_lsame]
    have hN1 : ∀ i, fIsN (.int i) .none = some (.bool false) := fun _ => rfl
    have hN2 : ∀ i, fIsN (.str i) .none = some (.bool false) := fun _ => rfl
    have fE := fEqS_v
    cases h with
    | i _ i => simp [m_lsame, eb, rb, er, es, sSeq, sIf, sRet, sSet, sSetN, setS, setN, sExpr, sTup, setAll, evD, cVar, opd, resolve, cP1, cP2, cPN, cList, resolves, cTup, cLst, cFrz, cBoxN, cBoxV, cTru, truth, toB, cAnd, cOr, cNot, cAndV, cOrV, cNotV, cIf, cCh, fAdd, fSub, fCmpI, fNeg, fIsi, isT, fI, f1, f2, fLen, fInt, fTupleOf, fIx, cCall, doCall, cCallK, runF, exitF, Ob.data, sRaise, cNewL, modSlot, gPut, sPut, isLst, sAug, sAugIx, augF.fAugAdd, fGet, gApp, cApp, b2i, cExt, gExt, seqOf, cGet, cGet1, isDt, fGetD, keyOf, cPairs, mergeD, cDisp, fFmt, cJs, fIntU, fInt, fKd, fKdIn, fIsiT, fAbs_v, fGcd_v, fEqI_v, fNeI_v, hN1, fNeB_v]
    | s _ hx => simp [m_lsame, eb, rb, er, es, sSeq, sIf, sRet, sSet, sSetN, setS, setN, sExpr, sTup, setAll, evD, cVar, opd, resolve, cP1, cP2, cPN, cList, resolves, cTup, cLst, cFrz, cBoxN, cBoxV, cTru, truth, toB, cAnd, cOr, cNot, cAndV, cOrV, cNotV, cIf, cCh, fAdd, fSub, fCmpI, fNeg, fIsi, isT, fI, f1, f2, fLen, fInt, fTupleOf, fIx, cCall, doCall, cCallK, runF, exitF, Ob.data, sRaise, cNewL, modSlot, gPut, sPut, isLst, sAug, sAugIx, augF.fAugAdd, fGet, gApp, cApp, b2i, cExt, gExt, seqOf, cGet, cGet1, isDt, fGetD, keyOf, cPairs, mergeD, cDisp, fFmt, cJs, fIntU, fInt, fKd, fKdIn, fIsiT, fAbs_v, fGcd_v, fEqI_v, fNeI_v, hN2, fNeB_v, fE]
    | @t _ xs hl hx =>
      simp only [m_lsame]
      generalize hlc : cLc _ _ _ _ _ = lc
      have n2 := rg1_n (n := xs.length) (by omega)
      have L : lc ⟨[some (.d (.tuple xs)), some (.d (.tuple xs)), none], mem⟩ = .ok (.lst []) ⟨[some (.d (.tuple xs)), some (.d (.tuple xs)), none], mem⟩ := by
        rw [← hlc]
        refine cLc_eq (s1 := ⟨[some (.d (.tuple xs)), some (.d (.tuple xs)), none], mem⟩) (s2 := ⟨[some (.d (.tuple xs)), some (.d (.tuple xs)), none], mem⟩) (xs := rangeD 0 xs.length) ?_ ?_
        · simp [srcR1, eb, rb, er, es, sSeq, sIf, sRet, sSet, sSetN, setS, setN, sExpr, sTup, setAll, evD, cVar, opd, resolve, cP1, cP2, cPN, cList, resolves, cTup, cLst, cFrz, cBoxN, cBoxV, cTru, truth, toB, cAnd, cOr, cNot, cAndV, cOrV, cNotV, cIf, cCh, fAdd, fSub, fCmpI, fNeg, fIsi, isT, fI, f1, f2, fLen, fInt, fTupleOf, fIx, cCall, doCall, cCallK, runF, exitF, Ob.data, sRaise, cNewL, modSlot, gPut, sPut, isLst, sAug, sAugIx, augF.fAugAdd, fGet, gApp, cApp, b2i, cExt, gExt, seqOf, cGet, cGet1, isDt, fGetD, keyOf, cPairs, mergeD, cDisp, fFmt, cJs, fIntU, fInt, fKd, fKdIn, fIsiT, fAbs_v, fGcd_v, fEqI_v, fNeI_v, n2]
        · have z := lcL_pure (own := [2]) (t := tgName 2) (c := cNot (cTru (.ex (cCall (evalF g (k + n)) "_law_same" [cP2 fIx (.var 0) (.var 2), cP2 fIx (.var 1) (.var 2)])))) (e := er (.d (.int 1))) (p := fun _ => false) (f := id) (s0 := ⟨[some (.d (.tuple xs)), some (.d (.tuple xs)), none], mem⟩) (rangeD 0 xs.length) [] (by rw [range_len, List.length_nil]; omega) fun x hxx => ?_
          · rw [List.filter_eq_nil_iff.mpr (fun _ _ => by simp)] at z
            exact z
          · obtain ⟨j, hj⟩ := List.mem_iff_getElem?.mp hxx
            obtain ⟨hlt, rfl⟩ := range_at hj
            obtain ⟨y, hy⟩ : ∃ y, xs[j]? = some y := ⟨_, List.getElem?_eq_getElem hlt⟩
            have a : atI xs (j : Int) = some y := by rw [at_nat]; exact hy
            have I := ih (hx y (List.mem_of_getElem? hy)) k mem
            refine ⟨⟨[some (.d (.tuple xs)), some (.d (.tuple xs)), some (.d (.int j))], mem⟩, ⟨[some (.d (.tuple xs)), some (.d (.tuple xs)), some (.d (.int j))], mem⟩, rfl, ?_, fun _ => rfl, fun z => (nomatch z)⟩
            simp [eb, rb, er, es, sSeq, sIf, sRet, sSet, sSetN, setS, setN, sExpr, sTup, setAll, evD, cVar, opd, resolve, cP1, cP2, cPN, cList, resolves, cTup, cLst, cFrz, cBoxN, cBoxV, cTru, truth, toB, cAnd, cOr, cNot, cAndV, cOrV, cNotV, cIf, cCh, fAdd, fSub, fCmpI, fNeg, fIsi, isT, fI, f1, f2, fLen, fInt, fTupleOf, fIx, cCall, doCall, cCallK, runF, exitF, Ob.data, sRaise, cNewL, modSlot, gPut, sPut, isLst, sAug, sAugIx, augF.fAugAdd, fGet, gApp, cApp, b2i, cExt, gExt, seqOf, cGet, cGet1, isDt, fGetD, keyOf, cPairs, mergeD, cDisp, fFmt, cJs, fIntU, fInt, fKd, fKdIn, fIsiT, fAbs_v, fGcd_v, fEqI_v, fNeI_v, a, I]
      have e0 : fEq (.list []) (.list []) = some (.bool true) := by rfl
      simp [eb, rb, er, es, sSeq, sIf, sRet, sSet, sSetN, setS, setN, sExpr, sTup, setAll, evD, cVar, opd, resolve, cP1, cP2, cPN, cList, resolves, cTup, cLst, cFrz, cBoxN, cBoxV, cTru, truth, toB, cAnd, cOr, cNot, cAndV, cOrV, cNotV, cIf, cCh, fAdd, fSub, fCmpI, fNeg, fIsi, isT, fI, f1, f2, fLen, fInt, fTupleOf, fIx, cCall, doCall, cCallK, runF, exitF, Ob.data, sRaise, cNewL, modSlot, gPut, sPut, isLst, sAug, sAugIx, augF.fAugAdd, fGet, gApp, cApp, b2i, cExt, gExt, seqOf, cGet, cGet1, isDt, fGetD, keyOf, cPairs, mergeD, cDisp, fFmt, cJs, fIntU, fInt, fKd, fKdIn, fIsiT, fAbs_v, fGcd_v, fEqI_v, fNeI_v, fNeI_v, L, e0]
theorem lay_of {s : Str} (h : ∀ c ∈ tl s, c < 1114112) : (PyData.str s).canLay0 = true := by
  show s.cps.all _ = true
  rw [← Array.all_toList]
  exact List.all_eq_true.mpr fun c hc => decide_eq_true (h c hc)
theorem al_lt {c : Nat} (h : isAl c = true) : c < 1114112 := by
  unfold isAl isLe isSm isDg at h
  simp only [Bool.or_eq_true, Bool.and_eq_true, decide_eq_true_eq] at h
  omega
theorem Low.lay {s : Str} (h : Low s) : (PyData.str s).canLay0 = true := lay_of fun c hc => al_lt (h.al c hc)
theorem forms_lay {w f : Str} (h : kd_FORMS.lookup w = some (.str f)) : (PyData.str w).canLay0 = true := by
  have all : ∀ p ∈ ([("set", "rn"), ("copy", "rr"), ("add", "rrr"), ("sub", "rrr"), ("times", "rrm"), ("new", "rw"), ("put", "ror"), ("take", "rro"), ("push", "c"), ("drop", "c"), ("save", "ir"), ("load", "ri"), ("less", "rrj"), ("table", "rt"), ("jump", "j"), ("call", "f"), ("go", "f"), ("return", "")] : List (Str × Str)), ∀ c ∈ tl p.1, c < 1114112 := by decide +kernel
  exact lay_of (all _ (forms_are h))
theorem SM.lay {n : Nat} {d : PyData} (h : SM n d) : d.canLay0 = true ∧ d.depth ≤ n := by
  induction h with
  | i n i => exact ⟨rfl, Nat.zero_le _⟩
  | s n h => exact ⟨h, Nat.zero_le _⟩
  | @t n xs hl h ih =>
    have all : ∀ ys : List PyData, (∀ x ∈ ys, x.canLay0 = true ∧ x.depth ≤ n) → PyData.canLayAll0 ys = true ∧ PyData.depthAll ys ≤ n := by
      intro ys
      induction ys with
      | nil => exact fun _ => ⟨rfl, Nat.zero_le _⟩
      | cons y ys ih =>
        intro hy
        obtain ⟨a1, a2⟩ := ih fun x hx => hy x (List.mem_cons_of_mem _ hx)
        obtain ⟨b1, b2⟩ := hy y (List.mem_cons_self ..)
        refine ⟨?_, ?_⟩
        · show (y.canLay0 && PyData.canLayAll0 ys) = true
          rw [a1, b1]; rfl
        · show max y.depth (PyData.depthAll ys) ≤ n
          exact Nat.max_le.mpr ⟨b2, a2⟩
    obtain ⟨a1, a2⟩ := all xs ih
    exact ⟨a1, Nat.succ_le_succ a2⟩
theorem shaped_of {n : Nat} {d : PyData} (h : d.canLay0 = true ∧ d.depth ≤ n) (hn : n ≤ 64) : SeqAt.shaped d = true := by
  unfold SeqAt.shaped
  rw [h.1, Bool.true_and]
  exact decide_eq_true (Nat.le_trans h.2 hn)
theorem fNe_nil {n : Nat} {xs : List PyData} (h : SM n (.tuple xs)) (hn : n ≤ 64) : fNe (.tuple xs) (.tuple []) = some (.bool (!xs.isEmpty)) := by
  unfold fNe
  rw [if_neg (by show ¬ (false = true); exact Bool.false_ne_true), if_pos (by rw [shaped_of h.lay hn]; rfl)]
  cases xs <;> rfl
theorem fEq_nilS {nm : List Str} (h : Names nm) : fEq (.list (nm.map .str)) (.list []) = some (.bool nm.isEmpty) := by
  have all : ∀ ys : List Str, (∀ x ∈ ys, (PyData.str x).canLay0 = true) → PyData.canLayAll0 (ys.map .str) = true ∧ PyData.depthAll (ys.map .str) = 0 := by
    intro ys
    induction ys with
    | nil => exact fun _ => ⟨rfl, rfl⟩
    | cons y ys ih =>
      intro hy
      obtain ⟨a1, a2⟩ := ih fun x hx => hy x (List.mem_cons_of_mem _ hx)
      have b1 := hy y (List.mem_cons_self ..)
      refine ⟨?_, ?_⟩
      · show ((PyData.str y).canLay0 && PyData.canLayAll0 (ys.map .str)) = true
        rw [a1, b1]; rfl
      · show max 0 (PyData.depthAll (ys.map .str)) = 0
        rw [a2]; rfl
  obtain ⟨a1, a2⟩ := all nm fun x hx => (h x hx).lay
  have s : SeqAt.shaped (.list (nm.map .str)) = true := shaped_of (n := 1) ⟨a1, by show PyData.depthAll (nm.map .str) + 1 ≤ 1; rw [a2]; decide⟩ (by decide)
  unfold fEq
  rw [if_neg (by show ¬ (false = true); exact Bool.false_ne_true), if_pos (by rw [s]; rfl)]
  cases nm <;> rfl
theorem PartOk.sm {size : Int} {nm : List Str} {c : Nat} {d : PyData} (hn : Names nm) (h : PartOk size nm c d) : SM 2 d := by
  cases h with
  | f h => exact .s _ (hn _ h).lay
  | @t xs h1 h2 h3 =>
    refine .t (by rw [List.length_map]; omega) fun x hx => ?_
    obtain ⟨y, _, rfl⟩ := List.mem_map.mp hx
    exact .i _ _
  | n hb h1 h2 => exact .i _ _
theorem Img.sm {sts : List (Str × Int)} {code : List (Str × List PyData)} (h : Img sts code) : SM 5 (imgD sts code) := by
  refine .t (by show 2 ≤ 1000; decide) fun x hx => ?_
  simp only [List.mem_cons, List.not_mem_nil, or_false] at hx
  rcases hx with rfl | rfl
  · refine .t (by rw [List.length_map]; have := h.few; omega) fun x hx => ?_
    obtain ⟨p, hpp, rfl⟩ := List.mem_map.mp hx
    refine .t (by show 2 ≤ 1000; decide) fun x hx => ?_
    simp only [List.mem_cons, List.not_mem_nil, or_false] at hx
    rcases hx with rfl | rfl
    · exact .s _ (h.names p.1 (List.mem_map_of_mem hpp)).lay
    · exact .i _ _
  · refine .t (by rw [List.length_map]; exact h.size) fun x hx => ?_
    obtain ⟨c, hc, rfl⟩ := List.mem_map.mp hx
    obtain ⟨f, hf, hp⟩ := (h.ins c hc).is
    have hok := forms_ok hf
    unfold okF at hok
    simp only [Bool.and_eq_true, decide_eq_true_eq] at hok
    have lp : c.2.length ≤ 3 := by
      rw [(Paired.length hp).symm, ← len_tl]
      exact hok.1.1.1.1.2
    refine .t (by rw [List.length_cons]; omega) fun x hx => ?_
    rcases List.mem_cons.mp hx with rfl | hx
    · exact .s _ (forms_lay hf)
    · exact paired_all (P := SM 2) (fun _ _ r => r.sm h.names) hp x hx
theorem v_right (k : Nat) (mem : List Box) {sts : List (Str × Int)} {code : List (Str × List PyData)} (h : Img sts code) : evalF g (k + 8) "_law_right" [.d (imgD sts code)] mem = .ok (.d (.bool true)) ⟨[], mem⟩ := by
  have T := v_text (k + 6) mem h
  have W := v_write_image k mem h
  have R := v_read_image (k + 1) mem h
  have S : evalF g (k + 7) "_law_same" [.d (imgD sts code), .d (imgD sts code)] mem = _ := v_same 5 h.sm (k + 2) mem
  have fE := fEqS_v
  rw [e_lright]
  generalize imgD sts code = im at *
  generalize txt sts code = tx at *
  simp [m_lright, eb, rb, er, es, sSeq, sIf, sRet, sSet, sSetN, setS, setN, sExpr, sTup, setAll, evD, cVar, opd, resolve, cP1, cP2, cPN, cList, resolves, cTup, cLst, cFrz, cBoxN, cBoxV, cTru, truth, toB, cAnd, cOr, cNot, cAndV, cOrV, cNotV, cIf, cCh, fAdd, fSub, fCmpI, fNeg, fIsi, isT, fI, f1, f2, fLen, fInt, fTupleOf, fIx, cCall, doCall, cCallK, runF, exitF, Ob.data, sRaise, cNewL, modSlot, gPut, sPut, isLst, sAug, sAugIx, augF.fAugAdd, fGet, gApp, cApp, b2i, cExt, gExt, seqOf, cGet, cGet1, isDt, fGetD, keyOf, cPairs, mergeD, cDisp, fFmt, cJs, fIntU, fInt, fKd, fKdIn, fIsiT, fAbs_v, fGcd_v, fEqI_v, fNeI_v, T, W, R, S, fE]
end MP
namespace MP
open PySem PySem.Spec PyProof.Rows L2 TL
/-! what is drawn -/
theorem log_ok {m : Int} (h : m.natAbs < 2 ^ 60) : m.natAbs.log2 < 9000 := by
  by_cases e : m.natAbs = 0
  · rw [e]; simp
  · exact Nat.lt_of_lt_of_le ((Nat.log2_lt (k := 60) e).mpr h) (by decide)
def retOf : Res Fl → Option (PyData × List Box)
  | .ok (.ret (.d x)) s => some (x, s.mem)
  | _ => none
theorem runF_ret {n : Nat} {m : EM Fl} {ws : List W} {mem : List Box} {x : PyData} (h : retOf (m ⟨ws.map some ++ List.replicate (n - ws.length) none, mem⟩) = some (x, mem)) : runF n m ws mem = .ok (.d x) ⟨[], mem⟩ := by
  unfold runF
  cases e : m ⟨ws.map some ++ List.replicate (n - ws.length) none, mem⟩ with
  | stuck => rw [e] at h; cases h
  | raise x s => rw [e] at h; cases h
  | ok f s =>
    rw [e] at h
    match f, h with
    | .ret (.d y), h =>
      have h : some (y, s.mem) = some (x, mem) := h
      injection h with h
      injection h with h1 h2
      subst h1
      show MP.Res.ok (W.d y) ⟨[], s.mem.take mem.length⟩ = _
      rw [h2, List.take_length]
theorem v_bounds (k : Nat) (mem : List Box) {size : Int} {c : Nat} {lo hi : Int} (h : bnd size c = some (lo, hi)) : evalF g (k + 1) "_law_bounds" [.d (.str ⟨#[c]⟩), .d (.int size)] mem = .ok (.d (.tuple [.int lo, .int hi])) ⟨[], mem⟩ := by
  rw [e_lbounds]
  refine runF_ret ?_
  unfold bnd at h
  by_cases h1 : c = 114
  · subst h1; rw [if_pos rfl] at h; cases h; kernel_rfl
  rw [if_neg h1] at h
  by_cases h2 : c = 110
  · subst h2; rw [if_pos rfl] at h; cases h; kernel_rfl
  rw [if_neg h2] at h
  by_cases h3 : c = 109
  · subst h3; rw [if_pos rfl] at h; cases h; kernel_rfl
  rw [if_neg h3] at h
  by_cases h4 : c = 119
  · subst h4; rw [if_pos rfl] at h; cases h; kernel_rfl
  rw [if_neg h4] at h
  by_cases h5 : c = 99
  · subst h5; rw [if_pos rfl] at h; cases h; kernel_rfl
  rw [if_neg h5] at h
  by_cases h6 : c = 111
  · subst h6; rw [if_pos rfl] at h; cases h; kernel_rfl
  rw [if_neg h6] at h
  by_cases h7 : c = 105
  · subst h7; rw [if_pos rfl] at h; cases h; kernel_rfl
  rw [if_neg h7] at h
  by_cases h8 : c = 106
  · subst h8; rw [if_pos rfl] at h; cases h; kernel_rfl
  rw [if_neg h8] at h
  cases h
theorem v_form (k : Nat) (mem : List Box) {w f : Str} (h : kd_FORMS.lookup w = some (.str f)) : evalF g (k + 1) "_law_form" [.d (.str w)] mem = .ok (.d (.str f)) ⟨[], mem⟩ := by
  rw [e_lform]
  refine runF_ret ?_
  have hm := forms_are h
  simp only [List.mem_cons, List.not_mem_nil, or_false, Prod.mk.injEq] at hm
  rcases hm with h | h | h | h | h | h | h | h | h | h | h | h | h | h | h | h | h | h <;> obtain ⟨rfl, rfl⟩ := h <;> kernel_rfl
def wordsL : List Str := ["set", "copy", "add", "sub", "times", "new", "put", "take", "push", "drop", "save", "load", "less", "table", "jump", "return", "call", "go"]
theorem v_words (k : Nat) (mem : List Box) : evalF g (k + 1) "_law_words" [] mem = .ok (.d (.list (wordsL.map .str))) ⟨[], mem⟩ := by
  rw [e_lwords]
  exact runF_ret (by kernel_rfl)
theorem v_between (k : Nat) {b lo hi : Int} {ns : List Int} {m : List Box} (hI : In b ns m) (hb : b < 800000) (h : lo ≤ hi) (hl : lo.natAbs ≤ 1000000000000) (hh : hi.natAbs ≤ 1000000000000) :
    ∃ r m', evalF g (k + 2) "_law_between" [.ref 0, .d (.int lo), .d (.int hi)] m = .ok (.d (.int r)) ⟨[], m'⟩ ∧ In (b + 2) ns m' ∧ lo ≤ r ∧ r ≤ hi := by
  obtain ⟨r, m1, h1, I1, p1, p2⟩ := v_draw k hI (by omega) (many := 6) (by decide) (by decide)
  rw [e_lbetween]
  by_cases c0 : r = 0
  · subst c0
    refine ⟨lo, m1, ?_, I1.mono (by omega), by omega, h⟩
    simp [m_lbetween, eb, rb, er, es, sSeq, sIf, sRet, sSet, sSetN, setS, setN, sExpr, sTup, setAll, evD, cVar, opd, resolve, cP1, cP2, cPN, cList, resolves, cTup, cLst, cFrz, cBoxN, cBoxV, cTru, truth, toB, cAnd, cOr, cNot, cAndV, cOrV, cNotV, cIf, cCh, fAdd, fSub, fCmpI, fNeg, fIsi, isT, fI, f1, f2, fLen, fInt, fTupleOf, fIx, cCall, doCall, cCallK, runF, exitF, Ob.data, sRaise, cNewL, modSlot, gPut, sPut, isLst, sAug, sAugIx, augF.fAugAdd, fGet, gApp, cApp, b2i, cExt, gExt, seqOf, cGet, cGet1, isDt, fGetD, keyOf, cPairs, mergeD, cDisp, fFmt, cJs, fIntU, fInt, fKd, fKdIn, fIsiT, fAbs_v, fGcd_v, fEqI_v, fNeI_v, h1, hI.take I1]
  by_cases c1 : r = 1
  · subst c1
    refine ⟨hi, m1, ?_, I1.mono (by omega), h, by omega⟩
    simp [m_lbetween, eb, rb, er, es, sSeq, sIf, sRet, sSet, sSetN, setS, setN, sExpr, sTup, setAll, evD, cVar, opd, resolve, cP1, cP2, cPN, cList, resolves, cTup, cLst, cFrz, cBoxN, cBoxV, cTru, truth, toB, cAnd, cOr, cNot, cAndV, cOrV, cNotV, cIf, cCh, fAdd, fSub, fCmpI, fNeg, fIsi, isT, fI, f1, f2, fLen, fInt, fTupleOf, fIx, cCall, doCall, cCallK, runF, exitF, Ob.data, sRaise, cNewL, modSlot, gPut, sPut, isLst, sAug, sAugIx, augF.fAugAdd, fGet, gApp, cApp, b2i, cExt, gExt, seqOf, cGet, cGet1, isDt, fGetD, keyOf, cPairs, mergeD, cDisp, fFmt, cJs, fIntU, fInt, fKd, fKdIn, fIsiT, fAbs_v, fGcd_v, fEqI_v, fNeI_v, h1, hI.take I1]
  by_cases c2 : r = 2
  · subst c2
    obtain ⟨q, m2, h2, I2, p3, p4⟩ := v_draw k I1 (by omega) (many := 10) (by decide) (by decide)
    refine ⟨if lo + q < hi then lo + q else hi, m2, ?_, I2.mono (by omega), by split <;> omega, by split <;> omega⟩
    simp [m_lbetween, eb, rb, er, es, sSeq, sIf, sRet, sSet, sSetN, setS, setN, sExpr, sTup, setAll, evD, cVar, opd, resolve, cP1, cP2, cPN, cList, resolves, cTup, cLst, cFrz, cBoxN, cBoxV, cTru, truth, toB, cAnd, cOr, cNot, cAndV, cOrV, cNotV, cIf, cCh, fAdd, fSub, fCmpI, fNeg, fIsi, isT, fI, f1, f2, fLen, fInt, fTupleOf, fIx, cCall, doCall, cCallK, runF, exitF, Ob.data, sRaise, cNewL, modSlot, gPut, sPut, isLst, sAug, sAugIx, augF.fAugAdd, fGet, gApp, cApp, b2i, cExt, gExt, seqOf, cGet, cGet1, isDt, fGetD, keyOf, cPairs, mergeD, cDisp, fFmt, cJs, fIntU, fInt, fKd, fKdIn, fIsiT, fAbs_v, fGcd_v, fEqI_v, fNeI_v, fMin, h1, h2, hI.take I2]
  by_cases c3 : r = 3
  · subst c3
    obtain ⟨q, m2, h2, I2, p3, p4⟩ := v_draw k I1 (by omega) (many := 9) (by decide) (by decide)
    refine ⟨if lo < (if q - 4 < hi then q - 4 else hi) then (if q - 4 < hi then q - 4 else hi) else lo, m2, ?_, I2.mono (by omega), by split <;> omega, by split <;> (try split) <;> omega⟩
    simp [m_lbetween, eb, rb, er, es, sSeq, sIf, sRet, sSet, sSetN, setS, setN, sExpr, sTup, setAll, evD, cVar, opd, resolve, cP1, cP2, cPN, cList, resolves, cTup, cLst, cFrz, cBoxN, cBoxV, cTru, truth, toB, cAnd, cOr, cNot, cAndV, cOrV, cNotV, cIf, cCh, fAdd, fSub, fCmpI, fNeg, fIsi, isT, fI, f1, f2, fLen, fInt, fTupleOf, fIx, cCall, doCall, cCallK, runF, exitF, Ob.data, sRaise, cNewL, modSlot, gPut, sPut, isLst, sAug, sAugIx, augF.fAugAdd, fGet, gApp, cApp, b2i, cExt, gExt, seqOf, cGet, cGet1, isDt, fGetD, keyOf, cPairs, mergeD, cDisp, fFmt, cJs, fIntU, fInt, fKd, fKdIn, fIsiT, fAbs_v, fGcd_v, fEqI_v, fNeI_v, fMin, fMax, h1, h2, hI.take I2]
  · obtain ⟨q, m2, h2, I2, p3, p4⟩ := v_draw k I1 (by omega) (many := hi - lo + 1) (by omega) (log_ok (by omega))
    refine ⟨lo + q, m2, ?_, I2.mono (by omega), by omega, by omega⟩
    simp [m_lbetween, eb, rb, er, es, sSeq, sIf, sRet, sSet, sSetN, setS, setN, sExpr, sTup, setAll, evD, cVar, opd, resolve, cP1, cP2, cPN, cList, resolves, cTup, cLst, cFrz, cBoxN, cBoxV, cTru, truth, toB, cAnd, cOr, cNot, cAndV, cOrV, cNotV, cIf, cCh, fAdd, fSub, fCmpI, fNeg, fIsi, isT, fI, f1, f2, fLen, fInt, fTupleOf, fIx, cCall, doCall, cCallK, runF, exitF, Ob.data, sRaise, cNewL, modSlot, gPut, sPut, isLst, sAug, sAugIx, augF.fAugAdd, fGet, gApp, cApp, b2i, cExt, gExt, seqOf, cGet, cGet1, isDt, fGetD, keyOf, cPairs, mergeD, cDisp, fFmt, cJs, fIntU, fInt, fKd, fKdIn, fIsiT, fAbs_v, fGcd_v, fEqI_v, fNeI_v, h1, h2, c0, c1, c2, c3, hI.take I2]
end MP
namespace MP
open PySem PySem.Spec PyProof.Rows L2 TL
theorem In.two {b : Int} {ns : List Int} {m m' : List Box} (h : In b ns m) (h' : ∃ y, m' = [y]) : List.take m.length m' = m' := by
  obtain ⟨y, rfl⟩ := h.one
  obtain ⟨z, rfl⟩ := h'
  rfl
/-- a letter of a form that may be drawn -/
def Let (size : Int) (nm : List Str) (c : Nat) : Prop := (c = 102 ∧ nm ≠ []) ∨ c = 116 ∨ ∃ lo hi, bnd size c = some (lo, hi) ∧ lo ≤ hi
theorem bnd_abs {size : Int} {c : Nat} {lo hi : Int} (hs : size ≤ 1000) (h0 : 0 ≤ size) (h : bnd size c = some (lo, hi)) : lo.natAbs ≤ 1000000000000 ∧ hi.natAbs ≤ 1000000000000 := by
  unfold bnd at h
  repeat' split at h
  all_goals first | (cases h; omega) | cases h
theorem v_part (k : Nat) {b size : Int} {ns : List Int} {m : List Box} {nm : List Str} {c : Nat} (hI : In b ns m) (hb : b < 700000) (h1 : 1 ≤ size) (h2 : size ≤ 1000) (hn : nm.length ≤ 12) (hc : Let size nm c) :
    ∃ d m', evalF g (k + 3) "_law_part" [.ref 0, .d (.str ⟨#[c]⟩), .d (.int size), .d (.list (nm.map .str))] m = .ok (.d d) ⟨[], m'⟩ ∧ In (b + 10) ns m' ∧ PartOk size nm c d := by
  have fE := fEqS_v
  rcases hc with ⟨rfl, hne⟩ | rfl | ⟨lo, hi, hbd, hlh⟩
  · have hp : 0 < nm.length := by
      cases nm with
      | nil => exact absurd rfl hne
      | cons _ _ => rw [List.length_cons]; omega
    obtain ⟨r, m1, d1, I1, p1, p2⟩ := v_draw (k + 1) hI (by omega) (many := (nm.length : Int)) (by omega) (log_ok (by omega))
    have hr : r.toNat < nm.length := by omega
    obtain ⟨s, hs⟩ : ∃ s, nm[r.toNat]? = some s := ⟨_, List.getElem?_eq_getElem hr⟩
    have a : atI (nm.map PyData.str) r = some (.str s) := by
      rw [atI_nat' p1, List.getElem?_map, hs]; rfl
    refine ⟨.str s, m1, ?_, I1.mono (by omega), .f (List.mem_of_getElem? hs)⟩
    rw [e_lpart]
    simp [m_lpart, eb, rb, er, es, sSeq, sIf, sRet, sSet, sSetN, setS, setN, sExpr, sTup, setAll, evD, cVar, opd, resolve, cP1, cP2, cPN, cList, resolves, cTup, cLst, cFrz, cBoxN, cBoxV, cTru, truth, toB, cAnd, cOr, cNot, cAndV, cOrV, cNotV, cIf, cCh, fAdd, fSub, fCmpI, fNeg, fIsi, isT, fI, f1, f2, fLen, fInt, fTupleOf, fIx, cCall, doCall, cCallK, runF, exitF, Ob.data, sRaise, cNewL, modSlot, gPut, sPut, isLst, sAug, sAugIx, augF.fAugAdd, fGet, gApp, cApp, b2i, cExt, gExt, seqOf, cGet, cGet1, isDt, fGetD, keyOf, cPairs, mergeD, cDisp, fFmt, cJs, fIntU, fInt, fKd, fKdIn, fIsiT, fAbs_v, fGcd_v, fEqI_v, fNeI_v, fE, is_f, d1, a, hI.take I1]
  · rw [e_lpart]
    obtain ⟨r, m1, d1, I1, p1, p2⟩ := v_draw (k + 1) hI (by omega) (many := 8) (by decide) (by decide)
    have n2 : rg1 (1 + r) = er (rangeD 0 (1 + r).toNat) := rg1_v (by omega) (by omega)
    simp only [m_lpart]
    generalize hlc : cLc _ _ _ _ _ = lc
    have L : ∃ (xs : List Int) (m' : List Box), lc ⟨[some (.ref 0), some (.d (.str ⟨#[116]⟩)), some (.d (.int size)), some (.d (.list (nm.map .str))), none, none, none], m⟩ = .ok (.lst (xs.map .int)) ⟨[some (.ref 0), some (.d (.str ⟨#[116]⟩)), some (.d (.int size)), some (.d (.list (nm.map .str))), none, none, none], m'⟩ ∧ In (b + 10) ns m' ∧ xs.length = (1 + r).toNat ∧ ∀ x ∈ xs, 0 ≤ x ∧ x < size := by
      have z := lcL_inv (own := [6]) (t := tgName 6) (e := cCall (evalF g (k + 2)) "_law_draw" [cBoxV 0, cVar 2]) (fun j acc s => ∃ (xs : List Int) (m' : List Box), acc = xs.map .int ∧ xs.length = j ∧ s = ⟨[some (.ref 0), some (.d (.str ⟨#[116]⟩)), some (.d (.int size)), some (.d (.list (nm.map .str))), none, none, none], m'⟩ ∧ In (b + 1 + j) ns m' ∧ ∀ x ∈ xs, 0 ≤ x ∧ x < size) (rangeD 0 (1 + r).toNat) 0 [] ⟨[some (.ref 0), some (.d (.str ⟨#[116]⟩)), some (.d (.int size)), some (.d (.list (nm.map .str))), none, none, none], m1⟩ ⟨[], m1, rfl, rfl, rfl, I1.mono (by omega), fun x hx => by simp at hx⟩ (by rw [range_len, List.length_nil]; omega) fun j x acc s hx hP => ?_
      · obtain ⟨acc', s', e1, xs, m', rfl, lx, rfl, I, hx⟩ := z
        rw [Nat.zero_add, range_len] at lx
        rw [range_len] at I
        refine ⟨xs, m', ?_, I.mono (by omega), lx, hx⟩
        rw [← hlc]
        exact cLc_eq (s1 := ⟨[some (.ref 0), some (.d (.str ⟨#[116]⟩)), some (.d (.int size)), some (.d (.list (nm.map .str))), none, none, none], m1⟩) (s2 := ⟨[some (.ref 0), some (.d (.str ⟨#[116]⟩)), some (.d (.int size)), some (.d (.list (nm.map .str))), none, none, none], m'⟩) (by simp [srcR1, eb, rb, er, es, sSeq, sIf, sRet, sSet, sSetN, setS, setN, sExpr, sTup, setAll, evD, cVar, opd, resolve, cP1, cP2, cPN, cList, resolves, cTup, cLst, cFrz, cBoxN, cBoxV, cTru, truth, toB, cAnd, cOr, cNot, cAndV, cOrV, cNotV, cIf, cCh, fAdd, fSub, fCmpI, fNeg, fIsi, isT, fI, f1, f2, fLen, fInt, fTupleOf, fIx, cCall, doCall, cCallK, runF, exitF, Ob.data, sRaise, cNewL, modSlot, gPut, sPut, isLst, sAug, sAugIx, augF.fAugAdd, fGet, gApp, cApp, b2i, cExt, gExt, seqOf, cGet, cGet1, isDt, fGetD, keyOf, cPairs, mergeD, cDisp, fFmt, cJs, fIntU, fInt, fKd, fKdIn, fIsiT, fAbs_v, fGcd_v, fEqI_v, fNeI_v, d1, n2]) e1
      · obtain ⟨xs, m', rfl, lx, rfl, I, hxs⟩ := hP
        obtain ⟨hj, rfl⟩ := range_at hx
        obtain ⟨q, m2, d2, I2, q1, q2⟩ := v_draw (k + 1) I (by omega) (many := size) (by omega) (log_ok (by omega))
        refine ⟨⟨[some (.ref 0), some (.d (.str ⟨#[116]⟩)), some (.d (.int size)), some (.d (.list (nm.map .str))), none, none, some (.d (.int j))], m'⟩, .int q, ⟨[some (.ref 0), some (.d (.str ⟨#[116]⟩)), some (.d (.int size)), some (.d (.list (nm.map .str))), none, none, some (.d (.int j))], m2⟩, rfl, ?_, xs ++ [q], m2, by rw [List.map_append]; rfl, by rw [List.length_append, lx]; rfl, rfl, I2.mono (by omega), fun x hx => ?_⟩
        · simp [eb, rb, er, es, sSeq, sIf, sRet, sSet, sSetN, setS, setN, sExpr, sTup, setAll, evD, cVar, opd, resolve, cP1, cP2, cPN, cList, resolves, cTup, cLst, cFrz, cBoxN, cBoxV, cTru, truth, toB, cAnd, cOr, cNot, cAndV, cOrV, cNotV, cIf, cCh, fAdd, fSub, fCmpI, fNeg, fIsi, isT, fI, f1, f2, fLen, fInt, fTupleOf, fIx, cCall, doCall, cCallK, runF, exitF, Ob.data, sRaise, cNewL, modSlot, gPut, sPut, isLst, sAug, sAugIx, augF.fAugAdd, fGet, gApp, cApp, b2i, cExt, gExt, seqOf, cGet, cGet1, isDt, fGetD, keyOf, cPairs, mergeD, cDisp, fFmt, cJs, fIntU, fInt, fKd, fKdIn, fIsiT, fAbs_v, fGcd_v, fEqI_v, fNeI_v, d2]
        · rcases List.mem_append.mp hx with hx | hx
          · exact hxs x hx
          · rw [List.mem_singleton.mp hx]; exact ⟨q1, q2⟩
    obtain ⟨xs, m', eL, I, lx, hx⟩ := L
    refine ⟨.tuple (xs.map .int), m', ?_, I, .t (by omega) (by omega) hx⟩
    have hT := hI.take I
    generalize xs.map PyData.int = xd at *
    simp [eb, rb, er, es, sSeq, sIf, sRet, sSet, sSetN, setS, setN, sExpr, sTup, setAll, evD, cVar, opd, resolve, cP1, cP2, cPN, cList, resolves, cTup, cLst, cFrz, cBoxN, cBoxV, cTru, truth, toB, cAnd, cOr, cNot, cAndV, cOrV, cNotV, cIf, cCh, fAdd, fSub, fCmpI, fNeg, fIsi, isT, fI, f1, f2, fLen, fInt, fTupleOf, fIx, cCall, doCall, cCallK, runF, exitF, Ob.data, sRaise, cNewL, modSlot, gPut, sPut, isLst, sAug, sAugIx, augF.fAugAdd, fGet, gApp, cApp, b2i, cExt, gExt, seqOf, cGet, cGet1, isDt, fGetD, keyOf, cPairs, mergeD, cDisp, fFmt, cJs, fIntU, fInt, fKd, fKdIn, fIsiT, fAbs_v, fGcd_v, fEqI_v, fNeI_v, fE, is_f, is_t, eL, hT]
  · obtain ⟨a1, a2⟩ := bnd_abs h2 (by omega) hbd
    obtain ⟨r, m1, d1, I1, p1, p2⟩ := v_between k hI (by omega) hlh a1 a2
    have n1 : c ≠ 102 := fun z => by subst z; exact not_n (.inl rfl) hbd
    have n3 : c ≠ 116 := fun z => by subst z; exact not_n (.inr rfl) hbd
    have B := v_bounds (k + 1) m hbd
    refine ⟨.int r, m1, ?_, I1.mono (by omega), .n hbd p1 p2⟩
    rw [e_lpart]
    simp [m_lpart, eb, rb, er, es, sSeq, sIf, sRet, sSet, sSetN, setS, setN, sExpr, sTup, setAll, evD, cVar, opd, resolve, cP1, cP2, cPN, cList, resolves, cTup, cLst, cFrz, cBoxN, cBoxV, cTru, truth, toB, cAnd, cOr, cNot, cAndV, cOrV, cNotV, cIf, cCh, fAdd, fSub, fCmpI, fNeg, fIsi, isT, fI, f1, f2, fLen, fInt, fTupleOf, fIx, cCall, doCall, cCallK, runF, exitF, Ob.data, sRaise, cNewL, modSlot, gPut, sPut, isLst, sAug, sAugIx, augF.fAugAdd, fGet, gApp, cApp, b2i, cExt, gExt, seqOf, cGet, cGet1, isDt, fGetD, keyOf, cPairs, mergeD, cDisp, fFmt, cJs, fIntU, fInt, fKd, fKdIn, fIsiT, fAbs_v, fGcd_v, fEqI_v, fNeI_v, fE, is_f, is_t, n1, n3, B, d1, hI.take I1]
end MP
namespace MP
open PySem PySem.Spec PyProof.Rows L2 TL
def lets : List Nat := [114, 110, 109, 119, 99, 111, 105, 106, 116]
theorem let_of {size : Int} {nm : List Str} {c : Nat} (h : c ∈ lets) (h1 : 1 ≤ size) : Let size nm c := by
  unfold lets at h
  simp only [List.mem_cons, List.not_mem_nil, or_false] at h
  rcases h with rfl | rfl | rfl | rfl | rfl | rfl | rfl | rfl | rfl
  · exact .inr (.inr ⟨_, _, rfl, by decide⟩)
  · exact .inr (.inr ⟨_, _, rfl, by decide⟩)
  · exact .inr (.inr ⟨_, _, rfl, by decide⟩)
  · exact .inr (.inr ⟨_, _, rfl, by decide⟩)
  · exact .inr (.inr ⟨_, _, rfl, by decide⟩)
  · exact .inr (.inr ⟨_, _, rfl, by decide⟩)
  · exact .inr (.inr ⟨_, _, rfl, by decide⟩)
  · exact .inr (.inr ⟨0, size - 1, rfl, by omega⟩)
  · exact .inr (.inl rfl)
theorem words_all : ∀ w ∈ wordsL, ∃ f : Str, kd_FORMS.lookup w = some (.str f) ∧ ∀ c ∈ tl f, c ∈ lets ∨ c = 102 := by
  have all : ∀ w ∈ wordsL, (match kd_FORMS.lookup w with | some (.str f) => (tl f).all fun c => lets.contains c || c == 102 | _ => false) = true := by decide +kernel
  intro w hw
  have := all w hw
  split at this
  · rename_i f hf
    refine ⟨f, hf, fun c hc => ?_⟩
    have := List.all_eq_true.mp this c hc
    simp only [Bool.or_eq_true, List.contains_iff_mem, beq_iff_eq] at this
    exact this
  · cases this
theorem words_16 : ∀ w ∈ wordsL.take 16, ∃ f : Str, kd_FORMS.lookup w = some (.str f) ∧ ∀ c ∈ tl f, c ∈ lets := by
  have all : ∀ w ∈ wordsL.take 16, (match kd_FORMS.lookup w with | some (.str f) => (tl f).all fun c => lets.contains c | _ => false) = true := by decide +kernel
  intro w hw
  have := all w hw
  split at this
  · rename_i f hf
    refine ⟨f, hf, fun c hc => ?_⟩
    have := List.all_eq_true.mp this c hc
    simp only [List.contains_iff_mem] at this
    exact this
  · cases this
/-- the words that may be drawn -/
def Wl (size : Int) (nm : List Str) (Lw : List Str) : Prop := 1 ≤ Lw.length ∧ Lw.length ≤ 18 ∧ ∀ w ∈ Lw, ∃ f : Str, kd_FORMS.lookup w = some (.str f) ∧ ∀ c ∈ tl f, Let size nm c
theorem wl_of {size : Int} {nm : List Str} (h1 : 1 ≤ size) : Wl size nm (if nm = [] then wordsL.take 16 else wordsL) := by
  by_cases h : nm = []
  · rw [if_pos h]
    refine ⟨by decide, by decide, fun w hw => ?_⟩
    obtain ⟨f, hf, hc⟩ := words_16 w hw
    exact ⟨f, hf, fun c hm => let_of (hc c hm) h1⟩
  · rw [if_neg h]
    refine ⟨by decide, by decide, fun w hw => ?_⟩
    obtain ⟨f, hf, hc⟩ := words_all w hw
    exact ⟨f, hf, fun c hm => by
      rcases hc c hm with z | z
      · exact let_of z h1
      · exact .inl ⟨z, h⟩⟩
theorem paired_snoc {α β : Type} {R : α → β → Prop} {a : α} {b : β} : ∀ {as : List α} {bs : List β}, Paired R as bs → R a b → Paired R (as ++ [a]) (bs ++ [b])
  | _, _, .nil, h => .cons h .nil
  | _, _, .cons x t, h => .cons x (paired_snoc t h)
theorem v_image (k : Nat) {b : Int} {size : Nat} {ns : List Int} {m : List Box} {nm : List Str} (hI : In b ns m) (hb : b < 400000) (hn : Names nm) (hd : nm.Nodup) (hl : nm.length ≤ 12) (hs : size ≤ 100) (h0 : size = 0 → nm = []) :
    ∃ sts code m', evalF g (k + 4) "_law_image" [.ref 0, .d (.int (size : Int)), .d (.list (nm.map .str))] m = .ok (.d (imgD sts code)) ⟨[], m'⟩ ∧ In (b + 5000) ns m' ∧ Img sts code ∧ code.length = size := by
  have Ww := v_words (k + 2) m
  have E0 := fEq_nilS hn
  rw [e_limage]
  simp only [m_limage]
  generalize hl7 : cLc [7] _ _ _ _ = lc7
  generalize hl8 : cLc [8] _ _ _ _ = lc8
  generalize hbd : (sSeq (sSet 6 _) _) = body
  -- the words
  obtain ⟨Lw, hLw⟩ : ∃ Lw, Lw = (if nm = [] then wordsL.take 16 else wordsL) := ⟨_, rfl⟩
  -- the loop
  have L : ∃ s', forL (tgName 5) body (rangeD 0 size) ⟨[some (.ref 0), some (.d (.int (size : Int))), some (.d (.list (nm.map .str))), some (.d (.list (Lw.map .str))), some (.own (.lst [])), none, none, none, none], m⟩ = .ok .next s' ∧ ∃ (code : List (Str × List PyData)) (m' : List Box) (o5 o6 : Option W), s' = ⟨[some (.ref 0), some (.d (.int (size : Int))), some (.d (.list (nm.map .str))), some (.d (.list (Lw.map .str))), some (.own (.lst (code.map coD))), o5, o6, none, none], m'⟩ ∧ code.length = size ∧ In (b + 40 * size) ns m' ∧ ∀ c ∈ code, Ins size nm c.1 c.2 := by
    have z := forL_inv (t := tgName 5) (body := body) (fun j s' => ∃ (code : List (Str × List PyData)) (m' : List Box) (o5 o6 : Option W), s' = ⟨[some (.ref 0), some (.d (.int (size : Int))), some (.d (.list (nm.map .str))), some (.d (.list (Lw.map .str))), some (.own (.lst (code.map coD))), o5, o6, none, none], m'⟩ ∧ code.length = j ∧ In (b + 40 * j) ns m' ∧ ∀ c ∈ code, Ins size nm c.1 c.2) (rangeD 0 size) 0 _ ⟨[], m, none, none, rfl, rfl, hI.mono (by omega), fun c hc => by simp at hc⟩ fun j x s hx hP => ?_
    · obtain ⟨s', e1, code, m', o5, o6, e2, e3, e4, e5⟩ := z
      rw [Nat.zero_add, range_len] at e3
      rw [Nat.zero_add, range_len] at e4
      exact ⟨s', e1, code, m', o5, o6, e2, e3, e4, e5⟩
    · obtain ⟨code, m0, o5, o6, rfl, hlen, I0, hins⟩ := hP
      rw [Nat.zero_add] at hlen I0
      rw [Nat.zero_add]
      obtain ⟨hj, rfl⟩ := range_at hx
      have hs1 : (1 : Int) ≤ size := by omega
      have WL := wl_of (nm := nm) hs1
      rw [← hLw] at WL
      obtain ⟨l1, l2, wl⟩ := WL
      obtain ⟨r, m1, d1, I1, p1, p2⟩ := v_draw (k + 2) I0 (by omega) (many := (Lw.length : Int)) (by omega) (log_ok (by omega))
      have hr : r.toNat < Lw.length := by omega
      obtain ⟨w, hw⟩ : ∃ w, Lw[r.toNat]? = some w := ⟨_, List.getElem?_eq_getElem hr⟩
      have a : atI (Lw.map PyData.str) r = some (.str w) := by
        rw [atI_nat' p1, List.getElem?_map, hw]; rfl
      obtain ⟨f, hf, hlt⟩ := wl w (List.mem_of_getElem? hw)
      have hok := forms_ok hf
      unfold okF at hok
      simp only [Bool.and_eq_true, decide_eq_true_eq] at hok
      have lf : (tl f).length ≤ 3 := by rw [← len_tl]; exact hok.1.1.1.1.2
      have F := v_form (k + 2) m1 hf
      have C : ∃ (ps : List PyData) (m' : List Box), lc8 ⟨[some (.ref 0), some (.d (.int (size : Int))), some (.d (.list (nm.map .str))), some (.d (.list (Lw.map .str))), some (.own (.lst (code.map coD))), some (.d (.int j)), some (.d (.str w)), none, none], m1⟩ = .ok (.lst ps) ⟨[some (.ref 0), some (.d (.int (size : Int))), some (.d (.list (nm.map .str))), some (.d (.list (Lw.map .str))), some (.own (.lst (code.map coD))), some (.d (.int j)), some (.d (.str w)), none, none], m'⟩ ∧ In (b + 40 * j + 31) ns m' ∧ Paired (PartOk size nm) (tl f) ps := by
        have z := lcL_inv (own := [8]) (t := tgName 8) (e := cCall (evalF g (k + 3)) "_law_part" [cBoxV 0, cVar 8, cVar 1, cVar 2]) (fun i acc s => ∃ (m' : List Box), s = ⟨[some (.ref 0), some (.d (.int (size : Int))), some (.d (.list (nm.map .str))), some (.d (.list (Lw.map .str))), some (.own (.lst (code.map coD))), some (.d (.int j)), some (.d (.str w)), none, none], m'⟩ ∧ In (b + 40 * j + 1 + 10 * i) ns m' ∧ Paired (PartOk size nm) ((tl f).take i) acc) (signs f) 0 [] ⟨[some (.ref 0), some (.d (.int (size : Int))), some (.d (.list (nm.map .str))), some (.d (.list (Lw.map .str))), some (.own (.lst (code.map coD))), some (.d (.int j)), some (.d (.str w)), none, none], m1⟩ ⟨m1, rfl, I1.mono (by omega), .nil⟩ (by rw [signs_eq, List.length_map, List.length_nil]; omega) fun i x acc s hx hP => ?_
        · obtain ⟨acc', s', e1, m', rfl, I, hp⟩ := z
          have ls : (signs f).length = (tl f).length := by rw [signs_eq, List.length_map]
          rw [Nat.zero_add, ls, List.take_length] at hp
          rw [Nat.zero_add, ls] at I
          refine ⟨acc', m', ?_, I.mono (by omega), hp⟩
          rw [← hl8]
          exact cLc_eq (s1 := ⟨[some (.ref 0), some (.d (.int (size : Int))), some (.d (.list (nm.map .str))), some (.d (.list (Lw.map .str))), some (.own (.lst (code.map coD))), some (.d (.int j)), some (.d (.str w)), none, none], m1⟩) (s2 := ⟨[some (.ref 0), some (.d (.int (size : Int))), some (.d (.list (nm.map .str))), some (.d (.list (Lw.map .str))), some (.own (.lst (code.map coD))), some (.d (.int j)), some (.d (.str w)), none, none], m'⟩) (by simp [srcAny, eb, rb, er, es, sSeq, sIf, sRet, sSet, sSetN, setS, setN, sExpr, sTup, setAll, evD, cVar, opd, resolve, cP1, cP2, cPN, cList, resolves, cTup, cLst, cFrz, cBoxN, cBoxV, cTru, truth, toB, cAnd, cOr, cNot, cAndV, cOrV, cNotV, cIf, cCh, fAdd, fSub, fCmpI, fNeg, fIsi, isT, fI, f1, f2, fLen, fInt, fTupleOf, fIx, cCall, doCall, cCallK, runF, exitF, Ob.data, sRaise, cNewL, modSlot, gPut, sPut, isLst, sAug, sAugIx, augF.fAugAdd, fGet, gApp, cApp, b2i, cExt, gExt, seqOf, cGet, cGet1, isDt, fGetD, keyOf, cPairs, mergeD, cDisp, fFmt, cJs, fIntU, fInt, fKd, fKdIn, fIsiT, fAbs_v, fGcd_v, fEqI_v, fNeI_v, F]) e1
        · obtain ⟨m', rfl, I, hp⟩ := hP
          rw [Nat.zero_add] at I hp
          rw [Nat.zero_add]
          rw [signs_eq, List.getElem?_map, Option.map_eq_some_iff] at hx
          obtain ⟨c, hc, rfl⟩ := hx
          have hil : i < (tl f).length := (List.getElem?_eq_some_iff.mp hc).1
          obtain ⟨d, m2, d2, I2, po⟩ := v_part k I (by omega) hs1 (by omega) hl (hlt c (List.mem_of_getElem? hc))
          refine ⟨⟨[some (.ref 0), some (.d (.int (size : Int))), some (.d (.list (nm.map .str))), some (.d (.list (Lw.map .str))), some (.own (.lst (code.map coD))), some (.d (.int j)), some (.d (.str w)), none, some (.d (.str ⟨#[c]⟩))], m'⟩, d, ⟨[some (.ref 0), some (.d (.int (size : Int))), some (.d (.list (nm.map .str))), some (.d (.list (Lw.map .str))), some (.own (.lst (code.map coD))), some (.d (.int j)), some (.d (.str w)), none, some (.d (.str ⟨#[c]⟩))], m2⟩, rfl, ?_, m2, rfl, I2.mono (by omega), by rw [take_next hc]; exact paired_snoc hp po⟩
          simp [eb, rb, er, es, sSeq, sIf, sRet, sSet, sSetN, setS, setN, sExpr, sTup, setAll, evD, cVar, opd, resolve, cP1, cP2, cPN, cList, resolves, cTup, cLst, cFrz, cBoxN, cBoxV, cTru, truth, toB, cAnd, cOr, cNot, cAndV, cOrV, cNotV, cIf, cCh, fAdd, fSub, fCmpI, fNeg, fIsi, isT, fI, f1, f2, fLen, fInt, fTupleOf, fIx, cCall, doCall, cCallK, runF, exitF, Ob.data, sRaise, cNewL, modSlot, gPut, sPut, isLst, sAug, sAugIx, augF.fAugAdd, fGet, gApp, cApp, b2i, cExt, gExt, seqOf, cGet, cGet1, isDt, fGetD, keyOf, cPairs, mergeD, cDisp, fFmt, cJs, fIntU, fInt, fKd, fKdIn, fIsiT, fAbs_v, fGcd_v, fEqI_v, fNeI_v, d2]
      obtain ⟨ps, m2, eC, I2, hp⟩ := C
      have lp : ps.length ≤ 3 := by rw [← Paired.length hp]; exact lf
      refine ⟨_, ⟨[some (.ref 0), some (.d (.int (size : Int))), some (.d (.list (nm.map .str))), some (.d (.list (Lw.map .str))), some (.own (.lst ((code ++ [(w, ps)]).map coD))), some (.d (.int j)), some (.d (.str w)), none, none], m2⟩, rfl, ?_, code ++ [(w, ps)], m2, _, _, rfl, by rw [List.length_append, hlen]; rfl, I2.mono (by omega), fun c hc => ?_⟩
      · have lc : (code.map coD).length < 1000000 := by rw [List.length_map]; omega
        have la : 1 + ps.length ≤ 1000000 := by omega
        rw [← hbd, List.map_append]
        have e1 : [(w, ps)].map coD = [.tuple (.str w :: ps)] := rfl
        have ll : (Lw.map PyData.str).length = Lw.length := List.length_map ..
        rw [e1]
        generalize code.map coD = cd at *
        generalize nm.map PyData.str = nd at *
        generalize hLd : Lw.map PyData.str = Ld at *
        simp [eb, rb, er, es, sSeq, sIf, sRet, sSet, sSetN, setS, setN, sExpr, sTup, setAll, evD, cVar, opd, resolve, cP1, cP2, cPN, cList, resolves, cTup, cLst, cFrz, cBoxN, cBoxV, cTru, truth, toB, cAnd, cOr, cNot, cAndV, cOrV, cNotV, cIf, cCh, fAdd, fSub, fCmpI, fNeg, fIsi, isT, fI, f1, f2, fLen, fInt, fTupleOf, fIx, cCall, doCall, cCallK, runF, exitF, Ob.data, sRaise, cNewL, modSlot, gPut, sPut, isLst, sAug, sAugIx, augF.fAugAdd, fGet, gApp, cApp, b2i, cExt, gExt, seqOf, cGet, cGet1, isDt, fGetD, keyOf, cPairs, mergeD, cDisp, fFmt, cJs, fIntU, fInt, fKd, fKdIn, fIsiT, fAbs_v, fGcd_v, fEqI_v, fNeI_v, ll, d1, a, eC, lc, la]
      · rcases List.mem_append.mp hc with hc | hc
        · exact hins c hc
        · rw [List.mem_singleton.mp hc]
          exact ⟨f, hf, hp⟩
  obtain ⟨s', eL, code, m1, o5, o6, rfl, hlen, I1, hins⟩ := L
  -- the starts
  have S : ∃ (sts : List (Str × Int)) (m' : List Box), lc7 ⟨[some (.ref 0), some (.d (.int (size : Int))), some (.d (.list (nm.map .str))), some (.d (.list (Lw.map .str))), some (.own (.lst (code.map coD))), o5, o6, none, none], m1⟩ = .ok (.lst (sts.map stD)) ⟨[some (.ref 0), some (.d (.int (size : Int))), some (.d (.list (nm.map .str))), some (.d (.list (Lw.map .str))), some (.own (.lst (code.map coD))), o5, o6, none, none], m'⟩ ∧ In (b + 5000) ns m' ∧ sts.map (·.1) = nm ∧ ∀ p ∈ sts, 0 ≤ p.2 ∧ p.2 < (size : Int) := by
    have z := lcL_inv (own := [7]) (t := tgName 7) (e := cTup [cVar 7, cCall (evalF g (k + 3)) "_law_draw" [cBoxV 0, cVar 1]]) (fun i acc s => ∃ (sts : List (Str × Int)) (m' : List Box), acc = sts.map stD ∧ s = ⟨[some (.ref 0), some (.d (.int (size : Int))), some (.d (.list (nm.map .str))), some (.d (.list (Lw.map .str))), some (.own (.lst (code.map coD))), o5, o6, none, none], m'⟩ ∧ In (b + 40 * size + i) ns m' ∧ sts.map (·.1) = nm.take i ∧ ∀ p ∈ sts, 0 ≤ p.2 ∧ p.2 < (size : Int)) (nm.map .str) 0 [] ⟨[some (.ref 0), some (.d (.int (size : Int))), some (.d (.list (nm.map .str))), some (.d (.list (Lw.map .str))), some (.own (.lst (code.map coD))), o5, o6, none, none], m1⟩ ⟨[], m1, rfl, rfl, I1.mono (by omega), rfl, fun p hp => by simp at hp⟩ (by rw [List.length_map, List.length_nil]; omega) fun i x acc s hx hP => ?_
    · obtain ⟨acc', s', e1, sts, m', rfl, rfl, I, hp, ha⟩ := z
      rw [Nat.zero_add, List.length_map, List.take_length] at hp
      rw [Nat.zero_add, List.length_map] at I
      refine ⟨sts, m', ?_, I.mono (by omega), hp, ha⟩
      rw [← hl7]
      exact cLc_eq (s1 := ⟨[some (.ref 0), some (.d (.int (size : Int))), some (.d (.list (nm.map .str))), some (.d (.list (Lw.map .str))), some (.own (.lst (code.map coD))), o5, o6, none, none], m1⟩) (s2 := ⟨[some (.ref 0), some (.d (.int (size : Int))), some (.d (.list (nm.map .str))), some (.d (.list (Lw.map .str))), some (.own (.lst (code.map coD))), o5, o6, none, none], m'⟩) (by simp [srcAny, eb, rb, er, es, sSeq, sIf, sRet, sSet, sSetN, setS, setN, sExpr, sTup, setAll, evD, cVar, opd, resolve, cP1, cP2, cPN, cList, resolves, cTup, cLst, cFrz, cBoxN, cBoxV, cTru, truth, toB, cAnd, cOr, cNot, cAndV, cOrV, cNotV, cIf, cCh, fAdd, fSub, fCmpI, fNeg, fIsi, isT, fI, f1, f2, fLen, fInt, fTupleOf, fIx, cCall, doCall, cCallK, runF, exitF, Ob.data, sRaise, cNewL, modSlot, gPut, sPut, isLst, sAug, sAugIx, augF.fAugAdd, fGet, gApp, cApp, b2i, cExt, gExt, seqOf, cGet, cGet1, isDt, fGetD, keyOf, cPairs, mergeD, cDisp, fFmt, cJs, fIntU, fInt, fKd, fKdIn, fIsiT, fAbs_v, fGcd_v, fEqI_v, fNeI_v]) e1
    · obtain ⟨sts, m', rfl, rfl, I, hp, ha⟩ := hP
      rw [Nat.zero_add] at I hp
      rw [Nat.zero_add]
      rw [List.getElem?_map, Option.map_eq_some_iff] at hx
      obtain ⟨n, hn1, rfl⟩ := hx
      have hil : i < nm.length := (List.getElem?_eq_some_iff.mp hn1).1
      have hs1 : (1 : Int) ≤ size := by
        by_cases hz : size = 0
        · rw [h0 hz] at hil; simp at hil
        · omega
      obtain ⟨q, m2, d2, I2, q1, q2⟩ := v_draw (k + 2) I (by omega) (many := (size : Int)) (by omega) (log_ok (by omega))
      refine ⟨⟨[some (.ref 0), some (.d (.int (size : Int))), some (.d (.list (nm.map .str))), some (.d (.list (Lw.map .str))), some (.own (.lst (code.map coD))), o5, o6, some (.d (.str n)), none], m'⟩, stD (n, q), ⟨[some (.ref 0), some (.d (.int (size : Int))), some (.d (.list (nm.map .str))), some (.d (.list (Lw.map .str))), some (.own (.lst (code.map coD))), o5, o6, some (.d (.str n)), none], m2⟩, rfl, ?_, sts ++ [(n, q)], m2, by rw [List.map_append]; rfl, rfl, I2.mono (by omega), by rw [List.map_append, hp, take_next hn1]; rfl, fun p hp => ?_⟩
      · simp [eb, rb, er, es, sSeq, sIf, sRet, sSet, sSetN, setS, setN, sExpr, sTup, setAll, evD, cVar, opd, resolve, cP1, cP2, cPN, cList, resolves, cTup, cLst, cFrz, cBoxN, cBoxV, cTru, truth, toB, cAnd, cOr, cNot, cAndV, cOrV, cNotV, cIf, cCh, fAdd, fSub, fCmpI, fNeg, fIsi, isT, fI, f1, f2, fLen, fInt, fTupleOf, fIx, cCall, doCall, cCallK, runF, exitF, Ob.data, sRaise, cNewL, modSlot, gPut, sPut, isLst, sAug, sAugIx, augF.fAugAdd, fGet, gApp, cApp, b2i, cExt, gExt, seqOf, cGet, cGet1, isDt, fGetD, keyOf, cPairs, mergeD, cDisp, fFmt, cJs, fIntU, fInt, fKd, fKdIn, fIsiT, fAbs_v, fGcd_v, fEqI_v, fNeI_v, d2, stD]
      · rcases List.mem_append.mp hp with hp | hp
        · exact ha p hp
        · rw [List.mem_singleton.mp hp]; exact ⟨q1, q2⟩
  obtain ⟨sts, m2, eS, I2, hnm, ha⟩ := S
  have im : Img sts code := by
    refine ⟨by rw [hnm]; exact hn, by rw [hnm]; exact hd, by rw [hlen]; exact ha, ?_, by omega, ?_⟩
    · have := congrArg List.length hnm
      rw [List.length_map] at this
      omega
    · rw [hlen, hnm]; exact hins
  refine ⟨sts, code, m2, ?_, I2, im, hlen⟩
  have n2 := rg1_n (n := size) (by omega)
  have hT := hI.take I2
  have cut : cutG (wordsL.map PyData.str) none (some (-2)) = (wordsL.take 16).map .str := by kernel_rfl
  simp only [imgD]
  by_cases hz : nm = []
  · rw [if_pos hz] at hLw
    rw [hLw] at eL eS
    rw [hz] at E0 eL eS ⊢
    generalize (wordsL.take 16).map PyData.str = w16 at *
    generalize wordsL.map PyData.str = wl at *
    generalize sts.map stD = sd at *
    generalize code.map coD = cd at *
    simp only [List.map_nil, List.isEmpty_nil] at E0 eL eS ⊢
    simp [eb, rb, er, es, sSeq, sIf, sRet, sSet, sSetN, setS, setN, sExpr, sTup, setAll, evD, cVar, opd, resolve, cP1, cP2, cPN, cList, resolves, cTup, cLst, cFrz, cBoxN, cBoxV, cTru, truth, toB, cAnd, cOr, cNot, cAndV, cOrV, cNotV, cIf, cCh, fAdd, fSub, fCmpI, fNeg, fIsi, isT, fI, f1, f2, fLen, fInt, fTupleOf, fIx, cCall, doCall, cCallK, runF, exitF, Ob.data, sRaise, cNewL, modSlot, gPut, sPut, isLst, sAug, sAugIx, augF.fAugAdd, fGet, gApp, cApp, b2i, cExt, gExt, seqOf, cGet, cGet1, isDt, fGetD, keyOf, cPairs, mergeD, cDisp, fFmt, cJs, fIntU, fInt, fKd, fKdIn, fIsiT, fAbs_v, fGcd_v, fEqI_v, fNeI_v, sFor, srcR1, cSl, part, fSl, Ww, E0, cut, n2, eL, eS, hT]
  · rw [if_neg hz] at hLw
    rw [hLw] at eL eS
    have hE : nm.isEmpty = false := by
      cases nm with
      | nil => exact absurd rfl hz
      | cons _ _ => rfl
    rw [hE] at E0
    generalize wordsL.map PyData.str = wl at *
    generalize nm.map PyData.str = nd at *
    generalize sts.map stD = sd at *
    generalize code.map coD = cd at *
    simp [eb, rb, er, es, sSeq, sIf, sRet, sSet, sSetN, setS, setN, sExpr, sTup, setAll, evD, cVar, opd, resolve, cP1, cP2, cPN, cList, resolves, cTup, cLst, cFrz, cBoxN, cBoxV, cTru, truth, toB, cAnd, cOr, cNot, cAndV, cOrV, cNotV, cIf, cCh, fAdd, fSub, fCmpI, fNeg, fIsi, isT, fI, f1, f2, fLen, fInt, fTupleOf, fIx, cCall, doCall, cCallK, runF, exitF, Ob.data, sRaise, cNewL, modSlot, gPut, sPut, isLst, sAug, sAugIx, augF.fAugAdd, fGet, gApp, cApp, b2i, cExt, gExt, seqOf, cGet, cGet1, isDt, fGetD, keyOf, cPairs, mergeD, cDisp, fFmt, cJs, fIntU, fInt, fKd, fKdIn, fIsiT, fAbs_v, fGcd_v, fEqI_v, fNeI_v, sFor, srcR1, Ww, E0, n2, eL, eS, hT]
end MP
namespace MP
open PySem PySem.Spec PyProof.Rows L2 TL
/-! names drawn -/
theorem inS (s : Str) : ∀ acc : List Str, inD (.str s) (acc.map .str) = decide (s ∈ acc)
  | [] => rfl
  | a :: acc => by
    have ih := inS s acc
    unfold inD at ih ⊢
    rw [List.map_cons, List.any_cons, ih]
    show ((a == s) || _) = _
    by_cases h : a = s
    · subst h; simp
    · have : ¬ s = a := fun z => h z.symm
      simp [h, this]
theorem flatS (acc : List Str) : (acc.map PyData.str).all flatD = true := List.all_eq_true.mpr fun x hx => by
  obtain ⟨y, _, rfl⟩ := List.mem_map.mp hx
  rfl
theorem fIn_list (neg : Bool) (s : Str) (acc : List Str) : fInK neg (.str s) (.list (acc.map .str)) = some (.bool (decide (s ∈ acc) != neg)) := by
  unfold fInK fIn
  dsimp only
  rw [if_pos (by rw [flatS]; rfl), inS]
theorem fIn_tup (neg : Bool) (s : Str) (acc : List Str) : fInK neg (.str s) (.tuple (acc.map .str)) = some (.bool (decide (s ∈ acc) != neg)) := by
  unfold fInK fIn
  dsimp only
  rw [if_pos (by rw [flatS]; rfl), inS]
def kwL : List Str := ["def", "else", "give", "if", "kind", "let", "match", "whole"]
structure Pre (n : Nat) (s : Str) : Prop where
  le : s.length ≤ n
  al : ∀ c ∈ tl s, isAl c = true
  hd : ∃ c r, tl s = c :: r ∧ isSm c = true
theorem Pre.low {s : Str} (h : Pre 10 s) (hk : s ∉ kwL) : Low s := ⟨h.le, h.al, h.hd, by
  have := inS s kwL
  rw [decide_eq_false hk] at this
  exact this⟩
theorem Pre.mono {n m : Nat} {s : Str} (h : Pre n s) (l : n ≤ m) : Pre m s := ⟨Nat.le_trans h.le l, h.al, h.hd⟩
def sg : Str := "abcdefghijklmnopqrstuvwxyzABCDEFGHIJKLMNOPQRSTUVWXYZ0123456789"
theorem sg_len : sg.length ≤ 1000000 := by decide +kernel
theorem sg_at {r : Int} (h0 : 0 ≤ r) (h1 : r < 62) : ∃ c, atI sg.cps.toList r = some c ∧ isAl c = true ∧ (r < 26 → isSm c = true) := by
  have all : ∀ i : Nat, i < 62 → (match (tl sg)[i]? with | some c => isAl c && (decide (26 ≤ i) || isSm c) | none => false) = true := by decide +kernel
  have := all r.toNat (by omega)
  rw [atI_nat' h0]
  split at this
  · rename_i c hc
    rw [Bool.and_eq_true, Bool.or_eq_true, decide_eq_true_eq] at this
    exact ⟨c, hc, this.1, fun h => by rcases this.2 with z | z; omega; exact z⟩
  · cases this
theorem pre_one {c : Nat} (h : isSm c = true) : Pre 1 ⟨#[c]⟩ := ⟨Nat.le_refl _, fun d hd => by
  have : d = c := by simpa using hd
  subst this
  unfold isAl isLe
  rw [h]; rfl, c, [], rfl, h⟩
theorem pre_snoc {n : Nat} {s : Str} {c : Nat} (h : Pre n s) (hc : isAl c = true) : Pre (n + 1) (s ++ ⟨#[c]⟩) := by
  obtain ⟨d, r, e, hd⟩ := h.hd
  refine ⟨by rw [app_len]; have := h.le; show s.length + 1 ≤ n + 1; omega, fun x hx => ?_, d, r ++ [c], by rw [tl_append, e]; rfl, hd⟩
  rw [tl_append] at hx
  rcases List.mem_append.mp hx with hx | hx
  · exact h.al x hx
  · have : x = c := by simpa using hx
    rw [this]; exact hc
theorem cut_lo {s : Str} {n : Nat} (h : n ≤ s.length) : tl (cutS s none (some (n : Int))) = (tl s).take n := by
  unfold cutS
  rw [tl_mk]
  show ((tl s).drop 0).take (HT.sIx s.length s.length (some (n : Int)) - 0) = _
  rw [HT.sIx_nat, List.drop_zero, Nat.sub_zero, Nat.min_eq_left h]
theorem cut_hi {s : Str} {n : Nat} (h : n ≤ s.length) : tl (cutS s (some (n : Int)) none) = (tl s).drop n := by
  unfold cutS
  rw [tl_mk]
  show ((tl s).drop (HT.sIx s.length 0 (some (n : Int)))).take (s.length - HT.sIx s.length 0 (some (n : Int))) = _
  rw [HT.sIx_nat, Nat.min_eq_left h]
  exact List.take_of_length_le (by rw [List.length_drop, ← len_tl]; exact Nat.le_refl _)
theorem cut_lo8 {s : Str} : tl (cutS s none (some 8)) = (tl s).take 8 := by
  unfold cutS
  rw [tl_mk]
  show ((tl s).drop 0).take (HT.sIx s.length s.length (some ((8 : Nat) : Int)) - 0) = _
  rw [HT.sIx_nat, List.drop_zero, Nat.sub_zero]
  by_cases h : 8 ≤ s.length
  · rw [Nat.min_eq_left h]
  · rw [Nat.min_eq_right (by omega), List.take_of_length_le (by rw [len_tl]; exact Nat.le_refl _), List.take_of_length_le (by rw [← len_tl]; omega)]
/-- the letter put into the stem -/
theorem pre_put {s : Str} {c : Nat} {n : Nat} (h : Pre 9 s) (hc : isSm c = true) (hn : n ≤ s.length) : Pre 10 (cutS s none (some (n : Int)) ++ ⟨#[c]⟩ ++ cutS s (some (n : Int)) none) := by
  have e1 := cut_lo hn
  have e2 := cut_hi hn
  obtain ⟨d, r, e, hd⟩ := h.hd
  have ac : isAl c = true := by unfold isAl isLe; rw [hc]; rfl
  have t : tl (cutS s none (some (n : Int)) ++ ⟨#[c]⟩ ++ cutS s (some (n : Int)) none) = (tl s).take n ++ [c] ++ (tl s).drop n := by
    rw [tl_append, tl_append, e1, e2]
  refine ⟨?_, fun x hx => ?_, ?_⟩
  · rw [len_tl, t, List.length_append, List.length_append, List.length_take, List.length_drop, ← len_tl, List.length_singleton]
    have := h.le
    omega
  · rw [t] at hx
    rcases List.mem_append.mp hx with hx | hx
    · rcases List.mem_append.mp hx with hx | hx
      · exact h.al x (List.mem_of_mem_take hx)
      · rw [List.mem_singleton.mp hx]; exact ac
    · exact h.al x (List.mem_of_mem_drop hx)
  · rw [t]
    cases n with
    | zero => exact ⟨c, tl s, rfl, hc⟩
    | succ n => exact ⟨d, r.take n ++ [c] ++ r.drop n, by rw [e]; rfl, hd⟩
/-- a name's stand-in -/
def alt (s : Str) (k : Nat) : Str := cutS s none (some 8) ++ numS (10 + (k : Int))
theorem num2 {k : Nat} (h : k < 40) : tl (numS (10 + (k : Int))) = numL (10 + k) ∧ (numL (10 + k)).length ≤ 2 := by
  refine ⟨?_, numL_len (k := 2) (by decide) (by omega)⟩
  rw [tl_num0 (by omega)]
  rfl
theorem dg_al {c : Nat} (h : 48 ≤ c ∧ c ≤ 57) : isAl c = true := by
  unfold isAl isDg
  simp [h]
theorem alt_low {s : Str} {k : Nat} (h : Pre 10 s) (hk : k < 40) : Low (alt s k) := by
  obtain ⟨e1, l1⟩ := num2 hk
  obtain ⟨d, r, e, hd⟩ := h.hd
  have t : tl (alt s k) = (tl s).take 8 ++ numL (10 + k) := by unfold alt; rw [tl_append, cut_lo8, e1]
  refine Pre.low ⟨?_, fun x hx => ?_, ?_⟩ fun z => ?_
  · rw [len_tl, t, List.length_append, List.length_take]; omega
  · rw [t] at hx
    rcases List.mem_append.mp hx with hx | hx
    · exact h.al x (List.mem_of_mem_take hx)
    · exact dg_al (numL_digits _ x hx)
  · rw [t, e]
    exact ⟨d, r.take 7 ++ numL (10 + k), rfl, hd⟩
  · obtain ⟨c, hc⟩ : ∃ c, c ∈ numL (10 + k) := by
      cases q : numL (10 + k) with
      | nil => exact absurd q (numL_ne _)
      | cons c _ => exact ⟨c, List.mem_cons_self ..⟩
    have hd := numL_digits _ c hc
    have no : ∀ w ∈ kwL, ∀ c ∈ tl w, c < 48 ∨ 57 < c := by decide +kernel
    have := no _ z c (by rw [t]; exact List.mem_append_right _ hc)
    omega
theorem alt_inj {s : Str} {i j : Nat} (hi : i < 40) (hj : j < 40) (h : alt s i = alt s j) : i = j := by
  have e := congrArg tl h
  unfold alt at e
  rw [tl_append, tl_append, (num2 hi).1, (num2 hj).1] at e
  have := numL_inj (List.append_cancel_left e)
  omega
theorem hole {α : Type} [DecidableEq α] : ∀ {l acc : List α}, l.Nodup → (∀ x ∈ l, x ∈ acc) → l.length ≤ acc.length
  | [], acc, _, _ => Nat.zero_le _
  | x :: l, acc, hd, h => by
    rw [List.nodup_cons] at hd
    have hx := h x (List.mem_cons_self ..)
    have i := hole (l := l) (acc := acc.erase x) hd.2 fun y hy => by
      have : y ≠ x := fun z => hd.1 (z ▸ hy)
      exact (List.mem_erase_of_ne this).mpr (h y (List.mem_cons_of_mem _ hy))
    rw [List.length_erase_of_mem hx] at i
    have : 0 < acc.length := List.length_pos_of_mem hx
    rw [List.length_cons]
    omega
def alts (s : Str) : List Str := (List.range 40).map (alt s)
theorem alts_free {s : Str} {acc : List Str} (h : acc.length < 40) : ∃ a r, (alts s).filter (fun x => !decide (x ∈ acc)) = a :: r := by
  cases e : (alts s).filter (fun x => !decide (x ∈ acc)) with
  | cons a r => exact ⟨a, r, rfl⟩
  | nil =>
    exfalso
    have nd : (alts s).Nodup := by
      unfold alts
      unfold List.Nodup
      rw [List.pairwise_map]
      refine List.Pairwise.imp_of_mem (fun {a b} ha hb h z => ?_) List.nodup_range
      exact h (alt_inj (List.mem_range.mp ha) (List.mem_range.mp hb) z)
    have := hole nd fun x hx => by
      have z := List.filter_eq_nil_iff.mp e x hx
      simpa using z
    unfold alts at this
    rw [List.length_map, List.length_range] at this
    omega
end MP
namespace MP
open PySem PySem.Spec PyProof.Rows L2 TL
theorem In.out {b : Int} {ns : List Int} {m : List Box} (h : In b ns m) {m0 : List Box} {b0 : Int} (h0 : In b0 ns m0) : List.take m0.length m = m := h0.take h
def Od (o : Option W) : Prop := o = none ∨ ∃ y, o = some (.d y)
theorem v_names (k : Nat) {b : Int} {many : Nat} {ns : List Int} {m : List Box} (hI : In b ns m) (hb : b < 300000) (hm : many ≤ 12) :
    ∃ nm m', evalF g (k + 2) "_law_names" [.ref 0, .d (.int (many : Int))] m = .ok (.d (.list (nm.map .str))) ⟨[], m'⟩ ∧ In (b + 500) ns m' ∧ Names nm ∧ nm.Nodup ∧ nm.length = many := by
  have e62 : ("abcdefghijklmnopqrstuvwxyzABCDEFGHIJKLMNOPQRSTUVWXYZ0123456789" : Str) = sg := rfl
  rw [e_lnames]
  simp only [m_lnames, e62]
  generalize hbs : (sSeq (sSet 3 (cP2 fAdd (.var 3) _)) (er .next)) = bodyS
  generalize hbn : (sSeq (sSet 8 (cP2 fAdd (.var 8) _)) (er .next)) = bodyN
  generalize hli : cLc [7] _ _ _ _ = lci
  generalize hlo : cLc [9] _ _ _ _ = lco
  generalize htl : (sSeq (sIf (cOr _ _) _ _) _) = tail
  generalize hbt : (sSeq (sSet 8 (cP2 fIx (.var 2) _)) _) = bodyT
  -- the stem's loop
  have LS : ∀ (n : Nat) (s0 : Str) (b0 : Int) (m0 : List Box) (x4 x5 x6 o7 x8 x9 : Option W), In b0 ns m0 → b0 + n < 400000 → n ≤ 8 → Pre 1 s0 → Od o7 → ∃ (s1 : Str) (m1 : List Box) (r7 : Option W), forL (tgName 7) bodyS (rangeD 0 n) ⟨[some (.ref 0), some (.d (.int (many : Int))), some (.d (.str sg)), some (.d (.str s0)), x4, x5, x6, o7, x8, x9], m0⟩ = .ok .next ⟨[some (.ref 0), some (.d (.int (many : Int))), some (.d (.str sg)), some (.d (.str s1)), x4, x5, x6, r7, x8, x9], m1⟩ ∧ Pre 9 s1 ∧ In (b0 + n) ns m1 ∧ Od r7 := by
    intro n s0 b0 m0 x4 x5 x6 o7 x8 x9 hI0 hb0 hn hp ho
    have z := forL_inv (t := tgName 7) (body := bodyS) (fun j s => ∃ (s1 : Str) (m1 : List Box) (r7 : Option W), s = ⟨[some (.ref 0), some (.d (.int (many : Int))), some (.d (.str sg)), some (.d (.str s1)), x4, x5, x6, r7, x8, x9], m1⟩ ∧ Pre (1 + j) s1 ∧ In (b0 + j) ns m1 ∧ Od r7) (rangeD 0 n) 0 ⟨[some (.ref 0), some (.d (.int (many : Int))), some (.d (.str sg)), some (.d (.str s0)), x4, x5, x6, o7, x8, x9], m0⟩ ⟨s0, m0, o7, rfl, hp, hI0.mono (by omega), ho⟩ fun j x s hx hP => ?_
    · obtain ⟨s', e1, s1, m1, r7, rfl, h1, h2, h3⟩ := z
      rw [Nat.zero_add, range_len] at h1 h2
      exact ⟨s1, m1, r7, e1, h1.mono (by omega), h2, h3⟩
    · obtain ⟨s1, m1, r7, rfl, h1, h2, h3⟩ := hP
      rw [Nat.zero_add] at h1 h2
      rw [Nat.zero_add]
      obtain ⟨hj, rfl⟩ := range_at hx
      obtain ⟨r, m2, d2, I2, p1, p2⟩ := v_draw k h2 (by omega) (many := 62) (by decide) (by decide)
      obtain ⟨c, hc, ac, _⟩ := sg_at p1 p2
      have le := h1.le
      have a1 : fAdd (.str s1) (.str ⟨#[c]⟩) = some (.str (s1 ++ ⟨#[c]⟩)) := fAddS (by show s1.length + 1 ≤ _; omega)
      have sgl := sg_len
      refine ⟨_, ⟨[some (.ref 0), some (.d (.int (many : Int))), some (.d (.str sg)), some (.d (.str (s1 ++ ⟨#[c]⟩))), x4, x5, x6, some (.d (.int j)), x8, x9], m2⟩, rfl, ?_, _, _, _, rfl, by rw [← Nat.add_assoc]; exact pre_snoc h1 ac, I2.mono (by omega), .inr ⟨_, rfl⟩⟩
      rw [← hbs]
      simp [eb, rb, er, es, sSeq, sSet, setS, evD, opd, resolve, cP2, cBoxV, cCall, doCall, cList, fIx, d2, hc, a1, sgl]
  have LN : ∀ (n : Nat) (s0 : Str) (b0 : Int) (m0 : List Box) (x3 x4 x5 x6 o7 x9 : Option W), In b0 ns m0 → b0 + n < 400000 → n ≤ 9 → Pre 1 s0 → Od o7 → ∃ (s1 : Str) (m1 : List Box) (r7 : Option W), forL (tgName 7) bodyN (rangeD 0 n) ⟨[some (.ref 0), some (.d (.int (many : Int))), some (.d (.str sg)), x3, x4, x5, x6, o7, some (.d (.str s0)), x9], m0⟩ = .ok .next ⟨[some (.ref 0), some (.d (.int (many : Int))), some (.d (.str sg)), x3, x4, x5, x6, r7, some (.d (.str s1)), x9], m1⟩ ∧ Pre 10 s1 ∧ In (b0 + n) ns m1 ∧ Od r7 := by
    intro n s0 b0 m0 x3 x4 x5 x6 o7 x9 hI0 hb0 hn hp ho
    have z := forL_inv (t := tgName 7) (body := bodyN) (fun j s => ∃ (s1 : Str) (m1 : List Box) (r7 : Option W), s = ⟨[some (.ref 0), some (.d (.int (many : Int))), some (.d (.str sg)), x3, x4, x5, x6, r7, some (.d (.str s1)), x9], m1⟩ ∧ Pre (1 + j) s1 ∧ In (b0 + j) ns m1 ∧ Od r7) (rangeD 0 n) 0 ⟨[some (.ref 0), some (.d (.int (many : Int))), some (.d (.str sg)), x3, x4, x5, x6, o7, some (.d (.str s0)), x9], m0⟩ ⟨s0, m0, o7, rfl, hp, hI0.mono (by omega), ho⟩ fun j x s hx hP => ?_
    · obtain ⟨s', e1, s1, m1, r7, rfl, h1, h2, h3⟩ := z
      rw [Nat.zero_add, range_len] at h1 h2
      exact ⟨s1, m1, r7, e1, h1.mono (by omega), h2, h3⟩
    · obtain ⟨s1, m1, r7, rfl, h1, h2, h3⟩ := hP
      rw [Nat.zero_add] at h1 h2
      rw [Nat.zero_add]
      obtain ⟨hj, rfl⟩ := range_at hx
      obtain ⟨r, m2, d2, I2, p1, p2⟩ := v_draw k h2 (by omega) (many := 62) (by decide) (by decide)
      obtain ⟨c, hc, ac, _⟩ := sg_at p1 p2
      have le := h1.le
      have a1 : fAdd (.str s1) (.str ⟨#[c]⟩) = some (.str (s1 ++ ⟨#[c]⟩)) := fAddS (by show s1.length + 1 ≤ _; omega)
      have sgl := sg_len
      refine ⟨_, ⟨[some (.ref 0), some (.d (.int (many : Int))), some (.d (.str sg)), x3, x4, x5, x6, some (.d (.int j)), some (.d (.str (s1 ++ ⟨#[c]⟩))), x9], m2⟩, rfl, ?_, _, _, _, rfl, by rw [← Nat.add_assoc]; exact pre_snoc h1 ac, I2.mono (by omega), .inr ⟨_, rfl⟩⟩
      rw [← hbn]
      simp [eb, rb, er, es, sSeq, sSet, setS, evD, opd, resolve, cP2, cBoxV, cCall, doCall, cList, fIx, d2, hc, a1, sgl]
  -- the stand-ins
  have CI : ∀ (s : Str) (mm : List Box) (acc : List Str) (x3 x4 x6 x7 : Option W), Pre 10 s → lci ⟨[some (.ref 0), some (.d (.int (many : Int))), some (.d (.str sg)), x3, x4, some (.own (.lst (acc.map .str))), x6, x7, some (.d (.str s)), none], mm⟩ = .ok (.lst ((alts s).map .str)) ⟨restore [some (.ref 0), some (.d (.int (many : Int))), some (.d (.str sg)), x3, x4, some (.own (.lst (acc.map .str))), x6, x7, some (.d (.str s)), none] [some (.ref 0), some (.d (.int (many : Int))), some (.d (.str sg)), x3, x4, some (.own (.lst (acc.map .str))), x6, none, some (.d (.str s)), none] [7], mm⟩ := by
    intro s mm acc x3 x4 x6 x7 hp
    have n2 : rg1 40 = er (rangeD 0 40) := rg1_n (n := 40) (by decide)
    have le := hp.le
    rw [← hli, show (alts s).map PyData.str = (rangeD 0 40).map fun d => match d with | .int i => .str (cutS s none (some 8) ++ numS (10 + i)) | d => d by
      unfold alts rangeD
      rw [List.map_map, List.map_map]
      refine List.map_congr_left fun i _ => ?_
      show PyData.str (cutS s none (some 8) ++ numS (10 + (i : Int))) = .str (cutS s none (some 8) ++ numS (10 + (0 + (i : Int))))
      rw [Int.zero_add]]
    refine cLc_eq (s1 := ⟨[some (.ref 0), some (.d (.int (many : Int))), some (.d (.str sg)), x3, x4, some (.own (.lst (acc.map .str))), x6, x7, some (.d (.str s)), none], mm⟩) (s2 := ⟨[some (.ref 0), some (.d (.int (many : Int))), some (.d (.str sg)), x3, x4, some (.own (.lst (acc.map .str))), x6, none, some (.d (.str s)), none], mm⟩) (xs := rangeD 0 40) ?_ (lcL_map ?_ fun x hx => ?_)
    · simp [srcR1, eb, rb, er, es, sSeq, sIf, sRet, sSet, sSetN, setS, setN, sExpr, sTup, setAll, evD, cVar, opd, resolve, cP1, cP2, cPN, cList, resolves, cTup, cLst, cFrz, cBoxN, cBoxV, cTru, truth, toB, cAnd, cOr, cNot, cAndV, cOrV, cNotV, cIf, cCh, fAdd, fSub, fCmpI, fNeg, fIsi, isT, fI, f1, f2, fLen, fInt, fTupleOf, fIx, cCall, doCall, cCallK, runF, exitF, Ob.data, sRaise, cNewL, modSlot, gPut, sPut, isLst, sAug, sAugIx, augF.fAugAdd, fGet, gApp, cApp, b2i, cExt, gExt, seqOf, cGet, cGet1, isDt, fGetD, keyOf, cPairs, mergeD, cDisp, fFmt, cJs, fIntU, fInt, fKd, fKdIn, fIsiT, fAbs_v, fGcd_v, fEqI_v, fNeI_v, n2]
    · rw [range_len]; decide
    · obtain ⟨j, hj⟩ := List.mem_iff_getElem?.mp hx
      obtain ⟨hlt, rfl⟩ := range_at hj
      have f8 : fSl none (some 8) (.str s) = some (.str (cutS s none (some 8))) := by
        show (if s.length ≤ 1000000 then some (PyData.str (cutS s none (some 8))) else none) = _
        rw [if_pos (by omega)]
      have l8 : (cutS s none (some 8)).length ≤ 8 := by rw [len_tl, cut_lo8, List.length_take]; omega
      have ln : (numS (10 + (j : Int))).length ≤ 2 := by rw [len_tl, (num2 hlt).1]; exact (num2 hlt).2
      have fs := fStr_num (i := 10 + (j : Int)) (by omega)
      have fa : fAdd (.str (cutS s none (some 8))) (.str (numS (10 + (j : Int)))) = some (.str (cutS s none (some 8) ++ numS (10 + (j : Int)))) := fAddS (by omega)
      have fi : fAdd (.int 10) (.int (j : Int)) = some (.int (10 + (j : Int))) := rfl
      refine ⟨⟨[some (.ref 0), some (.d (.int (many : Int))), some (.d (.str sg)), x3, x4, some (.own (.lst (acc.map .str))), x6, some (.d (.int j)), some (.d (.str s)), none], mm⟩, ⟨[some (.ref 0), some (.d (.int (many : Int))), some (.d (.str sg)), x3, x4, some (.own (.lst (acc.map .str))), x6, some (.d (.int j)), some (.d (.str s)), none], mm⟩, rfl, ?_, rfl⟩
      simp [eb, rb, er, es, evD, opd, resolve, cP2, cPN, cList, resolves, f1, cSl, part, f8, fs, fa, fi]
  have CO : ∀ (s : Str) (mm : List Box) (acc : List Str) (x3 x4 x6 x7 : Option W), Pre 10 s → Od x7 → lco ⟨[some (.ref 0), some (.d (.int (many : Int))), some (.d (.str sg)), x3, x4, some (.own (.lst (acc.map .str))), x6, x7, some (.d (.str s)), none], mm⟩ = .ok (.lst (((alts s).filter fun x => !decide (x ∈ acc)).map .str)) ⟨[some (.ref 0), some (.d (.int (many : Int))), some (.d (.str sg)), x3, x4, some (.own (.lst (acc.map .str))), x6, x7, some (.d (.str s)), none], mm⟩ := by
    intro s mm acc x3 x4 x6 x7 hp h7
    have c := CI s mm acc x3 x4 x6 x7 hp
    have hr : restore [some (.ref 0), some (.d (.int (many : Int))), some (.d (.str sg)), x3, x4, some (.own (.lst (acc.map .str))), x6, x7, some (.d (.str s)), none] [some (.ref 0), some (.d (.int (many : Int))), some (.d (.str sg)), x3, x4, some (.own (.lst (acc.map .str))), x6, none, some (.d (.str s)), none] [7] = [some (.ref 0), some (.d (.int (many : Int))), some (.d (.str sg)), x3, x4, some (.own (.lst (acc.map .str))), x6, x7, some (.d (.str s)), none] := by
      rcases h7 with rfl | ⟨y, rfl⟩ <;> rfl
    rw [hr] at c
    rw [← hlo]
    have lx : ((alts s).map PyData.str).length = 40 := by unfold alts; rw [List.length_map, List.length_map, List.length_range]
    have z := lcL_pure (own := [9]) (t := tgName 9) (c := eb (cP2 (fInK true) (.var 9) (.var 5)) toB) (e := cVar 9) (p := fun d => match d with | .str x => !decide (x ∈ acc) | _ => false) (f := id) (s0 := ⟨[some (.ref 0), some (.d (.int (many : Int))), some (.d (.str sg)), x3, x4, some (.own (.lst (acc.map .str))), x6, x7, some (.d (.str s)), none], mm⟩) ((alts s).map .str) [] (by rw [lx]; decide) fun x hx => ?_
    · have ef : ((((alts s).map PyData.str).filter fun d => match d with | .str x => !decide (x ∈ acc) | _ => false).map id) = ((alts s).filter fun x => !decide (x ∈ acc)).map .str := by
        rw [List.map_id, List.filter_map]
        rfl
      rw [List.nil_append, ef] at z
      exact cLc_eq (s1 := ⟨[some (.ref 0), some (.d (.int (many : Int))), some (.d (.str sg)), x3, x4, some (.own (.lst (acc.map .str))), x6, x7, some (.d (.str s)), none], mm⟩) (s2 := ⟨[some (.ref 0), some (.d (.int (many : Int))), some (.d (.str sg)), x3, x4, some (.own (.lst (acc.map .str))), x6, x7, some (.d (.str s)), none], mm⟩) (by simp [srcAny, eb, rb, er, es, sSeq, sIf, sRet, sSet, sSetN, setS, setN, sExpr, sTup, setAll, evD, cVar, opd, resolve, cP1, cP2, cPN, cList, resolves, cTup, cLst, cFrz, cBoxN, cBoxV, cTru, truth, toB, cAnd, cOr, cNot, cAndV, cOrV, cNotV, cIf, cCh, fAdd, fSub, fCmpI, fNeg, fIsi, isT, fI, f1, f2, fLen, fInt, fTupleOf, fIx, cCall, doCall, cCallK, runF, exitF, Ob.data, sRaise, cNewL, modSlot, gPut, sPut, isLst, sAug, sAugIx, augF.fAugAdd, fGet, gApp, cApp, b2i, cExt, gExt, seqOf, cGet, cGet1, isDt, fGetD, keyOf, cPairs, mergeD, cDisp, fFmt, cJs, fIntU, fInt, fKd, fKdIn, fIsiT, fAbs_v, fGcd_v, fEqI_v, fNeI_v, c]) z
    · obtain ⟨y, hy, rfl⟩ := List.mem_map.mp hx
      have fi := fIn_list true y acc
      have b0 : ∀ b : Bool, (b != true) = !b := fun b => by cases b <;> rfl
      rw [b0] at fi
      refine ⟨⟨[some (.ref 0), some (.d (.int (many : Int))), some (.d (.str sg)), x3, x4, some (.own (.lst (acc.map .str))), x6, x7, some (.d (.str s)), some (.d (.str y))], mm⟩, ⟨[some (.ref 0), some (.d (.int (many : Int))), some (.d (.str sg)), x3, x4, some (.own (.lst (acc.map .str))), x6, x7, some (.d (.str s)), some (.d (.str y))], mm⟩, rfl, ?_, fun _ => rfl, fun _ => ⟨_, rfl, rfl⟩⟩
      simp [eb, rb, er, es, evD, opd, resolve, cP2, toB, Ob.data, fi]
  -- the turn's tail: another name if it is taken
  have TL' : ∀ (s : Str) (mm : List Box) (acc : List Str) (x3 x4 x6 x7 : Option W), Pre 10 s → Od x7 → acc.length < 40 → ∃ nw, Low nw ∧ nw ∉ acc ∧ tail ⟨[some (.ref 0), some (.d (.int (many : Int))), some (.d (.str sg)), x3, x4, some (.own (.lst (acc.map .str))), x6, x7, some (.d (.str s)), none], mm⟩ = .ok .next ⟨[some (.ref 0), some (.d (.int (many : Int))), some (.d (.str sg)), x3, x4, some (.own (.lst ((acc ++ [nw]).map .str))), x6, x7, some (.d (.str nw)), none], mm⟩ := by
    intro s mm acc x3 x4 x6 x7 hp h7 hl
    have c := CO s mm acc x3 x4 x6 x7 hp h7
    have b0 : ∀ b : Bool, (b != false) = b := fun b => by cases b <;> rfl
    have f1' := fIn_list false s acc
    have f2' : fInK false (.str s) (.tuple [.str "def", .str "else", .str "give", .str "if", .str "kind", .str "let", .str "match", .str "whole"]) = some (.bool (decide (s ∈ kwL) != false)) := fIn_tup false s kwL
    rw [b0] at f1' f2'
    have la : (acc.map PyData.str).length < 1000000 := by rw [List.length_map]; omega
    obtain ⟨a, r, ea⟩ := alts_free (s := s) (acc := acc) hl
    have ma : a ∈ (alts s).filter (fun x => !decide (x ∈ acc)) := by rw [ea]; exact List.mem_cons_self ..
    rw [List.mem_filter] at ma
    obtain ⟨ma1, ma2⟩ := ma
    have na : a ∉ acc := by simpa using ma2
    have lowa : Low a := by
      unfold alts at ma1
      obtain ⟨i, hi, rfl⟩ := List.mem_map.mp ma1
      exact alt_low hp (List.mem_range.mp hi)
    rw [ea, List.map_cons] at c
    have a0 : atI (PyData.str a :: r.map .str) (0 : Int) = some (.str a) := (at_nat (j := 0)).trans rfl
    by_cases h1 : s ∈ acc
    · refine ⟨a, lowa, na, ?_⟩
      rw [decide_eq_true h1] at f1'
      rw [← htl, List.map_append]
      have e1 : [a].map PyData.str = [.str a] := rfl
      rw [e1]
      generalize acc.map PyData.str = ad at *
      generalize r.map PyData.str = rd at *
      simp [eb, rb, er, es, sSeq, sIf, sRet, sSet, sSetN, setS, setN, sExpr, sTup, setAll, evD, cVar, opd, resolve, cP1, cP2, cPN, cList, resolves, cTup, cLst, cFrz, cBoxN, cBoxV, cTru, truth, toB, cAnd, cOr, cNot, cAndV, cOrV, cNotV, cIf, cCh, fAdd, fSub, fCmpI, fNeg, fIsi, isT, fI, f1, f2, fLen, fInt, fTupleOf, fIx, cCall, doCall, cCallK, runF, exitF, Ob.data, sRaise, cNewL, modSlot, gPut, sPut, isLst, sAug, sAugIx, augF.fAugAdd, fGet, gApp, cApp, b2i, cExt, gExt, seqOf, cGet, cGet1, isDt, fGetD, keyOf, cPairs, mergeD, cDisp, fFmt, cJs, fIntU, fInt, fKd, fKdIn, fIsiT, fAbs_v, fGcd_v, fEqI_v, fNeI_v, f1', c, a0, la]
    · rw [decide_eq_false h1] at f1'
      by_cases h2 : s ∈ kwL
      · refine ⟨a, lowa, na, ?_⟩
        rw [decide_eq_true h2] at f2'
        rw [← htl, List.map_append]
        have e1 : [a].map PyData.str = [.str a] := rfl
        rw [e1]
        generalize acc.map PyData.str = ad at *
        generalize r.map PyData.str = rd at *
        simp [eb, rb, er, es, sSeq, sIf, sRet, sSet, sSetN, setS, setN, sExpr, sTup, setAll, evD, cVar, opd, resolve, cP1, cP2, cPN, cList, resolves, cTup, cLst, cFrz, cBoxN, cBoxV, cTru, truth, toB, cAnd, cOr, cNot, cAndV, cOrV, cNotV, cIf, cCh, fAdd, fSub, fCmpI, fNeg, fIsi, isT, fI, f1, f2, fLen, fInt, fTupleOf, fIx, cCall, doCall, cCallK, runF, exitF, Ob.data, sRaise, cNewL, modSlot, gPut, sPut, isLst, sAug, sAugIx, augF.fAugAdd, fGet, gApp, cApp, b2i, cExt, gExt, seqOf, cGet, cGet1, isDt, fGetD, keyOf, cPairs, mergeD, cDisp, fFmt, cJs, fIntU, fInt, fKd, fKdIn, fIsiT, fAbs_v, fGcd_v, fEqI_v, fNeI_v, f1', f2', c, a0, la]
      · refine ⟨s, hp.low h2, h1, ?_⟩
        rw [decide_eq_false h2] at f2'
        rw [← htl, List.map_append]
        have e1 : [s].map PyData.str = [.str s] := rfl
        rw [e1]
        generalize acc.map PyData.str = ad at *
        simp [eb, rb, er, es, sSeq, sIf, sRet, sSet, sSetN, setS, setN, sExpr, sTup, setAll, evD, cVar, opd, resolve, cP1, cP2, cPN, cList, resolves, cTup, cLst, cFrz, cBoxN, cBoxV, cTru, truth, toB, cAnd, cOr, cNot, cAndV, cOrV, cNotV, cIf, cCh, fAdd, fSub, fCmpI, fNeg, fIsi, isT, fI, f1, f2, fLen, fInt, fTupleOf, fIx, cCall, doCall, cCallK, runF, exitF, Ob.data, sRaise, cNewL, modSlot, gPut, sPut, isLst, sAug, sAugIx, augF.fAugAdd, fGet, gApp, cApp, b2i, cExt, gExt, seqOf, cGet, cGet1, isDt, fGetD, keyOf, cPairs, mergeD, cDisp, fFmt, cJs, fIntU, fInt, fKd, fKdIn, fIsiT, fAbs_v, fGcd_v, fEqI_v, fNeI_v, f1', f2', la]
  -- the turns
  have LT : ∀ (stem : Str) (place : Int) (b0 : Int) (m0 : List Box) (o7 : Option W), (place = -1 ∨ ∃ n : Nat, place = (n : Int) ∧ n ≤ stem.length ∧ Pre 9 stem) → In b0 ns m0 → b0 + 300 < 400000 → Od o7 → ∃ (nm : List Str) (m1 : List Box) (o6 o7' o8 : Option W), forL (tgName 6) bodyT (rangeD 0 many) ⟨[some (.ref 0), some (.d (.int (many : Int))), some (.d (.str sg)), some (.d (.str stem)), some (.d (.int place)), some (.own (.lst [])), none, o7, none, none], m0⟩ = .ok .next ⟨[some (.ref 0), some (.d (.int (many : Int))), some (.d (.str sg)), some (.d (.str stem)), some (.d (.int place)), some (.own (.lst (nm.map .str))), o6, o7', o8, none], m1⟩ ∧ Names nm ∧ nm.Nodup ∧ nm.length = many ∧ In (b0 + 20 * many) ns m1 := by
    intro stem place b0 m0 o7 hst hI0 hb0 ho
    have z := forL_inv (t := tgName 6) (body := bodyT) (fun j s => ∃ (nm : List Str) (m1 : List Box) (o6 o7' o8 : Option W), s = ⟨[some (.ref 0), some (.d (.int (many : Int))), some (.d (.str sg)), some (.d (.str stem)), some (.d (.int place)), some (.own (.lst (nm.map .str))), o6, o7', o8, none], m1⟩ ∧ Names nm ∧ nm.Nodup ∧ nm.length = j ∧ In (b0 + 20 * j) ns m1 ∧ Od o7') (rangeD 0 many) 0 ⟨[some (.ref 0), some (.d (.int (many : Int))), some (.d (.str sg)), some (.d (.str stem)), some (.d (.int place)), some (.own (.lst [])), none, o7, none, none], m0⟩ ⟨[], m0, none, o7, none, rfl, fun s hs => by simp at hs, List.nodup_nil, rfl, hI0.mono (by omega), ho⟩ fun j x s hx hP => ?_
    · obtain ⟨s', e1, nm, m1, o6, o7', o8, rfl, h1, h2, h3, h4, h5⟩ := z
      rw [Nat.zero_add, range_len] at h3 h4
      exact ⟨nm, m1, o6, o7', o8, e1, h1, h2, h3, h4⟩
    · obtain ⟨nm, m1, o6, o7', o8, rfl, h1, h2, h3, h4, h5⟩ := hP
      rw [Nat.zero_add] at h3 h4
      rw [Nat.zero_add]
      obtain ⟨hj, rfl⟩ := range_at hx
      obtain ⟨r, m2, d2, I2, p1, p2⟩ := v_draw k h4 (by omega) (many := 26) (by decide) (by decide)
      obtain ⟨c, hc, ac, sc⟩ := sg_at p1 (by omega)
      have sc := sc p2
      have sgl := sg_len
      have h5' : ∀ nw : Str, Low nw → nw ∉ nm → Names (nm ++ [nw]) ∧ (nm ++ [nw]).Nodup := fun nw hl hn => by
        refine ⟨fun s hs => ?_, ?_⟩
        · rcases List.mem_append.mp hs with hs | hs
          · exact h1 s hs
          · rw [List.mem_singleton.mp hs]; exact hl
        · refine List.nodup_append.mpr ⟨h2, by simp, fun a ha b hb => ?_⟩
          rw [List.mem_singleton.mp hb]
          exact fun z => hn (z ▸ ha)
      rcases hst with rfl | ⟨n, rfl, hn, hp9⟩
      · obtain ⟨q, m3, d3, I3, q1, q2⟩ := v_draw k I2 (by omega) (many := 10) (by decide) (by decide)
        obtain ⟨s1, m4, r7, eN, hp1, I4, ho7⟩ := LN q.toNat ⟨#[c]⟩ _ m3 (some (.d (.str stem))) (some (.d (.int (-1)))) (some (.own (.lst (nm.map .str)))) (some (.d (.int j))) o7' none I3 (by omega) (by omega) (pre_one sc) h5
        obtain ⟨nw, lw, nn, et⟩ := TL' s1 m4 nm (some (.d (.str stem))) (some (.d (.int (-1)))) (some (.d (.int j))) r7 hp1 ho7 (by omega)
        obtain ⟨g1, g2⟩ := h5' nw lw nn
        have n2 : rg1 q = er (rangeD 0 q.toNat) := rg1_v (by omega) (by omega)
        refine ⟨_, ⟨[some (.ref 0), some (.d (.int (many : Int))), some (.d (.str sg)), some (.d (.str stem)), some (.d (.int (-1))), some (.own (.lst ((nm ++ [nw]).map .str))), some (.d (.int j)), r7, some (.d (.str nw)), none], m4⟩, rfl, ?_, nm ++ [nw], m4, _, _, _, rfl, g1, g2, by rw [List.length_append, h3]; rfl, I4.mono (by omega), ho7⟩
        rw [← hbt]
        generalize nm.map PyData.str = nd at *
        generalize (nm ++ [nw]).map PyData.str = nd' at *
        simp [eb, rb, er, es, sSeq, sIf, sSet, setS, sFor, srcR1, evD, opd, resolve, cP2, cBoxV, cCall, doCall, cList, fIx, fCmpI, fI, toB, d2, d3, hc, sgl, n2, eN, et]
      · have pp := pre_put hp9 sc hn
        have l9 := hp9.le
        obtain ⟨nw, lw, nn, et⟩ := TL' _ m2 nm (some (.d (.str stem))) (some (.d (.int (n : Int)))) (some (.d (.int j))) o7' pp h5 (by omega)
        obtain ⟨g1, g2⟩ := h5' nw lw nn
        have fl : fSl none (some (n : Int)) (.str stem) = some (.str (cutS stem none (some (n : Int)))) := by
          show (if stem.length ≤ 1000000 then some (PyData.str (cutS stem none (some (n : Int)))) else none) = _
          rw [if_pos (by omega)]
        have fh : fSl (some (n : Int)) none (.str stem) = some (.str (cutS stem (some (n : Int)) none)) := by
          show (if stem.length ≤ 1000000 then some (PyData.str (cutS stem (some (n : Int)) none)) else none) = _
          rw [if_pos (by omega)]
        have c1 : (cutS stem none (some (n : Int))).length ≤ 9 := by rw [len_tl, cut_lo hn, List.length_take, ← len_tl]; omega
        have c2 : (cutS stem (some (n : Int)) none).length ≤ 9 := by rw [len_tl, cut_hi hn, List.length_drop, ← len_tl]; omega
        have c3 : (⟨#[c]⟩ : Str).length = 1 := rfl
        have a1 : fAdd (.str (cutS stem none (some (n : Int)))) (.str ⟨#[c]⟩) = some (.str (cutS stem none (some (n : Int)) ++ ⟨#[c]⟩)) := fAddS (by omega)
        have a2 : fAdd (.str (cutS stem none (some (n : Int)) ++ ⟨#[c]⟩)) (.str (cutS stem (some (n : Int)) none)) = some (.str (cutS stem none (some (n : Int)) ++ ⟨#[c]⟩ ++ cutS stem (some (n : Int)) none)) := fAddS (by rw [app_len]; omega)
        refine ⟨_, ⟨[some (.ref 0), some (.d (.int (many : Int))), some (.d (.str sg)), some (.d (.str stem)), some (.d (.int (n : Int))), some (.own (.lst ((nm ++ [nw]).map .str))), some (.d (.int j)), o7', some (.d (.str nw)), none], m2⟩, rfl, ?_, nm ++ [nw], m2, _, _, _, rfl, g1, g2, by rw [List.length_append, h3]; rfl, I2.mono (by omega), h5⟩
        rw [← hbt]
        generalize nm.map PyData.str = nd at *
        generalize (nm ++ [nw]).map PyData.str = nd' at *
        simp [eb, rb, er, es, sSeq, sIf, sSet, setS, evD, opd, resolve, cP2, cBoxV, cVar, cCall, doCall, cList, fIx, fCmpI, fI, toB, cSl, part, d2, hc, sgl, fl, fh, a1, a2, et]
  obtain ⟨r, m1, d1, I1, p1, p2⟩ := v_draw k hI (by omega) (many := 2) (by decide) (by decide)
  have nm1 := rg1_n (n := many) (by omega)
  have sgl := sg_len
  by_cases h0 : r = 0
  · subst h0
    obtain ⟨r2, m2, d2, I2, p3, p4⟩ := v_draw k I1 (by omega) (many := 26) (by decide) (by decide)
    obtain ⟨c, hc, ac, sc⟩ := sg_at p3 (by omega)
    have sc := sc p4
    obtain ⟨r3, m3, d3, I3, p5, p6⟩ := v_draw k I2 (by omega) (many := 9) (by decide) (by decide)
    obtain ⟨s1, m4, r7, eS, hp9, I4, ho7⟩ := LS r3.toNat ⟨#[c]⟩ _ m3 (some (.d (.int (-1)))) none none none none none I3 (by omega) (by omega) (pre_one sc) (.inl rfl)
    have l9 := hp9.le
    obtain ⟨r5, m5, d5, I5, p7, p8⟩ := v_draw k I4 (by omega) (many := (s1.length : Int) + 1) (by omega) (log_ok (by omega))
    obtain ⟨nm, m6, o6, o7', o8, eT, g1, g2, g3, I6⟩ := LT s1 r5 _ m5 r7 (.inr ⟨r5.toNat, by omega, by omega, hp9⟩) I5 (by omega) ho7
    refine ⟨nm, m6, ?_, I6.mono (by omega), g1, g2, g3⟩
    have n2 : rg1 r3 = er (rangeD 0 r3.toNat) := rg1_v (by omega) (by omega)
    have l9' : s1.length ≤ 1000000 := by omega
    have hT := hI.take I6
    generalize nm.map PyData.str = nd at *
    simp [eb, rb, er, es, sSeq, sIf, sRet, sSet, sSetN, setS, setN, sExpr, sTup, setAll, evD, cVar, opd, resolve, cP1, cP2, cPN, cList, resolves, cTup, cLst, cFrz, cBoxN, cBoxV, cTru, truth, toB, cAnd, cOr, cNot, cAndV, cOrV, cNotV, cIf, cCh, fAdd, fSub, fCmpI, fNeg, fIsi, isT, fI, f1, f2, fLen, fInt, fTupleOf, fIx, cCall, doCall, cCallK, runF, exitF, Ob.data, sRaise, cNewL, modSlot, gPut, sPut, isLst, sAug, sAugIx, augF.fAugAdd, fGet, gApp, cApp, b2i, cExt, gExt, seqOf, cGet, cGet1, isDt, fGetD, keyOf, cPairs, mergeD, cDisp, fFmt, cJs, fIntU, fInt, fKd, fKdIn, fIsiT, fAbs_v, fGcd_v, fEqI_v, fNeI_v, sFor, srcR1, d1, d2, d3, d5, hc, sgl, n2, eS, l9', nm1, eT, hT]
  · obtain ⟨nm, m6, o6, o7', o8, eT, g1, g2, g3, I6⟩ := LT "" (-1) _ m1 none (.inl rfl) I1 (by omega) (.inl rfl)
    refine ⟨nm, m6, ?_, I6.mono (by omega), g1, g2, g3⟩
    have hT := hI.take I6
    generalize nm.map PyData.str = nd at *
    simp [eb, rb, er, es, sSeq, sIf, sRet, sSet, sSetN, setS, setN, sExpr, sTup, setAll, evD, cVar, opd, resolve, cP1, cP2, cPN, cList, resolves, cTup, cLst, cFrz, cBoxN, cBoxV, cTru, truth, toB, cAnd, cOr, cNot, cAndV, cOrV, cNotV, cIf, cCh, fAdd, fSub, fCmpI, fNeg, fIsi, isT, fI, f1, f2, fLen, fInt, fTupleOf, fIx, cCall, doCall, cCallK, runF, exitF, Ob.data, sRaise, cNewL, modSlot, gPut, sPut, isLst, sAug, sAugIx, augF.fAugAdd, fGet, gApp, cApp, b2i, cExt, gExt, seqOf, cGet, cGet1, isDt, fGetD, keyOf, cPairs, mergeD, cDisp, fFmt, cJs, fIntU, fInt, fKd, fKdIn, fIsiT, fAbs_v, fGcd_v, fEqI_v, fNeI_v, sFor, srcR1, d1, h0, nm1, eT, hT]
end MP
namespace MP
open PySem PySem.Spec PyProof.Rows L2 TL
theorem two_at {a b r : Int} (h : r = 0 ∨ r = 1) : ∃ z, atI [PyData.int a, .int b] r = some (.int z) ∧ (z = a ∨ z = b) := by
  rcases h with rfl | rfl
  · exact ⟨a, rfl, .inl rfl⟩
  · exact ⟨b, rfl, .inr rfl⟩
theorem v_drawn (k : Nat) {b : Int} {ns : List Int} {m : List Box} (hI : In b ns m) (hb : b < 200000) :
    ∃ sts code m', evalF g (k + 5) "_law_drawn" [.ref 0] m = .ok (.d (imgD sts code)) ⟨[], m'⟩ ∧ In (b + 6000) ns m' ∧ Img sts code := by
  obtain ⟨a1, m1, d1, I1, p1, q1⟩ := v_draw (k + 3) hI (by omega) (many := 13) (by decide) (by decide)
  obtain ⟨a2, m2, d2, I2, p2, q2⟩ := v_draw (k + 3) I1 (by omega) (many := 71) (by decide) (by decide)
  obtain ⟨a3, m3, d3, I3, p3, q3⟩ := v_draw (k + 3) I2 (by omega) (many := 5) (by decide) (by decide)
  obtain ⟨a4, m4, d4, I4, p4, q4⟩ := v_draw (k + 3) I3 (by omega) (many := 5) (by decide) (by decide)
  obtain ⟨a5, m5, d5, I5, p5, q5⟩ := v_draw (k + 3) I4 (by omega) (many := 13) (by decide) (by decide)
  obtain ⟨a6, m6, d6, I6, p6, q6⟩ := v_draw (k + 3) I5 (by omega) (many := 3) (by decide) (by decide)
  obtain ⟨size, z1, z2⟩ := two_at (a := a1) (b := a2) (r := a3 / 4) (by omega)
  obtain ⟨many, y1, y2⟩ := two_at (a := a4) (b := a5) (r := a6 / 2) (by omega)
  have hs : 0 ≤ size ∧ size < 71 := by omega
  have hm : 0 ≤ many ∧ many < 13 := by omega
  have f4 := fDiv_v (i := a3) (j := 4) (by decide) (by decide)
  have f2 := fDiv_v (i := a6) (j := 2) (by decide) (by decide)
  rw [e_ldrawn]
  by_cases h0 : size = 0
  · subst h0
    obtain ⟨nm, m7, e7, I7, n1, n2, n3⟩ := v_names (k + 2) (many := 0) I6 (by omega) (by decide)
    obtain ⟨sts, code, m8, e8, I8, im, _⟩ := v_image k (size := 0) I7 (by omega) n1 n2 (by omega) (by decide) (fun _ => List.eq_nil_of_length_eq_zero n3)
    have e7 : evalF g (k + 4) "_law_names" [.ref 0, .d (.int 0)] m6 = _ := e7
    have e8 : evalF g (k + 4) "_law_image" [.ref 0, .d (.int 0), .d (.list (nm.map .str))] m7 = _ := e8
    refine ⟨sts, code, m8, ?_, I8.mono (by omega), im⟩
    have hT := hI.take I8
    generalize imgD sts code = im' at *
    generalize nm.map PyData.str = nd at *
    simp [m_ldrawn, eb, rb, er, es, sSeq, sIf, sRet, sSet, sSetN, setS, setN, sExpr, sTup, setAll, evD, cVar, opd, resolve, cP1, cP2, cPN, cList, resolves, cTup, cLst, cFrz, cBoxN, cBoxV, cTru, truth, toB, cAnd, cOr, cNot, cAndV, cOrV, cNotV, cIf, cCh, fAdd, fSub, fCmpI, fNeg, fIsi, isT, fI, f1, f2, fLen, fInt, fTupleOf, fIx, cCall, doCall, cCallK, runF, exitF, Ob.data, sRaise, cNewL, modSlot, gPut, sPut, isLst, sAug, sAugIx, augF.fAugAdd, fGet, gApp, cApp, b2i, cExt, gExt, seqOf, cGet, cGet1, isDt, fGetD, keyOf, cPairs, mergeD, cDisp, fFmt, cJs, fIntU, fInt, fKd, fKdIn, fIsiT, fAbs_v, fGcd_v, fEqI_v, fNeI_v, d1, d2, d3, d4, d5, d6, f4, f2, z1, y1, e7, e8, hT]
  · obtain ⟨nm, m7, e7, I7, n1, n2, n3⟩ := v_names (k + 2) (many := many.toNat) I6 (by omega) (by omega)
    obtain ⟨sts, code, m8, e8, I8, im, _⟩ := v_image k (size := size.toNat) I7 (by omega) n1 n2 (by omega) (by omega) (fun z => by omega)
    rw [show ((many.toNat : Nat) : Int) = many by omega] at e7
    rw [show ((size.toNat : Nat) : Int) = size by omega] at e8
    have e7 : evalF g (k + 4) "_law_names" [.ref 0, .d (.int many)] m6 = _ := e7
    refine ⟨sts, code, m8, ?_, I8.mono (by omega), im⟩
    have hT := hI.take I8
    generalize imgD sts code = im' at *
    generalize nm.map PyData.str = nd at *
    simp [m_ldrawn, eb, rb, er, es, sSeq, sIf, sRet, sSet, sSetN, setS, setN, sExpr, sTup, setAll, evD, cVar, opd, resolve, cP1, cP2, cPN, cList, resolves, cTup, cLst, cFrz, cBoxN, cBoxV, cTru, truth, toB, cAnd, cOr, cNot, cAndV, cOrV, cNotV, cIf, cCh, fAdd, fSub, fCmpI, fNeg, fIsi, isT, fI, f1, f2, fLen, fInt, fTupleOf, fIx, cCall, doCall, cCallK, runF, exitF, Ob.data, sRaise, cNewL, modSlot, gPut, sPut, isLst, sAug, sAugIx, augF.fAugAdd, fGet, gApp, cApp, b2i, cExt, gExt, seqOf, cGet, cGet1, isDt, fGetD, keyOf, cPairs, mergeD, cDisp, fFmt, cJs, fIntU, fInt, fKd, fKdIn, fIsiT, fAbs_v, fGcd_v, fEqI_v, fNeI_v, d1, d2, d3, d4, d5, d6, f4, f2, z1, y1, h0, e7, e8, hT]
theorem v_turned (k : Nat) {b : Int} {ns : List Int} {m : List Box} {sts : List (Str × Int)} {code : List (Str × List PyData)} (hI : In b ns m) (hb : b < 800000) (h : Img sts code) (hne : code ≠ []) :
    ∃ code' m', evalF g (k + 2) "_law_turned" [.ref 0, .d (imgD sts code)] m = .ok (.d (imgD sts code')) ⟨[], m'⟩ ∧ In (b + 2) ns m' ∧ Img sts code' := by
  have hl : 0 < code.length := by
    cases code with
    | nil => exact absurd rfl hne
    | cons _ _ => rw [List.length_cons]; omega
  have hsz := h.size
  obtain ⟨i, m1, d1, I1, p1, q1⟩ := v_draw k hI (by omega) (many := (code.length : Int)) (by omega) (log_ok (by omega))
  obtain ⟨j, m2, d2, I2, p2, q2⟩ := v_draw k I1 (by omega) (many := (code.length : Int)) (by omega) (log_ok (by omega))
  obtain ⟨ci, hi⟩ : ∃ c, code[i.toNat]? = some c := ⟨_, List.getElem?_eq_getElem (by omega)⟩
  obtain ⟨cj, hj⟩ : ∃ c, code[j.toNat]? = some c := ⟨_, List.getElem?_eq_getElem (by omega)⟩
  have b0 : atI [PyData.tuple (sts.map stD), .tuple (code.map coD)] (0 : Int) = some (.tuple (sts.map stD)) := rfl
  have b1 : atI [PyData.tuple (sts.map stD), .tuple (code.map coD)] (1 : Int) = some (.tuple (code.map coD)) := rfl
  have ai : atI (code.map coD) i = some (coD ci) := by rw [atI_nat' p1, List.getElem?_map, hi]; rfl
  have aj : atI (code.map coD) j = some (coD cj) := by rw [atI_nat' p2, List.getElem?_map, hj]; rfl
  have lc : (code.map coD).length = code.length := List.length_map ..
  have xi : ixN code.length i = some i.toNat := by
    unfold ixN
    rw [if_pos p1, if_pos q1]
  have xj : ixN code.length j = some j.toNat := by
    unfold ixN
    rw [if_pos p2, if_pos q2]
  have lc2 : ((code.map coD).set i.toNat (coD cj)).length = code.length := by rw [List.length_set, lc]
  refine ⟨(code.set i.toNat cj).set j.toNat ci, m2, ?_, I2.mono (by omega), ?_⟩
  · rw [e_lturned]
    have es' : ((code.set i.toNat cj).set j.toNat ci).map coD = ((code.map coD).set i.toNat (coD cj)).set j.toNat (coD ci) := by rw [List.map_set, List.map_set]
    have hT := hI.take I2
    simp only [imgD, es']
    generalize hcd : code.map coD = cd at *
    generalize hc2 : cd.set i.toNat (coD cj) = cd2 at *
    generalize sts.map stD = sd at *
    generalize coD ci = di at *
    generalize coD cj = dj at *
    simp [m_lturned, eb, rb, er, es, sSeq, sIf, sRet, sSet, sSetN, setS, setN, sExpr, sTup, setAll, evD, cVar, opd, resolve, cP1, cP2, cPN, cList, resolves, cTup, cLst, cFrz, cBoxN, cBoxV, cTru, truth, toB, cAnd, cOr, cNot, cAndV, cOrV, cNotV, cIf, cCh, fAdd, fSub, fCmpI, fNeg, fIsi, isT, fI, f1, f2, fLen, fInt, fTupleOf, fIx, cCall, doCall, cCallK, runF, exitF, Ob.data, sRaise, cNewL, modSlot, gPut, sPut, isLst, sAug, sAugIx, augF.fAugAdd, fGet, gApp, cApp, b2i, cExt, gExt, seqOf, cGet, cGet1, isDt, fGetD, keyOf, cPairs, mergeD, cDisp, fFmt, cJs, fIntU, fInt, fKd, fKdIn, fIsiT, fAbs_v, fGcd_v, fEqI_v, fNeI_v, b0, b1, lc, lc2, d1, d2, ai, aj, xi, xj, hc2, hT]
  · have mem : ∀ c ∈ (code.set i.toNat cj).set j.toNat ci, c ∈ code := fun c hc => by
      rcases List.mem_or_eq_of_mem_set hc with hc | rfl
      · rcases List.mem_or_eq_of_mem_set hc with hc | rfl
        · exact hc
        · exact List.mem_of_getElem? hj
      · exact List.mem_of_getElem? hi
    have ll : ((code.set i.toNat cj).set j.toNat ci).length = code.length := by rw [List.length_set, List.length_set]
    exact ⟨h.names, h.nodup, by rw [ll]; exact h.addr, h.few, by rw [ll]; exact h.size, by rw [ll]; exact fun c hc => h.ins c (mem c hc)⟩
theorem img_nil : Img [] [] := ⟨fun s h => by simp at h, List.nodup_nil, fun p h => by simp at h, by decide, by decide, fun c h => by simp at h⟩
theorem img_ret : Img [] [("return", [])] := ⟨fun s h => by simp at h, List.nodup_nil, fun p h => by simp at h, by decide, by decide, fun c h => by
  rw [List.mem_singleton.mp h]
  exact ⟨"", by kernel_rfl, .nil⟩⟩
theorem law_v (k : Nat) (ns : List Int) (hl : ns.length ≤ 63) : ∃ s', evalF g (k + 9) "law" [.d (.list (ns.map .int))] [] = .ok (.d (.bool true)) s' := by
  have hw : evalF g (k + 8) "_law_well" [.d (.list (ns.map .int))] [] = .ok (.ref 0) ⟨[], [Wb 0 0 (ns.map .int) 0]⟩ := by
    rw [e_lwell]
    simp [m_lwell, eb, rb, er, es, sSeq, sIf, sRet, sSet, sSetN, setS, setN, sExpr, sTup, setAll, evD, cVar, opd, resolve, cP1, cP2, cPN, cList, resolves, cTup, cLst, cFrz, cBoxN, cBoxV, cTru, truth, toB, cAnd, cOr, cNot, cAndV, cOrV, cNotV, cIf, cCh, fAdd, fSub, fCmpI, fNeg, fIsi, isT, fI, f1, f2, fLen, fInt, fTupleOf, fIx, cCall, doCall, cCallK, runF, exitF, Ob.data, sRaise, cNewL, modSlot, gPut, sPut, isLst, sAug, sAugIx, augF.fAugAdd, fGet, gApp, cApp, b2i, cExt, gExt, seqOf, cGet, cGet1, isDt, fGetD, keyOf, cPairs, mergeD, cDisp, fFmt, cJs, fIntU, fInt, fKd, fKdIn, fIsiT, fAbs_v, fGcd_v, fEqI_v, fNeI_v, Wb]
  have I0 : In 0 ns [Wb 0 0 (ns.map .int) 0] := ⟨0, 0, 0, rfl, by decide, by decide, by decide, by decide, by decide⟩
  generalize [Wb 0 0 (ns.map .int) 0] = m0 at *
  have et : txt [] [] = "" := by kernel_rfl
  have w1 := v_write_image (k + 1) m0 img_nil
  have w2 := v_read_image (k + 2) m0 img_nil
  rw [et] at w1 w2
  have w3 : evalF g (k + 8) "_law_same" [.d (imgD [] []), .d (imgD [] [])] m0 = _ := v_same 5 img_nil.sm (k + 3) m0
  have w1 : evalF g (k + 8) "write_image" [.d (.tuple [.tuple [], .tuple []])] m0 = .ok (.d (.str "")) ⟨[], m0⟩ := w1
  have w2 : evalF g (k + 8) "read_image" [.d (.str "")] m0 = .ok (.d (.tuple [.tuple [], .tuple []])) ⟨[], m0⟩ := w2
  have w3 : evalF g (k + 8) "_law_same" [.d (.tuple [.tuple [], .tuple []]), .d (.tuple [.tuple [], .tuple []])] m0 = .ok (.d (.bool true)) ⟨[], m0⟩ := w3
  have fN := fNeS_v
  have n4 : rg1 4 = er (rangeD 0 4) := rg1_n (n := 4) (by decide)
  rw [e_law_]
  simp only [m_law_]
  generalize hbd : (sSeq (sSet 4 _) _) = body
  have L : ∃ s', forL (tgName 3) body (rangeD 0 4) ⟨[some (.d (.list (ns.map .int))), some (.ref 0), some (.d (imgD [] [("return", [])])), none, none], m0⟩ = .ok .next s' := by
    have z := forL_inv (t := tgName 3) (body := body) (fun j s => ∃ (sts : List (Str × Int)) (code : List (Str × List PyData)) (m1 : List Box) (o3 o4 : Option W), s = ⟨[some (.d (.list (ns.map .int))), some (.ref 0), some (.d (imgD sts code)), o3, o4], m1⟩ ∧ Img sts code ∧ In (6100 * j) ns m1) (rangeD 0 4) 0 ⟨[some (.d (.list (ns.map .int))), some (.ref 0), some (.d (imgD [] [("return", [])])), none, none], m0⟩ ⟨[], [("return", [])], m0, none, none, rfl, img_ret, by simpa using I0⟩ fun j x s hx hP => ?_
    · obtain ⟨s', e1, _⟩ := z
      exact ⟨s', e1⟩
    · obtain ⟨sts, code, m1, o3, o4, rfl, him, I1⟩ := hP
      rw [Nat.zero_add] at I1
      rw [Nat.zero_add]
      obtain ⟨hj, rfl⟩ := range_at hx
      obtain ⟨sts2, code2, m2, d2, I2, im2⟩ := v_drawn (k + 3) I1 (by omega)
      have r1 := v_right k m2 him
      have r2 := v_right k m2 im2
      have ne := fNe_nil (n := 64) (xs := code2.map coD) (by
        have z := im2.sm
        cases z with
        | t _ hh =>
          have z2 := hh (.tuple (code2.map coD)) (by simp)
          have up : ∀ (q : Nat), SM (4 + q) (.tuple (code2.map coD)) := fun q => by
            induction q with
            | zero => exact z2
            | succ q ih => exact ih.mono
          exact up 60) (by decide)
      have b1 : fIx (imgD sts2 code2) (.int 1) = some (.tuple (code2.map coD)) := rfl
      by_cases hne : code2 = []
      · have e0 : (code2.map coD).isEmpty = true := by rw [hne]; rfl
        rw [e0] at ne
        refine ⟨_, ⟨[some (.d (.list (ns.map .int))), some (.ref 0), some (.d (imgD sts2 code2)), some (.d (.int j)), some (.d (imgD sts2 code2))], m2⟩, rfl, ?_, sts2, code2, m2, _, _, rfl, im2, I2.mono (by omega)⟩
        rw [← hbd]
        generalize imgD sts2 code2 = i2 at *
        generalize imgD sts code = i1 at *
        generalize code2.map coD = cd at *
        simp [eb, rb, er, es, sSeq, sIf, sSet, setS, evD, opd, resolve, cP2, cBoxV, cVar, cCall, doCall, cList, cTru, truth, cNot, cOr, cAnd, toB, cTup, d2, r1, r2, b1, ne]
      · have e0 : (code2.map coD).isEmpty = false := by
          cases code2 with
          | nil => exact absurd rfl hne
          | cons _ _ => rfl
        rw [e0] at ne
        obtain ⟨code3, m3, d3, I3, im3⟩ := v_turned (k + 6) I2 (by omega) im2 hne
        have r3 := v_right k m3 im3
        refine ⟨_, ⟨[some (.d (.list (ns.map .int))), some (.ref 0), some (.d (imgD sts2 code2)), some (.d (.int j)), some (.d (imgD sts2 code2))], m3⟩, rfl, ?_, sts2, code2, m3, _, _, rfl, im2, I3.mono (by omega)⟩
        rw [← hbd]
        generalize imgD sts2 code2 = i2 at *
        generalize imgD sts2 code3 = i3 at *
        generalize imgD sts code = i1 at *
        generalize code2.map coD = cd at *
        simp [eb, rb, er, es, sSeq, sIf, sSet, setS, evD, opd, resolve, cP2, cBoxV, cVar, cCall, doCall, cList, cTru, truth, cNot, cOr, cAnd, toB, cTup, d2, r1, r2, b1, ne, d3, r3]
  obtain ⟨s', eL⟩ := L
  have eL : forL (tgName 3) body (rangeD 0 4) ⟨[some (.d (.list (ns.map .int))), some (.ref 0), some (.d (.tuple [.tuple [], .tuple [.tuple [.str "return"]]])), none, none], m0⟩ = .ok .next s' := eL
  simp [eb, rb, er, es, sSeq, sIf, sRet, sSet, sSetN, setS, setN, sExpr, sTup, setAll, evD, cVar, opd, resolve, cP1, cP2, cPN, cList, resolves, cTup, cLst, cFrz, cBoxN, cBoxV, cTru, truth, toB, cAnd, cOr, cNot, cAndV, cOrV, cNotV, cIf, cCh, fAdd, fSub, fCmpI, fNeg, fIsi, isT, fI, f1, f2, fLen, fInt, fTupleOf, fIx, cCall, doCall, cCallK, runF, exitF, Ob.data, sRaise, cNewL, modSlot, gPut, sPut, isLst, sAug, sAugIx, augF.fAugAdd, fGet, gApp, cApp, b2i, cExt, gExt, seqOf, cGet, cGet1, isDt, fGetD, keyOf, cPairs, mergeD, cDisp, fFmt, cJs, fIntU, fInt, fKd, fKdIn, fIsiT, fAbs_v, fGcd_v, fEqI_v, fNeI_v, cCallK, kwOrd, hw, w1, w2, w3, fN, sFor, srcR1, n4, eL]
theorem law_true (ns : List Int) (h : ns.length ≤ 63) : ∃ s', evalF g 9 "law" [.d (.list (ns.map .int))] [] = .ok (.d (.bool true)) s' := law_v 0 ns h
end MP
namespace MP
open PySem PySem.Spec PyProof.Rows L2
def lawSp (K : PySem.W.Frag) : Sp := spF K (CLK ["BadImage"] K) 1 (evalF g 9 "law")
/-- what stands behind the top, and the promise of the law -/
theorem all_mk {P : Program} {w : World} {K : PySem.W.Frag} {h : Heap} {mg : Str → Option Value} {fa x_p_is_int x_p_within x_p_is_name x_p_is_low x_p_is_part x_p_is_instruction x_p_line_of x_p_number_of x_p_start_of x_p_instruction_of x_p_start_names x_p_is_image x_p_need_image x_p_write_image x_p_read_starts x_p_read_image x_lwell x_ldraw x_lnames x_lform x_lwords x_lbounds x_lbetween x_lpart x_limage x_lsame x_ltext x_ldrawn x_lturned x_lright x_law_ C_BadImage : Addr} (X : K.In h) (G : h.Ns mainGlobals mg) (hfa : mg "law" = some (.ref fa))
    {tk_LETTERS tk_SMALL tk_DIGITS_names tk_WORDS_0 tk_WORDS_1 tk_WORDS_2 tk_WORDS_3 tk_WORDS_4 tk_WORDS_5 tk_WORDS_6 tk_WORDS_7 tk_LONGEST_NAME tk_MOST_CODE tk_MOST_STARTS tk_FORMS_v0 tk_FORMS_v1 tk_FORMS_v2 tk_FORMS_v3 tk_FORMS_v4 tk_FORMS_v5 tk_FORMS_v6 tk_FORMS_v7 tk_FORMS_v8 tk_FORMS_v9 tk_FORMS_v10 tk_FORMS_v11 tk_FORMS_v12 tk_FORMS_v13 tk_FORMS_v14 tk_FORMS_v15 tk_FORMS_v16 tk_FORMS_v17 tkk_FORMS_0 tkk_FORMS_1 tkk_FORMS_2 tkk_FORMS_3 tkk_FORMS_4 tkk_FORMS_5 tkk_FORMS_6 tkk_FORMS_7 tkk_FORMS_8 tkk_FORMS_9 tkk_FORMS_10 tkk_FORMS_11 tkk_FORMS_12 tkk_FORMS_13 tkk_FORMS_14 tkk_FORMS_15 tkk_FORMS_16 tkk_FORMS_17 tk_BOUNDS_v0_0 tk_BOUNDS_v0_1 tk_BOUNDS_v1_0 tk_BOUNDS_v1_1 tk_BOUNDS_v2_0 tk_BOUNDS_v2_1 tk_BOUNDS_v3_0 tk_BOUNDS_v3_1 tk_BOUNDS_v4_0 tk_BOUNDS_v4_1 tk_BOUNDS_v5_0 tk_BOUNDS_v5_1 tk_BOUNDS_v6_0 tk_BOUNDS_v6_1 tkk_BOUNDS_0 tkk_BOUNDS_1 tkk_BOUNDS_2 tkk_BOUNDS_3 tkk_BOUNDS_4 tkk_BOUNDS_5 tkk_BOUNDS_6 tk_DIGITS_imagetext : PySem.Tok}
    {at_WORDS ad_FORMS at_BOUNDS_v0 at_BOUNDS_v1 at_BOUNDS_v2 at_BOUNDS_v3 at_BOUNDS_v4 at_BOUNDS_v5 at_BOUNDS_v6 ad_BOUNDS : Addr}
    {dt_WORDS dt_BOUNDS_v0 dt_BOUNDS_v1 dt_BOUNDS_v2 dt_BOUNDS_v3 dt_BOUNDS_v4 dt_BOUNDS_v5 dt_BOUNDS_v6 : Option Addr}
    {nt_WORDS ne_FORMS nt_BOUNDS_v0 nt_BOUNDS_v1 nt_BOUNDS_v2 nt_BOUNDS_v3 nt_BOUNDS_v4 nt_BOUNDS_v5 nt_BOUNDS_v6 ne_BOUNDS : Nat}
    {st_WORDS st_BOUNDS_v0 st_BOUNDS_v1 st_BOUNDS_v2 st_BOUNDS_v3 st_BOUNDS_v4 st_BOUNDS_v5 st_BOUNDS_v6 : Array (Option Value)}
    {od_p_is_int an_p_is_int od_p_within an_p_within od_p_is_name an_p_is_name od_p_is_low an_p_is_low od_p_is_part an_p_is_part od_p_is_instruction an_p_is_instruction od_p_line_of an_p_line_of od_p_number_of an_p_number_of od_p_start_of an_p_start_of od_p_instruction_of an_p_instruction_of od_p_start_names an_p_start_names od_p_is_image an_p_is_image od_p_need_image an_p_need_image od_p_write_image an_p_write_image od_p_read_starts an_p_read_starts od_p_read_image an_p_read_image od_lwell an_lwell od_ldraw an_ldraw od_lnames an_lnames od_lform an_lform od_lwords an_lwords od_lbounds an_lbounds od_lbetween an_lbetween od_lpart an_lpart od_limage an_limage od_lsame an_lsame od_ltext an_ltext od_ldrawn an_ldrawn od_lturned an_lturned od_lright an_lright od_law_ an_law_ : Option Addr} {sl_p_is_int sl_p_within sl_p_is_name sl_p_is_low sl_p_is_part sl_p_is_instruction sl_p_line_of sl_p_number_of sl_p_start_of sl_p_instruction_of sl_p_start_names sl_p_is_image sl_p_need_image sl_p_write_image sl_p_read_starts sl_p_read_image sl_lwell sl_ldraw sl_lnames sl_lform sl_lwords sl_lbounds sl_lbetween sl_lpart sl_limage sl_lsame sl_ltext sl_ldrawn sl_lturned sl_lright sl_law_ : Array (Option Value)} {oc_p_is_int kV_p_is_int dc_p_is_int pm_p_is_int cd_p_is_int ct_p_is_int oc_p_within kV_p_within dc_p_within pm_p_within cd_p_within ct_p_within oc_p_is_name kV_p_is_name dc_p_is_name pm_p_is_name cd_p_is_name ct_p_is_name oc_p_is_low kV_p_is_low dc_p_is_low pm_p_is_low cd_p_is_low ct_p_is_low oc_p_is_part kV_p_is_part dc_p_is_part pm_p_is_part cd_p_is_part ct_p_is_part oc_p_is_instruction kV_p_is_instruction dc_p_is_instruction pm_p_is_instruction cd_p_is_instruction ct_p_is_instruction oc_p_line_of kV_p_line_of dc_p_line_of pm_p_line_of cd_p_line_of ct_p_line_of oc_p_number_of kV_p_number_of dc_p_number_of pm_p_number_of cd_p_number_of ct_p_number_of oc_p_start_of kV_p_start_of dc_p_start_of pm_p_start_of cd_p_start_of ct_p_start_of oc_p_instruction_of kV_p_instruction_of dc_p_instruction_of pm_p_instruction_of cd_p_instruction_of ct_p_instruction_of oc_p_start_names kV_p_start_names dc_p_start_names pm_p_start_names cd_p_start_names ct_p_start_names oc_p_is_image kV_p_is_image dc_p_is_image pm_p_is_image cd_p_is_image ct_p_is_image oc_p_need_image kV_p_need_image dc_p_need_image pm_p_need_image cd_p_need_image ct_p_need_image oc_p_write_image kV_p_write_image dc_p_write_image pm_p_write_image cd_p_write_image ct_p_write_image oc_p_read_starts kV_p_read_starts dc_p_read_starts pm_p_read_starts cd_p_read_starts ct_p_read_starts oc_p_read_image kV_p_read_image dc_p_read_image pm_p_read_image cd_p_read_image ct_p_read_image oc_lwell kV_lwell dc_lwell pm_lwell cd_lwell ct_lwell oc_ldraw kV_ldraw dc_ldraw pm_ldraw cd_ldraw ct_ldraw oc_lnames kV_lnames dc_lnames pm_lnames cd_lnames ct_lnames oc_lform kV_lform dc_lform pm_lform cd_lform ct_lform oc_lwords kV_lwords dc_lwords pm_lwords cd_lwords ct_lwords oc_lbounds kV_lbounds dc_lbounds pm_lbounds cd_lbounds ct_lbounds oc_lbetween kV_lbetween dc_lbetween pm_lbetween cd_lbetween ct_lbetween oc_lpart kV_lpart dc_lpart pm_lpart cd_lpart ct_lpart oc_limage kV_limage dc_limage pm_limage cd_limage ct_limage oc_lsame kV_lsame dc_lsame pm_lsame cd_lsame ct_lsame oc_ltext kV_ltext dc_ltext pm_ltext cd_ltext ct_ltext oc_ldrawn kV_ldrawn dc_ldrawn pm_ldrawn cd_ldrawn ct_ldrawn oc_lturned kV_lturned dc_lturned pm_lturned cd_lturned ct_lturned oc_lright kV_lright dc_lright pm_lright cd_lright ct_lright oc_law_ kV_law_ dc_law_ pm_law_ cd_law_ ct_law_ : Value}
    (a_p_is_int : PySem.W.nsIn K mainGlobals "is_int" = some (some (.ref x_p_is_int)))
    (l_p_is_int : K.lookup x_p_is_int = some ⟨oc_p_is_int, od_p_is_int, .func (PySem.W.fnOf "is_int" "is_int" (defArgs s_p_is_int) (defBody s_p_is_int) (defScope s_p_is_int) .none kV_p_is_int dc_p_is_int pm_p_is_int an_p_is_int cd_p_is_int ct_p_is_int), sl_p_is_int⟩)
    (c_0p_is_int : PySem.W.codeIn K cd_p_is_int "is_int" = true)
    (k_p_is_int : PySem.W.keepIn K (.ref x_p_is_int) = true)
    (a_p_within : PySem.W.nsIn K mainGlobals "within" = some (some (.ref x_p_within)))
    (l_p_within : K.lookup x_p_within = some ⟨oc_p_within, od_p_within, .func (PySem.W.fnOf "within" "within" (defArgs s_p_within) (defBody s_p_within) (defScope s_p_within) .none kV_p_within dc_p_within pm_p_within an_p_within cd_p_within ct_p_within), sl_p_within⟩)
    (c_0p_within : PySem.W.codeIn K cd_p_within "within" = true)
    (k_p_within : PySem.W.keepIn K (.ref x_p_within) = true)
    (a_p_is_name : PySem.W.nsIn K mainGlobals "is_name" = some (some (.ref x_p_is_name)))
    (l_p_is_name : K.lookup x_p_is_name = some ⟨oc_p_is_name, od_p_is_name, .func (PySem.W.fnOf "is_name" "is_name" (defArgs s_p_is_name) (defBody s_p_is_name) (defScope s_p_is_name) .none kV_p_is_name dc_p_is_name pm_p_is_name an_p_is_name cd_p_is_name ct_p_is_name), sl_p_is_name⟩)
    (c_0p_is_name : PySem.W.codeIn K cd_p_is_name "is_name" = true)
    (k_p_is_name : PySem.W.keepIn K (.ref x_p_is_name) = true)
    (a_p_is_low : PySem.W.nsIn K mainGlobals "is_low" = some (some (.ref x_p_is_low)))
    (l_p_is_low : K.lookup x_p_is_low = some ⟨oc_p_is_low, od_p_is_low, .func (PySem.W.fnOf "is_low" "is_low" (defArgs s_p_is_low) (defBody s_p_is_low) (defScope s_p_is_low) .none kV_p_is_low dc_p_is_low pm_p_is_low an_p_is_low cd_p_is_low ct_p_is_low), sl_p_is_low⟩)
    (c_0p_is_low : PySem.W.codeIn K cd_p_is_low "is_low" = true)
    (k_p_is_low : PySem.W.keepIn K (.ref x_p_is_low) = true)
    (a_p_is_part : PySem.W.nsIn K mainGlobals "is_part" = some (some (.ref x_p_is_part)))
    (l_p_is_part : K.lookup x_p_is_part = some ⟨oc_p_is_part, od_p_is_part, .func (PySem.W.fnOf "is_part" "is_part" (defArgs s_p_is_part) (defBody s_p_is_part) (defScope s_p_is_part) .none kV_p_is_part dc_p_is_part pm_p_is_part an_p_is_part cd_p_is_part ct_p_is_part), sl_p_is_part⟩)
    (c_0p_is_part : PySem.W.codeIn K cd_p_is_part "is_part" = true)
    (k_p_is_part : PySem.W.keepIn K (.ref x_p_is_part) = true)
    (a_p_is_instruction : PySem.W.nsIn K mainGlobals "is_instruction" = some (some (.ref x_p_is_instruction)))
    (l_p_is_instruction : K.lookup x_p_is_instruction = some ⟨oc_p_is_instruction, od_p_is_instruction, .func (PySem.W.fnOf "is_instruction" "is_instruction" (defArgs s_p_is_instruction) (defBody s_p_is_instruction) (defScope s_p_is_instruction) .none kV_p_is_instruction dc_p_is_instruction pm_p_is_instruction an_p_is_instruction cd_p_is_instruction ct_p_is_instruction), sl_p_is_instruction⟩)
    (c_0p_is_instruction : PySem.W.codeIn K cd_p_is_instruction "is_instruction" = true)
    (k_p_is_instruction : PySem.W.keepIn K (.ref x_p_is_instruction) = true)
    (a_p_line_of : PySem.W.nsIn K mainGlobals "line_of" = some (some (.ref x_p_line_of)))
    (l_p_line_of : K.lookup x_p_line_of = some ⟨oc_p_line_of, od_p_line_of, .func (PySem.W.fnOf "line_of" "line_of" (defArgs s_p_line_of) (defBody s_p_line_of) (defScope s_p_line_of) .none kV_p_line_of dc_p_line_of pm_p_line_of an_p_line_of cd_p_line_of ct_p_line_of), sl_p_line_of⟩)
    (c_0p_line_of : PySem.W.codeIn K cd_p_line_of "line_of" = true)
    (k_p_line_of : PySem.W.keepIn K (.ref x_p_line_of) = true)
    (a_p_number_of : PySem.W.nsIn K mainGlobals "number_of" = some (some (.ref x_p_number_of)))
    (l_p_number_of : K.lookup x_p_number_of = some ⟨oc_p_number_of, od_p_number_of, .func (PySem.W.fnOf "number_of" "number_of" (defArgs s_p_number_of) (defBody s_p_number_of) (defScope s_p_number_of) .none kV_p_number_of dc_p_number_of pm_p_number_of an_p_number_of cd_p_number_of ct_p_number_of), sl_p_number_of⟩)
    (c_0p_number_of : PySem.W.codeIn K cd_p_number_of "number_of" = true)
    (k_p_number_of : PySem.W.keepIn K (.ref x_p_number_of) = true)
    (a_p_start_of : PySem.W.nsIn K mainGlobals "start_of" = some (some (.ref x_p_start_of)))
    (l_p_start_of : K.lookup x_p_start_of = some ⟨oc_p_start_of, od_p_start_of, .func (PySem.W.fnOf "start_of" "start_of" (defArgs s_p_start_of) (defBody s_p_start_of) (defScope s_p_start_of) .none kV_p_start_of dc_p_start_of pm_p_start_of an_p_start_of cd_p_start_of ct_p_start_of), sl_p_start_of⟩)
    (c_0p_start_of : PySem.W.codeIn K cd_p_start_of "start_of" = true)
    (k_p_start_of : PySem.W.keepIn K (.ref x_p_start_of) = true)
    (a_p_instruction_of : PySem.W.nsIn K mainGlobals "instruction_of" = some (some (.ref x_p_instruction_of)))
    (l_p_instruction_of : K.lookup x_p_instruction_of = some ⟨oc_p_instruction_of, od_p_instruction_of, .func (PySem.W.fnOf "instruction_of" "instruction_of" (defArgs s_p_instruction_of) (defBody s_p_instruction_of) (defScope s_p_instruction_of) .none kV_p_instruction_of dc_p_instruction_of pm_p_instruction_of an_p_instruction_of cd_p_instruction_of ct_p_instruction_of), sl_p_instruction_of⟩)
    (c_0p_instruction_of : PySem.W.codeIn K cd_p_instruction_of "instruction_of" = true)
    (k_p_instruction_of : PySem.W.keepIn K (.ref x_p_instruction_of) = true)
    (a_p_start_names : PySem.W.nsIn K mainGlobals "start_names" = some (some (.ref x_p_start_names)))
    (l_p_start_names : K.lookup x_p_start_names = some ⟨oc_p_start_names, od_p_start_names, .func (PySem.W.fnOf "start_names" "start_names" (defArgs s_p_start_names) (defBody s_p_start_names) (defScope s_p_start_names) .none kV_p_start_names dc_p_start_names pm_p_start_names an_p_start_names cd_p_start_names ct_p_start_names), sl_p_start_names⟩)
    (c_0p_start_names : PySem.W.codeIn K cd_p_start_names "start_names" = true)
    (k_p_start_names : PySem.W.keepIn K (.ref x_p_start_names) = true)
    (a_p_is_image : PySem.W.nsIn K mainGlobals "is_image" = some (some (.ref x_p_is_image)))
    (l_p_is_image : K.lookup x_p_is_image = some ⟨oc_p_is_image, od_p_is_image, .func (PySem.W.fnOf "is_image" "is_image" (defArgs s_p_is_image) (defBody s_p_is_image) (defScope s_p_is_image) .none kV_p_is_image dc_p_is_image pm_p_is_image an_p_is_image cd_p_is_image ct_p_is_image), sl_p_is_image⟩)
    (c_0p_is_image : PySem.W.codeIn K cd_p_is_image "is_image" = true)
    (k_p_is_image : PySem.W.keepIn K (.ref x_p_is_image) = true)
    (a_p_need_image : PySem.W.nsIn K mainGlobals "need_image" = some (some (.ref x_p_need_image)))
    (l_p_need_image : K.lookup x_p_need_image = some ⟨oc_p_need_image, od_p_need_image, .func (PySem.W.fnOf "need_image" "need_image" (defArgs s_p_need_image) (defBody s_p_need_image) (defScope s_p_need_image) .none kV_p_need_image dc_p_need_image pm_p_need_image an_p_need_image cd_p_need_image ct_p_need_image), sl_p_need_image⟩)
    (c_0p_need_image : PySem.W.codeIn K cd_p_need_image "need_image" = true)
    (k_p_need_image : PySem.W.keepIn K (.ref x_p_need_image) = true)
    (a_p_write_image : PySem.W.nsIn K mainGlobals "write_image" = some (some (.ref x_p_write_image)))
    (l_p_write_image : K.lookup x_p_write_image = some ⟨oc_p_write_image, od_p_write_image, .func (PySem.W.fnOf "write_image" "write_image" (defArgs s_p_write_image) (defBody s_p_write_image) (defScope s_p_write_image) .none kV_p_write_image dc_p_write_image pm_p_write_image an_p_write_image cd_p_write_image ct_p_write_image), sl_p_write_image⟩)
    (c_0p_write_image : PySem.W.codeIn K cd_p_write_image "write_image" = true)
    (k_p_write_image : PySem.W.keepIn K (.ref x_p_write_image) = true)
    (a_p_read_starts : PySem.W.nsIn K mainGlobals "read_starts" = some (some (.ref x_p_read_starts)))
    (l_p_read_starts : K.lookup x_p_read_starts = some ⟨oc_p_read_starts, od_p_read_starts, .func (PySem.W.fnOf "read_starts" "read_starts" (defArgs s_p_read_starts) (defBody s_p_read_starts) (defScope s_p_read_starts) .none kV_p_read_starts dc_p_read_starts pm_p_read_starts an_p_read_starts cd_p_read_starts ct_p_read_starts), sl_p_read_starts⟩)
    (c_0p_read_starts : PySem.W.codeIn K cd_p_read_starts "read_starts" = true)
    (k_p_read_starts : PySem.W.keepIn K (.ref x_p_read_starts) = true)
    (a_p_read_image : PySem.W.nsIn K mainGlobals "read_image" = some (some (.ref x_p_read_image)))
    (l_p_read_image : K.lookup x_p_read_image = some ⟨oc_p_read_image, od_p_read_image, .func (PySem.W.fnOf "read_image" "read_image" (defArgs s_p_read_image) (defBody s_p_read_image) (defScope s_p_read_image) .none kV_p_read_image dc_p_read_image pm_p_read_image an_p_read_image cd_p_read_image ct_p_read_image), sl_p_read_image⟩)
    (c_0p_read_image : PySem.W.codeIn K cd_p_read_image "read_image" = true)
    (k_p_read_image : PySem.W.keepIn K (.ref x_p_read_image) = true)
    (a_lwell : PySem.W.nsIn K mainGlobals "_law_well" = some (some (.ref x_lwell)))
    (l_lwell : K.lookup x_lwell = some ⟨oc_lwell, od_lwell, .func (PySem.W.fnOf "_law_well" "_law_well" (defArgs s_lwell) (defBody s_lwell) (defScope s_lwell) .none kV_lwell dc_lwell pm_lwell an_lwell cd_lwell ct_lwell), sl_lwell⟩)
    (c_0lwell : PySem.W.codeIn K cd_lwell "_law_well" = true)
    (k_lwell : PySem.W.keepIn K (.ref x_lwell) = true)
    (a_ldraw : PySem.W.nsIn K mainGlobals "_law_draw" = some (some (.ref x_ldraw)))
    (l_ldraw : K.lookup x_ldraw = some ⟨oc_ldraw, od_ldraw, .func (PySem.W.fnOf "_law_draw" "_law_draw" (defArgs s_ldraw) (defBody s_ldraw) (defScope s_ldraw) .none kV_ldraw dc_ldraw pm_ldraw an_ldraw cd_ldraw ct_ldraw), sl_ldraw⟩)
    (c_0ldraw : PySem.W.codeIn K cd_ldraw "_law_draw" = true)
    (k_ldraw : PySem.W.keepIn K (.ref x_ldraw) = true)
    (a_lnames : PySem.W.nsIn K mainGlobals "_law_names" = some (some (.ref x_lnames)))
    (l_lnames : K.lookup x_lnames = some ⟨oc_lnames, od_lnames, .func (PySem.W.fnOf "_law_names" "_law_names" (defArgs s_lnames) (defBody s_lnames) (defScope s_lnames) .none kV_lnames dc_lnames pm_lnames an_lnames cd_lnames ct_lnames), sl_lnames⟩)
    (c_0lnames : PySem.W.codeIn K cd_lnames "_law_names" = true)
    (k_lnames : PySem.W.keepIn K (.ref x_lnames) = true)
    (a_lform : PySem.W.nsIn K mainGlobals "_law_form" = some (some (.ref x_lform)))
    (l_lform : K.lookup x_lform = some ⟨oc_lform, od_lform, .func (PySem.W.fnOf "_law_form" "_law_form" (defArgs s_lform) (defBody s_lform) (defScope s_lform) .none kV_lform dc_lform pm_lform an_lform cd_lform ct_lform), sl_lform⟩)
    (c_0lform : PySem.W.codeIn K cd_lform "_law_form" = true)
    (k_lform : PySem.W.keepIn K (.ref x_lform) = true)
    (a_lwords : PySem.W.nsIn K mainGlobals "_law_words" = some (some (.ref x_lwords)))
    (l_lwords : K.lookup x_lwords = some ⟨oc_lwords, od_lwords, .func (PySem.W.fnOf "_law_words" "_law_words" (defArgs s_lwords) (defBody s_lwords) (defScope s_lwords) .none kV_lwords dc_lwords pm_lwords an_lwords cd_lwords ct_lwords), sl_lwords⟩)
    (c_0lwords : PySem.W.codeIn K cd_lwords "_law_words" = true)
    (k_lwords : PySem.W.keepIn K (.ref x_lwords) = true)
    (a_lbounds : PySem.W.nsIn K mainGlobals "_law_bounds" = some (some (.ref x_lbounds)))
    (l_lbounds : K.lookup x_lbounds = some ⟨oc_lbounds, od_lbounds, .func (PySem.W.fnOf "_law_bounds" "_law_bounds" (defArgs s_lbounds) (defBody s_lbounds) (defScope s_lbounds) .none kV_lbounds dc_lbounds pm_lbounds an_lbounds cd_lbounds ct_lbounds), sl_lbounds⟩)
    (c_0lbounds : PySem.W.codeIn K cd_lbounds "_law_bounds" = true)
    (k_lbounds : PySem.W.keepIn K (.ref x_lbounds) = true)
    (a_lbetween : PySem.W.nsIn K mainGlobals "_law_between" = some (some (.ref x_lbetween)))
    (l_lbetween : K.lookup x_lbetween = some ⟨oc_lbetween, od_lbetween, .func (PySem.W.fnOf "_law_between" "_law_between" (defArgs s_lbetween) (defBody s_lbetween) (defScope s_lbetween) .none kV_lbetween dc_lbetween pm_lbetween an_lbetween cd_lbetween ct_lbetween), sl_lbetween⟩)
    (c_0lbetween : PySem.W.codeIn K cd_lbetween "_law_between" = true)
    (k_lbetween : PySem.W.keepIn K (.ref x_lbetween) = true)
    (a_lpart : PySem.W.nsIn K mainGlobals "_law_part" = some (some (.ref x_lpart)))
    (l_lpart : K.lookup x_lpart = some ⟨oc_lpart, od_lpart, .func (PySem.W.fnOf "_law_part" "_law_part" (defArgs s_lpart) (defBody s_lpart) (defScope s_lpart) .none kV_lpart dc_lpart pm_lpart an_lpart cd_lpart ct_lpart), sl_lpart⟩)
    (c_0lpart : PySem.W.codeIn K cd_lpart "_law_part" = true)
    (k_lpart : PySem.W.keepIn K (.ref x_lpart) = true)
    (a_limage : PySem.W.nsIn K mainGlobals "_law_image" = some (some (.ref x_limage)))
    (l_limage : K.lookup x_limage = some ⟨oc_limage, od_limage, .func (PySem.W.fnOf "_law_image" "_law_image" (defArgs s_limage) (defBody s_limage) (defScope s_limage) .none kV_limage dc_limage pm_limage an_limage cd_limage ct_limage), sl_limage⟩)
    (c_0limage : PySem.W.codeIn K cd_limage "_law_image" = true)
    (k_limage : PySem.W.keepIn K (.ref x_limage) = true)
    (a_lsame : PySem.W.nsIn K mainGlobals "_law_same" = some (some (.ref x_lsame)))
    (l_lsame : K.lookup x_lsame = some ⟨oc_lsame, od_lsame, .func (PySem.W.fnOf "_law_same" "_law_same" (defArgs s_lsame) (defBody s_lsame) (defScope s_lsame) .none kV_lsame dc_lsame pm_lsame an_lsame cd_lsame ct_lsame), sl_lsame⟩)
    (c_0lsame : PySem.W.codeIn K cd_lsame "_law_same" = true)
    (k_lsame : PySem.W.keepIn K (.ref x_lsame) = true)
    (a_ltext : PySem.W.nsIn K mainGlobals "_law_text" = some (some (.ref x_ltext)))
    (l_ltext : K.lookup x_ltext = some ⟨oc_ltext, od_ltext, .func (PySem.W.fnOf "_law_text" "_law_text" (defArgs s_ltext) (defBody s_ltext) (defScope s_ltext) .none kV_ltext dc_ltext pm_ltext an_ltext cd_ltext ct_ltext), sl_ltext⟩)
    (c_0ltext : PySem.W.codeIn K cd_ltext "_law_text" = true)
    (k_ltext : PySem.W.keepIn K (.ref x_ltext) = true)
    (a_ldrawn : PySem.W.nsIn K mainGlobals "_law_drawn" = some (some (.ref x_ldrawn)))
    (l_ldrawn : K.lookup x_ldrawn = some ⟨oc_ldrawn, od_ldrawn, .func (PySem.W.fnOf "_law_drawn" "_law_drawn" (defArgs s_ldrawn) (defBody s_ldrawn) (defScope s_ldrawn) .none kV_ldrawn dc_ldrawn pm_ldrawn an_ldrawn cd_ldrawn ct_ldrawn), sl_ldrawn⟩)
    (c_0ldrawn : PySem.W.codeIn K cd_ldrawn "_law_drawn" = true)
    (k_ldrawn : PySem.W.keepIn K (.ref x_ldrawn) = true)
    (a_lturned : PySem.W.nsIn K mainGlobals "_law_turned" = some (some (.ref x_lturned)))
    (l_lturned : K.lookup x_lturned = some ⟨oc_lturned, od_lturned, .func (PySem.W.fnOf "_law_turned" "_law_turned" (defArgs s_lturned) (defBody s_lturned) (defScope s_lturned) .none kV_lturned dc_lturned pm_lturned an_lturned cd_lturned ct_lturned), sl_lturned⟩)
    (c_0lturned : PySem.W.codeIn K cd_lturned "_law_turned" = true)
    (k_lturned : PySem.W.keepIn K (.ref x_lturned) = true)
    (a_lright : PySem.W.nsIn K mainGlobals "_law_right" = some (some (.ref x_lright)))
    (l_lright : K.lookup x_lright = some ⟨oc_lright, od_lright, .func (PySem.W.fnOf "_law_right" "_law_right" (defArgs s_lright) (defBody s_lright) (defScope s_lright) .none kV_lright dc_lright pm_lright an_lright cd_lright ct_lright), sl_lright⟩)
    (c_0lright : PySem.W.codeIn K cd_lright "_law_right" = true)
    (k_lright : PySem.W.keepIn K (.ref x_lright) = true)
    (a_law_ : PySem.W.nsIn K mainGlobals "law" = some (some (.ref x_law_)))
    (l_law_ : K.lookup x_law_ = some ⟨oc_law_, od_law_, .func (PySem.W.fnOf "law" "law" (defArgs s_law_) (defBody s_law_) (defScope s_law_) .none kV_law_ dc_law_ pm_law_ an_law_ cd_law_ ct_law_), sl_law_⟩)
    (c_0law_ : PySem.W.codeIn K cd_law_ "law" = true)
    (k_law_ : PySem.W.keepIn K (.ref x_law_) = true)
    (ac_BadImage : PySem.W.nsIn K mainGlobals "BadImage" = some (some (.ref C_BadImage)))
    (kc_BadImage : PySem.W.keepIn K (.ref C_BadImage) = true)
    (sc_BadImage : PySem.W.subIn K (.ref C_BadImage) (.type "BaseException") = some true)
    (tc_BadImage : PySem.W.typeIn K (.ref C_BadImage) = some (.type "type"))
    (xc_BadImage : PySem.W.excIn K C_BadImage [.type "ValueError", .type "Exception", .type "BaseException", .type "object"] "ValueError.__new__" = true)
    (g1_BadImage : PySem.W.findIn K (.ref C_BadImage) "__getattribute__" = some (some (.builtin "BaseException.__getattribute__")))
    (g2_BadImage : PySem.W.findIn K (.ref C_BadImage) "__getattr__" = some none)
    (g4_BadImage : PySem.W.hasDictIn K C_BadImage = true)
    (g8_BadImage : PySem.W.mroIn K C_BadImage (.type "object") = some true)
    (g5_BadImage : PySem.W.findIn K (.ref C_BadImage) "__class__" = some (some (.builtin "object.__class__")))
    (cv_LETTERS : PySem.W.nsIn K mainGlobals "LETTERS" = some (some (.str "abcdefghijklmnopqrstuvwxyzABCDEFGHIJKLMNOPQRSTUVWXYZ" tk_LETTERS)))
    (cv_SMALL : PySem.W.nsIn K mainGlobals "SMALL" = some (some (.str "abcdefghijklmnopqrstuvwxyz" tk_SMALL)))
    (cv_DIGITS_names : PySem.W.nsIn K mainGlobals "DIGITS_names" = some (some (.str "0123456789" tk_DIGITS_names)))
    (cv_WORDS : PySem.W.nsIn K mainGlobals "WORDS" = some (some (.ref at_WORDS)))
    (lt_WORDS : K.lookup at_WORDS = some ⟨.type "tuple", dt_WORDS, .seq (List.toArray [(.str "def" tk_WORDS_0), (.str "else" tk_WORDS_1), (.str "give" tk_WORDS_2), (.str "if" tk_WORDS_3), (.str "kind" tk_WORDS_4), (.str "let" tk_WORDS_5), (.str "match" tk_WORDS_6), (.str "whole" tk_WORDS_7)]) nt_WORDS, st_WORDS⟩)
    (cv_LONGEST_NAME : PySem.W.nsIn K mainGlobals "LONGEST_NAME" = some (some (.int 10 tk_LONGEST_NAME)))
    (cv_MOST_CODE : PySem.W.nsIn K mainGlobals "MOST_CODE" = some (some (.int 60000 tk_MOST_CODE)))
    (cv_MOST_STARTS : PySem.W.nsIn K mainGlobals "MOST_STARTS" = some (some (.int 12 tk_MOST_STARTS)))
    (cv_FORMS : PySem.W.nsIn K mainGlobals "FORMS" = some (some (.ref ad_FORMS)))
    (lk_FORMS : K.lookup ad_FORMS = some ⟨.type "dict", none, .dict (List.toArray [⟨PyData.keyHash w.params "set", .str "set" tkk_FORMS_0, (.str "rn" tk_FORMS_v0)⟩, ⟨PyData.keyHash w.params "copy", .str "copy" tkk_FORMS_1, (.str "rr" tk_FORMS_v1)⟩, ⟨PyData.keyHash w.params "add", .str "add" tkk_FORMS_2, (.str "rrr" tk_FORMS_v2)⟩, ⟨PyData.keyHash w.params "sub", .str "sub" tkk_FORMS_3, (.str "rrr" tk_FORMS_v3)⟩, ⟨PyData.keyHash w.params "times", .str "times" tkk_FORMS_4, (.str "rrm" tk_FORMS_v4)⟩, ⟨PyData.keyHash w.params "new", .str "new" tkk_FORMS_5, (.str "rw" tk_FORMS_v5)⟩, ⟨PyData.keyHash w.params "put", .str "put" tkk_FORMS_6, (.str "ror" tk_FORMS_v6)⟩, ⟨PyData.keyHash w.params "take", .str "take" tkk_FORMS_7, (.str "rro" tk_FORMS_v7)⟩, ⟨PyData.keyHash w.params "push", .str "push" tkk_FORMS_8, (.str "c" tk_FORMS_v8)⟩, ⟨PyData.keyHash w.params "drop", .str "drop" tkk_FORMS_9, (.str "c" tk_FORMS_v9)⟩, ⟨PyData.keyHash w.params "save", .str "save" tkk_FORMS_10, (.str "ir" tk_FORMS_v10)⟩, ⟨PyData.keyHash w.params "load", .str "load" tkk_FORMS_11, (.str "ri" tk_FORMS_v11)⟩, ⟨PyData.keyHash w.params "less", .str "less" tkk_FORMS_12, (.str "rrj" tk_FORMS_v12)⟩, ⟨PyData.keyHash w.params "table", .str "table" tkk_FORMS_13, (.str "rt" tk_FORMS_v13)⟩, ⟨PyData.keyHash w.params "jump", .str "jump" tkk_FORMS_14, (.str "j" tk_FORMS_v14)⟩, ⟨PyData.keyHash w.params "call", .str "call" tkk_FORMS_15, (.str "f" tk_FORMS_v15)⟩, ⟨PyData.keyHash w.params "go", .str "go" tkk_FORMS_16, (.str "f" tk_FORMS_v16)⟩, ⟨PyData.keyHash w.params "return", .str "return" tkk_FORMS_17, (.str "" tk_FORMS_v17)⟩]) ne_FORMS, #[]⟩)
    (sm_FORMS : (ad_FORMS == sysModules) = false)
    (cv_BOUNDS : PySem.W.nsIn K mainGlobals "BOUNDS" = some (some (.ref ad_BOUNDS)))
    (lk_BOUNDS : K.lookup ad_BOUNDS = some ⟨.type "dict", none, .dict (List.toArray [⟨PyData.keyHash w.params "r", .str "r" tkk_BOUNDS_0, (.ref at_BOUNDS_v0)⟩, ⟨PyData.keyHash w.params "n", .str "n" tkk_BOUNDS_1, (.ref at_BOUNDS_v1)⟩, ⟨PyData.keyHash w.params "m", .str "m" tkk_BOUNDS_2, (.ref at_BOUNDS_v2)⟩, ⟨PyData.keyHash w.params "w", .str "w" tkk_BOUNDS_3, (.ref at_BOUNDS_v3)⟩, ⟨PyData.keyHash w.params "c", .str "c" tkk_BOUNDS_4, (.ref at_BOUNDS_v4)⟩, ⟨PyData.keyHash w.params "o", .str "o" tkk_BOUNDS_5, (.ref at_BOUNDS_v5)⟩, ⟨PyData.keyHash w.params "i", .str "i" tkk_BOUNDS_6, (.ref at_BOUNDS_v6)⟩]) ne_BOUNDS, #[]⟩)
    (sm_BOUNDS : (ad_BOUNDS == sysModules) = false)
    (lt_BOUNDS_v0 : K.lookup at_BOUNDS_v0 = some ⟨.type "tuple", dt_BOUNDS_v0, .seq (List.toArray [(.int 0 tk_BOUNDS_v0_0), (.int 7 tk_BOUNDS_v0_1)]) nt_BOUNDS_v0, st_BOUNDS_v0⟩)
    (lt_BOUNDS_v1 : K.lookup at_BOUNDS_v1 = some ⟨.type "tuple", dt_BOUNDS_v1, .seq (List.toArray [(.int (-1000000000000) tk_BOUNDS_v1_0), (.int 1000000000000 tk_BOUNDS_v1_1)]) nt_BOUNDS_v1, st_BOUNDS_v1⟩)
    (lt_BOUNDS_v2 : K.lookup at_BOUNDS_v2 = some ⟨.type "tuple", dt_BOUNDS_v2, .seq (List.toArray [(.int (-1000000) tk_BOUNDS_v2_0), (.int 1000000 tk_BOUNDS_v2_1)]) nt_BOUNDS_v2, st_BOUNDS_v2⟩)
    (lt_BOUNDS_v3 : K.lookup at_BOUNDS_v3 = some ⟨.type "tuple", dt_BOUNDS_v3, .seq (List.toArray [(.int 1 tk_BOUNDS_v3_0), (.int 64 tk_BOUNDS_v3_1)]) nt_BOUNDS_v3, st_BOUNDS_v3⟩)
    (lt_BOUNDS_v4 : K.lookup at_BOUNDS_v4 = some ⟨.type "tuple", dt_BOUNDS_v4, .seq (List.toArray [(.int 0 tk_BOUNDS_v4_0), (.int 400 tk_BOUNDS_v4_1)]) nt_BOUNDS_v4, st_BOUNDS_v4⟩)
    (lt_BOUNDS_v5 : K.lookup at_BOUNDS_v5 = some ⟨.type "tuple", dt_BOUNDS_v5, .seq (List.toArray [(.int 0 tk_BOUNDS_v5_0), (.int 63 tk_BOUNDS_v5_1)]) nt_BOUNDS_v5, st_BOUNDS_v5⟩)
    (lt_BOUNDS_v6 : K.lookup at_BOUNDS_v6 = some ⟨.type "tuple", dt_BOUNDS_v6, .seq (List.toArray [(.int 0 tk_BOUNDS_v6_0), (.int 399 tk_BOUNDS_v6_1)]) nt_BOUNDS_v6, st_BOUNDS_v6⟩)
    (cv_DIGITS_imagetext : PySem.W.nsIn K mainGlobals "DIGITS_imagetext" = some (some (.str "0123456789" tk_DIGITS_imagetext)))
    (gs_n : PySem.W.specialIn K (.builtin "object.__class__") "__get__" = some (some (.builtin "getset_descriptor.__get__")))
    (gs_t : PySem.W.takesIn K (.builtin "object.__class__") = some true)
    (z_isinstance : PySem.W.nsIn K mainGlobals "isinstance" = some none)
    (z_int : PySem.W.nsIn K mainGlobals "int" = some none)
    (z_bool : PySem.W.nsIn K mainGlobals "bool" = some none)
    (z_all : PySem.W.nsIn K mainGlobals "all" = some none)
    (z_str : PySem.W.nsIn K mainGlobals "str" = some none)
    (z_len : PySem.W.nsIn K mainGlobals "len" = some none)
    (z_tuple : PySem.W.nsIn K mainGlobals "tuple" = some none)
    (z_range : PySem.W.nsIn K mainGlobals "range" = some none)
    (z_list : PySem.W.nsIn K mainGlobals "list" = some none)
    (z_abs : PySem.W.nsIn K mainGlobals "abs" = some none)
    (z_min : PySem.W.nsIn K mainGlobals "min" = some none)
    (z_max : PySem.W.nsIn K mainGlobals "max" = some none)
    : ∃ fd : FuncData, (∀ (s : Shared) (v : Value), BindsTo s fd ⟨[v], []⟩ [("_law_script", v)]) ∧ ∀ base : Heap, K.In base → base.Ns mainGlobals mg → FnOk P w K mg base (L2.CX P w) 9 fa fd ["_law_script"] (lawSp K) := by
  have e := hfa.symm.trans (PySem.W.mg_of X G a_law_)
  cases e
  have F_p_is_int := fun_mk (st := s_p_is_int) l_p_is_int c_0p_is_int k_p_is_int
  have T_p_is_int : TabIn K mg "is_int" f_p_is_int := tab_mk F_p_is_int (PySem.W.mg_of X G a_p_is_int) c_p_is_int rfl rfl (F_p_is_int.binds fun _ _ _ _ _ _ us hl => match us, hl with | [_], _ => rfl) (fun _ h => by cases h)
  have F_p_within := fun_mk (st := s_p_within) l_p_within c_0p_within k_p_within
  have T_p_within : TabIn K mg "within" f_p_within := tab_mk F_p_within (PySem.W.mg_of X G a_p_within) c_p_within rfl rfl (F_p_within.binds fun _ _ _ _ _ _ us hl => match us, hl with | [_, _, _], _ => rfl) (fun _ h => by cases h)
  have F_p_is_name := fun_mk (st := s_p_is_name) l_p_is_name c_0p_is_name k_p_is_name
  have T_p_is_name : TabIn K mg "is_name" f_p_is_name := tab_mk F_p_is_name (PySem.W.mg_of X G a_p_is_name) c_p_is_name rfl rfl (F_p_is_name.binds fun _ _ _ _ _ _ us hl => match us, hl with | [_], _ => rfl) (fun _ h => by cases h)
  have F_p_is_low := fun_mk (st := s_p_is_low) l_p_is_low c_0p_is_low k_p_is_low
  have T_p_is_low : TabIn K mg "is_low" f_p_is_low := tab_mk F_p_is_low (PySem.W.mg_of X G a_p_is_low) c_p_is_low rfl rfl (F_p_is_low.binds fun _ _ _ _ _ _ us hl => match us, hl with | [_], _ => rfl) (fun _ h => by cases h)
  have F_p_is_part := fun_mk (st := s_p_is_part) l_p_is_part c_0p_is_part k_p_is_part
  have T_p_is_part : TabIn K mg "is_part" f_p_is_part := tab_mk F_p_is_part (PySem.W.mg_of X G a_p_is_part) c_p_is_part rfl rfl (F_p_is_part.binds fun _ _ _ _ _ _ us hl => match us, hl with | [_, _, _, _], _ => rfl) (fun _ h => by cases h)
  have F_p_is_instruction := fun_mk (st := s_p_is_instruction) l_p_is_instruction c_0p_is_instruction k_p_is_instruction
  have T_p_is_instruction : TabIn K mg "is_instruction" f_p_is_instruction := tab_mk F_p_is_instruction (PySem.W.mg_of X G a_p_is_instruction) c_p_is_instruction rfl rfl (F_p_is_instruction.binds fun _ _ _ _ _ _ us hl => match us, hl with | [_, _, _], _ => rfl) (fun _ h => by cases h)
  have F_p_line_of := fun_mk (st := s_p_line_of) l_p_line_of c_0p_line_of k_p_line_of
  have T_p_line_of : TabIn K mg "line_of" f_p_line_of := tab_mk F_p_line_of (PySem.W.mg_of X G a_p_line_of) c_p_line_of rfl rfl (F_p_line_of.binds fun _ _ _ _ _ _ us hl => match us, hl with | [_], _ => rfl) (fun _ h => by cases h)
  have F_p_number_of := fun_mk (st := s_p_number_of) l_p_number_of c_0p_number_of k_p_number_of
  have T_p_number_of : TabIn K mg "number_of" f_p_number_of := tab_mk F_p_number_of (PySem.W.mg_of X G a_p_number_of) c_p_number_of rfl rfl (F_p_number_of.binds fun _ _ _ _ _ _ us hl => match us, hl with | [_], _ => rfl) (fun _ h => by cases h)
  have F_p_start_of := fun_mk (st := s_p_start_of) l_p_start_of c_0p_start_of k_p_start_of
  have T_p_start_of : TabIn K mg "start_of" f_p_start_of := tab_mk F_p_start_of (PySem.W.mg_of X G a_p_start_of) c_p_start_of rfl rfl (F_p_start_of.binds fun _ _ _ _ _ _ us hl => match us, hl with | [_, _], _ => rfl) (fun _ h => by cases h)
  have F_p_instruction_of := fun_mk (st := s_p_instruction_of) l_p_instruction_of c_0p_instruction_of k_p_instruction_of
  have T_p_instruction_of : TabIn K mg "instruction_of" f_p_instruction_of := tab_mk F_p_instruction_of (PySem.W.mg_of X G a_p_instruction_of) c_p_instruction_of rfl rfl (F_p_instruction_of.binds fun _ _ _ _ _ _ us hl => match us, hl with | [_, _, _], _ => rfl) (fun _ h => by cases h)
  have F_p_start_names := fun_mk (st := s_p_start_names) l_p_start_names c_0p_start_names k_p_start_names
  have T_p_start_names : TabIn K mg "start_names" f_p_start_names := tab_mk F_p_start_names (PySem.W.mg_of X G a_p_start_names) c_p_start_names rfl rfl (F_p_start_names.binds fun _ _ _ _ _ _ us hl => match us, hl with | [_, _], _ => rfl) (fun _ h => by cases h)
  have F_p_is_image := fun_mk (st := s_p_is_image) l_p_is_image c_0p_is_image k_p_is_image
  have T_p_is_image : TabIn K mg "is_image" f_p_is_image := tab_mk F_p_is_image (PySem.W.mg_of X G a_p_is_image) c_p_is_image rfl rfl (F_p_is_image.binds fun _ _ _ _ _ _ us hl => match us, hl with | [_], _ => rfl) (fun _ h => by cases h)
  have F_p_need_image := fun_mk (st := s_p_need_image) l_p_need_image c_0p_need_image k_p_need_image
  have T_p_need_image : TabIn K mg "need_image" f_p_need_image := tab_mk F_p_need_image (PySem.W.mg_of X G a_p_need_image) c_p_need_image rfl rfl (F_p_need_image.binds fun _ _ _ _ _ _ us hl => match us, hl with | [_], _ => rfl) (fun _ h => by cases h)
  have F_p_write_image := fun_mk (st := s_p_write_image) l_p_write_image c_0p_write_image k_p_write_image
  have T_p_write_image : TabIn K mg "write_image" f_p_write_image := tab_mk F_p_write_image (PySem.W.mg_of X G a_p_write_image) c_p_write_image rfl rfl (F_p_write_image.binds fun _ _ _ _ _ _ us hl => match us, hl with | [_], _ => rfl) (fun ks h => by
    simp only [f_p_write_image, List.mem_cons, List.not_mem_nil, or_false] at h
    subst h
    exact fun ws hl => match ws, hl with | [_], _ => rfl)
  have F_p_read_starts := fun_mk (st := s_p_read_starts) l_p_read_starts c_0p_read_starts k_p_read_starts
  have T_p_read_starts : TabIn K mg "read_starts" f_p_read_starts := tab_mk F_p_read_starts (PySem.W.mg_of X G a_p_read_starts) c_p_read_starts rfl rfl (F_p_read_starts.binds fun _ _ _ _ _ _ us hl => match us, hl with | [_, _], _ => rfl) (fun _ h => by cases h)
  have F_p_read_image := fun_mk (st := s_p_read_image) l_p_read_image c_0p_read_image k_p_read_image
  have T_p_read_image : TabIn K mg "read_image" f_p_read_image := tab_mk F_p_read_image (PySem.W.mg_of X G a_p_read_image) c_p_read_image rfl rfl (F_p_read_image.binds fun _ _ _ _ _ _ us hl => match us, hl with | [_], _ => rfl) (fun ks h => by
    simp only [f_p_read_image, List.mem_cons, List.not_mem_nil, or_false] at h
    subst h
    exact fun ws hl => match ws, hl with | [_], _ => rfl)
  have F_lwell := fun_mk (st := s_lwell) l_lwell c_0lwell k_lwell
  have T_lwell : TabIn K mg "_law_well" f_lwell := tab_mk F_lwell (PySem.W.mg_of X G a_lwell) c_lwell rfl rfl (F_lwell.binds fun _ _ _ _ _ _ us hl => match us, hl with | [_], _ => rfl) (fun _ h => by cases h)
  have F_ldraw := fun_mk (st := s_ldraw) l_ldraw c_0ldraw k_ldraw
  have T_ldraw : TabIn K mg "_law_draw" f_ldraw := tab_mk F_ldraw (PySem.W.mg_of X G a_ldraw) c_ldraw rfl rfl (F_ldraw.binds fun _ _ _ _ _ _ us hl => match us, hl with | [_, _], _ => rfl) (fun _ h => by cases h)
  have F_lnames := fun_mk (st := s_lnames) l_lnames c_0lnames k_lnames
  have T_lnames : TabIn K mg "_law_names" f_lnames := tab_mk F_lnames (PySem.W.mg_of X G a_lnames) c_lnames rfl rfl (F_lnames.binds fun _ _ _ _ _ _ us hl => match us, hl with | [_, _], _ => rfl) (fun _ h => by cases h)
  have F_lform := fun_mk (st := s_lform) l_lform c_0lform k_lform
  have T_lform : TabIn K mg "_law_form" f_lform := tab_mk F_lform (PySem.W.mg_of X G a_lform) c_lform rfl rfl (F_lform.binds fun _ _ _ _ _ _ us hl => match us, hl with | [_], _ => rfl) (fun _ h => by cases h)
  have F_lwords := fun_mk (st := s_lwords) l_lwords c_0lwords k_lwords
  have T_lwords : TabIn K mg "_law_words" f_lwords := tab_mk F_lwords (PySem.W.mg_of X G a_lwords) c_lwords rfl rfl (F_lwords.binds fun _ _ _ _ _ _ us hl => match us, hl with | [], _ => rfl) (fun _ h => by cases h)
  have F_lbounds := fun_mk (st := s_lbounds) l_lbounds c_0lbounds k_lbounds
  have T_lbounds : TabIn K mg "_law_bounds" f_lbounds := tab_mk F_lbounds (PySem.W.mg_of X G a_lbounds) c_lbounds rfl rfl (F_lbounds.binds fun _ _ _ _ _ _ us hl => match us, hl with | [_, _], _ => rfl) (fun _ h => by cases h)
  have F_lbetween := fun_mk (st := s_lbetween) l_lbetween c_0lbetween k_lbetween
  have T_lbetween : TabIn K mg "_law_between" f_lbetween := tab_mk F_lbetween (PySem.W.mg_of X G a_lbetween) c_lbetween rfl rfl (F_lbetween.binds fun _ _ _ _ _ _ us hl => match us, hl with | [_, _, _], _ => rfl) (fun _ h => by cases h)
  have F_lpart := fun_mk (st := s_lpart) l_lpart c_0lpart k_lpart
  have T_lpart : TabIn K mg "_law_part" f_lpart := tab_mk F_lpart (PySem.W.mg_of X G a_lpart) c_lpart rfl rfl (F_lpart.binds fun _ _ _ _ _ _ us hl => match us, hl with | [_, _, _, _], _ => rfl) (fun _ h => by cases h)
  have F_limage := fun_mk (st := s_limage) l_limage c_0limage k_limage
  have T_limage : TabIn K mg "_law_image" f_limage := tab_mk F_limage (PySem.W.mg_of X G a_limage) c_limage rfl rfl (F_limage.binds fun _ _ _ _ _ _ us hl => match us, hl with | [_, _, _], _ => rfl) (fun _ h => by cases h)
  have F_lsame := fun_mk (st := s_lsame) l_lsame c_0lsame k_lsame
  have T_lsame : TabIn K mg "_law_same" f_lsame := tab_mk F_lsame (PySem.W.mg_of X G a_lsame) c_lsame rfl rfl (F_lsame.binds fun _ _ _ _ _ _ us hl => match us, hl with | [_, _], _ => rfl) (fun _ h => by cases h)
  have F_ltext := fun_mk (st := s_ltext) l_ltext c_0ltext k_ltext
  have T_ltext : TabIn K mg "_law_text" f_ltext := tab_mk F_ltext (PySem.W.mg_of X G a_ltext) c_ltext rfl rfl (F_ltext.binds fun _ _ _ _ _ _ us hl => match us, hl with | [_], _ => rfl) (fun _ h => by cases h)
  have F_ldrawn := fun_mk (st := s_ldrawn) l_ldrawn c_0ldrawn k_ldrawn
  have T_ldrawn : TabIn K mg "_law_drawn" f_ldrawn := tab_mk F_ldrawn (PySem.W.mg_of X G a_ldrawn) c_ldrawn rfl rfl (F_ldrawn.binds fun _ _ _ _ _ _ us hl => match us, hl with | [_], _ => rfl) (fun _ h => by cases h)
  have F_lturned := fun_mk (st := s_lturned) l_lturned c_0lturned k_lturned
  have T_lturned : TabIn K mg "_law_turned" f_lturned := tab_mk F_lturned (PySem.W.mg_of X G a_lturned) c_lturned rfl rfl (F_lturned.binds fun _ _ _ _ _ _ us hl => match us, hl with | [_, _], _ => rfl) (fun _ h => by cases h)
  have F_lright := fun_mk (st := s_lright) l_lright c_0lright k_lright
  have T_lright : TabIn K mg "_law_right" f_lright := tab_mk F_lright (PySem.W.mg_of X G a_lright) c_lright rfl rfl (F_lright.binds fun _ _ _ _ _ _ us hl => match us, hl with | [_], _ => rfl) (fun _ h => by cases h)
  have F_law_ := fun_mk (st := s_law_) l_law_ c_0law_ k_law_
  have T_law_ : TabIn K mg "law" f_law_ := tab_mk F_law_ (PySem.W.mg_of X G a_law_) c_law_ rfl rfl (F_law_.binds fun _ _ _ _ _ _ us hl => match us, hl with | [_], _ => rfl) (fun _ h => by cases h)
  have hT : ∀ f F, g.fns.lookup f = some F → TabIn K mg f F := (tab_cons T_p_is_int (tab_cons T_p_within (tab_cons T_p_is_name (tab_cons T_p_is_low (tab_cons T_p_is_part (tab_cons T_p_is_instruction (tab_cons T_p_line_of (tab_cons T_p_number_of (tab_cons T_p_start_of (tab_cons T_p_instruction_of (tab_cons T_p_start_names (tab_cons T_p_is_image (tab_cons T_p_need_image (tab_cons T_p_write_image (tab_cons T_p_read_starts (tab_cons T_p_read_image (tab_cons T_lwell (tab_cons T_ldraw (tab_cons T_lnames (tab_cons T_lform (tab_cons T_lwords (tab_cons T_lbounds (tab_cons T_lbetween (tab_cons T_lpart (tab_cons T_limage (tab_cons T_lsame (tab_cons T_ltext (tab_cons T_ldrawn (tab_cons T_lturned (tab_cons T_lright (tab_cons T_law_ tab_nil)))))))))))))))))))))))))))))))
  have E_BadImage : ExcC K C_BadImage := ⟨g1_BadImage, g2_BadImage, sc_BadImage, g4_BadImage, g5_BadImage, gs_n, gs_t, g8_BadImage⟩
  have hx : ∀ x, g.excs.contains x = true → XInG K (CLK ["BadImage"] K) mg x := (con_cons (p := XInG K (CLK ["BadImage"] K) mg) ⟨C_BadImage, PySem.W.mg_of X G ac_BadImage, ⟨by simp, ac_BadImage⟩, kc_BadImage, sc_BadImage, tc_BadImage, xc_BadImage⟩ con_nil)
  have hg : Glob K (CLK ["BadImage"] K) mg g := ⟨(cst_cons (p := fun x d => ∃ v u, mg x = some u ∧ RelV v u ∧ ∀ F H, RD K F H d v) (cst_mk (PySem.W.mg_of X G cv_LETTERS) (.str _ _)) (cst_cons (p := fun x d => ∃ v u, mg x = some u ∧ RelV v u ∧ ∀ F H, RD K F H d v) (cst_mk (PySem.W.mg_of X G cv_SMALL) (.str _ _)) (cst_cons (p := fun x d => ∃ v u, mg x = some u ∧ RelV v u ∧ ∀ F H, RD K F H d v) (cst_mk (PySem.W.mg_of X G cv_DIGITS_names) (.str _ _)) (cst_cons (p := fun x d => ∃ v u, mg x = some u ∧ RelV v u ∧ ∀ F H, RD K F H d v) (cst_mk (PySem.W.mg_of X G cv_WORDS) (.tuple lt_WORDS (Nat.le_of_ble_eq_true rfl) (.cons (.str _ _) (.cons (.str _ _) (.cons (.str _ _) (.cons (.str _ _) (.cons (.str _ _) (.cons (.str _ _) (.cons (.str _ _) (.cons (.str _ _) .nil)))))))))) (cst_cons (p := fun x d => ∃ v u, mg x = some u ∧ RelV v u ∧ ∀ F H, RD K F H d v) (cst_mk (PySem.W.mg_of X G cv_LONGEST_NAME) (.int _ _)) (cst_cons (p := fun x d => ∃ v u, mg x = some u ∧ RelV v u ∧ ∀ F H, RD K F H d v) (cst_mk (PySem.W.mg_of X G cv_MOST_CODE) (.int _ _)) (cst_cons (p := fun x d => ∃ v u, mg x = some u ∧ RelV v u ∧ ∀ F H, RD K F H d v) (cst_mk (PySem.W.mg_of X G cv_MOST_STARTS) (.int _ _)) (cst_cons (p := fun x d => ∃ v u, mg x = some u ∧ RelV v u ∧ ∀ F H, RD K F H d v) (cst_mk (PySem.W.mg_of X G cv_DIGITS_imagetext) (.str _ _)) cst_nil)))))))), (con_cons (p := fun x => mg x = none) (PySem.W.mg_none_of X G z_isinstance) (con_cons (p := fun x => mg x = none) (PySem.W.mg_none_of X G z_int) (con_cons (p := fun x => mg x = none) (PySem.W.mg_none_of X G z_bool) (con_cons (p := fun x => mg x = none) (PySem.W.mg_none_of X G z_all) (con_cons (p := fun x => mg x = none) (PySem.W.mg_none_of X G z_str) (con_cons (p := fun x => mg x = none) (PySem.W.mg_none_of X G z_len) (con_cons (p := fun x => mg x = none) (PySem.W.mg_none_of X G z_tuple) (con_cons (p := fun x => mg x = none) (PySem.W.mg_none_of X G z_range) (con_cons (p := fun x => mg x = none) (PySem.W.mg_none_of X G z_list) (con_cons (p := fun x => mg x = none) (PySem.W.mg_none_of X G z_abs) (con_cons (p := fun x => mg x = none) (PySem.W.mg_none_of X G z_min) (con_cons (p := fun x => mg x = none) (PySem.W.mg_none_of X G z_max) con_nil)))))))))))), con_nil, (fun x h => by simp [g] at h), (fun x h => by simp [g] at h)⟩
  have hd : ∀ x l, g.kds.lookup x = some l → KdOk K w mg x l := (kds_cons (p := KdOk K w mg) (kd_mk (rows := [("set", (.str "rn" tk_FORMS_v0)), ("copy", (.str "rr" tk_FORMS_v1)), ("add", (.str "rrr" tk_FORMS_v2)), ("sub", (.str "rrr" tk_FORMS_v3)), ("times", (.str "rrm" tk_FORMS_v4)), ("new", (.str "rw" tk_FORMS_v5)), ("put", (.str "ror" tk_FORMS_v6)), ("take", (.str "rro" tk_FORMS_v7)), ("push", (.str "c" tk_FORMS_v8)), ("drop", (.str "c" tk_FORMS_v9)), ("save", (.str "ir" tk_FORMS_v10)), ("load", (.str "ri" tk_FORMS_v11)), ("less", (.str "rrj" tk_FORMS_v12)), ("table", (.str "rt" tk_FORMS_v13)), ("jump", (.str "j" tk_FORMS_v14)), ("call", (.str "f" tk_FORMS_v15)), ("go", (.str "f" tk_FORMS_v16)), ("return", (.str "" tk_FORMS_v17))]) (PySem.W.mg_of X G cv_FORMS) lk_FORMS sm_FORMS rfl (.cons (.str _ _) (.cons (.str _ _) (.cons (.str _ _) (.cons (.str _ _) (.cons (.str _ _) (.cons (.str _ _) (.cons (.str _ _) (.cons (.str _ _) (.cons (.str _ _) (.cons (.str _ _) (.cons (.str _ _) (.cons (.str _ _) (.cons (.str _ _) (.cons (.str _ _) (.cons (.str _ _) (.cons (.str _ _) (.cons (.str _ _) (.cons (.str _ _) .nil))))))))))))))))))) (kds_cons (p := KdOk K w mg) (kd_mk (rows := [("r", (.ref at_BOUNDS_v0)), ("n", (.ref at_BOUNDS_v1)), ("m", (.ref at_BOUNDS_v2)), ("w", (.ref at_BOUNDS_v3)), ("c", (.ref at_BOUNDS_v4)), ("o", (.ref at_BOUNDS_v5)), ("i", (.ref at_BOUNDS_v6))]) (PySem.W.mg_of X G cv_BOUNDS) lk_BOUNDS sm_BOUNDS rfl (.cons (.tuple lt_BOUNDS_v0 (Nat.le_of_ble_eq_true rfl) (.cons (.int _ _) (.cons (.int _ _) .nil))) (.cons (.tuple lt_BOUNDS_v1 (Nat.le_of_ble_eq_true rfl) (.cons (.int _ _) (.cons (.int _ _) .nil))) (.cons (.tuple lt_BOUNDS_v2 (Nat.le_of_ble_eq_true rfl) (.cons (.int _ _) (.cons (.int _ _) .nil))) (.cons (.tuple lt_BOUNDS_v3 (Nat.le_of_ble_eq_true rfl) (.cons (.int _ _) (.cons (.int _ _) .nil))) (.cons (.tuple lt_BOUNDS_v4 (Nat.le_of_ble_eq_true rfl) (.cons (.int _ _) (.cons (.int _ _) .nil))) (.cons (.tuple lt_BOUNDS_v5 (Nat.le_of_ble_eq_true rfl) (.cons (.int _ _) (.cons (.int _ _) .nil))) (.cons (.tuple lt_BOUNDS_v6 (Nat.le_of_ble_eq_true rfl) (.cons (.int _ _) (.cons (.int _ _) .nil))) .nil)))))))) kds_nil))
  exact ⟨_, fun s v => .of_eq rfl, fun base _ _ => fn_one hg hx hT hd q_law_ F_law_ c_law_ rfl rfl 8⟩
end MP
namespace MP
open PySem PySem.Spec PyProof.Rows L2
theorem law_start {K : PySem.W.Frag} {H : Hp} {a : Addr} {ns : List Int} (hl : ns.length ≤ 63) (hS : SqL K H a (ns.map V.int)) : lawSp K [.ref a] H (fun v _ => v = .bl true) (fun _ _ _ => False) := sp_start rfl hS (law_true ns hl)
end MP
open PySem PySem.W PyProof.Rows
set_option maxRecDepth 100000 in
set_option maxHeartbeats 0 in
theorem PySem.Challenge.cw_juststeps_k44_whole_texts_of_images_holds : PySem.Challenge.rw_juststeps_k44_whole_texts_of_images.Holds := by
  w_on; o_law; k_head; (case hw => w_witness2)
  k_fill
  refine L2.walk_of (l := PySem.Challenge.rw_juststeps_k44_whole_texts_of_images) (n := 63) (k := 9) (x := "_law_script") (CX := fun w => L2.CX (PySem.Challenge.rw_juststeps_k44_whole_texts_of_images).prog w) (sp := fun w => MP.lawSp _) rfl (by decide) rfl ⟨rfl, by decide, by decide⟩ (fun w h Y => PySem.W.kIn_of Y) ?F (fun w H a ns hl hO hS => MP.law_start hl hS) (fun _ _ _ _ _ z => MP.cx_no z)
  case F =>
    intro w mg fa h KX G hmg
    refine' MP.all_mk KX G hmg ?a_p_is_int ?l_p_is_int ?c_0p_is_int ?k_p_is_int ?a_p_within ?l_p_within ?c_0p_within ?k_p_within ?a_p_is_name ?l_p_is_name ?c_0p_is_name ?k_p_is_name ?a_p_is_low ?l_p_is_low ?c_0p_is_low ?k_p_is_low ?a_p_is_part ?l_p_is_part ?c_0p_is_part ?k_p_is_part ?a_p_is_instruction ?l_p_is_instruction ?c_0p_is_instruction ?k_p_is_instruction ?a_p_line_of ?l_p_line_of ?c_0p_line_of ?k_p_line_of ?a_p_number_of ?l_p_number_of ?c_0p_number_of ?k_p_number_of ?a_p_start_of ?l_p_start_of ?c_0p_start_of ?k_p_start_of ?a_p_instruction_of ?l_p_instruction_of ?c_0p_instruction_of ?k_p_instruction_of ?a_p_start_names ?l_p_start_names ?c_0p_start_names ?k_p_start_names ?a_p_is_image ?l_p_is_image ?c_0p_is_image ?k_p_is_image ?a_p_need_image ?l_p_need_image ?c_0p_need_image ?k_p_need_image ?a_p_write_image ?l_p_write_image ?c_0p_write_image ?k_p_write_image ?a_p_read_starts ?l_p_read_starts ?c_0p_read_starts ?k_p_read_starts ?a_p_read_image ?l_p_read_image ?c_0p_read_image ?k_p_read_image ?a_lwell ?l_lwell ?c_0lwell ?k_lwell ?a_ldraw ?l_ldraw ?c_0ldraw ?k_ldraw ?a_lnames ?l_lnames ?c_0lnames ?k_lnames ?a_lform ?l_lform ?c_0lform ?k_lform ?a_lwords ?l_lwords ?c_0lwords ?k_lwords ?a_lbounds ?l_lbounds ?c_0lbounds ?k_lbounds ?a_lbetween ?l_lbetween ?c_0lbetween ?k_lbetween ?a_lpart ?l_lpart ?c_0lpart ?k_lpart ?a_limage ?l_limage ?c_0limage ?k_limage ?a_lsame ?l_lsame ?c_0lsame ?k_lsame ?a_ltext ?l_ltext ?c_0ltext ?k_ltext ?a_ldrawn ?l_ldrawn ?c_0ldrawn ?k_ldrawn ?a_lturned ?l_lturned ?c_0lturned ?k_lturned ?a_lright ?l_lright ?c_0lright ?k_lright ?a_law_ ?l_law_ ?c_0law_ ?k_law_ ?ac_BadImage ?kc_BadImage ?sc_BadImage ?tc_BadImage ?xc_BadImage ?g1_BadImage ?g2_BadImage ?g4_BadImage ?g8_BadImage ?g5_BadImage ?cv_LETTERS ?cv_SMALL ?cv_DIGITS_names ?cv_WORDS ?lt_WORDS ?cv_LONGEST_NAME ?cv_MOST_CODE ?cv_MOST_STARTS ?cv_FORMS ?lk_FORMS ?sm_FORMS ?cv_BOUNDS ?lk_BOUNDS ?sm_BOUNDS ?lt_BOUNDS_v0 ?lt_BOUNDS_v1 ?lt_BOUNDS_v2 ?lt_BOUNDS_v3 ?lt_BOUNDS_v4 ?lt_BOUNDS_v5 ?lt_BOUNDS_v6 ?cv_DIGITS_imagetext ?gs_n ?gs_t ?z_isinstance ?z_int ?z_bool ?z_all ?z_str ?z_len ?z_tuple ?z_range ?z_list ?z_abs ?z_min ?z_max
    (case a_p_is_int => first | k_is | kernel_rfl); (case l_p_is_int => first | k_is | kernel_rfl); (case c_0p_is_int => first | k_is | kernel_rfl); (case k_p_is_int => first | k_is | kernel_rfl); (case a_p_within => first | k_is | kernel_rfl); (case l_p_within => first | k_is | kernel_rfl)
    (case c_0p_within => first | k_is | kernel_rfl); (case k_p_within => first | k_is | kernel_rfl); (case a_p_is_name => first | k_is | kernel_rfl); (case l_p_is_name => first | k_is | kernel_rfl); (case c_0p_is_name => first | k_is | kernel_rfl); (case k_p_is_name => first | k_is | kernel_rfl)
    (case a_p_is_low => first | k_is | kernel_rfl); (case l_p_is_low => first | k_is | kernel_rfl); (case c_0p_is_low => first | k_is | kernel_rfl); (case k_p_is_low => first | k_is | kernel_rfl); (case a_p_is_part => first | k_is | kernel_rfl); (case l_p_is_part => first | k_is | kernel_rfl)
    (case c_0p_is_part => first | k_is | kernel_rfl); (case k_p_is_part => first | k_is | kernel_rfl); (case a_p_is_instruction => first | k_is | kernel_rfl); (case l_p_is_instruction => first | k_is | kernel_rfl); (case c_0p_is_instruction => first | k_is | kernel_rfl); (case k_p_is_instruction => first | k_is | kernel_rfl)
    (case a_p_line_of => first | k_is | kernel_rfl); (case l_p_line_of => first | k_is | kernel_rfl); (case c_0p_line_of => first | k_is | kernel_rfl); (case k_p_line_of => first | k_is | kernel_rfl); (case a_p_number_of => first | k_is | kernel_rfl); (case l_p_number_of => first | k_is | kernel_rfl)
    (case c_0p_number_of => first | k_is | kernel_rfl); (case k_p_number_of => first | k_is | kernel_rfl); (case a_p_start_of => first | k_is | kernel_rfl); (case l_p_start_of => first | k_is | kernel_rfl); (case c_0p_start_of => first | k_is | kernel_rfl); (case k_p_start_of => first | k_is | kernel_rfl)
    (case a_p_instruction_of => first | k_is | kernel_rfl); (case l_p_instruction_of => first | k_is | kernel_rfl); (case c_0p_instruction_of => first | k_is | kernel_rfl); (case k_p_instruction_of => first | k_is | kernel_rfl); (case a_p_start_names => first | k_is | kernel_rfl); (case l_p_start_names => first | k_is | kernel_rfl)
    (case c_0p_start_names => first | k_is | kernel_rfl); (case k_p_start_names => first | k_is | kernel_rfl); (case a_p_is_image => first | k_is | kernel_rfl); (case l_p_is_image => first | k_is | kernel_rfl); (case c_0p_is_image => first | k_is | kernel_rfl); (case k_p_is_image => first | k_is | kernel_rfl)
    (case a_p_need_image => first | k_is | kernel_rfl); (case l_p_need_image => first | k_is | kernel_rfl); (case c_0p_need_image => first | k_is | kernel_rfl); (case k_p_need_image => first | k_is | kernel_rfl); (case a_p_write_image => first | k_is | kernel_rfl); (case l_p_write_image => first | k_is | kernel_rfl)
    (case c_0p_write_image => first | k_is | kernel_rfl); (case k_p_write_image => first | k_is | kernel_rfl); (case a_p_read_starts => first | k_is | kernel_rfl); (case l_p_read_starts => first | k_is | kernel_rfl); (case c_0p_read_starts => first | k_is | kernel_rfl); (case k_p_read_starts => first | k_is | kernel_rfl)
    (case a_p_read_image => first | k_is | kernel_rfl); (case l_p_read_image => first | k_is | kernel_rfl); (case c_0p_read_image => first | k_is | kernel_rfl); (case k_p_read_image => first | k_is | kernel_rfl); (case a_lwell => first | k_is | kernel_rfl); (case l_lwell => first | k_is | kernel_rfl)
    (case c_0lwell => first | k_is | kernel_rfl); (case k_lwell => first | k_is | kernel_rfl); (case a_ldraw => first | k_is | kernel_rfl); (case l_ldraw => first | k_is | kernel_rfl); (case c_0ldraw => first | k_is | kernel_rfl); (case k_ldraw => first | k_is | kernel_rfl)
    (case a_lnames => first | k_is | kernel_rfl); (case l_lnames => first | k_is | kernel_rfl); (case c_0lnames => first | k_is | kernel_rfl); (case k_lnames => first | k_is | kernel_rfl); (case a_lform => first | k_is | kernel_rfl); (case l_lform => first | k_is | kernel_rfl)
    (case c_0lform => first | k_is | kernel_rfl); (case k_lform => first | k_is | kernel_rfl); (case a_lwords => first | k_is | kernel_rfl); (case l_lwords => first | k_is | kernel_rfl); (case c_0lwords => first | k_is | kernel_rfl); (case k_lwords => first | k_is | kernel_rfl)
    (case a_lbounds => first | k_is | kernel_rfl); (case l_lbounds => first | k_is | kernel_rfl); (case c_0lbounds => first | k_is | kernel_rfl); (case k_lbounds => first | k_is | kernel_rfl); (case a_lbetween => first | k_is | kernel_rfl); (case l_lbetween => first | k_is | kernel_rfl)
    (case c_0lbetween => first | k_is | kernel_rfl); (case k_lbetween => first | k_is | kernel_rfl); (case a_lpart => first | k_is | kernel_rfl); (case l_lpart => first | k_is | kernel_rfl); (case c_0lpart => first | k_is | kernel_rfl); (case k_lpart => first | k_is | kernel_rfl)
    (case a_limage => first | k_is | kernel_rfl); (case l_limage => first | k_is | kernel_rfl); (case c_0limage => first | k_is | kernel_rfl); (case k_limage => first | k_is | kernel_rfl); (case a_lsame => first | k_is | kernel_rfl); (case l_lsame => first | k_is | kernel_rfl)
    (case c_0lsame => first | k_is | kernel_rfl); (case k_lsame => first | k_is | kernel_rfl); (case a_ltext => first | k_is | kernel_rfl); (case l_ltext => first | k_is | kernel_rfl); (case c_0ltext => first | k_is | kernel_rfl); (case k_ltext => first | k_is | kernel_rfl)
    (case a_ldrawn => first | k_is | kernel_rfl); (case l_ldrawn => first | k_is | kernel_rfl); (case c_0ldrawn => first | k_is | kernel_rfl); (case k_ldrawn => first | k_is | kernel_rfl); (case a_lturned => first | k_is | kernel_rfl); (case l_lturned => first | k_is | kernel_rfl)
    (case c_0lturned => first | k_is | kernel_rfl); (case k_lturned => first | k_is | kernel_rfl); (case a_lright => first | k_is | kernel_rfl); (case l_lright => first | k_is | kernel_rfl); (case c_0lright => first | k_is | kernel_rfl); (case k_lright => first | k_is | kernel_rfl)
    (case a_law_ => first | k_is | kernel_rfl); (case l_law_ => first | k_is | kernel_rfl); (case c_0law_ => first | k_is | kernel_rfl); (case k_law_ => first | k_is | kernel_rfl); (case ac_BadImage => first | k_is | kernel_rfl); (case kc_BadImage => first | k_is | kernel_rfl)
    (case sc_BadImage => first | k_is | kernel_rfl); (case tc_BadImage => first | k_is | kernel_rfl); (case xc_BadImage => first | k_is | kernel_rfl); (case g1_BadImage => first | k_is | kernel_rfl); (case g2_BadImage => first | k_is | kernel_rfl); (case g4_BadImage => first | k_is | kernel_rfl)
    (case g8_BadImage => first | k_is | kernel_rfl); (case g5_BadImage => first | k_is | kernel_rfl); (case cv_LETTERS => first | k_is | kernel_rfl); (case cv_SMALL => first | k_is | kernel_rfl); (case cv_DIGITS_names => first | k_is | kernel_rfl); (case cv_WORDS => first | k_is | kernel_rfl)
    (case lt_WORDS => first | k_is | kernel_rfl); (case cv_LONGEST_NAME => first | k_is | kernel_rfl); (case cv_MOST_CODE => first | k_is | kernel_rfl); (case cv_MOST_STARTS => first | k_is | kernel_rfl); (case cv_FORMS => first | k_is | kernel_rfl); (case lk_FORMS => first | k_is | kernel_rfl)
    (case sm_FORMS => first | k_is | kernel_rfl); (case cv_BOUNDS => first | k_is | kernel_rfl); (case lk_BOUNDS => first | k_is | kernel_rfl); (case sm_BOUNDS => first | k_is | kernel_rfl); (case lt_BOUNDS_v0 => first | k_is | kernel_rfl); (case lt_BOUNDS_v1 => first | k_is | kernel_rfl)
    (case lt_BOUNDS_v2 => first | k_is | kernel_rfl); (case lt_BOUNDS_v3 => first | k_is | kernel_rfl); (case lt_BOUNDS_v4 => first | k_is | kernel_rfl); (case lt_BOUNDS_v5 => first | k_is | kernel_rfl); (case lt_BOUNDS_v6 => first | k_is | kernel_rfl); (case cv_DIGITS_imagetext => first | k_is | kernel_rfl)
    (case gs_n => first | k_is | kernel_rfl); (case gs_t => first | k_is | kernel_rfl); (case z_isinstance => first | k_is | kernel_rfl); (case z_int => first | k_is | kernel_rfl); (case z_bool => first | k_is | kernel_rfl); (case z_all => first | k_is | kernel_rfl)
    (case z_str => first | k_is | kernel_rfl); (case z_len => first | k_is | kernel_rfl); (case z_tuple => first | k_is | kernel_rfl); (case z_range => first | k_is | kernel_rfl); (case z_list => first | k_is | kernel_rfl); (case z_abs => first | k_is | kernel_rfl)
    (case z_min => first | k_is | kernel_rfl); (case z_max => first | k_is | kernel_rfl)
