import PyProof.Rows.All
import Wide.All
import OpenK.AllK
import Wide.FinOn
import HandS.ForSpec
import HandS.ForMost
import HandS.TryMany
import HandS.ExcIs
import HandS.Gcd
import HandS.Wide
import HandS.IsInst
import HandS.Deep
import HandS.Walk
import HandS.TupAny
import HandS.Style
import HandS.TupLe
import HandS.Small
import PySem.Challenge.RW_juststeps_k66_ratios
set_option Elab.async false
set_option linter.all false
set_option maxRecDepth 100000
set_option maxHeartbeats 4000000
/-! MP: a small evaluator for a part of Python over deep values, and what it says of the model. Part A: values, states, relations. -/
namespace MP
open PySem PySem.Spec PyProof.Rows L2

/-- a mutable thing's content -/
inductive Ob where
  | lst (xs : List PyData)
  | dic (kvs : List (Key × PyData))
/-- what a slot or a field holds: data (never changed any more), a box, or a thing that only this place knows -/
inductive W where
  | d (x : PyData)
  | ref (b : Nat)
  | own (c : Ob)
  | exn (c : Str)
inductive Box where
  | ctr (c : Ob)
  | inst (cls : Str) (fs : List (Str × W))
structure S where
  rho : List (Option W)
  mem : List Box
structure Ex where
  cls : Str
  flds : List (Str × PyData)
inductive Res (α : Type) where
  | ok (a : α) (s : S)
  | raise (e : Ex) (s : S)
  | stuck
abbrev EM (α : Type) := S → Res α
def rb {α β : Type} (r : Res α) (f : α → S → Res β) : Res β :=
  match r with
  | .ok a s => f a s
  | .raise e s => .raise e s
  | .stuck => .stuck
def eb {α β : Type} (m : EM α) (f : α → EM β) : EM β := fun s => rb (m s) f
def er {α : Type} (a : α) : EM α := fun s => .ok a s
def es {α : Type} : EM α := fun _ => .stuck

/-- a place -/
inductive Pl where
  | slot (i : Nat)
  | box (b : Nat)
  | fld (b : Nat) (f : Str)
  deriving DecidableEq
/-- ghosts: the frozen addresses, where the places' things stand, the exception that is handled -/
structure Gh where
  F : Addr → Prop
  ad : Pl → Option Addr
  ex : Option (Addr × Str)

/-! ### data -/
def KT (K : PySem.W.Frag) (a : Addr) (xs : List V) : Prop := ∃ (o : Obj) (its : Array Value) (n : Nat), K.lookup a = some o ∧ o.cls = .type "tuple" ∧ o.data = .seq its n ∧ its.size ≤ sizeLine ∧ Vals xs its.toList
def KL (K : PySem.W.Frag) (a : Addr) (xs : List V) : Prop := ∃ (o : Obj) (its : Array Value) (n : Nat), K.lookup a = some o ∧ o.cls = .type "list" ∧ o.dict = none ∧ o.data = .seq its n ∧ its.size ≤ sizeLine ∧ Vals xs its.toList
def LAt (K : PySem.W.Frag) (F : Addr → Prop) (H : Hp) (a : Addr) (xs : List V) : Prop := (F a ∧ Rd H a (.lst xs)) ∨ KL K a xs
def TAt (K : PySem.W.Frag) (F : Addr → Prop) (H : Hp) (a : Addr) (xs : List V) : Prop := (F a ∧ Rd H a (.tup xs)) ∨ KT K a xs
theorem LAt.sq {K : PySem.W.Frag} {F : Addr → Prop} {H : Hp} {a : Addr} {xs : List V} (h : LAt K F H a xs) : SqL K H a xs := h.imp (·.2) id
theorem TAt.sq {K : PySem.W.Frag} {F : Addr → Prop} {H : Hp} {a : Addr} {xs : List V} (h : TAt K F H a xs) : SqT K H a xs := h.imp (·.2) id
mutual
inductive RD (K : PySem.W.Frag) (F : Addr → Prop) (H : Hp) : PyData → V → Prop
  | none : RD K F H .none .non
  | bool (b : Bool) : RD K F H (.bool b) (.bl b)
  | int (i : Int) : RD K F H (.int i) (.int i)
  | str (x : Str) : RD K F H (.str x) (.str x)
  | list {a : Addr} {vs : List V} {ds : List PyData} : LAt K F H a vs → RDs K F H ds vs → RD K F H (.list ds) (.ref a)
  | tuple {a : Addr} {vs : List V} {ds : List PyData} : TAt K F H a vs → RDs K F H ds vs → RD K F H (.tuple ds) (.ref a)
  | dict {a : Addr} {kvs : List (Key × V)} {ds : List (PyData × PyData)} : F a ∧ H a = some (.dK kvs) → RDkv K F H ds kvs → RD K F H (.dict ds) (.ref a)
inductive RDs (K : PySem.W.Frag) (F : Addr → Prop) (H : Hp) : List PyData → List V → Prop
  | nil : RDs K F H [] []
  | cons {d : PyData} {ds : List PyData} {v : V} {vs : List V} : RD K F H d v → RDs K F H ds vs → RDs K F H (d :: ds) (v :: vs)
inductive RDkv (K : PySem.W.Frag) (F : Addr → Prop) (H : Hp) : List (PyData × PyData) → List (Key × V) → Prop
  | nil : RDkv K F H [] []
  | consI {i : Int} {d : PyData} {ds : List (PyData × PyData)} {v : V} {kvs : List (Key × V)} : RD K F H d v → RDkv K F H ds kvs → RDkv K F H ((.int i, d) :: ds) ((.inl i, v) :: kvs)
  | consS {x : Str} {d : PyData} {ds : List (PyData × PyData)} {v : V} {kvs : List (Key × V)} : RD K F H d v → RDkv K F H ds kvs → RDkv K F H ((.str x, d) :: ds) ((.inr x, v) :: kvs)
end
section
variable {K : PySem.W.Frag} {F F' : Addr → Prop} {H H' : Hp}
theorem LAt.mono (hF : ∀ a, F a → F' a ∧ H' a = H a) {a : Addr} {xs : List V} (h : LAt K F H a xs) : LAt K F' H' a xs := by
  rcases h with ⟨f, h⟩ | h
  · refine .inl ⟨(hF a f).1, ?_⟩
    unfold Rd at h ⊢
    rw [(hF a f).2]
    exact h
  · exact .inr h
theorem TAt.mono (hF : ∀ a, F a → F' a ∧ H' a = H a) {a : Addr} {xs : List V} (h : TAt K F H a xs) : TAt K F' H' a xs := by
  rcases h with ⟨f, h⟩ | h
  · refine .inl ⟨(hF a f).1, ?_⟩
    unfold Rd at h ⊢
    rw [(hF a f).2]
    exact h
  · exact .inr h
mutual
theorem RD.mono (hF : ∀ a, F a → F' a ∧ H' a = H a) : ∀ {d : PyData} {v : V}, RD K F H d v → RD K F' H' d v
  | _, _, .none => .none
  | _, _, .bool b => .bool b
  | _, _, .int i => .int i
  | _, _, .str x => .str x
  | _, _, .list h1 h2 => .list (h1.mono hF) (RDs.mono hF h2)
  | _, _, .tuple h1 h2 => .tuple (h1.mono hF) (RDs.mono hF h2)
  | _, _, .dict h1 h2 => .dict ⟨(hF _ h1.1).1, by rw [(hF _ h1.1).2]; exact h1.2⟩ (RDkv.mono hF h2)
theorem RDs.mono (hF : ∀ a, F a → F' a ∧ H' a = H a) : ∀ {ds : List PyData} {vs : List V}, RDs K F H ds vs → RDs K F' H' ds vs
  | _, _, .nil => .nil
  | _, _, .cons h1 h2 => .cons (RD.mono hF h1) (RDs.mono hF h2)
theorem RDkv.mono (hF : ∀ a, F a → F' a ∧ H' a = H a) : ∀ {ds : List (PyData × PyData)} {vs : List (Key × V)}, RDkv K F H ds vs → RDkv K F' H' ds vs
  | _, _, .nil => .nil
  | _, _, .consI h1 h2 => .consI (RD.mono hF h1) (RDkv.mono hF h2)
  | _, _, .consS h1 h2 => .consS (RD.mono hF h1) (RDkv.mono hF h2)
end
theorem RDs.length : ∀ {ds : List PyData} {vs : List V}, RDs K F H ds vs → vs.length = ds.length
  | _, _, .nil => rfl
  | _, _, .cons _ h => by rw [List.length_cons, List.length_cons, RDs.length h]
theorem RDs.get : ∀ {ds : List PyData} {vs : List V} {i : Nat} {d : PyData}, RDs K F H ds vs → ds[i]? = some d → ∃ v, vs[i]? = some v ∧ RD K F H d v
  | _, _, _, _, .nil, e => by simp at e
  | _, _, 0, _, .cons h _, e => by simp at e; subst e; exact ⟨_, rfl, h⟩
  | _, _, i + 1, d, .cons _ h, e => by
    obtain ⟨v, h1, h2⟩ := RDs.get (i := i) (d := d) h (by simpa using e)
    exact ⟨v, by simpa using h1, h2⟩
theorem RDs.getV : ∀ {ds : List PyData} {vs : List V} {i : Nat} {v : V}, RDs K F H ds vs → vs[i]? = some v → ∃ d, ds[i]? = some d ∧ RD K F H d v
  | _, _, _, _, .nil, e => by simp at e
  | _, _, 0, _, .cons h _, e => by simp at e; subst e; exact ⟨_, rfl, h⟩
  | _, _, i + 1, d, .cons _ h, e => by
    obtain ⟨v, h1, h2⟩ := RDs.getV (i := i) (v := d) h (by simpa using e)
    exact ⟨v, by simpa using h1, h2⟩
theorem RDs.append : ∀ {ds es : List PyData} {vs us : List V}, RDs K F H ds vs → RDs K F H es us → RDs K F H (ds ++ es) (vs ++ us)
  | _, _, _, _, .nil, h => h
  | _, _, _, _, .cons a b, h => .cons a (RDs.append b h)
theorem RDs.set {d : PyData} {v : V} (r : RD K F H d v) : ∀ {ds : List PyData} {vs : List V} (i : Nat), RDs K F H ds vs → RDs K F H (ds.set i d) (vs.set i v)
  | _, _, _, .nil => .nil
  | _, _, 0, .cons _ t => .cons r t
  | _, _, i + 1, .cons q t => .cons q (RDs.set r i t)
theorem RDs.take : ∀ {ds : List PyData} {vs : List V} (n : Nat), RDs K F H ds vs → RDs K F H (ds.take n) (vs.take n)
  | _, _, 0, _ => .nil
  | _, _, _ + 1, .nil => .nil
  | _, _, n + 1, .cons r t => .cons r (RDs.take n t)
theorem RDs.drop : ∀ {ds : List PyData} {vs : List V} (n : Nat), RDs K F H ds vs → RDs K F H (ds.drop n) (vs.drop n)
  | _, _, 0, h => h
  | _, _, _ + 1, .nil => .nil
  | _, _, n + 1, .cons r t => RDs.drop n t
-- without a dict in it
mutual
theorem RD.dp : ∀ {d : PyData} {v : V}, RD K F H d v → d.canLay0 = true → Dp K H v d
  | _, _, .none, _ => .non
  | _, _, .bool b, _ => .bl b
  | _, _, .int i, _ => .int i
  | _, _, .str x, _ => .str x
  | _, _, .list h1 h2, c => .lst h1.sq (RDs.dp h2 (by simpa [PyData.canLay0] using c))
  | _, _, .tuple h1 h2, c => .tup h1.sq (RDs.dp h2 (by simpa [PyData.canLay0] using c))
  | _, _, .dict h1 h2, c => by simp [PyData.canLay0] at c
theorem RDs.dp : ∀ {ds : List PyData} {vs : List V}, RDs K F H ds vs → PyData.canLayAll0 ds = true → DpAll K H vs ds
  | _, _, .nil, _ => .nil
  | _, _, .cons h1 h2, c => by
    rw [PyData.canLayAll0, Bool.and_eq_true] at c
    exact .cons (RD.dp h1 c.1) (RDs.dp h2 c.2)
end
/-- a dict's pairs -/
def RKV (K : PySem.W.Frag) (F : Addr → Prop) (H : Hp) : List (Key × PyData) → List (Key × V) → Prop := Paired fun p q => p.1 = q.1 ∧ RD K F H p.2 q.2
theorem RKV.mono (hF : ∀ a, F a → F' a ∧ H' a = H a) {ds : List (Key × PyData)} {vs : List (Key × V)} (h : RKV K F H ds vs) : RKV K F' H' ds vs := Paired.mapP h fun _ _ z => ⟨z.1, z.2.mono hF⟩
def keyD : Key → PyData
  | .inl i => .int i
  | .inr x => .str x
theorem RKV.kv : ∀ {ds : List (Key × PyData)} {vs : List (Key × V)}, RKV K F H ds vs → RDkv K F H (ds.map fun p => (keyD p.1, p.2)) vs
  | _, _, .nil => .nil
  | (.inl i, d) :: ds, (.inl j, v) :: vs, .cons ⟨e, h⟩ t => by
    cases e
    exact .consI h (RKV.kv t)
  | (.inr i, d) :: ds, (.inr j, v) :: vs, .cons ⟨e, h⟩ t => by
    cases e
    exact .consS h (RKV.kv t)
  | (.inl i, d) :: ds, (.inr j, v) :: vs, .cons ⟨e, h⟩ t => by cases e
  | (.inr i, d) :: ds, (.inl j, v) :: vs, .cons ⟨e, h⟩ t => by cases e
/-- a thing's content stands at p -/
def RO (K : PySem.W.Frag) (F : Addr → Prop) (H : Hp) : Ob → Addr → Prop
  | .lst xs, p => ∃ vs, H p = some (.lst vs) ∧ RDs K F H xs vs
  | .dic kvs, p => ∃ vs, H p = some (.dK vs) ∧ RKV K F H kvs vs
/-- what freezes -/
def Ob.data : Ob → PyData
  | .lst xs => .list xs
  | .dic kvs => .dict (kvs.map fun p => (keyD p.1, p.2))
theorem RO.mono (hF : ∀ a, F a → F' a ∧ H' a = H a) {c : Ob} {p : Addr} (e : H' p = H p) (h : RO K F H c p) : RO K F' H' c p := by
  cases c with
  | lst xs => obtain ⟨vs, h1, h2⟩ := h; exact ⟨vs, e.trans h1, h2.mono hF⟩
  | dic xs => obtain ⟨vs, h1, h2⟩ := h; exact ⟨vs, e.trans h1, h2.mono hF⟩
theorem RO.there {c : Ob} {p : Addr} (h : RO K F H c p) : ∃ o, H p = some o := by
  cases c with
  | lst xs => obtain ⟨vs, h1, h2⟩ := h; exact ⟨_, h1⟩
  | dic xs => obtain ⟨vs, h1, h2⟩ := h; exact ⟨_, h1⟩
theorem RO.rd {c : Ob} {p : Addr} (f : F p) (h : RO K F H c p) : RD K F H c.data (.ref p) := by
  cases c with
  | lst xs => obtain ⟨vs, h1, h2⟩ := h; exact .list (.inl ⟨f, .inl h1⟩) h2
  | dic xs => obtain ⟨vs, h1, h2⟩ := h; exact .dict ⟨f, h1⟩ h2.kv
end

/-! ### states -/
/-- a place's thing -/
def RP (K : PySem.W.Frag) (G : Gh) (H : Hp) (pl : Pl) : W → V → Prop
  | .d x, v => RD K G.F H x v
  | .ref b, v => ∃ p, v = .ref p ∧ G.ad (.box b) = some p
  | .own c, v => ∃ p, v = .ref p ∧ G.ad pl = some p ∧ RO K G.F H c p
  | .exn c, v => ∃ a, v = .ref a ∧ G.ex = some (a, c)
/-- what an expression hands on: no thing of its own -/
def RW (K : PySem.W.Frag) (G : Gh) (H : Hp) : W → V → Prop
  | .d x, v => RD K G.F H x v
  | .ref b, v => ∃ p, v = .ref p ∧ G.ad (.box b) = some p
  | .own _, _ => False
  | .exn _, _ => False
/-- a class's address by its name; the exception that is handled -/
structure CA where
  cl : Str → Addr → Prop
  ex : Option (Addr × Str)
/-- a field's box is older than the thing itself -/
def older (b : Nat) : W → Prop
  | .ref c => c < b
  | .exn _ => False
  | _ => True
def RB (K : PySem.W.Frag) (CL : CA) (G : Gh) (H : Hp) (b : Nat) : Box → Addr → Prop
  | .ctr c, p => RO K G.F H c p
  | .inst cls fs, p => ∃ C dx vfs, CL.cl cls C ∧ H p = some (.ins C dx vfs) ∧ vfs.map (·.1) = fs.map (·.1) ∧ ∀ f w, fs.lookup f = some w → ∃ v, vfs.lookup f = some v ∧ RP K G H (.fld b f) w v ∧ older b w
structure SR (K : PySem.W.Frag) (CL : CA) (G : Gh) (s : S) (σ : L2.St) (H : Hp) : Prop where
  len : s.rho.length = σ.length
  slots : ∀ i w, s.rho[i]? = some (some w) → ∃ v, σ[i]? = some (some v) ∧ RP K G H (.slot i) w v
  boxes : ∀ b c, s.mem[b]? = some c → ∃ p, G.ad (.box b) = some p ∧ RB K CL G H b c p
  inj : ∀ pl pl' p, G.ad pl = some p → G.ad pl' = some p → pl = pl'
  live : ∀ pl p, G.ad pl = some p → ∃ o, H p = some o
  fz : ∀ p, G.F p → (∃ o, H p = some o) ∧ ∀ pl, G.ad pl ≠ some p
  bx : ∀ b p, G.ad (.box b) = some p → b < s.mem.length
  fd : ∀ b f p, G.ad (.fld b f) = some p → b < s.mem.length
  exq : G.ex = CL.ex
/-- what happens between two states -/
structure Fut (G : Gh) (H : Hp) (n : Nat) (G' : Gh) (H' : Hp) (n' : Nat) : Prop where
  fr : ∀ a, G.F a → G'.F a
  oth : ∀ a o, H a = some o → (∀ pl, G.ad pl ≠ some a) → H' a = some o
  there : ∀ a o, H a = some o → ∃ o', H' a = some o'
  newF : ∀ a, G'.F a → G.F a ∨ H a = none ∨ ∃ pl, G.ad pl = some a
  newA : ∀ pl a, G'.ad pl = some a → H a = none ∨ ∃ pl0, G.ad pl0 = some a
  box : ∀ b p, b < n → G.ad (.box b) = some p → G'.ad (.box b) = some p
  le : n ≤ n'
  ex : G'.ex = G.ex
theorem Fut.refl {G : Gh} {H : Hp} {n : Nat} : Fut G H n G H n :=
  ⟨fun _ h => h, fun _ _ h _ => h, fun _ o h => ⟨o, h⟩, fun _ h => .inl h, fun pl _ h => .inr ⟨pl, h⟩, fun _ _ _ h => h, Nat.le_refl _, rfl⟩
theorem none_or {H : Hp} (a : Addr) : H a = Option.none ∨ ∃ o, H a = some o := by
  cases h : H a with
  | none => exact Or.inl rfl
  | some o => exact Or.inr ⟨o, rfl⟩
theorem Fut.back {G G' : Gh} {H H' : Hp} {n n' : Nat} (f : Fut G H n G' H' n') {a : Addr} (h : H' a = none) : H a = none := by
  rcases none_or (H := H) a with e | ⟨o, e⟩
  · exact e
  · obtain ⟨o', e'⟩ := f.there a o e
    rw [h] at e'
    cases e'
theorem Fut.trans {G G1 G2 : Gh} {H H1 H2 : Hp} {n n1 n2 : Nat} (a : Fut G H n G1 H1 n1) (b : Fut G1 H1 n1 G2 H2 n2) : Fut G H n G2 H2 n2 where
  fr := fun x h => b.fr x (a.fr x h)
  oth := fun x o h hn => by
    refine b.oth x o (a.oth x o h hn) fun pl e => ?_
    rcases a.newA pl x e with z | ⟨pl0, z⟩
    · rw [h] at z; cases z
    · exact hn pl0 z
  there := fun x o h => by
    obtain ⟨o1, h1⟩ := a.there x o h
    exact b.there x o1 h1
  newF := fun x h => by
    rcases b.newF x h with h | h | ⟨pl, h⟩
    · exact a.newF x h
    · exact .inr (.inl (a.back h))
    · rcases a.newA pl x h with z | z
      · exact .inr (.inl z)
      · exact .inr (.inr z)
  newA := fun pl x h => by
    rcases b.newA pl x h with z | ⟨pl0, z⟩
    · exact .inl (a.back z)
    · exact a.newA pl0 x z
  box := fun i p hi h => b.box i p (Nat.lt_of_lt_of_le hi a.le) (a.box i p hi h)
  le := Nat.le_trans a.le b.le
  ex := b.ex.trans a.ex
section
variable {K : PySem.W.Frag} {CL : CA} {G G' : Gh} {H H' : Hp} {s : S} {σ : L2.St} {n n' : Nat}
/-- frozen things stand still -/
theorem Fut.mono (S : SR K CL G s σ H) (f : Fut G H n G' H' n') : ∀ a, G.F a → G'.F a ∧ H' a = H a := fun a h => by
  obtain ⟨⟨o, e⟩, ne⟩ := S.fz a h
  exact ⟨f.fr a h, by rw [f.oth a o e ne, e]⟩
theorem Fut.rd (S : SR K CL G s σ H) (f : Fut G H n G' H' n') {d : PyData} {v : V} (h : RD K G.F H d v) : RD K G'.F H' d v := h.mono (f.mono S)
theorem SR.boxlt (S : SR K CL G s σ H) {b : Nat} {c : Box} (h : s.mem[b]? = some c) : b < s.mem.length := (List.getElem?_eq_some_iff.mp h).1
end
end MP
/-! Part B: how states change. -/
namespace MP
open PySem PySem.Spec PyProof.Rows L2
section
variable {K : PySem.W.Frag} {CL : CA} {G G' : Gh} {H H' : Hp} {s : S} {σ : L2.St} {n n' : Nat} {p : Addr} {o : HO}
theorem upd_ext (h : H p = none) : ∀ a u, H a = some u → upd H p o a = some u := fun a u e => by
  rw [upd_ne (ne_of_none e h)]
  exact e
theorem RP.ext (x : ∀ a u, H a = some u → H' a = some u) (hl : ∀ a, G.F a → ∃ o, H a = some o) {pl : Pl} {w : W} {v : V} (hlv : ∀ pl p, G.ad pl = some p → ∃ o, H p = some o) (h : RP K G H pl w v) : RP K G H' pl w v := by
  have hF : ∀ a, G.F a → G.F a ∧ H' a = H a := fun a f => by
    obtain ⟨u, e⟩ := hl a f
    exact ⟨f, by rw [x a u e, e]⟩
  cases w with
  | exn c => exact h
  | d y => exact RD.mono hF h
  | ref b => exact h
  | own c =>
    obtain ⟨q, e1, e2, e3⟩ := h
    obtain ⟨u, e⟩ := hlv _ _ e2
    exact ⟨q, e1, e2, e3.mono hF (by rw [x q u e, e])⟩
/-- the heap grows -/
theorem SR.ext (S : SR K CL G s σ H) (x : ∀ a u, H a = some u → H' a = some u) : SR K CL G s σ H' := by
  have hl : ∀ a, G.F a → ∃ o, H a = some o := fun a f => (S.fz a f).1
  have hF : ∀ a, G.F a → G.F a ∧ H' a = H a := fun a f => by
    obtain ⟨u, e⟩ := hl a f
    exact ⟨f, by rw [x a u e, e]⟩
  refine ⟨S.len, fun i w e => ?_, fun b c e => ?_, S.inj, fun pl q e => ?_, fun q f => ?_, ?_, ?_, ?_⟩
  · obtain ⟨v, h1, h2⟩ := S.slots i w e
    exact ⟨v, h1, h2.ext x hl S.live⟩
  · obtain ⟨q, h1, h2⟩ := S.boxes b c e
    refine ⟨q, h1, ?_⟩
    obtain ⟨u, eu⟩ := S.live _ _ h1
    cases c with
    | ctr c => exact RO.mono hF (by rw [x q u eu, eu]) h2
    | inst cls fs =>
      obtain ⟨C, dx, vfs, g1, g2, g3, g4⟩ := h2
      refine ⟨C, dx, vfs, g1, x _ _ g2, g3, fun f w hw => ?_⟩
      obtain ⟨v, k1, k2, g9⟩ := g4 f w hw
      exact ⟨v, k1, k2.ext x hl S.live, g9⟩
  · obtain ⟨u, eu⟩ := S.live _ _ e
    exact ⟨u, x _ _ eu⟩
  · obtain ⟨⟨u, eu⟩, hn⟩ := S.fz q f
    exact ⟨⟨u, x _ _ eu⟩, hn⟩
  · exact S.bx
  · exact S.fd
  · exact S.exq
theorem Fut.ext (x : ∀ a u, H a = some u → H' a = some u) (h : n ≤ n') : Fut G H n G H' n' :=
  ⟨fun _ h => h, fun a o e _ => x a o e, fun a o e => ⟨o, x a o e⟩, fun _ h => .inl h, fun pl _ h => .inr ⟨pl, h⟩, fun _ _ _ h => h, h, rfl⟩
/-- an address more that is frozen -/
def Gh.addF (G : Gh) (p : Addr) : Gh := ⟨fun a => G.F a ∨ a = p, G.ad, G.ex⟩
theorem RP.addF {pl : Pl} {w : W} {v : V} (h : RP K G H pl w v) : RP K (G.addF p) H pl w v := by
  have hF : ∀ a, G.F a → (G.addF p).F a ∧ H a = H a := fun a f => ⟨.inl f, rfl⟩
  cases w with
  | exn c => exact h
  | d y => exact RD.mono hF h
  | ref b => exact h
  | own c =>
    obtain ⟨q, e1, e2, e3⟩ := h
    exact ⟨q, e1, e2, e3.mono hF rfl⟩
theorem SR.addF (S : SR K CL G s σ H) (hp : ∃ o, H p = some o) (hn : ∀ pl, G.ad pl ≠ some p) : SR K CL (G.addF p) s σ H := by
  have hF : ∀ a, G.F a → (G.addF p).F a ∧ H a = H a := fun a f => ⟨.inl f, rfl⟩
  refine ⟨S.len, fun i w e => ?_, fun b c e => ?_, S.inj, S.live, fun q f => ?_, S.bx, S.fd, S.exq⟩
  · obtain ⟨v, h1, h2⟩ := S.slots i w e
    exact ⟨v, h1, h2.addF⟩
  · obtain ⟨q, h1, h2⟩ := S.boxes b c e
    refine ⟨q, h1, ?_⟩
    cases c with
    | ctr c => exact RO.mono hF rfl h2
    | inst cls fs =>
      obtain ⟨C, dx, vfs, g1, g2, g3, g4⟩ := h2
      refine ⟨C, dx, vfs, g1, g2, g3, fun f w hw => ?_⟩
      obtain ⟨v, k1, k2, g9⟩ := g4 f w hw
      exact ⟨v, k1, k2.addF, g9⟩
  · rcases f with f | f
    · exact S.fz q f
    · subst f
      exact ⟨hp, hn⟩
theorem Fut.addF (x : ∀ a u, H a = some u → H' a = some u) (h : H p = none) (hn : n ≤ n') : Fut G H n (G.addF p) H' n' :=
  ⟨fun _ h => .inl h, fun a o e _ => x a o e, fun a o e => ⟨o, x a o e⟩, fun a f => by
    rcases f with f | f
    · exact .inl f
    · rw [f]; exact .inr (.inl h), fun pl _ h => .inr ⟨pl, h⟩, fun _ _ _ h => h, hn, rfl⟩
theorem SR.notIn (S : SR K CL G s σ H) (h : H p = none) : ∀ pl, G.ad pl ≠ some p := fun pl e => by
  obtain ⟨u, eu⟩ := S.live _ _ e
  rw [h] at eu
  cases eu
/-- a fresh thing, frozen at once -/
theorem SR.fresh (S : SR K CL G s σ H) (h : H p = none) : SR K CL (G.addF p) s σ (upd H p o) ∧ Fut G H n (G.addF p) (upd H p o) n :=
  ⟨(S.ext (upd_ext h)).addF ⟨o, upd_same⟩ (S.notIn h), Fut.addF (upd_ext h) h (Nat.le_refl _)⟩
/-- a fresh thing that nobody knows -/
theorem SR.junk (S : SR K CL G s σ H) (h : H p = none) : SR K CL G s σ (upd H p o) ∧ Fut G H n G (upd H p o) n := ⟨S.ext (upd_ext h), Fut.ext (upd_ext h) (Nat.le_refl _)⟩
/-! ### places change -/
def Gh.put (G : Gh) (pl : Pl) (a : Option Addr) : Gh := ⟨G.F, fun q => if q = pl then a else G.ad q, G.ex⟩
theorem Gh.put_same {pl : Pl} {a : Option Addr} : (G.put pl a).ad pl = a := by simp [Gh.put]
theorem Gh.put_ne {pl q : Pl} {a : Option Addr} (h : q ≠ pl) : (G.put pl a).ad q = G.ad q := by simp [Gh.put, h]
theorem Gh.put_none {pl q : Pl} {x : Addr} (h : (G.put pl none).ad q = some x) : q ≠ pl ∧ G.ad q = some x := by
  by_cases e : q = pl
  · subst e
    rw [Gh.put_same] at h
    cases h
  · rw [Gh.put_ne e] at h
    exact ⟨e, h⟩
theorem RP.put {pl q : Pl} {a : Option Addr} {w : W} {v : V} (hq : q ≠ pl) (hb : ∀ b, pl ≠ .box b) (h : RP K G H q w v) : RP K (G.put pl a) H q w v := by
  cases w with
  | exn c => exact h
  | d y => exact h
  | ref b =>
    obtain ⟨x, e1, e2⟩ := h
    exact ⟨x, e1, by rw [Gh.put_ne (fun z => hb b z.symm)]; exact e2⟩
  | own c =>
    obtain ⟨x, e1, e2, e3⟩ := h
    exact ⟨x, e1, by rw [Gh.put_ne hq]; exact e2, e3⟩
/-- a slot is stored; what stood there is let go -/
theorem SR.set (S : SR K CL G s σ H) {i : Nat} {w : W} {v : V} (h : RW K G H w v) (hi : i < σ.length) :
    SR K CL (G.put (.slot i) none) { s with rho := s.rho.set i (some w) } (σ.set i (some v)) H ∧ ∀ {n : Nat}, Fut G H n (G.put (.slot i) none) H n := by
  have hb : ∀ b, Pl.slot i ≠ .box b := fun b z => by cases z
  refine ⟨⟨by simpa using S.len, fun j w' e => ?_, fun b c e => ?_, fun pl pl' x e1 e2 => ?_, fun pl x e => ?_, fun x f => ?_, fun b x e => S.bx b x (Gh.put_none e).2, fun b f x e => S.fd b f x (Gh.put_none e).2, S.exq⟩, fun {n} => ⟨fun _ h => h, fun a o e _ => e, fun a o e => ⟨o, e⟩, fun _ h => .inl h, fun pl x h => .inr ⟨pl, (Gh.put_none h).2⟩, fun b x _ e => by rw [Gh.put_ne (fun z => hb b z.symm)]; exact e, Nat.le_refl _, rfl⟩⟩
  · by_cases hj : j = i
    · subst hj
      rw [List.getElem?_set_self (by rw [S.len]; exact hi)] at e
      cases e
      refine ⟨v, List.getElem?_set_self hi, ?_⟩
      cases w with
      | exn c => exact h.elim
      | d y => exact h
      | ref b =>
        obtain ⟨x, e1, e2⟩ := h
        exact ⟨x, e1, by rw [Gh.put_ne (fun z => hb b z.symm)]; exact e2⟩
      | own c => exact h.elim
    · rw [List.getElem?_set_ne (Ne.symm hj)] at e
      obtain ⟨v', h1, h2⟩ := S.slots j w' e
      refine ⟨v', by rw [List.getElem?_set_ne (Ne.symm hj)]; exact h1, h2.put (fun z => hj (by cases z; rfl)) hb⟩
  · obtain ⟨q, h1, h2⟩ := S.boxes b c e
    refine ⟨q, by rw [Gh.put_ne (fun z => hb b z.symm)]; exact h1, ?_⟩
    cases c with
    | ctr c => exact h2
    | inst cls fs =>
      obtain ⟨C, dx, vfs, g1, g2, g3, g4⟩ := h2
      refine ⟨C, dx, vfs, g1, g2, g3, fun f w hw => ?_⟩
      obtain ⟨v, k1, k2, g9⟩ := g4 f w hw
      exact ⟨v, k1, k2.put (fun z => by cases z) hb, g9⟩
  · exact S.inj pl pl' x (Gh.put_none e1).2 (Gh.put_none e2).2
  · exact S.live pl x (Gh.put_none e).2
  · exact ⟨(S.fz x f).1, fun pl e => (S.fz x f).2 pl (Gh.put_none e).2⟩
/-- a slot becomes a thing's only place -/
theorem SR.setOwn (S : SR K CL G s σ H) {i : Nat} {c : Ob} (h : RO K G.F H c p) (hf : ¬ G.F p) (hn : ∀ pl, G.ad pl ≠ some p) (hi : i < σ.length) :
    SR K CL (G.put (.slot i) (some p)) { s with rho := s.rho.set i (some (.own c)) } (σ.set i (some (.ref p))) H := by
  have hb : ∀ b, Pl.slot i ≠ .box b := fun b z => by cases z
  have ad' : ∀ {q : Pl} {x : Addr}, (G.put (.slot i) (some p)).ad q = some x → (q = .slot i ∧ x = p) ∨ (q ≠ .slot i ∧ G.ad q = some x) := fun {q x} e => by
    by_cases z : q = .slot i
    · subst z
      rw [Gh.put_same] at e
      cases e
      exact .inl ⟨rfl, rfl⟩
    · rw [Gh.put_ne z] at e
      exact .inr ⟨z, e⟩
  refine ⟨by simpa using S.len, fun j w' e => ?_, fun b c e => ?_, fun pl pl' x e1 e2 => ?_, fun pl x e => ?_, fun x f => ?_, fun b x e => ?_, fun b f x e => ?_, S.exq⟩
  · by_cases hj : j = i
    · subst hj
      rw [List.getElem?_set_self (by rw [S.len]; exact hi)] at e
      cases e
      exact ⟨.ref p, List.getElem?_set_self hi, p, rfl, Gh.put_same, h⟩
    · rw [List.getElem?_set_ne (Ne.symm hj)] at e
      obtain ⟨v', h1, h2⟩ := S.slots j w' e
      refine ⟨v', by rw [List.getElem?_set_ne (Ne.symm hj)]; exact h1, h2.put (fun z => hj (by cases z; rfl)) hb⟩
  · obtain ⟨q, h1, h2⟩ := S.boxes b c e
    refine ⟨q, by rw [Gh.put_ne (fun z => hb b z.symm)]; exact h1, ?_⟩
    cases c with
    | ctr c => exact h2
    | inst cls fs =>
      obtain ⟨C, dx, vfs, g1, g2, g3, g4⟩ := h2
      refine ⟨C, dx, vfs, g1, g2, g3, fun f w hw => ?_⟩
      obtain ⟨v, k1, k2, g9⟩ := g4 f w hw
      exact ⟨v, k1, k2.put (fun z => by cases z) hb, g9⟩
  · rcases ad' e1 with ⟨a1, a2⟩ | ⟨a1, a2⟩ <;> rcases ad' e2 with ⟨b1, b2⟩ | ⟨b1, b2⟩
    · rw [a1, b1]
    · subst a2; exact absurd b2 (hn _)
    · subst b2; exact absurd a2 (hn _)
    · exact S.inj pl pl' x a2 b2
  · rcases ad' e with ⟨a1, a2⟩ | ⟨a1, a2⟩
    · subst a2; exact h.there
    · exact S.live pl x a2
  · refine ⟨(S.fz x f).1, fun pl e => ?_⟩
    rcases ad' e with ⟨a1, a2⟩ | ⟨a1, a2⟩
    · subst a2; exact hf f
    · exact (S.fz x f).2 pl a2
  · rcases ad' e with ⟨a1, a2⟩ | ⟨a1, a2⟩
    · cases a1
    · exact S.bx b x a2
  · rcases ad' e with ⟨a1, a2⟩ | ⟨a1, a2⟩
    · cases a1
    · exact S.fd b f x a2
theorem Fut.setOwn {i : Nat} (h : H p = none ∨ ∃ pl, G.ad pl = some p) : Fut G H n (G.put (.slot i) (some p)) H n :=
  ⟨fun _ h => h, fun a o e _ => e, fun a o e => ⟨o, e⟩, fun _ h => .inl h, fun pl x e => by
    by_cases z : pl = .slot i
    · subst z
      rw [Gh.put_same] at e
      cases e
      exact h
    · rw [Gh.put_ne z] at e
      exact .inr ⟨pl, e⟩, fun b x _ e => by rw [Gh.put_ne (fun z => by cases z)]; exact e, Nat.le_refl _, rfl⟩
/-- an own slot's thing freezes -/
theorem SR.freeze (S : SR K CL G s σ H) {i : Nat} {c : Ob} (e : s.rho[i]? = some (some (.own c))) : ∃ p, σ[i]? = some (some (.ref p)) ∧
    SR K CL ((G.put (.slot i) none).addF p) { s with rho := s.rho.set i (some (.d c.data)) } σ H ∧ RD K ((G.put (.slot i) none).addF p).F H c.data (.ref p) ∧ ∀ {n : Nat}, Fut G H n ((G.put (.slot i) none).addF p) H n := by
  obtain ⟨v, hv, p, rfl, ha, ho⟩ := S.slots i _ e
  have hi : i < σ.length := (List.getElem?_eq_some_iff.mp hv).1
  refine ⟨p, hv, ?_⟩
  have hF : ∀ a, G.F a → ((G.put (.slot i) none).addF p).F a ∧ H a = H a := fun a f => ⟨.inl f, rfl⟩
  have rd : RD K ((G.put (.slot i) none).addF p).F H c.data (.ref p) := RO.rd (.inr rfl) (ho.mono hF rfl)
  refine ⟨?_, rd, fun {n} => ⟨fun _ h => .inl h, fun a o e _ => e, fun a o e => ⟨o, e⟩, fun a f => ?_, fun pl x h => .inr ⟨pl, (Gh.put_none (G := G) h).2⟩, fun b x _ e => by
      show (G.put (.slot i) none).ad (.box b) = some x
      rw [Gh.put_ne (fun z => by cases z)]; exact e, Nat.le_refl _, rfl⟩⟩
  · -- first let go, then frozen, then stored
    have hb : ∀ b, Pl.slot i ≠ .box b := fun b z => by cases z
    have hnp : ∀ pl, (G.put (.slot i) none).ad pl ≠ some p := fun pl z => by
      obtain ⟨z1, z2⟩ := Gh.put_none z
      exact z1 (S.inj _ _ _ z2 ha)
    refine ⟨by simpa using S.len, fun j w' e' => ?_, fun b c' e' => ?_, fun pl pl' x e1 e2 => ?_, fun pl x e1 => ?_, fun x f => ?_, fun b x e => S.bx b x (Gh.put_none (show (G.put (.slot i) none).ad (.box b) = some x from e)).2, fun b f x e => S.fd b f x (Gh.put_none (show (G.put (.slot i) none).ad (.fld b f) = some x from e)).2, S.exq⟩
    · by_cases hj : j = i
      · subst hj
        rw [List.getElem?_set_self (by rw [S.len]; exact hi)] at e'
        cases e'
        exact ⟨.ref p, hv, rd⟩
      · rw [List.getElem?_set_ne (Ne.symm hj)] at e'
        obtain ⟨v', h1, h2⟩ := S.slots j w' e'
        exact ⟨v', h1, (h2.put (fun z => hj (by cases z; rfl)) hb).addF⟩
    · obtain ⟨q, h1, h2⟩ := S.boxes b c' e'
      refine ⟨q, by show (G.put (.slot i) none).ad (.box b) = some q; rw [Gh.put_ne (fun z => hb b z.symm)]; exact h1, ?_⟩
      cases c' with
      | ctr c' => exact RO.mono hF rfl h2
      | inst cls fs =>
        obtain ⟨C, dx, vfs, g1, g2, g3, g4⟩ := h2
        refine ⟨C, dx, vfs, g1, g2, g3, fun f w hw => ?_⟩
        obtain ⟨v, k1, k2, g9⟩ := g4 f w hw
        exact ⟨v, k1, (k2.put (fun z => by cases z) hb).addF, g9⟩
    · exact S.inj pl pl' x (Gh.put_none (G := G) e1).2 (Gh.put_none (G := G) e2).2
    · exact S.live pl x (Gh.put_none (G := G) e1).2
    · rcases f with f | f
      · exact ⟨(S.fz x f).1, fun pl e1 => (S.fz x f).2 pl (Gh.put_none (G := G) e1).2⟩
      · subst f
        exact ⟨S.live _ _ ha, hnp⟩
  · rcases f with f | f
    · exact .inl f
    · rw [f]; exact .inr (.inr ⟨_, ha⟩)
end
end MP
/-! Part C: contents change; boxes. -/
namespace MP
open PySem PySem.Spec PyProof.Rows L2
section
variable {K : PySem.W.Frag} {CL : CA} {G G' : Gh} {H H' : Hp} {s : S} {σ : L2.St} {n n' : Nat} {p : Addr} {o : HO}
/-- a thing at an owned address is rewritten: all that leans on other addresses stands -/
theorem RP.wr (S : SR K CL G s σ H) {pl q : Pl} (ha : G.ad pl = some p) (hq : q ≠ pl) {w : W} {v : V} (h : RP K G H q w v) : RP K G (upd H p o) q w v := by
  have hF : ∀ a, G.F a → G.F a ∧ upd H p o a = H a := fun a f => ⟨f, upd_ne fun z => (S.fz a f).2 pl (by rw [z]; exact ha)⟩
  cases w with
  | exn c => exact h
  | d y => exact RD.mono hF h
  | ref b => exact h
  | own c =>
    obtain ⟨x, e1, e2, e3⟩ := h
    exact ⟨x, e1, e2, e3.mono hF (upd_ne fun z => hq (S.inj _ _ x e2 (by rw [z]; exact ha)))⟩
theorem Fut.wr {pl : Pl} (ha : G.ad pl = some p) : Fut G H n G (upd H p o) n :=
  ⟨fun _ h => h, fun a u e hn => by rw [upd_ne (fun z => hn pl (by rw [z]; exact ha))]; exact e, fun a u e => by
    by_cases z : a = p
    · exact ⟨o, by rw [z]; exact upd_same⟩
    · exact ⟨u, by rw [upd_ne z]; exact e⟩, fun _ h => .inl h, fun pl _ h => .inr ⟨pl, h⟩, fun _ _ _ h => h, Nat.le_refl _, rfl⟩
/-- the thing of a slot's own gets another content -/
theorem SR.writeSlot (S : SR K CL G s σ H) {i : Nat} {c c' : Ob} (e : s.rho[i]? = some (some (.own c))) (hv : σ[i]? = some (some (.ref p))) (h : RO K G.F (upd H p o) c' p) :
    SR K CL G { s with rho := s.rho.set i (some (.own c')) } σ (upd H p o) ∧ Fut G H n G (upd H p o) n := by
  obtain ⟨v, hv', q, e1, ha, ho⟩ := S.slots i _ e
  rw [hv] at hv'
  cases hv'
  cases e1
  have hi : i < σ.length := (List.getElem?_eq_some_iff.mp hv).1
  refine ⟨⟨by simpa using S.len, fun j w' e' => ?_, fun b c' e' => ?_, S.inj, fun pl x e1 => ?_, fun x f => ?_, S.bx, S.fd, S.exq⟩, Fut.wr ha⟩
  · by_cases hj : j = i
    · subst hj
      rw [List.getElem?_set_self (by rw [S.len]; exact hi)] at e'
      cases e'
      exact ⟨.ref p, hv, p, rfl, ha, h⟩
    · rw [List.getElem?_set_ne (Ne.symm hj)] at e'
      obtain ⟨v', h1, h2⟩ := S.slots j w' e'
      exact ⟨v', h1, h2.wr S ha fun z => hj (by cases z; rfl)⟩
  · obtain ⟨q, h1, h2⟩ := S.boxes b c' e'
    refine ⟨q, h1, ?_⟩
    have hF : ∀ a, G.F a → G.F a ∧ L2.upd H p o a = H a := fun a f => ⟨f, upd_ne fun z => by subst z; exact (S.fz _ f).2 _ ha⟩
    have hqp : q ≠ p := fun z => by
      have := S.inj _ _ q h1 (by rw [z]; exact ha)
      cases this
    cases c' with
    | ctr c' => exact RO.mono hF (upd_ne hqp) h2
    | inst cls fs =>
      obtain ⟨C, dx, vfs, g1, g2, g3, g4⟩ := h2
      refine ⟨C, dx, vfs, g1, by rw [upd_ne hqp]; exact g2, g3, fun f w hw => ?_⟩
      obtain ⟨v, k1, k2, g9⟩ := g4 f w hw
      exact ⟨v, k1, k2.wr S ha (fun z => by cases z), g9⟩
  · by_cases z : x = p
    · exact ⟨o, by rw [z]; exact upd_same⟩
    · rw [upd_ne z]; exact S.live pl x e1
  · rw [upd_ne fun z => by subst z; exact (S.fz _ f).2 _ ha]
    exact S.fz x f
/-- a box's content is rewritten -/
theorem SR.writeBox (S : SR K CL G s σ H) {b : Nat} {c c' : Ob} (e : s.mem[b]? = some (.ctr c)) (ha : G.ad (.box b) = some p) (h : RO K G.F (upd H p o) c' p) :
    SR K CL G { s with mem := s.mem.set b (.ctr c') } σ (upd H p o) ∧ Fut G H n G (upd H p o) n := by
  have hb : b < s.mem.length := S.boxlt e
  have hF : ∀ a, G.F a → G.F a ∧ L2.upd H p o a = H a := fun a f => ⟨f, upd_ne fun z => by subst z; exact (S.fz _ f).2 _ ha⟩
  refine ⟨⟨S.len, fun j w' e' => ?_, fun b' c'' e' => ?_, S.inj, fun pl x e1 => ?_, fun x f => ?_, fun b' x e => by simpa using S.bx b' x e, fun b' f x e => by simpa using S.fd b' f x e, S.exq⟩, Fut.wr ha⟩
  · obtain ⟨v', h1, h2⟩ := S.slots j w' e'
    exact ⟨v', h1, h2.wr S ha fun z => by cases z⟩
  · by_cases hj : b' = b
    · subst hj
      rw [List.getElem?_set_self hb] at e'
      cases e'
      exact ⟨p, ha, h⟩
    · rw [List.getElem?_set_ne (Ne.symm hj)] at e'
      obtain ⟨q, h1, h2⟩ := S.boxes b' c'' e'
      refine ⟨q, h1, ?_⟩
      have hqp : q ≠ p := fun z => by
        have := S.inj _ _ q h1 (by rw [z]; exact ha)
        cases this
        exact hj rfl
      cases c'' with
      | ctr c' => exact RO.mono hF (upd_ne hqp) h2
      | inst cls fs =>
        obtain ⟨C, dx, vfs, g1, g2, g3, g4⟩ := h2
        refine ⟨C, dx, vfs, g1, by rw [upd_ne hqp]; exact g2, g3, fun f w hw => ?_⟩
        obtain ⟨v, k1, k2, g9⟩ := g4 f w hw
        exact ⟨v, k1, k2.wr S ha (fun z => by cases z), g9⟩
  · by_cases z : x = p
    · exact ⟨o, by rw [z]; exact upd_same⟩
    · rw [upd_ne z]; exact S.live pl x e1
  · rw [(hF x f).2]
    exact S.fz x f
/-- what stands where nobody looks is let go -/
theorem SR.drop (S : SR K CL G s σ H) {pl : Pl} (h1 : ∀ i, pl = .slot i → ∀ c, s.rho[i]? ≠ some (some (.own c))) (h2 : ∀ b, pl ≠ .box b) (h3 : ∀ b f, pl ≠ .fld b f) : SR K CL (G.put pl none) s σ H := by
  refine ⟨S.len, fun j w' e' => ?_, fun b c e' => ?_, fun pl pl' x e1 e2 => S.inj pl pl' x (Gh.put_none e1).2 (Gh.put_none e2).2, fun pl x e => S.live pl x (Gh.put_none e).2, fun x f => ⟨(S.fz x f).1, fun pl e => (S.fz x f).2 pl (Gh.put_none e).2⟩, fun b x e => S.bx b x (Gh.put_none e).2, fun b f x e => S.fd b f x (Gh.put_none e).2, S.exq⟩
  · obtain ⟨v, k1, k2⟩ := S.slots j w' e'
    refine ⟨v, k1, ?_⟩
    by_cases hj : Pl.slot j = pl
    · subst hj
      cases w' with
      | exn c => exact k2
      | d y => exact k2
      | ref b =>
        obtain ⟨x, e1, e2⟩ := k2
        exact ⟨x, e1, by rw [Gh.put_ne (fun z => by cases z)]; exact e2⟩
      | own c => exact absurd e' (h1 j rfl c)
    · exact k2.put hj h2
  · obtain ⟨q, k1, k2⟩ := S.boxes b c e'
    refine ⟨q, by rw [Gh.put_ne (Ne.symm (h2 b))]; exact k1, ?_⟩
    cases c with
    | ctr c => exact k2
    | inst cls fs =>
      obtain ⟨C, dx, vfs, g1, g2, g3, g4⟩ := k2
      refine ⟨C, dx, vfs, g1, g2, g3, fun f w hw => ?_⟩
      obtain ⟨v, l1, l2, g9⟩ := g4 f w hw
      exact ⟨v, l1, l2.put (Ne.symm (h3 b f)) h2, g9⟩
/-- a new box with a thing in it that no place has -/
theorem SR.newBox (S : SR K CL G s σ H) {c : Ob} (h : RO K G.F H c p) (hf : ¬ G.F p) (hn : ∀ pl, G.ad pl ≠ some p) :
    SR K CL (G.put (.box s.mem.length) (some p)) { s with mem := s.mem ++ [.ctr c] } σ H := by
  have ad' : ∀ {q : Pl} {x : Addr}, (G.put (.box s.mem.length) (some p)).ad q = some x → (q = .box s.mem.length ∧ x = p) ∨ (q ≠ .box s.mem.length ∧ G.ad q = some x) := fun {q x} e => by
    by_cases z : q = .box s.mem.length
    · subst z
      rw [Gh.put_same] at e
      cases e
      exact .inl ⟨rfl, rfl⟩
    · rw [Gh.put_ne z] at e
      exact .inr ⟨z, e⟩
  have rp : ∀ {q : Pl} {w : W} {v : V}, q ≠ .box s.mem.length → RP K G H q w v → RP K (G.put (.box s.mem.length) (some p)) H q w v := fun {q w v} hq h => by
    cases w with
    | exn c => exact h
    | d y => exact h
    | ref b =>
      obtain ⟨x, e1, e2⟩ := h
      exact ⟨x, e1, by rw [Gh.put_ne (fun z => by cases z; exact absurd (S.bx _ _ e2) (Nat.lt_irrefl _))]; exact e2⟩
    | own c =>
      obtain ⟨x, e1, e2, e3⟩ := h
      exact ⟨x, e1, by rw [Gh.put_ne hq]; exact e2, e3⟩
  refine ⟨S.len, fun j w' e => ?_, fun b c e => ?_, fun pl pl' x e1 e2 => ?_, fun pl x e => ?_, fun x f => ?_, fun b x e => ?_, fun b f x e => ?_, S.exq⟩
  · obtain ⟨v', h1, h2⟩ := S.slots j w' e
    exact ⟨v', h1, rp (fun z => by cases z) h2⟩
  · by_cases hb : b < s.mem.length
    · have e : (s.mem ++ [.ctr _])[b]? = some c := e
      rw [List.getElem?_append_left hb] at e
      obtain ⟨q, h1, h2⟩ := S.boxes b c e
      refine ⟨q, by rw [Gh.put_ne (fun z => by cases z; exact absurd hb (Nat.lt_irrefl _))]; exact h1, ?_⟩
      cases c with
      | ctr c => exact h2
      | inst cls fs =>
        obtain ⟨C, dx, vfs, g1, g2, g3, g4⟩ := h2
        refine ⟨C, dx, vfs, g1, g2, g3, fun f w hw => ?_⟩
        obtain ⟨v, k1, k2, g9⟩ := g4 f w hw
        exact ⟨v, k1, rp (fun z => by cases z) k2, g9⟩
    · have e : (s.mem ++ [.ctr _])[b]? = some c := e
      rw [List.getElem?_append_right (Nat.le_of_not_lt hb)] at e
      have hz : b - s.mem.length = 0 := by
        by_cases z : b - s.mem.length = 0
        · exact z
        · rw [List.getElem?_eq_none (by simp; omega)] at e
          cases e
      rw [hz] at e
      cases e
      have hb' : b = s.mem.length := by omega
      subst hb'
      exact ⟨p, Gh.put_same, h⟩
  · rcases ad' e1 with ⟨a1, a2⟩ | ⟨a1, a2⟩ <;> rcases ad' e2 with ⟨b1, b2⟩ | ⟨b1, b2⟩
    · rw [a1, b1]
    · subst a2; exact absurd b2 (hn _)
    · subst b2; exact absurd a2 (hn _)
    · exact S.inj pl pl' x a2 b2
  · rcases ad' e with ⟨a1, a2⟩ | ⟨a1, a2⟩
    · subst a2; exact h.there
    · exact S.live pl x a2
  · refine ⟨(S.fz x f).1, fun pl e => ?_⟩
    rcases ad' e with ⟨a1, a2⟩ | ⟨a1, a2⟩
    · subst a2; exact hf f
    · exact (S.fz x f).2 pl a2
  · rcases ad' e with ⟨a1, a2⟩ | ⟨a1, a2⟩
    · cases a1; simp
    · have := S.bx b x a2
      simp; omega
  · rcases ad' e with ⟨a1, a2⟩ | ⟨a1, a2⟩
    · cases a1
    · have := S.fd b f x a2
      simp; omega
theorem Fut.newBox (h : H p = none ∨ ∃ pl, G.ad pl = some p) (hn : n = s.mem.length) : Fut G H n (G.put (.box n) (some p)) H (n + 1) :=
  ⟨fun _ h => h, fun a o e _ => e, fun a o e => ⟨o, e⟩, fun _ h => .inl h, fun pl x e => by
    by_cases z : pl = .box n
    · subst z
      rw [Gh.put_same] at e
      cases e
      exact h
    · rw [Gh.put_ne z] at e
      exact .inr ⟨pl, e⟩, fun b x hb e => by rw [Gh.put_ne (fun z => by cases z; exact absurd hb (Nat.lt_irrefl _))]; exact e, Nat.le_succ _, rfl⟩
theorem Fut.drop {pl : Pl} (h : ∀ b, pl ≠ .box b) : Fut G H n (G.put pl none) H n :=
  ⟨fun _ h => h, fun a o e _ => e, fun a o e => ⟨o, e⟩, fun _ h => .inl h, fun pl x e => .inr ⟨pl, (Gh.put_none e).2⟩, fun b x _ e => by rw [Gh.put_ne (Ne.symm (h b))]; exact e, Nat.le_refl _, rfl⟩
/-- a slot's own thing moves into a new box -/
theorem SR.box (S : SR K CL G s σ H) {i : Nat} {c : Ob} (e : s.rho[i]? = some (some (.own c))) : ∃ p G', σ[i]? = some (some (.ref p)) ∧ G'.ad (.box s.mem.length) = some p ∧
    SR K CL G' { rho := s.rho.set i (some (.ref s.mem.length)), mem := s.mem ++ [.ctr c] } σ H ∧ Fut G H s.mem.length G' H (s.mem.length + 1) := by
  obtain ⟨v, hv, p, rfl, ha, ho⟩ := S.slots i _ e
  have hi : i < σ.length := (List.getElem?_eq_some_iff.mp hv).1
  have hi' : i < s.rho.length := (List.getElem?_eq_some_iff.mp e).1
  -- the slot forgets, its place is let go, the box is new, the slot holds the box
  have S1 : SR K CL G { s with rho := s.rho.set i none } σ H := by
    refine ⟨by simpa using S.len, fun j w' e' => ?_, S.boxes, S.inj, S.live, S.fz, S.bx, S.fd, S.exq⟩
    by_cases hj : j = i
    · subst hj
      rw [List.getElem?_set_self hi'] at e'
      cases e'
    · rw [List.getElem?_set_ne (Ne.symm hj)] at e'
      exact S.slots j w' e'
  have S2 := S1.drop (pl := .slot i) (fun j ej c' e' => by
    cases ej
    rw [List.getElem?_set_self hi'] at e'
    cases e') (fun b z => by cases z) (fun b f z => by cases z)
  have hnp : ∀ pl, (G.put (.slot i) none).ad pl ≠ some p := fun pl z => by
    obtain ⟨z1, z2⟩ := Gh.put_none z
    exact z1 (S.inj _ _ _ z2 ha)
  have S3 := S2.newBox (c := c) ho (fun f => (S.fz p f).2 _ ha) hnp
  refine ⟨p, _, hv, Gh.put_same, ⟨by simpa using S.len, fun j w' e' => ?_, S3.boxes, S3.inj, S3.live, S3.fz, S3.bx, S3.fd, S3.exq⟩, ?_⟩
  · by_cases hj : j = i
    · subst hj
      have e' : (s.rho.set j (some (.ref s.mem.length)))[j]? = some (some w') := e'
      rw [List.getElem?_set_self hi'] at e'
      cases e'
      exact ⟨.ref p, hv, p, rfl, Gh.put_same⟩
    · have e' : (s.rho.set i (some (.ref s.mem.length)))[j]? = some (some w') := e'
      rw [List.getElem?_set_ne (Ne.symm hj)] at e'
      exact S3.slots j w' (by show (s.rho.set i none)[j]? = _; rw [List.getElem?_set_ne (Ne.symm hj)]; exact e')
  · refine ⟨fun _ h => h, fun a o e _ => e, fun a o e => ⟨o, e⟩, fun _ h => .inl h, fun pl x e' => ?_, fun b x hb e' => ?_, Nat.le_succ _, rfl⟩
    · by_cases y : pl = .box s.mem.length
      · subst y
        rw [Gh.put_same] at e'
        cases e'
        exact .inr ⟨_, ha⟩
      · rw [Gh.put_ne y] at e'
        exact .inr ⟨pl, (Gh.put_none e').2⟩
    · rw [Gh.put_ne (fun z => by cases z; exact absurd hb (Nat.lt_irrefl _)), Gh.put_ne (fun z => by cases z)]
      exact e'
end
end MP
/-! Part D: readings; operands; pure operations; calls. -/
namespace MP
open PySem PySem.Spec PyProof.Rows L2

/-! ### what grows -/
structure Grow (F F' : Addr → Prop) (H H' : Hp) : Prop where
  x : ∀ a u, H a = some u → H' a = some u
  f : ∀ a, F a → F' a
  n : ∀ a, F' a → F a ∨ (H a = none ∧ ∃ o, H' a = some o)
theorem Grow.refl {F : Addr → Prop} {H : Hp} : Grow F F H H := ⟨fun _ _ h => h, fun _ h => h, fun _ h => .inl h⟩
theorem Grow.one {F : Addr → Prop} {H : Hp} {p : Addr} {o : HO} (h : H p = none) : Grow F (fun a => F a ∨ a = p) H (upd H p o) :=
  ⟨upd_ext h, fun _ h => .inl h, fun a f => by
    rcases f with f | f
    · exact .inl f
    · subst f; exact .inr ⟨h, o, upd_same⟩⟩
theorem Grow.junk {F : Addr → Prop} {H : Hp} {p : Addr} {o : HO} (h : H p = none) : Grow F F H (upd H p o) := ⟨upd_ext h, fun _ h => h, fun a f => .inl f⟩
theorem Grow.trans {F F1 F2 : Addr → Prop} {H H1 H2 : Hp} (a : Grow F F1 H H1) (b : Grow F1 F2 H1 H2) : Grow F F2 H H2 :=
  ⟨fun x u e => b.x x u (a.x x u e), fun x f => b.f x (a.f x f), fun x f => by
    rcases b.n x f with f | ⟨f, o, e⟩
    · rcases a.n x f with f | ⟨f, o, e⟩
      · exact .inl f
      · exact .inr ⟨f, o, b.x x o e⟩
    · refine .inr ⟨?_, o, e⟩
      rcases none_or (H := H) x with z | ⟨u, z⟩
      · exact z
      · rw [a.x x u z] at f; cases f⟩
section
variable {K : PySem.W.Frag} {CL : CA} {G G' : Gh} {H H' : Hp} {s : S} {σ : L2.St} {n n' : Nat} {p : Addr} {o : HO} {F F' : Addr → Prop}
theorem Grow.keep (g : Grow F F' H H') (hl : ∀ a, F a → ∃ o, H a = some o) : ∀ a, F a → F' a ∧ H' a = H a := fun a f => by
  obtain ⟨u, e⟩ := hl a f
  exact ⟨g.f a f, by rw [g.x a u e, e]⟩
theorem SR.liveF (S : SR K CL G s σ H) : ∀ a, G.F a → ∃ o, H a = some o := fun a f => (S.fz a f).1
theorem SR.grow (S : SR K CL G s σ H) (g : Grow G.F F' H H') : SR K CL ⟨F', G.ad, G.ex⟩ s σ H' ∧ ∀ {n : Nat}, Fut G H n ⟨F', G.ad, G.ex⟩ H' n := by
  have S1 := S.ext g.x
  have hF : ∀ a, G.F a → F' a ∧ H' a = H' a := fun a f => ⟨g.f a f, rfl⟩
  have rp : ∀ {pl : Pl} {w : W} {v : V}, RP K G H' pl w v → RP K ⟨F', G.ad, G.ex⟩ H' pl w v := fun {pl w v} h => by
    cases w with
    | exn c => exact h
    | d y => exact RD.mono hF h
    | ref b => exact h
    | own c =>
      obtain ⟨q, e1, e2, e3⟩ := h
      exact ⟨q, e1, e2, e3.mono hF rfl⟩
  refine ⟨⟨S1.len, fun i w e => ?_, fun b c e => ?_, S1.inj, S1.live, fun q f => ?_, S1.bx, S1.fd, S1.exq⟩, fun {n} => ⟨g.f, fun a u e _ => g.x a u e, fun a u e => ⟨u, g.x a u e⟩, fun a f => ?_, fun pl a e => .inr ⟨pl, e⟩, fun _ _ _ h => h, Nat.le_refl _, rfl⟩⟩
  · obtain ⟨v, h1, h2⟩ := S1.slots i w e
    exact ⟨v, h1, rp h2⟩
  · obtain ⟨q, h1, h2⟩ := S1.boxes b c e
    refine ⟨q, h1, ?_⟩
    cases c with
    | ctr c => exact RO.mono hF rfl h2
    | inst cls fs =>
      obtain ⟨C, dx, vfs, g1, g2, g3, g4⟩ := h2
      refine ⟨C, dx, vfs, g1, g2, g3, fun f w hw => ?_⟩
      obtain ⟨v, k1, k2, g9⟩ := g4 f w hw
      exact ⟨v, k1, rp k2, g9⟩
  · rcases g.n q f with f | ⟨f, o, e⟩
    · exact S1.fz q f
    · exact ⟨⟨o, e⟩, S.notIn f⟩
  · rcases g.n a f with f | ⟨f, o, e⟩
    · exact .inl f
    · exact .inr (.inl f)
end

/-! ### a value as it stands now -/
inductive View (K : PySem.W.Frag) (F : Addr → Prop) (H : Hp) : PyData → V → Prop
  | none : View K F H .none .non
  | bool (b : Bool) : View K F H (.bool b) (.bl b)
  | int (i : Int) : View K F H (.int i) (.int i)
  | str (x : Str) : View K F H (.str x) (.str x)
  | list {a : Addr} {vs : List V} {ds : List PyData} : SqL K H a vs → RDs K F H ds vs → View K F H (.list ds) (.ref a)
  | tuple {a : Addr} {vs : List V} {ds : List PyData} : TAt K F H a vs → RDs K F H ds vs → View K F H (.tuple ds) (.ref a)
  | dict {a : Addr} {kvs : List (Key × V)} {ds : List (PyData × PyData)} : H a = some (.dK kvs) → RDkv K F H ds kvs → View K F H (.dict ds) (.ref a)
theorem RD.view {K : PySem.W.Frag} {F : Addr → Prop} {H : Hp} : ∀ {d : PyData} {v : V}, RD K F H d v → View K F H d v
  | _, _, .none => .none
  | _, _, .bool b => .bool b
  | _, _, .int i => .int i
  | _, _, .str x => .str x
  | _, _, .list h1 h2 => .list h1.sq h2
  | _, _, .tuple h1 h2 => .tuple h1 h2
  | _, _, .dict h1 h2 => .dict h1.2 h2
theorem RO.view {K : PySem.W.Frag} {F : Addr → Prop} {H : Hp} {c : Ob} {p : Addr} (h : RO K F H c p) : View K F H c.data (.ref p) := by
  cases c with
  | lst xs => obtain ⟨vs, h1, h2⟩ := h; exact .list (.inl (.inl h1)) h2
  | dic xs => obtain ⟨vs, h1, h2⟩ := h; exact .dict h1 h2.kv
theorem View.dp {K : PySem.W.Frag} {F : Addr → Prop} {H : Hp} : ∀ {d : PyData} {v : V}, View K F H d v → d.canLay0 = true → Dp K H v d
  | _, _, .none, _ => .non
  | _, _, .bool b, _ => .bl b
  | _, _, .int i, _ => .int i
  | _, _, .str x, _ => .str x
  | _, _, .list h1 h2, c => .lst h1 (RDs.dp h2 (by simpa [PyData.canLay0] using c))
  | _, _, .tuple h1 h2, c => .tup h1.sq (RDs.dp h2 (by simpa [PyData.canLay0] using c))
  | _, _, .dict h1 h2, c => by simp [PyData.canLay0] at c

/-! ### readings -/
abbrev Rel (α β : Type) := Gh → L2.St → Hp → α → β → Prop
def RX (CL : CA) (x : Ex) (cls : Value) (d : Option Addr) : Prop := x.flds = [] ∧ d = none ∧ ∃ C, cls = .ref C ∧ CL.cl x.cls C
def Post (K : PySem.W.Frag) (CL : CA) {α β : Type} (R : Rel α β) (Wx : WX) (G : Gh) (n : Nat) (σ : L2.St) (H : Hp) (r : Res α) (Q : β → Hp → Prop) : Prop :=
  match r with
  | .ok a s' => ∀ G' H' b, Fut G H n G' H' s'.mem.length → SR K CL G' s' σ H' → R G' σ H' a b → Q b H'
  | .raise x s' => ∀ G' H' cls d, Fut G H n G' H' s'.mem.length → SR K CL G' s' σ H' → RX CL x cls d → Wx cls d σ H'
  | .stuck => False
def tOf (K : PySem.W.Frag) (CL : CA) {α β : Type} (R : Rel α β) (Wx : WX) (m : EM α) : L2.St → Hp → (β → Hp → Prop) → Prop :=
  fun σ H Q => ∃ G s, SR K CL G s σ H ∧ Post K CL R Wx G s.mem.length σ H (m s) Q
section
variable {K : PySem.W.Frag} {CL : CA} {G G1 : Gh} {H H1 : Hp} {s s1 : S} {σ : L2.St} {n n1 : Nat} {α β γ δ : Type} {R : Rel α β} {R' : Rel γ δ} {Wx : WX}
theorem Post.later {r : Res α} {Q : β → Hp → Prop} (f : Fut G H n G1 H1 n1) (h : Post K CL R Wx G n σ H r Q) : Post K CL R Wx G1 n1 σ H1 r Q := by
  cases r with
  | ok a s' => exact fun G' H' b f' S' r' => h G' H' b (f.trans f') S' r'
  | raise x s' => exact fun G' H' cls d f' S' r' => h G' H' cls d (f.trans f') S' r'
  | stuck => exact h
/-- a part, then the rest -/
theorem Post.bind {m : EM α} {f : α → EM γ} {Q : δ → Hp → Prop} (h : Post K CL R' Wx G n σ H (eb m f s) Q) :
    Post K CL R Wx G n σ H (m s) (fun b H1 => ∃ G1 s1 a, Fut G H n G1 H1 s1.mem.length ∧ SR K CL G1 s1 σ H1 ∧ R G1 σ H1 a b ∧ Post K CL R' Wx G1 s1.mem.length σ H1 (f a s1) Q) := by
  unfold eb rb at h
  cases e : m s with
  | ok a s' =>
    rw [e] at h
    exact fun G' H' b f' S' r' => ⟨G', s', a, f', S', r', Post.later f' h⟩
  | raise x s' =>
    rw [e] at h
    exact h
  | stuck =>
    rw [e] at h
    exact h
theorem tOf.bind {m : EM α} {f : α → EM γ} {Q : δ → Hp → Prop} (h : tOf K CL R' Wx (eb m f) σ H Q) :
    tOf K CL R Wx m σ H (fun b H1 => ∃ G1 s1 a, SR K CL G1 s1 σ H1 ∧ R G1 σ H1 a b ∧ Post K CL R' Wx G1 s1.mem.length σ H1 (f a s1) Q) := by
  obtain ⟨G, s, S, h⟩ := h
  refine ⟨G, s, S, ?_⟩
  have h2 := Post.bind (R := R) h
  cases e : m s with
  | ok a s' =>
    rw [e] at h2
    intro G' H' b f' S' r'
    obtain ⟨G1, s1, a1, k1, k2, k3, k4⟩ := h2 G' H' b f' S' r'
    exact ⟨G1, s1, a1, k2, k3, k4⟩
  | raise x s' =>
    rw [e] at h2
    exact h2
  | stuck =>
    rw [e] at h2
    exact h2
/-- at a state that is known -/
theorem Post.here {a : α} {b : β} {Q : β → Hp → Prop} (S : SR K CL G s σ H) (r : R G σ H a b) (h : Post K CL R Wx G s.mem.length σ H (.ok a s) Q) : Q b H := h G H b Fut.refl S r
end

/-! ### operands -/
inductive Opd where
  | var (i : Nat)
  | ex (m : EM W)
inductive Tok where
  | slot (i : Nat)
  | val (x : PyData)
def evD (m : EM W) : EM PyData := eb m fun w => match w with
  | .d x => er x
  | _ => es
def opd : Opd → EM Tok
  | .var i => fun s => match s.rho[i]? with
    | some (some _) => .ok (.slot i) s
    | _ => .stuck
  | .ex m => eb (evD m) fun x => er (.val x)
def resolve (s : S) : Tok → Option PyData
  | .val x => some x
  | .slot i => match s.rho[i]? with
    | some (some (.d x)) => some x
    | some (some (.own c)) => some c.data
    | some (some (.ref b)) => match s.mem[b]? with
      | some (.ctr c) => some c.data
      | _ => none
    | _ => none
def rWs (K : PySem.W.Frag) : Rel W V := fun G _ H w v => RW K G H w v
def rDs (K : PySem.W.Frag) : Rel PyData V := fun G _ H w v => RD K G.F H w v
def rTok (K : PySem.W.Frag) : Rel Tok V := fun G σ H t v => match t with
  | .slot i => σ[i]? = some (some v)
  | .val x => RD K G.F H x v
section
variable {K : PySem.W.Frag} {CL : CA} {G G1 : Gh} {H H1 : Hp} {s s1 : S} {σ : L2.St} {n n1 : Nat} {Wx : WX}
theorem rTok_later (S : SR K CL G s σ H) (f : Fut G H n G1 H1 n1) {t : Tok} {v : V} (h : rTok K G σ H t v) : rTok K G1 σ H1 t v := by
  cases t with
  | slot i => exact h
  | val x => exact f.rd S h
theorem resolve_view (S : SR K CL G s σ H) {t : Tok} {v : V} {x : PyData} (h : rTok K G σ H t v) (e : resolve s t = some x) : View K G.F H x v := by
  cases t with
  | val y =>
    cases e
    exact RD.view h
  | slot i =>
    unfold resolve at e
    have h : σ[i]? = some (some v) := h
    cases q : s.rho[i]? with
    | none => simp only [q] at e; cases e
    | some o =>
      cases o with
      | none => simp only [q] at e; cases e
      | some w =>
        obtain ⟨v', hv, hr⟩ := S.slots i w q
        rw [h] at hv
        cases hv
        cases w with
        | exn c => simp only [q] at e; cases e
        | d y =>
          simp only [q] at e
          cases e
          exact RD.view hr
        | own c =>
          simp only [q] at e
          cases e
          obtain ⟨p, rfl, _, ho⟩ := hr
          exact ho.view
        | ref b =>
          simp only [q] at e
          obtain ⟨p, rfl, ha⟩ := hr
          cases q2 : s.mem[b]? with
          | none => simp only [q2] at e; cases e
          | some bx =>
            cases bx with
            | inst c f => simp only [q2] at e; cases e
            | ctr c =>
              simp only [q2] at e
              cases e
              obtain ⟨p', ha', hb⟩ := S.boxes b _ q2
              rw [ha] at ha'
              cases ha'
              exact RO.view hb
end
end MP
/-! Part E: combinators of expressions and their soundness. -/
namespace MP
open PySem PySem.Spec PyProof.Rows L2
section
variable {K : PySem.W.Frag} {CL : CA} {G G1 : Gh} {H H1 : Hp} {s s1 : S} {σ : L2.St} {n n1 : Nat} {α β γ δ : Type} {R : Rel α β} {Wx : WX} {X : Cx}
theorem Post.mono {r : Res α} {Q Q' : β → Hp → Prop} (h : Post K CL R Wx G n σ H r Q) (q : ∀ b H, Q b H → Q' b H) : Post K CL R Wx G n σ H r Q' := by
  cases r with
  | ok a s' => exact fun G' H' b f' S' r' => q _ _ (h G' H' b f' S' r')
  | raise x s' => exact h
  | stuck => exact h
theorem tOf.mono {m : EM α} {Q Q' : β → Hp → Prop} (h : tOf K CL R Wx m σ H Q) (q : ∀ b H, Q b H → Q' b H) : tOf K CL R Wx m σ H Q' := by
  obtain ⟨G, s, S, h⟩ := h
  exact ⟨G, s, S, h.mono q⟩
theorem pe_imp {e : Expr} {t t' : TE} (h : PE X e t) (i : ∀ σ H Q, t' σ H Q → t σ H Q) : PE X e t' := ⟨fun pins s σ H Q I q => h.run pins s σ H Q I (i σ H Q q)⟩
theorem pt_imp {e : Expr} {t t' : TT} (h : PT X e t) (i : ∀ σ H Q, t' σ H Q → t σ H Q) : PT X e t' := ⟨fun pins s σ H Q I q => h.run pins s σ H Q I (i σ H Q q)⟩
theorem pa_imp {e : List Expr} {t t' : TA} (h : PA X e t) (i : ∀ σ H Q, t' σ H Q → t σ H Q) : PA X e t' := ⟨fun pos pins s σ H Q I q => h.run pos pins s σ H Q I (i σ H Q q)⟩
theorem ps_imp {e : Stmt} {t t' : TS} (h : PS X e t) (i : ∀ D σ H, t' D σ H → t D σ H) : PS X e t' := ⟨fun pins s σ H D I q => h.run pins s σ H D I (i D σ H q)⟩
theorem pss_imp {e : List Stmt} {t t' : TS} (h : PSs X e t) (i : ∀ D σ H, t' D σ H → t D σ H) : PSs X e t' := ⟨fun pins s σ H D I q => h.run pins s σ H D I (i D σ H q)⟩
/-- an expression's judgement over the evaluator -/
abbrev JE (CL : CA) (X : Cx) (Wx : WX) (e : Expr) (m : EM W) : Prop := PE X e (tOf X.K CL (rWs X.K) Wx m)
abbrev JO (CL : CA) (X : Cx) (Wx : WX) (e : Expr) (o : Opd) : Prop := PE X e (tOf X.K CL (rTok X.K) Wx (opd o))
def rBs : Rel Bool Bool := fun _ _ _ a b => a = b
abbrev JT (CL : CA) (X : Cx) (Wx : WX) (e : Expr) (m : EM Bool) : Prop := PT X e (tOf X.K CL rBs Wx m)

/-! constants, names -/
theorem je_const {e : Expr} {d : PyData} {v : V} (h : PE X e (tC v)) (r : ∀ F H, RD X.K F H d v) : JE CL X Wx e (er (.d d)) := pe_imp h fun σ H Q q => by
  obtain ⟨G, s, S, q⟩ := q
  exact Post.here (R := rWs X.K) (a := W.d d) S (r _ _) q
def cVar (i : Nat) : EM W := fun s => match s.rho[i]? with
  | some (some (.own c)) => .ok (.d c.data) { s with rho := s.rho.set i (some (.d c.data)) }
  | some (some (.d x)) => .ok (.d x) s
  | some (some (.ref b)) => .ok (.ref b) s
  | _ => .stuck
theorem je_var {i : Nat} {x : Str} {pos : Pos} (h : PE X (.Name x pos) (tVar i)) : JE CL X Wx (.Name x pos) (cVar i) := pe_imp h fun σ H Q q => by
  obtain ⟨G, s, S, q⟩ := q
  unfold cVar at q
  cases e : s.rho[i]? with
  | none => rw [e] at q; exact q.elim
  | some o =>
    cases o with
    | none => rw [e] at q; exact q.elim
    | some w =>
      rw [e] at q
      obtain ⟨v, hv, hr⟩ := S.slots i w e
      refine ⟨v, hv, ?_⟩
      cases w with
      | exn c => exact q.elim
      | d y => exact Post.here (R := rWs X.K) (a := W.d y) S hr q
      | ref b => exact Post.here (R := rWs X.K) (a := W.ref b) S hr q
      | own c =>
        obtain ⟨p, hv', S', rd, f⟩ := S.freeze e
        rw [hv] at hv'
        cases hv'
        exact q _ _ _ f S' rd
theorem jo_var {i : Nat} {x : Str} {pos : Pos} (h : PE X (.Name x pos) (tVar i)) : JO CL X Wx (.Name x pos) (.var i) := pe_imp h fun σ H Q q => by
  obtain ⟨G, s, S, q⟩ := q
  unfold opd at q
  cases e : s.rho[i]? with
  | none => simp only [e] at q; exact q.elim
  | some o =>
    cases o with
    | none => simp only [e] at q; exact q.elim
    | some w =>
      simp only [e] at q
      obtain ⟨v, hv, hr⟩ := S.slots i w e
      exact ⟨v, hv, Post.here (R := rTok X.K) (a := Tok.slot i) S hv q⟩
theorem jd_of {e : Expr} {m : EM W} (h : JE CL X Wx e m) : PE X e (tOf X.K CL (rDs X.K) Wx (evD m)) := pe_imp h fun σ H Q q => by
  refine (tOf.bind (R := rWs X.K) q).mono fun v H1 ⟨G1, s1, w, S1, r, q⟩ => ?_
  cases w with
  | exn c => exact q.elim
  | d y => exact Post.here (R := rDs X.K) S1 r q
  | ref b => exact q.elim
  | own c => exact q.elim
theorem jo_ex {e : Expr} {m : EM W} (h : JE CL X Wx e m) : JO CL X Wx e (.ex m) := pe_imp (jd_of h) fun σ H Q q => by
  refine (tOf.bind (R := rDs X.K) q).mono fun v H1 ⟨G1, s1, w, S1, r, q⟩ => ?_
  exact Post.here (R := rTok X.K) (a := Tok.val w) S1 r q

/-! two operands -/
def cP2 (f : PyData → PyData → Option PyData) (a b : Opd) : EM W := eb (opd a) fun ta => eb (opd b) fun tb => fun s =>
  match resolve s ta with
  | some x => match resolve s tb with
    | some y => match f x y with
      | some z => .ok (.d z) s
      | none => .stuck
    | none => .stuck
  | none => .stuck
def Op2 (K : PySem.W.Frag) (r : R2) (f : PyData → PyData → Option PyData) : Prop :=
  ∀ (F : Addr → Prop) (H : Hp) (dx dy : PyData) (vx vy : V) (z : PyData) (Q : VK), (∀ a, F a → ∃ o, H a = some o) → View K F H dx vx → View K F H dy vy → f dx dy = some z →
    (∀ F' H' v, Grow F F' H H' → RD K F' H' z v → Q v H') → r vx vy H Q
theorem Op2.or {r r' : R2} {f f' : PyData → PyData → Option PyData} (h : Op2 K r f) (h' : Op2 K r' f') : Op2 K (fun x y H Q => r x y H Q ∨ r' x y H Q) (fun x y => (f x y).or (f' x y)) := by
  intro F H dx dy vx vy z Q hl v1 v2 e q
  have e : (f dx dy).or (f' dx dy) = some z := e
  cases e1 : f dx dy with
  | some z' =>
    rw [e1] at e
    cases e
    exact .inl (h F H dx dy vx vy z Q hl v1 v2 e1 q)
  | none =>
    rw [e1] at e
    exact .inr (h' F H dx dy vx vy z Q hl v1 v2 e q)
theorem fin_grow {Q : VK} {z : PyData} (S : SR K CL G s σ H) (q : Post K CL (rWs K) Wx G s.mem.length σ H (.ok (.d z) s) Q) : ∀ F' H' v, Grow G.F F' H H' → RD K F' H' z v → Q v H' := fun F' H' v g r => by
  obtain ⟨S', f⟩ := S.grow g
  exact q _ _ _ f S' r
theorem cP2_ok {r : R2} {f : PyData → PyData → Option PyData} (ho : Op2 K r f) {a b : Opd} {Q : VK} (q : tOf K CL (rWs K) Wx (cP2 f a b) σ H Q) :
    tOf K CL (rTok K) Wx (opd a) σ H (fun x H1 => tOf K CL (rTok K) Wx (opd b) σ H1 fun y H2 => r x y H2 Q) := by
  refine (tOf.bind (R := rTok K) q).mono fun v H1 ⟨G1, s1, ta, S1, r1, q⟩ => ?_
  refine ⟨G1, s1, S1, ?_⟩
  refine (Post.bind (R := rTok K) q).mono fun u H2 ⟨G2, s2, tb, f2, S2, r2, q⟩ => ?_
  have r1 := rTok_later S1 f2 r1
  cases e1 : resolve s2 ta with
  | none => simp only [e1] at q; exact q.elim
  | some x =>
    cases e2 : resolve s2 tb with
    | none => simp only [e1, e2] at q; exact q.elim
    | some y =>
      cases e3 : f x y with
      | none => simp only [e1, e2, e3] at q; exact q.elim
      | some z =>
        simp only [e1, e2, e3] at q
        exact ho G2.F H2 x y v u z Q S2.liveF (resolve_view S2 r1 e1) (resolve_view S2 r2 e2) e3 (fin_grow S2 q)
theorem je_bin {r : R2} {f : PyData → PyData → Option PyData} {op : Operator} {a b : Expr} {oa ob : Opd} {pos : Pos} (ho : Op2 X.K r f) (hr : OpR X (binaryOp op) r) (ha : JO CL X Wx a oa) (hb : JO CL X Wx b ob) : JE CL X Wx (.BinOp a op b pos) (cP2 f oa ob) :=
  pe_imp (pe_op hr ha hb) fun _ _ _ q => cP2_ok ho q
theorem je_cmp {r : R2} {f : PyData → PyData → Option PyData} {op : CmpOp} {a b : Expr} {oa ob : Opd} {pos : Pos} (ho : Op2 X.K r f) (hr : OpR X (compareOp op) r) (hm : behindInMarks op b = false) (ha : JO CL X Wx a oa) (hb : JO CL X Wx b ob) : JE CL X Wx (.Compare a [op] [b] pos) (cP2 f oa ob) :=
  pe_imp (pe_cmpR hr ha hb hm) fun _ _ _ q => cP2_ok ho q
def toB : W → EM Bool
  | .d (.bool b) => er b
  | _ => es
theorem tTest_ok {m : EM W} {Q : Bool → Hp → Prop} (q : tOf K CL rBs Wx (eb m toB) σ H Q) : tOf K CL (rWs K) Wx m σ H (fun x H' => ∃ k, x = .bl k ∧ Q k H') := by
  refine (tOf.bind (R := rWs K) q).mono fun v H1 ⟨G1, s1, w, S1, r, q⟩ => ?_
  cases w with
  | exn c => exact q.elim
  | ref b => exact q.elim
  | own c => exact q.elim
  | d y =>
    have r : RD K G1.F H1 y v := r
    cases y with
    | bool b =>
      cases r
      exact ⟨b, rfl, Post.here (R := rBs) S1 rfl q⟩
    | none => exact q.elim
    | int i => exact q.elim
    | str i => exact q.elim
    | list i => exact q.elim
    | tuple i => exact q.elim
    | dict i => exact q.elim
theorem jt_cmp {r : R2} {f : PyData → PyData → Option PyData} {op : CmpOp} {a b : Expr} {oa ob : Opd} {pos : Pos} (ho : Op2 X.K r f) (hr : OpR X (compareOp op) r) (hm : behindInMarks op b = false) (ha : JO CL X Wx a oa) (hb : JO CL X Wx b ob) : JT CL X Wx (.Compare a [op] [b] pos) (eb (cP2 f oa ob) toB) :=
  pt_imp (pt_cmpR hr ha hb hm) fun _ _ _ q => cP2_ok ho (tTest_ok q)
/-- a op b op' c -/
def cCh (f f' : PyData → PyData → Option PyData) (a b c : Opd) : EM W := eb (opd a) fun ta => eb (opd b) fun tb => fun s =>
  match resolve s ta with
  | some x => match resolve s tb with
    | some y => match f x y with
      | some (.bool true) => eb (opd c) (fun tc => fun s => match resolve s tb with
          | some y => match resolve s tc with
            | some z => match f' y z with
              | some w => .ok (.d w) s
              | none => .stuck
            | none => .stuck
          | none => .stuck) s
      | some (.bool false) => .ok (.d (.bool false)) s
      | _ => .stuck
    | none => .stuck
  | none => .stuck
theorem cCh_ok {r r' : R2} {f f' : PyData → PyData → Option PyData} (ho : Op2 K r f) (ho' : Op2 K r' f') {a b c : Opd} {Q : VK} (q : tOf K CL (rWs K) Wx (cCh f f' a b c) σ H Q) :
    tChain r r' (tOf K CL (rTok K) Wx (opd a)) (tOf K CL (rTok K) Wx (opd b)) (tOf K CL (rTok K) Wx (opd c)) σ H Q := by
  refine (tOf.bind (R := rTok K) q).mono fun v H1 ⟨G1, s1, ta, S1, r1, q⟩ => ?_
  refine ⟨G1, s1, S1, ?_⟩
  refine (Post.bind (R := rTok K) q).mono fun u H2 ⟨G2, s2, tb, f2, S2, r2, q⟩ => ?_
  have r1 := rTok_later S1 f2 r1
  cases e1 : resolve s2 ta with
  | none => simp only [e1] at q; exact q.elim
  | some x =>
    cases e2 : resolve s2 tb with
    | none => simp only [e1, e2] at q; exact q.elim
    | some y =>
      cases e3 : f x y with
      | none => simp only [e1, e2, e3] at q; exact q.elim
      | some z =>
        refine ho G2.F H2 x y v u z _ S2.liveF (resolve_view S2 r1 e1) (resolve_view S2 r2 e2) e3 fun F' H' w g rz => ?_
        obtain ⟨S3, f3⟩ := S2.grow g
        cases z with
        | bool k =>
          cases rz
          refine ⟨k, rfl, ?_⟩
          cases k with
          | false =>
            simp only [e1, e2, e3] at q
            rw [if_neg Bool.false_ne_true]
            exact q _ _ _ f3 S3 (RD.bool false)
          | true =>
            simp only [e1, e2, e3] at q
            rw [if_pos rfl]
            refine ⟨_, s2, S3, ?_⟩
            refine (Post.bind (R := rTok K) (Post.later f3 q)).mono fun w H4 ⟨G4, s4, tc, f4, S4, r4, q⟩ => ?_
            have r2 := rTok_later S3 f4 (rTok_later S2 (f3 (n := 0)) r2)
            cases e4 : resolve s4 tb with
            | none => simp only [e4] at q; exact q.elim
            | some y' =>
              cases e5 : resolve s4 tc with
              | none => simp only [e4, e5] at q; exact q.elim
              | some z' =>
                cases e6 : f' y' z' with
                | none => simp only [e4, e5, e6] at q; exact q.elim
                | some w' =>
                  simp only [e4, e5, e6] at q
                  exact ho' G4.F H4 y' z' u w w' Q S4.liveF (resolve_view S4 r2 e4) (resolve_view S4 r4 e5) e6 (fin_grow S4 q)
        | none => simp only [e1, e2, e3] at q; exact q.elim
        | int i => simp only [e1, e2, e3] at q; exact q.elim
        | str i => simp only [e1, e2, e3] at q; exact q.elim
        | list i => simp only [e1, e2, e3] at q; exact q.elim
        | tuple i => simp only [e1, e2, e3] at q; exact q.elim
        | dict i => simp only [e1, e2, e3] at q; exact q.elim
/-! one operand -/
def cP1 (f : PyData → Option PyData) (a : Opd) : EM W := eb (opd a) fun ta => fun s =>
  match resolve s ta with
  | some x => match f x with
    | some z => .ok (.d z) s
    | none => .stuck
  | none => .stuck
def Op1 (K : PySem.W.Frag) (r : V → Hp → VK → Prop) (f : PyData → Option PyData) : Prop :=
  ∀ (F : Addr → Prop) (H : Hp) (dx : PyData) (vx : V) (z : PyData) (Q : VK), (∀ a, F a → ∃ o, H a = some o) → View K F H dx vx → f dx = some z →
    (∀ F' H' v, Grow F F' H H' → RD K F' H' z v → Q v H') → r vx H Q
theorem cP1_ok {r : V → Hp → VK → Prop} {f : PyData → Option PyData} (ho : Op1 K r f) {a : Opd} {Q : VK} (q : tOf K CL (rWs K) Wx (cP1 f a) σ H Q) :
    tOf K CL (rTok K) Wx (opd a) σ H (fun x H1 => r x H1 Q) := by
  refine (tOf.bind (R := rTok K) q).mono fun v H1 ⟨G1, s1, ta, S1, r1, q⟩ => ?_
  cases e1 : resolve s1 ta with
  | none => simp only [e1] at q; exact q.elim
  | some x =>
    cases e3 : f x with
    | none => simp only [e1, e3] at q; exact q.elim
    | some z =>
      simp only [e1, e3] at q
      exact ho G1.F H1 x v z Q S1.liveF (resolve_view S1 r1 e1) e3 (fin_grow S1 q)
theorem je_un {r : V → Hp → VK → Prop} {f : PyData → Option PyData} {op : UnaryOp} {a : Expr} {oa : Opd} {pos : Pos} (ho : Op1 X.K r f) (hr : UnR X (unaryOp op) r) (ha : JO CL X Wx a oa) : JE CL X Wx (.UnaryOp op a pos) (cP1 f oa) :=
  pe_imp (pe_un hr ha) fun _ _ _ q => cP1_ok ho q
/-! tests -/
def cNot (m : EM Bool) : EM Bool := eb m fun b => er (!b)
theorem jt_not {a : Expr} {m : EM Bool} {pos : Pos} (h : JT CL X Wx a m) : JT CL X Wx (.UnaryOp .Not a pos) (cNot m) := pt_imp (pt_not h) fun σ H Q q => by
  refine (tOf.bind (R := rBs) q).mono fun v H1 ⟨G1, s1, w, S1, r, q⟩ => ?_
  subst r
  exact Post.here (R := rBs) S1 rfl q
abbrev JW (CL : CA) (X : Cx) (Wx : WX) (e : Expr) (m : EM Bool) : Prop := PW X e (tOf X.K CL rBs Wx m)
theorem pw_imp {e : Expr} {t t' : TT} (h : PW X e t) (i : ∀ σ H Q, t' σ H Q → t σ H Q) : PW X e t' := ⟨fun w pins s σ H Q I q => h.run w pins s σ H Q I (i σ H Q q)⟩
def cAnd (a b : EM Bool) : EM Bool := eb a fun k => if k = true then b else er false
def cOr (a b : EM Bool) : EM Bool := eb a fun k => if k = true then er true else b
theorem jw_and {a b : Expr} {rest : List Expr} {ma mb : EM Bool} {pos : Pos} (ha : JT CL X Wx a ma) (hb : JW CL X Wx (.BoolOp .And (b :: rest) pos) mb) : JW CL X Wx (.BoolOp .And (a :: b :: rest) pos) (cAnd ma mb) := pw_imp (pw_and ha hb) fun σ H Q q => by
  refine (tOf.bind (R := rBs) q).mono fun v H1 ⟨G1, s1, w, S1, r, q⟩ => ?_
  subst r
  cases w with
  | true => exact ⟨G1, s1, S1, q⟩
  | false => exact Post.here (R := rBs) S1 rfl q
theorem jw_or {a b : Expr} {rest : List Expr} {ma mb : EM Bool} {pos : Pos} (ha : JT CL X Wx a ma) (hb : JW CL X Wx (.BoolOp .Or (b :: rest) pos) mb) : JW CL X Wx (.BoolOp .Or (a :: b :: rest) pos) (cOr ma mb) := pw_imp (pw_or ha hb) fun σ H Q q => by
  refine (tOf.bind (R := rBs) q).mono fun v H1 ⟨G1, s1, w, S1, r, q⟩ => ?_
  subst r
  cases w with
  | true => exact Post.here (R := rBs) S1 rfl q
  | false => exact ⟨G1, s1, S1, q⟩
/-- the same as values that are truths -/
def cAndV (a b : EM W) : EM W := eb (eb a toB) fun k => if k = true then b else er (.d (.bool false))
def cOrV (a b : EM W) : EM W := eb (eb a toB) fun k => if k = true then er (.d (.bool true)) else b
def cNotV (a : EM W) : EM W := eb (eb a toB) fun k => er (.d (.bool (!k)))
theorem tTestV {m : EM W} {f : Bool → EM W} {Q : VK} (q : tOf K CL (rWs K) Wx (eb (eb m toB) f) σ H Q) :
    tOf K CL (rWs K) Wx m σ H (fun x H1 => ∃ c, x = .bl c ∧ ∃ G1 s1, SR K CL G1 s1 σ H1 ∧ Post K CL (rWs K) Wx G1 s1.mem.length σ H1 (f c s1) Q) := by
  refine (tTest_ok (tOf.bind (R := rBs) q)).mono fun v H1 ⟨k, e, G1, s1, w, S1, r, q⟩ => ?_
  subst r
  exact ⟨w, e, G1, s1, S1, q⟩
theorem je_and {a b : Expr} {rest : List Expr} {ma mb : EM W} {pos : Pos} (ha : JE CL X Wx a ma) (hb : JE CL X Wx (.BoolOp .And (b :: rest) pos) mb) : JE CL X Wx (.BoolOp .And (a :: b :: rest) pos) (cAndV ma mb) := pe_imp (pe_and ha hb) fun σ H Q q => by
  refine (tTestV q).mono fun v H1 ⟨c, e, G1, s1, S1, q⟩ => ⟨c, e, ?_⟩
  cases c with
  | true => exact ⟨G1, s1, S1, q⟩
  | false => exact Post.here (R := rWs X.K) (a := W.d (.bool false)) S1 (RD.bool false) q
theorem je_or {a b : Expr} {rest : List Expr} {ma mb : EM W} {pos : Pos} (ha : JE CL X Wx a ma) (hb : JE CL X Wx (.BoolOp .Or (b :: rest) pos) mb) : JE CL X Wx (.BoolOp .Or (a :: b :: rest) pos) (cOrV ma mb) := pe_imp (pe_or ha hb) fun σ H Q q => by
  refine (tTestV q).mono fun v H1 ⟨c, e, G1, s1, S1, q⟩ => ⟨c, e, ?_⟩
  cases c with
  | true => exact Post.here (R := rWs X.K) (a := W.d (.bool true)) S1 (RD.bool true) q
  | false => exact ⟨G1, s1, S1, q⟩
theorem je_not {a : Expr} {ma : EM W} {pos : Pos} (ha : JE CL X Wx a ma) : JE CL X Wx (.UnaryOp .Not a pos) (cNotV ma) := pe_imp (pe_not ha) fun σ H Q q => by
  refine (tTestV q).mono fun v H1 ⟨c, e, G1, s1, S1, q⟩ => ⟨c, e, ?_⟩
  exact Post.here (R := rWs X.K) (a := W.d (.bool (!c))) S1 (RD.bool _) q
def cIf (c : EM Bool) (a b : EM W) : EM W := eb c fun k => if k = true then a else b
theorem je_if {c a b : Expr} {mc : EM Bool} {ma mb : EM W} {pos : Pos} (hc : JT CL X Wx c mc) (ha : JE CL X Wx a ma) (hb : JE CL X Wx b mb) : JE CL X Wx (.IfExp c a b pos) (cIf mc ma mb) := pe_imp (pe_ifExp hc ha hb) fun σ H Q q => by
  refine (tOf.bind (R := rBs) q).mono fun v H1 ⟨G1, s1, w, S1, r, q⟩ => ?_
  subst r
  cases w with
  | true => exact ⟨G1, s1, S1, q⟩
  | false => exact ⟨G1, s1, S1, q⟩
/-- an operand's truth -/
def truth : PyData → Option Bool
  | .none => some false
  | .bool b => some b
  | .int i => some (i != 0)
  | .str x => if x.length ≤ 1000000 then some ((x.length : Int) != 0) else none
  | .list xs => some (!xs.isEmpty)
  | .tuple xs => some (!xs.isEmpty)
  | .dict xs => some (!xs.isEmpty)
def cTru (a : Opd) : EM Bool := eb (opd a) fun ta => fun s =>
  match resolve s ta with
  | some x => match truth x with
    | some z => .ok z s
    | none => .stuck
  | none => .stuck
theorem RDs.isEmpty {F : Addr → Prop} : ∀ {ds : List PyData} {vs : List V}, RDs K F H ds vs → vs.isEmpty = ds.isEmpty
  | _, _, .nil => rfl
  | _, _, .cons _ _ => rfl
theorem RDkv.isEmpty {F : Addr → Prop} : ∀ {ds : List (PyData × PyData)} {vs : List (Key × V)}, RDkv K F H ds vs → vs.isEmpty = ds.isEmpty
  | _, _, .nil => rfl
  | _, _, .consI _ _ => rfl
  | _, _, .consS _ _ => rfl
theorem million : (1000000 : Nat) ≤ sizeLine := by decide
theorem truth_ok {F : Addr → Prop} {d : PyData} {v : V} {k : Bool} (h : View K F H d v) (e : truth d = some k) : TruV K v H k := by
  cases h with
  | none => cases e; rfl
  | bool b => cases e; rfl
  | int i => cases e; rfl
  | str x =>
    have e : (if x.length ≤ 1000000 then some ((x.length : Int) != 0) else none) = some k := e
    by_cases hl : x.length ≤ 1000000
    · rw [if_pos hl] at e
      cases e; exact ⟨Nat.le_trans hl million, rfl⟩
    · rw [if_neg hl] at e
      cases e
  | list h1 h2 => cases e; exact .inl ⟨_, h1, by rw [h2.isEmpty]⟩
  | tuple h1 h2 => cases e; exact .inr (.inl ⟨_, h1.sq, by rw [h2.isEmpty]⟩)
  | dict h1 h2 => cases e; exact .inr (.inr ⟨_, h1, by rw [h2.isEmpty]⟩)
theorem jt_tru {a : Expr} {o : Opd} (h : JO CL X Wx a o) (he : ∀ whole, isTrue a X.env whole = (do let v ← whole; standAt a.pos; holding [v] (truthy v))) : JT CL X Wx a (cTru o) := pt_imp (pt_truth h he) fun σ H Q q => by
  refine (tOf.bind (R := rTok X.K) q).mono fun v H1 ⟨G1, s1, ta, S1, r1, q⟩ => ?_
  cases e1 : resolve s1 ta with
  | none => simp only [e1] at q; exact q.elim
  | some x =>
    cases e3 : truth x with
    | none => simp only [e1, e3] at q; exact q.elim
    | some z =>
      simp only [e1, e3] at q
      exact ⟨z, truth_ok (resolve_view S1 r1 e1) e3, Post.here (R := rBs) S1 rfl q⟩
end
end MP
/-! Part F: argument lists, displays, new things, calls of defs. -/
namespace MP
open PySem PySem.Spec PyProof.Rows L2
section
variable {K : PySem.W.Frag} {CL : CA} {G G1 G' : Gh} {H H1 H' : Hp} {s s1 : S} {σ : L2.St} {n n1 n' : Nat} {α β γ δ : Type} {R : Rel α β} {Wx : WX} {X : Cx} {p : Addr}
theorem SR.notF (S : SR K CL G s σ H) (h : H p = none) : ¬ G.F p := fun x => by
  obtain ⟨u, e⟩ := S.liveF p x
  rw [h] at e
  cases e
/-! ### lists of parts -/
def cList {α : Type} : List (EM α) → EM (List α)
  | [] => er []
  | m :: ms => eb m fun w => eb (cList ms) fun ws => er (w :: ws)
def rL {α β : Type} (R : Rel α β) : Rel (List α) (List β) := fun G σ H as bs => Paired (R G σ H) as bs
/-- a relation that lasts -/
structure Lasts (K : PySem.W.Frag) (CL : CA) {α β : Type} (R : Rel α β) : Prop where
  go : ∀ {G G1 : Gh} {H H1 : Hp} {s : S} {σ : L2.St} {n1 : Nat} {a : α} {b : β}, SR K CL G s σ H → Fut G H s.mem.length G1 H1 n1 → R G σ H a b → R G1 σ H1 a b
theorem lasts_Ws : Lasts K CL (rWs K) := ⟨fun {G G1 H H1 s σ n1 a b} S f r => by
  cases a with
  | exn c => exact r.elim
  | d y => exact f.rd S r
  | ref b =>
    obtain ⟨p, e1, e2⟩ := r
    exact ⟨p, e1, f.box _ _ (S.bx _ _ e2) e2⟩
  | own c => exact r.elim⟩
theorem lasts_Ds : Lasts K CL (rDs K) := ⟨fun S f r => f.rd S r⟩
theorem lasts_Tok : Lasts K CL (rTok K) := ⟨fun S f r => rTok_later S f r⟩
inductive JA (CL : CA) (R : Rel α V) (X : Cx) (Wx : WX) : List Expr → List (EM α) → Prop
  | nil : JA CL R X Wx [] []
  | cons {e : Expr} {es : List Expr} {m : EM α} {ms : List (EM α)} (h : PE X e (tOf X.K CL R Wx m)) (hs : starEach (e :: es) X.env = (false, eval e X.env) :: starEach es X.env) (t : JA CL R X Wx es ms) : JA CL R X Wx (e :: es) (m :: ms)
theorem JA.pa {R : Rel α V} (hl : Lasts X.K CL R) : ∀ {es : List Expr} {ms : List (EM α)}, JA CL R X Wx es ms → PA X es (tOf X.K CL (rL R) Wx (cList ms))
  | _, _, .nil => pa_imp pa_nil fun σ H Q q => by
    obtain ⟨G, s, S, q⟩ := q
    exact Post.here (R := rL R) (a := []) S .nil q
  | _, _, .cons h hs t => pa_imp (pa_cons h (JA.pa hl t) hs) fun σ H Q q => by
    refine (tOf.bind (R := R) q).mono fun v H1 ⟨G1, s1, w, S1, r, q⟩ => ?_
    refine ⟨G1, s1, S1, ?_⟩
    refine (Post.bind (R := rL R) q).mono fun vs H2 ⟨G2, s2, ws, f2, S2, r2, q⟩ => ?_
    exact Post.here (R := rL R) S2 (.cons (hl.go S1 f2 r) r2) q
theorem JA.noStar {R : Rel α V} : ∀ {es : List Expr} {ms : List (EM α)} {pos : Pos}, JA CL R X Wx es ms → (backTo pos (starEach es X.env)).any (·.1) = false
  | _, _, _, .nil => rfl
  | _, _, pos, .cons h hs t => by
    rw [hs]
    show (false || _) = false
    rw [Bool.false_or]
    exact JA.noStar (pos := pos) t
theorem rds_of {F : Addr → Prop} : ∀ {ds : List PyData} {vs : List V}, Paired (fun d v => RD K F H d v) ds vs → RDs K F H ds vs
  | _, _, .nil => .nil
  | _, _, .cons r t => .cons r (rds_of t)
theorem ja_ds {es : List Expr} {ms : List (EM W)} (h : JA CL (rWs X.K) X Wx es ms) : JA CL (rDs X.K) X Wx es (ms.map evD) := by
  induction h with
  | nil => exact .nil
  | cons h hs t ih => exact .cons (jd_of h) hs ih
/-! ### displays -/
def cTup (ms : List (EM W)) : EM W := eb (cList (ms.map evD)) fun xs => if xs.length ≤ 1000000 then er (.d (.tuple xs)) else es
theorem je_tup {es : List Expr} {ms : List (EM W)} {k : Nat} {pos : Pos} (h : JA CL (rWs X.K) X Wx es ms) : JE CL X Wx (.Tuple es k pos) (cTup ms) := pe_imp (pe_tup ((ja_ds h).pa lasts_Ds)) fun σ H Q q => by
  refine (tOf.bind (R := rL (rDs X.K)) q).mono fun vs H1 ⟨G1, s1, xs, S1, r, q⟩ => ?_
  by_cases hl : xs.length ≤ 1000000
  · rw [if_pos hl] at q
    have r := rds_of r
    refine ⟨by rw [r.length]; exact Nat.le_trans hl million, fun p hp => ?_⟩
    have g : Grow G1.F (fun a => G1.F a ∨ a = p) H1 (upd H1 p (.tup vs)) := Grow.one hp
    refine fin_grow S1 q _ _ _ g (.tuple (.inl ⟨.inr rfl, .inl upd_same⟩) (r.mono fun a f => g.keep S1.liveF a f))
  · rw [if_neg hl] at q
    exact q.elim
/-- a new thing that no place has yet; H0: the heap ahead of it -/
def rNew (K : PySem.W.Frag) (H0 : Hp) : Rel Ob V := fun G _ H c v => ∃ p, v = .ref p ∧ RO K G.F H c p ∧ ¬ G.F p ∧ (∀ pl, G.ad pl ≠ some p) ∧ H0 p = none
abbrev JN (CL : CA) (X : Cx) (Wx : WX) (e : Expr) (m : EM Ob) : Prop := PE X e (fun σ H Q => tOf X.K CL (rNew X.K H) Wx m σ H Q)
theorem Fut.new_addF (f : Fut G H n G' H' n') (h : H p = none) : Fut G H n (G'.addF p) H' n' :=
  ⟨fun a x => .inl (f.fr a x), f.oth, f.there, fun a x => by
    rcases x with x | x
    · exact f.newF a x
    · subst x; exact .inr (.inl h), f.newA, f.box, f.le, f.ex⟩
theorem Fut.new_slot (f : Fut G H n G' H' n') (h : H p = none) {i : Nat} : Fut G H n (G'.put (.slot i) (some p)) H' n' :=
  ⟨f.fr, f.oth, f.there, f.newF, fun pl x e => by
    by_cases z : pl = .slot i
    · subst z
      rw [Gh.put_same] at e
      cases e
      exact .inl h
    · rw [Gh.put_ne z] at e
      exact f.newA pl x e, fun b x hb e => by rw [Gh.put_ne (fun z => by cases z)]; exact f.box b x hb e, f.le, f.ex⟩
theorem Fut.new_box (f : Fut G H n G' H' n') (h : H p = none) : Fut G H n (G'.put (.box n') (some p)) H' (n' + 1) :=
  ⟨f.fr, f.oth, f.there, f.newF, fun pl x e => by
    by_cases z : pl = .box n'
    · subst z
      rw [Gh.put_same] at e
      cases e
      exact .inl h
    · rw [Gh.put_ne z] at e
      exact f.newA pl x e, fun b x hb e => by rw [Gh.put_ne (fun z => by cases z; exact absurd (Nat.lt_of_lt_of_le hb f.le) (Nat.lt_irrefl _))]; exact f.box b x hb e, Nat.le_succ_of_le f.le, f.ex⟩
/-- frozen as soon as it is made -/
def cFrz (m : EM Ob) : EM W := eb m fun c => er (.d c.data)
theorem je_frz {e : Expr} {m : EM Ob} (h : JN CL X Wx e m) : JE CL X Wx e (cFrz m) := pe_imp h fun σ H Q q => by
  obtain ⟨G, s, S, q⟩ := q
  refine ⟨G, s, S, ?_⟩
  unfold cFrz eb rb at q
  cases e1 : m s with
  | stuck => rw [e1] at q; exact q.elim
  | raise x s' => rw [e1] at q; exact q
  | ok c s' =>
    rw [e1] at q
    intro G' H' v f S' r
    obtain ⟨p, rfl, ho, hf, hn, h0⟩ := r
    exact q _ _ _ (f.new_addF h0) (S'.addF ho.there hn) (RO.rd (.inr rfl) (ho.mono (fun a x => ⟨.inl x, rfl⟩) rfl))
/-- put into a new box -/
def cBoxN (m : EM Ob) : EM W := eb m fun c s => .ok (.ref s.mem.length) { s with mem := s.mem ++ [.ctr c] }
theorem je_boxN {e : Expr} {m : EM Ob} (h : JN CL X Wx e m) : JE CL X Wx e (cBoxN m) := pe_imp h fun σ H Q q => by
  obtain ⟨G, s, S, q⟩ := q
  refine ⟨G, s, S, ?_⟩
  unfold cBoxN eb rb at q
  cases e1 : m s with
  | stuck => rw [e1] at q; exact q.elim
  | raise x s' => rw [e1] at q; exact q
  | ok c s' =>
    rw [e1] at q
    intro G' H' v f S' r
    obtain ⟨p, rfl, ho, hf, hn, h0⟩ := r
    exact q _ _ _ (by simpa using f.new_box h0) (S'.newBox ho hf hn) ⟨p, rfl, Gh.put_same⟩
/-- an own slot's thing handed on in a box -/
def cBoxV (i : Nat) : EM W := fun s => match s.rho[i]? with
  | some (some (.own c)) => .ok (.ref s.mem.length) { rho := s.rho.set i (some (.ref s.mem.length)), mem := s.mem ++ [.ctr c] }
  | some (some (.d x)) => .ok (.d x) s
  | some (some (.ref b)) => .ok (.ref b) s
  | _ => .stuck
theorem je_boxV {i : Nat} {x : Str} {pos : Pos} (h : PE X (.Name x pos) (tVar i)) : JE CL X Wx (.Name x pos) (cBoxV i) := pe_imp h fun σ H Q q => by
  obtain ⟨G, s, S, q⟩ := q
  unfold cBoxV at q
  cases e : s.rho[i]? with
  | none => rw [e] at q; exact q.elim
  | some o =>
    cases o with
    | none => rw [e] at q; exact q.elim
    | some w =>
      rw [e] at q
      obtain ⟨v, hv, hr⟩ := S.slots i w e
      refine ⟨v, hv, ?_⟩
      cases w with
      | exn c => exact q.elim
      | d y => exact Post.here (R := rWs X.K) (a := W.d y) S hr q
      | ref b => exact Post.here (R := rWs X.K) (a := W.ref b) S hr q
      | own c =>
        obtain ⟨p, G', hv', hb, S', f⟩ := S.box e
        rw [hv] at hv'
        cases hv'
        exact q _ _ _ (by simpa using f) S' ⟨p, rfl, hb⟩
def cLst (ms : List (EM W)) : EM Ob := eb (cList (ms.map evD)) fun xs => if xs.length ≤ 1000000 then er (.lst xs) else es
theorem tNew_tail {m : EM α} {f : α → EM Ob} {R : Rel α β} {Q : VK} (q : tOf K CL (rNew K H) Wx (eb m f) σ H Q) :
    tOf K CL R Wx m σ H (fun b H1 => ∃ G s G1 s1 a, SR K CL G s σ H ∧ Fut G H s.mem.length G1 H1 s1.mem.length ∧ SR K CL G1 s1 σ H1 ∧ R G1 σ H1 a b ∧ Post K CL (rNew K H) Wx G s.mem.length σ H (f a s1) Q) := by
  obtain ⟨G, s, S, h⟩ := q
  refine ⟨G, s, S, ?_⟩
  unfold eb rb at h
  cases e : m s with
  | ok a s' =>
    rw [e] at h
    exact fun G' H' b f' S' r' => ⟨G, s, G', s', a, S, f', S', r', h⟩
  | raise x s' =>
    rw [e] at h
    exact h
  | stuck =>
    rw [e] at h
    exact h
theorem jn_lst {es : List Expr} {ms : List (EM W)} {pos : Pos} (h : JA CL (rWs X.K) X Wx es ms) : JN CL X Wx (.List es pos) (cLst ms) := pe_imp (pe_lst ((ja_ds h).pa lasts_Ds)) fun σ H Q q => by
  refine (tNew_tail (R := rL (rDs X.K)) q).mono fun vs H1 ⟨G, s, G1, s1, xs, S, f, S1, r, q⟩ => ?_
  by_cases hl : xs.length ≤ 1000000
  · rw [if_pos hl] at q
    have r := rds_of r
    refine ⟨by rw [r.length]; exact Nat.le_trans hl million, fun p hp => ?_⟩
    obtain ⟨S2, f2⟩ := S1.junk (o := .lst vs) hp (n := s1.mem.length)
    exact q _ _ _ (f.trans f2) S2 ⟨p, rfl, ⟨vs, upd_same, r.mono fun a x => (Grow.junk hp).keep S1.liveF a x⟩, S1.notF hp, S1.notIn hp, f.back hp⟩
  · rw [if_neg hl] at q
    exact q.elim

/-! ### calls of defs -/
abbrev Call := Str → List W → List Box → Res W
def rArg (K : PySem.W.Frag) (G : Gh) (H : Hp) (ws : List W) (vs : List V) : Prop := Paired (RW K G H) ws vs
/-- what a def promises -/
def spF (K : PySem.W.Frag) (CL : CA) (np : Nat) (c : List W → List Box → Res W) : Sp := fun vs H Q E => ∃ (G : Gh) (ws : List W) (mem : List Box), vs.length = np ∧ SR K CL G ⟨[], mem⟩ [] H ∧ (∀ i, G.ad (.slot i) = none) ∧ rArg K G H ws vs ∧
  match c ws mem with
  | .ok w s' => ∀ G' H' v, Fut G H mem.length G' H' s'.mem.length → SR K CL G' ⟨[], s'.mem⟩ [] H' → RW K G' H' w v → Q v H'
  | .raise x s' => ∀ G' H' cls d, Fut G H mem.length G' H' s'.mem.length → SR K CL G' ⟨[], s'.mem⟩ [] H' → RX CL x cls d → E cls d H'
  | .stuck => False
def Gh.enter (G : Gh) : Gh := ⟨G.F, fun pl => match pl with
  | .slot _ => none
  | pl => G.ad pl, G.ex⟩
theorem Gh.enter_some {pl : Pl} {a : Addr} (h : G.enter.ad pl = some a) : G.ad pl = some a ∧ ∀ i, pl ≠ .slot i := by
  cases pl with
  | slot i => cases h
  | box b => exact ⟨h, fun i z => nomatch z⟩
  | fld b f => exact ⟨h, fun i z => nomatch z⟩
theorem RP.enter {pl : Pl} (hp : ∀ i, pl ≠ .slot i) {w : W} {v : V} (h : RP K G H pl w v) : RP K G.enter H pl w v := by
  cases w with
  | exn c => exact h
  | d y => exact h
  | ref b => exact h
  | own c =>
    obtain ⟨q, e1, e2, e3⟩ := h
    refine ⟨q, e1, ?_, e3⟩
    cases pl with
    | slot i => exact absurd rfl (hp i)
    | box b => exact e2
    | fld b f => exact e2
theorem SR.enter (S : SR K CL G s σ H) : SR K CL G.enter ⟨[], s.mem⟩ [] H := by
  refine ⟨rfl, fun i w e => by simp at e, fun b c e => ?_, fun pl pl' x e1 e2 => S.inj pl pl' x (Gh.enter_some e1).1 (Gh.enter_some e2).1, fun pl x e => S.live pl x (Gh.enter_some e).1, fun x f => ⟨(S.fz x f).1, fun pl e => (S.fz x f).2 pl (Gh.enter_some e).1⟩, S.bx, S.fd, S.exq⟩
  obtain ⟨q, h1, h2⟩ := S.boxes b c e
  refine ⟨q, h1, ?_⟩
  cases c with
  | ctr c => exact h2
  | inst cls fs =>
    obtain ⟨C, dx, vfs, g1, g2, g3, g4⟩ := h2
    refine ⟨C, dx, vfs, g1, g2, g3, fun f w hw => ?_⟩
    obtain ⟨v, k1, k2, g9⟩ := g4 f w hw
    exact ⟨v, k1, k2.enter (fun i z => by cases z), g9⟩
def Gh.leave (G G' : Gh) : Gh := ⟨G'.F, fun pl => match pl with
  | .slot i => G.ad (.slot i)
  | pl => G'.ad pl, G.ex⟩
theorem Gh.leave_some {pl : Pl} {a : Addr} (h : (G.leave G').ad pl = some a) : (∃ i, pl = .slot i ∧ G.ad (.slot i) = some a) ∨ ((∀ i, pl ≠ .slot i) ∧ G'.ad pl = some a) := by
  cases pl with
  | slot i => exact .inl ⟨i, rfl, h⟩
  | box b => exact .inr ⟨fun i z => (nomatch z), h⟩
  | fld b f => exact .inr ⟨fun i z => (nomatch z), h⟩
/-- back from a call: the callee knew nothing of the slots -/
theorem SR.leave {mem' : List Box} (S : SR K CL G s σ H) (f : Fut G.enter H s.mem.length G' H' mem'.length) (S' : SR K CL G' ⟨[], mem'⟩ [] H') :
    SR K CL (G.leave G') { s with mem := mem' } σ H' ∧ Fut G H s.mem.length (G.leave G') H' mem'.length := by
  -- a slot's own address is strange to the callee
  have strange : ∀ {i : Nat} {a : Addr}, G.ad (.slot i) = some a → (∀ pl, G.enter.ad pl ≠ some a) ∧ (∀ pl, G'.ad pl ≠ some a) ∧ ¬ G'.F a ∧ H' a = H a := fun {i a} e => by
    obtain ⟨o, ho⟩ := S.live _ _ e
    have h1 : ∀ pl, G.enter.ad pl ≠ some a := fun pl e' => by
      obtain ⟨z1, z2⟩ := Gh.enter_some e'
      exact z2 i (S.inj _ _ _ z1 e)
    refine ⟨h1, fun pl e' => ?_, fun x => ?_, ?_⟩
    · rcases f.newA pl a e' with z | ⟨pl0, z⟩
      · rw [ho] at z; cases z
      · exact h1 pl0 z
    · rcases f.newF a x with z | z | ⟨pl0, z⟩
      · exact (S.fz a z).2 _ e
      · rw [ho] at z; cases z
      · exact h1 pl0 z
    · rw [f.oth a o ho h1, ho]
  have hF : ∀ a, G.F a → (G.leave G').F a ∧ H' a = H a := fun a x => by
    obtain ⟨⟨o, e⟩, ne⟩ := S.fz a x
    exact ⟨f.fr a x, by rw [f.oth a o e fun pl z => ne pl (Gh.enter_some z).1, e]⟩
  have rp : ∀ {pl : Pl} {w : W} {v : V}, (∀ i, pl ≠ .slot i) → RP K G' H' pl w v → RP K (G.leave G') H' pl w v := fun {pl w v} hp h => by
    cases w with
    | exn c =>
      obtain ⟨a, e1, e2⟩ := h
      exact ⟨a, e1, f.ex.symm.trans e2⟩
    | d y => exact h
    | ref b => exact h
    | own c =>
      obtain ⟨q, e1, e2, e3⟩ := h
      refine ⟨q, e1, ?_, e3⟩
      cases pl with
      | slot i => exact absurd rfl (hp i)
      | box b => exact e2
      | fld b f => exact e2
  refine ⟨⟨S.len, fun i w e => ?_, fun b c e => ?_, fun pl pl' x e1 e2 => ?_, fun pl x e => ?_, fun x h => ?_, fun b x e => S'.bx b x e, fun b g x e => S'.fd b g x e, S.exq⟩, ⟨f.fr, fun a o e hn => f.oth a o e fun pl z => hn pl (Gh.enter_some z).1, f.there, fun a x => ?_, fun pl x e => ?_, fun b x hb e => f.box b x hb e, f.le, rfl⟩⟩
  · obtain ⟨v, h1, h2⟩ := S.slots i w e
    refine ⟨v, h1, ?_⟩
    cases w with
    | exn c => exact h2
    | d y => exact RD.mono hF h2
    | ref b =>
      obtain ⟨q, e1, e2⟩ := h2
      exact ⟨q, e1, f.box b q (S.bx _ _ e2) e2⟩
    | own c =>
      obtain ⟨q, e1, e2, e3⟩ := h2
      exact ⟨q, e1, e2, e3.mono hF (strange e2).2.2.2⟩
  · obtain ⟨q, h1, h2⟩ := S'.boxes b c e
    refine ⟨q, h1, ?_⟩
    cases c with
    | ctr c => exact h2
    | inst cls fs =>
      obtain ⟨C, dx, vfs, g1, g2, g3, g4⟩ := h2
      refine ⟨C, dx, vfs, g1, g2, g3, fun f w hw => ?_⟩
      obtain ⟨v, k1, k2, g9⟩ := g4 f w hw
      exact ⟨v, k1, rp (fun i z => by cases z) k2, g9⟩
  · rcases Gh.leave_some e1 with ⟨i, rfl, a2⟩ | ⟨a1, a2⟩ <;> rcases Gh.leave_some e2 with ⟨j, rfl, b2⟩ | ⟨b1, b2⟩
    · exact S.inj _ _ x a2 b2
    · exact absurd b2 ((strange a2).2.1 _)
    · exact absurd a2 ((strange b2).2.1 _)
    · exact S'.inj _ _ x a2 b2
  · rcases Gh.leave_some e with ⟨i, rfl, a2⟩ | ⟨a1, a2⟩
    · rw [(strange a2).2.2.2]; exact S.live _ _ a2
    · exact S'.live _ _ a2
  · refine ⟨(S'.fz x h).1, fun pl e => ?_⟩
    rcases Gh.leave_some e with ⟨i, rfl, a2⟩ | ⟨a1, a2⟩
    · exact (strange a2).2.2.1 h
    · exact (S'.fz x h).2 _ a2
  · rcases f.newF a x with z | z | ⟨pl0, z⟩
    · exact .inl z
    · exact .inr (.inl z)
    · exact .inr (.inr ⟨pl0, (Gh.enter_some z).1⟩)
  · rcases Gh.leave_some e with ⟨i, rfl, a2⟩ | ⟨a1, a2⟩
    · exact .inr ⟨_, a2⟩
    · rcases f.newA pl x a2 with z | ⟨pl0, z⟩
      · exact .inl z
      · exact .inr ⟨pl0, (Gh.enter_some z).1⟩
def doCall (c : Call) (f : Str) (ws : List W) : EM W := fun s => match c f ws s.mem with
  | .ok w s' => .ok w { s with mem := s'.mem }
  | .raise x s' => .raise x { s with mem := s'.mem }
  | .stuck => .stuck
def cCall (c : Call) (f : Str) (ms : List (EM W)) : EM W := eb (cList ms) fun ws => doCall c f ws
theorem doCall_ok {c : Call} {f : Str} {ws : List W} {vs : List V} {np : Nat} {Q : VK} (S : SR K CL G s σ H) (hn : vs.length = np) (r : rL (rWs K) G σ H ws vs) (q : Post K CL (rWs K) Wx G s.mem.length σ H (doCall c f ws s) Q) :
    spF K CL np (c f) vs H Q (WE Wx σ) := by
  refine ⟨G.enter, ws, s.mem, hn, S.enter, fun i => rfl, ?_, ?_⟩
  · refine Paired.mapP r fun w v h => ?_
    cases w with
    | exn c => exact h.elim
    | d y => exact h
    | ref b => exact h
    | own c => exact h.elim
  · unfold doCall at q
    cases e : c f ws s.mem with
    | stuck => rw [e] at q; exact q.elim
    | ok w s' =>
      simp only [e] at q
      intro G' H' v f' S' r'
      obtain ⟨S2, f2⟩ := S.leave f' S'
      refine q _ _ _ f2 S2 ?_
      cases w with
      | exn c => exact r'.elim
      | d y => exact r'
      | ref b => exact r'
      | own c => exact r'.elim
    | raise x s' =>
      simp only [e] at q
      intro G' H' cls d f' S' r'
      obtain ⟨S2, f2⟩ := S.leave f' S'
      exact q _ _ cls d f2 S2 r'
/-- keywords' values in the parameters' order -/
def kwOrd {α : Type} (ks ps : List Str) (ws : List α) : List α := ps.filterMap fun p => (ks.zip ws).lookup p
theorem look_paired {R : α → β → Prop} {p : Str} : ∀ {ks : List Str} {ws : List α} {vs : List β}, Paired R ws vs → ((ks.zip ws).lookup p = none ∧ (ks.zip vs).lookup p = none) ∨ ∃ w v, (ks.zip ws).lookup p = some w ∧ (ks.zip vs).lookup p = some v ∧ R w v
  | [], _, _, _ => .inl ⟨rfl, rfl⟩
  | _ :: _, _, _, .nil => .inl ⟨rfl, rfl⟩
  | k :: ks, _, _, .cons (a := a) (b := b) h t => by
    rw [List.zip_cons_cons, List.zip_cons_cons, List.lookup_cons, List.lookup_cons]
    cases p == k with
    | true => exact .inr ⟨a, b, rfl, rfl, h⟩
    | false => exact look_paired t
theorem kwOrd_paired {R : α → β → Prop} {ks : List Str} {ws : List α} {vs : List β} (h : Paired R ws vs) : ∀ {ps : List Str}, Paired R (kwOrd ks ps ws) (kwOrd ks ps vs)
  | [] => .nil
  | p :: ps => by
    unfold kwOrd
    rw [List.filterMap_cons, List.filterMap_cons]
    rcases look_paired (p := p) (ks := ks) h with ⟨e1, e2⟩ | ⟨w, v, e1, e2, r⟩
    · rw [e1, e2]; exact kwOrd_paired h
    · rw [e1, e2]; exact .cons r (kwOrd_paired h)
theorem paired_any : ∀ {ws : List α} {vs : List β}, ws.length = vs.length → Paired (fun _ _ => True) ws vs
  | [], [], _ => .nil
  | [], _ :: _, h => by cases h
  | _ :: _, [], h => by cases h
  | _ :: ws, _ :: vs, h => .cons trivial (paired_any (Nat.succ.inj h))
theorem kwOrd_len {ks ps : List Str} {ws : List α} {vs : List β} (h : ws.length = vs.length) : (kwOrd ks ps ws).length = (kwOrd ks ps vs).length := Paired.length (kwOrd_paired (paired_any h))
theorem kwOrd_vals {ks ps : List Str} {vs : List V} {us : List Value} (h : Vals vs us) : Vals (kwOrd ks ps vs) (kwOrd ks ps us) := by
  have a : ∀ {vs : List V} {us : List Value}, Vals vs us → Paired RelV vs us := by
    intro vs us h
    induction h with
    | nil => exact .nil
    | cons r _ ih => exact .cons r ih
  have b : ∀ {vs : List V} {us : List Value}, Paired RelV vs us → Vals vs us := by
    intro vs us h
    induction h with
    | nil => exact .nil
    | cons r _ ih => exact .cons r ih
  exact b (kwOrd_paired (a h))
/-- a call with keywords alone -/
def KwIn (fd : FuncData) (ps ks : List Str) : Prop := ∀ ws : List Value, ws.length = ks.length → bindArgs fd ⟨[], ks.zip ws⟩ = pure (ps.zip (kwOrd ks ps ws))
/-- what is known of a def of the module -/
structure FnIn (K : PySem.W.Frag) (CL : CA) (P : Program) (w : World) (mg : Str → Option Value) (base : Heap) (k : Nat) (f : Str) (ps : List Str) (kws : List (List Str)) (c : List W → List Box → Res W) : Prop where
  is : ∃ (a : Addr) (fd : FuncData), mg f = some (.ref a) ∧ PySem.W.keepIn K (.ref a) = true ∧ Binds K fd ps [] ∧ FnOk P w K mg base (L2.CX P w) k a fd ps (spF K CL ps.length c) ∧ ∀ ks ∈ kws, KwIn fd ps ks
theorem cList_len {α : Type} : ∀ {ms : List (EM α)} {s : S} {ws : List α} {s' : S}, cList ms s = .ok ws s' → ws.length = ms.length := by
  intro ms
  induction ms with
  | nil => intro s ws s' e; cases e; rfl
  | cons m ms ih =>
    intro s ws s' e
    unfold cList eb rb at e
    cases e1 : m s with
    | stuck => rw [e1] at e; cases e
    | raise x t => rw [e1] at e; cases e
    | ok w t =>
      rw [e1] at e
      simp only [eb, rb] at e
      cases e2 : cList ms t with
      | stuck => rw [e2] at e; cases e
      | raise x t => rw [e2] at e; cases e
      | ok w' t' =>
        rw [e2] at e
        cases e
        show w'.length + 1 = ms.length + 1
        rw [ih e2]
/-- the keywords of a call -/
inductive JKw (CL : CA) (X : Cx) (Wx : WX) : List Keyword → List Str → List (EM W) → Prop
  | nil : JKw CL X Wx [] [] []
  | cons {n : Str} {e : Expr} {kp : Pos} {kws : List Keyword} {ns : List Str} {m : EM W} {ms : List (EM W)} (h : JE CL X Wx e m) (t : JKw CL X Wx kws ns ms) : JKw CL X Wx (⟨some n, e, kp⟩ :: kws) (n :: ns) (m :: ms)
theorem JKw.pk : ∀ {kws : List Keyword} {ns : List Str} {ms : List (EM W)}, JKw CL X Wx kws ns ms → PK X kws (tOf X.K CL (rL (rWs X.K)) Wx (cList ms))
  | _, _, _, .nil => ⟨fun pos pins s σ H Q I q => pk_nil.run pos pins s σ H Q I (by
    obtain ⟨G, s, S, q⟩ := q
    exact Post.here (R := rL (rWs X.K)) (a := []) S .nil q)⟩
  | _, _, _, .cons h t => ⟨fun pos pins s σ H Q I q => (pk_cons h t.pk).run pos pins s σ H Q I (by
    refine (tOf.bind (R := rWs X.K) q).mono fun v H1 ⟨G1, s1, w, S1, r, q⟩ => ?_
    refine ⟨G1, s1, S1, ?_⟩
    refine (Post.bind (R := rL (rWs X.K)) q).mono fun vs H2 ⟨G2, s2, ws, f2, S2, r2, q⟩ => ?_
    exact Post.here (R := rL (rWs X.K)) S2 (.cons (lasts_Ws.go S1 f2 r) r2) q)⟩
theorem JKw.names : ∀ {kws : List Keyword} {ns : List Str} {ms : List (EM W)} {pos : Pos}, JKw CL X Wx kws ns ms → (backToKw pos (keywordEach kws X.env)).all (·.1.isSome) = true ∧ (backToKw pos (keywordEach kws X.env)).filterMap (·.1) = ns ∧ (backToKw pos (keywordEach kws X.env)).any (·.1.isNone) = false ∧ ns.length = ms.length
  | _, _, _, _, .nil => ⟨rfl, rfl, rfl, rfl⟩
  | _, _, _, pos, .cons (n := n) (ns := ns) (ms := ms) (m := m) h t => by
    obtain ⟨h1, h2, h3, h4⟩ := t.names (pos := pos)
    exact ⟨h1, congrArg (n :: ·) h2, h3, congrArg (· + 1) h4⟩
def cCallK (c : Call) (f : Str) (ks ps : List Str) (ms : List (EM W)) : EM W := eb (cList ms) fun ws => doCall c f (kwOrd ks ps ws)
theorem run_kw {CX : CXT} {k : Nat} {f : Addr} {fd : FuncData} {ps ks : List Str} {sp : Sp} {E : L2.St → XK} {pins : List (Addr × Obj)} {s : Shared} {Q : VK} {ws : List Value} {zs : List V} (F : FnOk X.prog X.w X.K X.mg X.base CX k f fd ps sp) (hr : Room k X.A) (hb : KwIn fd ps ks) (hx : PassesAt CX X σ (E σ))
    (I : Inv X pins σ H s) (r : Vals zs ws) (hl : zs.length = ks.length) (h : sp (kwOrd ks ps zs) H Q (E σ)) : wpAny (model X.prog X.w) X.A (call (.ref f) [] (ks.zip ws)) (EP X pins σ Q) X.xe s := by
  refine wpAny_call (codeAny_mono (F.run X.A X.stack s H ⟨[], ks.zip ws⟩ (kwOrd ks ps ws) (kwOrd ks ps zs) Q (E σ) hr I.env0 (.of_eq (hb ws (r.length.symm.trans hl))) (kwOrd_vals r) h) fun r s' hq => ?_)
  cases r with
  | error e => exact hx pins H s e s' I hq
  | ok fl =>
    cases fl with
    | ret u => exact I.after hq
    | next => exact False.elim hq
    | brk => exact False.elim hq
    | cont => exact False.elim hq
theorem paired_len {R : α → β → Prop} {as : List α} {bs : List β} (h : Paired R as bs) : as.length = bs.length := Paired.length h
theorem je_callK {c : Call} {f : Str} {ps ks : List Str} {fks : List (List Str)} {k : Nat} {kws : List Keyword} {ms : List (EM W)} {p pos : Pos} (F : FnIn X.K CL X.prog X.w X.mg X.base k f ps fks (c f)) (hr : Room k X.A) (hg : Gl X f) (tk : Takes X Wx) (hd : (f == ("__debug__" : Str)) = false)
    (h : JKw CL X Wx kws ks ms) (hk : ks ∈ fks) (hln : (kwOrd ks ps ks).length = ps.length) : JE CL X Wx (.Call (.Name f p) [] kws pos) (cCallK c f ks ps ms) := by
  obtain ⟨a, fd, m1, m2, m3, m4, m5⟩ := F.is
  obtain ⟨h1, h2, h3, h4⟩ := h.names (pos := pos)
  refine ⟨fun pins sh σ H Q I q => ?_⟩
  refine wpAny_Call_Name_kw (ld_glob I hg m1 ?_ hd)
  refine PySem.W.callWith_KW0 (h₀ := X.base) I.ok.mod.kin m2 h1 ?_ (by rw [h3]; rfl)
  refine thn (h.pk.run pos pins sh σ H (fun zs H2 => zs.length = ks.length ∧ spF X.K CL ps.length (c f) (kwOrd ks ps zs) H2 Q (WE Wx σ)) I ?_) fun ws s2 ⟨zs, H2, I2, rz, l2, q2⟩ => ⟨I2.kIn, ?_⟩
  · obtain ⟨G, s, S, q⟩ := q
    refine ⟨G, s, S, ?_⟩
    unfold cCallK eb rb at q
    cases e1 : cList ms s with
    | stuck => rw [e1] at q; exact q.elim
    | raise x t => rw [e1] at q; exact q
    | ok ws t =>
      rw [e1] at q
      intro G' H' vs f' S' r'
      have l : vs.length = ks.length := by rw [← Paired.length r', cList_len e1, h4]
      exact ⟨l, doCall_ok S' ((kwOrd_len l).trans hln) (kwOrd_paired r') (Post.later f' q)⟩
  · rw [h2]
    exact run_kw (E := WE Wx) m4 hr (m5 ks hk) (passAt tk σ) I2 rz l2 q2
theorem je_call {c : Call} {f : Str} {ps : List Str} {fks : List (List Str)} {k : Nat} {e : Expr} {es : List Expr} {ms : List (EM W)} {p pos : Pos} (F : FnIn X.K CL X.prog X.w X.mg X.base k f ps fks (c f)) (hr : Room k X.A) (hg : Gl X f) (tk : Takes X Wx) (hd : (f == ("__debug__" : Str)) = false)
    (h : JA CL (rWs X.K) X Wx (e :: es) ms) (hln : ms.length = ps.length) : JE CL X Wx (.Call (.Name f p) (e :: es) [] pos) (cCall c f ms) := by
  obtain ⟨a, fd, m1, m2, m3, m4, _⟩ := F.is
  have hs : starEach (e :: es) X.env = (false, eval e X.env) :: starEach es X.env := by cases h; assumption
  have ht : (backTo pos (starEach es X.env)).any (·.1) = false := by
    cases h with
    | cons _ _ t => exact t.noStar
  refine pe_imp (pe_callS m4 hr hg m1 m2 m3 (fun σ => passAt tk σ) (h.pa lasts_Ws) hd hs ht) fun σ H Q q => ?_
  obtain ⟨G, s, S, q⟩ := q
  refine ⟨G, s, S, ?_⟩
  unfold cCall eb rb at q
  cases e1 : cList ms s with
  | stuck => rw [e1] at q; exact q.elim
  | raise x t => rw [e1] at q; exact q
  | ok ws t =>
    rw [e1] at q
    intro G' H' vs f' S' r'
    exact doCall_ok S' (by rw [← Paired.length r', cList_len e1, hln]) r' (Post.later f' q)
end
end MP
/-! Part G: operators. -/
namespace MP
open PySem PySem.Spec PyProof.Rows L2
section
variable {X : Cx} {pins : List (Addr × Obj)} {σ : L2.St} {H : Hp} {s : Shared}
/-- a list that may be read -/
theorem Inv.lstR {a : Addr} {xs : List V} (I : Inv X pins σ H s) (h : Rd H a (.lst xs)) : xs.length ≤ sizeLine ∧ ∃ (its : List Value) (n : Nat), Vals xs its ∧ xs.length = its.length ∧ s.heap.get? a = some { cls := .type "list", data := .seq its.toArray n } := by
  obtain ⟨z, its, n, r, e⟩ := h.ok I.hok
  exact ⟨z, its, n, r, r.length, e⟩
def rCatL (K : PySem.W.Frag) : R2 := fun x y H Q => ∃ l b xs zs, x = .ref l ∧ y = .ref b ∧ SqL K H l xs ∧ SqL K H b zs ∧ xs.length + zs.length ≤ sizeLine ∧ ∀ p, H p = none → Q (.ref p) (upd H p (.lst (xs ++ zs)))
theorem op_catL : OpR X (binaryOp .Add) (rCatL X.K) := by
  intro pins s σ H x y v u Q I rx ry h
  obtain ⟨l, b, xs, zs, rfl, rfl, hH, hB, hz, q⟩ := h
  cases rx
  cases ry
  obtain ⟨its, r, ⟨⟨cls, dd, data, sl⟩, n, ho, hc, hd, hs⟩, hl⟩ := I.list hH
  obtain ⟨its2, r2, ⟨⟨cls2, dd2, data2, sl2⟩, n2, ho2, hc2, hd2, hs2⟩, hl2⟩ := I.list hB
  simp only at hc hs hc2 hs2
  subst hc hs hc2 hs2
  have ea : its.toArray ++ its2.toArray = (its ++ its2).toArray := by simp
  refine concat_meets ⟨_, ho, rfl⟩ ⟨_, ho2, rfl⟩ noFill_list_add seq_list_add PySem.F.slot_list_add PySem.F.entry_list_add (PySem.F.args_list_add_2 _ _) (list_addW l b its.toArray its2.toArray n n2 dd dd2 sl sl2 (by rw [List.size_toArray, List.size_toArray, ← r.length, ← r2.length]; exact hz)) ⟨ho, ho2, ?_⟩
  rw [ea]
  exact ⟨.ref _, _, I.lnew (t' := s.toks) (r.append r2) (by rw [List.length_append]; omega), rfl, q _ I.fresh⟩
/-- * of ints, together below a hundred million bits -/
def CMulG (i j : Int) : Prop := i.natAbs.log2 + j.natAbs.log2 < 100000000
theorem CMulG.ok {i j : Int} (h : CMulG i j) : IntMulOk i j := by
  have b : ∀ x : Int, Builtin.Int.intBits x ≤ x.natAbs.log2 + 1 := fun x => by
    unfold Builtin.Int.intBits
    split <;> omega
  have h1 := b i
  have h2 := b j
  have h3 : i.natAbs.log2 + j.natAbs.log2 < 100000000 := h
  have e : bitsLine = 134217728 := by decide
  unfold IntMulOk
  intro z
  rw [Bool.and_eq_true] at z
  have z2 := z.2
  unfold Builtin.Int.intTooBig at z2
  have z3 := of_decide_eq_true z2
  rw [e] at z3
  omega
theorem op_mulG : OpR X (binaryOp .Mult) (rI CMulG fun i j => .int (i * j)) := opI fun _ _ _ _ _ _ _ hc q => mul_int q hc.ok
end

/-! ### + -/
def fAdd : PyData → PyData → Option PyData
  | .int i, .int j => some (.int (i + j))
  | .int i, .bool k => some (.int (i + b2i k))
  | .str a, .str b => if a.length + b.length ≤ 1000000 then some (.str (a ++ b)) else none
  | .list a, .list b => if a.length + b.length ≤ 1000000 then some (.list (a ++ b)) else none
  | .tuple a, .tuple b => if a.length + b.length ≤ 1000000 then some (.tuple (a ++ b)) else none
  | _, _ => none
def rIB : R2 := fun x y H Q => ∃ i k, x = .int i ∧ y = .bl k ∧ Q (.int (i + b2i k)) H
def rStr2 : R2 := fun x y H Q => ∃ i j, x = .str i ∧ y = .str j ∧ i.length + j.length ≤ sizeLine ∧ Q (.str (i ++ j)) H
def rAdd (K : PySem.W.Frag) : R2 := fun x y H Q => rI0 (fun i j => .int (i + j)) x y H Q ∨ rIB x y H Q ∨ rStr2 x y H Q ∨ rCatL K x y H Q ∨ rCatA K x y H Q
theorem op_addA {X : Cx} : OpR X (binaryOp .Add) (rAdd X.K) := op_add.or (OpR.or (r := rIB) op_add_ib (OpR.or (r := rStr2) op_add_str (OpR.or op_catL op_catA)))
theorem ok_add {K : PySem.W.Frag} : Op2 K (rAdd K) fAdd := by
  intro F H dx dy vx vy z Q hl v1 v2 e q
  cases v1 with
  | none => cases e
  | bool b => cases e
  | dict _ _ => cases e
  | int i =>
    cases v2 with
    | int j => cases e; exact .inl ⟨i, j, rfl, rfl, q _ _ _ .refl (.int _)⟩
    | bool k => cases e; exact .inr (.inl ⟨i, k, rfl, rfl, q _ _ _ .refl (.int _)⟩)
    | none => cases e
    | str x => cases e
    | list _ _ => cases e
    | tuple _ _ => cases e
    | dict _ _ => cases e
  | str a =>
    cases v2 with
    | str b =>
      have e : (if a.length + b.length ≤ 1000000 then some (PyData.str (a ++ b)) else none) = some z := e
      by_cases h : a.length + b.length ≤ 1000000
      · rw [if_pos h] at e
        cases e
        exact .inr (.inr (.inl ⟨a, b, rfl, rfl, Nat.le_trans h million, q _ _ _ .refl (.str _)⟩))
      · rw [if_neg h] at e; cases e
    | int j => cases e
    | bool k => cases e
    | none => cases e
    | list _ _ => cases e
    | tuple _ _ => cases e
    | dict _ _ => cases e
  | @list a vs xs h1 h2 =>
    cases v2 with
    | @list b us ys g1 g2 =>
      have e : (if xs.length + ys.length ≤ 1000000 then some (PyData.list (xs ++ ys)) else none) = some z := e
      by_cases h : xs.length + ys.length ≤ 1000000
      · rw [if_pos h] at e
        cases e
        refine .inr (.inr (.inr (.inl ⟨a, b, vs, us, rfl, rfl, h1, g1, by rw [h2.length, g2.length]; exact Nat.le_trans h million, fun p hp => ?_⟩)))
        have g := Grow.one (F := F) (o := .lst (vs ++ us)) hp
        exact q _ _ _ g (.list (.inl ⟨.inr rfl, .inl upd_same⟩) ((h2.append g2).mono fun a f => g.keep hl a f))
      · rw [if_neg h] at e; cases e
    | int j => cases e
    | bool k => cases e
    | none => cases e
    | str _ => cases e
    | tuple _ _ => cases e
    | dict _ _ => cases e
  | @tuple a vs xs h1 h2 =>
    cases v2 with
    | @tuple b us ys g1 g2 =>
      have e : (if xs.length + ys.length ≤ 1000000 then some (PyData.tuple (xs ++ ys)) else none) = some z := e
      by_cases h : xs.length + ys.length ≤ 1000000
      · rw [if_pos h] at e
        cases e
        refine .inr (.inr (.inr (.inr ⟨a, b, vs, us, rfl, rfl, h1.sq, g1.sq, by rw [h2.length, g2.length]; exact Nat.le_trans h million, fun z => ?_, fun z1 z2 => ?_, fun z1 z2 p hp => ?_⟩)))
        · subst z
          cases h2
          exact q _ _ _ .refl (.tuple g1 g2)
        · subst z2
          cases g2
          have q2 := q F H (.ref a) .refl
          rw [List.append_nil] at q2
          exact q2 (.tuple h1 h2)
        · have g := Grow.one (F := F) (o := .tup (vs ++ us)) hp
          exact q _ _ _ g (.tuple (.inl ⟨.inr rfl, .inl upd_same⟩) ((h2.append g2).mono fun a f => g.keep hl a f))
      · rw [if_neg h] at e; cases e
    | int j => cases e
    | bool k => cases e
    | none => cases e
    | str _ => cases e
    | list _ _ => cases e
    | dict _ _ => cases e
/-! ### ints -/
/-- two ints in, by a partial function -/
def fI (g : Int → Int → Option PyData) : PyData → PyData → Option PyData
  | .int i, .int j => g i j
  | _, _ => none
theorem ok_fI {K : PySem.W.Frag} {r : R2} {g : Int → Int → Option PyData} (h : ∀ i j z H Q, g i j = some z → (∀ v, (∀ F H, RD K F H z v) → Q v H) → r (.int i) (.int j) H Q) : Op2 K r (fI g) := by
  intro F H dx dy vx vy z Q hl v1 v2 e q
  cases v1 with
  | int i =>
    cases v2 with
    | int j => exact h i j z H Q e fun v r => q _ _ _ .refl (r _ _)
    | none => cases e
    | bool b => cases e
    | str b => cases e
    | dict _ _ => cases e
    | list _ _ => cases e
    | tuple _ _ => cases e
  | none => cases e
  | bool b => cases e
  | str b => cases e
  | dict _ _ => cases e
  | list _ _ => cases e
  | tuple _ _ => cases e
def fSub := fI fun i j => some (.int (i - j))
theorem ok_sub {K : PySem.W.Frag} : Op2 K (rI0 fun i j => .int (i - j)) fSub := ok_fI fun i j z H Q e q => by
  cases e
  exact ⟨i, j, rfl, rfl, q _ fun _ _ => .int _⟩
def mulOk (i j : Int) : Bool := decide (i.natAbs < 18446744073709551616) || decide (j.natAbs < 18446744073709551616) || decide (i.natAbs.log2 + j.natAbs.log2 < 100000000)
def fMul := fI fun i j => if mulOk i j = true then some (.int (i * j)) else none
def rMul : R2 := fun x y H Q => rI CMul (fun i j => .int (i * j)) x y H Q ∨ rI CMulG (fun i j => .int (i * j)) x y H Q
theorem op_mulA {X : Cx} : OpR X (binaryOp .Mult) rMul := op_mul.or op_mulG
theorem ok_mul {K : PySem.W.Frag} : Op2 K rMul fMul := ok_fI fun i j z H Q e q => by
  by_cases h : mulOk i j = true
  · rw [if_pos h] at e
    cases e
    unfold mulOk at h
    rw [Bool.or_eq_true, Bool.or_eq_true] at h
    rcases h with (h | h) | h
    · have h := of_decide_eq_true h
      exact .inl ⟨i, j, rfl, rfl, .inl ⟨by omega, by omega⟩, q _ fun _ _ => .int _⟩
    · have h := of_decide_eq_true h
      exact .inl ⟨i, j, rfl, rfl, .inr ⟨by omega, by omega⟩, q _ fun _ _ => .int _⟩
    · have h : i.natAbs.log2 + j.natAbs.log2 < 100000000 := of_decide_eq_true h
      exact .inr ⟨i, j, rfl, rfl, h, q _ fun _ _ => .int _⟩
  · rw [if_neg h] at e; cases e
def fDiv := fI fun i j => if 0 < j ∧ j.natAbs.log2 < 9000 then some (.int (i / j)) else none
theorem ok_div {K : PySem.W.Frag} : Op2 K (rI CDivW fun i j => .int (i / j)) fDiv := ok_fI fun i j z H Q e q => by
  by_cases h : 0 < j ∧ j.natAbs.log2 < 9000
  · rw [if_pos h] at e
    cases e
    exact ⟨i, j, rfl, rfl, h, q _ fun _ _ => .int _⟩
  · rw [if_neg h] at e; cases e
def fMod := fI fun i j => if 0 < j then some (.int (i % j)) else none
theorem ok_mod {K : PySem.W.Frag} : Op2 K (rI (fun _ j => 0 < j) fun i j => .int (i % j)) fMod := ok_fI fun i j z H Q e q => by
  by_cases h : 0 < j
  · rw [if_pos h] at e
    cases e
    exact ⟨i, j, rfl, rfl, h, q _ fun _ _ => .int _⟩
  · rw [if_neg h] at e; cases e
def fPow := fI fun i j => if 0 ≤ j ∧ j ≤ 1000000 ∧ i.natAbs < 18446744073709551616 then some (.int (i ^ j.toNat)) else none
theorem ok_pow {K : PySem.W.Frag} : Op2 K (rI CPow fun i j => .int (i ^ j.toNat)) fPow := ok_fI fun i j z H Q e q => by
  by_cases h : 0 ≤ j ∧ j ≤ 1000000 ∧ i.natAbs < 18446744073709551616
  · rw [if_pos h] at e
    cases e
    exact ⟨i, j, rfl, rfl, h, q _ fun _ _ => .int _⟩
  · rw [if_neg h] at e; cases e
def fCmpI (g : Int → Int → Bool) := fI fun i j => some (.bool (g i j))
theorem ok_cmpI {K : PySem.W.Frag} {g : Int → Int → Bool} : Op2 K (rI0 fun i j => .bl (g i j)) (fCmpI g) := ok_fI fun i j z H Q e q => by
  cases e
  exact ⟨i, j, rfl, rfl, q _ fun _ _ => .bool _⟩
def fNeg : PyData → Option PyData
  | .int i => some (.int (-i))
  | _ => none
theorem ok_neg {K : PySem.W.Frag} : Op1 K (rU fun i => .int (-i)) fNeg := by
  intro F H dx vx z Q hl v1 e q
  cases v1 with
  | int i => cases e; exact ⟨i, rfl, q _ _ _ .refl (.int _)⟩
  | none => cases e
  | bool b => cases e
  | str b => cases e
  | dict _ _ => cases e
  | list _ _ => cases e
  | tuple _ _ => cases e
/-! ### == -/
def scalD : PyData → PyData → Bool
  | .none, .none => true | .none, .int _ => true | .int _, .none => true | .none, .bool _ => true | .bool _, .none => true | .none, .str _ => true | .str _, .none => true
  | .int _, .int _ => true | .bool _, .bool _ => true | .str _, .str _ => true
  | .int _, .str _ => true | .str _, .int _ => true | .bool _, .str _ => true | .str _, .bool _ => true
  | _, _ => false
def fEq (x y : PyData) : Option PyData := if scalD x y = true then some (.bool (PyData.eqv x y)) else if (SeqAt.shaped x && SeqAt.shaped y) = true then some (.bool (PyData.eqv x y)) else none
def fNe (x y : PyData) : Option PyData := if scalD x y = true then some (.bool (!PyData.eqv x y)) else if (SeqAt.shaped x && SeqAt.shaped y) = true then some (.bool (!PyData.eqv x y)) else none
theorem scal_ok {K : PySem.W.Frag} {F : Addr → Prop} {H : Hp} {dx dy : PyData} {vx vy : V} (v1 : View K F H dx vx) (v2 : View K F H dy vy) (h : scalD dx dy = true) : scal vx vy = true ∧ decide (vx = vy) = PyData.eqv dx dy := by
  cases v1 with
  | none => cases v2 <;> first | (cases h; done) | (refine ⟨rfl, ?_⟩; first | (simp [PyData.eqv]; done) | simp only [PyData.eqv, Bool.beq_eq_decide_eq, V.bl.injEq, V.int.injEq, V.str.injEq])
  | bool b => cases v2 <;> first | (cases h; done) | (refine ⟨rfl, ?_⟩; first | (simp [PyData.eqv]; done) | simp only [PyData.eqv, Bool.beq_eq_decide_eq, V.bl.injEq, V.int.injEq, V.str.injEq])
  | int b => cases v2 <;> first | (cases h; done) | (refine ⟨rfl, ?_⟩; first | (simp [PyData.eqv]; done) | simp only [PyData.eqv, Bool.beq_eq_decide_eq, V.bl.injEq, V.int.injEq, V.str.injEq])
  | str b => cases v2 <;> first | (cases h; done) | (refine ⟨rfl, ?_⟩; first | (simp [PyData.eqv]; done) | simp only [PyData.eqv, Bool.beq_eq_decide_eq, V.bl.injEq, V.int.injEq, V.str.injEq])
  | dict _ _ => cases v2 <;> cases h
  | list _ _ => cases v2 <;> cases h
  | tuple _ _ => cases v2 <;> cases h
def rEqA (K : PySem.W.Frag) : R2 := fun x y H Q => rEq x y H Q ∨ rEqD K x y H Q
def rNeA (K : PySem.W.Frag) : R2 := fun x y H Q => rNe x y H Q ∨ rNeD K x y H Q
theorem op_eqA {X : Cx} (hu : X.A.units + 64 < cLine) : OpR X (compareOp .Eq) (rEqA X.K) := op_eq.or (op_eqD hu)
theorem op_neA {X : Cx} (hu : X.A.units + 64 < cLine) : OpR X (compareOp .NotEq) (rNeA X.K) := op_ne.or (op_neD hu)
theorem ok_eq {K : PySem.W.Frag} : Op2 K (rEqA K) fEq := by
  intro F H dx dy vx vy z Q hl v1 v2 e q
  unfold fEq at e
  by_cases h : scalD dx dy = true
  · rw [if_pos h] at e
    cases e
    obtain ⟨h1, h2⟩ := scal_ok v1 v2 h
    exact .inl ⟨h1, by rw [h2]; exact q _ _ _ .refl (.bool _)⟩
  · rw [if_neg h] at e
    by_cases h' : (SeqAt.shaped dx && SeqAt.shaped dy) = true
    · rw [if_pos h'] at e
      cases e
      rw [Bool.and_eq_true] at h'
      exact .inr ⟨dx, dy, v1.dp (SeqAt.canLay_of_shaped h'.1), v2.dp (SeqAt.canLay_of_shaped h'.2), h'.1, h'.2, q _ _ _ .refl (.bool _)⟩
    · rw [if_neg h'] at e; cases e
theorem ok_ne {K : PySem.W.Frag} : Op2 K (rNeA K) fNe := by
  intro F H dx dy vx vy z Q hl v1 v2 e q
  unfold fNe at e
  by_cases h : scalD dx dy = true
  · rw [if_pos h] at e
    cases e
    obtain ⟨h1, h2⟩ := scal_ok v1 v2 h
    exact .inl ⟨h1, by rw [h2]; exact q _ _ _ .refl (.bool _)⟩
  · rw [if_neg h] at e
    by_cases h' : (SeqAt.shaped dx && SeqAt.shaped dy) = true
    · rw [if_pos h'] at e
      cases e
      rw [Bool.and_eq_true] at h'
      exact .inr ⟨dx, dy, v1.dp (SeqAt.canLay_of_shaped h'.1), v2.dp (SeqAt.canLay_of_shaped h'.2), h'.1, h'.2, q _ _ _ .refl (.bool _)⟩
    · rw [if_neg h'] at e; cases e
/-! ### is None -/
def isN : PyData → Bool
  | .none => true
  | _ => false
def fIsN (x y : PyData) : Option PyData := match y with
  | .none => some (.bool (isN x))
  | _ => none
def fNotN (x y : PyData) : Option PyData := match y with
  | .none => some (.bool (!isN x))
  | _ => none
theorem isN_ok {K : PySem.W.Frag} {F : Addr → Prop} {H : Hp} {dx : PyData} {vx : V} (v1 : View K F H dx vx) : decide (vx = .non) = isN dx := by
  cases v1 <;> simp [isN]
theorem ok_isN {K : PySem.W.Frag} : Op2 K (fun x y H Q => y = .non ∧ Q (.bl (decide (x = .non))) H) fIsN := by
  intro F H dx dy vx vy z Q hl v1 v2 e q
  cases v2 with
  | none => cases e; exact ⟨rfl, by rw [isN_ok v1]; exact q _ _ _ .refl (.bool _)⟩
  | int i => cases e
  | bool b => cases e
  | str b => cases e
  | dict _ _ => cases e
  | list _ _ => cases e
  | tuple _ _ => cases e
theorem ok_notN {K : PySem.W.Frag} : Op2 K (fun x y H Q => y = .non ∧ Q (.bl (!decide (x = .non))) H) fNotN := by
  intro F H dx dy vx vy z Q hl v1 v2 e q
  cases v2 with
  | none => cases e; exact ⟨rfl, by rw [isN_ok v1]; exact q _ _ _ .refl (.bool _)⟩
  | int i => cases e
  | bool b => cases e
  | str b => cases e
  | dict _ _ => cases e
  | list _ _ => cases e
  | tuple _ _ => cases e
end MP
/-! Part H: subscripts, built-in functions, isinstance. -/
namespace MP
open PySem PySem.Spec PyProof.Rows L2
/-! ### places -/
theorem atI_rds {K : PySem.W.Frag} {F : Addr → Prop} {H : Hp} {ds : List PyData} {vs : List V} (h : RDs K F H ds vs) {i : Int} {d : PyData} (e : atI ds i = some d) : ∃ v, atI vs i = some v ∧ RD K F H d v := by
  unfold atI at e ⊢
  rw [h.length]
  cases e1 : ixN ds.length i with
  | none => rw [e1] at e; cases e
  | some j =>
    rw [e1] at e
    exact h.get (i := j) e
/-- an item of a list, a tuple, a text, a dict -/
def keyOf : PyData → Option Key
  | .int i => some (.inl i)
  | .str x => some (.inr x)
  | _ => none
def dLook (kvs : List (PyData × PyData)) (k : Key) : Option PyData := (kvs.find? fun p => decide (keyOf p.1 = some k)).map (·.2)
def fIx : PyData → PyData → Option PyData
  | .list xs, .int i => atI xs i
  | .tuple xs, .int i => atI xs i
  | .str x, .int i => if x.length ≤ 1000000 then (atI x.cps.toList i).map fun c => .str ⟨#[c]⟩ else none
  | .dict kvs, k => match keyOf k with
    | some k => dLook kvs k
    | none => none
  | _, _ => none
def rIxD : R2 := fun x y H Q => ∃ a v, x = .ref a ∧ DGet H a y (some v) ∧ Q v H
theorem ix_dic {X : Cx} (hu : X.A.units + 1 < cLine) : IxR X rIxD := by
  intro value slice pins s σ H x y v u Q I rx ry h hs
  obtain ⟨a, w, rfl, g, q⟩ := h
  cases rx
  have hT := dict_typeIs I g
  unfold subscriptTail
  refine wpAny_bind ?_
  rw [getitemInPython_of_ne hT.not_modules]
  refine wpAny_bind (wpAny_specialOf hT PySem.F.slot_dict_getitem.lookup ?_)
  have fin : wpAny (model X.prog X.w) X.A (subscripted slice false (.ref a) u) (fun r s₃ => wpAny (model X.prog X.w) X.A (letTemporaryGo value (.ref a) r >>= fun _ => pure r) (EP X pins σ Q) X.xe s₃) X.xe s := by
    rw [hs]
    exact wpAny_operating (wpAny_mono (d_getItem (E := X.xe) (Q := EP X pins σ Q) hu I g ry fun w' s3 I3 rw' => ⟨w, H, I3, rw', q⟩) (fun r s₃ h₃ => wpAny_bind (wpAny_letTemporaryGo (wpAny_pure h₃))) fun _ _ x => x)
  first
    | exact wpAny_pure (wpAny_bind fin)
    | exact wpAny_bind (wpAny_pure (wpAny_bind fin))
    | exact wpAny_bind fin
theorem rdkv_look {K : PySem.W.Frag} {F : Addr → Prop} {H : Hp} {k : Key} {d : PyData} : ∀ {ds : List (PyData × PyData)} {kvs : List (Key × V)}, RDkv K F H ds kvs → dLook ds k = some d → ∃ v, valV kvs k = some v ∧ RD K F H d v
  | _, _, .nil, e => by cases e
  | _, _, .consI (i := i) (d := d') (ds := ds) (v := v) (kvs := kvs) h1 h2, e => by
    unfold dLook at e
    rw [List.find?_cons] at e
    by_cases q : (Sum.inl i : Key) = k
    · have hd : decide (keyOf (PyData.int i) = some k) = true := decide_eq_true (by rw [← q]; rfl)
      rw [hd] at e
      cases e
      exact ⟨v, valV_pos (p := (Sum.inl i, v)) q, h1⟩
    · have hd : decide (keyOf (PyData.int i) = some k) = false := decide_eq_false (fun z => q (Option.some.inj z))
      rw [hd] at e
      obtain ⟨v', e1, e2⟩ := rdkv_look h2 e
      exact ⟨v', by rw [valV_neg (p := (Sum.inl i, v)) q]; exact e1, e2⟩
  | _, _, .consS (x := i) (d := d') (ds := ds) (v := v) (kvs := kvs) h1 h2, e => by
    unfold dLook at e
    rw [List.find?_cons] at e
    by_cases q : (Sum.inr i : Key) = k
    · have hd : decide (keyOf (PyData.str i) = some k) = true := decide_eq_true (by rw [← q]; rfl)
      rw [hd] at e
      cases e
      exact ⟨v, valV_pos (p := (Sum.inr i, v)) q, h1⟩
    · have hd : decide (keyOf (PyData.str i) = some k) = false := decide_eq_false (fun z => q (Option.some.inj z))
      rw [hd] at e
      obtain ⟨v', e1, e2⟩ := rdkv_look h2 e
      exact ⟨v', by rw [valV_neg (p := (Sum.inr i, v)) q]; exact e1, e2⟩
def rIxA (K : PySem.W.Frag) : R2 := fun x y H Q => rIx K x y H Q ∨ rIxD x y H Q
theorem ix_A {X : Cx} (hu : X.A.units + 1 < cLine) : IxR X (rIxA X.K) := ix_seq.or (ix_dic hu)
theorem ok_ix {K : PySem.W.Frag} : Op2 K (rIxA K) fIx := by
  intro F H dx dy vx vy z Q hl v1 v2 e q
  cases v1 with
  | none => cases e
  | bool b => cases e
  | int b => cases e
  | str x =>
    cases v2 with
    | int i =>
      have e : (if x.length ≤ 1000000 then (atI x.cps.toList i).map fun c => PyData.str ⟨#[c]⟩ else Option.none) = some z := e
      by_cases h : x.length ≤ 1000000
      · rw [if_pos h] at e
        cases e1 : atI x.cps.toList i with
        | none => rw [e1] at e; cases e
        | some c =>
          rw [e1] at e
          cases e
          exact .inl (.inr (.inr ⟨x, i, c, rfl, rfl, Nat.le_trans h million, e1, q _ _ _ .refl (.str _)⟩))
      · rw [if_neg h] at e; cases e
    | none => cases e
    | bool b => cases e
    | str b => cases e
    | dict _ _ => cases e
    | list _ _ => cases e
    | tuple _ _ => cases e
  | @list a vs xs h1 h2 =>
    cases v2 with
    | int i =>
      obtain ⟨v, e1, e2⟩ := atI_rds h2 (show atI xs i = some z from e)
      exact .inl (.inl ⟨a, vs, i, v, rfl, rfl, h1, e1, q _ _ _ .refl e2⟩)
    | none => cases e
    | bool b => cases e
    | str b => cases e
    | dict _ _ => cases e
    | list _ _ => cases e
    | tuple _ _ => cases e
  | @tuple a vs xs h1 h2 =>
    cases v2 with
    | int i =>
      obtain ⟨v, e1, e2⟩ := atI_rds h2 (show atI xs i = some z from e)
      exact .inl (.inr (.inl ⟨a, vs, i, v, rfl, rfl, h1.sq, e1, q _ _ _ .refl e2⟩))
    | none => cases e
    | bool b => cases e
    | str b => cases e
    | dict _ _ => cases e
    | list _ _ => cases e
    | tuple _ _ => cases e
  | @dict a kvs ds h1 h2 =>
    cases v2 with
    | int i =>
      obtain ⟨v, e1, e2⟩ := rdkv_look h2 (show dLook ds (.inl i) = some z from e)
      exact .inr ⟨a, v, rfl, by rw [← e1]; exact DGet.k (k := .inl i) h1, q _ _ _ .refl e2⟩
    | str i =>
      obtain ⟨v, e1, e2⟩ := rdkv_look h2 (show dLook ds (.inr i) = some z from e)
      exact .inr ⟨a, v, rfl, by rw [← e1]; exact DGet.k (k := .inr i) h1, q _ _ _ .refl e2⟩
    | none => cases e
    | bool b => cases e
    | dict _ _ => cases e
    | list _ _ => cases e
    | tuple _ _ => cases e
section
variable {K : PySem.W.Frag} {CL : CA} {G G1 : Gh} {H H1 : Hp} {s s1 : S} {σ : L2.St} {n n1 : Nat} {α β γ δ : Type} {R : Rel α β} {Wx : WX} {X : Cx}
theorem je_ix {a b : Expr} {oa ob : Opd} {pos : Pos} (hu : X.A.units + 1 < cLine) (hs : PlainIx b) (ha : JO CL X Wx a oa) (hb : JO CL X Wx b ob) : JE CL X Wx (.Subscript a b pos) (cP2 fIx oa ob) :=
  pe_imp (pe_ix (ix_A hu) ha hb hs) fun _ _ _ q => cP2_ok ok_ix q
/-! ### built-in functions of operands -/
def resolves (s : S) : List Tok → Option (List PyData)
  | [] => some []
  | t :: ts => match resolve s t with
    | some x => match resolves s ts with
      | some xs => some (x :: xs)
      | none => none
    | none => none
def cPN (f : List PyData → Option PyData) (os : List Opd) : EM W := eb (cList (os.map opd)) fun ts s => match resolves s ts with
  | some xs => match f xs with
    | some z => .ok (.d z) s
    | none => .stuck
  | none => .stuck
def OpN (K : PySem.W.Frag) (r : List V → Hp → VK → Prop) (f : List PyData → Option PyData) : Prop :=
  ∀ (F : Addr → Prop) (H : Hp) (ds : List PyData) (vs : List V) (z : PyData) (Q : VK), (∀ a, F a → ∃ o, H a = some o) → Paired (View K F H) ds vs → f ds = some z →
    (∀ F' H' v, Grow F F' H H' → RD K F' H' z v → Q v H') → r vs H Q
theorem resolves_view (S : SR K CL G s σ H) : ∀ {ts : List Tok} {vs : List V} {xs : List PyData}, rL (rTok K) G σ H ts vs → resolves s ts = some xs → Paired (View K G.F H) xs vs
  | _, _, _, .nil, e => by cases e; exact .nil
  | t :: ts, _, _, .cons r rs, e => by
    unfold resolves at e
    cases e1 : resolve s t with
    | none => simp only [e1] at e; cases e
    | some x =>
      cases e2 : resolves s ts with
      | none => simp only [e1, e2] at e; cases e
      | some xs =>
        simp only [e1, e2] at e
        cases e
        exact .cons (resolve_view S r e1) (resolves_view S rs e2)
inductive JOs (CL : CA) (X : Cx) (Wx : WX) : List Expr → List Opd → Prop
  | nil : JOs CL X Wx [] []
  | cons {e : Expr} {es : List Expr} {o : Opd} {os : List Opd} (h : JO CL X Wx e o) (hs : starEach (e :: es) X.env = (false, eval e X.env) :: starEach es X.env) (t : JOs CL X Wx es os) : JOs CL X Wx (e :: es) (o :: os)
theorem JOs.ja {es : List Expr} {os : List Opd} (h : JOs CL X Wx es os) : JA CL (rTok X.K) X Wx es (os.map opd) := by
  induction h with
  | nil => exact .nil
  | cons h hs t ih => exact .cons h hs ih
theorem cPN_ok {r : List V → Hp → VK → Prop} {f : List PyData → Option PyData} (ho : OpN K r f) {os : List Opd} {Q : VK} (q : tOf K CL (rWs K) Wx (cPN f os) σ H Q) :
    tOf K CL (rL (rTok K)) Wx (cList (os.map opd)) σ H (fun vs H1 => r vs H1 Q) := by
  refine (tOf.bind (R := rL (rTok K)) q).mono fun vs H1 ⟨G1, s1, ts, S1, r1, q⟩ => ?_
  cases e1 : resolves s1 ts with
  | none => simp only [e1] at q; exact q.elim
  | some x =>
    cases e3 : f x with
    | none => simp only [e1, e3] at q; exact q.elim
    | some z =>
      simp only [e1, e3] at q
      exact ho G1.F H1 x vs z Q S1.liveF (resolves_view S1 r1 e1) e3 (fin_grow S1 q)
theorem je_fnB {r : List V → Hp → VK → Prop} {f : List PyData → Option PyData} {x : Str} {id : String} {p pos : Pos} {e : Expr} {es : List Expr} {os : List Opd} (ho : OpN X.K r f) (hc : CallR X (.builtin id) r) (hg : Gl X x) (hm : X.mg x = none) (hv : bootBuiltins x = some (.builtin id)) (hn : x ≠ "__name__") (hdb : (x == ("__debug__" : Str)) = false)
    (h : JOs CL X Wx (e :: es) os) : JE CL X Wx (.Call (.Name x p) (e :: es) [] pos) (cPN f os) := by
  have hs : starEach (e :: es) X.env = (false, eval e X.env) :: starEach es X.env := by cases h; assumption
  have ht : (backTo pos (starEach es X.env)).any (·.1) = false := by
    cases h with
    | cons _ _ t => exact t.ja.noStar
  exact pe_imp (pe_callB hc hg hm hv (h.ja.pa lasts_Tok) hn hdb hs ht) fun _ _ _ q => cPN_ok ho q
theorem je_fnT {r : List V → Hp → VK → Prop} {f : List PyData → Option PyData} {x : Str} {id : String} {p pos : Pos} {e : Expr} {es : List Expr} {os : List Opd} (ho : OpN X.K r f) (hc : CallR X (.type id) r) (hg : Gl X x) (hm : X.mg x = none) (hv : bootBuiltins x = some (.type id)) (hn : x ≠ "__name__") (hdb : (x == ("__debug__" : Str)) = false)
    (h : JOs CL X Wx (e :: es) os) : JE CL X Wx (.Call (.Name x p) (e :: es) [] pos) (cPN f os) := by
  have hs : starEach (e :: es) X.env = (false, eval e X.env) :: starEach es X.env := by cases h; assumption
  have ht : (backTo pos (starEach es X.env)).any (·.1) = false := by
    cases h with
    | cons _ _ t => exact t.ja.noStar
  exact pe_imp (pe_callTy hc hg hm hv (h.ja.pa lasts_Tok) hn hdb hs ht) fun _ _ _ q => cPN_ok ho q
theorem je_fnI {r : List V → Hp → VK → Prop} {f : List PyData → Option PyData} {x : Str} {id : String} {p pos : Pos} {e : Expr} {es : List Expr} {os : List Opd} (ho : OpN X.K r f) (hc : CallR X (.builtin id) r) (hg : Gl X x) (hm : X.mg x = some (.builtin id)) (hdb : (x == ("__debug__" : Str)) = false)
    (h : JOs CL X Wx (e :: es) os) : JE CL X Wx (.Call (.Name x p) (e :: es) [] pos) (cPN f os) := by
  have hs : starEach (e :: es) X.env = (false, eval e X.env) :: starEach es X.env := by cases h; assumption
  have ht : (backTo pos (starEach es X.env)).any (·.1) = false := by
    cases h with
    | cons _ _ t => exact t.ja.noStar
  exact pe_imp (pe_callBfun hc hg hm (h.ja.pa lasts_Tok) hdb hs ht) fun _ _ _ q => cPN_ok ho q
end
/-- one argument -/
def f1 (g : PyData → Option PyData) : List PyData → Option PyData
  | [x] => g x
  | _ => none
theorem ok_f1 {K : PySem.W.Frag} {r : List V → Hp → VK → Prop} {g : PyData → Option PyData} (h : Op1 K (fun v H Q => r [v] H Q) g) : OpN K r (f1 g) := by
  intro F H ds vs z Q hl v e q
  cases v with
  | nil => cases e
  | cons v1 t =>
    cases t with
    | nil => exact h F H _ _ z Q hl v1 e q
    | cons _ _ => cases e
def f2 (g : PyData → PyData → Option PyData) : List PyData → Option PyData
  | [x, y] => g x y
  | _ => none
theorem ok_f2 {K : PySem.W.Frag} {r : List V → Hp → VK → Prop} {g : PyData → PyData → Option PyData} (h : Op2 K (fun v u H Q => r [v, u] H Q) g) : OpN K r (f2 g) := by
  intro F H ds vs z Q hl v e q
  cases v with
  | nil => cases e
  | cons v1 t =>
    cases t with
    | nil => cases e
    | cons v2 t =>
      cases t with
      | nil => exact h F H _ _ _ _ z Q hl v1 v2 e q
      | cons _ _ => cases e
def fLen : PyData → Option PyData
  | .str x => if x.length ≤ 1000000 then some (.int x.length) else none
  | .list xs => some (.int xs.length)
  | .tuple xs => some (.int xs.length)
  | _ => none
theorem ok_len {K : PySem.W.Frag} : OpN K (fun xs H Q => ∃ x n, xs = [x] ∧ LenV K x H n ∧ Q (.int n) H) (f1 fLen) := ok_f1 fun F H dx vx z Q hl v1 e q => by
  cases v1 with
  | none => cases e
  | bool b => cases e
  | int b => cases e
  | dict _ _ => cases e
  | str x =>
    have e : (if x.length ≤ 1000000 then some (PyData.int x.length) else Option.none) = some z := e
    by_cases h : x.length ≤ 1000000
    · rw [if_pos h] at e
      cases e
      exact ⟨_, _, rfl, ⟨Nat.le_trans h million, rfl⟩, q _ _ _ .refl (.int _)⟩
    · rw [if_neg h] at e; cases e
  | list h1 h2 => cases e; exact ⟨_, _, rfl, .inl ⟨_, h1, h2.length.symm⟩, q _ _ _ .refl (.int _)⟩
  | tuple h1 h2 => cases e; exact ⟨_, _, rfl, .inr ⟨_, h1.sq, h2.length.symm⟩, q _ _ _ .refl (.int _)⟩
def fAbs : PyData → Option PyData
  | .int i => some (.int (if i < 0 then -i else i))
  | _ => none
theorem ok_abs {K : PySem.W.Frag} : OpN K (fun xs H Q => ∃ i, xs = [.int i] ∧ Q (.int (if i < 0 then -i else i)) H) (f1 fAbs) := ok_f1 fun F H dx vx z Q hl v1 e q => by
  cases v1 with
  | int b => cases e; exact ⟨b, rfl, q _ _ _ .refl (.int _)⟩
  | none => cases e
  | bool b => cases e
  | str b => cases e
  | dict _ _ => cases e
  | list _ _ => cases e
  | tuple _ _ => cases e
def fInt : PyData → Option PyData
  | .int i => some (.int i)
  | .bool k => some (.int (if k then 1 else 0))
  | _ => none
theorem ok_int {K : PySem.W.Frag} : OpN K (fun xs H Q => (∃ i, xs = [.int i] ∧ Q (.int i) H) ∨ ∃ k, xs = [.bl k] ∧ Q (.int (if k then 1 else 0)) H) (f1 fInt) := ok_f1 fun F H dx vx z Q hl v1 e q => by
  cases v1 with
  | int b => cases e; exact .inl ⟨b, rfl, q _ _ _ .refl (.int _)⟩
  | bool b => cases e; exact .inr ⟨b, rfl, q _ _ _ .refl (.int _)⟩
  | none => cases e
  | str b => cases e
  | dict _ _ => cases e
  | list _ _ => cases e
  | tuple _ _ => cases e
def fGcd : PyData → PyData → Option PyData := fI fun a b => some (.int ((Nat.gcd a.natAbs b.natAbs : Nat) : Int))
theorem ok_gcd {K : PySem.W.Frag} : OpN K rGcd (f2 fGcd) := ok_f2 (ok_fI fun i j z H Q e q => by
  cases e
  exact ⟨i, j, rfl, q _ fun _ _ => .int _⟩)
def fTupleOf : PyData → Option PyData
  | .list xs => some (.tuple xs)
  | .tuple xs => some (.tuple xs)
  | _ => none
theorem ok_tupleOf {K : PySem.W.Frag} : OpN K (fun xs H Q => ∃ p ys, xs = [.ref p] ∧ ((SqL K H p ys ∧ ∀ l, H l = none → Q (.ref l) (upd H l (.tup ys))) ∨ (SqT K H p ys ∧ Q (.ref p) H))) (f1 fTupleOf) := ok_f1 fun F H dx vx z Q hl v1 e q => by
  cases v1 with
  | list h1 h2 =>
    cases e
    refine ⟨_, _, rfl, .inl ⟨h1, fun l hp => ?_⟩⟩
    exact q _ _ _ (Grow.one hp) (.tuple (.inl ⟨.inr rfl, .inl upd_same⟩) (h2.mono fun a f => (Grow.one hp).keep hl a f))
  | tuple h1 h2 => cases e; exact ⟨_, _, rfl, .inr ⟨h1.sq, q _ _ _ .refl (.tuple h1 h2)⟩⟩
  | none => cases e
  | bool b => cases e
  | int b => cases e
  | str b => cases e
  | dict _ _ => cases e
def allB : List PyData → Option (List Bool)
  | [] => some []
  | .bool b :: r => match allB r with
    | some bs => some (b :: bs)
    | none => none
  | _ => none
theorem allB_ok {K : PySem.W.Frag} {F : Addr → Prop} {H : Hp} : ∀ {ds : List PyData} {vs : List V} {bs : List Bool}, RDs K F H ds vs → allB ds = some bs → vs = bs.map V.bl
  | _, _, _, .nil, e => by cases e; rfl
  | _, _, bs, .cons (d := d) (ds := ds) h1 h2, e => by
    cases h1 with
    | bool b =>
      unfold allB at e
      cases e2 : allB ds with
      | none => simp only [e2] at e; cases e
      | some bs' =>
        simp only [e2] at e
        cases e
        rw [allB_ok h2 e2]
        rfl
    | none => cases e
    | int b => cases e
    | str b => cases e
    | dict _ _ => cases e
    | list _ _ => cases e
    | tuple _ _ => cases e
def fAll : PyData → Option PyData
  | .list xs => (allB xs).map fun bs => .bool (bs.all id)
  | _ => none
def fAny : PyData → Option PyData
  | .list xs => (allB xs).map fun bs => .bool (bs.any id)
  | _ => none
theorem ok_all {K : PySem.W.Frag} : OpN K (rAll K) (f1 fAll) := ok_f1 fun F H dx vx z Q hl v1 e q => by
  cases v1 with
  | @list a vs xs h1 h2 =>
    have e : (allB xs).map (fun bs => PyData.bool (bs.all id)) = some z := e
    cases e1 : allB xs with
    | none => rw [e1] at e; cases e
    | some bs =>
      rw [e1] at e
      cases e
      exact ⟨a, bs, rfl, by rw [← allB_ok h2 e1]; exact h1, q _ _ _ .refl (.bool _)⟩
  | tuple h1 h2 => cases e
  | none => cases e
  | bool b => cases e
  | int b => cases e
  | str b => cases e
  | dict _ _ => cases e
theorem ok_any {K : PySem.W.Frag} : OpN K (rAny K) (f1 fAny) := ok_f1 fun F H dx vx z Q hl v1 e q => by
  cases v1 with
  | @list a vs xs h1 h2 =>
    have e : (allB xs).map (fun bs => PyData.bool (bs.any id)) = some z := e
    cases e1 : allB xs with
    | none => rw [e1] at e; cases e
    | some bs =>
      rw [e1] at e
      cases e
      exact ⟨a, bs, rfl, by rw [← allB_ok h2 e1]; exact h1, q _ _ _ .refl (.bool _)⟩
  | tuple h1 h2 => cases e
  | none => cases e
  | bool b => cases e
  | int b => cases e
  | str b => cases e
  | dict _ _ => cases e
/-! ### isinstance with a built-in class -/
inductive Ty where
  | int | bool | str | tuple | list | dict
  deriving DecidableEq
def Ty.name : Ty → String
  | .int => "int" | .bool => "bool" | .str => "str" | .tuple => "tuple" | .list => "list" | .dict => "dict"
def isT : Ty → PyData → Bool
  | .int, .int _ => true | .int, .bool _ => true | .bool, .bool _ => true | .str, .str _ => true
  | .tuple, .tuple _ => true | .list, .list _ => true | .dict, .dict _ => true
  | _, _ => false
def tyN : PyData → String
  | .none => "NoneType" | .bool _ => "bool" | .int _ => "int" | .str _ => "str" | .list _ => "list" | .tuple _ => "tuple" | .dict _ => "dict"
def isTN (T : Ty) (n : String) : Bool := match T with
  | .int => n == "int" || n == "bool"
  | T => n == T.name
theorem isT_isTN (T : Ty) (d : PyData) : isT T d = isTN T (tyN d) := by
  cases T <;> cases d <;> first | rfl | decide
theorem kit_all (T : Ty) (d : PyData) : kitB (tyN d) T.name = some (isT T d) := by
  rw [isT_isTN]
  cases T <;> cases d <;> (show kitB _ _ = some (MP.isTN _ _); simp only [tyN, Ty.name]; decide +kernel)
theorem view_ty {K : PySem.W.Frag} {F : Addr → Prop} {H : Hp} {d : PyData} {v : V} (h : View K F H d v) : TyX K H v (.type (tyN d)) := by
  cases h with
  | none => exact .base .non
  | bool b => exact .base (.bl b)
  | int b => exact .base (.int b)
  | str b => exact .base (.str b)
  | list h1 h2 =>
    rcases h1 with (h | ⟨o, h⟩) | ⟨o, its, n, h1, h2, h3⟩
    · exact .base (.lst h)
    · exact .base (.frz h)
    · exact .kList h1 h2
  | tuple h1 h2 =>
    rcases h1 with ⟨f, h | ⟨o, h⟩⟩ | ⟨o, its, n, h1, h2, h3⟩
    · exact .base (.tup h)
    · exact .fTuple h
    · exact .kTuple h1 h2
  | dict h1 h2 => exact .base (.dK h1)
def fIsi (T : Ty) (d : PyData) : Option PyData := some (.bool (isT T d))
theorem je_isi {CL : CA} {Wx : WX} {X : Cx} {T : Ty} {x tn : Str} {p p2 pos : Pos} {e : Expr} {o : Opd} (hg : Gl X x) (hm : X.mg x = none) (hv : bootBuiltins x = some (.builtin "isinstance")) (hn : x ≠ "__name__") (hdb : (x == ("__debug__" : Str)) = false)
    (tg : Gl X tn) (tm : X.mg tn = none) (tv : bootBuiltins tn = some (.type T.name)) (tnn : tn ≠ "__name__") (tdb : (tn == ("__debug__" : Str)) = false) (h : JO CL X Wx e o) (hs : starEach (e :: [.Name tn p2]) X.env = (false, eval e X.env) :: starEach [.Name tn p2] X.env) :
    JE CL X Wx (.Call (.Name x p) (e :: [.Name tn p2]) [] pos) (cP1 (fIsi T) o) :=
  pe_imp (pe_callB call_isi hg hm hv (pa_cons h (pa_cons (pe_bltn (v := .ty T.name) tg tm tv rfl tnn tdb) pa_nil) hs) hn hdb hs) fun σ H Q q => by
    refine (cP1_ok (r := fun v H Q => rIsi X.K [v, .ty T.name] H Q) ?_ q).mono fun v H1 q => q
    intro F H dx vx z Q hl v1 e q
    cases e
    exact ⟨vx, .ty T.name, _, _, isT T dx, rfl, .ty _, view_ty v1, kit_ty (kit_all T dx), q _ _ _ .refl (.bool _)⟩
end MP
/-! Part I: statements. -/
namespace MP
open PySem PySem.Spec PyProof.Rows L2
inductive Fl where
  | next | brk | cont
  | ret (w : W)
def PostS (K : PySem.W.Frag) (CL : CA) (Wx : WX) (D : Ends) (G : Gh) (n : Nat) (H : Hp) (r : Res Fl) : Prop :=
  match r with
  | .ok .next s' => ∀ G' σ' H', Fut G H n G' H' s'.mem.length → SR K CL G' s' σ' H' → D.nx σ' H'
  | .ok .brk s' => ∀ G' σ' H', Fut G H n G' H' s'.mem.length → SR K CL G' s' σ' H' → D.bk σ' H'
  | .ok .cont s' => ∀ G' σ' H', Fut G H n G' H' s'.mem.length → SR K CL G' s' σ' H' → D.ct σ' H'
  | .ok (.ret w) s' => ∀ G' σ' v H', Fut G H n G' H' s'.mem.length → SR K CL G' s' σ' H' → RW K G' H' w v → D.rt v H'
  | .raise x s' => ∀ G' σ' H' cls d, Fut G H n G' H' s'.mem.length → SR K CL G' s' σ' H' → RX CL x cls d → Wx cls d σ' H'
  | .stuck => False
def tsOf (K : PySem.W.Frag) (CL : CA) (Wx : WX) (m : EM Fl) : TS := fun D σ H => ∃ G s, SR K CL G s σ H ∧ PostS K CL Wx D G s.mem.length H (m s)
section
variable {K : PySem.W.Frag} {CL : CA} {G G1 G' : Gh} {H H1 H' : Hp} {s s1 : S} {σ : L2.St} {n n1 n' : Nat} {α β γ δ : Type} {R : Rel α β} {Wx : WX} {X : Cx} {p : Addr} {D D' : Ends}
theorem PostS.later {r : Res Fl} (f : Fut G H n G1 H1 n1) (h : PostS K CL Wx D G n H r) : PostS K CL Wx D G1 n1 H1 r := by
  cases r with
  | ok a s' =>
    cases a with
    | next => exact fun G' σ' H' f' S' => h G' σ' H' (f.trans f') S'
    | brk => exact fun G' σ' H' f' S' => h G' σ' H' (f.trans f') S'
    | cont => exact fun G' σ' H' f' S' => h G' σ' H' (f.trans f') S'
    | ret w => exact fun G' σ' v H' f' S' r => h G' σ' v H' (f.trans f') S' r
  | raise x s' => exact fun G' σ' H' cls d f' S' r => h G' σ' H' cls d (f.trans f') S' r
  | stuck => exact h
/-- an expression, then the rest of a statement -/
theorem PostS.bind {m : EM α} {f : α → EM Fl} (h : PostS K CL Wx D G n H (eb m f s)) (S0 : ∀ G' H', Fut G H n G' H' n' → True) :
    Post K CL R Wx G n σ H (m s) (fun b H1 => ∃ G1 s1 a, Fut G H n G1 H1 s1.mem.length ∧ SR K CL G1 s1 σ H1 ∧ R G1 σ H1 a b ∧ PostS K CL Wx D G1 s1.mem.length H1 (f a s1)) := by
  unfold eb rb at h
  cases e : m s with
  | ok a s' =>
    rw [e] at h
    exact fun G' H' b f' S' r' => ⟨G', s', a, f', S', r', PostS.later f' h⟩
  | raise x s' =>
    rw [e] at h
    exact fun G' H' cls d f' S' r' => h G' σ H' cls d f' S' r'
  | stuck =>
    rw [e] at h
    exact h
theorem tsOf.bind {m : EM α} {f : α → EM Fl} (h : tsOf K CL Wx (eb m f) D σ H) :
    tOf K CL R Wx m σ H (fun b H1 => ∃ G1 s1 a, SR K CL G1 s1 σ H1 ∧ R G1 σ H1 a b ∧ PostS K CL Wx D G1 s1.mem.length H1 (f a s1)) := by
  obtain ⟨G, s, S, h⟩ := h
  refine ⟨G, s, S, ?_⟩
  have h2 := PostS.bind (R := R) (σ := σ) (n' := 0) h fun _ _ _ => trivial
  exact h2.mono fun b H1 ⟨G1, s1, a, k1, k2, k3, k4⟩ => ⟨G1, s1, a, k2, k3, k4⟩
abbrev JS (CL : CA) (X : Cx) (Wx : WX) (st : Stmt) (m : EM Fl) : Prop := PS X st (tsOf X.K CL Wx m)
abbrev JB (CL : CA) (X : Cx) (Wx : WX) (st : List Stmt) (m : EM Fl) : Prop := PSs X st (tsOf X.K CL Wx m)
def sSeq (a b : EM Fl) : EM Fl := eb a fun f => match f with
  | .next => b
  | f => er f
theorem PostS.seq {a b : EM Fl} (h : PostS K CL Wx D G n H (sSeq a b s)) : PostS K CL Wx { D with nx := tsOf K CL Wx b D } G n H (a s) := by
  unfold sSeq eb rb at h
  cases e : a s with
  | stuck => rw [e] at h; exact h
  | raise x s' => rw [e] at h; exact h
  | ok f s' =>
    rw [e] at h
    cases f with
    | next => exact fun G' σ' H' f' S' => ⟨G', s', S', PostS.later f' h⟩
    | brk => exact h
    | cont => exact h
    | ret w => exact h
theorem jb_nil : JB CL X Wx [] (er .next) := pss_imp pss_nil fun D σ H q => by
  obtain ⟨G, s, S, q⟩ := q
  exact q G σ H Fut.refl S
theorem jb_cons {st : Stmt} {rest : List Stmt} {a b : EM Fl} (h : JS CL X Wx st a) (t : JB CL X Wx rest b) : JB CL X Wx (st :: rest) (sSeq a b) := pss_imp (pss_cons h t) fun D σ H q => by
  obtain ⟨G, s, S, q⟩ := q
  exact ⟨G, s, S, PostS.seq q⟩
theorem jb_one {st : Stmt} {a : EM Fl} (h : JS CL X Wx st a) : JB CL X Wx [st] a := pss_one h
/-! simple statements -/
theorem js_pass {pos : Pos} : JS CL X Wx (.Pass pos) (er .next) := ps_imp ps_pass fun D σ H q => by
  obtain ⟨G, s, S, q⟩ := q
  exact q G σ H Fut.refl S
theorem js_break {pos : Pos} : JS CL X Wx (.Break pos) (er .brk) := ps_imp ps_break fun D σ H q => by
  obtain ⟨G, s, S, q⟩ := q
  exact q G σ H Fut.refl S
theorem js_continue {pos : Pos} : JS CL X Wx (.Continue pos) (er .cont) := ps_imp ps_continue fun D σ H q => by
  obtain ⟨G, s, S, q⟩ := q
  exact q G σ H Fut.refl S
theorem js_doc {x : Str} {j : Nat} {pos pos' : Pos} : JS CL X Wx (.Expr (.Constant (.str x) j pos) pos') (er .next) := ps_imp ps_doc fun D σ H q => by
  obtain ⟨G, s, S, q⟩ := q
  exact q G σ H Fut.refl S
def sExpr (m : EM W) : EM Fl := eb m fun _ => er .next
theorem js_expr {e : Expr} {m : EM W} {pos : Pos} (h : JE CL X Wx e m) (hs : swapsWith e none pos.line X.env = pure false) : JS CL X Wx (.Expr e pos) (sExpr m) := ps_imp (ps_expr h hs) fun D σ H q => by
  refine (tsOf.bind (R := rWs X.K) q).mono fun v H1 ⟨G1, s1, w, S1, r, q⟩ => ?_
  exact q G1 σ H1 Fut.refl S1
def sRet (m : EM W) : EM Fl := eb m fun w => er (.ret w)
theorem js_ret {e : Expr} {m : EM W} {pos : Pos} (h : JE CL X Wx e m) : JS CL X Wx (.Return (some e) pos) (sRet m) := ps_imp (ps_ret h) fun D σ H q => by
  refine (tsOf.bind (R := rWs X.K) q).mono fun v H1 ⟨G1, s1, w, S1, r, q⟩ => ?_
  exact q G1 σ v H1 Fut.refl S1 r
theorem js_retN {pos : Pos} : JS CL X Wx (.Return none pos) (er (.ret (.d .none))) := ps_imp ps_retN fun D σ H q => by
  obtain ⟨G, s, S, q⟩ := q
  exact q G σ _ H Fut.refl S RD.none
def sIf (c : EM Bool) (a b : EM Fl) : EM Fl := eb c fun k => if k = true then a else b
theorem js_if {c : Expr} {as bs : List Stmt} {mc : EM Bool} {a b : EM Fl} {pos : Pos} (hc : JT CL X Wx c mc) (ha : JB CL X Wx as a) (hb : JB CL X Wx bs b) : JS CL X Wx (.If c as bs pos) (sIf mc a b) := ps_imp (ps_if hc ha hb) fun D σ H q => by
  refine (tsOf.bind (R := rBs) q).mono fun v H1 ⟨G1, s1, w, S1, r, q⟩ => ?_
  subst r
  cases w with
  | true => exact ⟨G1, s1, S1, q⟩
  | false => exact ⟨G1, s1, S1, q⟩
/-! stores -/
def setS (i : Nat) (w : W) : EM Unit := fun s => if i < s.rho.length then .ok () { s with rho := s.rho.set i (some w) } else .stuck
def sSet (i : Nat) (m : EM W) : EM Fl := eb m fun w => eb (setS i w) fun _ => er .next
theorem setS_ok {i : Nat} {w : W} {v : V} {k : EM Fl} (S : SR K CL G s σ H) (r : RW K G H w v) (q : PostS K CL Wx D G s.mem.length H (eb (setS i w) (fun _ => k) s)) :
    ∃ G' s', SR K CL G' s' (σ.set i (some v)) H ∧ s'.mem = s.mem ∧ G'.F = G.F ∧ PostS K CL Wx D G' s'.mem.length H (k s') := by
  unfold eb rb setS at q
  by_cases hi : i < s.rho.length
  · rw [if_pos hi] at q
    obtain ⟨S', f⟩ := S.set (i := i) r (by rw [← S.len]; exact hi)
    exact ⟨_, _, S', rfl, rfl, PostS.later (f (n := s.mem.length)) q⟩
  · rw [if_neg hi] at q
    exact q.elim
theorem js_set {i : Nat} {x : Str} {e : Expr} {m : EM W} {pos pos' : Pos} (hN : X.N.Nodup) (hi : X.N[i]? = some x) (hx : Loc X.env.scope x) (h : JE CL X Wx e m) (hs : swapsWith e (some (.Name x pos')) pos.line X.env = pure false) (hf : X.fn x = true ∨ X.env.scope.names.lookup x = some .local) :
    JS CL X Wx (.Assign [.Name x pos'] e pos) (sSet i m) := ps_imp (ps_set hN hi hx h hs hf) fun D σ H q => by
  refine (tsOf.bind (R := rWs X.K) q).mono fun v H1 ⟨G1, s1, w, S1, r, q⟩ => ?_
  obtain ⟨G', s', S', em, eF, q'⟩ := setS_ok S1 r q
  exact q' G' _ H1 Fut.refl S'
/-- a new thing gets its place -/
def setN (i : Nat) (c : Ob) : EM Unit := fun s => if i < s.rho.length then .ok () { s with rho := s.rho.set i (some (.own c)) } else .stuck
def sSetN (i : Nat) (m : EM Ob) : EM Fl := eb m fun c => eb (setN i c) fun _ => er .next
theorem js_setN {i : Nat} {x : Str} {e : Expr} {m : EM Ob} {pos pos' : Pos} (hN : X.N.Nodup) (hi : X.N[i]? = some x) (hx : Loc X.env.scope x) (h : JN CL X Wx e m) (hs : swapsWith e (some (.Name x pos')) pos.line X.env = pure false) (hf : X.fn x = true ∨ X.env.scope.names.lookup x = some .local) :
    JS CL X Wx (.Assign [.Name x pos'] e pos) (sSetN i m) := ps_imp (ps_set hN hi hx h hs hf) fun D σ H q => by
  obtain ⟨G, s, S, q⟩ := q
  refine ⟨G, s, S, ?_⟩
  unfold sSetN eb rb at q
  cases e1 : m s with
  | stuck => rw [e1] at q; exact q.elim
  | raise x s' => rw [e1] at q; exact fun G' H' cls d f' S' r' => q G' σ H' cls d f' S' r'
  | ok c s' =>
    rw [e1] at q
    intro G' H' v f S' r
    obtain ⟨p, rfl, ho, hf', hn, h0⟩ := r
    simp only [eb, rb, setN] at q
    by_cases hi' : i < s'.rho.length
    · rw [if_pos hi'] at q
      exact q _ _ _ (f.new_slot h0) (S'.setOwn ho hf' hn (by rw [← S'.len]; exact hi'))
    · rw [if_neg hi'] at q
      exact q.elim
/-- name op= e -/
def sAug (i : Nat) (f : PyData → PyData → Option PyData) (b : Opd) : EM Fl := eb (cP2 f (.var i) b) fun w => eb (setS i w) fun _ => er .next
theorem js_aug {i : Nat} {x : Str} {e : Expr} {o : Opd} {op : Operator} {r : R2} {f : PyData → PyData → Option PyData} {pos pos' : Pos} (hN : X.N.Nodup) (hi : X.N[i]? = some x) (hx : Loc X.env.scope x) (h : JO CL X Wx e o) (hr : OpR X (inplaceOp op) r) (ho : Op2 X.K r f) (hf : X.fn x = true ∨ X.env.scope.names.lookup x = some .local) :
    JS CL X Wx (.AugAssign (.Name x pos') op e pos) (sAug i f o) := ps_imp (ps_aug hN hi hx h hr hf) fun D σ H q => by
  have q := tsOf.bind (R := rWs X.K) q
  have q := cP2_ok (Q := fun z H2 => D.nx (σ.set i (some z)) H2) ho (q.mono fun v H1 ⟨G1, s1, w, S1, r, q⟩ => by
    obtain ⟨G', s', S', em, eF, q'⟩ := setS_ok S1 r q
    exact q' G' _ H1 Fut.refl S')
  obtain ⟨G, s, S, q⟩ := q
  unfold opd at q
  cases e1 : s.rho[i]? with
  | none => simp only [e1] at q; exact q.elim
  | some o =>
    cases o with
    | none => simp only [e1] at q; exact q.elim
    | some w =>
      simp only [e1] at q
      obtain ⟨v, hv, hr⟩ := S.slots i w e1
      exact ⟨v, hv, Post.here (R := rTok X.K) (a := Tok.slot i) S hv q⟩
/-- a, b, .. = e -/
def setAll : List Nat → List PyData → EM Unit
  | [], [] => er ()
  | i :: is, x :: xs => eb (setS i (.d x)) fun _ => setAll is xs
  | _, _ => es
def sTup (is : List Nat) (m : EM W) : EM Fl := eb (evD m) fun d => match d with
  | .tuple xs => eb (setAll is xs) fun _ => er .next
  | _ => es
/-- names in a row as targets -/
inductive JTg (X : Cx) : List Expr → List Nat → Prop
  | nil : JTg X [] []
  | cons {i : Nat} {x : Str} {pos : Pos} {es : List Expr} {is : List Nat} (hi : X.N[i]? = some x) (hx : Loc X.env.scope x) (hf : X.fn x = true ∨ X.env.scope.names.lookup x = some .local) (t : JTg X es is) : JTg X (.Name x pos :: es) (i :: is)
def gNames : List Nat → TGs
  | [] => gNil
  | i :: is => gCons (gName i) (gNames is)
theorem JTg.pgs (hN : X.N.Nodup) : ∀ {es : List Expr} {is : List Nat}, JTg X es is → PGs X es (gNames is)
  | _, _, .nil => pgs_nil
  | _, _, .cons hi hx hf t => pgs_cons (pg_name hN hi hx hf) (t.pgs hN)
theorem JTg.len : ∀ {es : List Expr} {is : List Nat}, JTg X es is → (assignEach es X.env).length = is.length ∧ (assignEach es X.env).findIdx? (·.1) = none
  | _, _, .nil => ⟨rfl, rfl⟩
  | _, _, .cons (x := x) (pos := pos) (es := es) hi hx hf t => by
    have h : assignEach (.Name x pos :: es) X.env = (false, assign (.Name x pos) X.env) :: assignEach es X.env := rfl
    rw [h]
    refine ⟨by rw [List.length_cons, List.length_cons, t.len.1], ?_⟩
    rw [List.findIdx?_cons]
    simp [t.len.2]
theorem setAll_ok {k : EM Fl} : ∀ {is : List Nat} {xs : List PyData} {vs : List V} {G : Gh} {s : S} {σ : L2.St}, SR K CL G s σ H → RDs K G.F H xs vs → PostS K CL Wx D G s.mem.length H (eb (setAll is xs) (fun _ => k) s) →
    gNames is vs σ H (fun σ' H' => ∃ G' s', SR K CL G' s' σ' H' ∧ s'.mem = s.mem ∧ PostS K CL Wx D G' s'.mem.length H' (k s')) := by
  intro is
  induction is with
  | nil =>
    intro xs vs G s σ S r q
    cases r with
    | nil => exact ⟨rfl, G, s, S, rfl, q⟩
    | cons _ _ => exact q.elim
  | cons i is ih =>
    intro xs vs G s σ S r q
    cases r with
    | nil => exact q.elim
    | @cons d ds v vs r rs =>
      refine ⟨v, vs, rfl, ?_⟩
      unfold setAll at q
      have e : eb (eb (setS i (.d d)) fun _ => setAll is ds) (fun _ => k) s = eb (setS i (.d d)) (fun _ => eb (setAll is ds) fun _ => k) s := by
        unfold eb rb
        cases setS i (.d d) s <;> rfl
      rw [e] at q
      obtain ⟨G', s', S', em, eF, q'⟩ := setS_ok S (w := .d d) r q
      have r' : RDs K G'.F H ds vs := by rw [eF]; exact rs
      have h := ih S' r' q'
      rw [em] at h
      exact h
theorem js_tup {es : List Expr} {is : List Nat} {k : Nat} {e : Expr} {m : EM W} {pos pos' : Pos} (hN : X.N.Nodup) (hc : X.calm = true) (ht : JTg X es is) (h : JE CL X Wx e m) (hs : swapsWithSole [.Tuple es k pos'] e pos.line X.env = pure false) (hw : swappedStores [.Tuple es k pos'] e X.env = pure none) :
    JS CL X Wx (.Assign [.Tuple es k pos'] e pos) (sTup is m) :=
  ps_imp (ps_asg (jd_of h) (pg_tup (n := is.length) hc (ht.pgs hN) ht.len.1 ht.len.2) hs hw rfl) fun D σ H q => by
    refine (tsOf.bind (R := rDs X.K) q).mono fun v H1 ⟨G1, s1, d, S1, r, q⟩ => ?_
    cases d with
    | none => exact q.elim
    | bool _ => exact q.elim
    | int _ => exact q.elim
    | str _ => exact q.elim
    | list _ => exact q.elim
    | dict _ => exact q.elim
    | tuple xs =>
      have r : RD X.K G1.F H1 (.tuple xs) v := r
      cases r with
      | @tuple a vs _ h1 h2 =>
        have hl : vs.length = is.length := by
          have ln : ∀ (is : List Nat) (xs : List PyData) (s : S) (G : Gh), PostS X.K CL Wx D G s.mem.length H1 (eb (setAll is xs) (fun _ => er .next) s) → xs.length = is.length := by
            intro is
            induction is with
            | nil =>
              intro xs s G q
              cases xs with
              | nil => rfl
              | cons _ _ => exact q.elim
            | cons i is ih =>
              intro xs s G q
              cases xs with
              | nil => exact q.elim
              | cons x xs =>
                unfold setAll eb rb setS at q
                by_cases hi : i < s.rho.length
                · rw [if_pos hi] at q
                  rw [List.length_cons, List.length_cons, ih xs { s with rho := s.rho.set i (some (.d x)) } G q]
                · rw [if_neg hi] at q
                  exact q.elim
          rw [h2.length, ln is xs s1 G1 q]
        refine ⟨a, vs, rfl, h1.sq, hl, ?_⟩
        have z := setAll_ok S1 h2 q
        have mono : ∀ (is : List Nat) (vs : List V) (σ : L2.St) (Q Q' : L2.St → Hp → Prop), (∀ σ H, Q σ H → Q' σ H) → gNames is vs σ H1 Q → gNames is vs σ H1 Q' := by
          intro is
          induction is with
          | nil => exact fun vs σ Q Q' i h => ⟨h.1, i _ _ h.2⟩
          | cons j is ih =>
            intro vs σ Q Q' i h
            obtain ⟨v, r, e, h⟩ := h
            exact ⟨v, r, e, ih r _ Q Q' i h⟩
        exact mono is vs σ _ _ (fun σ' H' ⟨G', s', S', em, q'⟩ => q' G' σ' H' Fut.refl S') z

/-! ### things that change -/
/-- what stands in slot i's thing, and another content for it -/
def modSlot {α : Type} (i : Nat) (g : Ob → Option (Ob × α)) : EM α := fun s => match s.rho[i]? with
  | some (some (.own c)) => match g c with
    | some (c', a) => .ok a { s with rho := s.rho.set i (some (.own c')) }
    | none => .stuck
  | some (some (.ref b)) => match s.mem[b]? with
    | some (.ctr c) => match g c with
      | some (c', a) => .ok a { s with mem := s.mem.set b (.ctr c') }
      | none => .stuck
    | _ => .stuck
  | _ => .stuck
/-- the slot holds a list of its own or in a box -/
def isLst (i : Nat) (s : S) : Bool := match s.rho[i]? with
  | some (some (.own (.lst _))) => true
  | some (some (.ref b)) => match s.mem[b]? with
    | some (.ctr (.lst _)) => true
    | _ => false
  | _ => false
theorem isLst_ok {i : Nat} {v : V} (S : SR K CL G s σ H) (hv : σ[i]? = some (some v)) (h : isLst i s = true) : ∃ p vs, v = .ref p ∧ H p = some (.lst vs) := by
  unfold isLst at h
  cases e : s.rho[i]? with
  | none => simp [e] at h
  | some o =>
    cases o with
    | none => simp [e] at h
    | some w =>
      obtain ⟨v', hv', hr⟩ := S.slots i w e
      rw [hv] at hv'
      cases hv'
      cases w with
      | exn c => simp [e] at h
      | d y => simp [e] at h
      | own c =>
        cases c with
        | dic _ => simp [e] at h
        | lst xs =>
          obtain ⟨p, rfl, _, vs, h1, h2⟩ := hr
          exact ⟨p, vs, rfl, h1⟩
      | ref b =>
        obtain ⟨p, rfl, ha⟩ := hr
        cases e2 : s.mem[b]? with
        | none => simp [e, e2] at h
        | some bx =>
          cases bx with
          | inst c f => simp [e, e2] at h
          | ctr c =>
            cases c with
            | dic _ => simp [e, e2] at h
            | lst xs =>
              obtain ⟨p', ha', vs, h1, h2⟩ := S.boxes b _ e2
              rw [ha] at ha'
              cases ha'
              exact ⟨p, vs, rfl, h1⟩
/-- the rule of such a change: what is found, and what must be shown of the new content -/
theorem modSlot_ok {α : Type} {i : Nat} {g : Ob → Option (Ob × α)} {v : V} (S : SR K CL G s σ H) (hv : σ[i]? = some (some v)) : modSlot i g s = .stuck ∨
    ∃ p c c' a s', v = .ref p ∧ (∀ o a, G.F a → G.F a ∧ upd H p o a = H a) ∧ RO K G.F H c p ∧ g c = some (c', a) ∧ modSlot i g s = .ok a s' ∧ s'.mem.length = s.mem.length ∧
      ∀ o, RO K G.F (upd H p o) c' p → SR K CL G s' σ (upd H p o) ∧ Fut G H s.mem.length G (upd H p o) s'.mem.length := by
  unfold modSlot
  cases e : s.rho[i]? with
  | none => exact .inl rfl
  | some o =>
    cases o with
    | none => exact .inl rfl
    | some w =>
      obtain ⟨v', hv', hr⟩ := S.slots i w e
      rw [hv] at hv'
      cases hv'
      cases w with
      | exn c => exact .inl rfl
      | d y => exact .inl rfl
      | own c =>
        obtain ⟨p, rfl, ha, ho⟩ := hr
        cases e2 : g c with
        | none => simp only [e2]; exact .inl trivial
        | some ca =>
          obtain ⟨c', a⟩ := ca
          simp only [e2]
          exact .inr ⟨p, c, c', a, _, rfl, fun o a f => ⟨f, upd_ne fun z => by subst z; exact (S.fz _ f).2 _ ha⟩, ho, e2, rfl, rfl, fun o h => S.writeSlot e hv h⟩
      | ref b =>
        obtain ⟨p, rfl, ha⟩ := hr
        cases e1 : s.mem[b]? with
        | none => simp only [e1]; exact .inl trivial
        | some bx =>
          cases bx with
          | inst _ _ => simp only [e1]; exact .inl trivial
          | ctr c =>
            obtain ⟨p', ha', hb⟩ := S.boxes b _ e1
            rw [ha] at ha'
            cases ha'
            cases e2 : g c with
            | none => simp only [e1, e2]; exact .inl trivial
            | some ca =>
              obtain ⟨c', a⟩ := ca
              simp only [e1, e2]
              exact .inr ⟨p, c, c', a, _, rfl, fun o a f => ⟨f, upd_ne fun z => by subst z; exact (S.fz _ f).2 _ ha⟩, hb, e2, rfl, by simp, fun o h => by
                have z := S.writeBox (n := s.mem.length) e1 ha h
                exact ⟨z.1, by simpa using z.2⟩⟩
end
end MP
/-! Part J: lists and dicts change. -/
namespace MP
open PySem PySem.Spec PyProof.Rows L2
section
variable {K : PySem.W.Frag} {CL : CA} {G G1 G' : Gh} {H H1 H' : Hp} {s s1 : S} {σ : L2.St} {n n1 n' : Nat} {α β γ δ : Type} {R : Rel α β} {Wx : WX} {X : Cx} {p : Addr} {D D' : Ends}
/-- an expression, then the rest of one, from a state that is known -/
theorem tOf_at {m : EM α} {Q : β → Hp → Prop} (S : SR K CL G s σ H) (h : Post K CL R Wx G s.mem.length σ H (m s) Q) : tOf K CL R Wx m σ H Q := ⟨G, s, S, h⟩
/-! xs.append(e) -/
def gApp (x : PyData) : Ob → Option (Ob × W)
  | .lst xs => if xs.length < 1000000 then some (.lst (xs ++ [x]), .d .none) else none
  | _ => none
def cApp (i : Nat) (m : EM W) : EM W := fun s => if isLst i s = true then eb (evD m) (fun x => modSlot i (gApp x)) s else .stuck
theorem je_app {i : Nat} {x : Str} {e : Expr} {m : EM W} {p0 apos cpos : Pos} (hv : PE X (.Name x p0) (tVar i)) (h : JE CL X Wx e m)
    (hfew : ((backTo cpos (starEach (e :: []) X.env)).all (fun x => !x.1) && (backToKw cpos (keywordEach [] X.env)).all (fun x => x.1.isSome) && decide ((e :: []).length + ([] : List Keyword).length + (if ([] : List Keyword).isEmpty then 0 else 1) < 30)) = true)
    (hline : (apos.endLine == cpos.line) = true) (hs : starEach (e :: []) X.env = (false, eval e X.env) :: starEach [] X.env) :
    JE CL X Wx (.Call (.Attribute (.Name x p0) "append" apos) [e] [] cpos) (cApp i m) :=
  pe_imp (pe_bm PySem.F.plainAttrs_list PySem.F.slot_list_append PySem.F.type_list_append mt_append hv (pa_cons (jd_of h) pa_nil hs) rfl hfew hline hs rfl) fun σ H Q q => by
    obtain ⟨G, s, S, q⟩ := q
    unfold cApp at q
    by_cases hl : isLst i s = true
    · rw [if_pos hl] at q
      have hsome : ∃ v, σ[i]? = some (some v) := by
        unfold isLst at hl
        cases e : s.rho[i]? with
        | none => simp [e] at hl
        | some o =>
          cases o with
          | none => simp [e] at hl
          | some w =>
            obtain ⟨v, hv, _⟩ := S.slots i w e
            exact ⟨v, hv⟩
      obtain ⟨v, hv⟩ := hsome
      obtain ⟨p, vs0, rfl, hp⟩ := isLst_ok S hv hl
      refine ⟨_, hv, .inl ⟨rfl, vs0, .inl (.inl hp)⟩, ?_⟩
      refine tOf_at S ((Post.bind (R := rDs X.K) q).mono fun u H1 ⟨G1, s1, d, f1, S1, r1, q⟩ => ?_)
      rcases modSlot_ok (g := gApp d) S1 hv with z | ⟨p', c, c', a, s', e1, hF, ho, e2, e3, e4, k⟩
      · rw [z] at q; exact q.elim
      · cases e1
        rw [e3] at q
        cases c with
        | dic _ => cases e2
        | lst xs =>
          have e2 : (if xs.length < 1000000 then some (Ob.lst (xs ++ [d]), W.d .none) else none) = some (c', a) := e2
          by_cases hz : xs.length < 1000000
          · rw [if_pos hz] at e2
            cases e2
            obtain ⟨us, hu, ru⟩ := ho
            refine ⟨p, us, u, rfl, rfl, hu, by rw [ru.length]; exact Nat.lt_of_lt_of_le hz million, ?_⟩
            obtain ⟨S2, f2⟩ := k (.lst (us ++ [u])) ⟨us ++ [u], upd_same, (ru.append (.cons r1 .nil)).mono (hF _)⟩
            exact q _ _ _ f2 S2 RD.none
          · rw [if_neg hz] at e2; cases e2
    · rw [if_neg hl] at q; exact q.elim
/-! xs.pop() -/
def gPop : Ob → Option (Ob × W)
  | .lst xs => match xs[xs.length - 1]? with
    | some x => some (.lst xs.dropLast, .d x)
    | none => none
  | _ => none
def cPop (i : Nat) : EM W := fun s => if isLst i s = true then modSlot i gPop s else .stuck
theorem RDs.dropLast {F : Addr → Prop} : ∀ {ds : List PyData} {vs : List V}, RDs K F H ds vs → RDs K F H ds.dropLast vs.dropLast
  | _, _, .nil => .nil
  | _, _, .cons _ .nil => .nil
  | _, _, .cons a (.cons b t) => .cons a (RDs.dropLast (.cons b t))
theorem lst_some {i : Nat} (S : SR K CL G s σ H) (hl : isLst i s = true) : ∃ v, σ[i]? = some (some v) := by
  unfold isLst at hl
  cases e : s.rho[i]? with
  | none => simp [e] at hl
  | some o =>
    cases o with
    | none => simp [e] at hl
    | some w =>
      obtain ⟨v, hv, _⟩ := S.slots i w e
      exact ⟨v, hv⟩
theorem je_pop {i : Nat} {x : Str} {p0 apos cpos : Pos} (hv : PE X (.Name x p0) (tVar i)) (hline : (apos.endLine == cpos.line) = true) :
    JE CL X Wx (.Call (.Attribute (.Name x p0) "pop" apos) [] [] cpos) (cPop i) :=
  pe_imp (pe_bm0 PySem.F.plainAttrs_list PySem.F.slot_list_pop PySem.F.type_list_pop mt_pop hv rfl hline) fun σ H Q q => by
    obtain ⟨G, s, S, q⟩ := q
    unfold cPop at q
    by_cases hl : isLst i s = true
    · rw [if_pos hl] at q
      obtain ⟨v, hv⟩ := lst_some S hl
      obtain ⟨p, vs0, rfl, hp⟩ := isLst_ok S hv hl
      refine ⟨_, hv, .inl ⟨rfl, vs0, .inl (.inl hp)⟩, ?_⟩
      rcases modSlot_ok (g := gPop) S hv with z | ⟨p', c, c', a, s', e1, hF, ho, e2, e3, e4, k⟩
      · rw [z] at q; exact q.elim
      · cases e1
        rw [e3] at q
        cases c with
        | dic _ => cases e2
        | lst xs =>
          have e2 : (match xs[xs.length - 1]? with | some x => some (Ob.lst xs.dropLast, W.d x) | none => none) = some (c', a) := e2
          cases e5 : xs[xs.length - 1]? with
          | none => rw [e5] at e2; cases e2
          | some x =>
            rw [e5] at e2
            cases e2
            obtain ⟨us, hu, ru⟩ := ho
            obtain ⟨y, hy, ry⟩ := ru.get e5
            refine ⟨p, us, y, rfl, rfl, hu, by rw [ru.length]; exact hy, ?_⟩
            obtain ⟨S2, f2⟩ := k (.lst us.dropLast) ⟨us.dropLast, upd_same, ru.dropLast.mono (hF _)⟩
            exact q _ _ _ f2 S2 (RD.mono (hF _) ry)
    · rw [if_neg hl] at q; exact q.elim
/-! x[i] = e -/
def putD (kvs : List (Key × PyData)) (k : Key) (x : PyData) : List (Key × PyData) :=
  if (kvs.any fun kv => decide (kv.1 = k)) = true then kvs.map (fun kv => if kv.1 = k then (kv.1, x) else kv) else kvs ++ [(k, x)]
theorem RKV.any {F : Addr → Prop} {k : Key} : ∀ {ds : List (Key × PyData)} {vs : List (Key × V)}, RKV K F H ds vs → (vs.any fun kv => decide (kv.1 = k)) = ds.any fun kv => decide (kv.1 = k)
  | _, _, .nil => rfl
  | _, _, .cons h t => by rw [List.any_cons, List.any_cons, h.1, RKV.any t]
theorem RKV.map {F : Addr → Prop} {k : Key} {x : PyData} {v : V} (r : RD K F H x v) : ∀ {ds : List (Key × PyData)} {vs : List (Key × V)}, RKV K F H ds vs → RKV K F H (ds.map fun kv => if kv.1 = k then (kv.1, x) else kv) (vs.map fun kv => if kv.1 = k then (kv.1, v) else kv)
  | _, _, .nil => .nil
  | _, _, .cons (a := a) (b := b) h t => by
    refine .cons ?_ (RKV.map r t)
    dsimp only
    by_cases e : a.1 = k
    · rw [if_pos e, if_pos (h.1 ▸ e)]; exact ⟨h.1, r⟩
    · rw [if_neg e, if_neg (h.1 ▸ e)]; exact h
theorem RKV.snoc {F : Addr → Prop} {k : Key} {x : PyData} {v : V} (r : RD K F H x v) : ∀ {ds : List (Key × PyData)} {vs : List (Key × V)}, RKV K F H ds vs → RKV K F H (ds ++ [(k, x)]) (vs ++ [(k, v)])
  | _, _, .nil => .cons ⟨rfl, r⟩ .nil
  | _, _, .cons h t => .cons h (RKV.snoc r t)
theorem RKV.put {F : Addr → Prop} {k : Key} {x : PyData} {v : V} (r : RD K F H x v) {ds : List (Key × PyData)} {vs : List (Key × V)} (h : RKV K F H ds vs) : RKV K F H (putD ds k x) (putK vs k v) := by
  unfold putD putK
  rw [h.any]
  by_cases e : (ds.any fun kv => decide (kv.1 = k)) = true
  · rw [if_pos e, if_pos e]; exact h.map r
  · rw [if_neg e, if_neg e]; exact h.snoc r
theorem RKV.length {F : Addr → Prop} : ∀ {ds : List (Key × PyData)} {vs : List (Key × V)}, RKV K F H ds vs → vs.length = ds.length
  | _, _, .nil => rfl
  | _, _, .cons _ t => by rw [List.length_cons, List.length_cons, RKV.length t]
def gPut (k x : PyData) : Ob → Option (Ob × Unit)
  | .lst xs => match k with
    | .int i => match ixN xs.length i with
      | some j => some (.lst (xs.set j x), ())
      | none => none
    | _ => none
  | .dic kvs => match keyOf k with
    | some k => if kvs.length < 1000000 then some (.dic (putD kvs k x), ()) else none
    | none => none
def rPut : TSet := fun o i v H Q => rSetL o i v H Q ∨ rSetD o i v H Q
theorem set_any (hu : X.A.units + 1 < cLine) : PSet X rPut := fun pins s σ H o i v ov iv u Q I ro ri rv h => by
  rcases h with h | h
  · exact set_list pins s σ H o i v ov iv u Q I ro ri rv h
  · exact set_dict hu pins s σ H o i v ov iv u Q I ro ri rv h
theorem key_view {F : Addr → Prop} {d : PyData} {v : V} {k : Key} (h : View K F H d v) (e : keyOf d = some k) : v = kV k := by
  cases h <;> first | (cases e; rfl) | cases e
/-- the store, at the values -/
theorem put_ok {i : Nat} {kd x : PyData} {vo vi vx : V} {Q : Hp → Prop} {f : Unit → EM α} (S : SR K CL G s σ H) (hv : σ[i]? = some (some vo)) (ri : View K G.F H kd vi) (rx : RD K G.F H x vx)
    (q : ∀ G1 s1 H1, SR K CL G1 s1 σ H1 → Fut G H s.mem.length G1 H1 s1.mem.length → modSlot i (gPut kd x) s = .ok () s1 → Q H1) (hq : modSlot i (gPut kd x) s ≠ .stuck) : rPut vo vi vx H Q := by
  rcases modSlot_ok (g := gPut kd x) S hv with z | ⟨p', c, c', a, s', e1, hF, ho, e2, e3, e4, k⟩
  · exact absurd z hq
  · subst e1
    cases c with
    | lst xs =>
      cases ri with
      | int j0 =>
        have e2 : (match ixN xs.length j0 with | some j => some (Ob.lst (xs.set j x), ()) | none => none) = some (c', a) := e2
        cases e5 : ixN xs.length j0 with
        | none => rw [e5] at e2; cases e2
        | some j =>
          rw [e5] at e2
          cases e2
          obtain ⟨us, hu, ru⟩ := ho
          obtain ⟨S2, f2⟩ := k (.lst (us.set j vx)) ⟨us.set j vx, upd_same, (ru.set rx j).mono (hF _)⟩
          exact .inl ⟨p', us, j0, j, rfl, rfl, hu, by rw [ru.length]; exact e5, q _ _ _ S2 f2 e3⟩
      | none => cases e2
      | bool _ => cases e2
      | str _ => cases e2
      | list _ _ => cases e2
      | tuple _ _ => cases e2
      | dict _ _ => cases e2
    | dic kvs =>
      have e2 : (match keyOf kd with | some k => if kvs.length < 1000000 then some (Ob.dic (putD kvs k x), ()) else none | none => none) = some (c', a) := e2
      cases e5 : keyOf kd with
      | none => rw [e5] at e2; cases e2
      | some k0 =>
        simp only [e5] at e2
        by_cases hz : kvs.length < 1000000
        · rw [if_pos hz] at e2
          cases e2
          obtain ⟨us, hu, ru⟩ := ho
          have ek := key_view ri e5
          subst ek
          obtain ⟨S2, f2⟩ := k (.dK (putK us k0 vx)) ⟨putK us k0 vx, upd_same, (ru.put rx).mono (hF _)⟩
          exact .inr ⟨p', _, rfl, DPut.k hu (by rw [ru.length]; exact Nat.lt_of_lt_of_le hz million), q _ _ _ S2 f2 e3⟩
        · rw [if_neg hz] at e2; cases e2
theorem opd_slot {i : Nat} {f : Tok → EM Fl} (S : SR K CL G s σ H) (q : PostS K CL Wx D G s.mem.length H (eb (opd (.var i)) f s)) : ∃ vo, σ[i]? = some (some vo) ∧ PostS K CL Wx D G s.mem.length H (f (.slot i) s) := by
  unfold eb rb opd at q
  cases e : s.rho[i]? with
  | none => simp only [e] at q; exact q.elim
  | some o =>
    cases o with
    | none => simp only [e] at q; exact q.elim
    | some w =>
      simp only [e] at q
      obtain ⟨v, hv, hr⟩ := S.slots i w e
      exact ⟨v, hv, q⟩
def sPut (i : Nat) (j : Opd) (m : EM W) : EM Fl := eb (evD m) fun x => eb (opd (.var i)) fun _ => eb (opd j) fun tj => fun s => match resolve s tj with
  | some k => eb (modSlot i (gPut k x)) (fun _ => er .next) s
  | none => .stuck
theorem opd_var {i : Nat} {Q : V → Hp → Prop} (q : tOf K CL (rTok K) Wx (opd (.var i)) σ H Q) : tVar i σ H Q := by
  obtain ⟨G, s, S, q⟩ := q
  unfold opd at q
  cases e : s.rho[i]? with
  | none => simp only [e] at q; exact q.elim
  | some o =>
    cases o with
    | none => simp only [e] at q; exact q.elim
    | some w =>
      simp only [e] at q
      obtain ⟨v, hv, hr⟩ := S.slots i w e
      exact ⟨v, hv, Post.here (R := rTok K) (a := Tok.slot i) S hv q⟩
theorem js_put {i : Nat} {x : Str} {b e : Expr} {o : Opd} {m : EM W} {p0 p1 pos : Pos} (hu : X.A.units + 1 < cLine) (hv : PE X (.Name x p0) (tVar i)) (hb : JO CL X Wx b o) (h : JE CL X Wx e m)
    (ha : ∀ v, assign (.Subscript (.Name x p0) b p1) X.env v = (do
      let ov ← holding [v] (eval (.Name x p0) X.env)
      let iv ← holding [v, ov] (eval b X.env)
      standAt p1
      holding [v, ov, iv] (setItem ov iv v)
      release [v, ov, iv] [])) (hs : swapsWithSole [.Subscript (.Name x p0) b p1] e pos.line X.env = pure false) (hw : swappedStores [.Subscript (.Name x p0) b p1] e X.env = pure none) :
    JS CL X Wx (.Assign [.Subscript (.Name x p0) b p1] e pos) (sPut i o m) :=
  ps_imp (ps_asg (jd_of h) (pg_sub hv hb (set_any hu) ha) hs hw rfl) fun D σ H q => by
    refine (tsOf.bind (R := rDs X.K) q).mono fun vx H1 ⟨G1, s1, d, S1, rx, q⟩ => ?_
    have hv0 := opd_slot S1 q
    obtain ⟨vo, hvo, q⟩ := hv0
    refine ⟨vo, hvo, tOf_at S1 ((PostS.bind (R := rTok X.K) (σ := σ) (n' := 0) q fun _ _ _ => trivial).mono fun vi H2 ⟨G2, s2, tj, f2, S2, r2, q⟩ => ?_)⟩
    cases e1 : resolve s2 tj with
    | none => simp only [e1] at q; exact q.elim
    | some k =>
      simp only [e1] at q
      refine put_ok (f := fun _ => er ()) S2 hvo (resolve_view S2 r2 e1) (f2.rd S1 rx) (fun G3 s3 H3 S3 f3 e3 => ?_) fun z => ?_
      · unfold eb rb at q
        rw [e3] at q
        exact q G3 σ H3 f3 S3
      · unfold eb rb at q
        rw [z] at q
        exact q
/-! x[i] op= e -/
def rGetA (K : PySem.W.Frag) : V → V → Hp → VK → Prop := fun x y H Q => (rIxL K x y H Q) ∨ rIxD x y H Q
theorem get_list : PGet X (rIxL X.K) := by
  intro pins s σ H o i ov iv Q I ro ri h
  obtain ⟨p, xs, k, z, rfl, rfl, hq, he, q⟩ := h
  cases ro
  obtain ⟨t, rfl⟩ := ri
  obtain ⟨its, r, pl, hz⟩ := I.list hq
  obtain ⟨j, h1, h2, h3, h4, h5⟩ := atI_get he
  obtain ⟨w, ew, rw'⟩ := r.get h2
  have hl := r.length
  have hn := line63
  have fin : EP X pins σ Q w s := ⟨z, H, I, rw', q⟩
  by_cases h0 : 0 ≤ k
  · have hj : k.toNat = j := by
      rw [seqIndex_of h0 h5] at h1
      exact Option.some.inj h1
    exact wpAny_getItem_list pl.isList h0 (by omega) (by rw [hj]; simpa using ew) fin
  · have hj : (k + (its.toArray.size : Int)).toNat = j := by
      rw [seqIndex_neg (by omega) h4] at h1
      rw [List.size_toArray, ← hl]
      exact Option.some.inj h1
    exact wpAny_getItem_list_neg pl.isList (by omega) (by rw [List.size_toArray] <;> omega) (by omega) (by rw [hj]; simpa using ew) fin
theorem get_any (hu : X.A.units + 1 < cLine) : PGet X (rGetA X.K) := fun pins s σ H o i ov iv Q I ro ri h => by
  rcases h with h | ⟨a, v, rfl, g, q⟩
  · exact get_list pins s σ H o i ov iv Q I ro ri h
  · cases ro
    exact d_getItem hu I g ri fun w' s3 I3 rw' => ⟨v, H, I3, rw', q⟩
/-- what is read for it: the list's or the dict's item -/
def fGet : PyData → PyData → Option PyData
  | .list xs, .int i => atI xs i
  | .dict kvs, k => match keyOf k with
    | some k => dLook kvs k
    | none => none
  | _, _ => none
theorem ok_get : Op2 K (rGetA K) fGet := by
  intro F H dx dy vx vy z Q hl v1 v2 e q
  cases v1 with
  | none => cases e
  | bool b => cases e
  | int b => cases e
  | str x => cases e
  | tuple _ _ => cases e
  | @list a vs xs h1 h2 =>
    cases v2 with
    | int i =>
      obtain ⟨v, e1, e2⟩ := atI_rds h2 (show atI xs i = some z from e)
      exact .inl ⟨a, vs, i, v, rfl, rfl, h1, e1, q _ _ _ .refl e2⟩
    | none => cases e
    | bool b => cases e
    | str b => cases e
    | dict _ _ => cases e
    | list _ _ => cases e
    | tuple _ _ => cases e
  | @dict a kvs ds h1 h2 =>
    cases v2 with
    | int i =>
      obtain ⟨v, e1, e2⟩ := rdkv_look h2 (show dLook ds (.inl i) = some z from e)
      exact .inr ⟨a, v, rfl, by rw [← e1]; exact DGet.k (k := .inl i) h1, q _ _ _ .refl e2⟩
    | str i =>
      obtain ⟨v, e1, e2⟩ := rdkv_look h2 (show dLook ds (.inr i) = some z from e)
      exact .inr ⟨a, v, rfl, by rw [← e1]; exact DGet.k (k := .inr i) h1, q _ _ _ .refl e2⟩
    | none => cases e
    | bool b => cases e
    | dict _ _ => cases e
    | list _ _ => cases e
    | tuple _ _ => cases e
def sAugIx (i : Nat) (j : Opd) (f : PyData → PyData → Option PyData) (b : Opd) : EM Fl := eb (opd (.var i)) fun tx => eb (opd j) fun tj => fun s =>
  match resolve s tx with
  | some x => match resolve s tj with
    | some k => match fGet x k with
      | some y => eb (opd b) (fun tb s => match resolve s tb with
        | some z => match f y z with
          | some w => match resolve s tj with
            | some k => eb (modSlot i (gPut k w)) (fun _ => er .next) s
            | none => .stuck
          | none => .stuck
        | none => .stuck) s
      | none => .stuck
    | none => .stuck
  | none => .stuck
theorem js_augix {i : Nat} {x : Str} {b e : Expr} {oj o : Opd} {op : Operator} {r : R2} {f : PyData → PyData → Option PyData} {p0 p1 pos : Pos} (hu : X.A.units + 1 < cLine) (hv : PE X (.Name x p0) (tVar i)) (hb : JO CL X Wx b oj) (h : JO CL X Wx e o) (hr : OpR X (inplaceOp op) r) (ho : Op2 X.K r f)
    (ha : ∀ ov iv new, augStore b ov iv new = (do holding [new, ov, iv] (setItem ov iv new); release [new, ov, iv] []; pure .next)) :
    JS CL X Wx (.AugAssign (.Subscript (.Name x p0) b p1) op e pos) (sAugIx i oj f o) :=
  ps_imp (ps_augS hv hb (get_any hu) h hr (set_any hu) ha) fun D σ H q => by
    obtain ⟨G1, s1, S1, q⟩ := q
    have hv0 := opd_slot S1 q
    obtain ⟨vo, hvo, q⟩ := hv0
    have r1 : rTok X.K G1 σ H (.slot i) vo := hvo
    generalize (Tok.slot i) = tx at r1 q
    refine ⟨vo, hvo, ?_⟩
    refine tOf_at S1 ((PostS.bind (R := rTok X.K) (σ := σ) (n' := 0) q fun _ _ _ => trivial).mono fun vi H2 ⟨G2, s2, tj, f2, S2, r2, q⟩ => ?_)
    have r1 := rTok_later S1 f2 r1
    cases e1 : resolve s2 tx with
    | none => simp only [e1] at q; exact q.elim
    | some dx =>
      cases e2 : resolve s2 tj with
      | none => simp only [e1, e2] at q; exact q.elim
      | some k =>
        cases e3 : fGet dx k with
        | none => simp only [e1, e2, e3] at q; exact q.elim
        | some y =>
          simp only [e1, e2, e3] at q
          refine ok_get G2.F H2 dx k vo vi y _ S2.liveF (resolve_view S2 r1 e1) (resolve_view S2 r2 e2) e3 fun F' H' vy g ry => ?_
          obtain ⟨S3, f3⟩ := S2.grow g
          refine tOf_at S3 ((PostS.bind (R := rTok X.K) (σ := σ) (n' := 0) (PostS.later f3 q) fun _ _ _ => trivial).mono fun vz H4 ⟨G4, s4, tb, f4, S4, r4, q⟩ => ?_)
          have r2 := rTok_later S3 f4 (rTok_later S2 (f3 (n := 0)) r2)
          have ry := f4.rd S3 ry
          cases e4 : resolve s4 tb with
          | none => simp only [e4] at q; exact q.elim
          | some z =>
            cases e5 : f y z with
            | none => simp only [e4, e5] at q; exact q.elim
            | some w =>
              cases e6 : resolve s4 tj with
              | none => simp only [e4, e5, e6] at q; exact q.elim
              | some k' =>
                simp only [e4, e5, e6] at q
                refine ho G4.F H4 y z vy vz w _ S4.liveF ry.view (resolve_view S4 r4 e4) e5 fun F5 H5 vw g5 rw5 => ?_
                obtain ⟨S5, f5⟩ := S4.grow g5
                have r2 := rTok_later S4 (f5 (n := 0)) r2
                have ri : View X.K F5 H5 k' vi := by
                  have z := resolve_view S5 r2 e6
                  exact z
                refine put_ok (f := fun _ => er ()) S5 hvo ri rw5 (fun G6 s6 H6 S6 f6 e7 => ?_) fun z => ?_
                · unfold eb rb at q
                  rw [e7] at q
                  exact q G6 σ H6 (f5.trans f6) S6
                · unfold eb rb at q
                  rw [z] at q
                  exact q
end
end MP
/-! Part K: loops. -/
namespace MP
open PySem PySem.Spec PyProof.Rows L2
section
variable {K : PySem.W.Frag} {CL : CA} {G G1 G' : Gh} {H H1 H' : Hp} {s s1 : S} {σ : L2.St} {n n1 n' : Nat} {α β γ δ : Type} {R : Rel α β} {Wx : WX} {X : Cx} {p : Addr} {D D' : Ends}
/-! ### targets -/
def TgS (K : PySem.W.Frag) (CL : CA) (g : TG) (t : PyData → EM Unit) : Prop := ∀ (G : Gh) (s : S) (σ : L2.St) (H : Hp) (d : PyData) (v : V) (Q : L2.St → Hp → Prop) (s' : S), SR K CL G s σ H → RD K G.F H d v → t d s = .ok () s' →
  (∀ G' σ', SR K CL G' s' σ' H → (∀ {n : Nat}, Fut G H n G' H n) → s'.mem = s.mem → Q σ' H) → g v σ H Q
def tgName (i : Nat) : PyData → EM Unit := fun x => setS i (.d x)
theorem tg_name {i : Nat} : TgS K CL (gName i) (tgName i) := by
  intro G s σ H d v Q s' S r e q
  unfold tgName setS at e
  by_cases hi : i < s.rho.length
  · rw [if_pos hi] at e
    cases e
    obtain ⟨S', f⟩ := S.set (i := i) (w := .d d) r (by rw [← S.len]; exact hi)
    exact q _ _ S' f rfl
  · rw [if_neg hi] at e; cases e
def tgTup (is : List Nat) : PyData → EM Unit := fun d => match d with
  | .tuple xs => if xs.length = is.length then setAll is xs else es
  | _ => es
theorem tgAll_ok : ∀ (is : List Nat) (xs : List PyData) (vs : List V) (G : Gh) (s s' : S) (σ : L2.St) (Q : L2.St → Hp → Prop), SR K CL G s σ H → RDs K G.F H xs vs → setAll is xs s = .ok () s' →
    (∀ G' σ', SR K CL G' s' σ' H → (∀ {n : Nat}, Fut G H n G' H n) → s'.mem = s.mem → Q σ' H) → gNames is vs σ H Q := by
  intro is
  induction is with
  | nil =>
    intro xs vs G s s' σ Q S r e q
    cases r with
    | nil => cases e; exact ⟨rfl, q G σ S Fut.refl rfl⟩
    | cons _ _ => cases e
  | cons i is ih =>
    intro xs vs G s s' σ Q S r e q
    cases r with
    | nil => cases e
    | @cons d ds v vs r rs =>
      refine ⟨v, vs, rfl, ?_⟩
      unfold setAll eb rb at e
      cases e1 : setS i (.d d) s with
      | stuck => rw [e1] at e; cases e
      | raise x t => rw [e1] at e; cases e
      | ok u t =>
        rw [e1] at e
        refine tg_name (i := i) G s σ H d v _ t S r e1 fun G1 σ1 S1 f1 m1 => ?_
        exact ih ds vs G1 t s' σ1 Q S1 (rs.mono (f1 (n := 0).mono S)) e fun G2 σ2 S2 f2 m2 => q G2 σ2 S2 (f1.trans f2) (m2.trans m1)
theorem tg_tup {is : List Nat} : TgS K CL (gTup K is.length (gNames is)) (tgTup is) := by
  intro G s σ H d v Q s' S r e q
  unfold tgTup at e
  cases r with
  | none => cases e
  | bool b => cases e
  | int b => cases e
  | str x => cases e
  | list _ _ => cases e
  | dict _ _ => cases e
  | @tuple a vs xs h1 h2 =>
    have e : (if xs.length = is.length then setAll is xs else es) s = .ok () s' := e
    by_cases hl : xs.length = is.length
    · rw [if_pos hl] at e
      exact ⟨a, vs, rfl, h1.sq, by rw [h2.length, hl], tgAll_ok is xs vs G s s' σ Q S h2 e q⟩
    · rw [if_neg hl] at e; cases e
/-! ### what is walked -/
structure ItOk (K : PySem.W.Frag) (F : Addr → Prop) (H : Hp) (xs : List PyData) (J : It) : Prop where
  go : ∀ (F' : Addr → Prop) (H' : Hp), (∀ a, F a → F' a ∧ H' a = H a) → ∀ i, i < xs.length → J.go i H'
  stop : ∀ (F' : Addr → Prop) (H' : Hp), (∀ a, F a → F' a ∧ H' a = H a) → J.stop xs.length H'
  yld : ∀ (F' : Addr → Prop) (H' : Hp), (∀ a, F a → F' a ∧ H' a = H a) → (∀ a, F' a → ∃ o, H' a = some o) → ∀ i v H'' d, J.yld i H' v H'' → xs[i]? = some d → ∃ F'', Grow F' F'' H' H'' ∧ RD K F'' H'' d v
def rIt (K : PySem.W.Frag) : Rel (List PyData) It := fun G _ H xs J => ItOk K G.F H xs J
abbrev JI (CL : CA) (X : Cx) (Wx : WX) (tg e : Expr) (src : EM (List PyData)) : Prop := PI X tg e (tOf X.K CL (rIt X.K) Wx src)
theorem pi_imp {tg e : Expr} {t t' : TI} (h : PI X tg e t) (i : ∀ σ H Q, t' σ H Q → t σ H Q) : PI X tg e t' := ⟨fun pins s σ H Q I q => h.run pins s σ H Q I (i σ H Q q)⟩
theorem it_list {F : Addr → Prop} {a : Addr} {vs : List V} {xs : List PyData} (h1 : LAt K F H a vs) (h2 : RDs K F H xs vs) : ItOk K F H xs (Itl K a) where
  go := fun F' H' hF i hi => by
    obtain ⟨v, hv⟩ : ∃ v, vs[i]? = some v := ⟨_, List.getElem?_eq_getElem (by rw [h2.length]; exact hi)⟩
    exact ⟨vs, v, (h1.mono hF).sq, hv⟩
  stop := fun F' H' hF => ⟨vs, (h1.mono hF).sq, by rw [h2.length]; exact Nat.le_refl _⟩
  yld := fun F' H' hF hl i v H'' d y e => by
    obtain ⟨rfl, y⟩ := y
    obtain ⟨u, hu, r⟩ := h2.get e
    rw [y vs (h1.mono hF).sq] at hu
    cases hu
    exact ⟨F', .refl, r.mono hF⟩
theorem it_tup {F : Addr → Prop} {a : Addr} {vs : List V} {xs : List PyData} (h1 : TAt K F H a vs) (h2 : RDs K F H xs vs) : ItOk K F H xs (Itt K a) where
  go := fun F' H' hF i hi => by
    obtain ⟨v, hv⟩ : ∃ v, vs[i]? = some v := ⟨_, List.getElem?_eq_getElem (by rw [h2.length]; exact hi)⟩
    exact ⟨vs, v, (h1.mono hF).sq, hv⟩
  stop := fun F' H' hF => ⟨vs, (h1.mono hF).sq, by rw [h2.length]; exact Nat.le_refl _⟩
  yld := fun F' H' hF hl i v H'' d y e => by
    obtain ⟨rfl, y⟩ := y
    obtain ⟨u, hu, r⟩ := h2.get e
    rw [y vs (h1.mono hF).sq] at hu
    cases hu
    exact ⟨F', .refl, r.mono hF⟩
/-- a list or a tuple, whichever comes -/
def iSeq (K : PySem.W.Frag) (tl : TE) : TI := fun σ H R => tl σ H fun x H1 => ∃ a, x = .ref a ∧ (((∃ xs, SqL K H1 a xs) ∧ R (Itl K a) H1) ∨ ((∃ xs, SqT K H1 a xs) ∧ R (Itt K a) H1))
theorem pi_seq {tg l : Expr} {tl : TE} (hl : PE X l tl) : PI X tg l (iSeq X.K tl) := by
  refine ⟨fun pins s σ H R I h => ?_⟩
  refine thn (hl.run pins s σ H _ I h) fun v s1 ⟨x, H1, I1, r1, q1⟩ => ?_
  obtain ⟨a, e, q⟩ := q1
  subst e
  cases r1
  have fp : ∀ b ∈ [s1.heap.objs.size], FpOk X pins H1 b := fun b hb => by
    have e : b = s1.heap.objs.size := by simpa using hb
    subst e
    exact I1.fpOk (Nat.le_refl _) (I1.hok.fresh (Nat.le_refl _))
  rcases q with ⟨⟨xs, hq⟩, q⟩ | ⟨⟨xs, hq⟩, q⟩
  · obtain ⟨its, rv, p, hz⟩ := I1.list hq
    refine wpAny_pyIter_list p.isList ?_
    exact ⟨s1.heap.objs.size, [s1.heap.objs.size], _, _, H1, rfl, I1.kept (t' := s1.toks) fun b o e => Heap.get?_push_of_some _ e, turn_list a _, ⟨_, Heap.get?_push_size _ rfl, rfl, rfl⟩, fp, q⟩
  · obtain ⟨its, rv, p, hz⟩ := I1.tuple hq
    refine wpAny_pyIter_tuple (show s1.heap.IsTuple a its.toArray from p) ?_
    exact ⟨s1.heap.objs.size, [s1.heap.objs.size], _, _, H1, rfl, I1.kept (t' := s1.toks) fun b o e => Heap.get?_push_of_some _ e, turn_tuple a _, ⟨_, Heap.get?_push_size _ rfl, rfl, rfl⟩, fp, q⟩
def srcSeq (m : EM W) : EM (List PyData) := eb (evD m) fun d => match d with
  | .list xs => er xs
  | .tuple xs => er xs
  | _ => es
theorem ji_seq {tg e : Expr} {m : EM W} (h : JE CL X Wx e m) : JI CL X Wx tg e (srcSeq m) := pi_imp (pi_seq (jd_of h)) fun σ H R q => by
  refine (tOf.bind (R := rDs X.K) q).mono fun v H1 ⟨G1, s1, d, S1, r, q⟩ => ?_
  have r : RD X.K G1.F H1 d v := r
  cases r with
  | none => exact q.elim
  | bool b => exact q.elim
  | int b => exact q.elim
  | str x => exact q.elim
  | dict _ _ => exact q.elim
  | @list a vs xs h1 h2 => exact ⟨a, rfl, .inl ⟨⟨vs, h1.sq⟩, Post.here (R := rIt X.K) S1 (it_list h1 h2) q⟩⟩
  | @tuple a vs xs h1 h2 => exact ⟨a, rfl, .inr ⟨⟨vs, h1.sq⟩, Post.here (R := rIt X.K) S1 (it_tup h1 h2) q⟩⟩
/-- range -/
def rangeD (lo : Int) (n : Nat) : List PyData := (List.range n).map fun (i : Nat) => .int (lo + i)
theorem it_range {F : Addr → Prop} {lo : Int} {n : Nat} : ItOk K F H (rangeD lo n) (Itr lo n) where
  go := fun F' H' hF i hi => by
    show i < n
    simpa [rangeD] using hi
  stop := fun F' H' hF => by
    show n ≤ (rangeD lo n).length
    simp [rangeD]
  yld := fun F' H' hF hl i v H'' d y e => by
    obtain ⟨rfl, rfl⟩ := y
    refine ⟨F', .refl, ?_⟩
    have hi : i < n := by
      by_cases hi : i < n
      · exact hi
      · rw [List.getElem?_eq_none (by simp [rangeD]; omega)] at e; cases e
    unfold rangeD at e
    rw [List.getElem?_map, List.getElem?_range hi] at e
    cases e
    exact .int _
def srcR1 (m : EM W) : EM (List PyData) := eb (evD m) fun d => match d with
  | .int j => if -4611686018427387904 ≤ j ∧ j < 4611686018427387904 then er (rangeD 0 j.toNat) else es
  | _ => es
theorem ji_range1 {tg a : Expr} {m : EM W} {p0 pos : Pos} (hg : Gl X "range") (hm : X.mg "range" = none) (h : JE CL X Wx a m) (hs : starEach [a] X.env = [(false, eval a X.env)]) : JI CL X Wx tg (.Call (.Name "range" p0) [a] [] pos) (srcR1 m) :=
  pi_imp (pi_range1 hg hm (pa_cons (jd_of h) pa_nil hs) hs) fun σ H R q => by
    refine (tOf.bind (R := rDs X.K) q).mono fun v H1 ⟨G1, s1, d, S1, r, q⟩ => ?_
    have r : RD X.K G1.F H1 d v := r
    cases r with
    | none => exact q.elim
    | bool b => exact q.elim
    | str x => exact q.elim
    | dict _ _ => exact q.elim
    | list _ _ => exact q.elim
    | tuple _ _ => exact q.elim
    | int j =>
      have q : Post X.K CL (rIt X.K) Wx G1 s1.mem.length σ H1 ((if -4611686018427387904 ≤ j ∧ j < 4611686018427387904 then er (rangeD 0 j.toNat) else es) s1) R := q
      by_cases hj : -4611686018427387904 ≤ j ∧ j < 4611686018427387904
      · rw [if_pos hj] at q
        exact ⟨j, rfl, hj.1, hj.2, Post.here (R := rIt X.K) S1 it_range q⟩
      · rw [if_neg hj] at q; exact q.elim
def srcR2 (m m' : EM W) : EM (List PyData) := eb (evD m) fun d => eb (evD m') fun d' => match d, d' with
  | .int i, .int j => if (-4611686018427387904 ≤ i ∧ i < 4611686018427387904) ∧ -4611686018427387904 ≤ j ∧ j < 4611686018427387904 then er (rangeD i (j - i).toNat) else es
  | _, _ => es
theorem ji_range2 {tg a b : Expr} {m m' : EM W} {p0 pos : Pos} (hg : Gl X "range") (hm : X.mg "range" = none) (h : JE CL X Wx a m) (h' : JE CL X Wx b m') (hs : starEach [a, b] X.env = [(false, eval a X.env), (false, eval b X.env)]) (hs2 : starEach [b] X.env = [(false, eval b X.env)]) :
    JI CL X Wx tg (.Call (.Name "range" p0) [a, b] [] pos) (srcR2 m m') :=
  pi_imp (pi_range2 hg hm (pa_cons (jd_of h) (pa_cons (jd_of h') pa_nil hs2) (by rw [hs, hs2])) hs hs2) fun σ H R q => by
    refine (tOf.bind (R := rDs X.K) q).mono fun v H1 ⟨G1, s1, d, S1, r, q⟩ => ?_
    refine tOf_at S1 ((Post.bind (R := rDs X.K) q).mono fun v2 H2 ⟨G2, s2, d', f2, S2, r2, q⟩ => ?_)
    have r : RD X.K G2.F H2 d v := f2.rd S1 r
    have r2 : RD X.K G2.F H2 d' v2 := r2
    cases r with
    | int i =>
      cases r2 with
      | int j =>
        have q : Post X.K CL (rIt X.K) Wx G2 s2.mem.length σ H2 ((if (-4611686018427387904 ≤ i ∧ i < 4611686018427387904) ∧ -4611686018427387904 ≤ j ∧ j < 4611686018427387904 then er (rangeD i (j - i).toNat) else es) s2) R := q
        by_cases hj : (-4611686018427387904 ≤ i ∧ i < 4611686018427387904) ∧ -4611686018427387904 ≤ j ∧ j < 4611686018427387904
        · rw [if_pos hj] at q
          exact ⟨i, j, rfl, ⟨hj.1.1, hj.1.2, hj.2.1, hj.2.2⟩, Post.here (R := rIt X.K) S2 it_range q⟩
        · rw [if_neg hj] at q; exact q.elim
      | none => exact q.elim
      | bool b => exact q.elim
      | str x => exact q.elim
      | dict _ _ => exact q.elim
      | list _ _ => exact q.elim
      | tuple _ _ => exact q.elim
    | none => exact q.elim
    | bool b => exact q.elim
    | str x => exact q.elim
    | dict _ _ => exact q.elim
    | list _ _ => exact q.elim
    | tuple _ _ => exact q.elim
/-! ### for -/
def forL (t : PyData → EM Unit) (body : EM Fl) : List PyData → EM Fl
  | [] => er .next
  | x :: xs => eb (t x) fun _ => eb body fun f => match f with
    | .next => forL t body xs
    | .cont => forL t body xs
    | .brk => er .next
    | .ret w => er (.ret w)
def sFor (t : PyData → EM Unit) (src : EM (List PyData)) (body : EM Fl) : EM Fl := eb src fun xs => forL t body xs
theorem noRaise {t : PyData → EM Unit} (h : ∀ d s x s', t d s ≠ .raise x s') {d : PyData} {s : S} {f : Unit → EM Fl} (q : PostS K CL Wx D G n H (eb (t d) f s)) : ∃ s', t d s = .ok () s' ∧ PostS K CL Wx D G n H (f () s') := by
  unfold eb rb at q
  cases e : t d s with
  | stuck => rw [e] at q; exact q.elim
  | raise x s' => exact absurd e (h d s x s')
  | ok u s' => rw [e] at q; exact ⟨s', rfl, q⟩
theorem js_for {tg iter : Expr} {body : List Stmt} {g : TG} {t : PyData → EM Unit} {src : EM (List PyData)} {mb : EM Fl} {pos : Pos} (hp : PassesOwn (model X.prog X.w) X.A X.env X.xe) (hc : X.calm = true) (hi : JI CL X Wx tg iter src) (hg : PG X tg g) (ht : TgS X.K CL g t) (hnr : ∀ d s x s', t d s ≠ .raise x s') (hb : JB CL X Wx body mb)
    (hs : ∀ x, foldedSetIterable iter X.env x = pure x) : JS CL X Wx (.For tg iter body [] pos) (sFor t src mb) := ps_imp (ps_for hp hc hi hg hb hs) fun D σ H q => by
  refine (tsOf.bind (R := rIt X.K) q).mono fun J H1 ⟨G1, s1, xs, S1, io, q⟩ => ?_
  have io : ItOk X.K G1.F H1 xs J := io
  refine ⟨fun i m σ' H' => ∃ G' s', SR X.K CL G' s' σ' H' ∧ Fut G1 H1 s1.mem.length G' H' s'.mem.length ∧ i + m = xs.length ∧ PostS X.K CL Wx D G' s'.mem.length H' (forL t mb (xs.drop i) s'),
    ⟨xs.length, G1, s1, S1, Fut.refl, by omega, q⟩, fun i m σ' H' hW => ?_⟩
  obtain ⟨G', s', S', f', em, q⟩ := hW
  have hF := f'.mono S1
  by_cases hlt : i < xs.length
  · refine .inr ⟨io.go G'.F H' hF i hlt, fun σ2 H2 => ∃ G2 s2, SR X.K CL G2 s2 σ2 H2 ∧ Fut G1 H1 s1.mem.length G2 H2 s2.mem.length ∧ PostS X.K CL Wx D G2 s2.mem.length H2 (forL t mb (xs.drop (i + 1)) s2), fun σ2 H2 ⟨G2, s2, S2, f2, q2⟩ => ⟨m - 1, by omega, G2, s2, S2, f2, by omega, q2⟩, fun v H2 y => ?_⟩
    obtain ⟨d, hd⟩ : ∃ d, xs[i]? = some d := ⟨_, List.getElem?_eq_getElem hlt⟩
    obtain ⟨F2, gr, rd⟩ := io.yld G'.F H' hF S'.liveF i v H2 d y hd
    obtain ⟨S2, f2⟩ := S'.grow gr
    have ed : xs.drop i = d :: xs.drop (i + 1) := by
      rw [List.drop_eq_getElem_cons hlt]
      rw [List.getElem?_eq_getElem hlt] at hd
      cases hd
      rfl
    rw [ed] at q
    unfold forL at q
    obtain ⟨s3, e3, q⟩ := noRaise hnr q
    refine ht _ s' σ' H2 d v _ s3 S2 rd e3 fun G3 σ3 S3 f3 m3 => ⟨G3, s3, S3, ?_⟩
    have f13 : Fut G1 H1 s1.mem.length G3 H2 s3.mem.length := by
      have z := (f'.trans (f2 (n := s'.mem.length))).trans (f3 (n := s'.mem.length))
      rw [m3]
      exact z
    have q : PostS X.K CL Wx D G3 s3.mem.length H2 (eb mb (fun f => match f with
        | .next => forL t mb (xs.drop (i + 1))
        | .cont => forL t mb (xs.drop (i + 1))
        | .brk => er .next
        | .ret w => er (.ret w)) s3) := by
      have z := PostS.later ((f2 (n := s'.mem.length)).trans (f3 (n := s'.mem.length))) q
      rw [m3]
      exact z
    unfold eb rb at q
    cases e : mb s3 with
    | stuck => rw [e] at q; exact q
    | raise x s4 => rw [e] at q; exact q
    | ok fl s4 =>
      rw [e] at q
      cases fl with
      | next => exact fun G4 σ4 H4 f4 S4 => ⟨G4, s4, S4, f13.trans f4, PostS.later f4 q⟩
      | cont => exact fun G4 σ4 H4 f4 S4 => ⟨G4, s4, S4, f13.trans f4, PostS.later f4 q⟩
      | brk => exact q
      | ret w => exact q
  · have ei : i = xs.length := by omega
    subst ei
    refine .inl ⟨io.stop G'.F H' hF, ?_⟩
    rw [List.drop_length] at q
    exact q G' σ' H' Fut.refl S'
/-! ### while -/
def whileN (c : EM Bool) (body : EM Fl) : Nat → EM Fl
  | 0 => es
  | n + 1 => eb c fun k => if k = true then eb body fun f => match f with
      | .next => whileN c body n
      | .cont => whileN c body n
      | .brk => er .next
      | .ret w => er (.ret w)
    else er .next
open Classical in
noncomputable def sWhile (c : EM Bool) (body : EM Fl) : EM Fl := fun s => if h : ∃ n, whileN c body n s ≠ .stuck then whileN c body h.choose s else .stuck
theorem js_while {c : Expr} {body : List Stmt} {mc : EM Bool} {mb : EM Fl} {pos : Pos} (hp : PassesOwn (model X.prog X.w) X.A X.env X.xe) (hc : JT CL X Wx c mc) (hb : JB CL X Wx body mb) : JS CL X Wx (.While c body [] pos) (sWhile mc mb) := ps_imp (ps_while hp hc hb) fun D σ H q => by
  obtain ⟨G, s, S, q⟩ := q
  unfold sWhile at q
  by_cases h : ∃ n, whileN mc mb n s ≠ .stuck
  · rw [dif_pos h] at q
    refine ⟨fun m σ' H' => ∃ G' s', SR X.K CL G' s' σ' H' ∧ PostS X.K CL Wx D G' s'.mem.length H' (whileN mc mb m s'), ⟨h.choose, G, s, S, q⟩, fun m σ' H' hW => ?_⟩
    obtain ⟨G', s', S', q⟩ := hW
    cases m with
    | zero => exact q.elim
    | succ m =>
      unfold whileN at q
      refine tOf_at S' ((PostS.bind (R := rBs) (σ := σ') (n' := 0) q fun _ _ _ => trivial).mono fun b H2 ⟨G2, s2, k, f2, S2, r2, q⟩ => ?_)
      subst r2
      cases k with
      | false => rw [if_neg Bool.false_ne_true] at q ⊢; exact q G2 σ' H2 Fut.refl S2
      | true =>
        rw [if_pos rfl] at q ⊢
        refine ⟨fun σ3 H3 => ∃ G3 s3, SR X.K CL G3 s3 σ3 H3 ∧ PostS X.K CL Wx D G3 s3.mem.length H3 (whileN mc mb m s3), fun σ3 H3 w => ⟨m, Nat.lt_succ_self m, w⟩, G2, s2, S2, ?_⟩
        unfold eb rb at q
        cases e : mb s2 with
        | stuck => rw [e] at q; exact q
        | raise x s4 => rw [e] at q; exact q
        | ok fl s4 =>
          rw [e] at q
          cases fl with
          | next => exact fun G4 σ4 H4 f4 S4 => ⟨G4, s4, S4, PostS.later f4 q⟩
          | cont => exact fun G4 σ4 H4 f4 S4 => ⟨G4, s4, S4, PostS.later f4 q⟩
          | brk => exact q
          | ret w => exact q
  · rw [dif_neg h] at q; exact q.elim
end
end MP
/-! Part L: exceptions. -/
namespace MP
open PySem PySem.Spec PyProof.Rows L2
/-! ### several clauses, with names or without -/
/-- what the clauses wish of an exception, one after the other -/
def wMA (K : PySem.W.Frag) (Wo : WX) (D : Ends) : List (Value × Option Nat × (Addr → Value → Option Addr → TS)) → WX
  | [] => Wo
  | (c, none, ts) :: r => fun k d σ H => ∃ b, PySem.W.exmOne K k c = some b ∧ (b = true → ∀ a, H a = none → ts a k d D σ H) ∧ (b = false → wMA K Wo D r k d σ H)
  | (c, some i, ts) :: r => fun k d σ H => ∃ b, PySem.W.exmOne K k c = some b ∧
      (b = true → ∀ a, H a = none → ts a k d { nx := fun σ' H' => D.nx (σ'.set i none) H', rt := D.rt, bk := fun σ' H' => D.bk (σ'.set i none) H', ct := fun σ' H' => D.ct (σ'.set i none) H' } (σ.set i (some (.ref a))) H) ∧ (b = false → wMA K Wo D r k d σ H)
inductive HdA (X : Cx) : List ExceptHandler → List (Value × Option Nat × (Addr → Value → Option Addr → TS)) → Prop
  | nil : HdA X [] []
  | plain {x : Str} {c : Value} {ts : Addr → Value → Option Addr → TS} {b0 : Stmt} {su : List Stmt} {np hp : Pos} {hs : List ExceptHandler} {l : List (Value × Option Nat × (Addr → Value → Option Addr → TS))} (hc : Names X x c)
      (hsu : ∀ (a : Addr) (oe : Obj) (k : Value) (d : Option Addr) (pn : List (Addr × Obj)), Zc k d oe → (∃ vs, oe.data = .fields vs) → PSs (X.suite a ((a, oe) :: pn)) (b0 :: su) (ts a k d)) (r : HdA X hs l) :
      HdA X (.ExceptHandler (some (.Name x np)) none (b0 :: su) hp :: hs) ((c, none, ts) :: l)
  | named {x n : Str} {i : Nat} {c : Value} {ts : Addr → Value → Option Addr → TS} {b0 : Stmt} {su : List Stmt} {np hp : Pos} {hs : List ExceptHandler} {l : List (Value × Option Nat × (Addr → Value → Option Addr → TS))} (hN : X.N.Nodup) (hi : X.N[i]? = some n) (hln : X.env.kindOf n = some .local) (hc : Names X x c)
      (hsu : ∀ (a : Addr) (oe : Obj) (k : Value) (d : Option Addr) (pn : List (Addr × Obj)), Zc k d oe → (∃ vs, oe.data = .fields vs) → PSs (X.suite a ((a, oe) :: pn)) (b0 :: su) (ts a k d)) (r : HdA X hs l) :
      HdA X (.ExceptHandler (some (.Name x np)) (some n) (b0 :: su) hp :: hs) ((c, some i, ts) :: l)
section
variable {X : Cx} {body : List Stmt} {h0 : ExceptHandler} {hs : List ExceptHandler} {l : List (Value × Option Nat × (Addr → Value → Option Addr → TS))} {pos : Pos} {tb : WX → TS} {Wo : WX}
theorem ps_tryA (hst : X.stack = X.env :: X.outer) (hfr : X.env.frame = some X.env.locals) (tk : Takes X Wo)
    (hb : ∀ (W : WX) (pn : List (Addr × Obj)) (xe : Value → Shared → Prop), Takes (X.tr pn xe) W → PassesOwn (model X.prog X.w) X.A X.env xe → PSs (X.tr pn xe) body (tb W))
    (hh : HdA X (h0 :: hs) l) : PS X (.Try body (h0 :: hs) [] [] pos) (fun D σ H => tb (wMA X.K Wo D l) D σ H) := by
  constructor
  intro pins s σ H D I h
  have xok := I.ok
  have fr0 : X.A.frames = some (X.env :: X.outer) := xok.frames.trans (congrArg some hst)
  apply wpAny_Try_except
  let look : Value → Shared → Prop := fun e s₁ => wpAny (model X.prog X.w) X.A (noteFrame e X.env) (fun _ s₂ => wpAny (model X.prog X.w) X.A (setFlight e none) (fun _ s₃ => wpAny (model X.prog X.w) X.A (handleBy e X.env (h0 :: hs)) (SP X pins D) X.xe s₃) X.xe s₂) X.xe s₁
  have takes : Takes (X.tr (X.pn ++ pins) look) (wMA X.K Wo D l) := by
    intro u s' xx
    obtain ⟨a, B, sI, pins', σ', H', k, d, rfl, J0, nb, up, sky, na, os, ag, wish⟩ := xx
    have J : Inv X pins σ' H' sI := J0.ofTry xok
    rw [show (X.tr (X.pn ++ pins) look).stack = X.env :: X.outer from hst] at sky
    show wpAny (model X.prog X.w) X.A (noteFrame (.ref a) X.env) _ _ _
    refine Sky.land Zc.steady fr0 hfr sky fun h3 fl3 up3 => ?_
    have J3 : Inv X pins σ' H' { s' with heap := h3 } := J.landed nb fl3.1 (up.trans up3) os ag
    obtain ⟨o3, f3, g3, z3, d3⟩ := fl3.there
    have noFrame : a ∉ frs (X.env :: X.outer) := fun hm => by
      obtain ⟨_, o', e', hnf⟩ := fl3.2.2.1.mem hm
      rw [g3] at e'
      cases e'
      exact hnf _ d3
    have nLoc : a ≠ X.env.locals := fun z => noFrame (List.mem_filterMap.mpr ⟨X.env, List.mem_cons_self, hfr.trans (congrArg some z.symm)⟩)
    have nOut : a ∉ X.fs := fun hm => by
      obtain ⟨e, he, q⟩ := List.mem_filterMap.mp hm
      exact noFrame (List.mem_filterMap.mpr ⟨e, List.mem_cons_of_mem _ he, q⟩)
    have S3 := J3.suite g3 d3 na nLoc nOut
    have go : ∀ {hs' : List ExceptHandler} {l' : List (Value × Option Nat × (Addr → Value → Option Addr → TS))}, HdA X hs' l' → wMA X.K Wo D l' k d σ' H' → wpAny (model X.prog X.w) X.A (handleBy (.ref a) X.env hs') (SP X pins D) X.xe { s' with heap := h3 } := by
      intro hs' l' hk
      have tst : ∀ {x : Str} {np : Pos} {c : Value} {Q : Value → Shared → Prop} {E : Value → Shared → Prop}, Names X x c → Q c { s' with heap := h3 } → wpAny (model X.prog X.w) (X.A.mark (some (.ref a))) (eval (.Name x np) X.env) Q E { s' with heap := h3 } := fun {x np c Q E} hc q => by
        obtain ⟨hg, hdb, hm | ⟨hm, hv, hnn⟩⟩ := hc
        · exact ld_glob (X := X.suite a ((a, o3) :: (X.pn ++ pins))) S3 hg hm q hdb
        · exact ld_blt (X := X.suite a ((a, o3) :: (X.pn ++ pins))) S3 hg hm hv q hnn hdb
      have LT : PySem.W.Looks (model X.prog X.w) h3 (typeOf (.ref a)) k := fun A Q E s k' q => wpAny_typeOf_ref (k' _ _ g3) (by rw [z3.1]; exact q)
      induction hk with
      | nil =>
        intro w
        apply wpAny_handleBy_nil
        obtain ⟨_, _, _, oe, vs, T, _, _, he, _, hd, h1, _⟩ := id fl3
        unfold PySem.passOn
        refine wpAny_bind (wpAny_field he hd h1 ?_)
        rw [if_neg (by simp : ¬ ((Value.ref T == Value.none) = true))]
        have fin : wpAny (model X.prog X.w) X.A (setFlight (.ref a) X.env.frame) (fun _ s4 => wpAny (model X.prog X.w) X.A (throw (.ref a) : Sem Flow) (SP X pins D) X.xe s4) X.xe { s' with heap := h3 } := by
          rw [hfr]
          exact HandSPX.setFlight_upZ fl3 fun h4 hh4 up4 => wpAny_throw (tk _ _ ⟨a, B, sI, pins, σ', H', k, d, rfl, J, nb, (up.trans up3).trans up4, .inr (.inr (by rw [hst]; exact hh4)), na, os, ag, w⟩)
        first
          | exact wpAny_bind (wpAny_pure (wpAny_bind fin))
          | exact wpAny_bind fin
      | plain hc hsu r ih =>
        intro w
        obtain ⟨b, hb1, yes, no⟩ := w
        refine wpAny_handleBy_cons (codeAny_handlers_test (tst hc ((PySem.W.exm_one (M := model X.prog X.w) J3.kIn LT hb1).here ?_))) (by intro q; cases q)
        cases b with
        | false => exact ih (no rfl)
        | true =>
          refine codeAny_handlers_suite (HandSPX.lands_againZ fl3 fun h4 fl4 up4 => ?_)
          have J4 : Inv X pins σ' H' { s' with heap := h4 } := J.landed nb fl4.1 ((up.trans up3).trans up4) os ag
          obtain ⟨o4, f4, g4, z4, d4⟩ := fl4.there
          refine wpAny_mono ((hsu a o4 k d (X.pn ++ pins) z4 ⟨_, d4⟩).run [] _ _ H' _ (J4.suite g4 d4 na nLoc nOut) (yes rfl a na)) (fun f s6 hsp => ?_) (fun _ _ z => False.elim z)
          cases f with
          | next => obtain ⟨σ6, H6, S6, q6⟩ := hsp; exact ⟨_, _, S6.unsuite xok, q6⟩
          | brk => obtain ⟨σ6, H6, S6, q6⟩ := hsp; exact ⟨_, _, S6.unsuite xok, q6⟩
          | cont => obtain ⟨σ6, H6, S6, q6⟩ := hsp; exact ⟨_, _, S6.unsuite xok, q6⟩
          | ret u => obtain ⟨v6, σ6, H6, S6, r6, q6⟩ := hsp; exact ⟨_, _, _, S6.unsuite xok, r6, q6⟩
      | @named x n i c ts b0 su np hp hs2 l2 hN hi hln hc hsu r ih =>
        intro w
        obtain ⟨b, hb1, yes, no⟩ := w
        refine wpAny_handleBy_cons (codeAny_handlers_test (tst hc ((PySem.W.exm_one (M := model X.prog X.w) J3.kIn LT hb1).here ?_))) (by intro q; cases q)
        cases b with
        | false => exact ih (no rfl)
        | true =>
          refine codeAny_handlers_suite_as (HandSPX.lands_againZ fl3 fun h4 fl4 up4 => ?_)
          have J4 : Inv X pins σ' H' { s' with heap := h4 } := J.landed nb fl4.1 ((up.trans up3).trans up4) os ag
          obtain ⟨o4, f4, g4, z4, d4⟩ := fl4.there
          refine store_ok (X := X.suite a ((a, o4) :: (X.pn ++ pins))) (v := .ref a) (J4.suite g4 d4 na nLoc nOut) hN hi (.inl hln) rfl (fun s5 S5 => ?_) (.inr hln)
          refine wpAny_mono ((hsu a o4 k d (X.pn ++ pins) z4 ⟨_, d4⟩).run [] s5 _ H' _ S5 (yes rfl a na)) (fun f s6 hsp => ?_) (fun _ _ z => False.elim z)
          have fin : ∀ {σ6 : L2.St} {H6 : Hp} {Q : Shared → Prop}, Inv (X.suite a ((a, o4) :: (X.pn ++ pins))) [] σ6 H6 s6 → (∀ s7, Inv X pins (σ6.set i none) H6 s7 → Q s7) → wpAny (model X.prog X.w) X.A (do bindName X.env n .none; unbindBehindTheSuite X.env n hp) (fun _ s7 => Q s7) X.xe s6 := fun {σ6 H6 Q} S6 hq => gone_ok (S6.unsuite xok) hN hi hln hq
          cases f with
          | next => obtain ⟨σ6, H6, S6, q6⟩ := hsp; exact fin S6 fun s7 J7 => ⟨_, _, J7, q6⟩
          | brk => obtain ⟨σ6, H6, S6, q6⟩ := hsp; exact fin S6 fun s7 J7 => ⟨_, _, J7, q6⟩
          | cont => obtain ⟨σ6, H6, S6, q6⟩ := hsp; exact fin S6 fun s7 J7 => ⟨_, _, J7, q6⟩
          | ret u => obtain ⟨v6, σ6, H6, S6, r6, q6⟩ := hsp; exact fin S6 fun s7 J7 => ⟨_, _, _, J7, r6, q6⟩
    exact go hh wish
  refine wpAny_mono ((hb (wMA X.K Wo D l) (X.pn ++ pins) look takes PassesOwn.looking).run [] s σ H D (I.toTry _) h) (fun f s1 hsp => ?_) (fun e s1 he => he)
  cases f with
  | next => obtain ⟨σ', H', J', q⟩ := hsp; exact wpAny_execs_nil ⟨σ', H', J'.ofTry xok, q⟩
  | brk => obtain ⟨σ', H', J', q⟩ := hsp; exact ⟨σ', H', J'.ofTry xok, q⟩
  | cont => obtain ⟨σ', H', J', q⟩ := hsp; exact ⟨σ', H', J'.ofTry xok, q⟩
  | ret u => obtain ⟨v, σ', H', J', r, q⟩ := hsp; exact ⟨v, σ', H', J'.ofTry xok, r, q⟩
end
end MP
/-! Part M: raise and try over the evaluator. -/
namespace MP
open PySem PySem.Spec PyProof.Rows L2
section
variable {K : PySem.W.Frag} {CL : CA} {G G1 G' : Gh} {H H1 H' : Hp} {s s1 : S} {σ : L2.St} {n n1 n' : Nat} {α β γ δ : Type} {R : Rel α β} {Wx : WX} {X : Cx} {p : Addr} {D D' : Ends}
/-! ### an own class without fields is raised -/
structure XIn (CL : CA) (X : Cx) (cn : Str) : Prop where
  is : ∃ C, X.mg cn = some (.ref C) ∧ CL.cl cn C ∧ PySem.W.keepIn X.K (.ref C) = true ∧ Raises X (.ref C) ∧ PySem.W.excIn X.K C [.type "ValueError", .type "Exception", .type "BaseException", .type "object"] "ValueError.__new__" = true
def sRaise (cn : Str) : EM Fl := fun s => .raise ⟨cn, []⟩ s
theorem js_raise {x m : Str} {j : Nat} {p0 p2 p3 pos : Pos} (hc : X.calm = true) (tk : Takes X Wx) (hx : XIn CL X x) (hg : Gl X x) (hdb : (x == ("__debug__" : Str)) = false) :
    JS CL X Wx (.Raise (some (.Call (.Name x p0) [.Constant (.str m) j p2] [] p3)) none pos) (sRaise x) := by
  obtain ⟨C, m1, m2, m3, m4, m5⟩ := hx.is
  refine ps_imp (ps_raise hc tk (pmk_own PySem.F.excBase_ValueError m5 m1 m3 m4 hg hdb)) fun D σ H q => ?_
  obtain ⟨G, s, S, q⟩ := q
  exact q G σ H _ _ Fut.refl S ⟨rfl, rfl, C, rfl, m2⟩
/-! ### slots and the exception in hand -/
def noExn (s : S) : Bool := s.rho.all fun o => match o with
  | some (.exn _) => false
  | _ => true
theorem noExn_at (h : noExn s = true) {i : Nat} {c : Str} : s.rho[i]? ≠ some (some (.exn c)) := fun e => by
  have z := List.all_eq_true.mp h (some (.exn c)) (List.mem_of_getElem? e)
  cases z
def Gh.setEx (G : Gh) (e : Option (Addr × Str)) : Gh := ⟨G.F, G.ad, e⟩
def CA.setEx (CL : CA) (e : Option (Addr × Str)) : CA := ⟨CL.cl, e⟩
theorem RP.setEx {e : Option (Addr × Str)} {pl : Pl} {w : W} {v : V} (hw : ∀ c, w ≠ .exn c) (h : RP K G H pl w v) : RP K (G.setEx e) H pl w v := by
  cases w with
  | exn c => exact absurd rfl (hw c)
  | d y => exact h
  | ref b => exact h
  | own c => exact h
theorem SR.setEx (S : SR K CL G s σ H) (hn : noExn s = true) (e : Option (Addr × Str)) : SR K (CL.setEx e) (G.setEx e) s σ H := by
  refine ⟨S.len, fun i w e' => ?_, fun b c e' => ?_, S.inj, S.live, S.fz, S.bx, S.fd, rfl⟩
  · obtain ⟨v, h1, h2⟩ := S.slots i w e'
    exact ⟨v, h1, h2.setEx fun c z => by subst z; exact noExn_at hn e'⟩
  · obtain ⟨q, h1, h2⟩ := S.boxes b c e'
    refine ⟨q, h1, ?_⟩
    cases c with
    | ctr c => exact h2
    | inst cls fs =>
      obtain ⟨C, dx, vfs, g1, g2, g3, g4⟩ := h2
      refine ⟨C, dx, vfs, g1, g2, g3, fun f w hw => ?_⟩
      obtain ⟨v, k1, k2, g9⟩ := g4 f w hw
      exact ⟨v, k1, k2.setEx (fun c z => by subst z; exact g9.elim), g9⟩
theorem Fut.setEx {e e' : Option (Addr × Str)} (f : Fut G H n G' H' n') : Fut (G.setEx e) H n (G'.setEx e) H' n' := ⟨f.fr, f.oth, f.there, f.newF, f.newA, f.box, f.le, rfl⟩
/-- a slot is forgotten, or holds the exception -/
theorem SR.put0 (S : SR K CL G s σ H) {i : Nat} {o : Option W} {u : Option V} (hi : i < σ.length) (ho : ∀ w, o = some w → ∃ v c, u = some v ∧ w = .exn c ∧ RP K G H (.slot i) w v) :
    SR K CL (G.put (.slot i) none) { s with rho := s.rho.set i o } (σ.set i u) H ∧ ∀ {n : Nat}, Fut G H n (G.put (.slot i) none) H n := by
  have hb : ∀ b, Pl.slot i ≠ .box b := fun b z => by cases z
  refine ⟨⟨by simpa using S.len, fun j w' e => ?_, fun b c e => ?_, fun pl pl' x e1 e2 => S.inj pl pl' x (Gh.put_none e1).2 (Gh.put_none e2).2, fun pl x e => S.live pl x (Gh.put_none e).2, fun x f => ⟨(S.fz x f).1, fun pl e => (S.fz x f).2 pl (Gh.put_none e).2⟩, fun b x e => S.bx b x (Gh.put_none e).2, fun b f x e => S.fd b f x (Gh.put_none e).2, S.exq⟩,
    fun {n} => ⟨fun _ h => h, fun a o e _ => e, fun a o e => ⟨o, e⟩, fun _ h => .inl h, fun pl x h => .inr ⟨pl, (Gh.put_none h).2⟩, fun b x _ e => by rw [Gh.put_ne (fun z => hb b z.symm)]; exact e, Nat.le_refl _, rfl⟩⟩
  · by_cases hj : j = i
    · subst hj
      rw [List.getElem?_set_self (by rw [S.len]; exact hi)] at e
      cases e
      obtain ⟨v, c, hu, rfl, h⟩ := ho w' rfl
      subst hu
      exact ⟨v, List.getElem?_set_self hi, h⟩
    · rw [List.getElem?_set_ne (Ne.symm hj)] at e
      obtain ⟨v', h1, h2⟩ := S.slots j w' e
      exact ⟨v', by rw [List.getElem?_set_ne (Ne.symm hj)]; exact h1, h2.put (fun z => hj (by cases z; rfl)) hb⟩
  · obtain ⟨q, h1, h2⟩ := S.boxes b c e
    refine ⟨q, by rw [Gh.put_ne (fun z => hb b z.symm)]; exact h1, ?_⟩
    cases c with
    | ctr c => exact h2
    | inst cls fs =>
      obtain ⟨C, dx, vfs, g1, g2, g3, g4⟩ := h2
      refine ⟨C, dx, vfs, g1, g2, g3, fun f w hw => ?_⟩
      obtain ⟨v, k1, k2, g9⟩ := g4 f w hw
      exact ⟨v, k1, k2.put (fun z => by cases z) hb, g9⟩
/-! ### isinstance of the exception in hand -/
abbrev Tab := Str → Str → Option Bool
def cIsE (tab : Tab) (i : Nat) (T : Str) : EM W := fun s => match s.rho[i]? with
  | some (some (.exn c)) => match tab c T with
    | some b => .ok (.d (.bool b)) s
    | none => .stuck
  | _ => .stuck
theorem je_isE {tab : Tab} {i : Nat} {x y tn : Str} {p0 p1 p2 pos : Pos} {a : Addr} {oe : Obj} {pn : List (Addr × Obj)} {v : V} {u : Value} (hex : ∀ a' c, CL.ex = some (a', c) → a' = a ∧ ∃ C, CL.cl c C ∧ ExcC X.K C ∧ Zc (.ref C) none oe ∧ ∀ b, tab c tn = some b → PySem.W.kitOne X.K (.ref C) u = some b)
    (hf : ∃ vs, oe.data = .fields vs) (hg : Gl X x) (hm : X.mg x = none) (hb : bootBuiltins x = some (.builtin "isinstance")) (hn : x ≠ "__name__") (hdb : (x == ("__debug__" : Str)) = false)
    (hy : PE (X.suite a ((a, oe) :: pn)) (.Name y p1) (tVar i)) (ht : PE (X.suite a ((a, oe) :: pn)) (.Name tn p2) (tC v)) (hu : ∀ w, RelV v w → w = u) :
    JE CL (X.suite a ((a, oe) :: pn)) Wx (.Call (.Name x p0) [.Name y p1, .Name tn p2] [] pos) (cIsE tab i tn) := by
  constructor
  intro pins s0 σ H Q I q
  obtain ⟨G, s, S, q⟩ := q
  unfold cIsE at q
  cases e : s.rho[i]? with
  | none => simp only [e] at q; exact q.elim
  | some o =>
    cases o with
    | none => simp only [e] at q; exact q.elim
    | some w =>
      cases w with
      | d y => simp only [e] at q; exact q.elim
      | ref y => simp only [e] at q; exact q.elim
      | own y => simp only [e] at q; exact q.elim
      | exn c =>
        simp only [e] at q
        cases e1 : tab c tn with
        | none => simp only [e1] at q; exact q.elim
        | some b =>
          simp only [e1] at q
          obtain ⟨v', hv, a', rfl, hge⟩ := S.slots i _ e
          obtain ⟨rfl, C, h1, h2, h3, h4⟩ := hex a' c (S.exq.symm.trans hge)
          refine (pe_callB (call_isE h2 h3 hf) hg hm hb (pa_cons hy (pa_cons ht pa_nil)) hn hdb).run pins s0 σ H Q I ?_
          exact ⟨_, hv, v, u, b, rfl, hu, h4 b e1, q G H _ Fut.refl S (RD.bool b)⟩
/-! ### try -/
structure Hd where
  cn : Str
  sl : Option Nat
  su : EM Fl
def finH (sl : Option Nat) (r : Res Fl) : Res Fl := match r with
  | .ok f s => match sl with
    | none => if noExn s = true then .ok f s else .stuck
    | some i => if i < s.rho.length ∧ noExn { s with rho := s.rho.set i none } = true then .ok f { s with rho := s.rho.set i none } else .stuck
  | _ => .stuck
def handle (tab : Tab) : List Hd → Ex → EM Fl
  | [], x => fun s => .raise x s
  | h :: r, x => fun s => match tab x.cls h.cn with
    | some true => if noExn s = true then match h.sl with
        | none => finH none (h.su s)
        | some i => if i < s.rho.length then finH (some i) (h.su { s with rho := s.rho.set i (some (.exn x.cls)) }) else .stuck
      else .stuck
    | some false => handle tab r x s
    | none => .stuck
def sTry (tab : Tab) (body : EM Fl) (hs : List Hd) : EM Fl := fun s => match body s with
  | .raise x s' => handle tab hs x s'
  | r => r
/-- the clauses and their suites -/
inductive JH (CL : CA) (X : Cx) (tab : Tab) : List ExceptHandler → List Hd → List (Value × Option Nat × (Addr → Value → Option Addr → TS)) → Prop
  | nil : JH CL X tab [] [] []
  | cons {x : Str} {n : Option Str} {sl : Option Nat} {c : Value} {su : EM Fl} {b0 : Stmt} {sts : List Stmt} {np hp : Pos} {hs : List ExceptHandler} {ms : List Hd} {l : List (Value × Option Nat × (Addr → Value → Option Addr → TS))}
      (hc : Names X x c) (ht : ∀ cls C b, CL.cl cls C → tab cls x = some b → PySem.W.exmOne X.K (.ref C) c = some b)
      (hsl : match n, sl with | none, none => True | some n, some i => X.N[i]? = some n ∧ X.env.kindOf n = some .local | _, _ => False)
      (hsu : ∀ (a : Addr) (oe : Obj) (cn : Str) (C : Addr) (pn : List (Addr × Obj)), CL.cl cn C → Zc (.ref C) none oe → (∃ vs, oe.data = .fields vs) → JB (CL.setEx (some (a, cn))) (X.suite a ((a, oe) :: pn)) (fun _ _ _ _ => False) (b0 :: sts) su)
      (r : JH CL X tab hs ms l) :
      JH CL X tab (.ExceptHandler (some (.Name x np)) n (b0 :: sts) hp :: hs) (⟨x, sl, su⟩ :: ms)
        ((c, sl, fun a k d D σ H => ∃ cn C, k = .ref C ∧ CL.cl cn C ∧ d = none ∧ tsOf X.K (CL.setEx (some (a, cn))) (fun _ _ _ _ => False) su D σ H) :: l)
theorem JH.hd (hN : X.N.Nodup) {tab : Tab} : ∀ {hs : List ExceptHandler} {ms : List Hd} {l : List (Value × Option Nat × (Addr → Value → Option Addr → TS))}, JH CL X tab hs ms l → HdA X hs l
  | _, _, _, .nil => .nil
  | _, _, _, .cons (n := n) (sl := sl) (su := su) (b0 := b0) (sts := sts) hc ht hsl hsu r => by
    have su' : ∀ (a : Addr) (oe : Obj) (k : Value) (d : Option Addr) (pn : List (Addr × Obj)), Zc k d oe → (∃ vs, oe.data = .fields vs) →
        PSs (X.suite a ((a, oe) :: pn)) (b0 :: sts) (fun D σ H => ∃ cn C, k = .ref C ∧ CL.cl cn C ∧ d = none ∧ tsOf X.K (CL.setEx (some (a, cn))) (fun _ _ _ _ => False) su D σ H) := fun a oe k d pn hz hd => ⟨fun pins s σ H D I q => by
      obtain ⟨cn, C, rfl, h1, rfl, q⟩ := q
      exact (hsu a oe cn C pn h1 hz hd).run pins s σ H D I q⟩
    cases n with
    | none =>
      cases sl with
      | none => exact .plain hc su' (r.hd hN)
      | some i => exact hsl.elim
    | some n =>
      cases sl with
      | none => exact hsl.elim
      | some i => exact .named hN hsl.1 hsl.2 hc su' (r.hd hN)
theorem FutEx {e : Option (Addr × Str)} (f : Fut (G.setEx e) H n G' H' n') : Fut G H n (G'.setEx G.ex) H' n' := ⟨f.fr, f.oth, f.there, f.newF, f.newA, f.box, f.le, rfl⟩
theorem noRes {r : Res Fl} {sl : Option Nat} (q : PostS K CL Wx D G n H (finH sl r)) : ∃ f s, r = .ok f s := by
  cases r with
  | ok f s => exact ⟨f, s, rfl⟩
  | raise x s => exact q.elim
  | stuck => exact q.elim
theorem RW.setEx {e : Option (Addr × Str)} {w : W} {v : V} (h : RW K G H w v) : RW K (G.setEx e) H w v := by
  cases w with
  | exn c => exact h.elim
  | d y => exact h
  | ref b => exact h
  | own c => exact h.elim
theorem RW.put {i : Nat} {a : Option Addr} {w : W} {v : V} (h : RW K G H w v) : RW K (G.put (.slot i) a) H w v := by
  cases w with
  | exn c => exact h.elim
  | d y => exact h
  | ref b =>
    obtain ⟨q, e1, e2⟩ := h
    exact ⟨q, e1, by rw [Gh.put_ne (fun z => by cases z)]; exact e2⟩
  | own c => exact h.elim
/-- a suite's end: the slot is let go, the exception is no more in hand -/
theorem finH_ok {sl : Option Nat} {r : Res Fl} {e : Option (Addr × Str)} (hG : G.ex = CL.ex) (q : PostS K CL Wx D G n H (finH sl r)) :
    PostS K (CL.setEx e) (fun _ _ _ _ => False) (match sl with
      | none => D
      | some i => { nx := fun σ' H' => D.nx (σ'.set i none) H', rt := D.rt, bk := fun σ' H' => D.bk (σ'.set i none) H', ct := fun σ' H' => D.ct (σ'.set i none) H' }) (G.setEx e) n H r := by
  obtain ⟨f, s', rfl⟩ := noRes q
  cases sl with
  | none =>
    have q : PostS K CL Wx D G n H (if noExn s' = true then .ok f s' else .stuck) := q
    by_cases hn : noExn s' = true
    · rw [if_pos hn] at q
      have back : ∀ {G' : Gh} {σ' : L2.St} {H' : Hp}, Fut (G.setEx e) H n G' H' s'.mem.length → SR K (CL.setEx e) G' s' σ' H' → Fut G H n (G'.setEx CL.ex) H' s'.mem.length ∧ SR K CL (G'.setEx CL.ex) s' σ' H' := fun {G' σ' H'} f S =>
        ⟨by rw [← hG]; exact FutEx f, S.setEx hn CL.ex⟩
      cases f with
      | next => exact fun G' σ' H' f S => q _ σ' H' (back f S).1 (back f S).2
      | brk => exact fun G' σ' H' f S => q _ σ' H' (back f S).1 (back f S).2
      | cont => exact fun G' σ' H' f S => q _ σ' H' (back f S).1 (back f S).2
      | ret w => exact fun G' σ' v H' f S r => q _ σ' v H' (back f S).1 (back f S).2 r.setEx
    · rw [if_neg hn] at q; exact q.elim
  | some i =>
    have q : PostS K CL Wx D G n H (if i < s'.rho.length ∧ noExn { s' with rho := s'.rho.set i none } = true then .ok f { s' with rho := s'.rho.set i none } else .stuck) := q
    by_cases hn : i < s'.rho.length ∧ noExn { s' with rho := s'.rho.set i none } = true
    · rw [if_pos hn] at q
      have back : ∀ {G' : Gh} {σ' : L2.St} {H' : Hp}, Fut (G.setEx e) H n G' H' s'.mem.length → SR K (CL.setEx e) G' s' σ' H' →
          Fut G H n ((G'.put (.slot i) none).setEx CL.ex) H' s'.mem.length ∧ SR K CL ((G'.put (.slot i) none).setEx CL.ex) { s' with rho := s'.rho.set i none } (σ'.set i none) H' := fun {G' σ' H'} f S => by
        obtain ⟨S2, f2⟩ := S.put0 (i := i) (o := none) (u := none) (by rw [← S.len]; exact hn.1) (fun w z => by cases z)
        have f3 := FutEx (f.trans (f2 (n := s'.mem.length)))
        exact ⟨by rw [← hG]; exact f3, S2.setEx hn.2 CL.ex⟩
      cases f with
      | next => exact fun G' σ' H' f S => q _ _ H' (back f S).1 (back f S).2
      | brk => exact fun G' σ' H' f S => q _ _ H' (back f S).1 (back f S).2
      | cont => exact fun G' σ' H' f S => q _ _ H' (back f S).1 (back f S).2
      | ret w => exact fun G' σ' v H' f S r => q _ _ v H' (back f S).1 (back f S).2 r.put.setEx
    · rw [if_neg hn] at q; exact q.elim
theorem handle_ok {tab : Tab} {x : Ex} {C : Addr} (hx : x.flds = []) (hC : CL.cl x.cls C) : ∀ {hs : List ExceptHandler} {ms : List Hd} {l : List (Value × Option Nat × (Addr → Value → Option Addr → TS))} {s : S} {σ : L2.St}, JH CL X tab hs ms l → SR X.K CL G s σ H → PostS X.K CL Wx D G s.mem.length H (handle tab ms x s) → wMA X.K Wx D l (.ref C) none σ H
  | _, _, _, s, σ, .nil, S, q => q G σ H (.ref C) none Fut.refl S ⟨hx, rfl, C, rfl, hC⟩
  | _, _, _, s, σ, .cons (x := hn) (sl := sl) (su := su) hc ht hsl hsu r, S, q => by
    unfold handle at q
    cases e : tab x.cls hn with
    | none => simp only [e] at q; exact q.elim
    | some b =>
      have hb := ht x.cls C b hC e
      cases b with
      | false =>
        simp only [e] at q
        have rest := handle_ok hx hC r S q
        cases sl with
        | none => exact ⟨false, hb, fun z => (nomatch z), fun _ => rest⟩
        | some i => exact ⟨false, hb, fun z => (nomatch z), fun _ => rest⟩
      | true =>
        simp only [e] at q
        by_cases hx0 : noExn s = true
        · rw [if_pos hx0] at q
          cases sl with
          | none =>
            refine ⟨true, hb, fun _ a ha => ⟨x.cls, C, rfl, hC, rfl, G.setEx (some (a, x.cls)), s, S.setEx hx0 _, ?_⟩, fun z => by cases z⟩
            exact finH_ok (sl := none) S.exq q
          | some i =>
            have q : PostS X.K CL Wx D G s.mem.length H (if i < s.rho.length then finH (some i) (su { s with rho := s.rho.set i (some (.exn x.cls)) }) else .stuck) := q
            by_cases hi : i < s.rho.length
            · rw [if_pos hi] at q
              refine ⟨true, hb, fun _ a ha => ?_, fun z => by cases z⟩
              obtain ⟨S2, f2⟩ := (S.setEx hx0 (some (a, x.cls))).put0 (i := i) (o := some (.exn x.cls)) (u := some (.ref a)) (by rw [← S.len]; exact hi) (fun w z => by cases z; exact ⟨.ref a, x.cls, rfl, rfl, a, rfl, rfl⟩)
              refine ⟨x.cls, C, rfl, hC, rfl, _, _, S2, ?_⟩
              exact PostS.later (f2 (n := s.mem.length)) (finH_ok (sl := some i) S.exq q)
            · rw [if_neg hi] at q; exact q.elim
        · rw [if_neg hx0] at q; exact q.elim
theorem js_try {tab : Tab} {body : List Stmt} {mb : EM Fl} {h0 : ExceptHandler} {hs : List ExceptHandler} {ms : List Hd} {l : List (Value × Option Nat × (Addr → Value → Option Addr → TS))} {pos : Pos} (hN : X.N.Nodup) (hst : X.stack = X.env :: X.outer) (hfr : X.env.frame = some X.env.locals) (tk : Takes X Wx)
    (hb : ∀ (W' : WX) (pn : List (Addr × Obj)) (xe : Value → Shared → Prop), Takes (X.tr pn xe) W' → PassesOwn (model X.prog X.w) X.A X.env xe → JB CL (X.tr pn xe) W' body mb)
    (hh : JH CL X tab (h0 :: hs) ms l) : JS CL X Wx (.Try body (h0 :: hs) [] [] pos) (sTry tab mb ms) :=
  ps_imp (ps_tryA (tb := fun W' => tsOf X.K CL W' mb) hst hfr tk hb (hh.hd hN)) fun D σ H q => by
    obtain ⟨G, s, S, q⟩ := q
    refine ⟨G, s, S, ?_⟩
    unfold sTry at q
    cases e : mb s with
    | stuck => rw [e] at q; exact q.elim
    | ok f s' =>
      rw [e] at q
      cases f with
      | next => exact q
      | brk => exact q
      | cont => exact q
      | ret w => exact q
    | raise x s' =>
      rw [e] at q
      intro G' σ' H' cls d f S' r
      obtain ⟨h1, rfl, C, rfl, h3⟩ := r
      exact handle_ok h1 h3 hh S' (PostS.later f q)
end
end MP
/-! Part N: a def's body and its promise. -/
namespace MP
open PySem PySem.Spec PyProof.Rows L2
section
variable {K : PySem.W.Frag} {CL : CA} {G G1 G' : Gh} {H H1 H' : Hp} {s s1 : S} {σ : L2.St} {n n1 n' : Nat} {α β γ δ : Type} {R : Rel α β} {Wx : WX} {X : Cx} {p : Addr} {D D' : Ends}
/-- boxes from n on are let go -/
def Gh.cut (G : Gh) (n : Nat) : Gh := ⟨G.F, fun pl => match pl with
  | .slot _ => none
  | .box b => if b < n then G.ad (.box b) else none
  | .fld b f => if b < n then G.ad (.fld b f) else none, G.ex⟩
theorem Gh.cut_some {pl : Pl} {a : Addr} (h : (G.cut n).ad pl = some a) : G.ad pl = some a ∧ (∀ i, pl ≠ .slot i) ∧ (∀ b, pl = .box b → b < n) ∧ ∀ b f, pl = .fld b f → b < n := by
  cases pl with
  | slot i => cases h
  | box b =>
    have h : (if b < n then G.ad (.box b) else none) = some a := h
    by_cases hb : b < n
    · rw [if_pos hb] at h
      exact ⟨h, fun i z => (nomatch z), fun b' z => by cases z; exact hb, fun b' f z => by cases z⟩
    · rw [if_neg hb] at h; cases h
  | fld b f =>
    have h : (if b < n then G.ad (.fld b f) else none) = some a := h
    by_cases hb : b < n
    · rw [if_pos hb] at h
      exact ⟨h, fun i z => (nomatch z), fun b' z => (nomatch z), fun b' f z => by cases z; exact hb⟩
    · rw [if_neg hb] at h; cases h
theorem Gh.cut_box {b : Nat} (hb : b < n) : (G.cut n).ad (.box b) = G.ad (.box b) := if_pos hb
theorem Gh.cut_fld {b : Nat} {f : Str} (hb : b < n) : (G.cut n).ad (.fld b f) = G.ad (.fld b f) := if_pos hb
theorem SR.cut (S : SR K CL G s σ H) (hn : n ≤ s.mem.length) : SR K CL (G.cut n) ⟨[], s.mem.take n⟩ [] H := by
  refine ⟨rfl, fun i w e => by simp at e, fun b c e => ?_, fun pl pl' x e1 e2 => S.inj pl pl' x (Gh.cut_some e1).1 (Gh.cut_some e2).1, fun pl x e => S.live pl x (Gh.cut_some e).1, fun x f => ⟨(S.fz x f).1, fun pl e => (S.fz x f).2 pl (Gh.cut_some e).1⟩, fun b x e => ?_, fun b f x e => ?_, S.exq⟩
  · have e : (s.mem.take n)[b]? = some c := e
    have hb : b < n := by
      by_cases hb : b < n
      · exact hb
      · rw [List.getElem?_eq_none (by rw [List.length_take]; omega)] at e; cases e
    rw [List.getElem?_take_of_lt hb] at e
    obtain ⟨q, h1, h2⟩ := S.boxes b c e
    refine ⟨q, by rw [Gh.cut_box hb]; exact h1, ?_⟩
    cases c with
    | ctr c => exact h2
    | inst cls fs =>
      obtain ⟨C, dx, vfs, g1, g2, g3, g4⟩ := h2
      refine ⟨C, dx, vfs, g1, g2, g3, fun f w hw => ?_⟩
      obtain ⟨v, k1, k2, g9⟩ := g4 f w hw
      refine ⟨v, k1, ?_, g9⟩
      cases w with
      | exn c => exact g9.elim
      | d y => exact k2
      | ref b' =>
        obtain ⟨x, e1, e2⟩ := k2
        exact ⟨x, e1, by rw [Gh.cut_box (Nat.lt_trans g9 hb)]; exact e2⟩
      | own c =>
        obtain ⟨x, e1, e2, e3⟩ := k2
        exact ⟨x, e1, by rw [Gh.cut_fld hb]; exact e2, e3⟩
  · have := (Gh.cut_some e).2.2.1 b rfl
    rw [List.length_take]
    omega
  · have := (Gh.cut_some e).2.2.2 b f rfl
    rw [List.length_take]
    omega
theorem Fut.cut (f : Fut G H n G' H' n') : Fut G H n (G'.cut n) H' n :=
  ⟨f.fr, f.oth, f.there, f.newF, fun pl x e => f.newA pl x (Gh.cut_some e).1, fun b x hb e => by rw [Gh.cut_box hb]; exact f.box b x hb e, Nat.le_refl _, f.ex⟩
theorem Fut.bare (f : Fut G H n G' H' n') : Fut G H n G'.enter H' n' :=
  ⟨f.fr, f.oth, f.there, f.newF, fun pl x e => f.newA pl x (Gh.enter_some e).1, f.box, f.le, f.ex⟩
/-- the def's own run -/
def exitF (n0 : Nat) : Res Fl → Res W
  | .ok (.ret (.d x)) s => .ok (.d x) ⟨[], s.mem.take n0⟩
  | .ok (.ret (.ref b)) s => .ok (.ref b) ⟨[], s.mem⟩
  | .ok .next s => .ok (.d .none) ⟨[], s.mem.take n0⟩
  | .raise x s => .raise x ⟨[], s.mem.take n0⟩
  | _ => .stuck
def runF (n : Nat) (m : EM Fl) (ws : List W) (mem : List Box) : Res W := exitF mem.length (m ⟨ws.map some ++ List.replicate (n - ws.length) none, mem⟩)
theorem SR.start {mem : List Box} {ws : List W} {vs : List V} {N : List Str} (S : SR K CL G ⟨[], mem⟩ [] H) (r : rArg K G H ws vs) : SR K CL G ⟨ws.map some ++ List.replicate (N.length - ws.length) none, mem⟩ (start N vs) H := by
  have hl := Paired.length r
  refine ⟨?_, fun i w e => ?_, S.boxes, S.inj, S.live, S.fz, S.bx, S.fd, S.exq⟩
  · show (ws.map some ++ List.replicate (N.length - ws.length) none).length = (vs.map some ++ List.replicate (N.length - vs.length) none).length
    simp [hl]
  · have e : (ws.map some ++ List.replicate (N.length - ws.length) none)[i]? = some (some w) := e
    have hi : i < ws.length := by
      by_cases hi : i < ws.length
      · exact hi
      · rw [List.getElem?_append_right (by simp; omega)] at e
        have z := List.mem_of_getElem? e
        have := List.eq_of_mem_replicate z
        cases this
    rw [List.getElem?_append_left (by simpa using hi), List.getElem?_map] at e
    cases e1 : ws[i]? with
    | none => rw [e1] at e; cases e
    | some w' =>
      rw [e1] at e
      cases e
      have get : ∀ {ws : List W} {vs : List V} {i : Nat}, rArg K G H ws vs → ws[i]? = some w → ∃ v, vs[i]? = some v ∧ RW K G H w v := by
        intro ws vs i r
        induction r generalizing i with
        | nil => intro e; simp at e
        | cons h t ih =>
          intro e
          cases i with
          | zero => simp at e; subst e; exact ⟨_, rfl, h⟩
          | succ i => simpa using ih (by simpa using e)
      obtain ⟨v, hv, h⟩ := get r e1
      refine ⟨v, ?_, ?_⟩
      · show (vs.map some ++ List.replicate (N.length - vs.length) none)[i]? = some (some v)
        rw [List.getElem?_append_left (by rw [List.length_map, ← hl]; exact hi), List.getElem?_map, hv]
        rfl
      · cases w with
        | exn c => exact h.elim
        | d y => exact h
        | ref b => exact h
        | own c => exact h.elim
/-- THE RULE of a def -/
theorem fn_sound {P : Program} {w : World} {mg : Str → Option Value} {base : Heap} {x qual : Str} {st : Stmt} {f : Addr} {fd : FuncData} {N ps : List Str} {k : Nat} {m : EM Fl} (F : Fun K x qual st f fd) (Sc : FnScope N ps (defScope st))
    (hb : ∀ (cdv : Value) (A : Around) (outer : List Env) (s : Shared) (H : Hp) (E : XK), Room k (A.deeper (envOfC qual (defScope st) s.heap.objs.size f cdv)) →
      JB CL (cxOf (L2.CX P w) P w K mg base N qual (defScope st) f cdv A outer s H E) (fun cls d _ H => E cls d H) (defBody st) m) :
    FnOk P w K mg base (L2.CX P w) (k + 1) f fd ps (spF K CL ps.length (runF N.length m)) := by
  refine F.okX Sc (fun vs H Q E h => ?_) (fun cdv A outer s H vs Q E hr h => ?_)
  · obtain ⟨G, ws, mem, hl, _⟩ := h
    exact hl
  · obtain ⟨G, ws, mem, hl, S, hs, r, q⟩ := h
    refine ⟨_, hb cdv A outer s H E hr, G, _, S.start (N := N) r, ?_⟩
    unfold runF at q
    have hle : ∀ {G' : Gh} {H' : Hp} {n' : Nat}, Fut G H mem.length G' H' n' → mem.length ≤ n' := fun f => f.le
    cases e : m ⟨ws.map some ++ List.replicate (N.length - ws.length) none, mem⟩ with
    | stuck => rw [e] at q; exact q.elim
    | raise x s' =>
      rw [e] at q
      intro G' σ' H' cls d f' S' rx
      exact q (G'.cut mem.length) H' cls d (by simpa [List.length_take, Nat.min_eq_left (hle f')] using f'.cut) (S'.cut (hle f')) rx
    | ok fl s' =>
      rw [e] at q
      cases fl with
      | next =>
        intro G' σ' H' f' S'
        exact q (G'.cut mem.length) H' .non (by simpa [List.length_take, Nat.min_eq_left (hle f')] using f'.cut) (S'.cut (hle f')) RD.none
      | brk => exact q.elim
      | cont => exact q.elim
      | ret w =>
        cases w with
        | exn c => exact q.elim
        | own c => exact q.elim
        | d y =>
          intro G' σ' v H' f' S' rw'
          exact q (G'.cut mem.length) H' v (by simpa [List.length_take, Nat.min_eq_left (hle f')] using f'.cut) (S'.cut (hle f')) rw'
        | ref b =>
          intro G' σ' v H' f' S' rw'
          exact q G'.enter H' v f'.bare S'.enter rw'
end
end MP
/-! Part O: the evaluator of expressions over the syntax. -/
namespace MP
open PySem PySem.Spec PyProof.Rows L2
/-- a def as the evaluator knows it: parameters, slots, body, scope, which parameters take boxes, the keyword calls -/
structure FI where
  ps : List Str
  N : List Str
  body : List Stmt
  sc : Scope
  bx : List Bool
  kws : List (List Str)
  rb : Bool
structure GE where
  fns : List (Str × FI)
  consts : List (Str × PyData)
  blt : List Str
  gcd : List Str
  excs : List Str
  excn : List Str
  tab : Tab
structure Cxt where
  N : List Str
  sc : Scope
  hot : Bool
structure R3 where
  v : EM W
  t : EM Bool
  n : Option (EM Ob)
  sl : Option Nat
def R3.o (r : R3) : Opd := match r.sl with
  | some i => .var i
  | none => .ex r.v
def dead : R3 := ⟨es, es, none, none⟩
def ofV (m : EM W) : R3 := ⟨m, cTru (.ex m), none, none⟩
def ofT (m : EM W) (t : EM Bool) : R3 := ⟨m, t, none, none⟩
def ofN (m : EM Ob) : R3 := ⟨cFrz m, cTru (.ex (cFrz m)), some m, none⟩
def ofS (i : Nat) : R3 := ⟨cVar i, cTru (.var i), none, some i⟩
/-! ### names -/
def ixOf : List Str → Str → Option Nat
  | [], _ => none
  | y :: ys, x => if y = x then some 0 else (ixOf ys x).map (· + 1)
theorem ixOf_ok : ∀ {N : List Str} {x : Str} {i : Nat}, ixOf N x = some i → N[i]? = some x
  | [], _, _, h => by cases h
  | y :: ys, x, i, h => by
    unfold ixOf at h
    by_cases e : y = x
    · rw [if_pos e] at h
      cases h
      rw [e]; rfl
    · rw [if_neg e] at h
      cases e1 : ixOf ys x with
      | none => rw [e1] at h; cases h
      | some j =>
        rw [e1] at h
        cases h
        have z := ixOf_ok e1
        show (y :: ys)[j + 1]? = some x
        simpa using z
def sDebug : Str := ⟨#[95, 95, 100, 101, 98, 117, 103, 95, 95]⟩
def sClassdict : Str := ⟨#[95, 95, 99, 108, 97, 115, 115, 100, 105, 99, 116, 95, 95]⟩
def sNameN : Str := ⟨#[95, 95, 110, 97, 109, 101, 95, 95]⟩
theorem sDebug_eq : sDebug = ("__debug__" : Str) := by kernel_rfl
theorem sClassdict_eq : sClassdict = ("__classdict__" : Str) := by kernel_rfl
theorem sNameN_eq : sNameN = ("__name__" : Str) := by kernel_rfl
/-- no name with a meaning of its own -/
def tame (x : Str) : Bool := !(decide (x = sDebug) || decide (x = sClassdict) || decide (x = sNameN))
theorem tame_ok {x : Str} (h : tame x = true) : (x == ("__debug__" : Str)) = false ∧ (x == ("__classdict__" : Str)) = false ∧ x ≠ "__name__" := by
  unfold tame at h
  simp only [Bool.not_eq_true', Bool.or_eq_false_iff, decide_eq_false_iff_not] at h
  obtain ⟨⟨h1, h2⟩, h3⟩ := h
  exact ⟨beq_eq_false_iff_ne.mpr (by rw [← sDebug_eq]; exact h1), beq_eq_false_iff_ne.mpr (by rw [← sClassdict_eq]; exact h2), by rw [← sNameN_eq]; exact h3⟩
def slotOf (c : Cxt) (x : Str) : Option Nat := if tame x = true then match c.sc.names.lookup x with
    | some .local => ixOf c.N x
    | some .cell => ixOf c.N x
    | some .free => ixOf c.N x
    | _ => none
  else none
def isGl (c : Cxt) (x : Str) : Bool := tame x && (match c.sc.names.lookup x with
  | some .globalImplicit => true
  | _ => false)
def evName (g : GE) (c : Cxt) (x : Str) : R3 := match slotOf c x with
  | some i => ofS i
  | none => if isGl c x = true then match g.consts.lookup x with
      | some d => ofV (er (.d d))
      | none => dead
    else dead
/-! ### shapes -/
def noStar : Expr → Bool
  | .Starred _ _ => false
  | _ => true
def noSlice : Expr → Bool
  | .Slice _ _ _ _ => false
  | _ => true
def noSet : Expr → Bool
  | .Set _ _ _ => false
  | _ => true
def noComp : Expr → Bool
  | .ListComp _ _ _ _ => false
  | .SetComp _ _ _ _ => false
  | .DictComp _ _ _ _ _ => false
  | _ => true
def noTup : Expr → Bool
  | .Tuple _ _ _ => false
  | _ => true
theorem noStar_ok {e : Expr} {es : List Expr} {env : Env} (h : noStar e = true) : starEach (e :: es) env = (false, eval e env) :: starEach es env := by
  cases e <;> first | rfl | cases h
theorem noSlice_ok {e : Expr} (h : noSlice e = true) : PlainIx e := by
  intro o i
  cases e <;> first | rfl | cases h
theorem noSet_ok {e : Expr} {op : CmpOp} (h : noSet e = true) : behindInMarks op e = false := by
  cases e <;> first | rfl | cases h
theorem noSet_fold {e : Expr} {env : Env} (h : noSet e = true) : ∀ x, foldedSetIterable e env x = pure x := by
  intro x
  cases e <;> first | rfl | cases h
theorem noComp_ok {e : Expr} {t : Option Expr} {l : Nat} {env : Env} (h : noComp e = true) : swapsWith e t l env = pure false := by
  cases e <;> first | rfl | cases h
/-! ### operators -/
def binF : Operator → Option (PyData → PyData → Option PyData)
  | .Add => some fAdd
  | .Sub => some fSub
  | .Mult => some fMul
  | .FloorDiv => some fDiv
  | .Mod => some fMod
  | .Pow => some fPow
  | _ => none
def cmpF : CmpOp → Option (PyData → PyData → Option PyData)
  | .Eq => some fEq
  | .NotEq => some fNe
  | .Lt => some (fCmpI fun i j => decide (i < j))
  | .LtE => some (fCmpI fun i j => decide (i ≤ j))
  | .Gt => some (fCmpI fun i j => decide (j < i))
  | .GtE => some (fCmpI fun i j => decide (j ≤ i))
  | .Is => some fIsN
  | .IsNot => some fNotN
  | _ => none
theorem binF_ok {X : Cx} {op : Operator} {f : PyData → PyData → Option PyData} (h : binF op = some f) : ∃ r, OpR X (binaryOp op) r ∧ Op2 X.K r f := by
  cases op <;> first | (cases h; done) | (cases h; exact ⟨_, op_addA, ok_add⟩) | (cases h; exact ⟨_, op_sub, ok_sub⟩) | (cases h; exact ⟨_, op_mulA, ok_mul⟩) | (cases h; exact ⟨_, op_fdivW, ok_div⟩) | (cases h; exact ⟨_, op_mod, ok_mod⟩) | (cases h; exact ⟨_, op_pow, ok_pow⟩)
theorem cmpF_ok {X : Cx} (hu : X.A.units + 64 < cLine) {op : CmpOp} {f : PyData → PyData → Option PyData} (h : cmpF op = some f) : ∃ r, OpR X (compareOp op) r ∧ Op2 X.K r f := by
  cases op <;> first | (cases h; done) | (cases h; exact ⟨_, op_eqA hu, ok_eq⟩) | (cases h; exact ⟨_, op_neA hu, ok_ne⟩) | (cases h; exact ⟨_, op_lt, ok_cmpI⟩) | (cases h; exact ⟨_, op_le, ok_cmpI⟩) | (cases h; exact ⟨_, op_gt, ok_cmpI⟩) | (cases h; exact ⟨_, op_ge, ok_cmpI⟩) | (cases h; exact ⟨_, op_isN, ok_isN⟩) | (cases h; exact ⟨_, op_notN, ok_notN⟩)
/-- the same as op= (ints; texts, lists that are data) -/
def augF : Operator → Option (PyData → PyData → Option PyData)
  | .Add => some fAugAdd
  | .Sub => some fSub
  | .Mult => some fMul
  | _ => none
where fAugAdd : PyData → PyData → Option PyData
  | .int i, .int j => some (.int (i + j))
  | .str a, .str b => if a.length + b.length ≤ 1000000 then some (.str (a ++ b)) else none
  | _, _ => none
theorem iop_mulG {X : Cx} : OpR X (inplaceOp .Mult) (rI CMulG fun i j => .int (i * j)) := opI fun _ _ _ _ _ _ _ hc q => imul_int q hc.ok
theorem augF_ok {X : Cx} {op : Operator} {f : PyData → PyData → Option PyData} (h : augF op = some f) : ∃ r, OpR X (inplaceOp op) r ∧ Op2 X.K r f := by
  cases op with
  | Add =>
    cases h
    refine ⟨_, OpR.or iop_add (OpR.or (r := rStr2) iop_add_str iop_add_str), fun F H dx dy vx vy z Q hl v1 v2 e q => ?_⟩
    cases v1 with
    | int i =>
      cases v2 <;> first | (cases e; done) | (cases e; exact .inl ⟨i, _, rfl, rfl, q _ _ _ .refl (.int _)⟩)
    | str a =>
      cases v2 with
      | str b =>
        have e : (if a.length + b.length ≤ 1000000 then some (PyData.str (a ++ b)) else none) = some z := e
        by_cases hh : a.length + b.length ≤ 1000000
        · rw [if_pos hh] at e
          cases e
          exact .inr (.inl ⟨a, b, rfl, rfl, Nat.le_trans hh million, q _ _ _ .refl (.str _)⟩)
        · rw [if_neg hh] at e; cases e
      | _ => cases e
    | _ => cases e
  | Sub => cases h; exact ⟨_, iop_sub, ok_sub⟩
  | Mult =>
    cases h
    refine ⟨_, OpR.or iop_mul iop_mulG, fun F H dx dy vx vy z Q hl v1 v2 e q => ?_⟩
    exact ok_mul F H dx dy vx vy z Q hl v1 v2 e q
  | _ => cases h
/-! ### the built-in names -/
def sNLen : Str := ⟨#[108, 101, 110]⟩
def sNAbs : Str := ⟨#[97, 98, 115]⟩
def sNInt : Str := ⟨#[105, 110, 116]⟩
def sNTuple : Str := ⟨#[116, 117, 112, 108, 101]⟩
def sNList : Str := ⟨#[108, 105, 115, 116]⟩
def sNAll : Str := ⟨#[97, 108, 108]⟩
def sNAny : Str := ⟨#[97, 110, 121]⟩
def sNIsinstance : Str := ⟨#[105, 115, 105, 110, 115, 116, 97, 110, 99, 101]⟩
def sNBool : Str := ⟨#[98, 111, 111, 108]⟩
def sNStr : Str := ⟨#[115, 116, 114]⟩
def sNDict : Str := ⟨#[100, 105, 99, 116]⟩
def sNRange : Str := ⟨#[114, 97, 110, 103, 101]⟩
def sNSum : Str := ⟨#[115, 117, 109]⟩
def sNMax : Str := ⟨#[109, 97, 120]⟩
def sNMin : Str := ⟨#[109, 105, 110]⟩
def sNSorted : Str := ⟨#[115, 111, 114, 116, 101, 100]⟩
def sNEnumerate : Str := ⟨#[101, 110, 117, 109, 101, 114, 97, 116, 101]⟩
def sNZip : Str := ⟨#[122, 105, 112]⟩
def sNSet : Str := ⟨#[115, 101, 116]⟩
def sNSuper : Str := ⟨#[115, 117, 112, 101, 114]⟩

theorem bLen : bootBuiltins sNLen = some (.builtin "len") := by kernel_rfl
theorem bAbs : bootBuiltins sNAbs = some (.builtin "abs") := by kernel_rfl
theorem bInt : bootBuiltins sNInt = some (.type "int") := by kernel_rfl
theorem bTuple : bootBuiltins sNTuple = some (.type "tuple") := by kernel_rfl
theorem bList : bootBuiltins sNList = some (.type "list") := by kernel_rfl
theorem bAll : bootBuiltins sNAll = some (.builtin "all") := by kernel_rfl
theorem bAny : bootBuiltins sNAny = some (.builtin "any") := by kernel_rfl
theorem bIsinstance : bootBuiltins sNIsinstance = some (.builtin "isinstance") := by kernel_rfl
def tyOf (x : Str) : Option Ty := if x = sNInt then some .int else if x = sNBool then some .bool else if x = sNStr then some .str else if x = sNTuple then some .tuple else if x = sNList then some .list else if x = sNDict then some .dict else none
theorem tyOf_ok {x : Str} {T : Ty} (h : tyOf x = some T) : bootBuiltins x = some (.type T.name) := by
  unfold tyOf at h
  by_cases h1 : x = sNInt
  · rw [if_pos h1] at h; cases h; rw [h1]; kernel_rfl
  rw [if_neg h1] at h
  by_cases h2 : x = sNBool
  · rw [if_pos h2] at h; cases h; rw [h2]; kernel_rfl
  rw [if_neg h2] at h
  by_cases h3 : x = sNStr
  · rw [if_pos h3] at h; cases h; rw [h3]; kernel_rfl
  rw [if_neg h3] at h
  by_cases h4 : x = sNTuple
  · rw [if_pos h4] at h; cases h; rw [h4]; kernel_rfl
  rw [if_neg h4] at h
  by_cases h5 : x = sNList
  · rw [if_pos h5] at h; cases h; rw [h5]; kernel_rfl
  rw [if_neg h5] at h
  by_cases h6 : x = sNDict
  · rw [if_pos h6] at h; cases h; rw [h6]; kernel_rfl
  rw [if_neg h6] at h
  cases h
/-- list(x) -/
def cNewL (o : Opd) : EM Ob := eb (opd o) fun t s => match resolve s t with
  | some (.list xs) => .ok (.lst xs) s
  | some (.tuple xs) => .ok (.lst xs) s
  | _ => .stuck
section
variable {CL : CA} {Wx : WX} {X : Cx}
theorem jn_list {x : Str} {p pos : Pos} {e : Expr} {o : Opd} (hx : x = sNList) (hg : Gl X x) (hm : X.mg x = none) (hn : x ≠ "__name__") (hdb : (x == ("__debug__" : Str)) = false) (h : JO CL X Wx e o) (hs : starEach [e] X.env = (false, eval e X.env) :: starEach [] X.env) :
    JN CL X Wx (.Call (.Name x p) [e] [] pos) (cNewL o) :=
  pe_imp (pe_callTy call_list_of hg hm (by rw [hx]; exact bList) (pa_cons h pa_nil hs) hn hdb hs rfl) fun σ H Q q => by
    refine (tNew_tail (R := rTok X.K) q).mono fun v H1 ⟨G, s, G1, s1, t, S, f, S1, r, q⟩ => ?_
    cases e1 : resolve s1 t with
    | none => simp only [e1] at q; exact q.elim
    | some d =>
      have vw := resolve_view S1 r e1
      cases vw with
      | none => simp only [e1] at q; exact q.elim
      | bool b => simp only [e1] at q; exact q.elim
      | int b => simp only [e1] at q; exact q.elim
      | str b => simp only [e1] at q; exact q.elim
      | dict _ _ => simp only [e1] at q; exact q.elim
      | @list a vs xs h1 h2 =>
        simp only [e1] at q
        refine ⟨a, vs, rfl, .inl h1, fun p hp => ?_⟩
        obtain ⟨S2, f2⟩ := S1.junk (o := .lst vs) hp (n := s1.mem.length)
        exact q _ _ _ (f.trans f2) S2 ⟨p, rfl, ⟨vs, upd_same, h2.mono fun a x => (Grow.junk hp).keep S1.liveF a x⟩, S1.notF hp, S1.notIn hp, f.back hp⟩
      | @tuple a vs xs h1 h2 =>
        simp only [e1] at q
        refine ⟨a, vs, rfl, .inr h1.sq, fun p hp => ?_⟩
        obtain ⟨S2, f2⟩ := S1.junk (o := .lst vs) hp (n := s1.mem.length)
        exact q _ _ _ (f.trans f2) S2 ⟨p, rfl, ⟨vs, upd_same, h2.mono fun a x => (Grow.junk hp).keep S1.liveF a x⟩, S1.notF hp, S1.notIn hp, f.back hp⟩
/-- {} -/
theorem jn_dict0 {pos : Pos} : JN CL X Wx (.Dict [] [] pos) (er (.dic [])) := pe_imp pe_dnewK fun σ H Q q => by
  obtain ⟨G, s, S, q⟩ := q
  intro p hp
  obtain ⟨S2, f2⟩ := S.junk (o := .dK []) hp (n := s.mem.length)
  exact q _ _ _ f2 S2 ⟨p, rfl, ⟨[], upd_same, .nil⟩, S.notF hp, S.notIn hp, hp⟩
end
end MP
/-! Part P: the evaluator of expressions over the syntax, and its soundness. -/
namespace MP
open PySem PySem.Spec PyProof.Rows L2
def evConst : Const → R3
  | .int i => ofV (er (.d (.int i)))
  | .str x => ofV (er (.d (.str x)))
  | .bool b => ofV (er (.d (.bool b)))
  | .none => ofV (er (.d .none))
  | _ => dead
def evBoolV : BoolOp → List R3 → EM W
  | _, [] => es
  | _, [r] => r.v
  | .And, r :: rs => cAndV r.v (evBoolV .And rs)
  | .Or, r :: rs => cOrV r.v (evBoolV .Or rs)
def evBoolT : BoolOp → List R3 → EM Bool
  | _, [] => es
  | _, [r] => r.t
  | .And, r :: rs => cAnd r.t (evBoolT .And rs)
  | .Or, r :: rs => cOr r.t (evBoolT .Or rs)
def evUn (op : UnaryOp) (r : R3) : R3 := match op with
  | .USub => ofV (cP1 fNeg r.o)
  | .Not => ⟨cNotV r.v, cNot r.t, none, none⟩
  | _ => dead
def evCmp (ops : List CmpOp) (bs : List Expr) (a : R3) (rs : List R3) : R3 := match ops, bs, rs with
  | [op], [b], [r] => if noSet b = true then match cmpF op with
      | some f => ⟨cP2 f a.o r.o, eb (cP2 f a.o r.o) toB, none, none⟩
      | none => dead
    else dead
  | [op, op'], [b, b'], [r, r'] => if noSet b' = true then match cmpF op, cmpF op' with
      | some f, some f' => ⟨cCh f f' a.o r.o r'.o, eb (cCh f f' a.o r.o r'.o) toB, none, none⟩
      | _, _ => dead
    else dead
  | _, _, _ => dead
def boxArg (b : Bool) (r : R3) : EM W := if b = true then match r.n with
    | some m => cBoxN m
    | none => match r.sl with
      | some i => cBoxV i
      | none => r.v
  else r.v
def boxArgs : List Bool → List R3 → List (EM W)
  | b :: bs, r :: rs => boxArg b r :: boxArgs bs rs
  | [], r :: rs => r.v :: boxArgs [] rs
  | _, [] => []
def sAppend : Str := ⟨#[97, 112, 112, 101, 110, 100]⟩
def sPop : Str := ⟨#[112, 111, 112]⟩
theorem sAppend_eq : sAppend = ("append" : Str) := by kernel_rfl
theorem sPop_eq : sPop = ("pop" : Str) := by kernel_rfl
/-- isinstance(e, T) -/
def evIsi (g : GE) (c : Cxt) (args : List Expr) (rs : List R3) : R3 := match args, rs with
  | [e, .Name tn _], [r, _] => if noStar e = true then if isGl c tn = true then
      if g.blt.contains tn = true then match tyOf tn with
        | some T => ofV (cP1 (fIsi T) r.o)
        | none => hotI e tn r
      else hotI e tn r
    else dead else dead
  | _, _ => dead
where hotI (e : Expr) (tn : Str) (r : R3) : R3 := if c.hot = true then if g.excn.contains tn = true then match r.sl with
    | some i => ofV (cIsE g.tab i tn)
    | none => dead
  else dead else dead
/-- a built-in function -/
def evBlt (g : GE) (c : Cxt) (f : Str) (args : List Expr) (rs : List R3) : R3 :=
  if args.all noStar = true then
    if args.isEmpty = true then dead
    else if f = sNLen then ofV (cPN (f1 fLen) (rs.map R3.o))
    else if f = sNAbs then ofV (cPN (f1 fAbs) (rs.map R3.o))
    else if f = sNInt then ofV (cPN (f1 fInt) (rs.map R3.o))
    else if f = sNTuple then ofV (cPN (f1 fTupleOf) (rs.map R3.o))
    else if f = sNAll then if c.hot = true then dead else ofV (cPN (f1 fAll) (rs.map R3.o))
    else if f = sNAny then if c.hot = true then dead else ofV (cPN (f1 fAny) (rs.map R3.o))
    else if f = sNList then match rs with
      | [r] => ofN (cNewL r.o)
      | _ => dead
    else if f = sNIsinstance then evIsi g c args rs
    else dead
  else dead
def kwNames : List (Option Str × R3) → Option (List Str)
  | [] => some []
  | (some n, _) :: r => (kwNames r).map (n :: ·)
  | (none, _) :: _ => none
def evUser (c : Cxt) (call : Call) (f : Str) (F : FI) (args : List Expr) (rs : List R3) (ks : List (Option Str × R3)) : R3 :=
  if c.hot = true then dead else match args with
  | [] => match ks with
    | [] => dead
    | ks => match kwNames ks with
      | some ns => if F.kws.contains ns = true then if (kwOrd ns F.ps ns).length = F.ps.length then ofV (cCallK call f ns F.ps (ks.map fun k => k.2.v)) else dead else dead
      | none => dead
  | args => match ks with
    | [] => if args.all noStar = true then if rs.length = F.ps.length then ofV (cCall call f (boxArgs F.bx rs)) else dead else dead
    | _ => dead
def evMeth (c : Cxt) (o : Expr) (m : Str) (ap cp : Pos) (args : List Expr) (rs : List R3) : R3 := match o with
  | .Name x _ => match slotOf c x with
    | some i => if (ap.endLine == cp.line) = true then
        if m = sAppend then match args, rs with
          | [e], [r] => if noStar e = true then ofV (cApp i r.v) else dead
          | _, _ => dead
        else if m = sPop then match args with
          | [] => ofV (cPop i)
          | _ => dead
        else dead
      else dead
    | none => dead
  | _ => dead
def evCall (g : GE) (c : Cxt) (call : Call) (fn : Expr) (cp : Pos) (args : List Expr) (rs : List R3) (ks : List (Option Str × R3)) : R3 := match fn with
  | .Name f _ => if isGl c f = true then match g.fns.lookup f with
      | some F => evUser c call f F args rs ks
      | none => match ks with
        | [] => if g.gcd.contains f = true then if args.all noStar = true then if args.isEmpty = true then dead else ofV (cPN (f2 fGcd) (rs.map R3.o)) else dead
          else if g.blt.contains f = true then evBlt g c f args rs else dead
        | _ => dead
    else dead
  | .Attribute o m ap => match ks with
    | [] => evMeth c o m ap cp args rs
    | _ => dead
  | _ => dead
mutual
def ev (g : GE) (c : Cxt) (call : Call) : Expr → R3
  | .Constant k _ _ => evConst k
  | .Name x _ => evName g c x
  | .BinOp a op b _ => match binF op with
    | some f => ofV (cP2 f (ev g c call a).o (ev g c call b).o)
    | none => dead
  | .UnaryOp op a _ => evUn op (ev g c call a)
  | .BoolOp op as _ => ⟨evBoolV op (evs g c call as), evBoolT op (evs g c call as), none, none⟩
  | .Compare a ops bs _ => evCmp ops bs (ev g c call a) (evs g c call bs)
  | .IfExp t a b _ => ⟨cIf (ev g c call t).t (ev g c call a).v (ev g c call b).v, es, none, none⟩
  | .Subscript a b _ => if noSlice b = true then ofV (cP2 fIx (ev g c call a).o (ev g c call b).o) else dead
  | .Tuple as _ _ => if as.all noStar = true then ofV (cTup ((evs g c call as).map R3.v)) else dead
  | .List as _ => if as.all noStar = true then ofN (cLst ((evs g c call as).map R3.v)) else dead
  | .Dict ks vs _ => if ks.isEmpty && vs.isEmpty then ofN (er (.dic [])) else dead
  | .Call fn args kws cp => evCall g c call fn cp args (evs g c call args) (evk g c call kws)
  | _ => dead
def evs (g : GE) (c : Cxt) (call : Call) : List Expr → List R3
  | [] => []
  | e :: r => ev g c call e :: evs g c call r
def evk (g : GE) (c : Cxt) (call : Call) : List Keyword → List (Option Str × R3)
  | [] => []
  | k :: r => evk1 g c call k :: evk g c call r
def evk1 (g : GE) (c : Cxt) (call : Call) : Keyword → Option Str × R3
  | ⟨n, e, _⟩ => (n, ev g c call e)
end
/-! ### what is known -/
/-- a class as a value -/
def ClsV (mg : Str → Option Value) (x : Str) (u : Value) : Prop := mg x = some u ∨ (mg x = none ∧ bootBuiltins x = some u ∧ x ≠ "__name__")
structure Glob (K : PySem.W.Frag) (CL : CA) (mg : Str → Option Value) (g : GE) : Prop where
  cst : ∀ x d, g.consts.lookup x = some d → ∃ v u, mg x = some u ∧ RelV v u ∧ ∀ F H, RD K F H d v
  blt : ∀ x, g.blt.contains x = true → mg x = none
  gcd : ∀ x, g.gcd.contains x = true → mg x = some (.builtin "math.gcd")
  isx : ∀ x, g.excn.contains x = true → ∃ v u, ClsV mg x u ∧ RelV v u ∧ (∀ w, RelV v w → w = u) ∧ ∀ cn C, CL.cl cn C → ExcC K C ∧ ∀ b, g.tab cn x = some b → PySem.W.kitOne K (.ref C) u = some b
  hnd : ∀ x, g.excn.contains x = true → ∃ cv, ClsV mg x cv ∧ ∀ cls C b, CL.cl cls C → g.tab cls x = some b → PySem.W.exmOne K (.ref C) cv = some b
structure Cold (CL : CA) (X : Cx) (Wx : WX) (g : GE) (k : Nat) (call : Call) : Prop where
  calm : X.calm = true
  room : Room k X.A
  tk : Takes X Wx
  stk : X.stack = X.env :: X.outer
  fr : X.env.frame = some X.env.locals
  own : PassesOwn (model X.prog X.w) X.A X.env X.xe
  fns : ∀ f F, g.fns.lookup f = some F → FnIn X.K CL X.prog X.w X.mg X.base k f F.ps F.kws (call f)
  exs : ∀ x, g.excs.contains x = true → XIn CL X x
def HotC (CL : CA) (X : Cx) : Prop := ∃ (X0 : Cx) (a : Addr) (oe : Obj) (pn : List (Addr × Obj)), X = X0.suite a ((a, oe) :: pn) ∧ (∃ vs, oe.data = .fields vs) ∧ ∀ a' cn, CL.ex = some (a', cn) → a' = a ∧ ∃ C, CL.cl cn C ∧ Zc (.ref C) none oe
structure Gd (CL : CA) (X : Cx) (Wx : WX) (g : GE) (c : Cxt) (k : Nat) (call : Call) : Prop where
  hN : X.N = c.N
  nd : X.N.Nodup
  sc : X.env.scope = c.sc
  fn : ∀ x, X.fn x = true
  un : X.A.units + 64 < cLine
  gl : Glob X.K CL X.mg g
  cold : c.hot = false → Cold CL X Wx g k call
  hot : c.hot = true → HotC CL X
structure Snd (CL : CA) (X : Cx) (Wx : WX) (e : Expr) (r : R3) : Prop where
  v : JE CL X Wx e r.v
  t : JT CL X Wx e r.t
  n : ∀ m, r.n = some m → JN CL X Wx e m
  s : ∀ i, r.sl = some i → ∃ x p, e = .Name x p ∧ PE X (.Name x p) (tVar i)
section
variable {CL : CA} {X : Cx} {Wx : WX} {g : GE} {c : Cxt} {k : Nat} {call : Call}
theorem je_dead {e : Expr} : JE CL X Wx e es := ⟨fun pins s σ H Q I q => by obtain ⟨G, s', S, q⟩ := q; exact q.elim⟩
theorem jt_dead {e : Expr} : JT CL X Wx e es := ⟨fun pins s σ H Q I q => by obtain ⟨G, s', S, q⟩ := q; exact q.elim⟩
theorem snd_dead {e : Expr} : Snd CL X Wx e dead := ⟨je_dead, jt_dead, fun _ h => (nomatch h), fun _ h => (nomatch h)⟩
theorem Snd.o {e : Expr} {r : R3} (h : Snd CL X Wx e r) : JO CL X Wx e r.o := by
  unfold R3.o
  cases hs : r.sl with
  | none => exact jo_ex h.v
  | some i =>
    obtain ⟨x, p, rfl, q⟩ := h.s i hs
    exact jo_var q
/-- a value whose test is the plain one -/
theorem snd_V {e : Expr} {m : EM W} (h : JE CL X Wx e m) (he : ∀ whole, isTrue e X.env whole = (do let v ← whole; standAt e.pos; holding [v] (truthy v))) : Snd CL X Wx e (ofV m) := ⟨h, jt_tru (jo_ex h) he, fun _ h => (nomatch h), fun _ h => (nomatch h)⟩
theorem snd_N {e : Expr} {m : EM Ob} (h : JN CL X Wx e m) (he : ∀ whole, isTrue e X.env whole = (do let v ← whole; standAt e.pos; holding [v] (truthy v))) : Snd CL X Wx e (ofN m) := ⟨je_frz h, jt_tru (jo_ex (je_frz h)) he, fun _ h' => by cases h'; exact h, fun _ h => (nomatch h)⟩
theorem Gd.vis (D : Gd CL X Wx g c k call) {x : Str} {i : Nat} (h : slotOf c x = some i) : X.N[i]? = some x ∧ Vis X.env.scope x ∧ (x == ("__debug__" : Str)) = false ∧ (x == ("__classdict__" : Str)) = false := by
  unfold slotOf at h
  by_cases ht : tame x = true
  · rw [if_pos ht] at h
    obtain ⟨t1, t2, t3⟩ := tame_ok ht
    rw [D.hN, D.sc]
    cases hl : c.sc.names.lookup x with
    | none => rw [hl] at h; cases h
    | some kd =>
      rw [hl] at h
      cases kd with
      | «local» => exact ⟨ixOf_ok h, .inl hl, t1, t2⟩
      | cell => exact ⟨ixOf_ok h, .inr (.inl hl), t1, t2⟩
      | free => exact ⟨ixOf_ok h, .inr (.inr hl), t1, t2⟩
      | _ => cases h
  · rw [if_neg ht] at h; cases h
theorem Gd.var (D : Gd CL X Wx g c k call) {x : Str} {i : Nat} {p : Pos} (h : slotOf c x = some i) : PE X (.Name x p) (tVar i) := by
  obtain ⟨h1, h2, h3, h4⟩ := D.vis h
  exact pe_var h1 h2 h3 h4
theorem Gd.glob (D : Gd CL X Wx g c k call) {x : Str} (h : isGl c x = true) : Gl X x ∧ (x == ("__debug__" : Str)) = false ∧ x ≠ "__name__" := by
  unfold isGl at h
  rw [Bool.and_eq_true] at h
  obtain ⟨t1, t2, t3⟩ := tame_ok h.1
  refine ⟨?_, t1, t3⟩
  have h2 := h.2
  show X.env.scope.names.lookup x = _
  rw [D.sc]
  cases hl : c.sc.names.lookup x with
  | none => rw [hl] at h2; cases h2
  | some kd =>
    rw [hl] at h2
    cases kd <;> first | rfl | cases h2
theorem snd_S {x : Str} {p : Pos} {i : Nat} (h : PE X (.Name x p) (tVar i)) : Snd CL X Wx (.Name x p) (ofS i) := ⟨je_var h, jt_tru (jo_var h) fun _ => rfl, fun _ h => (nomatch h), fun j hj => by cases hj; exact ⟨x, p, rfl, h⟩⟩
theorem snd_name (D : Gd CL X Wx g c k call) {x : Str} {p : Pos} : Snd CL X Wx (.Name x p) (evName g c x) := by
  unfold evName
  cases hs : slotOf c x with
  | some i => exact snd_S (D.var hs)
  | none =>
    dsimp only
    by_cases hg : isGl c x = true
    · rw [if_pos hg]
      cases hc : g.consts.lookup x with
      | none => exact snd_dead
      | some d =>
        obtain ⟨v, u, h1, h2, h3⟩ := D.gl.cst x d hc
        obtain ⟨g1, g2, g3⟩ := D.glob hg
        exact snd_V (je_const (pe_glob g1 h1 h2 g2) h3) fun _ => rfl
    · rw [if_neg hg]; exact snd_dead
theorem snd_const {kk : Const} {j : Nat} {p : Pos} : Snd CL X Wx (.Constant kk j p) (evConst kk) := by
  cases kk with
  | int i => exact snd_V (je_const pe_int fun F H => .int i) fun _ => rfl
  | str i => exact snd_V (je_const pe_str fun F H => .str i) fun _ => rfl
  | bool i => exact snd_V (je_const pe_bl fun F H => .bool i) fun _ => rfl
  | none => exact snd_V (je_const pe_non fun F H => .none) fun _ => rfl
  | _ => exact snd_dead
theorem snd_un {op : UnaryOp} {a : Expr} {r : R3} {p : Pos} (h : Snd CL X Wx a r) : Snd CL X Wx (.UnaryOp op a p) (evUn op r) := by
  cases op with
  | USub => exact snd_V (je_un ok_neg un_neg h.o) fun _ => rfl
  | Not => exact ⟨je_not h.v, jt_not h.t, fun _ h => (nomatch h), fun _ h => (nomatch h)⟩
  | _ => exact snd_dead
inductive Snds (CL : CA) (X : Cx) (Wx : WX) : List Expr → List R3 → Prop
  | nil : Snds CL X Wx [] []
  | cons {e : Expr} {es : List Expr} {r : R3} {rs : List R3} (h : Snd CL X Wx e r) (t : Snds CL X Wx es rs) : Snds CL X Wx (e :: es) (r :: rs)
inductive SndK (CL : CA) (X : Cx) (Wx : WX) : List Keyword → List (Option Str × R3) → Prop
  | nil : SndK CL X Wx [] []
  | cons {n : Option Str} {e : Expr} {p : Pos} {ks : List Keyword} {r : R3} {rs : List (Option Str × R3)} (h : Snd CL X Wx e r) (t : SndK CL X Wx ks rs) : SndK CL X Wx (⟨n, e, p⟩ :: ks) ((n, r) :: rs)
theorem boolV_ok {op : BoolOp} {p : Pos} : ∀ {as : List Expr} {rs : List R3}, Snds CL X Wx as rs → JE CL X Wx (.BoolOp op as p) (evBoolV op rs) ∧ JW CL X Wx (.BoolOp op as p) (evBoolT op rs)
  | _, _, .nil => by
    cases op <;> exact ⟨je_dead, ⟨fun w pins s σ H Q I q => by obtain ⟨G, s', S, q⟩ := q; exact q.elim⟩⟩
  | _, _, .cons h .nil => by
    cases op
    · exact ⟨pe_one h.v, pw_and1 h.t⟩
    · exact ⟨pe_one h.v, pw_or1 h.t⟩
  | _, _, .cons h (.cons h2 t) => by
    obtain ⟨i1, i2⟩ := boolV_ok (op := op) (p := p) (.cons h2 t)
    cases op
    · exact ⟨je_and h.v i1, jw_and h.t i2⟩
    · exact ⟨je_or h.v i1, jw_or h.t i2⟩
theorem cmp_last {op op' : CmpOp} {b b' : Expr} (h : noSet b' = true) : lastMarks [op, op'] [b, b'] = false := by
  show behindInMarks op' b' = false
  exact noSet_ok h
theorem snd_cmp (hu : X.A.units + 64 < cLine) {ops : List CmpOp} {a : Expr} {bs : List Expr} {ra : R3} {rs : List R3} {p : Pos} (ha : Snd CL X Wx a ra) (hb : Snds CL X Wx bs rs) : Snd CL X Wx (.Compare a ops bs p) (evCmp ops bs ra rs) := by
  unfold evCmp
  split
  · rename_i op b r
    cases hb with
    | cons hb _ =>
      by_cases hn : noSet b = true
      · rw [if_pos hn]
        cases hf : cmpF op with
        | none => exact snd_dead
        | some f =>
          obtain ⟨rr, h1, h2⟩ := cmpF_ok hu hf
          exact ⟨je_cmp h2 h1 (noSet_ok hn) ha.o hb.o, jt_cmp h2 h1 (noSet_ok hn) ha.o hb.o, fun _ h => (nomatch h), fun _ h => (nomatch h)⟩
      · rw [if_neg hn]; exact snd_dead
  · rename_i op op' b b' r r'
    cases hb with
    | cons hb t =>
      cases t with
      | cons hb' _ =>
        by_cases hn : noSet b' = true
        · rw [if_pos hn]
          cases hf : cmpF op with
          | none => exact snd_dead
          | some f =>
            cases hf' : cmpF op' with
            | none => exact snd_dead
            | some f' =>
              obtain ⟨rr, h1, h2⟩ := cmpF_ok hu hf
              obtain ⟨rr', h1', h2'⟩ := cmpF_ok hu hf'
              exact ⟨pe_imp (pe_chain h1 h1' ha.o hb.o hb'.o (cmp_last hn)) fun _ _ _ q => cCh_ok h2 h2' q, pt_imp (pt_chain h1 h1' ha.o hb.o hb'.o (cmp_last hn)) fun _ _ _ q => cCh_ok h2 h2' (tTest_ok q), fun _ h => (nomatch h), fun _ h => (nomatch h)⟩
        · rw [if_neg hn]; exact snd_dead
  · exact snd_dead
theorem Snds.ja : ∀ {as : List Expr} {rs : List R3}, Snds CL X Wx as rs → as.all noStar = true → JA CL (rWs X.K) X Wx as (rs.map R3.v)
  | _, _, .nil, _ => .nil
  | _, _, .cons h t, hs => by
    rw [List.all_cons, Bool.and_eq_true] at hs
    exact .cons h.v (noStar_ok hs.1) (t.ja hs.2)
theorem Snds.jos : ∀ {as : List Expr} {rs : List R3}, Snds CL X Wx as rs → as.all noStar = true → JOs CL X Wx as (rs.map R3.o)
  | _, _, .nil, _ => .nil
  | _, _, .cons h t, hs => by
    rw [List.all_cons, Bool.and_eq_true] at hs
    exact .cons h.o (noStar_ok hs.1) (t.jos hs.2)
theorem boxArg_ok {e : Expr} {r : R3} {b : Bool} (h : Snd CL X Wx e r) : JE CL X Wx e (boxArg b r) := by
  unfold boxArg
  cases b with
  | false => exact h.v
  | true =>
    rw [if_pos rfl]
    cases hn : r.n with
    | some m => exact je_boxN (h.n m hn)
    | none =>
      dsimp only
      cases hs : r.sl with
      | none => exact h.v
      | some i =>
        obtain ⟨x, p, rfl, q⟩ := h.s i hs
        exact je_boxV q
theorem Snds.jb : ∀ {as : List Expr} {rs : List R3} {bs : List Bool}, Snds CL X Wx as rs → as.all noStar = true → JA CL (rWs X.K) X Wx as (boxArgs bs rs)
  | _, _, [], .nil, _ => .nil
  | _, _, _ :: _, .nil, _ => .nil
  | _, _, [], .cons h t, hs => by
    rw [List.all_cons, Bool.and_eq_true] at hs
    exact .cons h.v (noStar_ok hs.1) (t.jb hs.2)
  | _, _, b :: bs, .cons h t, hs => by
    rw [List.all_cons, Bool.and_eq_true] at hs
    exact .cons (boxArg_ok h) (noStar_ok hs.1) (t.jb hs.2)
theorem boxArgs_len : ∀ {bs : List Bool} {rs : List R3}, (boxArgs bs rs).length = rs.length
  | [], [] => rfl
  | _ :: _, [] => rfl
  | [], _ :: rs => congrArg (· + 1) (boxArgs_len (bs := []) (rs := rs))
  | _ :: bs, _ :: rs => congrArg (· + 1) (boxArgs_len (bs := bs) (rs := rs))
theorem SndK.kw : ∀ {ks : List Keyword} {rs : List (Option Str × R3)} {ns : List Str}, SndK CL X Wx ks rs → kwNames rs = some ns → JKw CL X Wx ks ns (rs.map fun k => k.2.v)
  | _, _, _, .nil, e => by cases e; exact .nil
  | _, _, _, .cons (n := none) h t, e => by cases e
  | _, _, _, .cons (n := some n) (rs := rs) h t, e => by
    have e : (kwNames rs).map (n :: ·) = some _ := e
    cases e1 : kwNames rs with
    | none => rw [e1] at e; cases e
    | some ns' =>
      rw [e1] at e
      cases e
      exact .cons h.v (t.kw e1)
theorem snd_user (D : Gd CL X Wx g c k call) {f : Str} {F : FI} {args : List Expr} {rs : List R3} {kws : List Keyword} {ks : List (Option Str × R3)} {p cp : Pos} (hg : isGl c f = true) (hf : g.fns.lookup f = some F) (ha : Snds CL X Wx args rs) (hk : SndK CL X Wx kws ks) :
    Snd CL X Wx (.Call (.Name f p) args kws cp) (evUser c call f F args rs ks) := by
  obtain ⟨g1, g2, g3⟩ := D.glob hg
  unfold evUser
  cases hh : c.hot with
  | true => exact snd_dead
  | false =>
    rw [if_neg Bool.false_ne_true]
    have C := D.cold hh
    have FI := C.fns f F hf
    cases args with
    | nil =>
      cases ks with
      | nil => exact snd_dead
      | cons k1 kr =>
        dsimp only
        cases hn : kwNames (k1 :: kr) with
        | none => exact snd_dead
        | some ns =>
          dsimp only
          by_cases h1 : F.kws.contains ns = true
          · rw [if_pos h1]
            by_cases h2 : (kwOrd ns F.ps ns).length = F.ps.length
            · rw [if_pos h2]
              exact snd_V (je_callK FI C.room g1 C.tk g2 (hk.kw hn) (by simpa using h1) h2) fun _ => rfl
            · rw [if_neg h2]; exact snd_dead
          · rw [if_neg h1]; exact snd_dead
    | cons a as =>
      cases hk with
      | cons _ _ => exact snd_dead
      | nil =>
        dsimp only
        by_cases h1 : (a :: as).all noStar = true
        · rw [if_pos h1]
          by_cases h2 : rs.length = F.ps.length
          · rw [if_pos h2]
            exact snd_V (je_call FI C.room g1 C.tk g2 (ha.jb h1) (boxArgs_len.trans h2)) fun _ => rfl
          · rw [if_neg h2]; exact snd_dead
        · rw [if_neg h1]; exact snd_dead
theorem hotI_ok (D : Gd CL X Wx g c k call) {e : Expr} {tn x : Str} {r : R3} {rt : R3} {p p2 cp : Pos} (hg : isGl c x = true) (hb : g.blt.contains x = true) (hx : x = sNIsinstance) (ht : isGl c tn = true) (h : Snd CL X Wx e r) :
    Snd CL X Wx (.Call (.Name x p) [e, .Name tn p2] [] cp) (evIsi.hotI g c e tn r) := by
  obtain ⟨g1, g2, g3⟩ := D.glob hg
  obtain ⟨t1, t2, t3⟩ := D.glob ht
  unfold evIsi.hotI
  cases hh : c.hot with
  | false => exact snd_dead
  | true =>
    rw [if_pos rfl]
    by_cases hn : g.excn.contains tn = true
    · rw [if_pos hn]
      cases hs : r.sl with
      | none => exact snd_dead
      | some i =>
        obtain ⟨y, py, rfl, q⟩ := h.s i hs
        obtain ⟨X0, a, oe, pn, eX, hf, hex⟩ := D.hot hh
        obtain ⟨v, u, hc, rv, ru, hk⟩ := D.gl.isx tn hn
        have hm := D.gl.blt x hb
        have ht' : PE X (.Name tn p2) (tC v) := by
          rcases hc with hc | ⟨hc, hc2, hc3⟩
          · exact pe_glob t1 hc rv t2
          · exact pe_bltn t1 hc hc2 rv hc3 t2
        subst eX
        refine snd_V (je_isE (tab := g.tab) (fun a' cn e1 => ?_) hf g1 hm (by rw [hx]; exact bIsinstance) g3 g2 q ht' ru) fun _ => rfl
        obtain ⟨ea, C, hC, hz⟩ := hex a' cn e1
        obtain ⟨k1, k2⟩ := hk cn C hC
        exact ⟨ea, C, hC, k1, hz, k2⟩
    · rw [if_neg hn]; exact snd_dead
theorem snd_isi (D : Gd CL X Wx g c k call) {args : List Expr} {rs : List R3} {x : Str} {p cp : Pos} (hg : isGl c x = true) (hb : g.blt.contains x = true) (hx : x = sNIsinstance) (ha : Snds CL X Wx args rs) :
    Snd CL X Wx (.Call (.Name x p) args [] cp) (evIsi g c args rs) := by
  obtain ⟨g1, g2, g3⟩ := D.glob hg
  unfold evIsi
  split
  · rename_i e tn p2 r rt
    cases ha with
    | cons h _ =>
      by_cases hs : noStar e = true
      · rw [if_pos hs]
        by_cases ht : isGl c tn = true
        · rw [if_pos ht]
          obtain ⟨t1, t2, t3⟩ := D.glob ht
          by_cases hbt : g.blt.contains tn = true
          · rw [if_pos hbt]
            cases hT : tyOf tn with
            | none => exact hotI_ok (rt := rt) D hg hb hx ht h
            | some T => exact snd_V (je_isi g1 (D.gl.blt x hb) (by rw [hx]; exact bIsinstance) g3 g2 t1 (D.gl.blt tn hbt) (tyOf_ok hT) t3 t2 h.o (noStar_ok hs)) fun _ => rfl
          · rw [if_neg hbt]
            exact hotI_ok (rt := rt) D hg hb hx ht h
        · rw [if_neg ht]; exact snd_dead
      · rw [if_neg hs]; exact snd_dead
  · exact snd_dead
theorem snd_blt (D : Gd CL X Wx g c k call) {args : List Expr} {rs : List R3} {x : Str} {p cp : Pos} (hg : isGl c x = true) (hb : g.blt.contains x = true) (ha : Snds CL X Wx args rs) :
    Snd CL X Wx (.Call (.Name x p) args [] cp) (evBlt g c x args rs) := by
  obtain ⟨g1, g2, g3⟩ := D.glob hg
  have hm := D.gl.blt x hb
  unfold evBlt
  by_cases hs : args.all noStar = true
  · rw [if_pos hs]
    cases args with
    | nil => exact snd_dead
    | cons e as =>
      rw [if_neg (by show ¬ (false = true); exact Bool.false_ne_true)]
      have hj := ha.jos hs
      by_cases h : x = sNLen
      · rw [if_pos h]; exact snd_V (je_fnB ok_len call_len g1 hm (by rw [h]; exact bLen) g3 g2 hj) fun _ => rfl
      rw [if_neg h]
      clear h
      by_cases h : x = sNAbs
      · rw [if_pos h]; exact snd_V (je_fnB ok_abs call_abs g1 hm (by rw [h]; exact bAbs) g3 g2 hj) fun _ => rfl
      rw [if_neg h]
      clear h
      by_cases h : x = sNInt
      · rw [if_pos h]; exact snd_V (je_fnT ok_int call_int1 g1 hm (by rw [h]; exact bInt) g3 g2 hj) fun _ => rfl
      rw [if_neg h]
      clear h
      by_cases h : x = sNTuple
      · rw [if_pos h]; exact snd_V (je_fnT ok_tupleOf call_tuple_of g1 hm (by rw [h]; exact bTuple) g3 g2 hj) fun _ => rfl
      rw [if_neg h]
      clear h
      by_cases h : x = sNAll
      · rw [if_pos h]
        cases hh : c.hot with
        | true => exact snd_dead
        | false => exact snd_V (je_fnB ok_all (cr_all (D.cold hh).calm) g1 hm (by rw [h]; exact bAll) g3 g2 hj) fun _ => rfl
      rw [if_neg h]
      clear h
      by_cases h : x = sNAny
      · rw [if_pos h]
        cases hh : c.hot with
        | true => exact snd_dead
        | false => exact snd_V (je_fnB ok_any (cr_any (D.cold hh).calm) g1 hm (by rw [h]; exact bAny) g3 g2 hj) fun _ => rfl
      rw [if_neg h]
      clear h
      by_cases h : x = sNList
      · rw [if_pos h]
        cases ha with
        | cons h1 t =>
          cases t with
          | nil =>
            rw [List.all_cons, Bool.and_eq_true] at hs
            exact snd_N (jn_list h g1 hm g3 g2 h1.o (noStar_ok hs.1)) fun _ => rfl
          | cons _ _ => exact snd_dead
      rw [if_neg h]
      clear h
      by_cases h : x = sNIsinstance
      · rw [if_pos h]; exact snd_isi D hg hb h ha
      rw [if_neg h]
      exact snd_dead
  · rw [if_neg hs]; exact snd_dead
theorem snd_meth (D : Gd CL X Wx g c k call) {o : Expr} {m : Str} {ap cp : Pos} {args : List Expr} {rs : List R3} (ha : Snds CL X Wx args rs) : Snd CL X Wx (.Call (.Attribute o m ap) args [] cp) (evMeth c o m ap cp args rs) := by
  unfold evMeth
  split
  · rename_i x p
    cases hs : slotOf c x with
    | none => exact snd_dead
    | some i =>
      dsimp only
      by_cases hl : (ap.endLine == cp.line) = true
      · rw [if_pos hl]
        by_cases h : m = sAppend
        · rw [if_pos h]
          rw [sAppend_eq] at h
          subst h
          split
          · rename_i e r
            cases ha with
            | cons h1 _ =>
              by_cases hn : noStar e = true
              · rw [if_pos hn]
                have hse := noStar_ok (es := []) (env := X.env) hn
                exact snd_V (je_app (D.var hs) h1.v (by rw [hse]; rfl) hl hse) fun _ => rfl
              · rw [if_neg hn]; exact snd_dead
          · exact snd_dead
        rw [if_neg h]
        clear h
        by_cases h : m = sPop
        · rw [if_pos h]
          rw [sPop_eq] at h
          subst h
          cases args with
          | nil => exact snd_V (je_pop (D.var hs) hl) fun _ => rfl
          | cons _ _ => exact snd_dead
        rw [if_neg h]
        exact snd_dead
      · rw [if_neg hl]; exact snd_dead
  · exact snd_dead
theorem snd_call (D : Gd CL X Wx g c k call) {fn : Expr} {cp : Pos} {args : List Expr} {rs : List R3} {kws : List Keyword} {ks : List (Option Str × R3)} (ha : Snds CL X Wx args rs) (hk : SndK CL X Wx kws ks) :
    Snd CL X Wx (.Call fn args kws cp) (evCall g c call fn cp args rs ks) := by
  unfold evCall
  split
  · rename_i f p
    by_cases hg : isGl c f = true
    · rw [if_pos hg]
      cases hf : g.fns.lookup f with
      | some F => exact snd_user D hg hf ha hk
      | none =>
        dsimp only
        cases hk with
        | cons _ _ => exact snd_dead
        | nil =>
          dsimp only
          obtain ⟨g1, g2, g3⟩ := D.glob hg
          by_cases h1 : g.gcd.contains f = true
          · rw [if_pos h1]
            by_cases hs : args.all noStar = true
            · rw [if_pos hs]
              cases args with
              | nil => exact snd_dead
              | cons e as =>
                rw [if_neg (by show ¬ (false = true); exact Bool.false_ne_true)]
                exact snd_V (je_fnI ok_gcd cr_gcd g1 (D.gl.gcd f h1) g2 (ha.jos hs)) fun _ => rfl
            · rw [if_neg hs]; exact snd_dead
          · rw [if_neg h1]
            by_cases h2 : g.blt.contains f = true
            · rw [if_pos h2]; exact snd_blt D hg h2 ha
            · rw [if_neg h2]; exact snd_dead
    · rw [if_neg hg]; exact snd_dead
  · rename_i o m ap
    cases hk with
    | cons _ _ => exact snd_dead
    | nil => exact snd_meth D ha
  · exact snd_dead
mutual
theorem snd_ev (D : Gd CL X Wx g c k call) : ∀ e : Expr, Snd CL X Wx e (ev g c call e)
  | .Constant kk _ _ => snd_const
  | .Name x _ => snd_name D
  | .BinOp a op b p => by
    show Snd CL X Wx _ (match binF op with
      | some f => ofV (cP2 f (ev g c call a).o (ev g c call b).o)
      | none => dead)
    cases hf : binF op with
    | none => exact snd_dead
    | some f =>
      obtain ⟨r, h1, h2⟩ := binF_ok (X := X) hf
      exact snd_V (je_bin h2 h1 (snd_ev D a).o (snd_ev D b).o) fun _ => rfl
  | .UnaryOp op a _ => snd_un (snd_ev D a)
  | .BoolOp op as p => by
    obtain ⟨h1, h2⟩ := boolV_ok (op := op) (p := p) (snd_evs D as)
    exact ⟨h1, PW.pt h2, fun _ h => (nomatch h), fun _ h => (nomatch h)⟩
  | .Compare a ops bs _ => snd_cmp D.un (snd_ev D a) (snd_evs D bs)
  | .IfExp t a b _ => ⟨je_if (snd_ev D t).t (snd_ev D a).v (snd_ev D b).v, jt_dead, fun _ h => (nomatch h), fun _ h => (nomatch h)⟩
  | .Subscript a b p => by
    show Snd CL X Wx _ (if noSlice b = true then ofV (cP2 fIx (ev g c call a).o (ev g c call b).o) else dead)
    by_cases h : noSlice b = true
    · rw [if_pos h]
      exact snd_V (je_ix (by have := D.un; omega) (noSlice_ok h) (snd_ev D a).o (snd_ev D b).o) fun _ => rfl
    · rw [if_neg h]; exact snd_dead
  | .Tuple as kk p => by
    show Snd CL X Wx _ (if as.all noStar = true then ofV (cTup ((evs g c call as).map R3.v)) else dead)
    by_cases h : as.all noStar = true
    · rw [if_pos h]
      exact snd_V (je_tup ((snd_evs D as).ja h)) fun _ => rfl
    · rw [if_neg h]; exact snd_dead
  | .List as p => by
    show Snd CL X Wx _ (if as.all noStar = true then ofN (cLst ((evs g c call as).map R3.v)) else dead)
    by_cases h : as.all noStar = true
    · rw [if_pos h]
      exact snd_N (jn_lst ((snd_evs D as).ja h)) fun _ => rfl
    · rw [if_neg h]; exact snd_dead
  | .Dict ks vs p => by
    show Snd CL X Wx _ (if (ks.isEmpty && vs.isEmpty) = true then ofN (er (.dic [])) else dead)
    cases ks with
    | nil =>
      cases vs with
      | nil => exact snd_N jn_dict0 fun _ => rfl
      | cons _ _ => exact snd_dead
    | cons _ _ => exact snd_dead
  | .Call fn args kws cp => snd_call D (snd_evs D args) (snd_evk D kws)
  | .NamedExpr .. => snd_dead
  | .Lambda .. => snd_dead
  | .Set .. => snd_dead
  | .ListComp .. => snd_dead
  | .SetComp .. => snd_dead
  | .DictComp .. => snd_dead
  | .GeneratorExp .. => snd_dead
  | .Await .. => snd_dead
  | .Yield .. => snd_dead
  | .YieldFrom .. => snd_dead
  | .FormattedValue .. => snd_dead
  | .JoinedStr .. => snd_dead
  | .Attribute .. => snd_dead
  | .Starred .. => snd_dead
  | .Slice .. => snd_dead
theorem snd_evs (D : Gd CL X Wx g c k call) : ∀ as : List Expr, Snds CL X Wx as (evs g c call as)
  | [] => .nil
  | e :: r => .cons (snd_ev D e) (snd_evs D r)
theorem snd_evk (D : Gd CL X Wx g c k call) : ∀ ks : List Keyword, SndK CL X Wx ks (evk g c call ks)
  | [] => .nil
  | ⟨n, e, p⟩ :: r => .cons (snd_ev D e) (snd_evk D r)
end
end
end MP
/-! Part Q: the evaluator of statements and of defs, and its soundness. -/
namespace MP
open PySem PySem.Spec PyProof.Rows L2
/-- a name that is stored -/
def slotL (c : Cxt) (x : Str) : Option Nat := match c.sc.names.lookup x with
  | some .local => ixOf c.N x
  | some .cell => ixOf c.N x
  | _ => none
def noTupE : Expr → Bool
  | .Tuple _ _ _ => false
  | .List _ _ => false
  | _ => true
def slotLs (c : Cxt) : List Expr → Option (List Nat)
  | [] => some []
  | .Name x _ :: r => match slotL c x, slotLs c r with
    | some i, some is => some (i :: is)
    | _, _ => none
  | _ :: _ => none
def evTg (c : Cxt) : Expr → Option (PyData → EM Unit)
  | .Name x _ => (slotL c x).map tgName
  | .Tuple as _ _ => (slotLs c as).map tgTup
  | _ => none
def evSrc (g : GE) (c : Cxt) (call : Call) (it : Expr) : EM (List PyData) := match it with
  | .Call (.Name f _) args [] _ => if f = sNRange then if isGl c f && g.blt.contains f then match args with
      | [a] => if noStar a = true then srcR1 (ev g c call a).v else es
      | [a, b] => if noStar a && noStar b then srcR2 (ev g c call a).v (ev g c call b).v else es
      | _ => es
    else es else srcSeq (ev g c call it).v
  | it => srcSeq (ev g c call it).v
def evAsg (g : GE) (c : Cxt) (call : Call) (t e : Expr) : EM Fl := if noComp e = true then match t with
  | .Name x _ => match slotL c x with
    | some i => match (ev g c call e).n with
      | some m => sSetN i m
      | none => sSet i (ev g c call e).v
    | none => es
  | .Tuple as _ _ => if c.hot = true then es else if noTup e = true then match slotLs c as with
      | some is => sTup is (ev g c call e).v
      | none => es
    else es
  | .Subscript (.Name x _) b _ => if noSlice b = true then match slotOf c x with
      | some i => sPut i (ev g c call b).o (ev g c call e).v
      | none => es
    else es
  | _ => es
  else es
def evAug (g : GE) (c : Cxt) (call : Call) (t : Expr) (op : Operator) (e : Expr) : EM Fl := match augF op with
  | some f => match t with
    | .Name x _ => match slotL c x with
      | some i => sAug i f (ev g c call e).o
      | none => es
    | .Subscript (.Name x _) b _ => if noSlice b = true then match slotOf c x with
        | some i => sAugIx i (ev g c call b).o f (ev g c call e).o
        | none => es
      else es
    | _ => es
  | none => es
def evExpr (g : GE) (c : Cxt) (call : Call) (e : Expr) : EM Fl := match e with
  | .Constant (.str _) _ _ => er .next
  | e => if noComp e = true then sExpr (ev g c call e).v else es
def evRaise (g : GE) (c : Cxt) (e : Expr) : EM Fl := match e with
  | .Call (.Name x _) [.Constant (.str _) _ _] [] _ => if c.hot = true then es else if isGl c x && g.excs.contains x then sRaise x else es
  | _ => es
def hotOf (c : Cxt) : Cxt := ⟨c.N, c.sc, true⟩
def hdSl (c : Cxt) (n : Option Str) : Option (Option Nat) := match n with
  | none => some none
  | some n => match c.sc.names.lookup n with
    | some .local => (ixOf c.N n).map some
    | _ => none
def evFor (g : GE) (c : Cxt) (call : Call) (tg it : Expr) (el : List Stmt) (b : EM Fl) : EM Fl := if c.hot = true then es else if el.isEmpty && noSet it then match evTg c tg with
    | some t => sFor t (evSrc g c call it) b
    | none => es
  else es
noncomputable def evWhile (g : GE) (c : Cxt) (call : Call) (t : Expr) (el : List Stmt) (b : EM Fl) : EM Fl := if c.hot = true then es else if el.isEmpty = true then sWhile (ev g c call t).t b else es
def optAll {α : Type} : List (Option α) → Option (List α)
  | [] => some []
  | some m :: r => (optAll r).map (m :: ·)
  | none :: _ => none
def evTry (g : GE) (c : Cxt) (el fi : List Stmt) (b : EM Fl) (hs : List (Option Hd)) : EM Fl := if c.hot = true then es else if el.isEmpty && fi.isEmpty then match optAll hs with
    | some (h :: r) => sTry g.tab b (h :: r)
    | _ => es
  else es
def evHd (g : GE) (c : Cxt) (t : Option Expr) (n : Option Str) (sts : List Stmt) (b : EM Fl) : Option Hd := match t with
  | some (.Name x _) => if sts.isEmpty = true then none else if isGl c x && g.excn.contains x then match hdSl c n with
      | some sl => some ⟨x, sl, b⟩
      | none => none
    else none
  | _ => none
mutual
noncomputable def evS (g : GE) (call : Call) (rb : Bool) : Stmt → Cxt → EM Fl
  | .Expr e _, c => evExpr g c call e
  | .Assign ts e _, c => match ts with
    | [t] => evAsg g c call t e
    | _ => es
  | .AugAssign t op e _, c => evAug g c call t op e
  | .Return e _, c => match e with
    | none => er (.ret (.d .none))
    | some e => sRet (boxArg rb (ev g c call e))
  | .If t as bs _, c => sIf (ev g c call t).t (evB g call rb as c) (evB g call rb bs c)
  | .For tg it body el _, c => evFor g c call tg it el (evB g call rb body c)
  | .While t body el _, c => evWhile g c call t el (evB g call rb body c)
  | .Try body hs el fi _, c => evTry g c el fi (evB g call rb body c) (evHs g call rb hs c)
  | .Raise e o _, c => match e, o with
    | some e, none => evRaise g c e
    | _, _ => es
  | .Pass _, _ => er .next
  | .Break _, _ => er .brk
  | .Continue _, _ => er .cont
  | _, _ => es
noncomputable def evB (g : GE) (call : Call) (rb : Bool) : List Stmt → Cxt → EM Fl
  | [], _ => er .next
  | s :: r, c => sSeq (evS g call rb s c) (evB g call rb r c)
noncomputable def evHs (g : GE) (call : Call) (rb : Bool) : List ExceptHandler → Cxt → List (Option Hd)
  | [], _ => []
  | h :: r, c => evH g call rb h c :: evHs g call rb r c
noncomputable def evH (g : GE) (call : Call) (rb : Bool) : ExceptHandler → Cxt → Option Hd
  | .ExceptHandler t n sts _, c => evHd g c t n sts (evB g call rb sts (hotOf c))
end
section
variable {CL : CA} {X : Cx} {Wx : WX} {g : GE} {c : Cxt} {k : Nat} {call : Call} {rb : Bool}
theorem js_dead {st : Stmt} : JS CL X Wx st es := ⟨fun pins s σ H D I q => by obtain ⟨G, s', S, q⟩ := q; exact q.elim⟩
theorem Gd.loc (D : Gd CL X Wx g c k call) {x : Str} {i : Nat} (h : slotL c x = some i) : X.N[i]? = some x ∧ Loc X.env.scope x := by
  unfold slotL at h
  rw [D.hN, D.sc]
  cases hl : c.sc.names.lookup x with
  | none => rw [hl] at h; cases h
  | some kd =>
    rw [hl] at h
    cases kd with
    | «local» => exact ⟨ixOf_ok h, .inl hl⟩
    | cell => exact ⟨ixOf_ok h, .inr hl⟩
    | _ => cases h
theorem slotLs_ok (D : Gd CL X Wx g c k call) : ∀ {as : List Expr} {is : List Nat}, slotLs c as = some is → JTg X as is
  | [], _, h => by cases h; exact .nil
  | e :: r, is, h => by
    cases e with
    | Name x p =>
      have h : (match slotL c x, slotLs c r with
        | some i, some is => some (i :: is)
        | _, _ => none) = some is := h
      cases h1 : slotL c x with
      | none => rw [h1] at h; cases h
      | some i =>
        cases h2 : slotLs c r with
        | none => rw [h1, h2] at h; cases h
        | some js =>
          rw [h1, h2] at h
          cases h
          obtain ⟨a, b⟩ := D.loc h1
          exact .cons a b (.inl (D.fn x)) (slotLs_ok D h2)
    | _ => cases h
theorem noComp_sole {t e : Expr} {l : Nat} {env : Env} (h : noComp e = true) : swapsWithSole [t] e l env = pure false := noComp_ok h
theorem noTup_ok {as : List Expr} {k : Nat} {p : Pos} {e : Expr} {env : Env} (h : noTup e = true) : swappedStores [.Tuple as k p] e env = pure none := by
  cases e <;> first | rfl | cases h
theorem js_exprG (D : Gd CL X Wx g c k call) {e : Expr} {p : Pos} : JS CL X Wx (.Expr e p) (evExpr g c call e) := by
  unfold evExpr
  split
  · exact js_doc
  · by_cases h : noComp e = true
    · rw [if_pos h]; exact js_expr (snd_ev D e).v (noComp_ok h)
    · rw [if_neg h]; exact js_dead
theorem js_asg (D : Gd CL X Wx g c k call) {t e : Expr} {p : Pos} : JS CL X Wx (.Assign [t] e p) (evAsg g c call t e) := by
  unfold evAsg
  by_cases h : noComp e = true
  · rw [if_pos h]
    split
    · rename_i x px
      cases hs : slotL c x with
      | none => exact js_dead
      | some i =>
        obtain ⟨a, b⟩ := D.loc hs
        dsimp only
        cases hn : (ev g c call e).n with
        | some m => exact js_setN D.nd a b ((snd_ev D e).n m hn) (noComp_ok h) (.inl (D.fn x))
        | none => exact js_set D.nd a b (snd_ev D e).v (noComp_ok h) (.inl (D.fn x))
    · rename_i as kk px
      cases hh : c.hot with
      | true => exact js_dead
      | false =>
        rw [if_neg Bool.false_ne_true]
        by_cases ht : noTup e = true
        · rw [if_pos ht]
          cases hs : slotLs c as with
          | none => exact js_dead
          | some is => exact js_tup D.nd (D.cold hh).calm (slotLs_ok D hs) (snd_ev D e).v (noComp_sole h) (noTup_ok ht)
        · rw [if_neg ht]; exact js_dead
    · rename_i x px b pb
      by_cases hb : noSlice b = true
      · rw [if_pos hb]
        cases hs : slotOf c x with
        | none => exact js_dead
        | some i =>
          refine js_put (by have := D.un; omega) (D.var hs) (snd_ev D b).o (snd_ev D e).v (fun v => ?_) (noComp_sole h) ?_
          · cases b <;> first | rfl | cases hb
          · cases e <;> rfl
      · rw [if_neg hb]; exact js_dead
    · exact js_dead
  · rw [if_neg h]; exact js_dead
theorem js_augG (D : Gd CL X Wx g c k call) {t e : Expr} {op : Operator} {p : Pos} : JS CL X Wx (.AugAssign t op e p) (evAug g c call t op e) := by
  unfold evAug
  cases hf : augF op with
  | none => exact js_dead
  | some f =>
    obtain ⟨r, h1, h2⟩ := augF_ok (X := X) hf
    dsimp only
    split
    · rename_i x px
      cases hs : slotL c x with
      | none => exact js_dead
      | some i =>
        obtain ⟨a, b⟩ := D.loc hs
        exact js_aug D.nd a b (snd_ev D e).o h1 h2 (.inl (D.fn x))
    · rename_i x px b pb
      by_cases hb : noSlice b = true
      · rw [if_pos hb]
        cases hs : slotOf c x with
        | none => exact js_dead
        | some i =>
          refine js_augix (by have := D.un; omega) (D.var hs) (snd_ev D b).o (snd_ev D e).o h1 h2 (fun ov iv new => ?_)
          cases b <;> first | rfl | cases hb
      · rw [if_neg hb]; exact js_dead
    · exact js_dead
theorem js_raiseG (D : Gd CL X Wx g c k call) {e : Expr} {p : Pos} : JS CL X Wx (.Raise (some e) none p) (evRaise g c e) := by
  unfold evRaise
  split
  · rename_i x px m j pm pc
    cases hh : c.hot with
    | true => exact js_dead
    | false =>
      rw [if_neg Bool.false_ne_true]
      by_cases h : (isGl c x && g.excs.contains x) = true
      · rw [if_pos h]
        rw [Bool.and_eq_true] at h
        obtain ⟨g1, g2, g3⟩ := D.glob h.1
        have C := D.cold hh
        exact js_raise C.calm C.tk (C.exs x h.2) g1 g2
      · rw [if_neg h]; exact js_dead
  · exact js_dead
theorem sRange_eq : sNRange = ("range" : Str) := by kernel_rfl
theorem ji_dead {tg it : Expr} : JI CL X Wx tg it es := by
  refine pi_imp (pi_seq (je_dead (CL := CL) (Wx := Wx) (e := it))) fun σ H Q q => ?_
  obtain ⟨G, s', S, q⟩ := q
  exact q.elim
theorem ji_src (D : Gd CL X Wx g c k call) {tg it : Expr} : JI CL X Wx tg it (evSrc g c call it) := by
  unfold evSrc
  split
  · rename_i f pf args pc
    by_cases hf : f = sNRange
    · rw [if_pos hf]
      by_cases hg : (isGl c f && g.blt.contains f) = true
      · rw [if_pos hg]
        rw [Bool.and_eq_true] at hg
        obtain ⟨g1, g2, g3⟩ := D.glob hg.1
        have hm := D.gl.blt f hg.2
        rw [sRange_eq] at hf
        subst hf
        split
        · rename_i a
          by_cases ha : noStar a = true
          · rw [if_pos ha]; exact ji_range1 g1 hm (snd_ev D a).v (noStar_ok ha)
          · rw [if_neg ha]; exact ji_dead
        · rename_i a b
          by_cases ha : (noStar a && noStar b) = true
          · rw [if_pos ha]
            rw [Bool.and_eq_true] at ha
            have e2 := noStar_ok (es := []) (env := X.env) ha.2
            exact ji_range2 g1 hm (snd_ev D a).v (snd_ev D b).v (by rw [noStar_ok ha.1, e2]; rfl) e2
          · rw [if_neg ha]; exact ji_dead
        · exact ji_dead
      · rw [if_neg hg]; exact ji_dead
    · rw [if_neg hf]; exact ji_seq (snd_ev D _).v
  · exact ji_seq (snd_ev D _).v
theorem setAll_nr : ∀ {is : List Nat} {xs : List PyData} {s : S} {x : Ex} {s' : S}, setAll is xs s ≠ .raise x s'
  | [], [], s, x, s' => by intro h; cases h
  | [], _ :: _, s, x, s' => by intro h; cases h
  | _ :: _, [], s, x, s' => by intro h; cases h
  | i :: is, y :: ys, s, x, s' => by
    intro h
    unfold setAll eb rb setS at h
    by_cases hi : i < s.rho.length
    · rw [if_pos hi] at h
      exact setAll_nr h
    · rw [if_neg hi] at h; cases h
theorem evTg_ok (D : Gd CL X Wx g c k call) (hc : X.calm = true) {tg : Expr} {t : PyData → EM Unit} (h : evTg c tg = some t) : ∃ G, PG X tg G ∧ TgS X.K CL G t ∧ ∀ d s x s', t d s ≠ .raise x s' := by
  cases tg with
  | Name x p =>
    have h : (slotL c x).map tgName = some t := h
    cases hs : slotL c x with
    | none => rw [hs] at h; cases h
    | some i =>
      rw [hs] at h
      cases h
      obtain ⟨a, b⟩ := D.loc hs
      refine ⟨_, pg_name D.nd a b (.inl (D.fn x)), tg_name, fun d s x s' e => ?_⟩
      unfold tgName setS at e
      by_cases hi : i < s.rho.length
      · rw [if_pos hi] at e; cases e
      · rw [if_neg hi] at e; cases e
  | Tuple as kk p =>
    have h : (slotLs c as).map tgTup = some t := h
    cases hs : slotLs c as with
    | none => rw [hs] at h; cases h
    | some is =>
      rw [hs] at h
      cases h
      have J := slotLs_ok D hs
      refine ⟨_, pg_tup (n := is.length) hc (J.pgs D.nd) J.len.1 J.len.2, tg_tup, fun d s x s' e => ?_⟩
      unfold tgTup at e
      cases d with
      | tuple xs =>
        dsimp only at e
        by_cases hl : xs.length = is.length
        · rw [if_pos hl] at e; exact setAll_nr e
        · rw [if_neg hl] at e; cases e
      | _ => cases e
  | _ => cases h
theorem Cold.tr (C : Cold CL X Wx g k call) {W' : WX} {pn : List (Addr × Obj)} {xe : Value → Shared → Prop} (tk : Takes (X.tr pn xe) W') (hp : PassesOwn (model X.prog X.w) X.A X.env xe) : Cold CL (X.tr pn xe) W' g k call :=
  ⟨C.calm, C.room, tk, C.stk, C.fr, hp, C.fns, fun x h => by
    obtain ⟨C', h1, h2, h3, h4, h5⟩ := (C.exs x h).is
    exact ⟨C', h1, h2, h3, h4, h5⟩⟩
theorem Gd.tr (D : Gd CL X Wx g c k call) (hh : c.hot = false) {W' : WX} {pn : List (Addr × Obj)} {xe : Value → Shared → Prop} (tk : Takes (X.tr pn xe) W') (hp : PassesOwn (model X.prog X.w) X.A X.env xe) : Gd CL (X.tr pn xe) W' g c k call :=
  ⟨D.hN, D.nd, D.sc, D.fn, D.un, D.gl, fun _ => (D.cold hh).tr tk hp, fun h => by rw [hh] at h; cases h⟩
theorem Gd.suite (D : Gd CL X Wx g c k call) (hh : c.hot = false) {a : Addr} {oe : Obj} {cn : Str} {C : Addr} {pn : List (Addr × Obj)} (hC : CL.cl cn C) (hz : Zc (.ref C) none oe) (hf : ∃ vs, oe.data = .fields vs) :
    Gd (CL.setEx (some (a, cn))) (X.suite a ((a, oe) :: pn)) (fun _ _ _ _ => False) g (hotOf c) k call :=
  ⟨D.hN, D.nd, D.sc, D.fn, D.un, ⟨D.gl.cst, D.gl.blt, D.gl.gcd, D.gl.isx, D.gl.hnd⟩, fun h => (nomatch h), fun _ => ⟨X, a, oe, pn, rfl, hf, fun a' cn' e => by cases e; exact ⟨rfl, C, hC, hz⟩⟩⟩
theorem js_forG (D : Gd CL X Wx g c k call) {tg it : Expr} {body el : List Stmt} {b : EM Fl} {p : Pos} (hb : JB CL X Wx body b) : JS CL X Wx (.For tg it body el p) (evFor g c call tg it el b) := by
  unfold evFor
  cases hh : c.hot with
  | true => exact js_dead
  | false =>
    rw [if_neg Bool.false_ne_true]
    have C := D.cold hh
    by_cases hs : (el.isEmpty && noSet it) = true
    · rw [if_pos hs]
      rw [Bool.and_eq_true] at hs
      cases el with
      | cons _ _ => cases hs.1
      | nil =>
        cases ht : evTg c tg with
        | none => exact js_dead
        | some t =>
          obtain ⟨G, h1, h2, h3⟩ := evTg_ok D C.calm ht
          exact js_for C.own C.calm (ji_src D) h1 h2 h3 hb (noSet_fold hs.2)
    · rw [if_neg hs]; exact js_dead
theorem js_whileG (D : Gd CL X Wx g c k call) {t : Expr} {body el : List Stmt} {b : EM Fl} {p : Pos} (hb : JB CL X Wx body b) : JS CL X Wx (.While t body el p) (evWhile g c call t el b) := by
  unfold evWhile
  cases hh : c.hot with
  | true => exact js_dead
  | false =>
    rw [if_neg Bool.false_ne_true]
    cases el with
    | cons _ _ => exact js_dead
    | nil => exact js_while (D.cold hh).own (snd_ev D t).t hb
theorem js_tryG (D : Gd CL X Wx g c k call) {body el fi : List Stmt} {hs : List ExceptHandler} {b : EM Fl} {os : List (Option Hd)} {p : Pos} (hb : c.hot = false → ∀ (W' : WX) (pn : List (Addr × Obj)) (xe : Value → Shared → Prop), Takes (X.tr pn xe) W' → PassesOwn (model X.prog X.w) X.A X.env xe → JB CL (X.tr pn xe) W' body b)
    (hh : c.hot = false → ∀ ms, optAll os = some ms → ∃ l, JH CL X g.tab hs ms l) : JS CL X Wx (.Try body hs el fi p) (evTry g c el fi b os) := by
  unfold evTry
  cases hc : c.hot with
  | true => exact js_dead
  | false =>
    rw [if_neg Bool.false_ne_true]
    have C := D.cold hc
    cases el with
    | cons _ _ => exact js_dead
    | nil =>
      cases fi with
      | cons _ _ => exact js_dead
      | nil =>
        rw [if_pos (show (([] : List Stmt).isEmpty && ([] : List Stmt).isEmpty) = true from rfl)]
        cases hm : optAll os with
        | none => exact js_dead
        | some ms =>
          obtain ⟨l, J⟩ := hh hc ms hm
          cases hs with
          | nil => cases J; exact js_dead
          | cons h0 hr =>
            cases ms with
            | nil => exact js_dead
            | cons m0 mr => exact js_try D.nd C.stk C.fr C.tk (hb hc) J
theorem jh_hd (D : Gd CL X Wx g c k call) (hh : c.hot = false) {t : Option Expr} {n : Option Str} {sts : List Stmt} {p : Pos} {b : EM Fl} {m : Hd} {hs : List ExceptHandler} {ms : List Hd} {l : List (Value × Option Nat × (Addr → Value → Option Addr → TS))}
    (HB : ∀ {CL : CA} {X : Cx} {Wx : WX}, Gd CL X Wx g (hotOf c) k call → JB CL X Wx sts b) (e : evHd g c t n sts b = some m) (J : JH CL X g.tab hs ms l) : ∃ l', JH CL X g.tab (.ExceptHandler t n sts p :: hs) (m :: ms) l' := by
  unfold evHd at e
  split at e
  · rename_i x px
    cases sts with
    | nil => cases e
    | cons b0 sts =>
      rw [if_neg (by show ¬ (false = true); exact Bool.false_ne_true)] at e
      by_cases hg : (isGl c x && g.excn.contains x) = true
      · rw [if_pos hg] at e
        rw [Bool.and_eq_true] at hg
        obtain ⟨g1, g2, g3⟩ := D.glob hg.1
        obtain ⟨cv, h1, h2⟩ := D.gl.hnd x hg.2
        cases hs' : hdSl c n with
        | none => rw [hs'] at e; cases e
        | some sl =>
          rw [hs'] at e
          cases e
          refine ⟨_, .cons (c := cv) ⟨g1, g2, ?_⟩ (fun cls C b hc ht => h2 cls C b hc ht) ?_ (fun a oe cn C pn hC hz hf => HB (D.suite hh hC hz hf)) J⟩
          · rcases h1 with h1 | ⟨h1, h3, h4⟩
            · exact .inl h1
            · exact .inr ⟨h1, h3, h4⟩
          · cases n with
            | none => cases hs'; trivial
            | some n =>
              unfold hdSl at hs'
              dsimp only at hs'
              cases hl : c.sc.names.lookup n with
              | none => rw [hl] at hs'; cases hs'
              | some kd =>
                rw [hl] at hs'
                cases kd with
                | «local» =>
                  dsimp only at hs'
                  cases hi : ixOf c.N n with
                  | none => rw [hi] at hs'; cases hs'
                  | some i =>
                    rw [hi] at hs'
                    cases hs'
                    refine ⟨by rw [D.hN]; exact ixOf_ok hi, ?_⟩
                    show X.env.scope.names.lookup n = _
                    rw [D.sc]; exact hl
                | _ => cases hs'
      · rw [if_neg hg] at e; cases e
  · cases e
mutual
theorem js_evS (g : GE) (k : Nat) (call : Call) (rb : Bool) : ∀ (st : Stmt) (CL : CA) (X : Cx) (Wx : WX) (c : Cxt), Gd CL X Wx g c k call → JS CL X Wx st (evS g call rb st c)
  | .Expr e _, _, _, _, _, D => js_exprG D
  | .Assign ts e p, CL, X, Wx, c, D => match ts with
    | [t] => js_asg D
    | [] => js_dead
    | _ :: _ :: _ => js_dead
  | .AugAssign t op e _, _, _, _, _, D => js_augG D
  | .Return e p, CL, X, Wx, c, D => match e with
    | none => js_retN
    | some e => js_ret (boxArg_ok (snd_ev D e))
  | .If t as bs _, CL, X, Wx, c, D => js_if (snd_ev D t).t (jb_evB g k call rb as CL X Wx c D) (jb_evB g k call rb bs CL X Wx c D)
  | .For tg it body el p, CL, X, Wx, c, D => js_forG D (jb_evB g k call rb body CL X Wx c D)
  | .While t body el p, CL, X, Wx, c, D => js_whileG D (jb_evB g k call rb body CL X Wx c D)
  | .Try body hs el fi p, CL, X, Wx, c, D => js_tryG D (fun hh W' pn xe tk hp => jb_evB g k call rb body CL (X.tr pn xe) W' c (D.tr hh tk hp)) (fun hh ms e => jh_evHs g k call rb hs CL X Wx c D hh ms e)
  | .Raise e o p, CL, X, Wx, c, D => match e, o with
    | some e, none => js_raiseG D
    | none, _ => js_dead
    | some _, some _ => js_dead
  | .Pass _, _, _, _, _, D => js_pass
  | .Break _, _, _, _, _, D => js_break
  | .Continue _, _, _, _, _, D => js_continue
  | .FunctionDef .., _, _, _, _, D => js_dead
  | .AsyncFunctionDef .., _, _, _, _, D => js_dead
  | .ClassDef .., _, _, _, _, D => js_dead
  | .Delete .., _, _, _, _, D => js_dead
  | .TypeAlias .., _, _, _, _, D => js_dead
  | .AnnAssign .., _, _, _, _, D => js_dead
  | .AsyncFor .., _, _, _, _, D => js_dead
  | .With .., _, _, _, _, D => js_dead
  | .AsyncWith .., _, _, _, _, D => js_dead
  | .Match .., _, _, _, _, D => js_dead
  | .TryStar .., _, _, _, _, D => js_dead
  | .Assert .., _, _, _, _, D => js_dead
  | .Import .., _, _, _, _, D => js_dead
  | .ImportFrom .., _, _, _, _, D => js_dead
  | .Global .., _, _, _, _, D => js_dead
  | .Nonlocal .., _, _, _, _, D => js_dead
theorem jb_evB (g : GE) (k : Nat) (call : Call) (rb : Bool) : ∀ (sts : List Stmt) (CL : CA) (X : Cx) (Wx : WX) (c : Cxt), Gd CL X Wx g c k call → JB CL X Wx sts (evB g call rb sts c)
  | [], _, _, _, _, D => jb_nil
  | s :: r, CL, X, Wx, c, D => jb_cons (js_evS g k call rb s CL X Wx c D) (jb_evB g k call rb r CL X Wx c D)
theorem jh_evHs (g : GE) (k : Nat) (call : Call) (rb : Bool) : ∀ (hs : List ExceptHandler) (CL : CA) (X : Cx) (Wx : WX) (c : Cxt), Gd CL X Wx g c k call → c.hot = false → ∀ ms, optAll (evHs g call rb hs c) = some ms → ∃ l, JH CL X g.tab hs ms l
  | [], _, _, _, _, D, hh, _, e => by cases e; exact ⟨_, .nil⟩
  | h :: r, CL, X, Wx, c, D, hh, ms, e => by
    have ih := jh_evHs g k call rb r CL X Wx c D hh
    have i1 : ∀ m ms l, evH g call rb h c = some m → JH CL X g.tab r ms l → ∃ l', JH CL X g.tab (h :: r) (m :: ms) l' := fun m ms l => jh_evH g k call rb h CL X Wx c D hh m r ms l
    have e : optAll (evH g call rb h c :: evHs g call rb r c) = some ms := e
    cases e1 : evH g call rb h c with
    | none => rw [e1] at e; cases e
    | some m =>
      rw [e1] at e
      have e : (optAll (evHs g call rb r c)).map (m :: ·) = some ms := e
      cases e2 : optAll (evHs g call rb r c) with
      | none => rw [e2] at e; cases e
      | some mr =>
        rw [e2] at e
        cases e
        obtain ⟨l, J⟩ := ih mr e2
        exact i1 m mr l e1 J
theorem jh_evH (g : GE) (k : Nat) (call : Call) (rb : Bool) : ∀ (h : ExceptHandler) (CL : CA) (X : Cx) (Wx : WX) (c : Cxt), Gd CL X Wx g c k call → c.hot = false → ∀ (m : Hd) (hs : List ExceptHandler) (ms : List Hd) (l : List (Value × Option Nat × (Addr → Value → Option Addr → TS))), evH g call rb h c = some m → JH CL X g.tab hs ms l → ∃ l', JH CL X g.tab (h :: hs) (m :: ms) l'
  | .ExceptHandler t n sts p, CL, X, Wx, c, D, hh, m, hs, ms, l, e, J => jh_hd D hh (fun {CL X Wx} D' => jb_evB g k call rb sts CL X Wx (hotOf c) D') e J
end
end
end MP
/-! Part R: the defs of the module, level by level; the law's end. -/
namespace MP
open PySem PySem.Spec PyProof.Rows L2
noncomputable def evalF (g : GE) : Nat → Call
  | 0 => fun _ _ _ => .stuck
  | k + 1 => fun f ws mem => match g.fns.lookup f with
    | some F => runF F.N.length (evB g (evalF g k) F.rb F.body ⟨F.N, F.sc, false⟩) ws mem
    | none => .stuck
theorem evalF_eq {g : GE} {k : Nat} {f : Str} {F : FI} (h : g.fns.lookup f = some F) : evalF g (k + 1) f = runF F.N.length (evB g (evalF g k) F.rb F.body ⟨F.N, F.sc, false⟩) := by
  funext ws mem
  show (match g.fns.lookup f with
    | some F => runF F.N.length (evB g (evalF g k) F.rb F.body ⟨F.N, F.sc, false⟩) ws mem
    | none => .stuck) = _
  rw [h]
/-- an own exception class -/
def XInG (K : PySem.W.Frag) (CL : CA) (mg : Str → Option Value) (cn : Str) : Prop := ∃ C, mg cn = some (.ref C) ∧ CL.cl cn C ∧ PySem.W.keepIn K (.ref C) = true ∧ PySem.W.subIn K (.ref C) (.type "BaseException") = some true ∧ PySem.W.typeIn K (.ref C) = some (.type "type") ∧
  PySem.W.excIn K C [.type "ValueError", .type "Exception", .type "BaseException", .type "object"] "ValueError.__new__" = true
/-- a def as it stands behind the top -/
structure TabIn (K : PySem.W.Frag) (mg : Str → Option Value) (f : Str) (F : FI) : Prop where
  is : ∃ (st : Stmt) (qual : Str) (a : Addr) (fd : FuncData), Fun K f qual st a fd ∧ mg f = some (.ref a) ∧ FnScope F.N F.ps (defScope st) ∧ defBody st = F.body ∧ defScope st = F.sc ∧ Binds K fd F.ps [] ∧ ∀ ks ∈ F.kws, KwIn fd F.ps ks
theorem all_fns {K : PySem.W.Frag} {CL : CA} {P : Program} {w : World} {mg : Str → Option Value} {base : Heap} {g : GE} (hg : Glob K CL mg g) (hx : ∀ x, g.excs.contains x = true → XInG K CL mg x) (hT : ∀ f F, g.fns.lookup f = some F → TabIn K mg f F) :
    ∀ k f F, g.fns.lookup f = some F → FnIn K CL P w mg base k f F.ps F.kws (evalF g k f) := by
  intro k
  induction k with
  | zero =>
    intro f F hf
    obtain ⟨st, qual, a, fd, h1, h2, h3, h4, h5, h6, h7⟩ := (hT f F hf).is
    refine ⟨a, fd, h2, h1.kp, h6, ⟨fun vs H Q E ⟨G, ws, mem, hl, _⟩ => hl, fun A outer s H args us vs Q E hr he hb hv hs => ?_⟩, h7⟩
    obtain ⟨G, ws, mem, hl, S, hn, r, q⟩ := hs
    exact q.elim
  | succ k ih =>
    intro f F hf
    obtain ⟨st, qual, a, fd, h1, h2, h3, h4, h5, h6, h7⟩ := (hT f F hf).is
    refine ⟨a, fd, h2, h1.kp, h6, ?_, h7⟩
    rw [evalF_eq hf, ← h4]
    refine fn_sound h1 h3 fun cdv A outer s H E hr => ?_
    refine jb_evB g k (evalF g k) F.rb (defBody st) CL _ _ ⟨F.N, F.sc, false⟩ ⟨rfl, h3.nd, h5, fun _ => rfl, hr.units, hg, fun _ => ⟨rfl, hr, takes_of rfl rfl rfl rfl, rfl, rfl, passes_of rfl, ih, fun x hh => ?_⟩, fun h => (nomatch h)⟩
    obtain ⟨C, k1, k2, k3, k4, k5, k6⟩ := hx x hh
    exact ⟨C, k1, k2, k3, raises_own k4 k5, k6⟩
/-- the promise at the law's call -/
theorem sp_start {K : PySem.W.Frag} {CL : CA} {c : List W → List Box → Res W} {H : Hp} {a : Addr} {ns : List Int} (hex : CL.ex = none) (hS : SqL K H a (ns.map V.int))
    (h : ∃ s', c [.d (.list (ns.map .int))] [] = .ok (.d (.bool true)) s') : spF K CL 1 c [.ref a] H (fun v _ => v = .bl true) (fun _ _ _ => False) := by
  have hi : ∀ {F : Addr → Prop} (l : List Int), RDs K F H (l.map .int) (l.map V.int) := fun {F} l => by
    induction l with
    | nil => exact .nil
    | cons x r ih => exact .cons (.int x) ih
  obtain ⟨s', e⟩ := h
  rcases hS with hS | hS
  · refine ⟨⟨fun b => b = a, fun _ => none, none⟩, [.d (.list (ns.map .int))], [], rfl, ⟨rfl, fun i w e => by simp at e, fun b c e => by simp at e, fun pl pl' p e => by simp at e, fun pl p e => by simp at e, fun p hp => ?_, fun b p e => by simp at e, fun b f p e => by simp at e, hex.symm⟩, fun _ => rfl, .cons (.list (.inl ⟨rfl, hS⟩) (hi ns)) .nil, ?_⟩
    · have hp : p = a := hp
      subst hp
      refine ⟨?_, fun pl e => by simp at e⟩
      rcases hS with h | ⟨o, h⟩
      · exact ⟨_, h⟩
      · exact ⟨_, h⟩
    · rw [e]
      intro G' H' v f S r
      cases r
      rfl
  · refine ⟨⟨fun b => False, fun _ => none, none⟩, [.d (.list (ns.map .int))], [], rfl, ⟨rfl, fun i w e => by simp at e, fun b c e => by simp at e, fun pl pl' p e => by simp at e, fun pl p e => by simp at e, fun p hp => hp.elim, fun b p e => by simp at e, fun b f p e => by simp at e, hex.symm⟩, fun _ => rfl, .cons (.list (.inr hS) (hi ns)) .nil, ?_⟩
    rw [e]
    intro G' H' v f S r
    cases r
    rfl
end MP
/-! Part S: tables of facts. -/
namespace MP
open PySem PySem.Spec PyProof.Rows L2
/-- one def, level by level -/
theorem fn_one {K : PySem.W.Frag} {CL : CA} {P : Program} {w : World} {mg : Str → Option Value} {base : Heap} {g : GE} (hg : Glob K CL mg g) (hx : ∀ x, g.excs.contains x = true → XInG K CL mg x) (hT : ∀ f F, g.fns.lookup f = some F → TabIn K mg f F)
    {f : Str} {F : FI} {st : Stmt} {qual : Str} {a : Addr} {fd : FuncData} (hf : g.fns.lookup f = some F) (h1 : Fun K f qual st a fd) (h3 : FnScope F.N F.ps (defScope st)) (h4 : defBody st = F.body) (h5 : defScope st = F.sc) (k : Nat) :
    FnOk P w K mg base (L2.CX P w) (k + 1) a fd F.ps (spF K CL F.ps.length (evalF g (k + 1) f)) := by
  rw [evalF_eq hf, ← h4]
  refine fn_sound h1 h3 fun cdv A outer s H E hr => ?_
  refine jb_evB g k (evalF g k) F.rb (defBody st) CL _ _ ⟨F.N, F.sc, false⟩ ⟨rfl, h3.nd, h5, fun _ => rfl, hr.units, hg, fun _ => ⟨rfl, hr, takes_of rfl rfl rfl rfl, rfl, rfl, passes_of rfl, all_fns hg hx hT k, fun x hh => ?_⟩, fun h => (nomatch h)⟩
  obtain ⟨C, k1, k2, k3, k4, k5, k6⟩ := hx x hh
  exact ⟨C, k1, k2, k3, raises_own k4 k5, k6⟩
theorem tab_mk {K : PySem.W.Frag} {mg : Str → Option Value} {f qual : Str} {F : FI} {st : Stmt} {a : Addr} {fd : FuncData} (h1 : Fun K f qual st a fd) (h2 : mg f = some (.ref a)) (h3 : FnScope F.N F.ps (defScope st)) (h4 : defBody st = F.body) (h5 : defScope st = F.sc) (h6 : Binds K fd F.ps []) (h7 : ∀ ks ∈ F.kws, KwIn fd F.ps ks) : TabIn K mg f F := ⟨st, qual, a, fd, h1, h2, h3, h4, h5, h6, h7⟩
section
variable {K : PySem.W.Frag} {mg : Str → Option Value}
theorem tab_nil : ∀ f F, List.lookup f ([] : List (Str × FI)) = some F → TabIn K mg f F := fun f F h => by cases h
theorem tab_cons {f0 : Str} {F0 : FI} {l : List (Str × FI)} (h : TabIn K mg f0 F0) (t : ∀ f F, List.lookup f l = some F → TabIn K mg f F) : ∀ f F, List.lookup f ((f0, F0) :: l) = some F → TabIn K mg f F := fun f F e => by
  rw [List.lookup_cons] at e
  by_cases c : (f == f0) = true
  · rw [c] at e
    cases e
    rw [eq_of_beq c]; exact h
  · have c' : (f == f0) = false := by simpa using c
    rw [c'] at e
    exact t f F e
end
/-- a table's rows, by name -/
theorem con_nil {p : Str → Prop} : ∀ x, List.contains ([] : List Str) x = true → p x := fun x h => by simp at h
theorem con_cons {p : Str → Prop} {y : Str} {l : List Str} (h : p y) (t : ∀ x, l.contains x = true → p x) : ∀ x, (y :: l).contains x = true → p x := fun x e => by
  rw [List.contains_cons, Bool.or_eq_true] at e
  rcases e with e | e
  · rw [eq_of_beq e]; exact h
  · exact t x e
theorem cst_nil {p : Str → PyData → Prop} : ∀ x d, List.lookup x ([] : List (Str × PyData)) = some d → p x d := fun x d h => by cases h
theorem cst_cons {p : Str → PyData → Prop} {y : Str} {d0 : PyData} {l : List (Str × PyData)} (h : p y d0) (t : ∀ x d, List.lookup x l = some d → p x d) : ∀ x d, List.lookup x ((y, d0) :: l) = some d → p x d := fun x d e => by
  rw [List.lookup_cons] at e
  by_cases c : (x == y) = true
  · rw [c] at e
    cases e
    rw [eq_of_beq c]; exact h
  · have c' : (x == y) = false := by simpa using c
    rw [c'] at e
    exact t x d e
/-- the classes whose instances are raised, by name -/
def CLK (cs : List Str) (K : PySem.W.Frag) : CA := ⟨fun cn C => cn ∈ cs ∧ PySem.W.nsIn K mainGlobals cn = some (some (.ref C)), none⟩
theorem clk_at {cs : List Str} {K : PySem.W.Frag} {cn : Str} {C C1 : Addr} (h : (CLK cs K).cl cn C) (a : PySem.W.nsIn K mainGlobals cn = some (some (.ref C1))) : C = C1 := by
  obtain ⟨_, h⟩ := h
  rw [a] at h
  cases h; rfl
theorem cx_no {P : Program} {w : World} {H : Hp} {s : Shared} {e : Value} {s' : Shared} (h : L2.CX P w [] H s (fun _ _ _ => False) e s') : False := by
  obtain ⟨a, B, H', cls, d, _, _, _, _, _, _, _, z⟩ := h
  exact z
end MP
namespace MP
open PySem PySem.Spec PyProof.Rows L2
def topS (i : Nat) : Stmt := PySem.Challenge.pw_juststeps_k66_ratios.main.body.getD i (.Pass ⟨0, 0, 0, 0⟩)
abbrev s_p_is_int : Stmt := topS 6
def n_p_is_int : List Str := ["x"]
def f_p_is_int : FI := ⟨["x"], n_p_is_int, defBody s_p_is_int, defScope s_p_is_int, [], [], false⟩
theorem c_p_is_int : FnScope f_p_is_int.N f_p_is_int.ps (defScope s_p_is_int) := ⟨rfl, rfl, rfl, by decide +kernel, rfl, by decide +kernel, by decide +kernel⟩
abbrev s_p_lowest : Stmt := topS 8
def n_p_lowest : List Str := ["top", "bottom", "common"]
def f_p_lowest : FI := ⟨["top", "bottom"], n_p_lowest, defBody s_p_lowest, defScope s_p_lowest, [], [], false⟩
theorem c_p_lowest : FnScope f_p_lowest.N f_p_lowest.ps (defScope s_p_lowest) := ⟨rfl, rfl, rfl, by decide +kernel, rfl, by decide +kernel, by decide +kernel⟩
abbrev s_p_is_ratio : Stmt := topS 9
def n_p_is_ratio : List Str := ["thing"]
def f_p_is_ratio : FI := ⟨["thing"], n_p_is_ratio, defBody s_p_is_ratio, defScope s_p_is_ratio, [], [], false⟩
theorem c_p_is_ratio : FnScope f_p_is_ratio.N f_p_is_ratio.ps (defScope s_p_is_ratio) := ⟨rfl, rfl, rfl, by decide +kernel, rfl, by decide +kernel, by decide +kernel⟩
abbrev s_p_need_ratio : Stmt := topS 10
def n_p_need_ratio : List Str := ["thing"]
def f_p_need_ratio : FI := ⟨["thing"], n_p_need_ratio, defBody s_p_need_ratio, defScope s_p_need_ratio, [], [], false⟩
theorem c_p_need_ratio : FnScope f_p_need_ratio.N f_p_need_ratio.ps (defScope s_p_need_ratio) := ⟨rfl, rfl, rfl, by decide +kernel, rfl, by decide +kernel, by decide +kernel⟩
abbrev s_p_ratio : Stmt := topS 11
def n_p_ratio : List Str := ["top", "bottom"]
def f_p_ratio : FI := ⟨["top", "bottom"], n_p_ratio, defBody s_p_ratio, defScope s_p_ratio, [], [["bottom", "top"]], false⟩
theorem c_p_ratio : FnScope f_p_ratio.N f_p_ratio.ps (defScope s_p_ratio) := ⟨rfl, rfl, rfl, by decide +kernel, rfl, by decide +kernel, by decide +kernel⟩
abbrev s_p_plus : Stmt := topS 12
def n_p_plus : List Str := ["a", "b"]
def f_p_plus : FI := ⟨["a", "b"], n_p_plus, defBody s_p_plus, defScope s_p_plus, [], [["b", "a"]], false⟩
theorem c_p_plus : FnScope f_p_plus.N f_p_plus.ps (defScope s_p_plus) := ⟨rfl, rfl, rfl, by decide +kernel, rfl, by decide +kernel, by decide +kernel⟩
abbrev s_p_minus : Stmt := topS 13
def n_p_minus : List Str := ["a", "b"]
def f_p_minus : FI := ⟨["a", "b"], n_p_minus, defBody s_p_minus, defScope s_p_minus, [], [["b", "a"]], false⟩
theorem c_p_minus : FnScope f_p_minus.N f_p_minus.ps (defScope s_p_minus) := ⟨rfl, rfl, rfl, by decide +kernel, rfl, by decide +kernel, by decide +kernel⟩
abbrev s_p_product : Stmt := topS 14
def n_p_product : List Str := ["a", "b"]
def f_p_product : FI := ⟨["a", "b"], n_p_product, defBody s_p_product, defScope s_p_product, [], [["b", "a"]], false⟩
theorem c_p_product : FnScope f_p_product.N f_p_product.ps (defScope s_p_product) := ⟨rfl, rfl, rfl, by decide +kernel, rfl, by decide +kernel, by decide +kernel⟩
abbrev s_p_quotient : Stmt := topS 15
def n_p_quotient : List Str := ["a", "b"]
def f_p_quotient : FI := ⟨["a", "b"], n_p_quotient, defBody s_p_quotient, defScope s_p_quotient, [], [["b", "a"]], false⟩
theorem c_p_quotient : FnScope f_p_quotient.N f_p_quotient.ps (defScope s_p_quotient) := ⟨rfl, rfl, rfl, by decide +kernel, rfl, by decide +kernel, by decide +kernel⟩
abbrev s_p_below : Stmt := topS 16
def n_p_below : List Str := ["a", "b"]
def f_p_below : FI := ⟨["a", "b"], n_p_below, defBody s_p_below, defScope s_p_below, [], [["b", "a"]], false⟩
theorem c_p_below : FnScope f_p_below.N f_p_below.ps (defScope s_p_below) := ⟨rfl, rfl, rfl, by decide +kernel, rfl, by decide +kernel, by decide +kernel⟩
abbrev s_lgcd : Stmt := topS 18
def n_lgcd : List Str := ["_law_a", "_law_b", "_law_rest"]
def f_lgcd : FI := ⟨["_law_a", "_law_b"], n_lgcd, defBody s_lgcd, defScope s_lgcd, [], [], false⟩
theorem c_lgcd : FnScope f_lgcd.N f_lgcd.ps (defScope s_lgcd) := ⟨rfl, rfl, rfl, by decide +kernel, rfl, by decide +kernel, by decide +kernel⟩
abbrev s_llowest : Stmt := topS 19
def n_llowest : List Str := ["_law_top", "_law_bottom", "_law_common"]
def f_llowest : FI := ⟨["_law_top", "_law_bottom"], n_llowest, defBody s_llowest, defScope s_llowest, [], [], false⟩
theorem c_llowest : FnScope f_llowest.N f_llowest.ps (defScope s_llowest) := ⟨rfl, rfl, rfl, by decide +kernel, rfl, by decide +kernel, by decide +kernel⟩
abbrev s_ldraw : Stmt := topS 20
def n_ldraw : List Str := ["_law_well_here", "_law_many", "_law_cells", "_law_got", "_law_cell"]
def f_ldraw : FI := ⟨["_law_well_here", "_law_many"], n_ldraw, defBody s_ldraw, defScope s_ldraw, [true], [], false⟩
theorem c_ldraw : FnScope f_ldraw.N f_ldraw.ps (defScope s_ldraw) := ⟨rfl, rfl, rfl, by decide +kernel, rfl, by decide +kernel, by decide +kernel⟩
abbrev s_lnumber : Stmt := topS 21
def n_lnumber : List Str := ["_law_well_here", "_law_shape"]
def f_lnumber : FI := ⟨["_law_well_here"], n_lnumber, defBody s_lnumber, defScope s_lnumber, [true], [], false⟩
theorem c_lnumber : FnScope f_lnumber.N f_lnumber.ps (defScope s_lnumber) := ⟨rfl, rfl, rfl, by decide +kernel, rfl, by decide +kernel, by decide +kernel⟩
abbrev s_lno_ratio : Stmt := topS 22
def n_lno_ratio : List Str := ["_law_well_here", "_law_n", "_law_m", "_law_things"]
def f_lno_ratio : FI := ⟨["_law_well_here"], n_lno_ratio, defBody s_lno_ratio, defScope s_lno_ratio, [true], [], false⟩
theorem c_lno_ratio : FnScope f_lno_ratio.N f_lno_ratio.ps (defScope s_lno_ratio) := ⟨rfl, rfl, rfl, by decide +kernel, rfl, by decide +kernel, by decide +kernel⟩
abbrev s_lint : Stmt := topS 23
def n_lint : List Str := ["_law_thing"]
def f_lint : FI := ⟨["_law_thing"], n_lint, defBody s_lint, defScope s_lint, [], [], false⟩
theorem c_lint : FnScope f_lint.N f_lint.ps (defScope s_lint) := ⟨rfl, rfl, rfl, by decide +kernel, rfl, by decide +kernel, by decide +kernel⟩
abbrev s_lwell : Stmt := topS 24
def n_lwell : List Str := ["_law_script", "_law_at"]
def f_lwell : FI := ⟨["_law_script", "_law_at"], n_lwell, defBody s_lwell, defScope s_lwell, [], [], true⟩
theorem c_lwell : FnScope f_lwell.N f_lwell.ps (defScope s_lwell) := ⟨rfl, rfl, rfl, by decide +kernel, rfl, by decide +kernel, by decide +kernel⟩
abbrev s_ltruth : Stmt := topS 25
def n_ltruth : List Str := ["_law_told", "_law_due_here"]
def f_ltruth : FI := ⟨["_law_told", "_law_due_here"], n_ltruth, defBody s_ltruth, defScope s_ltruth, [], [], false⟩
theorem c_ltruth : FnScope f_ltruth.N f_ltruth.ps (defScope s_ltruth) := ⟨rfl, rfl, rfl, by decide +kernel, rfl, by decide +kernel, by decide +kernel⟩
abbrev s_lcalled : Stmt := topS 26
def n_lcalled : List Str := ["_law_pick", "_law_a", "_law_b"]
def f_lcalled : FI := ⟨["_law_pick", "_law_a", "_law_b"], n_lcalled, defBody s_lcalled, defScope s_lcalled, [], [], false⟩
theorem c_lcalled : FnScope f_lcalled.N f_lcalled.ps (defScope s_lcalled) := ⟨rfl, rfl, rfl, by decide +kernel, rfl, by decide +kernel, by decide +kernel⟩
abbrev s_lnamed : Stmt := topS 27
def n_lnamed : List Str := ["_law_pick", "_law_a", "_law_b"]
def f_lnamed : FI := ⟨["_law_pick", "_law_a", "_law_b"], n_lnamed, defBody s_lnamed, defScope s_lnamed, [], [], false⟩
theorem c_lnamed : FnScope f_lnamed.N f_lnamed.ps (defScope s_lnamed) := ⟨rfl, rfl, rfl, by decide +kernel, rfl, by decide +kernel, by decide +kernel⟩
abbrev s_lword : Stmt := topS 28
def n_lword : List Str := ["_law_pick", "_law_a", "_law_b", "_law_word_here", "e"]
def f_lword : FI := ⟨["_law_pick", "_law_a", "_law_b"], n_lword, defBody s_lword, defScope s_lword, [], [], false⟩
theorem c_lword : FnScope f_lword.N f_lword.ps (defScope s_lword) := ⟨rfl, rfl, rfl, by decide +kernel, rfl, by decide +kernel, by decide +kernel⟩
abbrev s_ldue : Stmt := topS 29
def n_ldue : List Str := ["_law_pick", "_law_a", "_law_b"]
def f_ldue : FI := ⟨["_law_pick", "_law_a", "_law_b"], n_ldue, defBody s_ldue, defScope s_ldue, [], [], false⟩
theorem c_ldue : FnScope f_ldue.N f_ldue.ps (defScope s_ldue) := ⟨rfl, rfl, rfl, by decide +kernel, rfl, by decide +kernel, by decide +kernel⟩
abbrev s_lpair : Stmt := topS 30
def n_lpair : List Str := ["_law_well_here", "_law_top", "_law_bottom", "_law_factor"]
def f_lpair : FI := ⟨["_law_well_here"], n_lpair, defBody s_lpair, defScope s_lpair, [true], [], false⟩
theorem c_lpair : FnScope f_lpair.N f_lpair.ps (defScope s_lpair) := ⟨rfl, rfl, rfl, by decide +kernel, rfl, by decide +kernel, by decide +kernel⟩
abbrev s_ldoors : Stmt := topS 31
def n_ldoors : List Str := ["_law_well_here", "_law_a", "_law_b", "_law_bad", "_law_worse", "_law_zero", "_law_pick"]
def f_ldoors : FI := ⟨["_law_well_here", "_law_a", "_law_b"], n_ldoors, defBody s_ldoors, defScope s_ldoors, [true], [], false⟩
theorem c_ldoors : FnScope f_ldoors.N f_ldoors.ps (defScope s_ldoors) := ⟨rfl, rfl, rfl, by decide +kernel, rfl, by decide +kernel, by decide +kernel⟩
abbrev s_lsame : Stmt := topS 32
def n_lsame : List Str := ["_law_told", "_law_due_here"]
def f_lsame : FI := ⟨["_law_told", "_law_due_here"], n_lsame, defBody s_lsame, defScope s_lsame, [], [], false⟩
theorem c_lsame : FnScope f_lsame.N f_lsame.ps (defScope s_lsame) := ⟨rfl, rfl, rfl, by decide +kernel, rfl, by decide +kernel, by decide +kernel⟩
abbrev s_law_ : Stmt := topS 33
def n_law_ : List Str := ["_law_script", "_law_well_here", "_law_kept", "_law_k", "_law_a", "_law_due_here", "_law_b", "_law_pick", "_law_top", "_law_bottom"]
def f_law_ : FI := ⟨["_law_script"], n_law_, defBody s_law_, defScope s_law_, [], [], false⟩
theorem c_law_ : FnScope f_law_.N f_law_.ps (defScope s_law_) := ⟨rfl, rfl, rfl, by decide +kernel, rfl, by decide +kernel, by decide +kernel⟩
def tb : Tab := fun cls x => if cls = "BadRatio" then (if x = "BadRatio" then some true else if x = "ZeroBottom" then some false else if x = "StepError" then some true else if x = "ValueError" then some true else none) else if cls = "ZeroBottom" then (if x = "BadRatio" then some false else if x = "ZeroBottom" then some true else if x = "StepError" then some true else if x = "ValueError" then some true else none) else none
def g : GE := ⟨[("is_int", f_p_is_int), ("lowest", f_p_lowest), ("is_ratio", f_p_is_ratio), ("need_ratio", f_p_need_ratio), ("ratio", f_p_ratio), ("plus", f_p_plus), ("minus", f_p_minus), ("product", f_p_product), ("quotient", f_p_quotient), ("below", f_p_below), ("_law_gcd", f_lgcd), ("_law_lowest", f_llowest), ("_law_draw", f_ldraw), ("_law_number", f_lnumber), ("_law_no_ratio", f_lno_ratio), ("_law_int", f_lint), ("_law_well", f_lwell), ("_law_truth", f_ltruth), ("_law_called", f_lcalled), ("_law_named", f_lnamed), ("_law_word", f_lword), ("_law_due", f_ldue), ("_law_pair", f_lpair), ("_law_doors", f_ldoors), ("_law_same", f_lsame), ("law", f_law_)], [], ["isinstance", "int", "bool", "tuple", "len", "abs", "list", "range"], ["gcd"], ["BadRatio", "ZeroBottom"], ["BadRatio", "ZeroBottom", "StepError", "ValueError"], tb⟩
noncomputable def m_p_is_int (call : Call) : EM Fl := (sSeq (sRet (cAndV (cP1 (fIsi .int) (.var 0)) (cNotV (cP1 (fIsi .bool) (.var 0))))) (er .next))
theorem b_p_is_int (call : Call) : evB g call false (defBody s_p_is_int) ⟨n_p_is_int, defScope s_p_is_int, false⟩ = m_p_is_int call := by kernel_rfl
theorem q_p_is_int : List.lookup ("is_int" : Str) g.fns = some f_p_is_int := by kernel_rfl
theorem e_p_is_int (k : Nat) : evalF g (k + 1) "is_int" = runF 1 (m_p_is_int (evalF g k)) := by
  rw [evalF_eq q_p_is_int, ← b_p_is_int]; rfl
noncomputable def m_p_lowest (call : Call) : EM Fl := (sSeq (sIf (eb (cP2 (fCmpI fun i j => decide (i < j)) (.var 1) (.ex (er (.d (.int 0))))) toB) (sSeq (sSet 0 (cP1 fNeg (.var 0))) (sSeq (sSet 1 (cP1 fNeg (.var 1))) (er .next))) (er .next)) (sSeq (sSet 2 (cPN (f2 fGcd) [(.var 0), (.var 1)])) (sSeq (sRet (cTup [(cP2 fDiv (.var 0) (.var 2)), (cP2 fDiv (.var 1) (.var 2))])) (er .next))))
theorem b_p_lowest (call : Call) : evB g call false (defBody s_p_lowest) ⟨n_p_lowest, defScope s_p_lowest, false⟩ = m_p_lowest call := by kernel_rfl
theorem q_p_lowest : List.lookup ("lowest" : Str) g.fns = some f_p_lowest := by kernel_rfl
theorem e_p_lowest (k : Nat) : evalF g (k + 1) "lowest" = runF 3 (m_p_lowest (evalF g k)) := by
  rw [evalF_eq q_p_lowest, ← b_p_lowest]; rfl
noncomputable def m_p_is_ratio (call : Call) : EM Fl := (sSeq (sIf (cOr (cNot (cTru (.ex (cP1 (fIsi .tuple) (.var 0))))) (eb (cP2 fNe (.ex (cPN (f1 fLen) [(.var 0)])) (.ex (er (.d (.int 2))))) toB)) (sSeq (sRet (er (.d (.bool false)))) (er .next)) (er .next)) (sSeq (sIf (cOr (cNot (cTru (.ex (cCall call "is_int" [(cP2 fIx (.var 0) (.ex (er (.d (.int 0)))))])))) (cOr (cNot (cTru (.ex (cCall call "is_int" [(cP2 fIx (.var 0) (.ex (er (.d (.int 1)))))])))) (eb (cP2 (fCmpI fun i j => decide (i < j)) (.ex (cP2 fIx (.var 0) (.ex (er (.d (.int 1)))))) (.ex (er (.d (.int 1))))) toB))) (sSeq (sRet (er (.d (.bool false)))) (er .next)) (er .next)) (sSeq (sRet (cP2 fEq (.ex (cPN (f2 fGcd) [(.ex (cP2 fIx (.var 0) (.ex (er (.d (.int 0)))))), (.ex (cP2 fIx (.var 0) (.ex (er (.d (.int 1))))))])) (.ex (er (.d (.int 1)))))) (er .next))))
theorem b_p_is_ratio (call : Call) : evB g call false (defBody s_p_is_ratio) ⟨n_p_is_ratio, defScope s_p_is_ratio, false⟩ = m_p_is_ratio call := by kernel_rfl
theorem q_p_is_ratio : List.lookup ("is_ratio" : Str) g.fns = some f_p_is_ratio := by kernel_rfl
theorem e_p_is_ratio (k : Nat) : evalF g (k + 1) "is_ratio" = runF 1 (m_p_is_ratio (evalF g k)) := by
  rw [evalF_eq q_p_is_ratio, ← b_p_is_ratio]; rfl
noncomputable def m_p_need_ratio (call : Call) : EM Fl := (sSeq (sIf (cNot (cTru (.ex (cCall call "is_ratio" [(cVar 0)])))) (sSeq (sRaise "BadRatio") (er .next)) (er .next)) (er .next))
theorem b_p_need_ratio (call : Call) : evB g call false (defBody s_p_need_ratio) ⟨n_p_need_ratio, defScope s_p_need_ratio, false⟩ = m_p_need_ratio call := by kernel_rfl
theorem q_p_need_ratio : List.lookup ("need_ratio" : Str) g.fns = some f_p_need_ratio := by kernel_rfl
theorem e_p_need_ratio (k : Nat) : evalF g (k + 1) "need_ratio" = runF 1 (m_p_need_ratio (evalF g k)) := by
  rw [evalF_eq q_p_need_ratio, ← b_p_need_ratio]; rfl
noncomputable def m_p_ratio (call : Call) : EM Fl := (sSeq (sIf (eb (cP2 fEq (.var 1) (.ex (er (.d (.int 0))))) toB) (sSeq (sRaise "ZeroBottom") (er .next)) (er .next)) (sSeq (sRet (cCall call "lowest" [(cVar 0), (cVar 1)])) (er .next)))
theorem b_p_ratio (call : Call) : evB g call false (defBody s_p_ratio) ⟨n_p_ratio, defScope s_p_ratio, false⟩ = m_p_ratio call := by kernel_rfl
theorem q_p_ratio : List.lookup ("ratio" : Str) g.fns = some f_p_ratio := by kernel_rfl
theorem e_p_ratio (k : Nat) : evalF g (k + 1) "ratio" = runF 2 (m_p_ratio (evalF g k)) := by
  rw [evalF_eq q_p_ratio, ← b_p_ratio]; rfl
noncomputable def m_p_plus (call : Call) : EM Fl := (sSeq (sExpr (cCall call "need_ratio" [(cVar 0)])) (sSeq (sExpr (cCall call "need_ratio" [(cVar 1)])) (sSeq (sRet (cCall call "lowest" [(cP2 fAdd (.ex (cP2 fMul (.ex (cP2 fIx (.var 0) (.ex (er (.d (.int 0)))))) (.ex (cP2 fIx (.var 1) (.ex (er (.d (.int 1)))))))) (.ex (cP2 fMul (.ex (cP2 fIx (.var 1) (.ex (er (.d (.int 0)))))) (.ex (cP2 fIx (.var 0) (.ex (er (.d (.int 1))))))))), (cP2 fMul (.ex (cP2 fIx (.var 0) (.ex (er (.d (.int 1)))))) (.ex (cP2 fIx (.var 1) (.ex (er (.d (.int 1)))))))])) (er .next))))
theorem b_p_plus (call : Call) : evB g call false (defBody s_p_plus) ⟨n_p_plus, defScope s_p_plus, false⟩ = m_p_plus call := by kernel_rfl
theorem q_p_plus : List.lookup ("plus" : Str) g.fns = some f_p_plus := by kernel_rfl
theorem e_p_plus (k : Nat) : evalF g (k + 1) "plus" = runF 2 (m_p_plus (evalF g k)) := by
  rw [evalF_eq q_p_plus, ← b_p_plus]; rfl
noncomputable def m_p_minus (call : Call) : EM Fl := (sSeq (sExpr (cCall call "need_ratio" [(cVar 0)])) (sSeq (sExpr (cCall call "need_ratio" [(cVar 1)])) (sSeq (sRet (cCall call "lowest" [(cP2 fSub (.ex (cP2 fMul (.ex (cP2 fIx (.var 0) (.ex (er (.d (.int 0)))))) (.ex (cP2 fIx (.var 1) (.ex (er (.d (.int 1)))))))) (.ex (cP2 fMul (.ex (cP2 fIx (.var 1) (.ex (er (.d (.int 0)))))) (.ex (cP2 fIx (.var 0) (.ex (er (.d (.int 1))))))))), (cP2 fMul (.ex (cP2 fIx (.var 0) (.ex (er (.d (.int 1)))))) (.ex (cP2 fIx (.var 1) (.ex (er (.d (.int 1)))))))])) (er .next))))
theorem b_p_minus (call : Call) : evB g call false (defBody s_p_minus) ⟨n_p_minus, defScope s_p_minus, false⟩ = m_p_minus call := by kernel_rfl
theorem q_p_minus : List.lookup ("minus" : Str) g.fns = some f_p_minus := by kernel_rfl
theorem e_p_minus (k : Nat) : evalF g (k + 1) "minus" = runF 2 (m_p_minus (evalF g k)) := by
  rw [evalF_eq q_p_minus, ← b_p_minus]; rfl
noncomputable def m_p_product (call : Call) : EM Fl := (sSeq (sExpr (cCall call "need_ratio" [(cVar 0)])) (sSeq (sExpr (cCall call "need_ratio" [(cVar 1)])) (sSeq (sRet (cCall call "lowest" [(cP2 fMul (.ex (cP2 fIx (.var 0) (.ex (er (.d (.int 0)))))) (.ex (cP2 fIx (.var 1) (.ex (er (.d (.int 0))))))), (cP2 fMul (.ex (cP2 fIx (.var 0) (.ex (er (.d (.int 1)))))) (.ex (cP2 fIx (.var 1) (.ex (er (.d (.int 1)))))))])) (er .next))))
theorem b_p_product (call : Call) : evB g call false (defBody s_p_product) ⟨n_p_product, defScope s_p_product, false⟩ = m_p_product call := by kernel_rfl
theorem q_p_product : List.lookup ("product" : Str) g.fns = some f_p_product := by kernel_rfl
theorem e_p_product (k : Nat) : evalF g (k + 1) "product" = runF 2 (m_p_product (evalF g k)) := by
  rw [evalF_eq q_p_product, ← b_p_product]; rfl
noncomputable def m_p_quotient (call : Call) : EM Fl := (sSeq (sExpr (cCall call "need_ratio" [(cVar 0)])) (sSeq (sExpr (cCall call "need_ratio" [(cVar 1)])) (sSeq (sIf (eb (cP2 fEq (.ex (cP2 fIx (.var 1) (.ex (er (.d (.int 0)))))) (.ex (er (.d (.int 0))))) toB) (sSeq (sRaise "ZeroBottom") (er .next)) (er .next)) (sSeq (sRet (cCall call "lowest" [(cP2 fMul (.ex (cP2 fIx (.var 0) (.ex (er (.d (.int 0)))))) (.ex (cP2 fIx (.var 1) (.ex (er (.d (.int 1))))))), (cP2 fMul (.ex (cP2 fIx (.var 0) (.ex (er (.d (.int 1)))))) (.ex (cP2 fIx (.var 1) (.ex (er (.d (.int 0)))))))])) (er .next)))))
theorem b_p_quotient (call : Call) : evB g call false (defBody s_p_quotient) ⟨n_p_quotient, defScope s_p_quotient, false⟩ = m_p_quotient call := by kernel_rfl
theorem q_p_quotient : List.lookup ("quotient" : Str) g.fns = some f_p_quotient := by kernel_rfl
theorem e_p_quotient (k : Nat) : evalF g (k + 1) "quotient" = runF 2 (m_p_quotient (evalF g k)) := by
  rw [evalF_eq q_p_quotient, ← b_p_quotient]; rfl
noncomputable def m_p_below (call : Call) : EM Fl := (sSeq (sExpr (cCall call "need_ratio" [(cVar 0)])) (sSeq (sExpr (cCall call "need_ratio" [(cVar 1)])) (sSeq (sRet (cP2 (fCmpI fun i j => decide (i < j)) (.ex (cP2 fMul (.ex (cP2 fIx (.var 0) (.ex (er (.d (.int 0)))))) (.ex (cP2 fIx (.var 1) (.ex (er (.d (.int 1)))))))) (.ex (cP2 fMul (.ex (cP2 fIx (.var 1) (.ex (er (.d (.int 0)))))) (.ex (cP2 fIx (.var 0) (.ex (er (.d (.int 1)))))))))) (er .next))))
theorem b_p_below (call : Call) : evB g call false (defBody s_p_below) ⟨n_p_below, defScope s_p_below, false⟩ = m_p_below call := by kernel_rfl
theorem q_p_below : List.lookup ("below" : Str) g.fns = some f_p_below := by kernel_rfl
theorem e_p_below (k : Nat) : evalF g (k + 1) "below" = runF 2 (m_p_below (evalF g k)) := by
  rw [evalF_eq q_p_below, ← b_p_below]; rfl
noncomputable def m_lgcd (call : Call) : EM Fl := (sSeq (sSet 0 (cPN (f1 fAbs) [(.var 0)])) (sSeq (sSet 1 (cPN (f1 fAbs) [(.var 1)])) (sSeq (sWhile (eb (cP2 (fCmpI fun i j => decide (j < i)) (.var 1) (.ex (er (.d (.int 0))))) toB) (sSeq (sSet 2 (cP2 fMod (.ex (cPN (f1 fInt) [(.var 0)])) (.var 1))) (sSeq (sSet 0 (cVar 1)) (sSeq (sSet 1 (cVar 2)) (er .next))))) (sSeq (sRet (cVar 0)) (er .next)))))
theorem b_lgcd (call : Call) : evB g call false (defBody s_lgcd) ⟨n_lgcd, defScope s_lgcd, false⟩ = m_lgcd call := by kernel_rfl
theorem q_lgcd : List.lookup ("_law_gcd" : Str) g.fns = some f_lgcd := by kernel_rfl
theorem e_lgcd (k : Nat) : evalF g (k + 1) "_law_gcd" = runF 3 (m_lgcd (evalF g k)) := by
  rw [evalF_eq q_lgcd, ← b_lgcd]; rfl
noncomputable def m_llowest (call : Call) : EM Fl := (sSeq (sIf (eb (cP2 (fCmpI fun i j => decide (i < j)) (.var 1) (.ex (er (.d (.int 0))))) toB) (sSeq (sSet 0 (cP1 fNeg (.var 0))) (sSeq (sSet 1 (cP1 fNeg (.var 1))) (er .next))) (er .next)) (sSeq (sSet 2 (cCall call "_law_gcd" [(cVar 0), (cVar 1)])) (sSeq (sRet (cTup [(cP2 fDiv (.var 0) (.var 2)), (cP2 fDiv (.var 1) (.var 2))])) (er .next))))
theorem b_llowest (call : Call) : evB g call false (defBody s_llowest) ⟨n_llowest, defScope s_llowest, false⟩ = m_llowest call := by kernel_rfl
theorem q_llowest : List.lookup ("_law_lowest" : Str) g.fns = some f_llowest := by kernel_rfl
theorem e_llowest (k : Nat) : evalF g (k + 1) "_law_lowest" = runF 3 (m_llowest (evalF g k)) := by
  rw [evalF_eq q_llowest, ← b_llowest]; rfl
noncomputable def m_ldraw (call : Call) : EM Fl := (sSeq (sSet 2 (cP2 fIx (.var 0) (.ex (er (.d (.int 2)))))) (sSeq (sIf (eb (cP2 fEq (.ex (cP2 fIx (.var 0) (.ex (er (.d (.int 0)))))) (.ex (er (.d (.int 0))))) toB) (sSeq (sSet 4 (er (.d (.int 7)))) (sSeq (sIf (eb (cP2 (fCmpI fun i j => decide (i < j)) (.ex (cP2 fIx (.var 0) (.ex (er (.d (.int 1)))))) (.ex (cPN (f1 fLen) [(.var 2)]))) toB) (sSeq (sSet 4 (cPN (f1 fAbs) [(.ex (cP2 fIx (.var 2) (.ex (cP2 fIx (.var 0) (.ex (er (.d (.int 1))))))))])) (er .next)) (er .next)) (sSeq (sIf (eb (cP2 (fCmpI fun i j => decide (i < j)) (.var 4) (.ex (cP2 fPow (.ex (er (.d (.int 10)))) (.ex (er (.d (.int 18))))))) toB) (sSeq (sSet 4 (cP2 fAdd (.ex (cP2 fAdd (.ex (cP2 fAdd (.ex (cP2 fMul (.var 4) (.ex (er (.d (.int 1000003)))))) (.ex (cP2 fMul (.ex (cP2 fIx (.var 0) (.ex (er (.d (.int 1)))))) (.ex (er (.d (.int 7919)))))))) (.ex (er (.d (.int 12347)))))) (.ex (cP2 fMul (.ex (cP2 fIx (.var 0) (.ex (er (.d (.int 3)))))) (.ex (er (.d (.int 613)))))))) (sSeq (sSet 4 (cP2 fAdd (.ex (cP2 fMul (.ex (cP2 fDiv (.ex (cP2 fMul (.var 4) (.var 4))) (.ex (er (.d (.int 97)))))) (.ex (er (.d (.int 48271)))))) (.var 4))) (er .next))) (er .next)) (sSeq (sPut 0 (.ex (er (.d (.int 0)))) (cVar 4)) (sSeq (sAugIx 0 (.ex (er (.d (.int 1)))) augF.fAugAdd (.ex (er (.d (.int 1))))) (sSeq (sAugIx 0 (.ex (er (.d (.int 3)))) augF.fAugAdd (.ex (er (.d (.int 1))))) (er .next))))))) (er .next)) (sSeq (sSet 3 (cP2 fMod (.ex (cPN (f1 fInt) [(.ex (cP2 fIx (.var 0) (.ex (er (.d (.int 0))))))])) (.var 1))) (sSeq (sPut 0 (.ex (er (.d (.int 0)))) (cP2 fDiv (.ex (cP2 fIx (.var 0) (.ex (er (.d (.int 0)))))) (.var 1))) (sSeq (sRet (cVar 3)) (er .next))))))
theorem b_ldraw (call : Call) : evB g call false (defBody s_ldraw) ⟨n_ldraw, defScope s_ldraw, false⟩ = m_ldraw call := by kernel_rfl
theorem q_ldraw : List.lookup ("_law_draw" : Str) g.fns = some f_ldraw := by kernel_rfl
theorem e_ldraw (k : Nat) : evalF g (k + 1) "_law_draw" = runF 5 (m_ldraw (evalF g k)) := by
  rw [evalF_eq q_ldraw, ← b_ldraw]; rfl
noncomputable def m_lnumber (call : Call) : EM Fl := (sSeq (sSet 1 (cCall call "_law_draw" [(cBoxV 0), (er (.d (.int 9)))])) (sSeq (sIf (eb (cP2 fEq (.var 1) (.ex (er (.d (.int 0))))) toB) (sSeq (sRet (er (.d (.int 0)))) (er .next)) (er .next)) (sSeq (sIf (eb (cP2 fEq (.var 1) (.ex (er (.d (.int 1))))) toB) (sSeq (sRet (cP2 fSub (.ex (er (.d (.int 1)))) (.ex (cP2 fMul (.ex (er (.d (.int 2)))) (.ex (cCall call "_law_draw" [(cBoxV 0), (er (.d (.int 2)))])))))) (er .next)) (er .next)) (sSeq (sIf (eb (cP2 fEq (.var 1) (.ex (er (.d (.int 2))))) toB) (sSeq (sRet (cP2 fSub (.ex (cCall call "_law_draw" [(cBoxV 0), (cP2 fPow (.ex (er (.d (.int 10)))) (.ex (er (.d (.int 60)))))])) (.ex (cP2 fMul (.ex (er (.d (.int 5)))) (.ex (cP2 fPow (.ex (er (.d (.int 10)))) (.ex (er (.d (.int 59)))))))))) (er .next)) (er .next)) (sSeq (sIf (eb (cP2 fEq (.var 1) (.ex (er (.d (.int 3))))) toB) (sSeq (sRet (cP2 fMul (.ex (cP2 fAdd (.ex (cP2 fPow (.ex (er (.d (.int 10)))) (.ex (er (.d (.int 12)))))) (.ex (cCall call "_law_draw" [(cBoxV 0), (er (.d (.int 5)))])))) (.ex (cP2 fSub (.ex (er (.d (.int 1)))) (.ex (cP2 fMul (.ex (er (.d (.int 2)))) (.ex (cCall call "_law_draw" [(cBoxV 0), (er (.d (.int 2)))])))))))) (er .next)) (er .next)) (sSeq (sRet (cP2 fSub (.ex (cCall call "_law_draw" [(cBoxV 0), (er (.d (.int 25)))])) (.ex (er (.d (.int 12)))))) (er .next)))))))
theorem b_lnumber (call : Call) : evB g call false (defBody s_lnumber) ⟨n_lnumber, defScope s_lnumber, false⟩ = m_lnumber call := by kernel_rfl
theorem q_lnumber : List.lookup ("_law_number" : Str) g.fns = some f_lnumber := by kernel_rfl
theorem e_lnumber (k : Nat) : evalF g (k + 1) "_law_number" = runF 2 (m_lnumber (evalF g k)) := by
  rw [evalF_eq q_lnumber, ← b_lnumber]; rfl
noncomputable def m_lno_ratio (call : Call) : EM Fl := (sSeq (sSet 1 (cP2 fAdd (.ex (er (.d (.int 2)))) (.ex (cCall call "_law_draw" [(cBoxV 0), (er (.d (.int 9)))])))) (sSeq (sSet 2 (cP2 fSub (.ex (cCall call "_law_draw" [(cBoxV 0), (er (.d (.int 21)))])) (.ex (er (.d (.int 10)))))) (sSeq (sSetN 3 (cLst [(cTup [(er (.d (.int 2))), (er (.d (.int 4)))]), (cTup [(er (.d (.int 1))), (er (.d (.int 0)))]), (cTup [(er (.d (.int 3))), (cP1 fNeg (.ex (er (.d (.int 1)))))]), (cTup [(er (.d (.int 0))), (er (.d (.int 2)))]), (cTup [(er (.d (.int 0))), (er (.d (.int 0)))]), (cTup [(cP1 fNeg (.ex (er (.d (.int 4))))), (er (.d (.int 6)))]), (cFrz (cLst [(er (.d (.int 1))), (er (.d (.int 2)))])), (cTup [(er (.d (.int 1)))]), (cTup [(er (.d (.int 1))), (er (.d (.int 2))), (er (.d (.int 3)))]), (cTup [(er (.d (.bool true))), (er (.d (.int 1)))]), (cTup [(er (.d (.int 1))), (er (.d (.bool true)))])])) (sSeq (sSet 3 (cP2 fAdd (.var 3) (.ex (cFrz (cLst [(er (.d .none)), (er (.d (.str "1/2"))), (er (.d (.int 5))), (cTup []), (cTup [(cTup [(er (.d (.int 1))), (er (.d (.int 1)))]), (er (.d (.int 1)))]), (cTup [(er (.d (.int 1))), (cTup [(er (.d (.int 1))), (er (.d (.int 1)))])]), (cFrz (er (.dic []))), (cTup [(er (.d (.str "1"))), (er (.d (.int 1)))]), (cTup [(er (.d (.int 0))), (cP1 fNeg (.ex (er (.d (.int 1)))))]), (cTup [(cVar 2), (cP1 fNeg (.var 1))]), (cTup [(cP2 fMul (.var 1) (.var 2)), (cVar 1)])]))))) (sSeq (sSet 3 (cP2 fAdd (.var 3) (.ex (cFrz (cLst [(cTup [(cP2 fMul (.ex (cP2 fMul (.var 2) (.var 1))) (.ex (cP2 fPow (.ex (er (.d (.int 10)))) (.ex (er (.d (.int 40))))))), (cP2 fMul (.var 1) (.ex (cP2 fPow (.ex (er (.d (.int 10)))) (.ex (er (.d (.int 20)))))))]), (cFrz (cLst [(cTup [(er (.d (.int 1))), (er (.d (.int 2)))])])), (cTup [(er (.d .none)), (er (.d (.int 1)))]), (cTup [(er (.d (.int 1))), (er (.d .none))]), (er (.d (.bool false))), (cTup [(cVar 2), (er (.d (.int 0)))])]))))) (sSeq (sRet (cP2 fIx (.var 3) (.ex (cCall call "_law_draw" [(cBoxV 0), (cPN (f1 fLen) [(.var 3)])])))) (er .next)))))))
theorem b_lno_ratio (call : Call) : evB g call false (defBody s_lno_ratio) ⟨n_lno_ratio, defScope s_lno_ratio, false⟩ = m_lno_ratio call := by kernel_rfl
theorem q_lno_ratio : List.lookup ("_law_no_ratio" : Str) g.fns = some f_lno_ratio := by kernel_rfl
theorem e_lno_ratio (k : Nat) : evalF g (k + 1) "_law_no_ratio" = runF 4 (m_lno_ratio (evalF g k)) := by
  rw [evalF_eq q_lno_ratio, ← b_lno_ratio]; rfl
noncomputable def m_lint (call : Call) : EM Fl := (sSeq (sRet (cAndV (cP1 (fIsi .int) (.var 0)) (cNotV (cP1 (fIsi .bool) (.var 0))))) (er .next))
theorem b_lint (call : Call) : evB g call false (defBody s_lint) ⟨n_lint, defScope s_lint, false⟩ = m_lint call := by kernel_rfl
theorem q_lint : List.lookup ("_law_int" : Str) g.fns = some f_lint := by kernel_rfl
theorem e_lint (k : Nat) : evalF g (k + 1) "_law_int" = runF 1 (m_lint (evalF g k)) := by
  rw [evalF_eq q_lint, ← b_lint]; rfl
noncomputable def m_lwell (call : Call) : EM Fl := (sSeq (sRet (cBoxN (cLst [(er (.d (.int 0))), (cVar 1), (cFrz (cNewL (.var 0))), (er (.d (.int 0)))]))) (er .next))
theorem b_lwell (call : Call) : evB g call true (defBody s_lwell) ⟨n_lwell, defScope s_lwell, false⟩ = m_lwell call := by kernel_rfl
theorem q_lwell : List.lookup ("_law_well" : Str) g.fns = some f_lwell := by kernel_rfl
theorem e_lwell (k : Nat) : evalF g (k + 1) "_law_well" = runF 2 (m_lwell (evalF g k)) := by
  rw [evalF_eq q_lwell, ← b_lwell]; rfl
noncomputable def m_ltruth (call : Call) : EM Fl := (sSeq (sRet (cAndV (cP1 (fIsi .bool) (.var 0)) (cP2 fEq (.var 0) (.var 1)))) (er .next))
theorem b_ltruth (call : Call) : evB g call false (defBody s_ltruth) ⟨n_ltruth, defScope s_ltruth, false⟩ = m_ltruth call := by kernel_rfl
theorem q_ltruth : List.lookup ("_law_truth" : Str) g.fns = some f_ltruth := by kernel_rfl
theorem e_ltruth (k : Nat) : evalF g (k + 1) "_law_truth" = runF 2 (m_ltruth (evalF g k)) := by
  rw [evalF_eq q_ltruth, ← b_ltruth]; rfl
noncomputable def m_lcalled (call : Call) : EM Fl := (sSeq (sIf (eb (cP2 fEq (.var 0) (.ex (er (.d (.int 0))))) toB) (sSeq (sRet (cCall call "plus" [(cVar 1), (cVar 2)])) (er .next)) (er .next)) (sSeq (sIf (eb (cP2 fEq (.var 0) (.ex (er (.d (.int 1))))) toB) (sSeq (sRet (cCall call "minus" [(cVar 1), (cVar 2)])) (er .next)) (er .next)) (sSeq (sIf (eb (cP2 fEq (.var 0) (.ex (er (.d (.int 2))))) toB) (sSeq (sRet (cCall call "product" [(cVar 1), (cVar 2)])) (er .next)) (er .next)) (sSeq (sIf (eb (cP2 fEq (.var 0) (.ex (er (.d (.int 3))))) toB) (sSeq (sRet (cCall call "quotient" [(cVar 1), (cVar 2)])) (er .next)) (er .next)) (sSeq (sIf (eb (cP2 fEq (.var 0) (.ex (er (.d (.int 4))))) toB) (sSeq (sRet (cCall call "below" [(cVar 1), (cVar 2)])) (er .next)) (er .next)) (sSeq (sRet (cCall call "ratio" [(cVar 1), (cVar 2)])) (er .next)))))))
theorem b_lcalled (call : Call) : evB g call false (defBody s_lcalled) ⟨n_lcalled, defScope s_lcalled, false⟩ = m_lcalled call := by kernel_rfl
theorem q_lcalled : List.lookup ("_law_called" : Str) g.fns = some f_lcalled := by kernel_rfl
theorem e_lcalled (k : Nat) : evalF g (k + 1) "_law_called" = runF 3 (m_lcalled (evalF g k)) := by
  rw [evalF_eq q_lcalled, ← b_lcalled]; rfl
noncomputable def m_lnamed (call : Call) : EM Fl := (sSeq (sIf (eb (cP2 fEq (.var 0) (.ex (er (.d (.int 0))))) toB) (sSeq (sRet (cCallK call "plus" ["b", "a"] ["a", "b"] [(cVar 2), (cVar 1)])) (er .next)) (er .next)) (sSeq (sIf (eb (cP2 fEq (.var 0) (.ex (er (.d (.int 1))))) toB) (sSeq (sRet (cCallK call "minus" ["b", "a"] ["a", "b"] [(cVar 2), (cVar 1)])) (er .next)) (er .next)) (sSeq (sIf (eb (cP2 fEq (.var 0) (.ex (er (.d (.int 2))))) toB) (sSeq (sRet (cCallK call "product" ["b", "a"] ["a", "b"] [(cVar 2), (cVar 1)])) (er .next)) (er .next)) (sSeq (sIf (eb (cP2 fEq (.var 0) (.ex (er (.d (.int 3))))) toB) (sSeq (sRet (cCallK call "quotient" ["b", "a"] ["a", "b"] [(cVar 2), (cVar 1)])) (er .next)) (er .next)) (sSeq (sIf (eb (cP2 fEq (.var 0) (.ex (er (.d (.int 4))))) toB) (sSeq (sRet (cCallK call "below" ["b", "a"] ["a", "b"] [(cVar 2), (cVar 1)])) (er .next)) (er .next)) (sSeq (sRet (cCallK call "ratio" ["bottom", "top"] ["top", "bottom"] [(cVar 2), (cVar 1)])) (er .next)))))))
theorem b_lnamed (call : Call) : evB g call false (defBody s_lnamed) ⟨n_lnamed, defScope s_lnamed, false⟩ = m_lnamed call := by kernel_rfl
theorem q_lnamed : List.lookup ("_law_named" : Str) g.fns = some f_lnamed := by kernel_rfl
theorem e_lnamed (k : Nat) : evalF g (k + 1) "_law_named" = runF 3 (m_lnamed (evalF g k)) := by
  rw [evalF_eq q_lnamed, ← b_lnamed]; rfl
noncomputable def m_lword (call : Call) : EM Fl := (sSeq (sSet 3 (er (.d (.str "none")))) (sSeq (sTry tb (sSeq (sExpr (cCall call "_law_called" [(cVar 0), (cVar 1), (cVar 2)])) (er .next)) [⟨"BadRatio", some 4, (sSeq (sSet 3 (er (.d (.str "bad")))) (sSeq (sIf (cOr (cNot (cTru (.ex (cIsE tb 4 "StepError")))) (cOr (cNot (cTru (.ex (cIsE tb 4 "ValueError")))) (cTru (.ex (cIsE tb 4 "ZeroBottom"))))) (sSeq (sSet 3 (er (.d (.str "wrong")))) (er .next)) (er .next)) (er .next)))⟩, ⟨"ZeroBottom", some 4, (sSeq (sSet 3 (er (.d (.str "zero")))) (sSeq (sIf (cOr (cNot (cTru (.ex (cIsE tb 4 "StepError")))) (cNot (cTru (.ex (cIsE tb 4 "ValueError"))))) (sSeq (sSet 3 (er (.d (.str "wrong")))) (er .next)) (er .next)) (er .next)))⟩]) (sSeq (sRet (cVar 3)) (er .next))))
theorem b_lword (call : Call) : evB g call false (defBody s_lword) ⟨n_lword, defScope s_lword, false⟩ = m_lword call := by kernel_rfl
theorem q_lword : List.lookup ("_law_word" : Str) g.fns = some f_lword := by kernel_rfl
theorem e_lword (k : Nat) : evalF g (k + 1) "_law_word" = runF 5 (m_lword (evalF g k)) := by
  rw [evalF_eq q_lword, ← b_lword]; rfl
noncomputable def m_ldue (call : Call) : EM Fl := (sSeq (sIf (eb (cP2 fEq (.var 0) (.ex (er (.d (.int 0))))) toB) (sSeq (sRet (cCall call "_law_lowest" [(cP2 fAdd (.ex (cP2 fMul (.ex (cP2 fIx (.var 1) (.ex (er (.d (.int 0)))))) (.ex (cP2 fIx (.var 2) (.ex (er (.d (.int 1)))))))) (.ex (cP2 fMul (.ex (cP2 fIx (.var 2) (.ex (er (.d (.int 0)))))) (.ex (cP2 fIx (.var 1) (.ex (er (.d (.int 1))))))))), (cP2 fMul (.ex (cP2 fIx (.var 1) (.ex (er (.d (.int 1)))))) (.ex (cP2 fIx (.var 2) (.ex (er (.d (.int 1)))))))])) (er .next)) (er .next)) (sSeq (sIf (eb (cP2 fEq (.var 0) (.ex (er (.d (.int 1))))) toB) (sSeq (sRet (cCall call "_law_lowest" [(cP2 fSub (.ex (cP2 fMul (.ex (cP2 fIx (.var 1) (.ex (er (.d (.int 0)))))) (.ex (cP2 fIx (.var 2) (.ex (er (.d (.int 1)))))))) (.ex (cP2 fMul (.ex (cP2 fIx (.var 2) (.ex (er (.d (.int 0)))))) (.ex (cP2 fIx (.var 1) (.ex (er (.d (.int 1))))))))), (cP2 fMul (.ex (cP2 fIx (.var 1) (.ex (er (.d (.int 1)))))) (.ex (cP2 fIx (.var 2) (.ex (er (.d (.int 1)))))))])) (er .next)) (er .next)) (sSeq (sIf (eb (cP2 fEq (.var 0) (.ex (er (.d (.int 2))))) toB) (sSeq (sRet (cCall call "_law_lowest" [(cP2 fMul (.ex (cP2 fIx (.var 1) (.ex (er (.d (.int 0)))))) (.ex (cP2 fIx (.var 2) (.ex (er (.d (.int 0))))))), (cP2 fMul (.ex (cP2 fIx (.var 1) (.ex (er (.d (.int 1)))))) (.ex (cP2 fIx (.var 2) (.ex (er (.d (.int 1)))))))])) (er .next)) (er .next)) (sSeq (sRet (cCall call "_law_lowest" [(cP2 fMul (.ex (cP2 fIx (.var 1) (.ex (er (.d (.int 0)))))) (.ex (cP2 fIx (.var 2) (.ex (er (.d (.int 1))))))), (cP2 fMul (.ex (cP2 fIx (.var 1) (.ex (er (.d (.int 1)))))) (.ex (cP2 fIx (.var 2) (.ex (er (.d (.int 0)))))))])) (er .next)))))
theorem b_ldue (call : Call) : evB g call false (defBody s_ldue) ⟨n_ldue, defScope s_ldue, false⟩ = m_ldue call := by kernel_rfl
theorem q_ldue : List.lookup ("_law_due" : Str) g.fns = some f_ldue := by kernel_rfl
theorem e_ldue (k : Nat) : evalF g (k + 1) "_law_due" = runF 3 (m_ldue (evalF g k)) := by
  rw [evalF_eq q_ldue, ← b_ldue]; rfl
noncomputable def m_lpair (call : Call) : EM Fl := (sSeq (sSet 1 (cCall call "_law_number" [(cBoxV 0)])) (sSeq (sSet 2 (cCall call "_law_number" [(cBoxV 0)])) (sSeq (sIf (eb (cP2 fEq (.var 2) (.ex (er (.d (.int 0))))) toB) (sSeq (sSet 2 (cP2 fAdd (.ex (er (.d (.int 1)))) (.ex (cCall call "_law_draw" [(cBoxV 0), (er (.d (.int 6)))])))) (er .next)) (er .next)) (sSeq (sSet 3 (cP2 fIx (.ex (cFrz (cLst [(er (.d (.int 1))), (er (.d (.int 1))), (er (.d (.int 2))), (er (.d (.int 6))), (cP2 fPow (.ex (er (.d (.int 10)))) (.ex (er (.d (.int 9))))), (er (.d (.int 30030)))]))) (.ex (cCall call "_law_draw" [(cBoxV 0), (er (.d (.int 6)))])))) (sSeq (sIf (eb (cP2 fEq (.ex (cCall call "_law_draw" [(cBoxV 0), (er (.d (.int 8)))])) (.ex (er (.d (.int 0))))) toB) (sSeq (sSet 3 (cP2 fAdd (.ex (er (.d (.int 1)))) (.ex (cCall call "_law_draw" [(cBoxV 0), (cP2 fPow (.ex (er (.d (.int 10)))) (.ex (er (.d (.int 30)))))])))) (er .next)) (er .next)) (sSeq (sRet (cTup [(cP2 fMul (.var 1) (.var 3)), (cP2 fMul (.var 2) (.var 3))])) (er .next)))))))
theorem b_lpair (call : Call) : evB g call false (defBody s_lpair) ⟨n_lpair, defScope s_lpair, false⟩ = m_lpair call := by kernel_rfl
theorem q_lpair : List.lookup ("_law_pair" : Str) g.fns = some f_lpair := by kernel_rfl
theorem e_lpair (k : Nat) : evalF g (k + 1) "_law_pair" = runF 4 (m_lpair (evalF g k)) := by
  rw [evalF_eq q_lpair, ← b_lpair]; rfl
noncomputable def m_ldoors (call : Call) : EM Fl := (sSeq (sSet 3 (cCall call "_law_no_ratio" [(cBoxV 0)])) (sSeq (sSet 4 (cCall call "_law_no_ratio" [(cBoxV 0)])) (sSeq (sSet 5 (cTup [(er (.d (.int 0))), (er (.d (.int 1)))])) (sSeq (sFor (tgName 6) (srcR1 (er (.d (.int 5)))) (sSeq (sIf (cOr (eb (cP2 fNe (.ex (cCall call "_law_word" [(cVar 6), (cVar 3), (cVar 2)])) (.ex (er (.d (.str "bad"))))) toB) (eb (cP2 fNe (.ex (cCall call "_law_word" [(cVar 6), (cVar 1), (cVar 4)])) (.ex (er (.d (.str "bad"))))) toB)) (sSeq (sRet (er (.d (.bool false)))) (er .next)) (er .next)) (sSeq (sIf (cOr (eb (cP2 fNe (.ex (cCall call "_law_word" [(cVar 6), (cVar 3), (cVar 4)])) (.ex (er (.d (.str "bad"))))) toB) (eb (cP2 fNe (.ex (cCall call "_law_word" [(cVar 6), (cVar 3), (cVar 5)])) (.ex (er (.d (.str "bad"))))) toB)) (sSeq (sRet (er (.d (.bool false)))) (er .next)) (er .next)) (sSeq (sIf (eb (cP2 fNe (.ex (cCall call "_law_word" [(cVar 6), (cVar 5), (cVar 1)])) (.ex (cP2 fIx (.ex (cFrz (cLst [(er (.d (.str "none"))), (er (.d (.str "zero")))]))) (.ex (cPN (f1 fInt) [(.ex (cAndV (cP2 fEq (.var 6) (.ex (er (.d (.int 3))))) (cP2 fEq (.ex (cP2 fIx (.var 1) (.ex (er (.d (.int 0)))))) (.ex (er (.d (.int 0)))))))]))))) toB) (sSeq (sRet (er (.d (.bool false)))) (er .next)) (er .next)) (sSeq (sIf (eb (cP2 fNe (.ex (cCall call "_law_word" [(cVar 6), (cVar 1), (cVar 5)])) (.ex (cP2 fIx (.ex (cFrz (cLst [(er (.d (.str "none"))), (er (.d (.str "zero")))]))) (.ex (cPN (f1 fInt) [(.ex (cP2 fEq (.var 6) (.ex (er (.d (.int 3))))))]))))) toB) (sSeq (sRet (er (.d (.bool false)))) (er .next)) (er .next)) (er .next)))))) (sSeq (sIf (cOr (eb (cP2 fNe (.ex (cCall call "_law_word" [(er (.d (.int 5))), (cP2 fIx (.var 1) (.ex (er (.d (.int 0))))), (er (.d (.int 0)))])) (.ex (er (.d (.str "zero"))))) toB) (eb (cP2 fNe (.ex (cCall call "_law_word" [(er (.d (.int 5))), (er (.d (.int 0))), (er (.d (.int 0)))])) (.ex (er (.d (.str "zero"))))) toB)) (sSeq (sRet (er (.d (.bool false)))) (er .next)) (er .next)) (sSeq (sRet (cP2 fEq (.ex (cCall call "_law_word" [(er (.d (.int 5))), (er (.d (.int 0))), (cP2 fIx (.var 1) (.ex (er (.d (.int 1)))))])) (.ex (er (.d (.str "none")))))) (er .next)))))))
theorem b_ldoors (call : Call) : evB g call false (defBody s_ldoors) ⟨n_ldoors, defScope s_ldoors, false⟩ = m_ldoors call := by kernel_rfl
theorem q_ldoors : List.lookup ("_law_doors" : Str) g.fns = some f_ldoors := by kernel_rfl
theorem e_ldoors (k : Nat) : evalF g (k + 1) "_law_doors" = runF 7 (m_ldoors (evalF g k)) := by
  rw [evalF_eq q_ldoors, ← b_ldoors]; rfl
noncomputable def m_lsame (call : Call) : EM Fl := (sSeq (sIf (cOr (cNot (cTru (.ex (cP1 (fIsi .tuple) (.var 0))))) (eb (cP2 fNe (.ex (cPN (f1 fLen) [(.var 0)])) (.ex (er (.d (.int 2))))) toB)) (sSeq (sRet (er (.d (.bool false)))) (er .next)) (er .next)) (sSeq (sRet (cAndV (cCall call "_law_int" [(cP2 fIx (.var 0) (.ex (er (.d (.int 0)))))]) (cAndV (cCall call "_law_int" [(cP2 fIx (.var 0) (.ex (er (.d (.int 1)))))]) (cP2 fEq (.var 0) (.var 1))))) (er .next)))
theorem b_lsame (call : Call) : evB g call false (defBody s_lsame) ⟨n_lsame, defScope s_lsame, false⟩ = m_lsame call := by kernel_rfl
theorem q_lsame : List.lookup ("_law_same" : Str) g.fns = some f_lsame := by kernel_rfl
theorem e_lsame (k : Nat) : evalF g (k + 1) "_law_same" = runF 2 (m_lsame (evalF g k)) := by
  rw [evalF_eq q_lsame, ← b_lsame]; rfl
noncomputable def m_law_ (call : Call) : EM Fl := (sSeq (sSet 1 (cCall call "_law_well" [(cVar 0), (er (.d (.int 0)))])) (sSeq (sSetN 2 (cLst [(cTup [(er (.d (.int 0))), (er (.d (.int 1)))])])) (sSeq (sFor (tgName 3) (srcR1 (er (.d (.int 5)))) (sSeq (sTup [8, 9] (cCall call "_law_pair" [(cBoxV 1)])) (sSeq (sSet 5 (cCall call "_law_lowest" [(cVar 8), (cVar 9)])) (sSeq (sIf (cOr (cNot (cTru (.ex (cCall call "_law_same" [(cCall call "ratio" [(cVar 8), (cVar 9)]), (cVar 5)])))) (cNot (cTru (.ex (cCall call "_law_same" [(cCall call "_law_named" [(er (.d (.int 5))), (cVar 8), (cVar 9)]), (cVar 5)]))))) (sSeq (sRet (er (.d (.bool false)))) (er .next)) (er .next)) (sSeq (sExpr (cApp 2 (cVar 5))) (er .next)))))) (sSeq (sFor (tgName 4) (srcSeq (cVar 2)) (sSeq (sSet 6 (cP2 fIx (.var 2) (.ex (cCall call "_law_draw" [(cBoxV 1), (cPN (f1 fLen) [(.var 2)])])))) (sSeq (sFor (tgName 7) (srcR1 (er (.d (.int 4)))) (sSeq (sIf (cOr (eb (cP2 (fCmpI fun i j => decide (i < j)) (.var 7) (.ex (er (.d (.int 3))))) toB) (eb (cP2 fNe (.ex (cP2 fIx (.var 6) (.ex (er (.d (.int 0)))))) (.ex (er (.d (.int 0))))) toB)) (sSeq (sSet 5 (cCall call "_law_due" [(cVar 7), (cVar 4), (cVar 6)])) (sSeq (sIf (cOr (cNot (cTru (.ex (cCall call "_law_same" [(cCall call "_law_called" [(cVar 7), (cVar 4), (cVar 6)]), (cVar 5)])))) (cNot (cTru (.ex (cCall call "_law_same" [(cCall call "_law_named" [(cVar 7), (cVar 4), (cVar 6)]), (cVar 5)]))))) (sSeq (sRet (er (.d (.bool false)))) (er .next)) (er .next)) (er .next))) (er .next)) (er .next))) (sSeq (sIf (cOr (cNot (cTru (.ex (cCall call "_law_truth" [(cCall call "below" [(cVar 4), (cVar 6)]), (cP2 (fCmpI fun i j => decide (i < j)) (.ex (cP2 fMul (.ex (cP2 fIx (.var 4) (.ex (er (.d (.int 0)))))) (.ex (cP2 fIx (.var 6) (.ex (er (.d (.int 1)))))))) (.ex (cP2 fMul (.ex (cP2 fIx (.var 6) (.ex (er (.d (.int 0)))))) (.ex (cP2 fIx (.var 4) (.ex (er (.d (.int 1)))))))))])))) (cNot (cTru (.ex (cCall call "_law_truth" [(cCall call "_law_named" [(er (.d (.int 4))), (cVar 4), (cVar 4)]), (er (.d (.bool false)))]))))) (sSeq (sRet (er (.d (.bool false)))) (er .next)) (er .next)) (er .next))))) (sSeq (sRet (cCall call "_law_doors" [(cBoxV 1), (cP2 fIx (.var 2) (.ex (er (.d (.int 1))))), (cP2 fIx (.var 2) (.ex (er (.d (.int 2)))))])) (er .next))))))
theorem b_law_ (call : Call) : evB g call false (defBody s_law_) ⟨n_law_, defScope s_law_, false⟩ = m_law_ call := by kernel_rfl
theorem q_law_ : List.lookup ("law" : Str) g.fns = some f_law_ := by kernel_rfl
theorem e_law_ (k : Nat) : evalF g (k + 1) "law" = runF 10 (m_law_ (evalF g k)) := by
  rw [evalF_eq q_law_, ← b_law_]; rfl
end MP
namespace MP
open PySem PySem.Spec PyProof.Rows L2
def gd (a b : Int) : Int := ((Nat.gcd a.natAbs b.natAbs : Nat) : Int)
theorem gd_neg (a b : Int) : gd (-a) (-b) = gd a b := by unfold gd; rw [Int.natAbs_neg, Int.natAbs_neg]
theorem fGcd_v (a b : Int) : fGcd (.int a) (.int b) = some (.int (gd a b)) := rfl
theorem fDiv_v {i j : Int} (h : 0 < j) (h2 : j.natAbs.log2 < 9000) : fDiv (.int i) (.int j) = some (.int (i / j)) := by
  show (if 0 < j ∧ j.natAbs.log2 < 9000 then some (PyData.int (i / j)) else none) = _
  rw [if_pos ⟨h, h2⟩]
theorem fMod_v {i j : Int} (h : 0 < j) : fMod (.int i) (.int j) = some (.int (i % j)) := by
  show (if 0 < j then some (PyData.int (i % j)) else none) = _
  rw [if_pos h]
theorem fMul_v {i j : Int} (h : mulOk i j = true) : fMul (.int i) (.int j) = some (.int (i * j)) := by
  show (if mulOk i j = true then some (PyData.int (i * j)) else none) = _
  rw [if_pos h]
theorem mulOk_l {x y : Int} (h : x.natAbs < 18446744073709551616) : mulOk x y = true := by
  unfold MP.mulOk
  rw [decide_eq_true h]; rfl
theorem mulOk_r {x y : Int} (h : y.natAbs < 18446744073709551616) : mulOk x y = true := by
  unfold MP.mulOk
  rw [decide_eq_true h, Bool.or_true]; rfl
def ab (z : Int) : Int := if z < 0 then -z else z
theorem ab_nn (z : Int) : 0 ≤ ab z := by unfold ab; split <;> omega
theorem fAbs_v (z : Int) : fAbs (.int z) = some (.int (ab z)) := rfl
theorem fMulC (j : Int) (h : j.natAbs < 18446744073709551616) (i : Int) : fMul (.int i) (.int j) = some (.int (i * j)) := fMul_v (mulOk_r h)
theorem fEqI_v (i j : Int) : fEq (.int i) (.int j) = some (.bool (decide (i = j))) := by
  show (if true = true then some (PyData.bool (PyData.eqv (.int i) (.int j))) else _) = _
  rw [if_pos rfl]
  by_cases h : i = j <;> simp [PyData.eqv, h]
theorem fNeI_v (i j : Int) : fNe (.int i) (.int j) = some (.bool (!decide (i = j))) := by
  show (if true = true then some (PyData.bool (!PyData.eqv (.int i) (.int j))) else _) = _
  rw [if_pos rfl]
  by_cases h : i = j <;> simp [PyData.eqv, h]
def Sb (n : Nat) (x : Int) : Prop := x.natAbs < 2 ^ n
theorem Sb.mono {m n : Nat} {x : Int} (h : Sb m x) (l : m ≤ n) : Sb n x := Nat.lt_of_lt_of_le h (Nat.pow_le_pow_right (by decide) l)
theorem Sb.log {n : Nat} {x : Int} (h : Sb (n + 1) x) : x.natAbs.log2 < n + 1 := by
  by_cases e : x.natAbs = 0
  · rw [e]; simp
  · exact (Nat.log2_lt e).mpr h
theorem Sb.mul {m n : Nat} {x y : Int} (h : Sb m x) (h2 : Sb n y) : Sb (m + n) (x * y) := by
  unfold Sb at *
  rw [Int.natAbs_mul, Nat.pow_add]
  exact Nat.mul_lt_mul'' h h2
theorem Sb.add {m : Nat} {x y : Int} (h : Sb m x) (h2 : Sb m y) : Sb (m + 1) (x + y) := by
  unfold Sb at *
  have := Int.natAbs_add_le x y
  rw [Nat.pow_succ]
  omega
theorem Sb.neg {m : Nat} {x : Int} (h : Sb m x) : Sb m (-x) := by unfold Sb at *; rw [Int.natAbs_neg]; exact h
theorem Sb.sub {m : Nat} {x y : Int} (h : Sb m x) (h2 : Sb m y) : Sb (m + 1) (x - y) := by rw [Int.sub_eq_add_neg]; exact h.add h2.neg
theorem Sb.mulOk {m n : Nat} {x y : Int} (h : Sb (m + 1) x) (h2 : Sb (n + 1) y) (l : m + n + 2 ≤ 100000000) : mulOk x y = true := by
  have a := h.log
  have b := h2.log
  unfold MP.mulOk
  rw [Bool.or_eq_true, decide_eq_true_eq]
  exact .inr (by omega)
theorem v_is_int (k : Nat) (mem : List Box) (x : PyData) : evalF g (k + 1) "is_int" [.d x] mem = .ok (.d (.bool (isT .int x && !isT .bool x))) ⟨[], mem⟩ := by
  rw [e_p_is_int]
  cases x <;> simp [m_p_is_int, eb, rb, er, es, sSeq, sIf, sRet, sSet, sSetN, setS, setN, sExpr, sTup, setAll, evD, cVar, opd, resolve, cP1, cP2, cPN, cList, resolves, cTup, cLst, cFrz, cBoxN, cBoxV, cTru, truth, toB, cAnd, cOr, cNot, cAndV, cOrV, cNotV, cIf, cCh, fAdd, fSub, fCmpI, fNeg, fIsi, isT, fI, f1, f2, fLen, fInt, fTupleOf, fIx, cCall, doCall, cCallK, kwOrd, runF, exitF, Ob.data, sRaise, cNewL, modSlot, gPut, sPut, isLst, sAug, sAugIx, augF.fAugAdd, fGet, gApp, cApp, b2i, fAbs_v, fGcd_v, fEqI_v, fNeI_v]
theorem v_lowest (k : Nat) (mem : List Box) (t b : Int) (hp : 0 < gd t b) (hc : (gd t b).natAbs.log2 < 9000) : evalF g (k + 1) "lowest" [.d (.int t), .d (.int b)] mem = .ok (.d (.tuple [.int ((if b < 0 then -t else t) / gd t b), .int ((if b < 0 then -b else b) / gd t b)])) ⟨[], mem⟩ := by
  rw [e_p_lowest]
  by_cases hb : b < 0
  · simp [m_p_lowest, eb, rb, er, es, sSeq, sIf, sRet, sSet, sSetN, setS, setN, sExpr, sTup, setAll, evD, cVar, opd, resolve, cP1, cP2, cPN, cList, resolves, cTup, cLst, cFrz, cBoxN, cBoxV, cTru, truth, toB, cAnd, cOr, cNot, cAndV, cOrV, cNotV, cIf, cCh, fAdd, fSub, fCmpI, fNeg, fIsi, isT, fI, f1, f2, fLen, fInt, fTupleOf, fIx, cCall, doCall, cCallK, kwOrd, runF, exitF, Ob.data, sRaise, cNewL, modSlot, gPut, sPut, isLst, sAug, sAugIx, augF.fAugAdd, fGet, gApp, cApp, b2i, fAbs_v, fGcd_v, fEqI_v, fNeI_v, hb, gd_neg, fDiv_v hp hc]
  · simp [m_p_lowest, eb, rb, er, es, sSeq, sIf, sRet, sSet, sSetN, setS, setN, sExpr, sTup, setAll, evD, cVar, opd, resolve, cP1, cP2, cPN, cList, resolves, cTup, cLst, cFrz, cBoxN, cBoxV, cTru, truth, toB, cAnd, cOr, cNot, cAndV, cOrV, cNotV, cIf, cCh, fAdd, fSub, fCmpI, fNeg, fIsi, isT, fI, f1, f2, fLen, fInt, fTupleOf, fIx, cCall, doCall, cCallK, kwOrd, runF, exitF, Ob.data, sRaise, cNewL, modSlot, gPut, sPut, isLst, sAug, sAugIx, augF.fAugAdd, fGet, gApp, cApp, b2i, fAbs_v, fGcd_v, fEqI_v, fNeI_v, hb, fDiv_v hp hc]
def Wb (x a : Int) (cs : List PyData) (c : Int) : Box := .ctr (.lst [.int x, .int a, .list cs, .int c])
theorem atI_nat' {α : Type} {xs : List α} {a : Int} (h : 0 ≤ a) : atI xs a = xs[a.toNat]? := by
  unfold atI ixN
  rw [if_pos h]
  by_cases h1 : a < xs.length
  · rw [if_pos h1]; rfl
  · rw [if_neg h1]
    show none = _
    rw [List.getElem?_eq_none (by omega)]
/-- the well: what it may hold -/
def In (b : Int) (ns : List Int) (m : List Box) : Prop := ∃ x a c, m = [Wb x a (ns.map .int) c] ∧ 0 ≤ x ∧ 0 ≤ a ∧ a ≤ b ∧ 0 ≤ c ∧ c ≤ b
theorem draw_fin {T many a c b : Int} {ns : List Int} (hT : 0 ≤ T) (hm : 0 < many) (h1 : 0 ≤ a) (h2 : a ≤ b) (h3 : 0 ≤ c) (h4 : c ≤ b) : ∃ r m', (T % many = r ∧ [Box.ctr (.lst [.int (T / many), .int a, .list (ns.map .int), .int c])] = m') ∧ In b ns m' ∧ 0 ≤ r ∧ r < many :=
  ⟨_, _, ⟨rfl, rfl⟩, ⟨_, _, _, rfl, Int.ediv_nonneg hT (by omega), h1, h2, h3, h4⟩, Int.emod_nonneg _ (by omega), Int.emod_lt_of_pos _ hm⟩
theorem v_draw (k : Nat) {b many : Int} {ns : List Int} {m : List Box} (hI : In b ns m) (hb : b < 900000) (hm : 0 < many) (hm2 : many.natAbs.log2 < 9000) :
    ∃ r m', evalF g (k + 1) "_law_draw" [.ref 0, .d (.int many)] m = .ok (.d (.int r)) ⟨[], m'⟩ ∧ In (b + 1) ns m' ∧ 0 ≤ r ∧ r < many := by
  obtain ⟨x, a, c, rfl, hx, ha, ha2, hc, hc2⟩ := hI
  have q1 := fMulC 1000003 (by decide)
  have q2 := fMulC 7919 (by decide)
  have q3 := fMulC 613 (by decide)
  have q4 := fMulC 48271 (by decide)
  have q5 : fPow (.int 10) (.int 18) = some (.int 1000000000000000000) := rfl
  have q6 := fun i => fDiv_v (i := i) (j := 97) (by decide) (by decide)
  have q7 := fun i => fMod_v (i := i) hm
  have q8 := fun i => fDiv_v (i := i) hm hm2
  have e0 : ∀ {α : Type} (p q r s : α), atI [p, q, r, s] 0 = some p := fun _ _ _ _ => rfl
  have e1 : ∀ {α : Type} (p q r s : α), atI [p, q, r, s] 1 = some q := fun _ _ _ _ => rfl
  have e2 : ∀ {α : Type} (p q r s : α), atI [p, q, r, s] 2 = some r := fun _ _ _ _ => rfl
  have e3 : ∀ {α : Type} (p q r s : α), atI [p, q, r, s] 3 = some s := fun _ _ _ _ => rfl
  have i0 : ixN 4 0 = some 0 := rfl
  have i1 : ixN 4 1 = some 1 := rfl
  have i3 : ixN 4 3 = some 3 := rfl
  rw [e_ldraw]
  by_cases h0 : x = 0
  · subst h0
    have big : ∀ w : Int, 0 ≤ w → w < 1000000000000000000 → 0 ≤ w * 1000003 + a * 7919 + 12347 + c * 613 ∧ mulOk (w * 1000003 + a * 7919 + 12347 + c * 613) (w * 1000003 + a * 7919 + 12347 + c * 613) = true := fun w h1 h2 => by
      have : Sb (99 + 1) (w * 1000003 + a * 7919 + 12347 + c * 613) := by unfold Sb; omega
      exact ⟨by omega, this.mulOk this (by decide)⟩
    by_cases hl : a < (ns.length : Int)
    · obtain ⟨z, hz⟩ : ∃ z, ns[a.toNat]? = some z := ⟨_, List.getElem?_eq_getElem (by omega)⟩
      have hz' : atI (ns.map PyData.int) a = some (.int z) := by
        rw [atI_nat' ha, List.getElem?_map, hz]; rfl
      have zn := ab_nn z
      generalize hw : ab z = w at *
      by_cases hb : w < 1000000000000000000
      · obtain ⟨hp, hs⟩ := big w zn hb
        have q9 := fMul_v hs
        simp [m_ldraw, eb, rb, er, es, sSeq, sIf, sRet, sSet, sSetN, setS, setN, sExpr, sTup, setAll, evD, cVar, opd, resolve, cP1, cP2, cPN, cList, resolves, cTup, cLst, cFrz, cBoxN, cBoxV, cTru, truth, toB, cAnd, cOr, cNot, cAndV, cOrV, cNotV, cIf, cCh, fAdd, fSub, fCmpI, fNeg, fIsi, isT, fI, f1, f2, fLen, fInt, fTupleOf, fIx, cCall, doCall, cCallK, kwOrd, runF, exitF, Ob.data, sRaise, cNewL, modSlot, gPut, sPut, isLst, sAug, sAugIx, augF.fAugAdd, fGet, gApp, cApp, b2i, fAbs_v, fGcd_v, fEqI_v, fNeI_v, Wb, q1, q2, q3, q4, q5, q6, q7, q8, q9, e0, e1, e2, e3, i0, i1, i3, hl, hz', hw, hb]
        generalize w * 1000003 + a * 7919 + 12347 + c * 613 = v at *
        exact draw_fin (b := b + 1) (by have : 0 ≤ v * v / 97 := Int.ediv_nonneg (Int.mul_nonneg hp hp) (by decide); omega) hm (by omega) (by omega) (by omega) (by omega)
      · simp [m_ldraw, eb, rb, er, es, sSeq, sIf, sRet, sSet, sSetN, setS, setN, sExpr, sTup, setAll, evD, cVar, opd, resolve, cP1, cP2, cPN, cList, resolves, cTup, cLst, cFrz, cBoxN, cBoxV, cTru, truth, toB, cAnd, cOr, cNot, cAndV, cOrV, cNotV, cIf, cCh, fAdd, fSub, fCmpI, fNeg, fIsi, isT, fI, f1, f2, fLen, fInt, fTupleOf, fIx, cCall, doCall, cCallK, kwOrd, runF, exitF, Ob.data, sRaise, cNewL, modSlot, gPut, sPut, isLst, sAug, sAugIx, augF.fAugAdd, fGet, gApp, cApp, b2i, fAbs_v, fGcd_v, fEqI_v, fNeI_v, Wb, q1, q2, q3, q4, q5, q6, q7, q8, e0, e1, e2, e3, i0, i1, i3, hl, hz', hw, hb]
        exact draw_fin (b := b + 1) zn hm (by omega) (by omega) (by omega) (by omega)
    · obtain ⟨hp, hs⟩ := big 7 (by decide) (by decide)
      have q9 := fMul_v hs
      simp [m_ldraw, eb, rb, er, es, sSeq, sIf, sRet, sSet, sSetN, setS, setN, sExpr, sTup, setAll, evD, cVar, opd, resolve, cP1, cP2, cPN, cList, resolves, cTup, cLst, cFrz, cBoxN, cBoxV, cTru, truth, toB, cAnd, cOr, cNot, cAndV, cOrV, cNotV, cIf, cCh, fAdd, fSub, fCmpI, fNeg, fIsi, isT, fI, f1, f2, fLen, fInt, fTupleOf, fIx, cCall, doCall, cCallK, kwOrd, runF, exitF, Ob.data, sRaise, cNewL, modSlot, gPut, sPut, isLst, sAug, sAugIx, augF.fAugAdd, fGet, gApp, cApp, b2i, fAbs_v, fGcd_v, fEqI_v, fNeI_v, Wb, q1, q2, q3, q4, q5, q6, q7, q8, e0, e1, e2, e3, i0, i1, i3, hl]
      simp at q9
      simp [q9, eb, rb, er, es, sSeq, sIf, sRet, sSet, sSetN, setS, setN, sExpr, sTup, setAll, evD, cVar, opd, resolve, cP1, cP2, cPN, cList, resolves, cTup, cLst, cFrz, cBoxN, cBoxV, cTru, truth, toB, cAnd, cOr, cNot, cAndV, cOrV, cNotV, cIf, cCh, fAdd, fSub, fCmpI, fNeg, fIsi, isT, fI, f1, f2, fLen, fInt, fTupleOf, fIx, cCall, doCall, cCallK, kwOrd, runF, exitF, Ob.data, sRaise, cNewL, modSlot, gPut, sPut, isLst, sAug, sAugIx, augF.fAugAdd, fGet, gApp, cApp, b2i, fAbs_v, fGcd_v, fEqI_v, fNeI_v, Wb, q1, q2, q3, q4, q5, q6, q7, q8, e0, e1, e2, e3, i0, i1, i3]
      have hp' : 0 ≤ 7000021 + a * 7919 + 12347 + c * 613 := by omega
      generalize 7000021 + a * 7919 + 12347 + c * 613 = v at *
      exact draw_fin (b := b + 1) (by have : 0 ≤ v * v / 97 := Int.ediv_nonneg (Int.mul_nonneg hp' hp') (by decide); omega) hm (by omega) (by omega) (by omega) (by omega)
  · simp [m_ldraw, eb, rb, er, es, sSeq, sIf, sRet, sSet, sSetN, setS, setN, sExpr, sTup, setAll, evD, cVar, opd, resolve, cP1, cP2, cPN, cList, resolves, cTup, cLst, cFrz, cBoxN, cBoxV, cTru, truth, toB, cAnd, cOr, cNot, cAndV, cOrV, cNotV, cIf, cCh, fAdd, fSub, fCmpI, fNeg, fIsi, isT, fI, f1, f2, fLen, fInt, fTupleOf, fIx, cCall, doCall, cCallK, kwOrd, runF, exitF, Ob.data, sRaise, cNewL, modSlot, gPut, sPut, isLst, sAug, sAugIx, augF.fAugAdd, fGet, gApp, cApp, b2i, fAbs_v, fGcd_v, fEqI_v, fNeI_v, Wb, q7, q8, e0, e1, e2, e3, i0, i1, i3, h0]
    exact draw_fin (b := b + 1) hx hm (by omega) (by omega) (by omega) (by omega)
theorem In.one {b : Int} {ns : List Int} {m : List Box} (h : In b ns m) : ∃ y, m = [y] := by
  obtain ⟨x, a, c, rfl, _⟩ := h
  exact ⟨_, rfl⟩
theorem In.mono {b b' : Int} {ns : List Int} {m : List Box} (h : In b ns m) (l : b ≤ b') : In b' ns m := by
  obtain ⟨x, a, c, rfl, h1, h2, h3, h4, h5⟩ := h
  exact ⟨x, a, c, rfl, h1, h2, by omega, h4, by omega⟩
theorem In.take {b b' : Int} {ns : List Int} {m m' : List Box} (h : In b ns m) (h' : In b' ns m') : List.take m.length m' = m' := by
  obtain ⟨y, rfl⟩ := h.one
  obtain ⟨z, rfl⟩ := h'.one
  rfl
theorem v_number (k : Nat) {b : Int} {ns : List Int} {m : List Box} (hI : In b ns m) (hb : b < 800000) :
    ∃ r m', evalF g (k + 2) "_law_number" [.ref 0] m = .ok (.d (.int r)) ⟨[], m'⟩ ∧ In (b + 3) ns m' ∧ Sb 210 r := by
  obtain ⟨r, m1, h1, I1, p1, p2⟩ := v_draw k hI (by omega) (many := 9) (by decide) (by decide)
  have w1 : fPow (.int 10) (.int 60) = some (.int 1000000000000000000000000000000000000000000000000000000000000) := rfl
  have w2 : fPow (.int 10) (.int 59) = some (.int 100000000000000000000000000000000000000000000000000000000000) := rfl
  have w3 : fPow (.int 10) (.int 12) = some (.int 1000000000000) := rfl
  have w4 : fMul (.int 5) (.int 100000000000000000000000000000000000000000000000000000000000) = some (.int 500000000000000000000000000000000000000000000000000000000000) := rfl
  have w5 : ∀ i, fMul (.int 2) (.int i) = some (.int (2 * i)) := fun i => fMul_v (mulOk_l (by decide))
  rw [e_lnumber]
  by_cases c0 : r = 0
  · subst c0
    refine ⟨0, m1, ?_, I1.mono (by omega), by unfold Sb; decide⟩
    simp [m_lnumber, eb, rb, er, es, sSeq, sIf, sRet, sSet, sSetN, setS, setN, sExpr, sTup, setAll, evD, cVar, opd, resolve, cP1, cP2, cPN, cList, resolves, cTup, cLst, cFrz, cBoxN, cBoxV, cTru, truth, toB, cAnd, cOr, cNot, cAndV, cOrV, cNotV, cIf, cCh, fAdd, fSub, fCmpI, fNeg, fIsi, isT, fI, f1, f2, fLen, fInt, fTupleOf, fIx, cCall, doCall, cCallK, kwOrd, runF, exitF, Ob.data, sRaise, cNewL, modSlot, gPut, sPut, isLst, sAug, sAugIx, augF.fAugAdd, fGet, gApp, cApp, b2i, fAbs_v, fGcd_v, fEqI_v, fNeI_v, h1, hI.take I1]
  by_cases c1 : r = 1
  · subst c1
    obtain ⟨r2, m2, h2, I2, p3, p4⟩ := v_draw k I1 (by omega) (many := 2) (by decide) (by decide)
    refine ⟨1 - 2 * r2, m2, ?_, I2.mono (by omega), by unfold Sb; omega⟩
    simp [m_lnumber, eb, rb, er, es, sSeq, sIf, sRet, sSet, sSetN, setS, setN, sExpr, sTup, setAll, evD, cVar, opd, resolve, cP1, cP2, cPN, cList, resolves, cTup, cLst, cFrz, cBoxN, cBoxV, cTru, truth, toB, cAnd, cOr, cNot, cAndV, cOrV, cNotV, cIf, cCh, fAdd, fSub, fCmpI, fNeg, fIsi, isT, fI, f1, f2, fLen, fInt, fTupleOf, fIx, cCall, doCall, cCallK, kwOrd, runF, exitF, Ob.data, sRaise, cNewL, modSlot, gPut, sPut, isLst, sAug, sAugIx, augF.fAugAdd, fGet, gApp, cApp, b2i, fAbs_v, fGcd_v, fEqI_v, fNeI_v, h1, h2, w5, hI.take I2]
  by_cases c2 : r = 2
  · subst c2
    obtain ⟨r2, m2, h2, I2, p3, p4⟩ := v_draw k I1 (by omega) (many := 1000000000000000000000000000000000000000000000000000000000000) (by decide) (by decide +kernel)
    refine ⟨r2 - 500000000000000000000000000000000000000000000000000000000000, m2, ?_, I2.mono (by omega), by unfold Sb; omega⟩
    simp [m_lnumber, eb, rb, er, es, sSeq, sIf, sRet, sSet, sSetN, setS, setN, sExpr, sTup, setAll, evD, cVar, opd, resolve, cP1, cP2, cPN, cList, resolves, cTup, cLst, cFrz, cBoxN, cBoxV, cTru, truth, toB, cAnd, cOr, cNot, cAndV, cOrV, cNotV, cIf, cCh, fAdd, fSub, fCmpI, fNeg, fIsi, isT, fI, f1, f2, fLen, fInt, fTupleOf, fIx, cCall, doCall, cCallK, kwOrd, runF, exitF, Ob.data, sRaise, cNewL, modSlot, gPut, sPut, isLst, sAug, sAugIx, augF.fAugAdd, fGet, gApp, cApp, b2i, fAbs_v, fGcd_v, fEqI_v, fNeI_v, h1, h2, w1, w2, w4, hI.take I2]
  by_cases c3 : r = 3
  · subst c3
    obtain ⟨r2, m2, h2, I2, p3, p4⟩ := v_draw k I1 (by omega) (many := 5) (by decide) (by decide)
    obtain ⟨r3, m3, h3, I3, p5, p6⟩ := v_draw k I2 (by omega) (many := 2) (by decide) (by decide)
    have w6 : fMul (.int (1000000000000 + r2)) (.int (1 - 2 * r3)) = some (.int ((1000000000000 + r2) * (1 - 2 * r3))) := fMul_v (mulOk_r (by omega))
    refine ⟨(1000000000000 + r2) * (1 - 2 * r3), m3, ?_, I3.mono (by omega), ?_⟩
    · simp [m_lnumber, eb, rb, er, es, sSeq, sIf, sRet, sSet, sSetN, setS, setN, sExpr, sTup, setAll, evD, cVar, opd, resolve, cP1, cP2, cPN, cList, resolves, cTup, cLst, cFrz, cBoxN, cBoxV, cTru, truth, toB, cAnd, cOr, cNot, cAndV, cOrV, cNotV, cIf, cCh, fAdd, fSub, fCmpI, fNeg, fIsi, isT, fI, f1, f2, fLen, fInt, fTupleOf, fIx, cCall, doCall, cCallK, kwOrd, runF, exitF, Ob.data, sRaise, cNewL, modSlot, gPut, sPut, isLst, sAug, sAugIx, augF.fAugAdd, fGet, gApp, cApp, b2i, fAbs_v, fGcd_v, fEqI_v, fNeI_v, h1, h2, h3, w3, w5, w6, hI.take I3]
    · have a1 : Sb 100 (1000000000000 + r2) := by unfold Sb; omega
      have a2 : Sb 100 (1 - 2 * r3) := by unfold Sb; omega
      exact (a1.mul a2).mono (by omega)
  · obtain ⟨r2, m2, h2, I2, p3, p4⟩ := v_draw k I1 (by omega) (many := 25) (by decide) (by decide)
    refine ⟨r2 - 12, m2, ?_, I2.mono (by omega), by unfold Sb; omega⟩
    simp [m_lnumber, eb, rb, er, es, sSeq, sIf, sRet, sSet, sSetN, setS, setN, sExpr, sTup, setAll, evD, cVar, opd, resolve, cP1, cP2, cPN, cList, resolves, cTup, cLst, cFrz, cBoxN, cBoxV, cTru, truth, toB, cAnd, cOr, cNot, cAndV, cOrV, cNotV, cIf, cCh, fAdd, fSub, fCmpI, fNeg, fIsi, isT, fI, f1, f2, fLen, fInt, fTupleOf, fIx, cCall, doCall, cCallK, kwOrd, runF, exitF, Ob.data, sRaise, cNewL, modSlot, gPut, sPut, isLst, sAug, sAugIx, augF.fAugAdd, fGet, gApp, cApp, b2i, fAbs_v, fGcd_v, fEqI_v, fNeI_v, h1, h2, c0, c1, c2, c3, hI.take I2]
theorem v_pair (k : Nat) {b : Int} {ns : List Int} {m : List Box} (hI : In b ns m) (hb : b < 700000) :
    ∃ t u m', evalF g (k + 3) "_law_pair" [.ref 0] m = .ok (.d (.tuple [.int t, .int u])) ⟨[], m'⟩ ∧ In (b + 10) ns m' ∧ Sb 320 t ∧ Sb 320 u ∧ u ≠ 0 := by
  obtain ⟨t, m1, h1, I1, s1⟩ := v_number k hI (by omega)
  obtain ⟨u, m2, h2, I2, s2⟩ := v_number k I1 (by omega)
  have w1 : fPow (.int 10) (.int 9) = some (.int 1000000000) := rfl
  have w2 : fPow (.int 10) (.int 30) = some (.int 1000000000000000000000000000000) := rfl
  -- the bottom
  have B : ∃ u' m3, (u = 0 → ∃ r, evalF g (k + 2) "_law_draw" [.ref 0, .d (.int 6)] m2 = .ok (.d (.int r)) ⟨[], m3⟩ ∧ u' = 1 + r) ∧ (u ≠ 0 → u' = u ∧ m3 = m2) ∧ In (b + 7) ns m3 ∧ Sb 210 u' ∧ u' ≠ 0 := by
    by_cases hu : u = 0
    · obtain ⟨r, m3, h3, I3, p1, p2⟩ := v_draw (k + 1) I2 (by omega) (many := 6) (by decide) (by decide)
      exact ⟨1 + r, m3, fun _ => ⟨r, h3, rfl⟩, fun z => absurd hu z, I3.mono (by omega), by unfold Sb; omega, by omega⟩
    · exact ⟨u, m2, fun z => absurd z hu, fun _ => ⟨rfl, rfl⟩, I2.mono (by omega), s2, hu⟩
  obtain ⟨u', m3, B1, B2, I3, s3, n3⟩ := B
  obtain ⟨r4, m4, h4, I4, p4, p4'⟩ := v_draw (k + 1) I3 (by omega) (many := 6) (by decide) (by decide)
  obtain ⟨r5, m5, h5, I5, p5, p5'⟩ := v_draw (k + 1) I4 (by omega) (many := 8) (by decide) (by decide)
  obtain ⟨r6, m6, h6, I6, p6, p6'⟩ := v_draw (k + 1) I5 (by omega) (many := 1000000000000000000000000000000) (by decide) (by decide +kernel)
  have F1 : ∃ f, atI [PyData.int 1, .int 1, .int 2, .int 6, .int 1000000000, .int 30030] r4 = some (.int f) ∧ 0 < f ∧ f < 1000000001 := by
    have : r4 = 0 ∨ r4 = 1 ∨ r4 = 2 ∨ r4 = 3 ∨ r4 = 4 ∨ r4 = 5 := by omega
    rcases this with rfl | rfl | rfl | rfl | rfl | rfl <;> exact ⟨_, rfl, by decide, by decide⟩
  obtain ⟨f, f1, f2, f3⟩ := F1
  have key : ∀ f' : Int, 0 < f' → f' ≤ 1000000000000000000000000000000 → fMul (.int t) (.int f') = some (.int (t * f')) ∧ fMul (.int u') (.int f') = some (.int (u' * f')) ∧ Sb 320 (t * f') ∧ Sb 320 (u' * f') ∧ u' * f' ≠ 0 := fun f' g1 g2 => by
    have sf : Sb 110 f' := by unfold Sb; omega
    exact ⟨fMul_v (Sb.mulOk (m := 209) (n := 109) s1 sf (by decide)), fMul_v (Sb.mulOk (m := 209) (n := 109) s3 sf (by decide)), (s1.mul sf), (s3.mul sf), Int.mul_ne_zero n3 (by omega)⟩
  rw [e_lpair]
  by_cases c5 : r5 = 0
  · subst c5
    obtain ⟨q1, q2, q3, q4, q5⟩ := key (1 + r6) (by omega) (by omega)
    refine ⟨_, _, m6, ?_, I6.mono (by omega), q3, q4, q5⟩
    by_cases hu : u = 0
    · obtain ⟨r, h3, rfl⟩ := B1 hu
      subst hu
      simp [m_lpair, eb, rb, er, es, sSeq, sIf, sRet, sSet, sSetN, setS, setN, sExpr, sTup, setAll, evD, cVar, opd, resolve, cP1, cP2, cPN, cList, resolves, cTup, cLst, cFrz, cBoxN, cBoxV, cTru, truth, toB, cAnd, cOr, cNot, cAndV, cOrV, cNotV, cIf, cCh, fAdd, fSub, fCmpI, fNeg, fIsi, isT, fI, f1, f2, fLen, fInt, fTupleOf, fIx, cCall, doCall, cCallK, kwOrd, runF, exitF, Ob.data, sRaise, cNewL, modSlot, gPut, sPut, isLst, sAug, sAugIx, augF.fAugAdd, fGet, gApp, cApp, b2i, fAbs_v, fGcd_v, fEqI_v, fNeI_v, h1, h2, h3, h4, h5, h6, w1, w2, f1, q1, q2, hI.take I6]
    · obtain ⟨rfl, rfl⟩ := B2 hu
      simp [m_lpair, eb, rb, er, es, sSeq, sIf, sRet, sSet, sSetN, setS, setN, sExpr, sTup, setAll, evD, cVar, opd, resolve, cP1, cP2, cPN, cList, resolves, cTup, cLst, cFrz, cBoxN, cBoxV, cTru, truth, toB, cAnd, cOr, cNot, cAndV, cOrV, cNotV, cIf, cCh, fAdd, fSub, fCmpI, fNeg, fIsi, isT, fI, f1, f2, fLen, fInt, fTupleOf, fIx, cCall, doCall, cCallK, kwOrd, runF, exitF, Ob.data, sRaise, cNewL, modSlot, gPut, sPut, isLst, sAug, sAugIx, augF.fAugAdd, fGet, gApp, cApp, b2i, fAbs_v, fGcd_v, fEqI_v, fNeI_v, h1, h2, hu, h4, h5, h6, w1, w2, f1, q1, q2, hI.take I6]
  · obtain ⟨q1, q2, q3, q4, q5⟩ := key f (by omega) (by omega)
    refine ⟨_, _, m5, ?_, I5.mono (by omega), q3, q4, q5⟩
    by_cases hu : u = 0
    · obtain ⟨r, h3, rfl⟩ := B1 hu
      subst hu
      simp [m_lpair, eb, rb, er, es, sSeq, sIf, sRet, sSet, sSetN, setS, setN, sExpr, sTup, setAll, evD, cVar, opd, resolve, cP1, cP2, cPN, cList, resolves, cTup, cLst, cFrz, cBoxN, cBoxV, cTru, truth, toB, cAnd, cOr, cNot, cAndV, cOrV, cNotV, cIf, cCh, fAdd, fSub, fCmpI, fNeg, fIsi, isT, fI, f1, f2, fLen, fInt, fTupleOf, fIx, cCall, doCall, cCallK, kwOrd, runF, exitF, Ob.data, sRaise, cNewL, modSlot, gPut, sPut, isLst, sAug, sAugIx, augF.fAugAdd, fGet, gApp, cApp, b2i, fAbs_v, fGcd_v, fEqI_v, fNeI_v, h1, h2, h3, h4, h5, c5, w1, w2, f1, q1, q2, hI.take I5]
    · obtain ⟨rfl, rfl⟩ := B2 hu
      simp [m_lpair, eb, rb, er, es, sSeq, sIf, sRet, sSet, sSetN, setS, setN, sExpr, sTup, setAll, evD, cVar, opd, resolve, cP1, cP2, cPN, cList, resolves, cTup, cLst, cFrz, cBoxN, cBoxV, cTru, truth, toB, cAnd, cOr, cNot, cAndV, cOrV, cNotV, cIf, cCh, fAdd, fSub, fCmpI, fNeg, fIsi, isT, fI, f1, f2, fLen, fInt, fTupleOf, fIx, cCall, doCall, cCallK, kwOrd, runF, exitF, Ob.data, sRaise, cNewL, modSlot, gPut, sPut, isLst, sAug, sAugIx, augF.fAugAdd, fGet, gApp, cApp, b2i, fAbs_v, fGcd_v, fEqI_v, fNeI_v, h1, h2, hu, h4, h5, c5, w1, w2, f1, q1, q2, hI.take I5]
end MP
namespace MP
open PySem PySem.Spec PyProof.Rows L2
/-! ### while -/
theorem whileN_more {c : EM Bool} {b : EM Fl} : ∀ {n : Nat} {s : S}, whileN c b n s ≠ .stuck → whileN c b (n + 1) s = whileN c b n s := by
  intro n
  induction n with
  | zero => intro s h; exact absurd rfl h
  | succ n ih =>
    intro s h
    have e1 : ∀ m, whileN c b (m + 1) s = rb (c s) fun k => if k = true then eb b fun f => match f with
        | .next => whileN c b m
        | .cont => whileN c b m
        | .brk => er .next
        | .ret w => er (.ret w)
      else er .next := fun m => rfl
    rw [e1 n] at h ⊢
    rw [e1 (n + 1)]
    cases hc : c s with
    | stuck => rfl
    | raise x s' => rfl
    | ok k s' =>
      rw [hc] at h
      cases k with
      | false => rfl
      | true =>
        have h : rb (b s') (fun f => match f with
          | .next => whileN c b n
          | .cont => whileN c b n
          | .brk => er .next
          | .ret w => er (.ret w)) ≠ .stuck := h
        show rb (b s') (fun f => match f with
          | .next => whileN c b (n + 1)
          | .cont => whileN c b (n + 1)
          | .brk => er .next
          | .ret w => er (.ret w)) = rb (b s') (fun f => match f with
          | .next => whileN c b n
          | .cont => whileN c b n
          | .brk => er .next
          | .ret w => er (.ret w))
        cases hb : b s' with
        | stuck => rfl
        | raise x s2 => rfl
        | ok f s2 =>
          rw [hb] at h
          cases f with
          | next => exact ih h
          | cont => exact ih h
          | brk => rfl
          | ret w => rfl
theorem whileN_any {c : EM Bool} {b : EM Fl} {n m : Nat} {s : S} (hn : whileN c b n s ≠ .stuck) (hm : whileN c b m s ≠ .stuck) : whileN c b n s = whileN c b m s := by
  have up : ∀ d n, whileN c b n s ≠ .stuck → whileN c b (n + d) s = whileN c b n s := by
    intro d
    induction d with
    | zero => intro n _; rfl
    | succ d ih =>
      intro n h
      have e := ih n h
      rw [← Nat.add_assoc, whileN_more (by rw [e]; exact h), e]
  rcases Nat.le_total n m with l | l
  · have := up (m - n) n hn
    rw [← this, Nat.add_sub_cancel' l]
  · have := up (n - m) m hm
    rw [← this, Nat.add_sub_cancel' l]
theorem sWhile_eq {c : EM Bool} {b : EM Fl} {n : Nat} {s : S} {r : Res Fl} (h : whileN c b n s = r) (hr : r ≠ .stuck) : sWhile c b s = r := by
  have hx : ∃ n, whileN c b n s ≠ .stuck := ⟨n, by rw [h]; exact hr⟩
  unfold sWhile
  rw [dif_pos hx, ← h]
  exact whileN_any hx.choose_spec (by rw [h]; exact hr)
/-! ### the gcd by Euclid -/
theorem gcd_loop {call : Call} (mem : List Box) : ∀ (n b a : Nat) (z : Option W), b < n → ∃ z', whileN (eb (cP2 (fCmpI fun i j => decide (j < i)) (.var 1) (.ex (er (.d (.int 0))))) toB) (sSeq (sSet 2 (cP2 fMod (.ex (cPN (f1 fInt) [(.var 0)])) (.var 1))) (sSeq (sSet 0 (cVar 1)) (sSeq (sSet 1 (cVar 2)) (er .next)))) n
    ⟨[some (.d (.int a)), some (.d (.int b)), z], mem⟩ = .ok .next ⟨[some (.d (.int (Nat.gcd a b : Nat))), some (.d (.int 0)), z'], mem⟩ := by
  intro n
  induction n with
  | zero => intro b a z h; omega
  | succ n ih =>
    intro b a z h
    by_cases hb : b = 0
    · subst hb
      refine ⟨z, ?_⟩
      simp [whileN, eb, rb, er, es, sSeq, sIf, sRet, sSet, sSetN, setS, setN, sExpr, sTup, setAll, evD, cVar, opd, resolve, cP1, cP2, cPN, cList, resolves, cTup, cLst, cFrz, cBoxN, cBoxV, cTru, truth, toB, cAnd, cOr, cNot, cAndV, cOrV, cNotV, cIf, cCh, fAdd, fSub, fCmpI, fNeg, fIsi, isT, fI, f1, f2, fLen, fInt, fTupleOf, fIx, cCall, doCall, cCallK, kwOrd, runF, exitF, Ob.data, sRaise, cNewL, modSlot, gPut, sPut, isLst, sAug, sAugIx, augF.fAugAdd, fGet, gApp, cApp, b2i, fAbs_v, fGcd_v, fEqI_v, fNeI_v]
    · obtain ⟨z', e⟩ := ih (a % b) b (some (.d (.int ((a : Int) % b)))) (by have := Nat.mod_lt a (Nat.pos_of_ne_zero hb); omega)
      refine ⟨z', ?_⟩
      have q : fMod (.int a) (.int b) = some (.int ((a : Int) % b)) := fMod_v (by omega)
      have hp : 0 < b := Nat.pos_of_ne_zero hb
      have e2 : (Nat.gcd a b : Nat) = Nat.gcd b (a % b) := by rw [Nat.gcd_comm a b, Nat.gcd_rec b a, Nat.gcd_comm]
      rw [e2, ← e]
      simp [whileN, eb, rb, er, es, sSeq, sIf, sRet, sSet, sSetN, setS, setN, sExpr, sTup, setAll, evD, cVar, opd, resolve, cP1, cP2, cPN, cList, resolves, cTup, cLst, cFrz, cBoxN, cBoxV, cTru, truth, toB, cAnd, cOr, cNot, cAndV, cOrV, cNotV, cIf, cCh, fAdd, fSub, fCmpI, fNeg, fIsi, isT, fI, f1, f2, fLen, fInt, fTupleOf, fIx, cCall, doCall, cCallK, kwOrd, runF, exitF, Ob.data, sRaise, cNewL, modSlot, gPut, sPut, isLst, sAug, sAugIx, augF.fAugAdd, fGet, gApp, cApp, b2i, fAbs_v, fGcd_v, fEqI_v, fNeI_v, q, hp]
theorem v_lgcd (k : Nat) (mem : List Box) (a b : Int) : evalF g (k + 1) "_law_gcd" [.d (.int a), .d (.int b)] mem = .ok (.d (.int (gd a b))) ⟨[], mem⟩ := by
  have n1 : ab a = ((a.natAbs : Nat) : Int) := by unfold ab; split <;> omega
  have n2 : ab b = ((b.natAbs : Nat) : Int) := by unfold ab; split <;> omega
  obtain ⟨z', e⟩ := gcd_loop (call := evalF g k) mem (b.natAbs + 1) b.natAbs a.natAbs none (by omega)
  have e' := sWhile_eq e (by intro h; cases h)
  rw [e_lgcd]
  simp only [m_lgcd]
  generalize hw : sWhile _ _ = wh at *
  simp [eb, rb, er, es, sSeq, sIf, sRet, sSet, sSetN, setS, setN, sExpr, sTup, setAll, evD, cVar, opd, resolve, cP1, cP2, cPN, cList, resolves, cTup, cLst, cFrz, cBoxN, cBoxV, cTru, truth, toB, cAnd, cOr, cNot, cAndV, cOrV, cNotV, cIf, cCh, fAdd, fSub, fCmpI, fNeg, fIsi, isT, fI, f1, f2, fLen, fInt, fTupleOf, fIx, cCall, doCall, cCallK, kwOrd, runF, exitF, Ob.data, sRaise, cNewL, modSlot, gPut, sPut, isLst, sAug, sAugIx, augF.fAugAdd, fGet, gApp, cApp, b2i, fAbs_v, fGcd_v, fEqI_v, fNeI_v, n1, n2, e', gd]
end MP
namespace MP
open PySem PySem.Spec PyProof.Rows L2
theorem v_llowest (k : Nat) (mem : List Box) (t b : Int) (hp : 0 < gd t b) (hc : (gd t b).natAbs.log2 < 9000) : evalF g (k + 2) "_law_lowest" [.d (.int t), .d (.int b)] mem = .ok (.d (.tuple [.int ((if b < 0 then -t else t) / gd t b), .int ((if b < 0 then -b else b) / gd t b)])) ⟨[], mem⟩ := by
  rw [e_llowest]
  have h1 := v_lgcd k mem t b
  have h2 := v_lgcd k mem (-t) (-b)
  rw [gd_neg] at h2
  by_cases hb : b < 0
  · simp [m_llowest, eb, rb, er, es, sSeq, sIf, sRet, sSet, sSetN, setS, setN, sExpr, sTup, setAll, evD, cVar, opd, resolve, cP1, cP2, cPN, cList, resolves, cTup, cLst, cFrz, cBoxN, cBoxV, cTru, truth, toB, cAnd, cOr, cNot, cAndV, cOrV, cNotV, cIf, cCh, fAdd, fSub, fCmpI, fNeg, fIsi, isT, fI, f1, f2, fLen, fInt, fTupleOf, fIx, cCall, doCall, cCallK, kwOrd, runF, exitF, Ob.data, sRaise, cNewL, modSlot, gPut, sPut, isLst, sAug, sAugIx, augF.fAugAdd, fGet, gApp, cApp, b2i, fAbs_v, fGcd_v, fEqI_v, fNeI_v, hb, h2, fDiv_v hp hc]
  · simp [m_llowest, eb, rb, er, es, sSeq, sIf, sRet, sSet, sSetN, setS, setN, sExpr, sTup, setAll, evD, cVar, opd, resolve, cP1, cP2, cPN, cList, resolves, cTup, cLst, cFrz, cBoxN, cBoxV, cTru, truth, toB, cAnd, cOr, cNot, cAndV, cOrV, cNotV, cIf, cCh, fAdd, fSub, fCmpI, fNeg, fIsi, isT, fI, f1, f2, fLen, fInt, fTupleOf, fIx, cCall, doCall, cCallK, kwOrd, runF, exitF, Ob.data, sRaise, cNewL, modSlot, gPut, sPut, isLst, sAug, sAugIx, augF.fAugAdd, fGet, gApp, cApp, b2i, fAbs_v, fGcd_v, fEqI_v, fNeI_v, hb, h1, fDiv_v hp hc]
/-- a ratio -/
def isI (d : PyData) : Bool := isT .int d && !isT .bool d
def isR : PyData → Bool
  | .tuple [x, y] => match x, y with
    | .int p, .int q => decide (1 ≤ q) && decide (gd p q = 1)
    | _, _ => false
  | _ => false
theorem isI_of {x : PyData} (h : isI x = true) : ∃ p, x = .int p := by
  cases x <;> first | exact ⟨_, rfl⟩ | cases h
theorem v_is_ratio (k : Nat) (mem : List Box) (d : PyData) : evalF g (k + 2) "is_ratio" [.d d] mem = .ok (.d (.bool (isR d))) ⟨[], mem⟩ := by
  rw [e_p_is_ratio]
  have hi := v_is_int k mem
  cases d with
  | tuple xs =>
    cases xs with
    | nil => simp [m_p_is_ratio, eb, rb, er, es, sSeq, sIf, sRet, sSet, sSetN, setS, setN, sExpr, sTup, setAll, evD, cVar, opd, resolve, cP1, cP2, cPN, cList, resolves, cTup, cLst, cFrz, cBoxN, cBoxV, cTru, truth, toB, cAnd, cOr, cNot, cAndV, cOrV, cNotV, cIf, cCh, fAdd, fSub, fCmpI, fNeg, fIsi, isT, fI, f1, f2, fLen, fInt, fTupleOf, fIx, cCall, doCall, cCallK, kwOrd, runF, exitF, Ob.data, sRaise, cNewL, modSlot, gPut, sPut, isLst, sAug, sAugIx, augF.fAugAdd, fGet, gApp, cApp, b2i, fAbs_v, fGcd_v, fEqI_v, fNeI_v, isR]
    | cons x r =>
      cases r with
      | nil => simp [m_p_is_ratio, eb, rb, er, es, sSeq, sIf, sRet, sSet, sSetN, setS, setN, sExpr, sTup, setAll, evD, cVar, opd, resolve, cP1, cP2, cPN, cList, resolves, cTup, cLst, cFrz, cBoxN, cBoxV, cTru, truth, toB, cAnd, cOr, cNot, cAndV, cOrV, cNotV, cIf, cCh, fAdd, fSub, fCmpI, fNeg, fIsi, isT, fI, f1, f2, fLen, fInt, fTupleOf, fIx, cCall, doCall, cCallK, kwOrd, runF, exitF, Ob.data, sRaise, cNewL, modSlot, gPut, sPut, isLst, sAug, sAugIx, augF.fAugAdd, fGet, gApp, cApp, b2i, fAbs_v, fGcd_v, fEqI_v, fNeI_v, isR]
      | cons y r =>
        cases r with
        | cons z r =>
          have : ¬ ((r.length : Int) + 1 + 1 + 1 = 2) := by omega
          simp [m_p_is_ratio, eb, rb, er, es, sSeq, sIf, sRet, sSet, sSetN, setS, setN, sExpr, sTup, setAll, evD, cVar, opd, resolve, cP1, cP2, cPN, cList, resolves, cTup, cLst, cFrz, cBoxN, cBoxV, cTru, truth, toB, cAnd, cOr, cNot, cAndV, cOrV, cNotV, cIf, cCh, fAdd, fSub, fCmpI, fNeg, fIsi, isT, fI, f1, f2, fLen, fInt, fTupleOf, fIx, cCall, doCall, cCallK, kwOrd, runF, exitF, Ob.data, sRaise, cNewL, modSlot, gPut, sPut, isLst, sAug, sAugIx, augF.fAugAdd, fGet, gApp, cApp, b2i, fAbs_v, fGcd_v, fEqI_v, fNeI_v, isR, this]
        | nil =>
          have a0 : atI [x, y] 0 = some x := rfl
          have a1 : atI [x, y] 1 = some y := rfl
          have i1 := hi x
          have i2 := hi y
          cases hx : isI x with
          | false =>
            have hx' : (isT .int x && !isT .bool x) = false := hx
            rw [hx'] at i1
            have ei : isR (.tuple [x, y]) = false := by
              cases x <;> first | rfl | (exact Bool.noConfusion hx)
            rw [ei]
            simp [m_p_is_ratio, eb, rb, er, es, sSeq, sIf, sRet, sSet, sSetN, setS, setN, sExpr, sTup, setAll, evD, cVar, opd, resolve, cP1, cP2, cPN, cList, resolves, cTup, cLst, cFrz, cBoxN, cBoxV, cTru, truth, toB, cAnd, cOr, cNot, cAndV, cOrV, cNotV, cIf, cCh, fAdd, fSub, fCmpI, fNeg, fIsi, isT, fI, f1, f2, fLen, fInt, fTupleOf, fIx, cCall, doCall, cCallK, kwOrd, runF, exitF, Ob.data, sRaise, cNewL, modSlot, gPut, sPut, isLst, sAug, sAugIx, augF.fAugAdd, fGet, gApp, cApp, b2i, fAbs_v, fGcd_v, fEqI_v, fNeI_v, a0, a1, i1]
          | true =>
            obtain ⟨p, rfl⟩ := isI_of hx
            cases hy : isI y with
            | false =>
              have hy' : (isT .int y && !isT .bool y) = false := hy
              rw [hy'] at i2
              have ei : isR (.tuple [.int p, y]) = false := by
                cases y <;> first | rfl | (exact Bool.noConfusion hy)
              rw [ei]
              simp [m_p_is_ratio, eb, rb, er, es, sSeq, sIf, sRet, sSet, sSetN, setS, setN, sExpr, sTup, setAll, evD, cVar, opd, resolve, cP1, cP2, cPN, cList, resolves, cTup, cLst, cFrz, cBoxN, cBoxV, cTru, truth, toB, cAnd, cOr, cNot, cAndV, cOrV, cNotV, cIf, cCh, fAdd, fSub, fCmpI, fNeg, fIsi, isT, fI, f1, f2, fLen, fInt, fTupleOf, fIx, cCall, doCall, cCallK, kwOrd, runF, exitF, Ob.data, sRaise, cNewL, modSlot, gPut, sPut, isLst, sAug, sAugIx, augF.fAugAdd, fGet, gApp, cApp, b2i, fAbs_v, fGcd_v, fEqI_v, fNeI_v, a0, a1, i1, i2]
            | true =>
              obtain ⟨q, rfl⟩ := isI_of hy
              by_cases hq : q < 1
              · have ei : isR (.tuple [.int p, .int q]) = false := by
                  have : ¬ (1 ≤ q) := by omega
                  simp [isR, this]
                rw [ei]
                simp [m_p_is_ratio, eb, rb, er, es, sSeq, sIf, sRet, sSet, sSetN, setS, setN, sExpr, sTup, setAll, evD, cVar, opd, resolve, cP1, cP2, cPN, cList, resolves, cTup, cLst, cFrz, cBoxN, cBoxV, cTru, truth, toB, cAnd, cOr, cNot, cAndV, cOrV, cNotV, cIf, cCh, fAdd, fSub, fCmpI, fNeg, fIsi, isT, fI, f1, f2, fLen, fInt, fTupleOf, fIx, cCall, doCall, cCallK, kwOrd, runF, exitF, Ob.data, sRaise, cNewL, modSlot, gPut, sPut, isLst, sAug, sAugIx, augF.fAugAdd, fGet, gApp, cApp, b2i, fAbs_v, fGcd_v, fEqI_v, fNeI_v, a0, a1, i1, i2, hq]
              · have ei : isR (.tuple [.int p, .int q]) = decide (gd p q = 1) := by
                  have : 1 ≤ q := by omega
                  simp [isR, this]
                rw [ei]
                simp [m_p_is_ratio, eb, rb, er, es, sSeq, sIf, sRet, sSet, sSetN, setS, setN, sExpr, sTup, setAll, evD, cVar, opd, resolve, cP1, cP2, cPN, cList, resolves, cTup, cLst, cFrz, cBoxN, cBoxV, cTru, truth, toB, cAnd, cOr, cNot, cAndV, cOrV, cNotV, cIf, cCh, fAdd, fSub, fCmpI, fNeg, fIsi, isT, fI, f1, f2, fLen, fInt, fTupleOf, fIx, cCall, doCall, cCallK, kwOrd, runF, exitF, Ob.data, sRaise, cNewL, modSlot, gPut, sPut, isLst, sAug, sAugIx, augF.fAugAdd, fGet, gApp, cApp, b2i, fAbs_v, fGcd_v, fEqI_v, fNeI_v, a0, a1, i1, i2, hq]
  | _ => simp [m_p_is_ratio, eb, rb, er, es, sSeq, sIf, sRet, sSet, sSetN, setS, setN, sExpr, sTup, setAll, evD, cVar, opd, resolve, cP1, cP2, cPN, cList, resolves, cTup, cLst, cFrz, cBoxN, cBoxV, cTru, truth, toB, cAnd, cOr, cNot, cAndV, cOrV, cNotV, cIf, cCh, fAdd, fSub, fCmpI, fNeg, fIsi, isT, fI, f1, f2, fLen, fInt, fTupleOf, fIx, cCall, doCall, cCallK, kwOrd, runF, exitF, Ob.data, sRaise, cNewL, modSlot, gPut, sPut, isLst, sAug, sAugIx, augF.fAugAdd, fGet, gApp, cApp, b2i, fAbs_v, fGcd_v, fEqI_v, fNeI_v, isR]
theorem v_need_t (k : Nat) (mem : List Box) {d : PyData} (h : isR d = true) : evalF g (k + 3) "need_ratio" [.d d] mem = .ok (.d .none) ⟨[], mem⟩ := by
  rw [e_p_need_ratio]
  have i := v_is_ratio k mem d
  rw [h] at i
  simp [m_p_need_ratio, eb, rb, er, es, sSeq, sIf, sRet, sSet, sSetN, setS, setN, sExpr, sTup, setAll, evD, cVar, opd, resolve, cP1, cP2, cPN, cList, resolves, cTup, cLst, cFrz, cBoxN, cBoxV, cTru, truth, toB, cAnd, cOr, cNot, cAndV, cOrV, cNotV, cIf, cCh, fAdd, fSub, fCmpI, fNeg, fIsi, isT, fI, f1, f2, fLen, fInt, fTupleOf, fIx, cCall, doCall, cCallK, kwOrd, runF, exitF, Ob.data, sRaise, cNewL, modSlot, gPut, sPut, isLst, sAug, sAugIx, augF.fAugAdd, fGet, gApp, cApp, b2i, fAbs_v, fGcd_v, fEqI_v, fNeI_v, i]
theorem v_need_f (k : Nat) (mem : List Box) {d : PyData} (h : isR d = false) : evalF g (k + 3) "need_ratio" [.d d] mem = .raise ⟨"BadRatio", []⟩ ⟨[], mem⟩ := by
  rw [e_p_need_ratio]
  have i := v_is_ratio k mem d
  rw [h] at i
  simp [m_p_need_ratio, eb, rb, er, es, sSeq, sIf, sRet, sSet, sSetN, setS, setN, sExpr, sTup, setAll, evD, cVar, opd, resolve, cP1, cP2, cPN, cList, resolves, cTup, cLst, cFrz, cBoxN, cBoxV, cTru, truth, toB, cAnd, cOr, cNot, cAndV, cOrV, cNotV, cIf, cCh, fAdd, fSub, fCmpI, fNeg, fIsi, isT, fI, f1, f2, fLen, fInt, fTupleOf, fIx, cCall, doCall, cCallK, kwOrd, runF, exitF, Ob.data, sRaise, cNewL, modSlot, gPut, sPut, isLst, sAug, sAugIx, augF.fAugAdd, fGet, gApp, cApp, b2i, fAbs_v, fGcd_v, fEqI_v, fNeI_v, i]
/-! ### the operations -/
/-- in lowest terms, as data -/
def low (t b : Int) : PyData := .tuple [.int ((if b < 0 then -t else t) / gd t b), .int ((if b < 0 then -b else b) / gd t b)]
def okB (b : Int) : Prop := b ≠ 0 ∧ Sb 700 b
theorem gd_pos {t b : Int} (h : okB b) : 0 < gd t b := by
  unfold gd
  have := Nat.gcd_pos_of_pos_right t.natAbs (n := b.natAbs) (Int.natAbs_pos.mpr h.1)
  omega
theorem gd_le {t b : Int} (h : okB b) : (gd t b).natAbs.log2 < 9000 := by
  have l : gd t b ≤ b.natAbs := by
    unfold gd
    have := Nat.gcd_le_right t.natAbs (n := b.natAbs) (Int.natAbs_pos.mpr h.1)
    omega
  have p := gd_pos (t := t) h
  have s : Sb (699 + 1) (gd t b) := by
    have := h.2
    unfold Sb at *
    omega
  have := s.log
  omega
theorem low_v (k : Nat) (mem : List Box) {t b : Int} (h : okB b) : evalF g (k + 1) "lowest" [.d (.int t), .d (.int b)] mem = .ok (.d (low t b)) ⟨[], mem⟩ := v_lowest k mem t b (gd_pos h) (gd_le h)
theorem llow_v (k : Nat) (mem : List Box) {t b : Int} (h : okB b) : evalF g (k + 2) "_law_lowest" [.d (.int t), .d (.int b)] mem = .ok (.d (low t b)) ⟨[], mem⟩ := v_llowest k mem t b (gd_pos h) (gd_le h)
end MP
namespace MP
open PySem PySem.Spec PyProof.Rows L2
structure Rt (p q : Int) : Prop where
  one : 1 ≤ q
  gcd : gd p q = 1
  sp : Sb 330 p
  sq : Sb 330 q
abbrev rt (p q : Int) : PyData := .tuple [.int p, .int q]
theorem Rt.isR {p q : Int} (h : Rt p q) : isR (rt p q) = true := by
  show (decide (1 ≤ q) && decide (gd p q = 1)) = true
  rw [decide_eq_true h.one, decide_eq_true h.gcd]; rfl
theorem Rt.mul {x y : Int} (h : Sb 330 x) (h2 : Sb 330 y) : fMul (.int x) (.int y) = some (.int (x * y)) := fMul_v (Sb.mulOk (m := 329) (n := 329) h h2 (by decide))
theorem at0 {α : Type} (x y : α) : atI [x, y] 0 = some x := rfl
theorem at1 {α : Type} (x y : α) : atI [x, y] 1 = some y := rfl
theorem Rt.okB {p q r s : Int} (h : Rt p q) (h2 : Rt r s) : okB (q * s) := ⟨Int.mul_ne_zero (by have := h.one; omega) (by have := h2.one; omega), (h.sq.mul h2.sq).mono (by decide)⟩
theorem Rt.okQ {p q r s : Int} (h : Rt p q) (h2 : Rt r s) (h0 : r ≠ 0) : MP.okB (q * r) := ⟨Int.mul_ne_zero (by have := h.one; omega) h0, (h.sq.mul h2.sp).mono (by decide)⟩
section
variable {p q r s : Int} (k : Nat) (mem : List Box)
theorem v_plus (h : Rt p q) (h2 : Rt r s) : evalF g (k + 4) "plus" [.d (rt p q), .d (rt r s)] mem = .ok (.d (low (p * s + r * q) (q * s))) ⟨[], mem⟩ := by
  have n1 := v_need_t k mem h.isR
  have n2 := v_need_t k mem h2.isR
  have l := low_v (k + 2) mem (t := p * s + r * q) (h.okB h2)
  rw [e_p_plus]
  simp [m_p_plus, eb, rb, er, es, sSeq, sIf, sRet, sSet, sSetN, setS, setN, sExpr, sTup, setAll, evD, cVar, opd, resolve, cP1, cP2, cPN, cList, resolves, cTup, cLst, cFrz, cBoxN, cBoxV, cTru, truth, toB, cAnd, cOr, cNot, cAndV, cOrV, cNotV, cIf, cCh, fAdd, fSub, fCmpI, fNeg, fIsi, isT, fI, f1, f2, fLen, fInt, fTupleOf, fIx, cCall, doCall, cCallK, kwOrd, runF, exitF, Ob.data, sRaise, cNewL, modSlot, gPut, sPut, isLst, sAug, sAugIx, augF.fAugAdd, fGet, gApp, cApp, b2i, fAbs_v, fGcd_v, fEqI_v, fNeI_v, n1, n2, at0, at1, Rt.mul h.sp h2.sq, Rt.mul h2.sp h.sq, Rt.mul h.sq h2.sq, l]
theorem v_minus (h : Rt p q) (h2 : Rt r s) : evalF g (k + 4) "minus" [.d (rt p q), .d (rt r s)] mem = .ok (.d (low (p * s - r * q) (q * s))) ⟨[], mem⟩ := by
  have n1 := v_need_t k mem h.isR
  have n2 := v_need_t k mem h2.isR
  have l := low_v (k + 2) mem (t := p * s - r * q) (h.okB h2)
  rw [e_p_minus]
  simp [m_p_minus, eb, rb, er, es, sSeq, sIf, sRet, sSet, sSetN, setS, setN, sExpr, sTup, setAll, evD, cVar, opd, resolve, cP1, cP2, cPN, cList, resolves, cTup, cLst, cFrz, cBoxN, cBoxV, cTru, truth, toB, cAnd, cOr, cNot, cAndV, cOrV, cNotV, cIf, cCh, fAdd, fSub, fCmpI, fNeg, fIsi, isT, fI, f1, f2, fLen, fInt, fTupleOf, fIx, cCall, doCall, cCallK, kwOrd, runF, exitF, Ob.data, sRaise, cNewL, modSlot, gPut, sPut, isLst, sAug, sAugIx, augF.fAugAdd, fGet, gApp, cApp, b2i, fAbs_v, fGcd_v, fEqI_v, fNeI_v, n1, n2, at0, at1, Rt.mul h.sp h2.sq, Rt.mul h2.sp h.sq, Rt.mul h.sq h2.sq, l]
theorem v_product (h : Rt p q) (h2 : Rt r s) : evalF g (k + 4) "product" [.d (rt p q), .d (rt r s)] mem = .ok (.d (low (p * r) (q * s))) ⟨[], mem⟩ := by
  have n1 := v_need_t k mem h.isR
  have n2 := v_need_t k mem h2.isR
  have l := low_v (k + 2) mem (t := p * r) (h.okB h2)
  rw [e_p_product]
  simp [m_p_product, eb, rb, er, es, sSeq, sIf, sRet, sSet, sSetN, setS, setN, sExpr, sTup, setAll, evD, cVar, opd, resolve, cP1, cP2, cPN, cList, resolves, cTup, cLst, cFrz, cBoxN, cBoxV, cTru, truth, toB, cAnd, cOr, cNot, cAndV, cOrV, cNotV, cIf, cCh, fAdd, fSub, fCmpI, fNeg, fIsi, isT, fI, f1, f2, fLen, fInt, fTupleOf, fIx, cCall, doCall, cCallK, kwOrd, runF, exitF, Ob.data, sRaise, cNewL, modSlot, gPut, sPut, isLst, sAug, sAugIx, augF.fAugAdd, fGet, gApp, cApp, b2i, fAbs_v, fGcd_v, fEqI_v, fNeI_v, n1, n2, at0, at1, Rt.mul h.sp h2.sp, Rt.mul h.sq h2.sq, l]
theorem v_quotient (h : Rt p q) (h2 : Rt r s) (h0 : r ≠ 0) : evalF g (k + 4) "quotient" [.d (rt p q), .d (rt r s)] mem = .ok (.d (low (p * s) (q * r))) ⟨[], mem⟩ := by
  have n1 := v_need_t k mem h.isR
  have n2 := v_need_t k mem h2.isR
  have l := low_v (k + 2) mem (t := p * s) (h.okQ h2 h0)
  rw [e_p_quotient]
  simp [m_p_quotient, eb, rb, er, es, sSeq, sIf, sRet, sSet, sSetN, setS, setN, sExpr, sTup, setAll, evD, cVar, opd, resolve, cP1, cP2, cPN, cList, resolves, cTup, cLst, cFrz, cBoxN, cBoxV, cTru, truth, toB, cAnd, cOr, cNot, cAndV, cOrV, cNotV, cIf, cCh, fAdd, fSub, fCmpI, fNeg, fIsi, isT, fI, f1, f2, fLen, fInt, fTupleOf, fIx, cCall, doCall, cCallK, kwOrd, runF, exitF, Ob.data, sRaise, cNewL, modSlot, gPut, sPut, isLst, sAug, sAugIx, augF.fAugAdd, fGet, gApp, cApp, b2i, fAbs_v, fGcd_v, fEqI_v, fNeI_v, n1, n2, at0, at1, h0, Rt.mul h.sp h2.sq, Rt.mul h.sq h2.sp, l]
theorem v_quotient0 (h : Rt p q) (h2 : Rt 0 s) : evalF g (k + 4) "quotient" [.d (rt p q), .d (rt 0 s)] mem = .raise ⟨"ZeroBottom", []⟩ ⟨[], mem⟩ := by
  have n1 := v_need_t k mem h.isR
  have n2 := v_need_t k mem h2.isR
  rw [e_p_quotient]
  simp [m_p_quotient, eb, rb, er, es, sSeq, sIf, sRet, sSet, sSetN, setS, setN, sExpr, sTup, setAll, evD, cVar, opd, resolve, cP1, cP2, cPN, cList, resolves, cTup, cLst, cFrz, cBoxN, cBoxV, cTru, truth, toB, cAnd, cOr, cNot, cAndV, cOrV, cNotV, cIf, cCh, fAdd, fSub, fCmpI, fNeg, fIsi, isT, fI, f1, f2, fLen, fInt, fTupleOf, fIx, cCall, doCall, cCallK, kwOrd, runF, exitF, Ob.data, sRaise, cNewL, modSlot, gPut, sPut, isLst, sAug, sAugIx, augF.fAugAdd, fGet, gApp, cApp, b2i, fAbs_v, fGcd_v, fEqI_v, fNeI_v, n1, n2, at0, at1]
theorem v_below (h : Rt p q) (h2 : Rt r s) : evalF g (k + 4) "below" [.d (rt p q), .d (rt r s)] mem = .ok (.d (.bool (decide (p * s < r * q)))) ⟨[], mem⟩ := by
  have n1 := v_need_t k mem h.isR
  have n2 := v_need_t k mem h2.isR
  rw [e_p_below]
  simp [m_p_below, eb, rb, er, es, sSeq, sIf, sRet, sSet, sSetN, setS, setN, sExpr, sTup, setAll, evD, cVar, opd, resolve, cP1, cP2, cPN, cList, resolves, cTup, cLst, cFrz, cBoxN, cBoxV, cTru, truth, toB, cAnd, cOr, cNot, cAndV, cOrV, cNotV, cIf, cCh, fAdd, fSub, fCmpI, fNeg, fIsi, isT, fI, f1, f2, fLen, fInt, fTupleOf, fIx, cCall, doCall, cCallK, kwOrd, runF, exitF, Ob.data, sRaise, cNewL, modSlot, gPut, sPut, isLst, sAug, sAugIx, augF.fAugAdd, fGet, gApp, cApp, b2i, fAbs_v, fGcd_v, fEqI_v, fNeI_v, n1, n2, at0, at1, Rt.mul h.sp h2.sq, Rt.mul h2.sp h.sq]
theorem v_ratio {t b : Int} (h : MP.okB b) : evalF g (k + 2) "ratio" [.d (.int t), .d (.int b)] mem = .ok (.d (low t b)) ⟨[], mem⟩ := by
  have l := low_v k mem (t := t) h
  have h0 := h.1
  rw [e_p_ratio]
  simp [m_p_ratio, eb, rb, er, es, sSeq, sIf, sRet, sSet, sSetN, setS, setN, sExpr, sTup, setAll, evD, cVar, opd, resolve, cP1, cP2, cPN, cList, resolves, cTup, cLst, cFrz, cBoxN, cBoxV, cTru, truth, toB, cAnd, cOr, cNot, cAndV, cOrV, cNotV, cIf, cCh, fAdd, fSub, fCmpI, fNeg, fIsi, isT, fI, f1, f2, fLen, fInt, fTupleOf, fIx, cCall, doCall, cCallK, kwOrd, runF, exitF, Ob.data, sRaise, cNewL, modSlot, gPut, sPut, isLst, sAug, sAugIx, augF.fAugAdd, fGet, gApp, cApp, b2i, fAbs_v, fGcd_v, fEqI_v, fNeI_v, h0, l]
theorem v_ratio0 {t : Int} : evalF g (k + 2) "ratio" [.d (.int t), .d (.int 0)] mem = .raise ⟨"ZeroBottom", []⟩ ⟨[], mem⟩ := by
  rw [e_p_ratio]
  simp [m_p_ratio, eb, rb, er, es, sSeq, sIf, sRet, sSet, sSetN, setS, setN, sExpr, sTup, setAll, evD, cVar, opd, resolve, cP1, cP2, cPN, cList, resolves, cTup, cLst, cFrz, cBoxN, cBoxV, cTru, truth, toB, cAnd, cOr, cNot, cAndV, cOrV, cNotV, cIf, cCh, fAdd, fSub, fCmpI, fNeg, fIsi, isT, fI, f1, f2, fLen, fInt, fTupleOf, fIx, cCall, doCall, cCallK, kwOrd, runF, exitF, Ob.data, sRaise, cNewL, modSlot, gPut, sPut, isLst, sAug, sAugIx, augF.fAugAdd, fGet, gApp, cApp, b2i, fAbs_v, fGcd_v, fEqI_v, fNeI_v]
/-- no ratio comes in -/
theorem v_bad1 {d e : PyData} (h : MP.isR d = false) : evalF g (k + 4) "plus" [.d d, .d e] mem = .raise ⟨"BadRatio", []⟩ ⟨[], mem⟩ ∧ evalF g (k + 4) "minus" [.d d, .d e] mem = .raise ⟨"BadRatio", []⟩ ⟨[], mem⟩ ∧ evalF g (k + 4) "product" [.d d, .d e] mem = .raise ⟨"BadRatio", []⟩ ⟨[], mem⟩ ∧
    evalF g (k + 4) "quotient" [.d d, .d e] mem = .raise ⟨"BadRatio", []⟩ ⟨[], mem⟩ ∧ evalF g (k + 4) "below" [.d d, .d e] mem = .raise ⟨"BadRatio", []⟩ ⟨[], mem⟩ := by
  have n1 := v_need_f k mem h
  refine ⟨?_, ?_, ?_, ?_, ?_⟩
  · rw [e_p_plus]; simp [m_p_plus, eb, rb, er, es, sSeq, sIf, sRet, sSet, sSetN, setS, setN, sExpr, sTup, setAll, evD, cVar, opd, resolve, cP1, cP2, cPN, cList, resolves, cTup, cLst, cFrz, cBoxN, cBoxV, cTru, truth, toB, cAnd, cOr, cNot, cAndV, cOrV, cNotV, cIf, cCh, fAdd, fSub, fCmpI, fNeg, fIsi, isT, fI, f1, f2, fLen, fInt, fTupleOf, fIx, cCall, doCall, cCallK, kwOrd, runF, exitF, Ob.data, sRaise, cNewL, modSlot, gPut, sPut, isLst, sAug, sAugIx, augF.fAugAdd, fGet, gApp, cApp, b2i, fAbs_v, fGcd_v, fEqI_v, fNeI_v, n1]
  · rw [e_p_minus]; simp [m_p_minus, eb, rb, er, es, sSeq, sIf, sRet, sSet, sSetN, setS, setN, sExpr, sTup, setAll, evD, cVar, opd, resolve, cP1, cP2, cPN, cList, resolves, cTup, cLst, cFrz, cBoxN, cBoxV, cTru, truth, toB, cAnd, cOr, cNot, cAndV, cOrV, cNotV, cIf, cCh, fAdd, fSub, fCmpI, fNeg, fIsi, isT, fI, f1, f2, fLen, fInt, fTupleOf, fIx, cCall, doCall, cCallK, kwOrd, runF, exitF, Ob.data, sRaise, cNewL, modSlot, gPut, sPut, isLst, sAug, sAugIx, augF.fAugAdd, fGet, gApp, cApp, b2i, fAbs_v, fGcd_v, fEqI_v, fNeI_v, n1]
  · rw [e_p_product]; simp [m_p_product, eb, rb, er, es, sSeq, sIf, sRet, sSet, sSetN, setS, setN, sExpr, sTup, setAll, evD, cVar, opd, resolve, cP1, cP2, cPN, cList, resolves, cTup, cLst, cFrz, cBoxN, cBoxV, cTru, truth, toB, cAnd, cOr, cNot, cAndV, cOrV, cNotV, cIf, cCh, fAdd, fSub, fCmpI, fNeg, fIsi, isT, fI, f1, f2, fLen, fInt, fTupleOf, fIx, cCall, doCall, cCallK, kwOrd, runF, exitF, Ob.data, sRaise, cNewL, modSlot, gPut, sPut, isLst, sAug, sAugIx, augF.fAugAdd, fGet, gApp, cApp, b2i, fAbs_v, fGcd_v, fEqI_v, fNeI_v, n1]
  · rw [e_p_quotient]; simp [m_p_quotient, eb, rb, er, es, sSeq, sIf, sRet, sSet, sSetN, setS, setN, sExpr, sTup, setAll, evD, cVar, opd, resolve, cP1, cP2, cPN, cList, resolves, cTup, cLst, cFrz, cBoxN, cBoxV, cTru, truth, toB, cAnd, cOr, cNot, cAndV, cOrV, cNotV, cIf, cCh, fAdd, fSub, fCmpI, fNeg, fIsi, isT, fI, f1, f2, fLen, fInt, fTupleOf, fIx, cCall, doCall, cCallK, kwOrd, runF, exitF, Ob.data, sRaise, cNewL, modSlot, gPut, sPut, isLst, sAug, sAugIx, augF.fAugAdd, fGet, gApp, cApp, b2i, fAbs_v, fGcd_v, fEqI_v, fNeI_v, n1]
  · rw [e_p_below]; simp [m_p_below, eb, rb, er, es, sSeq, sIf, sRet, sSet, sSetN, setS, setN, sExpr, sTup, setAll, evD, cVar, opd, resolve, cP1, cP2, cPN, cList, resolves, cTup, cLst, cFrz, cBoxN, cBoxV, cTru, truth, toB, cAnd, cOr, cNot, cAndV, cOrV, cNotV, cIf, cCh, fAdd, fSub, fCmpI, fNeg, fIsi, isT, fI, f1, f2, fLen, fInt, fTupleOf, fIx, cCall, doCall, cCallK, kwOrd, runF, exitF, Ob.data, sRaise, cNewL, modSlot, gPut, sPut, isLst, sAug, sAugIx, augF.fAugAdd, fGet, gApp, cApp, b2i, fAbs_v, fGcd_v, fEqI_v, fNeI_v, n1]
theorem v_bad2 {d e : PyData} (h0 : MP.isR d = true) (h : MP.isR e = false) : evalF g (k + 4) "plus" [.d d, .d e] mem = .raise ⟨"BadRatio", []⟩ ⟨[], mem⟩ ∧ evalF g (k + 4) "minus" [.d d, .d e] mem = .raise ⟨"BadRatio", []⟩ ⟨[], mem⟩ ∧ evalF g (k + 4) "product" [.d d, .d e] mem = .raise ⟨"BadRatio", []⟩ ⟨[], mem⟩ ∧
    evalF g (k + 4) "quotient" [.d d, .d e] mem = .raise ⟨"BadRatio", []⟩ ⟨[], mem⟩ ∧ evalF g (k + 4) "below" [.d d, .d e] mem = .raise ⟨"BadRatio", []⟩ ⟨[], mem⟩ := by
  have n1 := v_need_t k mem h0
  have n2 := v_need_f k mem h
  refine ⟨?_, ?_, ?_, ?_, ?_⟩
  · rw [e_p_plus]; simp [m_p_plus, eb, rb, er, es, sSeq, sIf, sRet, sSet, sSetN, setS, setN, sExpr, sTup, setAll, evD, cVar, opd, resolve, cP1, cP2, cPN, cList, resolves, cTup, cLst, cFrz, cBoxN, cBoxV, cTru, truth, toB, cAnd, cOr, cNot, cAndV, cOrV, cNotV, cIf, cCh, fAdd, fSub, fCmpI, fNeg, fIsi, isT, fI, f1, f2, fLen, fInt, fTupleOf, fIx, cCall, doCall, cCallK, kwOrd, runF, exitF, Ob.data, sRaise, cNewL, modSlot, gPut, sPut, isLst, sAug, sAugIx, augF.fAugAdd, fGet, gApp, cApp, b2i, fAbs_v, fGcd_v, fEqI_v, fNeI_v, n1, n2]
  · rw [e_p_minus]; simp [m_p_minus, eb, rb, er, es, sSeq, sIf, sRet, sSet, sSetN, setS, setN, sExpr, sTup, setAll, evD, cVar, opd, resolve, cP1, cP2, cPN, cList, resolves, cTup, cLst, cFrz, cBoxN, cBoxV, cTru, truth, toB, cAnd, cOr, cNot, cAndV, cOrV, cNotV, cIf, cCh, fAdd, fSub, fCmpI, fNeg, fIsi, isT, fI, f1, f2, fLen, fInt, fTupleOf, fIx, cCall, doCall, cCallK, kwOrd, runF, exitF, Ob.data, sRaise, cNewL, modSlot, gPut, sPut, isLst, sAug, sAugIx, augF.fAugAdd, fGet, gApp, cApp, b2i, fAbs_v, fGcd_v, fEqI_v, fNeI_v, n1, n2]
  · rw [e_p_product]; simp [m_p_product, eb, rb, er, es, sSeq, sIf, sRet, sSet, sSetN, setS, setN, sExpr, sTup, setAll, evD, cVar, opd, resolve, cP1, cP2, cPN, cList, resolves, cTup, cLst, cFrz, cBoxN, cBoxV, cTru, truth, toB, cAnd, cOr, cNot, cAndV, cOrV, cNotV, cIf, cCh, fAdd, fSub, fCmpI, fNeg, fIsi, isT, fI, f1, f2, fLen, fInt, fTupleOf, fIx, cCall, doCall, cCallK, kwOrd, runF, exitF, Ob.data, sRaise, cNewL, modSlot, gPut, sPut, isLst, sAug, sAugIx, augF.fAugAdd, fGet, gApp, cApp, b2i, fAbs_v, fGcd_v, fEqI_v, fNeI_v, n1, n2]
  · rw [e_p_quotient]; simp [m_p_quotient, eb, rb, er, es, sSeq, sIf, sRet, sSet, sSetN, setS, setN, sExpr, sTup, setAll, evD, cVar, opd, resolve, cP1, cP2, cPN, cList, resolves, cTup, cLst, cFrz, cBoxN, cBoxV, cTru, truth, toB, cAnd, cOr, cNot, cAndV, cOrV, cNotV, cIf, cCh, fAdd, fSub, fCmpI, fNeg, fIsi, isT, fI, f1, f2, fLen, fInt, fTupleOf, fIx, cCall, doCall, cCallK, kwOrd, runF, exitF, Ob.data, sRaise, cNewL, modSlot, gPut, sPut, isLst, sAug, sAugIx, augF.fAugAdd, fGet, gApp, cApp, b2i, fAbs_v, fGcd_v, fEqI_v, fNeI_v, n1, n2]
  · rw [e_p_below]; simp [m_p_below, eb, rb, er, es, sSeq, sIf, sRet, sSet, sSetN, setS, setN, sExpr, sTup, setAll, evD, cVar, opd, resolve, cP1, cP2, cPN, cList, resolves, cTup, cLst, cFrz, cBoxN, cBoxV, cTru, truth, toB, cAnd, cOr, cNot, cAndV, cOrV, cNotV, cIf, cCh, fAdd, fSub, fCmpI, fNeg, fIsi, isT, fI, f1, f2, fLen, fInt, fTupleOf, fIx, cCall, doCall, cCallK, kwOrd, runF, exitF, Ob.data, sRaise, cNewL, modSlot, gPut, sPut, isLst, sAug, sAugIx, augF.fAugAdd, fGet, gApp, cApp, b2i, fAbs_v, fGcd_v, fEqI_v, fNeI_v, n1, n2]
/-! ### called, named, due -/
/-- the five picks: what the program answers, at the def's own level -/
def pickF (i : Int) : Str := if i = 0 then "plus" else if i = 1 then "minus" else if i = 2 then "product" else if i = 3 then "quotient" else if i = 4 then "below" else "ratio"
theorem v_called (i : Int) (d e : PyData) : evalF g (k + 5) "_law_called" [.d (.int i), .d d, .d e] mem = (match evalF g (k + 4) (pickF i) [.d d, .d e] mem with
    | .ok (.d x) s => .ok (.d x) ⟨[], s.mem.take mem.length⟩
    | .ok (.ref b) s => .ok (.ref b) ⟨[], s.mem⟩
    | .raise x s => .raise x ⟨[], s.mem.take mem.length⟩
    | _ => .stuck) := by
  rw [e_lcalled]
  by_cases c0 : i = 0
  · subst c0; simp [m_lcalled, eb, rb, er, es, sSeq, sIf, sRet, sSet, sSetN, setS, setN, sExpr, sTup, setAll, evD, cVar, opd, resolve, cP1, cP2, cPN, cList, resolves, cTup, cLst, cFrz, cBoxN, cBoxV, cTru, truth, toB, cAnd, cOr, cNot, cAndV, cOrV, cNotV, cIf, cCh, fAdd, fSub, fCmpI, fNeg, fIsi, isT, fI, f1, f2, fLen, fInt, fTupleOf, fIx, cCall, doCall, cCallK, kwOrd, runF, exitF, Ob.data, sRaise, cNewL, modSlot, gPut, sPut, isLst, sAug, sAugIx, augF.fAugAdd, fGet, gApp, cApp, b2i, fAbs_v, fGcd_v, fEqI_v, fNeI_v, pickF]; cases evalF g (k + 4) _ _ _ with
    | ok w s => cases w <;> rfl
    | _ => rfl
  by_cases c1 : i = 1
  · subst c1; simp [m_lcalled, eb, rb, er, es, sSeq, sIf, sRet, sSet, sSetN, setS, setN, sExpr, sTup, setAll, evD, cVar, opd, resolve, cP1, cP2, cPN, cList, resolves, cTup, cLst, cFrz, cBoxN, cBoxV, cTru, truth, toB, cAnd, cOr, cNot, cAndV, cOrV, cNotV, cIf, cCh, fAdd, fSub, fCmpI, fNeg, fIsi, isT, fI, f1, f2, fLen, fInt, fTupleOf, fIx, cCall, doCall, cCallK, kwOrd, runF, exitF, Ob.data, sRaise, cNewL, modSlot, gPut, sPut, isLst, sAug, sAugIx, augF.fAugAdd, fGet, gApp, cApp, b2i, fAbs_v, fGcd_v, fEqI_v, fNeI_v, pickF]; cases evalF g (k + 4) _ _ _ with
    | ok w s => cases w <;> rfl
    | _ => rfl
  by_cases c2 : i = 2
  · subst c2; simp [m_lcalled, eb, rb, er, es, sSeq, sIf, sRet, sSet, sSetN, setS, setN, sExpr, sTup, setAll, evD, cVar, opd, resolve, cP1, cP2, cPN, cList, resolves, cTup, cLst, cFrz, cBoxN, cBoxV, cTru, truth, toB, cAnd, cOr, cNot, cAndV, cOrV, cNotV, cIf, cCh, fAdd, fSub, fCmpI, fNeg, fIsi, isT, fI, f1, f2, fLen, fInt, fTupleOf, fIx, cCall, doCall, cCallK, kwOrd, runF, exitF, Ob.data, sRaise, cNewL, modSlot, gPut, sPut, isLst, sAug, sAugIx, augF.fAugAdd, fGet, gApp, cApp, b2i, fAbs_v, fGcd_v, fEqI_v, fNeI_v, pickF]; cases evalF g (k + 4) _ _ _ with
    | ok w s => cases w <;> rfl
    | _ => rfl
  by_cases c3 : i = 3
  · subst c3; simp [m_lcalled, eb, rb, er, es, sSeq, sIf, sRet, sSet, sSetN, setS, setN, sExpr, sTup, setAll, evD, cVar, opd, resolve, cP1, cP2, cPN, cList, resolves, cTup, cLst, cFrz, cBoxN, cBoxV, cTru, truth, toB, cAnd, cOr, cNot, cAndV, cOrV, cNotV, cIf, cCh, fAdd, fSub, fCmpI, fNeg, fIsi, isT, fI, f1, f2, fLen, fInt, fTupleOf, fIx, cCall, doCall, cCallK, kwOrd, runF, exitF, Ob.data, sRaise, cNewL, modSlot, gPut, sPut, isLst, sAug, sAugIx, augF.fAugAdd, fGet, gApp, cApp, b2i, fAbs_v, fGcd_v, fEqI_v, fNeI_v, pickF]; cases evalF g (k + 4) _ _ _ with
    | ok w s => cases w <;> rfl
    | _ => rfl
  by_cases c4 : i = 4
  · subst c4; simp [m_lcalled, eb, rb, er, es, sSeq, sIf, sRet, sSet, sSetN, setS, setN, sExpr, sTup, setAll, evD, cVar, opd, resolve, cP1, cP2, cPN, cList, resolves, cTup, cLst, cFrz, cBoxN, cBoxV, cTru, truth, toB, cAnd, cOr, cNot, cAndV, cOrV, cNotV, cIf, cCh, fAdd, fSub, fCmpI, fNeg, fIsi, isT, fI, f1, f2, fLen, fInt, fTupleOf, fIx, cCall, doCall, cCallK, kwOrd, runF, exitF, Ob.data, sRaise, cNewL, modSlot, gPut, sPut, isLst, sAug, sAugIx, augF.fAugAdd, fGet, gApp, cApp, b2i, fAbs_v, fGcd_v, fEqI_v, fNeI_v, pickF]; cases evalF g (k + 4) _ _ _ with
    | ok w s => cases w <;> rfl
    | _ => rfl
  · simp [m_lcalled, eb, rb, er, es, sSeq, sIf, sRet, sSet, sSetN, setS, setN, sExpr, sTup, setAll, evD, cVar, opd, resolve, cP1, cP2, cPN, cList, resolves, cTup, cLst, cFrz, cBoxN, cBoxV, cTru, truth, toB, cAnd, cOr, cNot, cAndV, cOrV, cNotV, cIf, cCh, fAdd, fSub, fCmpI, fNeg, fIsi, isT, fI, f1, f2, fLen, fInt, fTupleOf, fIx, cCall, doCall, cCallK, kwOrd, runF, exitF, Ob.data, sRaise, cNewL, modSlot, gPut, sPut, isLst, sAug, sAugIx, augF.fAugAdd, fGet, gApp, cApp, b2i, fAbs_v, fGcd_v, fEqI_v, fNeI_v, pickF, c0, c1, c2, c3, c4]; cases evalF g (k + 4) _ _ _ with
    | ok w s => cases w <;> rfl
    | _ => rfl
end
end MP
namespace MP
open PySem PySem.Spec PyProof.Rows L2
theorem kw_ab {α : Type} (x y : α) : kwOrd ["b", "a"] ["a", "b"] [x, y] = [y, x] := by kernel_rfl
theorem kw_tb {α : Type} (x y : α) : kwOrd ["bottom", "top"] ["top", "bottom"] [x, y] = [y, x] := by kernel_rfl
section
variable {p q r s : Int} (k : Nat) (mem : List Box)
theorem v_named (i : Int) (d e : PyData) : evalF g (k + 5) "_law_named" [.d (.int i), .d d, .d e] mem = (match evalF g (k + 4) (pickF i) [.d d, .d e] mem with
    | .ok (.d x) s => .ok (.d x) ⟨[], s.mem.take mem.length⟩
    | .ok (.ref b) s => .ok (.ref b) ⟨[], s.mem⟩
    | .raise x s => .raise x ⟨[], s.mem.take mem.length⟩
    | _ => .stuck) := by
  rw [e_lnamed]
  by_cases c0 : i = 0
  · subst c0; simp [m_lnamed, eb, rb, er, es, sSeq, sIf, sRet, sSet, sSetN, setS, setN, sExpr, sTup, setAll, evD, cVar, opd, resolve, cP1, cP2, cPN, cList, resolves, cTup, cLst, cFrz, cBoxN, cBoxV, cTru, truth, toB, cAnd, cOr, cNot, cAndV, cOrV, cNotV, cIf, cCh, fAdd, fSub, fCmpI, fNeg, fIsi, isT, fI, f1, f2, fLen, fInt, fTupleOf, fIx, cCall, doCall, cCallK, runF, exitF, Ob.data, sRaise, cNewL, modSlot, gPut, sPut, isLst, sAug, sAugIx, augF.fAugAdd, fGet, gApp, cApp, b2i, fAbs_v, fGcd_v, fEqI_v, fNeI_v, kw_ab, pickF]; cases evalF g (k + 4) _ _ _ with
    | ok w s => cases w <;> rfl
    | _ => rfl
  by_cases c1 : i = 1
  · subst c1; simp [m_lnamed, eb, rb, er, es, sSeq, sIf, sRet, sSet, sSetN, setS, setN, sExpr, sTup, setAll, evD, cVar, opd, resolve, cP1, cP2, cPN, cList, resolves, cTup, cLst, cFrz, cBoxN, cBoxV, cTru, truth, toB, cAnd, cOr, cNot, cAndV, cOrV, cNotV, cIf, cCh, fAdd, fSub, fCmpI, fNeg, fIsi, isT, fI, f1, f2, fLen, fInt, fTupleOf, fIx, cCall, doCall, cCallK, runF, exitF, Ob.data, sRaise, cNewL, modSlot, gPut, sPut, isLst, sAug, sAugIx, augF.fAugAdd, fGet, gApp, cApp, b2i, fAbs_v, fGcd_v, fEqI_v, fNeI_v, kw_ab, pickF]; cases evalF g (k + 4) _ _ _ with
    | ok w s => cases w <;> rfl
    | _ => rfl
  by_cases c2 : i = 2
  · subst c2; simp [m_lnamed, eb, rb, er, es, sSeq, sIf, sRet, sSet, sSetN, setS, setN, sExpr, sTup, setAll, evD, cVar, opd, resolve, cP1, cP2, cPN, cList, resolves, cTup, cLst, cFrz, cBoxN, cBoxV, cTru, truth, toB, cAnd, cOr, cNot, cAndV, cOrV, cNotV, cIf, cCh, fAdd, fSub, fCmpI, fNeg, fIsi, isT, fI, f1, f2, fLen, fInt, fTupleOf, fIx, cCall, doCall, cCallK, runF, exitF, Ob.data, sRaise, cNewL, modSlot, gPut, sPut, isLst, sAug, sAugIx, augF.fAugAdd, fGet, gApp, cApp, b2i, fAbs_v, fGcd_v, fEqI_v, fNeI_v, kw_ab, pickF]; cases evalF g (k + 4) _ _ _ with
    | ok w s => cases w <;> rfl
    | _ => rfl
  by_cases c3 : i = 3
  · subst c3; simp [m_lnamed, eb, rb, er, es, sSeq, sIf, sRet, sSet, sSetN, setS, setN, sExpr, sTup, setAll, evD, cVar, opd, resolve, cP1, cP2, cPN, cList, resolves, cTup, cLst, cFrz, cBoxN, cBoxV, cTru, truth, toB, cAnd, cOr, cNot, cAndV, cOrV, cNotV, cIf, cCh, fAdd, fSub, fCmpI, fNeg, fIsi, isT, fI, f1, f2, fLen, fInt, fTupleOf, fIx, cCall, doCall, cCallK, runF, exitF, Ob.data, sRaise, cNewL, modSlot, gPut, sPut, isLst, sAug, sAugIx, augF.fAugAdd, fGet, gApp, cApp, b2i, fAbs_v, fGcd_v, fEqI_v, fNeI_v, kw_ab, pickF]; cases evalF g (k + 4) _ _ _ with
    | ok w s => cases w <;> rfl
    | _ => rfl
  by_cases c4 : i = 4
  · subst c4; simp [m_lnamed, eb, rb, er, es, sSeq, sIf, sRet, sSet, sSetN, setS, setN, sExpr, sTup, setAll, evD, cVar, opd, resolve, cP1, cP2, cPN, cList, resolves, cTup, cLst, cFrz, cBoxN, cBoxV, cTru, truth, toB, cAnd, cOr, cNot, cAndV, cOrV, cNotV, cIf, cCh, fAdd, fSub, fCmpI, fNeg, fIsi, isT, fI, f1, f2, fLen, fInt, fTupleOf, fIx, cCall, doCall, cCallK, runF, exitF, Ob.data, sRaise, cNewL, modSlot, gPut, sPut, isLst, sAug, sAugIx, augF.fAugAdd, fGet, gApp, cApp, b2i, fAbs_v, fGcd_v, fEqI_v, fNeI_v, kw_ab, pickF]; cases evalF g (k + 4) _ _ _ with
    | ok w s => cases w <;> rfl
    | _ => rfl
  · simp [m_lnamed, eb, rb, er, es, sSeq, sIf, sRet, sSet, sSetN, setS, setN, sExpr, sTup, setAll, evD, cVar, opd, resolve, cP1, cP2, cPN, cList, resolves, cTup, cLst, cFrz, cBoxN, cBoxV, cTru, truth, toB, cAnd, cOr, cNot, cAndV, cOrV, cNotV, cIf, cCh, fAdd, fSub, fCmpI, fNeg, fIsi, isT, fI, f1, f2, fLen, fInt, fTupleOf, fIx, cCall, doCall, cCallK, runF, exitF, Ob.data, sRaise, cNewL, modSlot, gPut, sPut, isLst, sAug, sAugIx, augF.fAugAdd, fGet, gApp, cApp, b2i, fAbs_v, fGcd_v, fEqI_v, fNeI_v, kw_tb, pickF, c0, c1, c2, c3, c4]; cases evalF g (k + 4) _ _ _ with
    | ok w s => cases w <;> rfl
    | _ => rfl
/-- what the pick gives of two ratios -/
def pickT (i p q r s : Int) : Int := if i = 0 then p * s + r * q else if i = 1 then p * s - r * q else if i = 2 then p * r else p * s
def pickB (i p q r s : Int) : Int := if i = 3 then q * r else q * s
theorem v_pick {i : Int} (h : Rt p q) (h2 : Rt r s) (hi : 0 ≤ i) (hi2 : i < 4) (h3 : i = 3 → r ≠ 0) : evalF g (k + 4) (pickF i) [.d (rt p q), .d (rt r s)] mem = .ok (.d (low (pickT i p q r s) (pickB i p q r s))) ⟨[], mem⟩ ∧ okB (pickB i p q r s) := by
  have : i = 0 ∨ i = 1 ∨ i = 2 ∨ i = 3 := by omega
  rcases this with rfl | rfl | rfl | rfl
  · exact ⟨v_plus k mem h h2, h.okB h2⟩
  · exact ⟨v_minus k mem h h2, h.okB h2⟩
  · exact ⟨v_product k mem h h2, h.okB h2⟩
  · exact ⟨v_quotient k mem h h2 (h3 rfl), h.okQ h2 (h3 rfl)⟩
theorem v_due {i : Int} (h : Rt p q) (h2 : Rt r s) (hi : 0 ≤ i) (hi2 : i < 4) (h3 : i = 3 → r ≠ 0) : evalF g (k + 3) "_law_due" [.d (.int i), .d (rt p q), .d (rt r s)] mem = .ok (.d (low (pickT i p q r s) (pickB i p q r s))) ⟨[], mem⟩ := by
  rw [e_ldue]
  have : i = 0 ∨ i = 1 ∨ i = 2 ∨ i = 3 := by omega
  rcases this with rfl | rfl | rfl | rfl
  · have l := llow_v k mem (t := p * s + r * q) (h.okB h2)
    simp [m_ldue, eb, rb, er, es, sSeq, sIf, sRet, sSet, sSetN, setS, setN, sExpr, sTup, setAll, evD, cVar, opd, resolve, cP1, cP2, cPN, cList, resolves, cTup, cLst, cFrz, cBoxN, cBoxV, cTru, truth, toB, cAnd, cOr, cNot, cAndV, cOrV, cNotV, cIf, cCh, fAdd, fSub, fCmpI, fNeg, fIsi, isT, fI, f1, f2, fLen, fInt, fTupleOf, fIx, cCall, doCall, cCallK, runF, exitF, Ob.data, sRaise, cNewL, modSlot, gPut, sPut, isLst, sAug, sAugIx, augF.fAugAdd, fGet, gApp, cApp, b2i, fAbs_v, fGcd_v, fEqI_v, fNeI_v, at0, at1, Rt.mul h.sp h2.sq, Rt.mul h2.sp h.sq, Rt.mul h.sq h2.sq, l, pickT, pickB]
  · have l := llow_v k mem (t := p * s - r * q) (h.okB h2)
    simp [m_ldue, eb, rb, er, es, sSeq, sIf, sRet, sSet, sSetN, setS, setN, sExpr, sTup, setAll, evD, cVar, opd, resolve, cP1, cP2, cPN, cList, resolves, cTup, cLst, cFrz, cBoxN, cBoxV, cTru, truth, toB, cAnd, cOr, cNot, cAndV, cOrV, cNotV, cIf, cCh, fAdd, fSub, fCmpI, fNeg, fIsi, isT, fI, f1, f2, fLen, fInt, fTupleOf, fIx, cCall, doCall, cCallK, runF, exitF, Ob.data, sRaise, cNewL, modSlot, gPut, sPut, isLst, sAug, sAugIx, augF.fAugAdd, fGet, gApp, cApp, b2i, fAbs_v, fGcd_v, fEqI_v, fNeI_v, at0, at1, Rt.mul h.sp h2.sq, Rt.mul h2.sp h.sq, Rt.mul h.sq h2.sq, l, pickT, pickB]
  · have l := llow_v k mem (t := p * r) (h.okB h2)
    simp [m_ldue, eb, rb, er, es, sSeq, sIf, sRet, sSet, sSetN, setS, setN, sExpr, sTup, setAll, evD, cVar, opd, resolve, cP1, cP2, cPN, cList, resolves, cTup, cLst, cFrz, cBoxN, cBoxV, cTru, truth, toB, cAnd, cOr, cNot, cAndV, cOrV, cNotV, cIf, cCh, fAdd, fSub, fCmpI, fNeg, fIsi, isT, fI, f1, f2, fLen, fInt, fTupleOf, fIx, cCall, doCall, cCallK, runF, exitF, Ob.data, sRaise, cNewL, modSlot, gPut, sPut, isLst, sAug, sAugIx, augF.fAugAdd, fGet, gApp, cApp, b2i, fAbs_v, fGcd_v, fEqI_v, fNeI_v, at0, at1, Rt.mul h.sp h2.sp, Rt.mul h.sq h2.sq, l, pickT, pickB]
  · have l := llow_v k mem (t := p * s) (h.okQ h2 (h3 rfl))
    simp [m_ldue, eb, rb, er, es, sSeq, sIf, sRet, sSet, sSetN, setS, setN, sExpr, sTup, setAll, evD, cVar, opd, resolve, cP1, cP2, cPN, cList, resolves, cTup, cLst, cFrz, cBoxN, cBoxV, cTru, truth, toB, cAnd, cOr, cNot, cAndV, cOrV, cNotV, cIf, cCh, fAdd, fSub, fCmpI, fNeg, fIsi, isT, fI, f1, f2, fLen, fInt, fTupleOf, fIx, cCall, doCall, cCallK, runF, exitF, Ob.data, sRaise, cNewL, modSlot, gPut, sPut, isLst, sAug, sAugIx, augF.fAugAdd, fGet, gApp, cApp, b2i, fAbs_v, fGcd_v, fEqI_v, fNeI_v, at0, at1, Rt.mul h.sp h2.sq, Rt.mul h.sq h2.sp, l, pickT, pickB]
theorem v_lint (x : PyData) : evalF g (k + 1) "_law_int" [.d x] mem = .ok (.d (.bool (isI x))) ⟨[], mem⟩ := by
  rw [e_lint]
  cases x <;> simp [m_lint, eb, rb, er, es, sSeq, sIf, sRet, sSet, sSetN, setS, setN, sExpr, sTup, setAll, evD, cVar, opd, resolve, cP1, cP2, cPN, cList, resolves, cTup, cLst, cFrz, cBoxN, cBoxV, cTru, truth, toB, cAnd, cOr, cNot, cAndV, cOrV, cNotV, cIf, cCh, fAdd, fSub, fCmpI, fNeg, fIsi, isT, fI, f1, f2, fLen, fInt, fTupleOf, fIx, cCall, doCall, cCallK, runF, exitF, Ob.data, sRaise, cNewL, modSlot, gPut, sPut, isLst, sAug, sAugIx, augF.fAugAdd, fGet, gApp, cApp, b2i, fAbs_v, fGcd_v, fEqI_v, fNeI_v, isI]
theorem eqv_two (a b : Int) : fEq (.tuple [.int a, .int b]) (.tuple [.int a, .int b]) = some (.bool true) := by
  unfold fEq
  rw [if_neg (by show ¬ (false = true); exact Bool.false_ne_true), if_pos (by simp [SeqAt.shaped, PyData.canLay0, PyData.depth, PyData.canLayAll0, PyData.depthAll])]
  simp [PyData.eqv, PyData.eqvAll]
theorem v_same (t b : Int) : evalF g (k + 2) "_law_same" [.d (low t b), .d (low t b)] mem = .ok (.d (.bool true)) ⟨[], mem⟩ := by
  rw [e_lsame]
  unfold low
  generalize (if b < 0 then -t else t) / gd t b = x
  generalize (if b < 0 then -b else b) / gd t b = y
  have i1 := v_lint k mem (.int x)
  have i2 := v_lint k mem (.int y)
  have j : ∀ z, isI (.int z) = true := fun _ => rfl
  rw [j] at i1 i2
  simp [m_lsame, eb, rb, er, es, sSeq, sIf, sRet, sSet, sSetN, setS, setN, sExpr, sTup, setAll, evD, cVar, opd, resolve, cP1, cP2, cPN, cList, resolves, cTup, cLst, cFrz, cBoxN, cBoxV, cTru, truth, toB, cAnd, cOr, cNot, cAndV, cOrV, cNotV, cIf, cCh, fAdd, fSub, fCmpI, fNeg, fIsi, isT, fI, f1, f2, fLen, fInt, fTupleOf, fIx, cCall, doCall, cCallK, runF, exitF, Ob.data, sRaise, cNewL, modSlot, gPut, sPut, isLst, sAug, sAugIx, augF.fAugAdd, fGet, gApp, cApp, b2i, fAbs_v, fGcd_v, fEqI_v, fNeI_v, at0, at1, i1, i2, eqv_two]
theorem v_truth (b : Bool) : evalF g (k + 1) "_law_truth" [.d (.bool b), .d (.bool b)] mem = .ok (.d (.bool true)) ⟨[], mem⟩ := by
  rw [e_ltruth]
  have e : fEq (.bool b) (.bool b) = some (.bool true) := by cases b <;> rfl
  simp [m_ltruth, eb, rb, er, es, sSeq, sIf, sRet, sSet, sSetN, setS, setN, sExpr, sTup, setAll, evD, cVar, opd, resolve, cP1, cP2, cPN, cList, resolves, cTup, cLst, cFrz, cBoxN, cBoxV, cTru, truth, toB, cAnd, cOr, cNot, cAndV, cOrV, cNotV, cIf, cCh, fAdd, fSub, fCmpI, fNeg, fIsi, isT, fI, f1, f2, fLen, fInt, fTupleOf, fIx, cCall, doCall, cCallK, runF, exitF, Ob.data, sRaise, cNewL, modSlot, gPut, sPut, isLst, sAug, sAugIx, augF.fAugAdd, fGet, gApp, cApp, b2i, fAbs_v, fGcd_v, fEqI_v, fNeI_v, e]
end
end MP
namespace MP
open PySem PySem.Spec PyProof.Rows L2
section
variable {p q r s : Int} (k : Nat) {mem : List Box}
theorem v_word_none {i : Int} {d e x : PyData} (h : evalF g (k + 5) "_law_called" [.d (.int i), .d d, .d e] mem = .ok (.d x) ⟨[], mem⟩) : evalF g (k + 6) "_law_word" [.d (.int i), .d d, .d e] mem = .ok (.d (.str "none")) ⟨[], mem⟩ := by
  rw [e_lword]
  simp [m_lword, eb, rb, er, es, sSeq, sIf, sRet, sSet, sSetN, setS, setN, sExpr, sTup, setAll, evD, cVar, opd, resolve, cP1, cP2, cPN, cList, resolves, cTup, cLst, cFrz, cBoxN, cBoxV, cTru, truth, toB, cAnd, cOr, cNot, cAndV, cOrV, cNotV, cIf, cCh, fAdd, fSub, fCmpI, fNeg, fIsi, isT, fI, f1, f2, fLen, fInt, fTupleOf, fIx, cCall, doCall, cCallK, runF, exitF, Ob.data, sRaise, cNewL, modSlot, gPut, sPut, isLst, sAug, sAugIx, augF.fAugAdd, fGet, gApp, cApp, b2i, fAbs_v, fGcd_v, fEqI_v, fNeI_v, h, sTry]
theorem v_word_bad {i : Int} {d e : PyData} (h : evalF g (k + 5) "_law_called" [.d (.int i), .d d, .d e] mem = .raise ⟨"BadRatio", []⟩ ⟨[], mem⟩) : evalF g (k + 6) "_law_word" [.d (.int i), .d d, .d e] mem = .ok (.d (.str "bad")) ⟨[], mem⟩ := by
  have t1 : tb "BadRatio" "BadRatio" = some true := by kernel_rfl
  have t2 : tb "BadRatio" "StepError" = some true := by kernel_rfl
  have t3 : tb "BadRatio" "ValueError" = some true := by kernel_rfl
  have t4 : tb "BadRatio" "ZeroBottom" = some false := by kernel_rfl
  rw [e_lword]
  simp [m_lword, eb, rb, er, es, sSeq, sIf, sRet, sSet, sSetN, setS, setN, sExpr, sTup, setAll, evD, cVar, opd, resolve, cP1, cP2, cPN, cList, resolves, cTup, cLst, cFrz, cBoxN, cBoxV, cTru, truth, toB, cAnd, cOr, cNot, cAndV, cOrV, cNotV, cIf, cCh, fAdd, fSub, fCmpI, fNeg, fIsi, isT, fI, f1, f2, fLen, fInt, fTupleOf, fIx, cCall, doCall, cCallK, runF, exitF, Ob.data, sRaise, cNewL, modSlot, gPut, sPut, isLst, sAug, sAugIx, augF.fAugAdd, fGet, gApp, cApp, b2i, fAbs_v, fGcd_v, fEqI_v, fNeI_v, h, sTry, handle, finH, noExn, cIsE, t1, t2, t3, t4]
theorem v_word_zero {i : Int} {d e : PyData} (h : evalF g (k + 5) "_law_called" [.d (.int i), .d d, .d e] mem = .raise ⟨"ZeroBottom", []⟩ ⟨[], mem⟩) : evalF g (k + 6) "_law_word" [.d (.int i), .d d, .d e] mem = .ok (.d (.str "zero")) ⟨[], mem⟩ := by
  have t1 : tb "ZeroBottom" "BadRatio" = some false := by kernel_rfl
  have t2 : tb "ZeroBottom" "StepError" = some true := by kernel_rfl
  have t3 : tb "ZeroBottom" "ValueError" = some true := by kernel_rfl
  have t4 : tb "ZeroBottom" "ZeroBottom" = some true := by kernel_rfl
  rw [e_lword]
  simp [m_lword, eb, rb, er, es, sSeq, sIf, sRet, sSet, sSetN, setS, setN, sExpr, sTup, setAll, evD, cVar, opd, resolve, cP1, cP2, cPN, cList, resolves, cTup, cLst, cFrz, cBoxN, cBoxV, cTru, truth, toB, cAnd, cOr, cNot, cAndV, cOrV, cNotV, cIf, cCh, fAdd, fSub, fCmpI, fNeg, fIsi, isT, fI, f1, f2, fLen, fInt, fTupleOf, fIx, cCall, doCall, cCallK, runF, exitF, Ob.data, sRaise, cNewL, modSlot, gPut, sPut, isLst, sAug, sAugIx, augF.fAugAdd, fGet, gApp, cApp, b2i, fAbs_v, fGcd_v, fEqI_v, fNeI_v, h, sTry, handle, finH, noExn, cIsE, t1, t2, t3, t4]
theorem pick_cases {i : Int} (hi : 0 ≤ i) (hi2 : i < 5) : i = 0 ∨ i = 1 ∨ i = 2 ∨ i = 3 ∨ i = 4 := by omega
theorem w_bad1 {i : Int} {d e : PyData} (hi : 0 ≤ i) (hi2 : i < 5) (h : MP.isR d = false) : evalF g (k + 6) "_law_word" [.d (.int i), .d d, .d e] mem = .ok (.d (.str "bad")) ⟨[], mem⟩ := by
  obtain ⟨h0, h1, h2, h3, h4⟩ := v_bad1 k mem (d := d) (e := e) h
  refine v_word_bad k ?_
  rw [v_called]
  rcases pick_cases hi hi2 with rfl | rfl | rfl | rfl | rfl
  · simp [pickF, h0]
  · simp [pickF, h1]
  · simp [pickF, h2]
  · simp [pickF, h3]
  · simp [pickF, h4]
theorem w_bad2 {i : Int} {d e : PyData} (hi : 0 ≤ i) (hi2 : i < 5) (h0 : MP.isR d = true) (h : MP.isR e = false) : evalF g (k + 6) "_law_word" [.d (.int i), .d d, .d e] mem = .ok (.d (.str "bad")) ⟨[], mem⟩ := by
  obtain ⟨h0, h1, h2, h3, h4⟩ := v_bad2 k mem (d := d) (e := e) h0 h
  refine v_word_bad k ?_
  rw [v_called]
  rcases pick_cases hi hi2 with rfl | rfl | rfl | rfl | rfl
  · simp [pickF, h0]
  · simp [pickF, h1]
  · simp [pickF, h2]
  · simp [pickF, h3]
  · simp [pickF, h4]
/-- two ratios: nothing is raised, but by a division by 0 -/
theorem w_ok {i : Int} (hi : 0 ≤ i) (hi2 : i < 5) (h : Rt p q) (h2 : Rt r s) : evalF g (k + 6) "_law_word" [.d (.int i), .d (rt p q), .d (rt r s)] mem = .ok (.d (.str (if i = 3 ∧ r = 0 then "zero" else "none"))) ⟨[], mem⟩ := by
  by_cases hz : i = 3 ∧ r = 0
  · rw [if_pos hz]
    obtain ⟨rfl, rfl⟩ := hz
    refine v_word_zero k ?_
    rw [v_called]
    simp [pickF, v_quotient0 k mem h h2]
  · rw [if_neg hz]
    by_cases h4 : i = 4
    · subst h4
      refine v_word_none k (x := .bool (decide (p * s < r * q))) ?_
      rw [v_called]
      simp [pickF, v_below k mem h h2]
    · obtain ⟨e, _⟩ := v_pick k mem (i := i) h h2 hi (by omega) (fun h3 z => hz ⟨h3, z⟩)
      refine v_word_none k (x := low (pickT i p q r s) (pickB i p q r s)) ?_
      rw [v_called, e]
      simp
theorem w_ratio0 {t : Int} : evalF g (k + 6) "_law_word" [.d (.int 5), .d (.int t), .d (.int 0)] mem = .ok (.d (.str "zero")) ⟨[], mem⟩ := by
  refine v_word_zero k ?_
  rw [v_called]
  have := v_ratio0 (k + 2) mem (t := t)
  simp [pickF, this]
theorem w_ratio {t b : Int} (h : okB b) : evalF g (k + 6) "_law_word" [.d (.int 5), .d (.int t), .d (.int b)] mem = .ok (.d (.str "none")) ⟨[], mem⟩ := by
  refine v_word_none k (x := low t b) ?_
  rw [v_called]
  have := v_ratio (k + 2) mem (t := t) h
  simp [pickF, this]
end
end MP
namespace MP
open PySem PySem.Spec PyProof.Rows L2
theorem at_mem {α : Type} {xs : List α} {i : Int} (h : 0 ≤ i) (h2 : i < xs.length) : ∃ d, atI xs i = some d ∧ d ∈ xs := by
  rw [atI_nat' h]
  have hl : i.toNat < xs.length := by omega
  exact ⟨xs[i.toNat], List.getElem?_eq_getElem hl, List.getElem_mem hl⟩
theorem gd_not {a b c : Int} (h1 : c.natAbs ∣ a.natAbs) (h2 : c.natAbs ∣ b.natAbs) (h3 : 2 ≤ c.natAbs) : gd a b ≠ 1 := by
  intro e
  have d := Nat.dvd_gcd h1 h2
  have e' : Nat.gcd a.natAbs b.natAbs = 1 := by unfold gd at e; omega
  rw [e'] at d
  have := Nat.le_of_dvd (by decide) d
  omega
theorem isR_not {a b : Int} (h : gd a b ≠ 1) : isR (.tuple [.int a, .int b]) = false := by
  show (decide (1 ≤ b) && decide (gd a b = 1)) = false
  rw [decide_eq_false h, Bool.and_false]
theorem isR_low {a b : Int} (h : b < 1) : isR (.tuple [.int a, .int b]) = false := by
  show (decide (1 ≤ b) && decide (gd a b = 1)) = false
  rw [decide_eq_false (by omega), Bool.false_and]
def thingsL (m n : Int) : List PyData := [.tuple [.int 2, .int 4], .tuple [.int 1, .int 0], .tuple [.int 3, .int (-1)], .tuple [.int 0, .int 2], .tuple [.int 0, .int 0], .tuple [.int (-4), .int 6], .list [.int 1, .int 2], .tuple [.int 1], .tuple [.int 1, .int 2, .int 3], .tuple [.bool true, .int 1], .tuple [.int 1, .bool true],
  .none, .str "1/2", .int 5, .tuple [], .tuple [.tuple [.int 1, .int 1], .int 1], .tuple [.int 1, .tuple [.int 1, .int 1]], .dict [], .tuple [.str "1", .int 1], .tuple [.int 0, .int (-1)], .tuple [.int m, .int (-n)], .tuple [.int (n * m), .int n],
  .tuple [.int (m * n * 10000000000000000000000000000000000000000), .int (n * 100000000000000000000)], .list [.tuple [.int 1, .int 2]], .tuple [.none, .int 1], .tuple [.int 1, .none], .bool false, .tuple [.int m, .int 0]]
theorem things_no {m n : Int} (hn : 2 ≤ n) : ∀ d ∈ thingsL m n, isR d = false := by
  have a1 : isR (.tuple [.int m, .int (-n)]) = false := isR_low (by omega)
  have a2 : isR (.tuple [.int (n * m), .int n]) = false := isR_not (gd_not (c := n) (by rw [Int.natAbs_mul]; exact Nat.dvd_mul_right _ _) (Nat.dvd_refl _) (by omega))
  have a3 : isR (.tuple [.int (m * n * 10000000000000000000000000000000000000000), .int (n * 100000000000000000000)]) = false := by
    refine isR_not (gd_not (c := n) ?_ ?_ (by omega))
    · rw [Int.natAbs_mul, Int.natAbs_mul]; exact Nat.dvd_mul_right_of_dvd (Nat.dvd_mul_left _ _) _
    · rw [Int.natAbs_mul]; exact Nat.dvd_mul_right _ _
  have a4 : isR (.tuple [.int m, .int 0]) = false := isR_low (by decide)
  unfold thingsL
  intro d hd
  simp only [List.mem_cons, List.not_mem_nil, or_false] at hd
  rcases hd with h | h | h | h | h | h | h | h | h | h | h | h | h | h | h | h | h | h | h | h | h | h | h | h | h | h | h | h <;> subst h <;> first | exact a1 | exact a2 | exact a3 | exact a4 | decide +kernel
theorem v_no_ratio (k : Nat) {b : Int} {ns : List Int} {m : List Box} (hI : In b ns m) (hb : b < 600000) :
    ∃ d m', evalF g (k + 2) "_law_no_ratio" [.ref 0] m = .ok (.d d) ⟨[], m'⟩ ∧ In (b + 3) ns m' ∧ isR d = false := by
  obtain ⟨r1, m1, h1, I1, p1, q1⟩ := v_draw k hI (by omega) (many := 9) (by decide) (by decide)
  obtain ⟨r2, m2, h2, I2, p2, q2⟩ := v_draw k I1 (by omega) (many := 21) (by decide) (by decide)
  obtain ⟨r3, m3, h3, I3, p3, q3⟩ := v_draw k I2 (by omega) (many := 28) (by decide) (by decide)
  obtain ⟨d, hd, hin⟩ := at_mem (xs := thingsL (r2 - 10) (2 + r1)) p3 (by exact q3)
  refine ⟨d, m3, ?_, I3.mono (by omega), things_no (by omega) d hin⟩
  have w1 : fPow (.int 10) (.int 40) = some (.int 10000000000000000000000000000000000000000) := rfl
  have w2 : fPow (.int 10) (.int 20) = some (.int 100000000000000000000) := rfl
  unfold thingsL at hd
  generalize hn : 2 + r1 = n at *
  generalize hm : r2 - 10 = mm at *
  have s1 : Sb (3 + 1) n := by unfold Sb; omega
  have s2 : Sb (3 + 1) mm := by unfold Sb; omega
  have y1 := fMul_v (s1.mulOk s2 (by decide))
  have y2 := fMul_v (s2.mulOk s1 (by decide))
  have y3 : fMul (.int (mm * n)) (.int 10000000000000000000000000000000000000000) = some (.int (mm * n * 10000000000000000000000000000000000000000)) := fMul_v (Sb.mulOk (m := 7) (n := 199) (s2.mul s1) (by unfold Sb; decide +kernel) (by decide))
  have y4 : fMul (.int n) (.int 100000000000000000000) = some (.int (n * 100000000000000000000)) := fMul_v (Sb.mulOk (m := 3) (n := 199) s1 (by unfold Sb; decide +kernel) (by decide))
  rw [e_lno_ratio]
  simp [m_lno_ratio, eb, rb, er, es, sSeq, sIf, sRet, sSet, sSetN, setS, setN, sExpr, sTup, setAll, evD, cVar, opd, resolve, cP1, cP2, cPN, cList, resolves, cTup, cLst, cFrz, cBoxN, cBoxV, cTru, truth, toB, cAnd, cOr, cNot, cAndV, cOrV, cNotV, cIf, cCh, fAdd, fSub, fCmpI, fNeg, fIsi, isT, fI, f1, f2, fLen, fInt, fTupleOf, fIx, cCall, doCall, cCallK, runF, exitF, Ob.data, sRaise, cNewL, modSlot, gPut, sPut, isLst, sAug, sAugIx, augF.fAugAdd, fGet, gApp, cApp, b2i, fAbs_v, fGcd_v, fEqI_v, fNeI_v, h1, h2, h3, hn, hm, w1, w2, y1, y2, y3, y4, hd, hI.take I3]
theorem fNeS_v (a b : Str) : fNe (.str a) (.str b) = some (.bool (!decide (a = b))) := by
  show (if true = true then some (PyData.bool (!PyData.eqv (.str a) (.str b))) else _) = _
  rw [if_pos rfl]
  by_cases h : a = b <;> simp [PyData.eqv, h]
theorem fEqS_v (a b : Str) : fEq (.str a) (.str b) = some (.bool (decide (a = b))) := by
  show (if true = true then some (PyData.bool (PyData.eqv (.str a) (.str b))) else _) = _
  rw [if_pos rfl]
  by_cases h : a = b <;> simp [PyData.eqv, h]
theorem rt01 : Rt 0 1 := ⟨by decide, by decide +kernel, by unfold Sb; decide +kernel, by unfold Sb; decide +kernel⟩
theorem v_doors (k : Nat) {b p q r s : Int} {ns : List Int} {m : List Box} (hI : In b ns m) (hb : b < 500000) (h : Rt p q) (h2 : Rt r s) :
    ∃ s', evalF g (k + 7) "_law_doors" [.ref 0, .d (rt p q), .d (rt r s)] m = .ok (.d (.bool true)) s' := by
  obtain ⟨bad, m1, h1, I1, n1⟩ := v_no_ratio (k + 4) hI (by omega)
  obtain ⟨worse, m2, h3, I2, n2⟩ := v_no_ratio (k + 4) I1 (by omega)
  have W1 : ∀ i : Int, 0 ≤ i → i < 5 → ∀ e, evalF g (k + 6) "_law_word" [.d (.int i), .d bad, .d e] m2 = .ok (.d (.str "bad")) ⟨[], m2⟩ := fun i a b e => w_bad1 k a b n1
  have W2 : ∀ i : Int, 0 ≤ i → i < 5 → evalF g (k + 6) "_law_word" [.d (.int i), .d (rt p q), .d worse] m2 = .ok (.d (.str "bad")) ⟨[], m2⟩ := fun i a b => w_bad2 k a b h.isR n2
  have W3 : ∀ i : Int, 0 ≤ i → i < 5 → evalF g (k + 6) "_law_word" [.d (.int i), .d (rt 0 1), .d (rt p q)] m2 = .ok (.d (.str (if i = 3 ∧ p = 0 then "zero" else "none"))) ⟨[], m2⟩ := fun i a b => w_ok k a b rt01 h
  have W4 : ∀ i : Int, 0 ≤ i → i < 5 → evalF g (k + 6) "_law_word" [.d (.int i), .d (rt p q), .d (rt 0 1)] m2 = .ok (.d (.str (if i = 3 ∧ (0 : Int) = 0 then "zero" else "none"))) ⟨[], m2⟩ := fun i a b => w_ok k a b h rt01
  have W5 : ∀ t : Int, evalF g (k + 6) "_law_word" [.d (.int 5), .d (.int t), .d (.int 0)] m2 = .ok (.d (.str "zero")) ⟨[], m2⟩ := fun t => w_ratio0 k
  have W6 : evalF g (k + 6) "_law_word" [.d (.int 5), .d (.int 0), .d (.int q)] m2 = .ok (.d (.str "none")) ⟨[], m2⟩ := w_ratio k ⟨by have := h.one; omega, h.sq.mono (by decide)⟩
  have r5 : rangeD 0 5 = [.int 0, .int 1, .int 2, .int 3, .int 4] := rfl
  rw [e_ldoors]
  by_cases hp : p = 0
  · subst hp
    simp [m_ldoors, eb, rb, er, es, sSeq, sIf, sRet, sSet, sSetN, setS, setN, sExpr, sTup, setAll, evD, cVar, opd, resolve, cP1, cP2, cPN, cList, resolves, cTup, cLst, cFrz, cBoxN, cBoxV, cTru, truth, toB, cAnd, cOr, cNot, cAndV, cOrV, cNotV, cIf, cCh, fAdd, fSub, fCmpI, fNeg, fIsi, isT, fI, f1, f2, fLen, fInt, fTupleOf, fIx, cCall, doCall, cCallK, runF, exitF, Ob.data, sRaise, cNewL, modSlot, gPut, sPut, isLst, sAug, sAugIx, augF.fAugAdd, fGet, gApp, cApp, b2i, fAbs_v, fGcd_v, fEqI_v, fNeI_v, h1, h3, sFor, srcR1, r5, forL, tgName, W1, W2, W3, W4, W5, W6, at0, at1, fNeS_v, fEqS_v]
  · simp [m_ldoors, eb, rb, er, es, sSeq, sIf, sRet, sSet, sSetN, setS, setN, sExpr, sTup, setAll, evD, cVar, opd, resolve, cP1, cP2, cPN, cList, resolves, cTup, cLst, cFrz, cBoxN, cBoxV, cTru, truth, toB, cAnd, cOr, cNot, cAndV, cOrV, cNotV, cIf, cCh, fAdd, fSub, fCmpI, fNeg, fIsi, isT, fI, f1, f2, fLen, fInt, fTupleOf, fIx, cCall, doCall, cCallK, runF, exitF, Ob.data, sRaise, cNewL, modSlot, gPut, sPut, isLst, sAug, sAugIx, augF.fAugAdd, fGet, gApp, cApp, b2i, fAbs_v, fGcd_v, fEqI_v, fNeI_v, h1, h3, sFor, srcR1, r5, forL, tgName, W1, W2, W3, W4, W5, W6, at0, at1, fNeS_v, fEqS_v, hp]
end MP
namespace MP
open PySem PySem.Spec PyProof.Rows L2
/-- a loop that never leaves -/
theorem forL_inv {t : PyData → EM Unit} {body : EM Fl} (P : Nat → S → Prop) : ∀ (xs : List PyData) (i : Nat) (s : S), P i s → (∀ j x s, xs[j]? = some x → P (i + j) s → ∃ s1 s2, t x s = .ok () s1 ∧ body s1 = .ok .next s2 ∧ P (i + j + 1) s2) → ∃ s', forL t body xs s = .ok .next s' ∧ P (i + xs.length) s'
  | [], i, s, h, _ => ⟨s, rfl, h⟩
  | x :: xs, i, s, h, step => by
    obtain ⟨s1, s2, e1, e2, h2⟩ := step 0 x s rfl h
    obtain ⟨s', e3, h3⟩ := forL_inv P xs (i + 1) s2 h2 fun j y s0 hy hp => by
      obtain ⟨a, b, c⟩ := step (j + 1) y s0 hy (by rw [show i + (j + 1) = i + 1 + j by omega]; exact hp)
      exact ⟨a, b, by rw [show i + 1 + j + 1 = i + (j + 1) + 1 by omega]; exact c⟩
    refine ⟨s', ?_, by rw [List.length_cons, show i + (xs.length + 1) = i + 1 + xs.length by omega]; exact h3⟩
    show rb (t x s) _ = _
    rw [e1]
    show rb (body s1) _ = _
    rw [e2]
    exact e3
theorem Sb.div {n : Nat} {x c : Int} (h : Sb n x) (hc : 0 < c) (hd : c ∣ x) : Sb n (x / c) := by
  unfold Sb at *
  obtain ⟨y, rfl⟩ := hd
  rw [Int.mul_ediv_cancel_left _ (by omega)]
  rw [Int.natAbs_mul] at h
  have : y.natAbs ≤ c.natAbs * y.natAbs := Nat.le_mul_of_pos_left _ (by omega)
  omega
theorem low_rt {t b : Int} (hb : b ≠ 0) (h1 : Sb 320 t) (h2 : Sb 320 b) : ∃ p q, low t b = rt p q ∧ Rt p q := by
  have ok : okB b := ⟨hb, h2.mono (by decide)⟩
  have gp := gd_pos (t := t) ok
  have d1 : gd t b ∣ t := by
    unfold gd
    exact Int.ofNat_dvd_left.mpr (Nat.gcd_dvd_left _ _)
  have d2 : gd t b ∣ b := by
    unfold gd
    exact Int.ofNat_dvd_left.mpr (Nat.gcd_dvd_right _ _)
  generalize hT : (if b < 0 then -t else t) = T
  generalize hB : (if b < 0 then -b else b) = B
  have e1 : gd t b ∣ T := by rw [← hT]; split; exact Int.dvd_neg.mpr d1; exact d1
  have e2 : gd t b ∣ B := by rw [← hB]; split; exact Int.dvd_neg.mpr d2; exact d2
  have s1 : Sb 320 T := by rw [← hT]; split; exact h1.neg; exact h1
  have s2 : Sb 320 B := by rw [← hB]; split; exact h2.neg; exact h2
  have bp : 0 < B := by rw [← hB]; split <;> omega
  have gg : gd T B = gd t b := by rw [← hT, ← hB]; split; exact gd_neg t b; rfl
  refine ⟨T / gd t b, B / gd t b, by unfold low; rw [hT, hB], ?_, ?_, (s1.div gp e1).mono (by decide), (s2.div gp e2).mono (by decide)⟩
  · obtain ⟨y, hy⟩ := e2
    rw [hy, Int.mul_ediv_cancel_left _ (by omega)]
    rw [hy] at bp
    rcases Int.lt_or_le 0 y with h | h
    · omega
    · have := Int.mul_le_mul_of_nonneg_left h (Int.le_of_lt gp)
      rw [Int.mul_zero] at this
      omega
  · obtain ⟨x, hx⟩ := e1
    obtain ⟨y, hy⟩ := e2
    have z : gd T B = gd t b * gd x y := by
      unfold gd at *
      rw [hx, hy]
      generalize ((t.natAbs.gcd b.natAbs : Nat) : Int) = c at *
      rw [Int.natAbs_mul, Int.natAbs_mul, Nat.gcd_mul_left]
      have : ((c.natAbs : Nat) : Int) = c := by omega
      rw [Int.natCast_mul, this]
    rw [gg] at z
    generalize gd t b = c at *
    rw [hx, hy, Int.mul_ediv_cancel_left _ (by omega), Int.mul_ediv_cancel_left _ (by omega)]
    have z' : c * 1 = c * gd x y := by omega
    exact (Int.eq_of_mul_eq_mul_left (by omega) z').symm
/-- the pairs that are kept -/
def Kept (l : List PyData) : Prop := ∀ d ∈ l, ∃ p q, d = rt p q ∧ Rt p q
theorem Kept.snoc {l : List PyData} {p q : Int} (h : Kept l) (h2 : Rt p q) : Kept (l ++ [rt p q]) := fun d hd => by
  rcases List.mem_append.mp hd with hd | hd
  · exact h d hd
  · exact ⟨p, q, List.mem_singleton.mp hd, h2⟩
def P1 (ns : List Int) (j : Nat) (s : S) : Prop := ∃ kept m o3 o5 o8 o9, s = ⟨[some (.d (.list (ns.map .int))), some (.ref 0), some (.own (.lst kept)), o3, none, o5, none, none, o8, o9], m⟩ ∧ In (10 * j) ns m ∧ kept.length = j + 1 ∧ Kept kept
def P2 (ns : List Int) (kept : List PyData) (j : Nat) (s : S) : Prop := ∃ m o3 o4 o5 o6 o7 o8 o9, s = ⟨[some (.d (.list (ns.map .int))), some (.ref 0), some (.d (.list kept)), o3, o4, o5, o6, o7, o8, o9], m⟩ ∧ In (50 + j) ns m
theorem named_v (k : Nat) {mem : List Box} {i : Int} {d e x : PyData} (h : evalF g (k + 4) (pickF i) [.d d, .d e] mem = .ok (.d x) ⟨[], mem⟩) : evalF g (k + 5) "_law_named" [.d (.int i), .d d, .d e] mem = .ok (.d x) ⟨[], mem⟩ := by
  rw [v_named, h]
  simp
theorem called_v (k : Nat) {mem : List Box} {i : Int} {d e x : PyData} (h : evalF g (k + 4) (pickF i) [.d d, .d e] mem = .ok (.d x) ⟨[], mem⟩) : evalF g (k + 5) "_law_called" [.d (.int i), .d d, .d e] mem = .ok (.d x) ⟨[], mem⟩ := by
  rw [v_called, h]
  simp
theorem law_v (k : Nat) (ns : List Int) (hl : ns.length ≤ 63) : ∃ s', evalF g (k + 8) "law" [.d (.list (ns.map .int))] [] = .ok (.d (.bool true)) s' := by
  rw [e_law_]
  have hw : evalF g (k + 7) "_law_well" [.d (.list (ns.map .int)), .d (.int 0)] [] = .ok (.ref 0) ⟨[], [Wb 0 0 (ns.map .int) 0]⟩ := by
    rw [e_lwell]
    simp [m_lwell, eb, rb, er, es, sSeq, sIf, sRet, sSet, sSetN, setS, setN, sExpr, sTup, setAll, evD, cVar, opd, resolve, cP1, cP2, cPN, cList, resolves, cTup, cLst, cFrz, cBoxN, cBoxV, cTru, truth, toB, cAnd, cOr, cNot, cAndV, cOrV, cNotV, cIf, cCh, fAdd, fSub, fCmpI, fNeg, fIsi, isT, fI, f1, f2, fLen, fInt, fTupleOf, fIx, cCall, doCall, cCallK, runF, exitF, Ob.data, sRaise, cNewL, modSlot, gPut, sPut, isLst, sAug, sAugIx, augF.fAugAdd, fGet, gApp, cApp, b2i, fAbs_v, fGcd_v, fEqI_v, fNeI_v, Wb]
  have I0 : In 0 ns [Wb 0 0 (ns.map .int) 0] := ⟨0, 0, 0, rfl, by decide, by decide, by decide, by decide, by decide⟩
  generalize [Wb 0 0 (ns.map .int) 0] = m0 at *
  have r5 : rangeD 0 5 = [.int 0, .int 1, .int 2, .int 3, .int 4] := rfl
  have r4 : rangeD 0 4 = [.int 0, .int 1, .int 2, .int 3] := rfl
  simp only [m_law_]
  generalize hB1 : (sSeq (sTup [8, 9] _) _) = body1
  generalize hB2 : (sSeq (sSet 6 _) _) = body2
  -- the first loop
  have L1 : ∃ s', forL (tgName 3) body1 [.int 0, .int 1, .int 2, .int 3, .int 4] ⟨[some (.d (.list (ns.map .int))), some (.ref 0), some (.own (.lst [rt 0 1])), none, none, none, none, none, none, none], m0⟩ = .ok .next s' ∧ P1 ns (0 + 5) s' := by
    refine forL_inv (P1 ns) _ 0 _ ⟨_, _, _, _, _, _, rfl, by simpa using I0, rfl, fun d hd => ⟨0, 1, List.mem_singleton.mp hd, rt01⟩⟩ fun j x s hx hP => ?_
    have hj : j < 5 := (List.getElem?_eq_some_iff.mp hx).1
    obtain ⟨kept, m, o3, o5, o8, o9, rfl, I, hk, K⟩ := hP
    obtain ⟨t, u, m1, h1, I1, s1, s2, n0⟩ := v_pair (k + 4) I (by omega)
    have okb : okB u := ⟨n0, s2.mono (by decide)⟩
    obtain ⟨p, q, hlow, hrt⟩ := low_rt n0 s1 s2
    have h2 := llow_v (k + 5) m1 (t := t) okb
    have h3 := v_ratio (k + 5) m1 (t := t) okb
    have h4 := named_v (k + 2) (i := 5) (d := .int t) (e := .int u) (mem := m1) (x := low t u) (v_ratio (k + 4) m1 okb)
    have h5 := v_same (k + 5) m1 t u
    rw [hlow] at h2 h3 h4 h5
    have hk' : kept.length < 1000000 := by omega
    refine ⟨_, ⟨[some (.d (.list (ns.map .int))), some (.ref 0), some (.own (.lst (kept ++ [rt p q]))), some (.d x), none, some (.d (rt p q)), none, none, some (.d (.int t)), some (.d (.int u))], m1⟩, rfl, ?_, ⟨_, _, _, _, _, _, rfl, I1.mono (by omega), by rw [List.length_append, hk]; rfl, K.snoc hrt⟩⟩
    rw [← hB1]
    simp [eb, rb, er, es, sSeq, sIf, sRet, sSet, sSetN, setS, setN, sExpr, sTup, setAll, evD, cVar, opd, resolve, cP1, cP2, cPN, cList, resolves, cTup, cLst, cFrz, cBoxN, cBoxV, cTru, truth, toB, cAnd, cOr, cNot, cAndV, cOrV, cNotV, cIf, cCh, fAdd, fSub, fCmpI, fNeg, fIsi, isT, fI, f1, f2, fLen, fInt, fTupleOf, fIx, cCall, doCall, cCallK, runF, exitF, Ob.data, sRaise, cNewL, modSlot, gPut, sPut, isLst, sAug, sAugIx, augF.fAugAdd, fGet, gApp, cApp, b2i, fAbs_v, fGcd_v, fEqI_v, fNeI_v, h1, h2, h3, h4, h5, hk']
  obtain ⟨sA, e1, kept, m1, o3, o5, o8, o9, rfl, I1, hk, K⟩ := L1
  have hk6 : kept.length = 6 := hk
  -- the second loop
  have L2 : ∃ s', forL (tgName 4) body2 kept ⟨[some (.d (.list (ns.map .int))), some (.ref 0), some (.d (.list kept)), o3, none, o5, none, none, o8, o9], m1⟩ = .ok .next s' ∧ P2 ns kept (0 + kept.length) s' := by
    refine forL_inv (P2 ns kept) _ 0 _ ⟨_, _, _, _, _, _, _, _, rfl, by simpa using I1⟩ fun j x s hx hP => ?_
    have hj : j < kept.length := (List.getElem?_eq_some_iff.mp hx).1
    have hin : x ∈ kept := List.mem_of_getElem? hx
    obtain ⟨p, q, rfl, hpq⟩ := K x hin
    obtain ⟨m, o3, o4, o5, o6, o7, o8, o9, rfl, I⟩ := hP
    obtain ⟨rr, m2, h1, I2, a1, a2⟩ := v_draw (k + 6) I (by omega) (many := 6) (by decide) (by decide)
    obtain ⟨d, hd, hin2⟩ := at_mem (xs := kept) a1 (by omega)
    obtain ⟨r, s, rfl, hrs⟩ := K d hin2
    have D : ∀ i : Int, 0 ≤ i → i < 4 → (i = 3 → r ≠ 0) → evalF g (k + 7) "_law_due" [.d (.int i), .d (rt p q), .d (rt r s)] m2 = .ok (.d (low (pickT i p q r s) (pickB i p q r s))) ⟨[], m2⟩ := fun i b1 b2 b3 => v_due (k + 4) m2 hpq hrs b1 b2 b3
    have C : ∀ i : Int, 0 ≤ i → i < 4 → (i = 3 → r ≠ 0) → evalF g (k + 7) "_law_called" [.d (.int i), .d (rt p q), .d (rt r s)] m2 = .ok (.d (low (pickT i p q r s) (pickB i p q r s))) ⟨[], m2⟩ := fun i b1 b2 b3 => called_v (k + 2) (v_pick (k + 2) m2 hpq hrs b1 b2 b3).1
    have N : ∀ i : Int, 0 ≤ i → i < 4 → (i = 3 → r ≠ 0) → evalF g (k + 7) "_law_named" [.d (.int i), .d (rt p q), .d (rt r s)] m2 = .ok (.d (low (pickT i p q r s) (pickB i p q r s))) ⟨[], m2⟩ := fun i b1 b2 b3 => named_v (k + 2) (v_pick (k + 2) m2 hpq hrs b1 b2 b3).1
    have Sm := fun t b => v_same (k + 5) m2 t b
    have B := v_below (k + 3) m2 hpq hrs
    have T := fun b => v_truth (k + 6) m2 b
    have N4 : evalF g (k + 7) "_law_named" [.d (.int 4), .d (rt p q), .d (rt p q)] m2 = .ok (.d (.bool false)) ⟨[], m2⟩ := by
      have z := named_v (k + 2) (i := 4) (v_below (k + 2) m2 hpq hpq)
      simpa using z
    have M1 := Rt.mul hpq.sp hrs.sq
    have M2 := Rt.mul hrs.sp hpq.sq
    generalize hlow : low = lw at *
    by_cases hr : r = 0
    · subst hr
      refine ⟨_, ⟨[some (.d (.list (ns.map .int))), some (.ref 0), some (.d (.list kept)), o3, some (.d (rt p q)), some (.d (lw (pickT 2 p q 0 s) (pickB 2 p q 0 s))), some (.d (rt 0 s)), some (.d (.int 3)), o8, o9], m2⟩, rfl, ?_, ⟨_, _, _, _, _, _, _, _, rfl, I2.mono (by omega)⟩⟩
      rw [← hB2]
      simp [eb, rb, er, es, sSeq, sIf, sRet, sSet, sSetN, setS, setN, sExpr, sTup, setAll, evD, cVar, opd, resolve, cP1, cP2, cPN, cList, resolves, cTup, cLst, cFrz, cBoxN, cBoxV, cTru, truth, toB, cAnd, cOr, cNot, cAndV, cOrV, cNotV, cIf, cCh, fAdd, fSub, fCmpI, fNeg, fIsi, isT, fI, f1, f2, fLen, fInt, fTupleOf, fIx, cCall, doCall, cCallK, runF, exitF, Ob.data, sRaise, cNewL, modSlot, gPut, sPut, isLst, sAug, sAugIx, augF.fAugAdd, fGet, gApp, cApp, b2i, fAbs_v, fGcd_v, fEqI_v, fNeI_v, hk6, h1, hd, sFor, srcR1, r4, forL, tgName, D, C, N, Sm, B, T, N4, M1, M2, at0, at1]
    · refine ⟨_, ⟨[some (.d (.list (ns.map .int))), some (.ref 0), some (.d (.list kept)), o3, some (.d (rt p q)), some (.d (lw (pickT 3 p q r s) (pickB 3 p q r s))), some (.d (rt r s)), some (.d (.int 3)), o8, o9], m2⟩, rfl, ?_, ⟨_, _, _, _, _, _, _, _, rfl, I2.mono (by omega)⟩⟩
      rw [← hB2]
      simp [eb, rb, er, es, sSeq, sIf, sRet, sSet, sSetN, setS, setN, sExpr, sTup, setAll, evD, cVar, opd, resolve, cP1, cP2, cPN, cList, resolves, cTup, cLst, cFrz, cBoxN, cBoxV, cTru, truth, toB, cAnd, cOr, cNot, cAndV, cOrV, cNotV, cIf, cCh, fAdd, fSub, fCmpI, fNeg, fIsi, isT, fI, f1, f2, fLen, fInt, fTupleOf, fIx, cCall, doCall, cCallK, runF, exitF, Ob.data, sRaise, cNewL, modSlot, gPut, sPut, isLst, sAug, sAugIx, augF.fAugAdd, fGet, gApp, cApp, b2i, fAbs_v, fGcd_v, fEqI_v, fNeI_v, hk6, h1, hd, sFor, srcR1, r4, forL, tgName, D, C, N, Sm, B, T, N4, M1, M2, at0, at1, hr]
  obtain ⟨sB, e2, m2, p3, p4, p5, p6, p7, p8, p9, rfl, I2⟩ := L2
  obtain ⟨d1, hd1, in1⟩ := at_mem (xs := kept) (i := 1) (by decide) (by omega)
  obtain ⟨d2, hd2, in2⟩ := at_mem (xs := kept) (i := 2) (by decide) (by omega)
  obtain ⟨x1, y1, rfl, t1⟩ := K d1 in1
  obtain ⟨x2, y2, rfl, t2⟩ := K d2 in2
  obtain ⟨sD, hD⟩ := v_doors k I2 (by omega) t1 t2
  simp [eb, rb, er, es, sSeq, sIf, sRet, sSet, sSetN, setS, setN, sExpr, sTup, setAll, evD, cVar, opd, resolve, cP1, cP2, cPN, cList, resolves, cTup, cLst, cFrz, cBoxN, cBoxV, cTru, truth, toB, cAnd, cOr, cNot, cAndV, cOrV, cNotV, cIf, cCh, fAdd, fSub, fCmpI, fNeg, fIsi, isT, fI, f1, f2, fLen, fInt, fTupleOf, fIx, cCall, doCall, cCallK, runF, exitF, Ob.data, sRaise, cNewL, modSlot, gPut, sPut, isLst, sAug, sAugIx, augF.fAugAdd, fGet, gApp, cApp, b2i, fAbs_v, fGcd_v, fEqI_v, fNeI_v, hw, sFor, srcR1, srcSeq, r5, e1, e2, hd1, hd2, hD]
theorem law_true (ns : List Int) (h : ns.length ≤ 63) : ∃ s', evalF g 8 "law" [.d (.list (ns.map .int))] [] = .ok (.d (.bool true)) s' := law_v 0 ns h
end MP
namespace MP
open PySem PySem.Spec PyProof.Rows L2
def lawSp (K : PySem.W.Frag) : Sp := spF K (CLK ["BadRatio", "ZeroBottom"] K) 1 (evalF g 8 "law")
/-- what stands behind the top, and the promise of the law -/
theorem all_mk {P : Program} {w : World} {K : PySem.W.Frag} {h : Heap} {mg : Str → Option Value} {fa x_p_is_int x_p_lowest x_p_is_ratio x_p_need_ratio x_p_ratio x_p_plus x_p_minus x_p_product x_p_quotient x_p_below x_lgcd x_llowest x_ldraw x_lnumber x_lno_ratio x_lint x_lwell x_ltruth x_lcalled x_lnamed x_lword x_ldue x_lpair x_ldoors x_lsame x_law_ C_StepError C_BadRatio C_ZeroBottom : Addr} (X : K.In h) (G : h.Ns mainGlobals mg) (hfa : mg "law" = some (.ref fa))
    {od_p_is_int an_p_is_int od_p_lowest an_p_lowest od_p_is_ratio an_p_is_ratio od_p_need_ratio an_p_need_ratio od_p_ratio an_p_ratio od_p_plus an_p_plus od_p_minus an_p_minus od_p_product an_p_product od_p_quotient an_p_quotient od_p_below an_p_below od_lgcd an_lgcd od_llowest an_llowest od_ldraw an_ldraw od_lnumber an_lnumber od_lno_ratio an_lno_ratio od_lint an_lint od_lwell an_lwell od_ltruth an_ltruth od_lcalled an_lcalled od_lnamed an_lnamed od_lword an_lword od_ldue an_ldue od_lpair an_lpair od_ldoors an_ldoors od_lsame an_lsame od_law_ an_law_ : Option Addr} {sl_p_is_int sl_p_lowest sl_p_is_ratio sl_p_need_ratio sl_p_ratio sl_p_plus sl_p_minus sl_p_product sl_p_quotient sl_p_below sl_lgcd sl_llowest sl_ldraw sl_lnumber sl_lno_ratio sl_lint sl_lwell sl_ltruth sl_lcalled sl_lnamed sl_lword sl_ldue sl_lpair sl_ldoors sl_lsame sl_law_ : Array (Option Value)} {oc_p_is_int kV_p_is_int dc_p_is_int pm_p_is_int cd_p_is_int ct_p_is_int oc_p_lowest kV_p_lowest dc_p_lowest pm_p_lowest cd_p_lowest ct_p_lowest oc_p_is_ratio kV_p_is_ratio dc_p_is_ratio pm_p_is_ratio cd_p_is_ratio ct_p_is_ratio oc_p_need_ratio kV_p_need_ratio dc_p_need_ratio pm_p_need_ratio cd_p_need_ratio ct_p_need_ratio oc_p_ratio kV_p_ratio dc_p_ratio pm_p_ratio cd_p_ratio ct_p_ratio oc_p_plus kV_p_plus dc_p_plus pm_p_plus cd_p_plus ct_p_plus oc_p_minus kV_p_minus dc_p_minus pm_p_minus cd_p_minus ct_p_minus oc_p_product kV_p_product dc_p_product pm_p_product cd_p_product ct_p_product oc_p_quotient kV_p_quotient dc_p_quotient pm_p_quotient cd_p_quotient ct_p_quotient oc_p_below kV_p_below dc_p_below pm_p_below cd_p_below ct_p_below oc_lgcd kV_lgcd dc_lgcd pm_lgcd cd_lgcd ct_lgcd oc_llowest kV_llowest dc_llowest pm_llowest cd_llowest ct_llowest oc_ldraw kV_ldraw dc_ldraw pm_ldraw cd_ldraw ct_ldraw oc_lnumber kV_lnumber dc_lnumber pm_lnumber cd_lnumber ct_lnumber oc_lno_ratio kV_lno_ratio dc_lno_ratio pm_lno_ratio cd_lno_ratio ct_lno_ratio oc_lint kV_lint dc_lint pm_lint cd_lint ct_lint oc_lwell kV_lwell dc_lwell pm_lwell cd_lwell ct_lwell oc_ltruth kV_ltruth dc_ltruth pm_ltruth cd_ltruth ct_ltruth oc_lcalled kV_lcalled dc_lcalled pm_lcalled cd_lcalled ct_lcalled oc_lnamed kV_lnamed dc_lnamed pm_lnamed cd_lnamed ct_lnamed oc_lword kV_lword dc_lword pm_lword cd_lword ct_lword oc_ldue kV_ldue dc_ldue pm_ldue cd_ldue ct_ldue oc_lpair kV_lpair dc_lpair pm_lpair cd_lpair ct_lpair oc_ldoors kV_ldoors dc_ldoors pm_ldoors cd_ldoors ct_ldoors oc_lsame kV_lsame dc_lsame pm_lsame cd_lsame ct_lsame oc_law_ kV_law_ dc_law_ pm_law_ cd_law_ ct_law_ : Value}
    (a_p_is_int : PySem.W.nsIn K mainGlobals "is_int" = some (some (.ref x_p_is_int)))
    (l_p_is_int : K.lookup x_p_is_int = some ⟨oc_p_is_int, od_p_is_int, .func (PySem.W.fnOf "is_int" "is_int" (defArgs s_p_is_int) (defBody s_p_is_int) (defScope s_p_is_int) .none kV_p_is_int dc_p_is_int pm_p_is_int an_p_is_int cd_p_is_int ct_p_is_int), sl_p_is_int⟩)
    (c_0p_is_int : PySem.W.codeIn K cd_p_is_int "is_int" = true)
    (k_p_is_int : PySem.W.keepIn K (.ref x_p_is_int) = true)
    (a_p_lowest : PySem.W.nsIn K mainGlobals "lowest" = some (some (.ref x_p_lowest)))
    (l_p_lowest : K.lookup x_p_lowest = some ⟨oc_p_lowest, od_p_lowest, .func (PySem.W.fnOf "lowest" "lowest" (defArgs s_p_lowest) (defBody s_p_lowest) (defScope s_p_lowest) .none kV_p_lowest dc_p_lowest pm_p_lowest an_p_lowest cd_p_lowest ct_p_lowest), sl_p_lowest⟩)
    (c_0p_lowest : PySem.W.codeIn K cd_p_lowest "lowest" = true)
    (k_p_lowest : PySem.W.keepIn K (.ref x_p_lowest) = true)
    (a_p_is_ratio : PySem.W.nsIn K mainGlobals "is_ratio" = some (some (.ref x_p_is_ratio)))
    (l_p_is_ratio : K.lookup x_p_is_ratio = some ⟨oc_p_is_ratio, od_p_is_ratio, .func (PySem.W.fnOf "is_ratio" "is_ratio" (defArgs s_p_is_ratio) (defBody s_p_is_ratio) (defScope s_p_is_ratio) .none kV_p_is_ratio dc_p_is_ratio pm_p_is_ratio an_p_is_ratio cd_p_is_ratio ct_p_is_ratio), sl_p_is_ratio⟩)
    (c_0p_is_ratio : PySem.W.codeIn K cd_p_is_ratio "is_ratio" = true)
    (k_p_is_ratio : PySem.W.keepIn K (.ref x_p_is_ratio) = true)
    (a_p_need_ratio : PySem.W.nsIn K mainGlobals "need_ratio" = some (some (.ref x_p_need_ratio)))
    (l_p_need_ratio : K.lookup x_p_need_ratio = some ⟨oc_p_need_ratio, od_p_need_ratio, .func (PySem.W.fnOf "need_ratio" "need_ratio" (defArgs s_p_need_ratio) (defBody s_p_need_ratio) (defScope s_p_need_ratio) .none kV_p_need_ratio dc_p_need_ratio pm_p_need_ratio an_p_need_ratio cd_p_need_ratio ct_p_need_ratio), sl_p_need_ratio⟩)
    (c_0p_need_ratio : PySem.W.codeIn K cd_p_need_ratio "need_ratio" = true)
    (k_p_need_ratio : PySem.W.keepIn K (.ref x_p_need_ratio) = true)
    (a_p_ratio : PySem.W.nsIn K mainGlobals "ratio" = some (some (.ref x_p_ratio)))
    (l_p_ratio : K.lookup x_p_ratio = some ⟨oc_p_ratio, od_p_ratio, .func (PySem.W.fnOf "ratio" "ratio" (defArgs s_p_ratio) (defBody s_p_ratio) (defScope s_p_ratio) .none kV_p_ratio dc_p_ratio pm_p_ratio an_p_ratio cd_p_ratio ct_p_ratio), sl_p_ratio⟩)
    (c_0p_ratio : PySem.W.codeIn K cd_p_ratio "ratio" = true)
    (k_p_ratio : PySem.W.keepIn K (.ref x_p_ratio) = true)
    (a_p_plus : PySem.W.nsIn K mainGlobals "plus" = some (some (.ref x_p_plus)))
    (l_p_plus : K.lookup x_p_plus = some ⟨oc_p_plus, od_p_plus, .func (PySem.W.fnOf "plus" "plus" (defArgs s_p_plus) (defBody s_p_plus) (defScope s_p_plus) .none kV_p_plus dc_p_plus pm_p_plus an_p_plus cd_p_plus ct_p_plus), sl_p_plus⟩)
    (c_0p_plus : PySem.W.codeIn K cd_p_plus "plus" = true)
    (k_p_plus : PySem.W.keepIn K (.ref x_p_plus) = true)
    (a_p_minus : PySem.W.nsIn K mainGlobals "minus" = some (some (.ref x_p_minus)))
    (l_p_minus : K.lookup x_p_minus = some ⟨oc_p_minus, od_p_minus, .func (PySem.W.fnOf "minus" "minus" (defArgs s_p_minus) (defBody s_p_minus) (defScope s_p_minus) .none kV_p_minus dc_p_minus pm_p_minus an_p_minus cd_p_minus ct_p_minus), sl_p_minus⟩)
    (c_0p_minus : PySem.W.codeIn K cd_p_minus "minus" = true)
    (k_p_minus : PySem.W.keepIn K (.ref x_p_minus) = true)
    (a_p_product : PySem.W.nsIn K mainGlobals "product" = some (some (.ref x_p_product)))
    (l_p_product : K.lookup x_p_product = some ⟨oc_p_product, od_p_product, .func (PySem.W.fnOf "product" "product" (defArgs s_p_product) (defBody s_p_product) (defScope s_p_product) .none kV_p_product dc_p_product pm_p_product an_p_product cd_p_product ct_p_product), sl_p_product⟩)
    (c_0p_product : PySem.W.codeIn K cd_p_product "product" = true)
    (k_p_product : PySem.W.keepIn K (.ref x_p_product) = true)
    (a_p_quotient : PySem.W.nsIn K mainGlobals "quotient" = some (some (.ref x_p_quotient)))
    (l_p_quotient : K.lookup x_p_quotient = some ⟨oc_p_quotient, od_p_quotient, .func (PySem.W.fnOf "quotient" "quotient" (defArgs s_p_quotient) (defBody s_p_quotient) (defScope s_p_quotient) .none kV_p_quotient dc_p_quotient pm_p_quotient an_p_quotient cd_p_quotient ct_p_quotient), sl_p_quotient⟩)
    (c_0p_quotient : PySem.W.codeIn K cd_p_quotient "quotient" = true)
    (k_p_quotient : PySem.W.keepIn K (.ref x_p_quotient) = true)
    (a_p_below : PySem.W.nsIn K mainGlobals "below" = some (some (.ref x_p_below)))
    (l_p_below : K.lookup x_p_below = some ⟨oc_p_below, od_p_below, .func (PySem.W.fnOf "below" "below" (defArgs s_p_below) (defBody s_p_below) (defScope s_p_below) .none kV_p_below dc_p_below pm_p_below an_p_below cd_p_below ct_p_below), sl_p_below⟩)
    (c_0p_below : PySem.W.codeIn K cd_p_below "below" = true)
    (k_p_below : PySem.W.keepIn K (.ref x_p_below) = true)
    (a_lgcd : PySem.W.nsIn K mainGlobals "_law_gcd" = some (some (.ref x_lgcd)))
    (l_lgcd : K.lookup x_lgcd = some ⟨oc_lgcd, od_lgcd, .func (PySem.W.fnOf "_law_gcd" "_law_gcd" (defArgs s_lgcd) (defBody s_lgcd) (defScope s_lgcd) .none kV_lgcd dc_lgcd pm_lgcd an_lgcd cd_lgcd ct_lgcd), sl_lgcd⟩)
    (c_0lgcd : PySem.W.codeIn K cd_lgcd "_law_gcd" = true)
    (k_lgcd : PySem.W.keepIn K (.ref x_lgcd) = true)
    (a_llowest : PySem.W.nsIn K mainGlobals "_law_lowest" = some (some (.ref x_llowest)))
    (l_llowest : K.lookup x_llowest = some ⟨oc_llowest, od_llowest, .func (PySem.W.fnOf "_law_lowest" "_law_lowest" (defArgs s_llowest) (defBody s_llowest) (defScope s_llowest) .none kV_llowest dc_llowest pm_llowest an_llowest cd_llowest ct_llowest), sl_llowest⟩)
    (c_0llowest : PySem.W.codeIn K cd_llowest "_law_lowest" = true)
    (k_llowest : PySem.W.keepIn K (.ref x_llowest) = true)
    (a_ldraw : PySem.W.nsIn K mainGlobals "_law_draw" = some (some (.ref x_ldraw)))
    (l_ldraw : K.lookup x_ldraw = some ⟨oc_ldraw, od_ldraw, .func (PySem.W.fnOf "_law_draw" "_law_draw" (defArgs s_ldraw) (defBody s_ldraw) (defScope s_ldraw) .none kV_ldraw dc_ldraw pm_ldraw an_ldraw cd_ldraw ct_ldraw), sl_ldraw⟩)
    (c_0ldraw : PySem.W.codeIn K cd_ldraw "_law_draw" = true)
    (k_ldraw : PySem.W.keepIn K (.ref x_ldraw) = true)
    (a_lnumber : PySem.W.nsIn K mainGlobals "_law_number" = some (some (.ref x_lnumber)))
    (l_lnumber : K.lookup x_lnumber = some ⟨oc_lnumber, od_lnumber, .func (PySem.W.fnOf "_law_number" "_law_number" (defArgs s_lnumber) (defBody s_lnumber) (defScope s_lnumber) .none kV_lnumber dc_lnumber pm_lnumber an_lnumber cd_lnumber ct_lnumber), sl_lnumber⟩)
    (c_0lnumber : PySem.W.codeIn K cd_lnumber "_law_number" = true)
    (k_lnumber : PySem.W.keepIn K (.ref x_lnumber) = true)
    (a_lno_ratio : PySem.W.nsIn K mainGlobals "_law_no_ratio" = some (some (.ref x_lno_ratio)))
    (l_lno_ratio : K.lookup x_lno_ratio = some ⟨oc_lno_ratio, od_lno_ratio, .func (PySem.W.fnOf "_law_no_ratio" "_law_no_ratio" (defArgs s_lno_ratio) (defBody s_lno_ratio) (defScope s_lno_ratio) .none kV_lno_ratio dc_lno_ratio pm_lno_ratio an_lno_ratio cd_lno_ratio ct_lno_ratio), sl_lno_ratio⟩)
    (c_0lno_ratio : PySem.W.codeIn K cd_lno_ratio "_law_no_ratio" = true)
    (k_lno_ratio : PySem.W.keepIn K (.ref x_lno_ratio) = true)
    (a_lint : PySem.W.nsIn K mainGlobals "_law_int" = some (some (.ref x_lint)))
    (l_lint : K.lookup x_lint = some ⟨oc_lint, od_lint, .func (PySem.W.fnOf "_law_int" "_law_int" (defArgs s_lint) (defBody s_lint) (defScope s_lint) .none kV_lint dc_lint pm_lint an_lint cd_lint ct_lint), sl_lint⟩)
    (c_0lint : PySem.W.codeIn K cd_lint "_law_int" = true)
    (k_lint : PySem.W.keepIn K (.ref x_lint) = true)
    (a_lwell : PySem.W.nsIn K mainGlobals "_law_well" = some (some (.ref x_lwell)))
    (l_lwell : K.lookup x_lwell = some ⟨oc_lwell, od_lwell, .func (PySem.W.fnOf "_law_well" "_law_well" (defArgs s_lwell) (defBody s_lwell) (defScope s_lwell) .none kV_lwell dc_lwell pm_lwell an_lwell cd_lwell ct_lwell), sl_lwell⟩)
    (c_0lwell : PySem.W.codeIn K cd_lwell "_law_well" = true)
    (k_lwell : PySem.W.keepIn K (.ref x_lwell) = true)
    (a_ltruth : PySem.W.nsIn K mainGlobals "_law_truth" = some (some (.ref x_ltruth)))
    (l_ltruth : K.lookup x_ltruth = some ⟨oc_ltruth, od_ltruth, .func (PySem.W.fnOf "_law_truth" "_law_truth" (defArgs s_ltruth) (defBody s_ltruth) (defScope s_ltruth) .none kV_ltruth dc_ltruth pm_ltruth an_ltruth cd_ltruth ct_ltruth), sl_ltruth⟩)
    (c_0ltruth : PySem.W.codeIn K cd_ltruth "_law_truth" = true)
    (k_ltruth : PySem.W.keepIn K (.ref x_ltruth) = true)
    (a_lcalled : PySem.W.nsIn K mainGlobals "_law_called" = some (some (.ref x_lcalled)))
    (l_lcalled : K.lookup x_lcalled = some ⟨oc_lcalled, od_lcalled, .func (PySem.W.fnOf "_law_called" "_law_called" (defArgs s_lcalled) (defBody s_lcalled) (defScope s_lcalled) .none kV_lcalled dc_lcalled pm_lcalled an_lcalled cd_lcalled ct_lcalled), sl_lcalled⟩)
    (c_0lcalled : PySem.W.codeIn K cd_lcalled "_law_called" = true)
    (k_lcalled : PySem.W.keepIn K (.ref x_lcalled) = true)
    (a_lnamed : PySem.W.nsIn K mainGlobals "_law_named" = some (some (.ref x_lnamed)))
    (l_lnamed : K.lookup x_lnamed = some ⟨oc_lnamed, od_lnamed, .func (PySem.W.fnOf "_law_named" "_law_named" (defArgs s_lnamed) (defBody s_lnamed) (defScope s_lnamed) .none kV_lnamed dc_lnamed pm_lnamed an_lnamed cd_lnamed ct_lnamed), sl_lnamed⟩)
    (c_0lnamed : PySem.W.codeIn K cd_lnamed "_law_named" = true)
    (k_lnamed : PySem.W.keepIn K (.ref x_lnamed) = true)
    (a_lword : PySem.W.nsIn K mainGlobals "_law_word" = some (some (.ref x_lword)))
    (l_lword : K.lookup x_lword = some ⟨oc_lword, od_lword, .func (PySem.W.fnOf "_law_word" "_law_word" (defArgs s_lword) (defBody s_lword) (defScope s_lword) .none kV_lword dc_lword pm_lword an_lword cd_lword ct_lword), sl_lword⟩)
    (c_0lword : PySem.W.codeIn K cd_lword "_law_word" = true)
    (k_lword : PySem.W.keepIn K (.ref x_lword) = true)
    (a_ldue : PySem.W.nsIn K mainGlobals "_law_due" = some (some (.ref x_ldue)))
    (l_ldue : K.lookup x_ldue = some ⟨oc_ldue, od_ldue, .func (PySem.W.fnOf "_law_due" "_law_due" (defArgs s_ldue) (defBody s_ldue) (defScope s_ldue) .none kV_ldue dc_ldue pm_ldue an_ldue cd_ldue ct_ldue), sl_ldue⟩)
    (c_0ldue : PySem.W.codeIn K cd_ldue "_law_due" = true)
    (k_ldue : PySem.W.keepIn K (.ref x_ldue) = true)
    (a_lpair : PySem.W.nsIn K mainGlobals "_law_pair" = some (some (.ref x_lpair)))
    (l_lpair : K.lookup x_lpair = some ⟨oc_lpair, od_lpair, .func (PySem.W.fnOf "_law_pair" "_law_pair" (defArgs s_lpair) (defBody s_lpair) (defScope s_lpair) .none kV_lpair dc_lpair pm_lpair an_lpair cd_lpair ct_lpair), sl_lpair⟩)
    (c_0lpair : PySem.W.codeIn K cd_lpair "_law_pair" = true)
    (k_lpair : PySem.W.keepIn K (.ref x_lpair) = true)
    (a_ldoors : PySem.W.nsIn K mainGlobals "_law_doors" = some (some (.ref x_ldoors)))
    (l_ldoors : K.lookup x_ldoors = some ⟨oc_ldoors, od_ldoors, .func (PySem.W.fnOf "_law_doors" "_law_doors" (defArgs s_ldoors) (defBody s_ldoors) (defScope s_ldoors) .none kV_ldoors dc_ldoors pm_ldoors an_ldoors cd_ldoors ct_ldoors), sl_ldoors⟩)
    (c_0ldoors : PySem.W.codeIn K cd_ldoors "_law_doors" = true)
    (k_ldoors : PySem.W.keepIn K (.ref x_ldoors) = true)
    (a_lsame : PySem.W.nsIn K mainGlobals "_law_same" = some (some (.ref x_lsame)))
    (l_lsame : K.lookup x_lsame = some ⟨oc_lsame, od_lsame, .func (PySem.W.fnOf "_law_same" "_law_same" (defArgs s_lsame) (defBody s_lsame) (defScope s_lsame) .none kV_lsame dc_lsame pm_lsame an_lsame cd_lsame ct_lsame), sl_lsame⟩)
    (c_0lsame : PySem.W.codeIn K cd_lsame "_law_same" = true)
    (k_lsame : PySem.W.keepIn K (.ref x_lsame) = true)
    (a_law_ : PySem.W.nsIn K mainGlobals "law" = some (some (.ref x_law_)))
    (l_law_ : K.lookup x_law_ = some ⟨oc_law_, od_law_, .func (PySem.W.fnOf "law" "law" (defArgs s_law_) (defBody s_law_) (defScope s_law_) .none kV_law_ dc_law_ pm_law_ an_law_ cd_law_ ct_law_), sl_law_⟩)
    (c_0law_ : PySem.W.codeIn K cd_law_ "law" = true)
    (k_law_ : PySem.W.keepIn K (.ref x_law_) = true)
    (ac_StepError : PySem.W.nsIn K mainGlobals "StepError" = some (some (.ref C_StepError)))
    (ac_BadRatio : PySem.W.nsIn K mainGlobals "BadRatio" = some (some (.ref C_BadRatio)))
    (ac_ZeroBottom : PySem.W.nsIn K mainGlobals "ZeroBottom" = some (some (.ref C_ZeroBottom)))
    (kc_BadRatio : PySem.W.keepIn K (.ref C_BadRatio) = true)
    (sc_BadRatio : PySem.W.subIn K (.ref C_BadRatio) (.type "BaseException") = some true)
    (tc_BadRatio : PySem.W.typeIn K (.ref C_BadRatio) = some (.type "type"))
    (xc_BadRatio : PySem.W.excIn K C_BadRatio [.type "ValueError", .type "Exception", .type "BaseException", .type "object"] "ValueError.__new__" = true)
    (g1_BadRatio : PySem.W.findIn K (.ref C_BadRatio) "__getattribute__" = some (some (.builtin "BaseException.__getattribute__")))
    (g2_BadRatio : PySem.W.findIn K (.ref C_BadRatio) "__getattr__" = some none)
    (g4_BadRatio : PySem.W.hasDictIn K C_BadRatio = true)
    (g8_BadRatio : PySem.W.mroIn K C_BadRatio (.type "object") = some true)
    (g5_BadRatio : PySem.W.findIn K (.ref C_BadRatio) "__class__" = some (some (.builtin "object.__class__")))
    (ki_BadRatio_BadRatio : PySem.W.kitOne K (.ref C_BadRatio) (.ref C_BadRatio) = some true)
    (ex_BadRatio_BadRatio : PySem.W.exmOne K (.ref C_BadRatio) (.ref C_BadRatio) = some true)
    (ki_BadRatio_ZeroBottom : PySem.W.kitOne K (.ref C_BadRatio) (.ref C_ZeroBottom) = some false)
    (ex_BadRatio_ZeroBottom : PySem.W.exmOne K (.ref C_BadRatio) (.ref C_ZeroBottom) = some false)
    (ki_BadRatio_StepError : PySem.W.kitOne K (.ref C_BadRatio) (.ref C_StepError) = some true)
    (ex_BadRatio_StepError : PySem.W.exmOne K (.ref C_BadRatio) (.ref C_StepError) = some true)
    (ki_BadRatio_ValueError : PySem.W.kitOne K (.ref C_BadRatio) (.type "ValueError") = some true)
    (ex_BadRatio_ValueError : PySem.W.exmOne K (.ref C_BadRatio) (.type "ValueError") = some true)
    (kc_ZeroBottom : PySem.W.keepIn K (.ref C_ZeroBottom) = true)
    (sc_ZeroBottom : PySem.W.subIn K (.ref C_ZeroBottom) (.type "BaseException") = some true)
    (tc_ZeroBottom : PySem.W.typeIn K (.ref C_ZeroBottom) = some (.type "type"))
    (xc_ZeroBottom : PySem.W.excIn K C_ZeroBottom [.type "ValueError", .type "Exception", .type "BaseException", .type "object"] "ValueError.__new__" = true)
    (g1_ZeroBottom : PySem.W.findIn K (.ref C_ZeroBottom) "__getattribute__" = some (some (.builtin "BaseException.__getattribute__")))
    (g2_ZeroBottom : PySem.W.findIn K (.ref C_ZeroBottom) "__getattr__" = some none)
    (g4_ZeroBottom : PySem.W.hasDictIn K C_ZeroBottom = true)
    (g8_ZeroBottom : PySem.W.mroIn K C_ZeroBottom (.type "object") = some true)
    (g5_ZeroBottom : PySem.W.findIn K (.ref C_ZeroBottom) "__class__" = some (some (.builtin "object.__class__")))
    (ki_ZeroBottom_BadRatio : PySem.W.kitOne K (.ref C_ZeroBottom) (.ref C_BadRatio) = some false)
    (ex_ZeroBottom_BadRatio : PySem.W.exmOne K (.ref C_ZeroBottom) (.ref C_BadRatio) = some false)
    (ki_ZeroBottom_ZeroBottom : PySem.W.kitOne K (.ref C_ZeroBottom) (.ref C_ZeroBottom) = some true)
    (ex_ZeroBottom_ZeroBottom : PySem.W.exmOne K (.ref C_ZeroBottom) (.ref C_ZeroBottom) = some true)
    (ki_ZeroBottom_StepError : PySem.W.kitOne K (.ref C_ZeroBottom) (.ref C_StepError) = some true)
    (ex_ZeroBottom_StepError : PySem.W.exmOne K (.ref C_ZeroBottom) (.ref C_StepError) = some true)
    (ki_ZeroBottom_ValueError : PySem.W.kitOne K (.ref C_ZeroBottom) (.type "ValueError") = some true)
    (ex_ZeroBottom_ValueError : PySem.W.exmOne K (.ref C_ZeroBottom) (.type "ValueError") = some true)
    (gs_n : PySem.W.specialIn K (.builtin "object.__class__") "__get__" = some (some (.builtin "getset_descriptor.__get__")))
    (gs_t : PySem.W.takesIn K (.builtin "object.__class__") = some true)
    (z_isinstance : PySem.W.nsIn K mainGlobals "isinstance" = some none)
    (z_int : PySem.W.nsIn K mainGlobals "int" = some none)
    (z_bool : PySem.W.nsIn K mainGlobals "bool" = some none)
    (z_tuple : PySem.W.nsIn K mainGlobals "tuple" = some none)
    (z_len : PySem.W.nsIn K mainGlobals "len" = some none)
    (z_abs : PySem.W.nsIn K mainGlobals "abs" = some none)
    (z_list : PySem.W.nsIn K mainGlobals "list" = some none)
    (z_range : PySem.W.nsIn K mainGlobals "range" = some none)
    (z_ValueError : PySem.W.nsIn K mainGlobals "ValueError" = some none)
    (z_gcd : PySem.W.nsIn K mainGlobals "gcd" = some (some (.builtin "math.gcd")))
    : ∃ fd : FuncData, (∀ (s : Shared) (v : Value), BindsTo s fd ⟨[v], []⟩ [("_law_script", v)]) ∧ ∀ base : Heap, K.In base → base.Ns mainGlobals mg → FnOk P w K mg base (L2.CX P w) 8 fa fd ["_law_script"] (lawSp K) := by
  have e := hfa.symm.trans (PySem.W.mg_of X G a_law_)
  cases e
  have F_p_is_int := fun_mk (st := s_p_is_int) l_p_is_int c_0p_is_int k_p_is_int
  have T_p_is_int : TabIn K mg "is_int" f_p_is_int := tab_mk F_p_is_int (PySem.W.mg_of X G a_p_is_int) c_p_is_int rfl rfl (F_p_is_int.binds fun _ _ _ _ _ _ us hl => match us, hl with | [_], _ => rfl) (fun _ h => by cases h)
  have F_p_lowest := fun_mk (st := s_p_lowest) l_p_lowest c_0p_lowest k_p_lowest
  have T_p_lowest : TabIn K mg "lowest" f_p_lowest := tab_mk F_p_lowest (PySem.W.mg_of X G a_p_lowest) c_p_lowest rfl rfl (F_p_lowest.binds fun _ _ _ _ _ _ us hl => match us, hl with | [_, _], _ => rfl) (fun _ h => by cases h)
  have F_p_is_ratio := fun_mk (st := s_p_is_ratio) l_p_is_ratio c_0p_is_ratio k_p_is_ratio
  have T_p_is_ratio : TabIn K mg "is_ratio" f_p_is_ratio := tab_mk F_p_is_ratio (PySem.W.mg_of X G a_p_is_ratio) c_p_is_ratio rfl rfl (F_p_is_ratio.binds fun _ _ _ _ _ _ us hl => match us, hl with | [_], _ => rfl) (fun _ h => by cases h)
  have F_p_need_ratio := fun_mk (st := s_p_need_ratio) l_p_need_ratio c_0p_need_ratio k_p_need_ratio
  have T_p_need_ratio : TabIn K mg "need_ratio" f_p_need_ratio := tab_mk F_p_need_ratio (PySem.W.mg_of X G a_p_need_ratio) c_p_need_ratio rfl rfl (F_p_need_ratio.binds fun _ _ _ _ _ _ us hl => match us, hl with | [_], _ => rfl) (fun _ h => by cases h)
  have F_p_ratio := fun_mk (st := s_p_ratio) l_p_ratio c_0p_ratio k_p_ratio
  have T_p_ratio : TabIn K mg "ratio" f_p_ratio := tab_mk F_p_ratio (PySem.W.mg_of X G a_p_ratio) c_p_ratio rfl rfl (F_p_ratio.binds fun _ _ _ _ _ _ us hl => match us, hl with | [_, _], _ => rfl) (fun ks h => by
    simp only [f_p_ratio, List.mem_cons, List.not_mem_nil, or_false] at h
    subst h
    exact fun ws hl => match ws, hl with | [_, _], _ => rfl)
  have F_p_plus := fun_mk (st := s_p_plus) l_p_plus c_0p_plus k_p_plus
  have T_p_plus : TabIn K mg "plus" f_p_plus := tab_mk F_p_plus (PySem.W.mg_of X G a_p_plus) c_p_plus rfl rfl (F_p_plus.binds fun _ _ _ _ _ _ us hl => match us, hl with | [_, _], _ => rfl) (fun ks h => by
    simp only [f_p_plus, List.mem_cons, List.not_mem_nil, or_false] at h
    subst h
    exact fun ws hl => match ws, hl with | [_, _], _ => rfl)
  have F_p_minus := fun_mk (st := s_p_minus) l_p_minus c_0p_minus k_p_minus
  have T_p_minus : TabIn K mg "minus" f_p_minus := tab_mk F_p_minus (PySem.W.mg_of X G a_p_minus) c_p_minus rfl rfl (F_p_minus.binds fun _ _ _ _ _ _ us hl => match us, hl with | [_, _], _ => rfl) (fun ks h => by
    simp only [f_p_minus, List.mem_cons, List.not_mem_nil, or_false] at h
    subst h
    exact fun ws hl => match ws, hl with | [_, _], _ => rfl)
  have F_p_product := fun_mk (st := s_p_product) l_p_product c_0p_product k_p_product
  have T_p_product : TabIn K mg "product" f_p_product := tab_mk F_p_product (PySem.W.mg_of X G a_p_product) c_p_product rfl rfl (F_p_product.binds fun _ _ _ _ _ _ us hl => match us, hl with | [_, _], _ => rfl) (fun ks h => by
    simp only [f_p_product, List.mem_cons, List.not_mem_nil, or_false] at h
    subst h
    exact fun ws hl => match ws, hl with | [_, _], _ => rfl)
  have F_p_quotient := fun_mk (st := s_p_quotient) l_p_quotient c_0p_quotient k_p_quotient
  have T_p_quotient : TabIn K mg "quotient" f_p_quotient := tab_mk F_p_quotient (PySem.W.mg_of X G a_p_quotient) c_p_quotient rfl rfl (F_p_quotient.binds fun _ _ _ _ _ _ us hl => match us, hl with | [_, _], _ => rfl) (fun ks h => by
    simp only [f_p_quotient, List.mem_cons, List.not_mem_nil, or_false] at h
    subst h
    exact fun ws hl => match ws, hl with | [_, _], _ => rfl)
  have F_p_below := fun_mk (st := s_p_below) l_p_below c_0p_below k_p_below
  have T_p_below : TabIn K mg "below" f_p_below := tab_mk F_p_below (PySem.W.mg_of X G a_p_below) c_p_below rfl rfl (F_p_below.binds fun _ _ _ _ _ _ us hl => match us, hl with | [_, _], _ => rfl) (fun ks h => by
    simp only [f_p_below, List.mem_cons, List.not_mem_nil, or_false] at h
    subst h
    exact fun ws hl => match ws, hl with | [_, _], _ => rfl)
  have F_lgcd := fun_mk (st := s_lgcd) l_lgcd c_0lgcd k_lgcd
  have T_lgcd : TabIn K mg "_law_gcd" f_lgcd := tab_mk F_lgcd (PySem.W.mg_of X G a_lgcd) c_lgcd rfl rfl (F_lgcd.binds fun _ _ _ _ _ _ us hl => match us, hl with | [_, _], _ => rfl) (fun _ h => by cases h)
  have F_llowest := fun_mk (st := s_llowest) l_llowest c_0llowest k_llowest
  have T_llowest : TabIn K mg "_law_lowest" f_llowest := tab_mk F_llowest (PySem.W.mg_of X G a_llowest) c_llowest rfl rfl (F_llowest.binds fun _ _ _ _ _ _ us hl => match us, hl with | [_, _], _ => rfl) (fun _ h => by cases h)
  have F_ldraw := fun_mk (st := s_ldraw) l_ldraw c_0ldraw k_ldraw
  have T_ldraw : TabIn K mg "_law_draw" f_ldraw := tab_mk F_ldraw (PySem.W.mg_of X G a_ldraw) c_ldraw rfl rfl (F_ldraw.binds fun _ _ _ _ _ _ us hl => match us, hl with | [_, _], _ => rfl) (fun _ h => by cases h)
  have F_lnumber := fun_mk (st := s_lnumber) l_lnumber c_0lnumber k_lnumber
  have T_lnumber : TabIn K mg "_law_number" f_lnumber := tab_mk F_lnumber (PySem.W.mg_of X G a_lnumber) c_lnumber rfl rfl (F_lnumber.binds fun _ _ _ _ _ _ us hl => match us, hl with | [_], _ => rfl) (fun _ h => by cases h)
  have F_lno_ratio := fun_mk (st := s_lno_ratio) l_lno_ratio c_0lno_ratio k_lno_ratio
  have T_lno_ratio : TabIn K mg "_law_no_ratio" f_lno_ratio := tab_mk F_lno_ratio (PySem.W.mg_of X G a_lno_ratio) c_lno_ratio rfl rfl (F_lno_ratio.binds fun _ _ _ _ _ _ us hl => match us, hl with | [_], _ => rfl) (fun _ h => by cases h)
  have F_lint := fun_mk (st := s_lint) l_lint c_0lint k_lint
  have T_lint : TabIn K mg "_law_int" f_lint := tab_mk F_lint (PySem.W.mg_of X G a_lint) c_lint rfl rfl (F_lint.binds fun _ _ _ _ _ _ us hl => match us, hl with | [_], _ => rfl) (fun _ h => by cases h)
  have F_lwell := fun_mk (st := s_lwell) l_lwell c_0lwell k_lwell
  have T_lwell : TabIn K mg "_law_well" f_lwell := tab_mk F_lwell (PySem.W.mg_of X G a_lwell) c_lwell rfl rfl (F_lwell.binds fun _ _ _ _ _ _ us hl => match us, hl with | [_, _], _ => rfl) (fun _ h => by cases h)
  have F_ltruth := fun_mk (st := s_ltruth) l_ltruth c_0ltruth k_ltruth
  have T_ltruth : TabIn K mg "_law_truth" f_ltruth := tab_mk F_ltruth (PySem.W.mg_of X G a_ltruth) c_ltruth rfl rfl (F_ltruth.binds fun _ _ _ _ _ _ us hl => match us, hl with | [_, _], _ => rfl) (fun _ h => by cases h)
  have F_lcalled := fun_mk (st := s_lcalled) l_lcalled c_0lcalled k_lcalled
  have T_lcalled : TabIn K mg "_law_called" f_lcalled := tab_mk F_lcalled (PySem.W.mg_of X G a_lcalled) c_lcalled rfl rfl (F_lcalled.binds fun _ _ _ _ _ _ us hl => match us, hl with | [_, _, _], _ => rfl) (fun _ h => by cases h)
  have F_lnamed := fun_mk (st := s_lnamed) l_lnamed c_0lnamed k_lnamed
  have T_lnamed : TabIn K mg "_law_named" f_lnamed := tab_mk F_lnamed (PySem.W.mg_of X G a_lnamed) c_lnamed rfl rfl (F_lnamed.binds fun _ _ _ _ _ _ us hl => match us, hl with | [_, _, _], _ => rfl) (fun _ h => by cases h)
  have F_lword := fun_mk (st := s_lword) l_lword c_0lword k_lword
  have T_lword : TabIn K mg "_law_word" f_lword := tab_mk F_lword (PySem.W.mg_of X G a_lword) c_lword rfl rfl (F_lword.binds fun _ _ _ _ _ _ us hl => match us, hl with | [_, _, _], _ => rfl) (fun _ h => by cases h)
  have F_ldue := fun_mk (st := s_ldue) l_ldue c_0ldue k_ldue
  have T_ldue : TabIn K mg "_law_due" f_ldue := tab_mk F_ldue (PySem.W.mg_of X G a_ldue) c_ldue rfl rfl (F_ldue.binds fun _ _ _ _ _ _ us hl => match us, hl with | [_, _, _], _ => rfl) (fun _ h => by cases h)
  have F_lpair := fun_mk (st := s_lpair) l_lpair c_0lpair k_lpair
  have T_lpair : TabIn K mg "_law_pair" f_lpair := tab_mk F_lpair (PySem.W.mg_of X G a_lpair) c_lpair rfl rfl (F_lpair.binds fun _ _ _ _ _ _ us hl => match us, hl with | [_], _ => rfl) (fun _ h => by cases h)
  have F_ldoors := fun_mk (st := s_ldoors) l_ldoors c_0ldoors k_ldoors
  have T_ldoors : TabIn K mg "_law_doors" f_ldoors := tab_mk F_ldoors (PySem.W.mg_of X G a_ldoors) c_ldoors rfl rfl (F_ldoors.binds fun _ _ _ _ _ _ us hl => match us, hl with | [_, _, _], _ => rfl) (fun _ h => by cases h)
  have F_lsame := fun_mk (st := s_lsame) l_lsame c_0lsame k_lsame
  have T_lsame : TabIn K mg "_law_same" f_lsame := tab_mk F_lsame (PySem.W.mg_of X G a_lsame) c_lsame rfl rfl (F_lsame.binds fun _ _ _ _ _ _ us hl => match us, hl with | [_, _], _ => rfl) (fun _ h => by cases h)
  have F_law_ := fun_mk (st := s_law_) l_law_ c_0law_ k_law_
  have T_law_ : TabIn K mg "law" f_law_ := tab_mk F_law_ (PySem.W.mg_of X G a_law_) c_law_ rfl rfl (F_law_.binds fun _ _ _ _ _ _ us hl => match us, hl with | [_], _ => rfl) (fun _ h => by cases h)
  have hT : ∀ f F, g.fns.lookup f = some F → TabIn K mg f F := (tab_cons T_p_is_int (tab_cons T_p_lowest (tab_cons T_p_is_ratio (tab_cons T_p_need_ratio (tab_cons T_p_ratio (tab_cons T_p_plus (tab_cons T_p_minus (tab_cons T_p_product (tab_cons T_p_quotient (tab_cons T_p_below (tab_cons T_lgcd (tab_cons T_llowest (tab_cons T_ldraw (tab_cons T_lnumber (tab_cons T_lno_ratio (tab_cons T_lint (tab_cons T_lwell (tab_cons T_ltruth (tab_cons T_lcalled (tab_cons T_lnamed (tab_cons T_lword (tab_cons T_ldue (tab_cons T_lpair (tab_cons T_ldoors (tab_cons T_lsame (tab_cons T_law_ tab_nil))))))))))))))))))))))))))
  have E_BadRatio : ExcC K C_BadRatio := ⟨g1_BadRatio, g2_BadRatio, sc_BadRatio, g4_BadRatio, g5_BadRatio, gs_n, gs_t, g8_BadRatio⟩
  have E_ZeroBottom : ExcC K C_ZeroBottom := ⟨g1_ZeroBottom, g2_ZeroBottom, sc_ZeroBottom, g4_ZeroBottom, g5_ZeroBottom, gs_n, gs_t, g8_ZeroBottom⟩
  have hx : ∀ x, g.excs.contains x = true → XInG K (CLK ["BadRatio", "ZeroBottom"] K) mg x := (con_cons (p := XInG K (CLK ["BadRatio", "ZeroBottom"] K) mg) ⟨C_BadRatio, PySem.W.mg_of X G ac_BadRatio, ⟨by simp, ac_BadRatio⟩, kc_BadRatio, sc_BadRatio, tc_BadRatio, xc_BadRatio⟩ (con_cons (p := XInG K (CLK ["BadRatio", "ZeroBottom"] K) mg) ⟨C_ZeroBottom, PySem.W.mg_of X G ac_ZeroBottom, ⟨by simp, ac_ZeroBottom⟩, kc_ZeroBottom, sc_ZeroBottom, tc_ZeroBottom, xc_ZeroBottom⟩ con_nil))
  have I_BadRatio : ∃ v u, ClsV mg "BadRatio" u ∧ RelV v u ∧ (∀ w, RelV v w → w = u) ∧ ∀ cn C, (CLK ["BadRatio", "ZeroBottom"] K).cl cn C → ExcC K C ∧ ∀ b, g.tab cn "BadRatio" = some b → PySem.W.kitOne K (.ref C) u = some b := by
    refine ⟨V.ref C_BadRatio, (.ref C_BadRatio), .inl (PySem.W.mg_of X G ac_BadRatio), rfl, fun w h => h, fun cn C hC => ?_⟩
    have hm := hC.1
    simp only [List.mem_cons, List.not_mem_nil, or_false] at hm
    rcases hm with hm | hm
    · subst hm
      obtain rfl := clk_at hC ac_BadRatio
      have e : g.tab "BadRatio" "BadRatio" = some true := by kernel_rfl
      exact ⟨E_BadRatio, fun b h => by rw [e] at h; cases h; exact ki_BadRatio_BadRatio⟩
    · subst hm
      obtain rfl := clk_at hC ac_ZeroBottom
      have e : g.tab "ZeroBottom" "BadRatio" = some false := by kernel_rfl
      exact ⟨E_ZeroBottom, fun b h => by rw [e] at h; cases h; exact ki_ZeroBottom_BadRatio⟩

  have J_BadRatio : ∃ cv, ClsV mg "BadRatio" cv ∧ ∀ cls C b, (CLK ["BadRatio", "ZeroBottom"] K).cl cls C → g.tab cls "BadRatio" = some b → PySem.W.exmOne K (.ref C) cv = some b := by
    refine ⟨(.ref C_BadRatio), .inl (PySem.W.mg_of X G ac_BadRatio), fun cn C b hC h => ?_⟩
    have hm := hC.1
    simp only [List.mem_cons, List.not_mem_nil, or_false] at hm
    rcases hm with hm | hm
    · subst hm
      obtain rfl := clk_at hC ac_BadRatio
      have e : g.tab "BadRatio" "BadRatio" = some true := by kernel_rfl
      rw [e] at h; cases h; exact ex_BadRatio_BadRatio
    · subst hm
      obtain rfl := clk_at hC ac_ZeroBottom
      have e : g.tab "ZeroBottom" "BadRatio" = some false := by kernel_rfl
      rw [e] at h; cases h; exact ex_ZeroBottom_BadRatio

  have I_ZeroBottom : ∃ v u, ClsV mg "ZeroBottom" u ∧ RelV v u ∧ (∀ w, RelV v w → w = u) ∧ ∀ cn C, (CLK ["BadRatio", "ZeroBottom"] K).cl cn C → ExcC K C ∧ ∀ b, g.tab cn "ZeroBottom" = some b → PySem.W.kitOne K (.ref C) u = some b := by
    refine ⟨V.ref C_ZeroBottom, (.ref C_ZeroBottom), .inl (PySem.W.mg_of X G ac_ZeroBottom), rfl, fun w h => h, fun cn C hC => ?_⟩
    have hm := hC.1
    simp only [List.mem_cons, List.not_mem_nil, or_false] at hm
    rcases hm with hm | hm
    · subst hm
      obtain rfl := clk_at hC ac_BadRatio
      have e : g.tab "BadRatio" "ZeroBottom" = some false := by kernel_rfl
      exact ⟨E_BadRatio, fun b h => by rw [e] at h; cases h; exact ki_BadRatio_ZeroBottom⟩
    · subst hm
      obtain rfl := clk_at hC ac_ZeroBottom
      have e : g.tab "ZeroBottom" "ZeroBottom" = some true := by kernel_rfl
      exact ⟨E_ZeroBottom, fun b h => by rw [e] at h; cases h; exact ki_ZeroBottom_ZeroBottom⟩

  have J_ZeroBottom : ∃ cv, ClsV mg "ZeroBottom" cv ∧ ∀ cls C b, (CLK ["BadRatio", "ZeroBottom"] K).cl cls C → g.tab cls "ZeroBottom" = some b → PySem.W.exmOne K (.ref C) cv = some b := by
    refine ⟨(.ref C_ZeroBottom), .inl (PySem.W.mg_of X G ac_ZeroBottom), fun cn C b hC h => ?_⟩
    have hm := hC.1
    simp only [List.mem_cons, List.not_mem_nil, or_false] at hm
    rcases hm with hm | hm
    · subst hm
      obtain rfl := clk_at hC ac_BadRatio
      have e : g.tab "BadRatio" "ZeroBottom" = some false := by kernel_rfl
      rw [e] at h; cases h; exact ex_BadRatio_ZeroBottom
    · subst hm
      obtain rfl := clk_at hC ac_ZeroBottom
      have e : g.tab "ZeroBottom" "ZeroBottom" = some true := by kernel_rfl
      rw [e] at h; cases h; exact ex_ZeroBottom_ZeroBottom

  have I_StepError : ∃ v u, ClsV mg "StepError" u ∧ RelV v u ∧ (∀ w, RelV v w → w = u) ∧ ∀ cn C, (CLK ["BadRatio", "ZeroBottom"] K).cl cn C → ExcC K C ∧ ∀ b, g.tab cn "StepError" = some b → PySem.W.kitOne K (.ref C) u = some b := by
    refine ⟨V.ref C_StepError, (.ref C_StepError), .inl (PySem.W.mg_of X G ac_StepError), rfl, fun w h => h, fun cn C hC => ?_⟩
    have hm := hC.1
    simp only [List.mem_cons, List.not_mem_nil, or_false] at hm
    rcases hm with hm | hm
    · subst hm
      obtain rfl := clk_at hC ac_BadRatio
      have e : g.tab "BadRatio" "StepError" = some true := by kernel_rfl
      exact ⟨E_BadRatio, fun b h => by rw [e] at h; cases h; exact ki_BadRatio_StepError⟩
    · subst hm
      obtain rfl := clk_at hC ac_ZeroBottom
      have e : g.tab "ZeroBottom" "StepError" = some true := by kernel_rfl
      exact ⟨E_ZeroBottom, fun b h => by rw [e] at h; cases h; exact ki_ZeroBottom_StepError⟩

  have J_StepError : ∃ cv, ClsV mg "StepError" cv ∧ ∀ cls C b, (CLK ["BadRatio", "ZeroBottom"] K).cl cls C → g.tab cls "StepError" = some b → PySem.W.exmOne K (.ref C) cv = some b := by
    refine ⟨(.ref C_StepError), .inl (PySem.W.mg_of X G ac_StepError), fun cn C b hC h => ?_⟩
    have hm := hC.1
    simp only [List.mem_cons, List.not_mem_nil, or_false] at hm
    rcases hm with hm | hm
    · subst hm
      obtain rfl := clk_at hC ac_BadRatio
      have e : g.tab "BadRatio" "StepError" = some true := by kernel_rfl
      rw [e] at h; cases h; exact ex_BadRatio_StepError
    · subst hm
      obtain rfl := clk_at hC ac_ZeroBottom
      have e : g.tab "ZeroBottom" "StepError" = some true := by kernel_rfl
      rw [e] at h; cases h; exact ex_ZeroBottom_StepError

  have I_ValueError : ∃ v u, ClsV mg "ValueError" u ∧ RelV v u ∧ (∀ w, RelV v w → w = u) ∧ ∀ cn C, (CLK ["BadRatio", "ZeroBottom"] K).cl cn C → ExcC K C ∧ ∀ b, g.tab cn "ValueError" = some b → PySem.W.kitOne K (.ref C) u = some b := by
    refine ⟨V.ty "ValueError", (.type "ValueError"), .inr ⟨PySem.W.mg_none_of X G z_ValueError, by kernel_rfl, by decide +kernel⟩, rfl, fun w h => h, fun cn C hC => ?_⟩
    have hm := hC.1
    simp only [List.mem_cons, List.not_mem_nil, or_false] at hm
    rcases hm with hm | hm
    · subst hm
      obtain rfl := clk_at hC ac_BadRatio
      have e : g.tab "BadRatio" "ValueError" = some true := by kernel_rfl
      exact ⟨E_BadRatio, fun b h => by rw [e] at h; cases h; exact ki_BadRatio_ValueError⟩
    · subst hm
      obtain rfl := clk_at hC ac_ZeroBottom
      have e : g.tab "ZeroBottom" "ValueError" = some true := by kernel_rfl
      exact ⟨E_ZeroBottom, fun b h => by rw [e] at h; cases h; exact ki_ZeroBottom_ValueError⟩

  have J_ValueError : ∃ cv, ClsV mg "ValueError" cv ∧ ∀ cls C b, (CLK ["BadRatio", "ZeroBottom"] K).cl cls C → g.tab cls "ValueError" = some b → PySem.W.exmOne K (.ref C) cv = some b := by
    refine ⟨(.type "ValueError"), .inr ⟨PySem.W.mg_none_of X G z_ValueError, by kernel_rfl, by decide +kernel⟩, fun cn C b hC h => ?_⟩
    have hm := hC.1
    simp only [List.mem_cons, List.not_mem_nil, or_false] at hm
    rcases hm with hm | hm
    · subst hm
      obtain rfl := clk_at hC ac_BadRatio
      have e : g.tab "BadRatio" "ValueError" = some true := by kernel_rfl
      rw [e] at h; cases h; exact ex_BadRatio_ValueError
    · subst hm
      obtain rfl := clk_at hC ac_ZeroBottom
      have e : g.tab "ZeroBottom" "ValueError" = some true := by kernel_rfl
      rw [e] at h; cases h; exact ex_ZeroBottom_ValueError

  have hg : Glob K (CLK ["BadRatio", "ZeroBottom"] K) mg g := ⟨cst_nil, (con_cons (p := fun x => mg x = none) (PySem.W.mg_none_of X G z_isinstance) (con_cons (p := fun x => mg x = none) (PySem.W.mg_none_of X G z_int) (con_cons (p := fun x => mg x = none) (PySem.W.mg_none_of X G z_bool) (con_cons (p := fun x => mg x = none) (PySem.W.mg_none_of X G z_tuple) (con_cons (p := fun x => mg x = none) (PySem.W.mg_none_of X G z_len) (con_cons (p := fun x => mg x = none) (PySem.W.mg_none_of X G z_abs) (con_cons (p := fun x => mg x = none) (PySem.W.mg_none_of X G z_list) (con_cons (p := fun x => mg x = none) (PySem.W.mg_none_of X G z_range) con_nil)))))))), (con_cons (p := fun x => mg x = some (.builtin "math.gcd")) (PySem.W.mg_of X G z_gcd) con_nil), (con_cons (p := fun x => ∃ v u, ClsV mg x u ∧ RelV v u ∧ (∀ w, RelV v w → w = u) ∧ ∀ cn C, (CLK ["BadRatio", "ZeroBottom"] K).cl cn C → ExcC K C ∧ ∀ b, g.tab cn x = some b → PySem.W.kitOne K (.ref C) u = some b) I_BadRatio (con_cons (p := fun x => ∃ v u, ClsV mg x u ∧ RelV v u ∧ (∀ w, RelV v w → w = u) ∧ ∀ cn C, (CLK ["BadRatio", "ZeroBottom"] K).cl cn C → ExcC K C ∧ ∀ b, g.tab cn x = some b → PySem.W.kitOne K (.ref C) u = some b) I_ZeroBottom (con_cons (p := fun x => ∃ v u, ClsV mg x u ∧ RelV v u ∧ (∀ w, RelV v w → w = u) ∧ ∀ cn C, (CLK ["BadRatio", "ZeroBottom"] K).cl cn C → ExcC K C ∧ ∀ b, g.tab cn x = some b → PySem.W.kitOne K (.ref C) u = some b) I_StepError (con_cons (p := fun x => ∃ v u, ClsV mg x u ∧ RelV v u ∧ (∀ w, RelV v w → w = u) ∧ ∀ cn C, (CLK ["BadRatio", "ZeroBottom"] K).cl cn C → ExcC K C ∧ ∀ b, g.tab cn x = some b → PySem.W.kitOne K (.ref C) u = some b) I_ValueError con_nil)))), (con_cons (p := fun x => ∃ cv, ClsV mg x cv ∧ ∀ cls C b, (CLK ["BadRatio", "ZeroBottom"] K).cl cls C → g.tab cls x = some b → PySem.W.exmOne K (.ref C) cv = some b) J_BadRatio (con_cons (p := fun x => ∃ cv, ClsV mg x cv ∧ ∀ cls C b, (CLK ["BadRatio", "ZeroBottom"] K).cl cls C → g.tab cls x = some b → PySem.W.exmOne K (.ref C) cv = some b) J_ZeroBottom (con_cons (p := fun x => ∃ cv, ClsV mg x cv ∧ ∀ cls C b, (CLK ["BadRatio", "ZeroBottom"] K).cl cls C → g.tab cls x = some b → PySem.W.exmOne K (.ref C) cv = some b) J_StepError (con_cons (p := fun x => ∃ cv, ClsV mg x cv ∧ ∀ cls C b, (CLK ["BadRatio", "ZeroBottom"] K).cl cls C → g.tab cls x = some b → PySem.W.exmOne K (.ref C) cv = some b) J_ValueError con_nil))))⟩
  exact ⟨_, fun s v => .of_eq rfl, fun base _ _ => fn_one hg hx hT q_law_ F_law_ c_law_ rfl rfl 7⟩
end MP
namespace MP
open PySem PySem.Spec PyProof.Rows L2
theorem law_start {K : PySem.W.Frag} {H : Hp} {a : Addr} {ns : List Int} (hl : ns.length ≤ 63) (hS : SqL K H a (ns.map V.int)) : lawSp K [.ref a] H (fun v _ => v = .bl true) (fun _ _ _ => False) := sp_start rfl hS (law_true ns hl)
end MP
open PySem PySem.W PyProof.Rows
set_option maxRecDepth 100000 in
set_option maxHeartbeats 0 in
theorem PySem.Challenge.cw_juststeps_k66_ratios_holds : PySem.Challenge.rw_juststeps_k66_ratios.Holds := by
  w_on; o_law; k_head; (case hw => w_witness2)
  k_fill
  refine L2.walk_of (l := PySem.Challenge.rw_juststeps_k66_ratios) (n := 63) (k := 8) (x := "_law_script") (CX := fun w => L2.CX (PySem.Challenge.rw_juststeps_k66_ratios).prog w) (sp := fun w => MP.lawSp _) rfl (by decide) rfl ⟨rfl, by decide, by decide⟩ (fun w h Y => PySem.W.kIn_of Y) ?F (fun w H a ns hl hO hS => MP.law_start hl hS) (fun _ _ _ _ _ z => MP.cx_no z)
  case F =>
    intro w mg fa h KX G hmg
    refine' MP.all_mk KX G hmg ?a_p_is_int ?l_p_is_int ?c_0p_is_int ?k_p_is_int ?a_p_lowest ?l_p_lowest ?c_0p_lowest ?k_p_lowest ?a_p_is_ratio ?l_p_is_ratio ?c_0p_is_ratio ?k_p_is_ratio ?a_p_need_ratio ?l_p_need_ratio ?c_0p_need_ratio ?k_p_need_ratio ?a_p_ratio ?l_p_ratio ?c_0p_ratio ?k_p_ratio ?a_p_plus ?l_p_plus ?c_0p_plus ?k_p_plus ?a_p_minus ?l_p_minus ?c_0p_minus ?k_p_minus ?a_p_product ?l_p_product ?c_0p_product ?k_p_product ?a_p_quotient ?l_p_quotient ?c_0p_quotient ?k_p_quotient ?a_p_below ?l_p_below ?c_0p_below ?k_p_below ?a_lgcd ?l_lgcd ?c_0lgcd ?k_lgcd ?a_llowest ?l_llowest ?c_0llowest ?k_llowest ?a_ldraw ?l_ldraw ?c_0ldraw ?k_ldraw ?a_lnumber ?l_lnumber ?c_0lnumber ?k_lnumber ?a_lno_ratio ?l_lno_ratio ?c_0lno_ratio ?k_lno_ratio ?a_lint ?l_lint ?c_0lint ?k_lint ?a_lwell ?l_lwell ?c_0lwell ?k_lwell ?a_ltruth ?l_ltruth ?c_0ltruth ?k_ltruth ?a_lcalled ?l_lcalled ?c_0lcalled ?k_lcalled ?a_lnamed ?l_lnamed ?c_0lnamed ?k_lnamed ?a_lword ?l_lword ?c_0lword ?k_lword ?a_ldue ?l_ldue ?c_0ldue ?k_ldue ?a_lpair ?l_lpair ?c_0lpair ?k_lpair ?a_ldoors ?l_ldoors ?c_0ldoors ?k_ldoors ?a_lsame ?l_lsame ?c_0lsame ?k_lsame ?a_law_ ?l_law_ ?c_0law_ ?k_law_ ?ac_StepError ?ac_BadRatio ?ac_ZeroBottom ?kc_BadRatio ?sc_BadRatio ?tc_BadRatio ?xc_BadRatio ?g1_BadRatio ?g2_BadRatio ?g4_BadRatio ?g8_BadRatio ?g5_BadRatio ?ki_BadRatio_BadRatio ?ex_BadRatio_BadRatio ?ki_BadRatio_ZeroBottom ?ex_BadRatio_ZeroBottom ?ki_BadRatio_StepError ?ex_BadRatio_StepError ?ki_BadRatio_ValueError ?ex_BadRatio_ValueError ?kc_ZeroBottom ?sc_ZeroBottom ?tc_ZeroBottom ?xc_ZeroBottom ?g1_ZeroBottom ?g2_ZeroBottom ?g4_ZeroBottom ?g8_ZeroBottom ?g5_ZeroBottom ?ki_ZeroBottom_BadRatio ?ex_ZeroBottom_BadRatio ?ki_ZeroBottom_ZeroBottom ?ex_ZeroBottom_ZeroBottom ?ki_ZeroBottom_StepError ?ex_ZeroBottom_StepError ?ki_ZeroBottom_ValueError ?ex_ZeroBottom_ValueError ?gs_n ?gs_t ?z_isinstance ?z_int ?z_bool ?z_tuple ?z_len ?z_abs ?z_list ?z_range ?z_ValueError ?z_gcd
    (case a_p_is_int => first | k_is | kernel_rfl); (case l_p_is_int => first | k_is | kernel_rfl); (case c_0p_is_int => first | k_is | kernel_rfl); (case k_p_is_int => first | k_is | kernel_rfl); (case a_p_lowest => first | k_is | kernel_rfl); (case l_p_lowest => first | k_is | kernel_rfl)
    (case c_0p_lowest => first | k_is | kernel_rfl); (case k_p_lowest => first | k_is | kernel_rfl); (case a_p_is_ratio => first | k_is | kernel_rfl); (case l_p_is_ratio => first | k_is | kernel_rfl); (case c_0p_is_ratio => first | k_is | kernel_rfl); (case k_p_is_ratio => first | k_is | kernel_rfl)
    (case a_p_need_ratio => first | k_is | kernel_rfl); (case l_p_need_ratio => first | k_is | kernel_rfl); (case c_0p_need_ratio => first | k_is | kernel_rfl); (case k_p_need_ratio => first | k_is | kernel_rfl); (case a_p_ratio => first | k_is | kernel_rfl); (case l_p_ratio => first | k_is | kernel_rfl)
    (case c_0p_ratio => first | k_is | kernel_rfl); (case k_p_ratio => first | k_is | kernel_rfl); (case a_p_plus => first | k_is | kernel_rfl); (case l_p_plus => first | k_is | kernel_rfl); (case c_0p_plus => first | k_is | kernel_rfl); (case k_p_plus => first | k_is | kernel_rfl)
    (case a_p_minus => first | k_is | kernel_rfl); (case l_p_minus => first | k_is | kernel_rfl); (case c_0p_minus => first | k_is | kernel_rfl); (case k_p_minus => first | k_is | kernel_rfl); (case a_p_product => first | k_is | kernel_rfl); (case l_p_product => first | k_is | kernel_rfl)
    (case c_0p_product => first | k_is | kernel_rfl); (case k_p_product => first | k_is | kernel_rfl); (case a_p_quotient => first | k_is | kernel_rfl); (case l_p_quotient => first | k_is | kernel_rfl); (case c_0p_quotient => first | k_is | kernel_rfl); (case k_p_quotient => first | k_is | kernel_rfl)
    (case a_p_below => first | k_is | kernel_rfl); (case l_p_below => first | k_is | kernel_rfl); (case c_0p_below => first | k_is | kernel_rfl); (case k_p_below => first | k_is | kernel_rfl); (case a_lgcd => first | k_is | kernel_rfl); (case l_lgcd => first | k_is | kernel_rfl)
    (case c_0lgcd => first | k_is | kernel_rfl); (case k_lgcd => first | k_is | kernel_rfl); (case a_llowest => first | k_is | kernel_rfl); (case l_llowest => first | k_is | kernel_rfl); (case c_0llowest => first | k_is | kernel_rfl); (case k_llowest => first | k_is | kernel_rfl)
    (case a_ldraw => first | k_is | kernel_rfl); (case l_ldraw => first | k_is | kernel_rfl); (case c_0ldraw => first | k_is | kernel_rfl); (case k_ldraw => first | k_is | kernel_rfl); (case a_lnumber => first | k_is | kernel_rfl); (case l_lnumber => first | k_is | kernel_rfl)
    (case c_0lnumber => first | k_is | kernel_rfl); (case k_lnumber => first | k_is | kernel_rfl); (case a_lno_ratio => first | k_is | kernel_rfl); (case l_lno_ratio => first | k_is | kernel_rfl); (case c_0lno_ratio => first | k_is | kernel_rfl); (case k_lno_ratio => first | k_is | kernel_rfl)
    (case a_lint => first | k_is | kernel_rfl); (case l_lint => first | k_is | kernel_rfl); (case c_0lint => first | k_is | kernel_rfl); (case k_lint => first | k_is | kernel_rfl); (case a_lwell => first | k_is | kernel_rfl); (case l_lwell => first | k_is | kernel_rfl)
    (case c_0lwell => first | k_is | kernel_rfl); (case k_lwell => first | k_is | kernel_rfl); (case a_ltruth => first | k_is | kernel_rfl); (case l_ltruth => first | k_is | kernel_rfl); (case c_0ltruth => first | k_is | kernel_rfl); (case k_ltruth => first | k_is | kernel_rfl)
    (case a_lcalled => first | k_is | kernel_rfl); (case l_lcalled => first | k_is | kernel_rfl); (case c_0lcalled => first | k_is | kernel_rfl); (case k_lcalled => first | k_is | kernel_rfl); (case a_lnamed => first | k_is | kernel_rfl); (case l_lnamed => first | k_is | kernel_rfl)
    (case c_0lnamed => first | k_is | kernel_rfl); (case k_lnamed => first | k_is | kernel_rfl); (case a_lword => first | k_is | kernel_rfl); (case l_lword => first | k_is | kernel_rfl); (case c_0lword => first | k_is | kernel_rfl); (case k_lword => first | k_is | kernel_rfl)
    (case a_ldue => first | k_is | kernel_rfl); (case l_ldue => first | k_is | kernel_rfl); (case c_0ldue => first | k_is | kernel_rfl); (case k_ldue => first | k_is | kernel_rfl); (case a_lpair => first | k_is | kernel_rfl); (case l_lpair => first | k_is | kernel_rfl)
    (case c_0lpair => first | k_is | kernel_rfl); (case k_lpair => first | k_is | kernel_rfl); (case a_ldoors => first | k_is | kernel_rfl); (case l_ldoors => first | k_is | kernel_rfl); (case c_0ldoors => first | k_is | kernel_rfl); (case k_ldoors => first | k_is | kernel_rfl)
    (case a_lsame => first | k_is | kernel_rfl); (case l_lsame => first | k_is | kernel_rfl); (case c_0lsame => first | k_is | kernel_rfl); (case k_lsame => first | k_is | kernel_rfl); (case a_law_ => first | k_is | kernel_rfl); (case l_law_ => first | k_is | kernel_rfl)
    (case c_0law_ => first | k_is | kernel_rfl); (case k_law_ => first | k_is | kernel_rfl); (case ac_StepError => first | k_is | kernel_rfl); (case ac_BadRatio => first | k_is | kernel_rfl); (case ac_ZeroBottom => first | k_is | kernel_rfl); (case kc_BadRatio => first | k_is | kernel_rfl)
    (case sc_BadRatio => first | k_is | kernel_rfl); (case tc_BadRatio => first | k_is | kernel_rfl); (case xc_BadRatio => first | k_is | kernel_rfl); (case g1_BadRatio => first | k_is | kernel_rfl); (case g2_BadRatio => first | k_is | kernel_rfl); (case g4_BadRatio => first | k_is | kernel_rfl)
    (case g8_BadRatio => first | k_is | kernel_rfl); (case g5_BadRatio => first | k_is | kernel_rfl); (case ki_BadRatio_BadRatio => first | k_is | kernel_rfl); (case ex_BadRatio_BadRatio => first | k_is | kernel_rfl); (case ki_BadRatio_ZeroBottom => first | k_is | kernel_rfl); (case ex_BadRatio_ZeroBottom => first | k_is | kernel_rfl)
    (case ki_BadRatio_StepError => first | k_is | kernel_rfl); (case ex_BadRatio_StepError => first | k_is | kernel_rfl); (case ki_BadRatio_ValueError => first | k_is | kernel_rfl); (case ex_BadRatio_ValueError => first | k_is | kernel_rfl); (case kc_ZeroBottom => first | k_is | kernel_rfl); (case sc_ZeroBottom => first | k_is | kernel_rfl)
    (case tc_ZeroBottom => first | k_is | kernel_rfl); (case xc_ZeroBottom => first | k_is | kernel_rfl); (case g1_ZeroBottom => first | k_is | kernel_rfl); (case g2_ZeroBottom => first | k_is | kernel_rfl); (case g4_ZeroBottom => first | k_is | kernel_rfl); (case g8_ZeroBottom => first | k_is | kernel_rfl)
    (case g5_ZeroBottom => first | k_is | kernel_rfl); (case ki_ZeroBottom_BadRatio => first | k_is | kernel_rfl); (case ex_ZeroBottom_BadRatio => first | k_is | kernel_rfl); (case ki_ZeroBottom_ZeroBottom => first | k_is | kernel_rfl); (case ex_ZeroBottom_ZeroBottom => first | k_is | kernel_rfl); (case ki_ZeroBottom_StepError => first | k_is | kernel_rfl)
    (case ex_ZeroBottom_StepError => first | k_is | kernel_rfl); (case ki_ZeroBottom_ValueError => first | k_is | kernel_rfl); (case ex_ZeroBottom_ValueError => first | k_is | kernel_rfl); (case gs_n => first | k_is | kernel_rfl); (case gs_t => first | k_is | kernel_rfl); (case z_isinstance => first | k_is | kernel_rfl)
    (case z_int => first | k_is | kernel_rfl); (case z_bool => first | k_is | kernel_rfl); (case z_tuple => first | k_is | kernel_rfl); (case z_len => first | k_is | kernel_rfl); (case z_abs => first | k_is | kernel_rfl); (case z_list => first | k_is | kernel_rfl)
    (case z_range => first | k_is | kernel_rfl); (case z_ValueError => first | k_is | kernel_rfl); (case z_gcd => first | k_is | kernel_rfl)
